import PyProof.Rows.All
import Wide.All
import OpenK.AllK
import Wide.FinOn
import KE.KStateDown
import HandS.ForMost
import HandS.ForExc
import HandS.IsInst
import HandS.TupAny
import HandS.TupMul
import HandS.Wide
import HandS.Flow
import HandS.Strs
import HandS.StrMore
import HandS.Style
import HandS.Codes
import HandS.Replace
import HandS.Dict
import HandS.Flt
import HandS.More
import HandS.Zip
import HandS.RevRange
import HandS.ExcField
import HandS.ExcIs
import HandS.ExcInit
import HandS.TryMany
import HandS.Head0
import HandS.Head1
import HandS.Head2
import HandS.HeadEnd
import HandS.HeadHook1
import HandS.HeadHook2
import HandS.Defaults
import HandS.WordsExc
import HandS.HeadHook3
import HandS.HeadHook4
import PySem.Challenge.RW_keptsigns_k73_marks_read_back
set_option Elab.async false
set_option linter.all false
set_option maxRecDepth 100000
/-! A small evaluator over data and a store. -/
namespace Mini
open PySem (Operator CmpOp PyData)
open L2 (ixN atI)

abbrev S := List Nat

inductive D where
  | non | bl (b : Bool) | int (i : Int) | str (s : S) | tup (xs : List D) | rol (xs : List D) | obj (i : Nat) | ty (n : String) | glo (g : Nat)
  /-- a written dict with text keys; an exception that is handled -/
  | cdt (kvs : List (S × D)) | exn (c : Nat) (fs : List D)
  deriving Inhabited

abbrev DKey := Sum Int S

inductive O where
  | lst (xs : List D)
  | dct (kvs : List (DKey × D))
  | ins (c : Nat) (fs : List (Nat × D))
  deriving Inhabited

abbrev Sto := List O
inductive Rs (α : Type) where
  | ok (a : α) | exc (c : Nat) (fs : List D)
abbrev Mx (α : Type) := Option (Rs α × Sto)

def bd {α β : Type} (m : Mx α) (f : α → Sto → Mx β) : Mx β :=
  match m with
  | none => none
  | some (.exc c fs, st) => some (.exc c fs, st)
  | some (.ok a, st) => f a st
@[simp] theorem bd_ok {α β : Type} (a : α) (st : Sto) (f : α → Sto → Mx β) : bd (some (.ok a, st)) f = f a st := rfl
@[simp] theorem bd_none {α β : Type} (f : α → Sto → Mx β) : bd (none : Mx α) f = none := rfl
@[simp] theorem bd_exc {α β : Type} (c : Nat) (fs : List D) (st : Sto) (f : α → Sto → Mx β) : bd (some (.exc c fs, st) : Mx α) f = some (.exc c fs, st) := rfl
/-- a value that there may not be -/
def opt {α : Type} (a : Option α) (st : Sto) : Mx α := match a with
  | some a => some (.ok a, st)
  | none => none
@[simp] theorem opt_some {α : Type} (a : α) (st : Sto) : opt (some a) st = some (.ok a, st) := rfl
@[simp] theorem opt_none {α : Type} (st : Sto) : opt (none : Option α) st = none := rfl

abbrev LN : Nat := 16777216
def FU : Nat := 16777216

/-- the kinds of things walked -/
inductive Sk where
  | seq | range | enum | zip | rrange
  deriving DecidableEq
inductive Tg where
  | nm (i : Nat)
  | tp (ts : List Tg)
/-- built-in functions -/
inductive Bt where
  | len | int | abs | max | min | tuple | list | all | any | sum
  deriving DecidableEq
/-- methods of built-in types -/
inductive Mt where
  | append | extend | pop | join | find | split | lstrip | endswith | index | get | strip
  deriving DecidableEq

inductive CE where
  | var (i : Nat)
  | int (i : Int) | bl (b : Bool) | non | str (s : S)
  | glo (g : Nat)
  | bin (op : Operator) (a b : CE)
  | cmp (op : CmpOp) (a b : CE)
  | cmp2 (op op' : CmpOp) (a b c : CE)
  | not (a : CE) | neg (a : CE)
  | and (a : CE) (es : List CE) | or (a : CE) (es : List CE)
  | ite (c a b : CE)
  | tup (es : List CE) | lst (es : List CE)
  | sub (a b : CE)
  | slc (a : CE) (lo hi : List CE)
  | slc3 (a : CE) (lo hi : List CE) (k : CE)
  | call (g : Nat) (es : List CE)
  | blt (b : Bt) (es : List CE)
  | isi (e : CE) (ts : List String)
  | mth (m : Mt) (o : CE) (es : List CE)
  | comp (own : List Nat) (k : Sk) (srcs : List CE) (tg : Tg) (tst : List CE) (elt : CE)
  | fld (o : CE) (f : Nat)
  | mcl (o : CE) (m : Nat) (es : List CE)
  | cav (i : Nat) (es : List CE)
  | xis (i c : Nat)
  | xfl (i f : Nat)
  /-- a displayed dict; the place of a text in a tuple of the module -/
  | dct (kvs : List CE)
  | tix (g : Nat) (e : CE)

inductive CS where
  | expr (e : CE)
  | set (i : Nat) (e : CE)
  | tgt (t : Tg) (e : CE)
  | par (i j : Nat) (a b : CE)
  | stsub (o i e : CE)
  | aug (i : Nat) (op : Operator) (e : CE)
  | ret (e : CE)
  | retN
  | ife (c : CE) (a b : List CS)
  | whl (c : CE) (b : List CS)
  | forr (k : Sk) (srcs : List CE) (tg : Tg) (b : List CS)
  | pass | brk | cont
  | raise (c : Nat) (es : List CE)
  | fset (o : CE) (f : Nat) (e : CE)
  | fau (o : CE) (f : Nat) (op : Operator) (e : CE)
  /-- o[i] op= e, o a list -/
  | sau (o i : CE) (op : Operator) (e : CE)
  /-- handlers are written as hdl -/
  | tri (b hs : List CS)
  | hdl (c : Nat) (slot : Option Nat) (b : List CS)
  /-- the whole body of a class's making: a new instance of the class c, then its __init__, the def g -/
  | newi (c g : Nat)

abbrev Env := List (Option D)
inductive Fl where
  | nx (env : Env) | rt (d : D) | bk (env : Env) | ct (env : Env) | exc (env : Env) (c : Nat) (fs : List D)
abbrev Sx := Option (Fl × Sto)
def bs (m : Sx) (f : Env → Sto → Sx) : Sx :=
  match m with
  | some (.nx env, st) => f env st
  | m => m
@[simp] theorem bs_nx (env : Env) (st : Sto) (f : Env → Sto → Sx) : bs (some (.nx env, st)) f = f env st := rfl
@[simp] theorem bs_rt (d : D) (st : Sto) (f : Env → Sto → Sx) : bs (some (.rt d, st)) f = some (.rt d, st) := rfl
@[simp] theorem bs_bk (e : Env) (st : Sto) (f : Env → Sto → Sx) : bs (some (.bk e, st)) f = some (.bk e, st) := rfl
@[simp] theorem bs_ct (e : Env) (st : Sto) (f : Env → Sto → Sx) : bs (some (.ct e, st)) f = some (.ct e, st) := rfl
@[simp] theorem bs_exc (e : Env) (c : Nat) (fs : List D) (st : Sto) (f : Env → Sto → Sx) : bs (some (.exc e c fs, st)) f = some (.exc e c fs, st) := rfl
@[simp] theorem bs_none (f : Env → Sto → Sx) : bs none f = none := rfl
/-- an expression's value into a statement -/
def be {α : Type} (env : Env) (m : Mx α) (f : α → Sto → Sx) : Sx :=
  match m with
  | none => none
  | some (.exc c fs, st) => some (.exc env c fs, st)
  | some (.ok a, st) => f a st
@[simp] theorem be_ok {α : Type} (env : Env) (a : α) (st : Sto) (f : α → Sto → Sx) : be env (some (.ok a, st)) f = f a st := rfl
@[simp] theorem be_none {α : Type} (env : Env) (f : α → Sto → Sx) : be env (none : Mx α) f = none := rfl
@[simp] theorem be_exc {α : Type} (env : Env) (c : Nat) (fs : List D) (st : Sto) (f : α → Sto → Sx) : be env (some (.exc c fs, st) : Mx α) f = some (.exc env c fs, st) := rfl

/-- a def of the program -/
structure Fn where
  ps : Nat
  slots : Nat
  body : List CS
/-- a class of the program: the numbers of its methods by their names -/
structure Cl where
  ms : List (Nat × Nat)
structure Pg where
  /-- the module's names that hold data, defs, classes -/
  gl : Nat → Option D
  fn : Nat → Option Fn
  cl : Nat → Option Cl := fun _ => none
  /-- one class of errors under another one -/
  sub : Nat → Nat → Option Bool := fun _ _ => none
  /-- classes that stand in clauses -/
  hcl : Nat → Bool := fun _ => false
  /-- the fields of a class of errors, in the order in which they are handed in -/
  xf : Nat → Option (List Nat) := fun _ => none

/-! ### operations on data -/
/-- a list's items -/
def litems (st : Sto) (i : Nat) : Option (List D) := match st[i]? with
  | some (.lst xs) => some xs
  | _ => none
/-- list or tuple items -/
def items (st : Sto) : D → Option (List D)
  | .tup xs => some xs
  | .rol xs => some xs
  | .obj i => litems st i
  | _ => none
def truD (st : Sto) : D → Option Bool
  | .non => some false
  | .bl b => some b
  | .int i => some (i != 0)
  | .str s => some (!s.isEmpty)
  | .tup xs => some (!xs.isEmpty)
  | .rol xs => some (!xs.isEmpty)
  | .obj i => (litems st i).map (!·.isEmpty)
  | _ => none
def reps {α : Type} (xs : List α) (n : Nat) : List α := (List.replicate n xs).flatten
def newL (xs : List D) (st : Sto) : Mx D := some (.ok (.obj st.length), st ++ [.lst xs])
def okRep (n : Nat) (k : Int) : Bool := decide (n * k.toNat ≤ LN) && decide (k < 9223372036854775808) && decide (-9223372036854775808 ≤ k)
def binD (op : Operator) (x y : D) (st : Sto) : Mx D :=
  match op, x, y with
  | .Add, .int i, .int j => some (.ok (.int (i + j)), st)
  | .Sub, .int i, .int j => some (.ok (.int (i - j)), st)
  | .Mult, .int i, .int j => if i.natAbs < 18446744073709551616 ∨ j.natAbs < 18446744073709551616 then some (.ok (.int (i * j)), st) else none
  | .FloorDiv, .int i, .int j => if 0 < j ∧ j < 1073741824 then some (.ok (.int (i / j)), st) else none
  | .Mod, .int i, .int j => if 0 < j then some (.ok (.int (i % j)), st) else none
  | .Pow, .int i, .int j => if 0 ≤ j ∧ j ≤ 1000000 ∧ i.natAbs < 18446744073709551616 then some (.ok (.int (i ^ j.toNat)), st) else none
  | .Add, .str a, .str b => if a.length + b.length ≤ LN then some (.ok (.str (a ++ b)), st) else none
  | .Add, .tup a, .tup b => if a.length + b.length ≤ LN then some (.ok (.tup (a ++ b)), st) else none
  | .Add, .obj i, .obj j => match st[i]?, st[j]? with
    | some (.lst a), some (.lst b) => if a.length + b.length ≤ LN then newL (a ++ b) st else none
    | _, _ => none
  | .Mult, .str a, .int n => if okRep a.length n then some (.ok (.str (reps a n.toNat)), st) else none
  | .Mult, .tup a, .int n => if 0 < a.length ∧ a.length ≤ 1000 ∧ 2 ≤ n ∧ n ≤ 1000 then some (.ok (.tup (reps a n.toNat)), st) else none
  | .Mult, .obj i, .int n => match st[i]? with
    | some (.lst a) => if okRep a.length n then newL (reps a n.toNat) st else none
    | _ => none
  | _, _, _ => none
/-- x op= y, of what isn't changed in its place -/
def augD (op : Operator) (x y : D) (st : Sto) : Mx D := match op, x, y with
  | .Add, .int i, .int j => some (.ok (.int (i + j)), st)
  | .Sub, .int i, .int j => some (.ok (.int (i - j)), st)
  | .Add, .str a, .str b => if a.length + b.length ≤ LN then some (.ok (.str (a ++ b)), st) else none
  | .Add, .tup a, .tup b => if a.length + b.length ≤ LN then some (.ok (.tup (a ++ b)), st) else none
  | _, _, _ => none
def mapO {α β : Type} (f : α → Option β) : List α → Option (List β)
  | [] => some []
  | x :: xs => match f x, mapO f xs with
    | some y, some ys => some (y :: ys)
    | _, _ => none
/-- data for == -/
def toPy (st : Sto) : Nat → D → Option PyData
  | 0, _ => none
  | n + 1, d => match d with
    | .non => some .none
    | .bl b => some (.bool b)
    | .int i => some (.int i)
    | .str s => some (.str ⟨s.toArray⟩)
    | .tup xs => (mapO (toPy st n) xs).map .tuple
    | .rol xs => (mapO (toPy st n) xs).map .list
    | .obj i => match litems st i with
      | some xs => (mapO (toPy st n) xs).map .list
      | none => none
    | _ => none
def eqD (st : Sto) (x y : D) : Option Bool := match toPy st 60 x, toPy st 60 y with
  | some a, some b => some (PyData.eqv a b)
  | _, _ => none
def flatD : D → Bool
  | .non => true
  | .bl _ => true
  | .int _ => true
  | .str _ => true
  | _ => false
/-- == of flat data -/
def eqF : D → D → Bool
  | .non, .non => true
  | .bl a, .bl b => a == b
  | .bl a, .int b => (if a then 1 else 0) == b
  | .int a, .bl b => a == (if b then 1 else 0)
  | .int a, .int b => a == b
  | .str a, .str b => a == b
  | _, _ => false
def inD (st : Sto) (x y : D) : Option Bool := match x, y with
  | .str [c], .str s => some (decide (c ∈ s))
  | x, y => match items st y with
    | some xs => if flatD x && xs.all flatD then some (xs.any fun y => eqF y x) else none
    | none => none
def cmpD (op : CmpOp) (st : Sto) (x y : D) : Option Bool := match op with
  | .Eq => eqD st x y
  | .NotEq => (eqD st x y).map not
  | .Lt => match x, y with
    | .int i, .int j => some (decide (i < j))
    | _, _ => none
  | .LtE => match x, y with
    | .int i, .int j => some (decide (i ≤ j))
    | _, _ => none
  | .Gt => match x, y with
    | .int i, .int j => some (decide (j < i))
    | _, _ => none
  | .GtE => match x, y with
    | .int i, .int j => some (decide (j ≤ i))
    | _, _ => none
  | .Is => match y with
    | .non => match x with
      | .non => some true
      | .exn _ _ => none
      | _ => some false
    | .bl b => match x with
      | .bl a => some (decide (a = b))
      | _ => none
    | _ => none
  | .IsNot => match y with
    | .non => match x with
      | .non => some false
      | .exn _ _ => none
      | _ => some true
    | .bl b => match x with
      | .bl a => some (!decide (a = b))
      | _ => none
    | _ => none
  | .In => inD st x y
  | .NotIn => (inD st x y).map not
/-- what a dict has at a key -/
def lookD (k : DKey) : List (DKey × D) → Option D
  | [] => none
  | (j, d) :: r => if j = k then some d else lookD k r
def dctD (st : Sto) (x : D) (k : DKey) : Option D := match x with
  | .obj i => match st[i]? with
    | some (.dct kvs) => lookD k kvs
    | _ => none
  | _ => none
def subD (st : Sto) (x y : D) : Option D := match x, y with
  | .str s, .int i => (atI s i).map fun c => .str [c]
  | x, .int i => match items st x with
    | some xs => atI xs i
    | none => dctD st x (.inl i)
  | x, .str s => dctD st x (.inr s)
  | _, _ => none
def keyD : D → Option DKey
  | .int i => some (.inl i)
  | .str s => some (.inr s)
  | _ => none
/-- in its place, or at the end -/
def putD (k : DKey) (v : D) : List (DKey × D) → List (DKey × D)
  | [] => [(k, v)]
  | (j, d) :: r => if j = k then (j, v) :: r else (j, d) :: putD k v r
def mergeD (kvs more : List (DKey × D)) : List (DKey × D) := more.foldl (fun acc kv => putD kv.1 kv.2 acc) kvs
/-- keys and values by turns -/
def pairsD : List D → Option (List (DKey × D))
  | [] => some []
  | x :: y :: r => match keyD x, pairsD r with
    | some j, some kvs => some ((j, y) :: kvs)
    | _, _ => none
  | _ => none
def newD (kvs : List (DKey × D)) (st : Sto) : Mx D := some (.ok (.obj st.length), st ++ [.dct kvs])
/-- where a text stands in a row of texts -/
def idxS (s : S) : List S → Option Nat
  | [] => none
  | t :: r => if t = s then some 0 else (idxS s r).map (· + 1)
def cut {α : Type} (xs : List α) (lo hi : Option Int) : List α := (xs.drop (HT.sIx xs.length 0 lo)).take (HT.sIx xs.length xs.length hi - HT.sIx xs.length 0 lo)
def slcD (x : D) (lo hi : Option Int) (st : Sto) : Mx D := match x with
  | .str s => some (.ok (.str (cut s lo hi)), st)
  | .tup xs => some (.ok (.tup (cut xs lo hi)), st)
  | .rol xs => newL (cut xs lo hi) st
  | .obj i => match litems st i with
    | some xs => newL (cut xs lo hi) st
    | none => none
  | _ => none
/-- the places that a slice with a step takes: of a list, of a tuple -/
def stepL (n : Nat) (lo hi : Option Int) (k : Int) : List Nat := PySem.sliceRange (PySem.sliceBounds lo hi (some k) n).1 (PySem.sliceBounds lo hi (some k) n).2.1 (PySem.sliceBounds lo hi (some k) n).2.2
def stepT (n : Nat) (lo hi : Option Int) (k : Int) : List Nat :=
  (List.range (PySem.Builtin.Slice.slicePlaces (PySem.Builtin.Slice.sliceAdjust lo hi k n).1 (PySem.Builtin.Slice.sliceAdjust lo hi k n).2 k)).map fun m => ((PySem.Builtin.Slice.sliceAdjust lo hi k n).1 + (m : Nat) * k).toNat
def takeIx {α : Type} (xs : List α) (is : List Nat) : List α := is.filterMap fun i => xs[i]?
def slc3D (x : D) (lo hi : Option Int) (k : Int) (st : Sto) : Mx D := if k = 0 then none else match x with
  | .tup xs => if k = 1 ∨ LN < (stepT xs.length lo hi k).length then none else some (.ok (.tup (takeIx xs (stepT xs.length lo hi k))), st)
  | .rol xs => newL (takeIx xs (stepL xs.length lo hi k)) st
  | .obj i => match litems st i with
    | some xs => newL (takeIx xs (stepL xs.length lo hi k)) st
    | none => none
  | _ => none
def typD (st : Sto) : D → Option String
  | .non => some "NoneType"
  | .bl _ => some "bool"
  | .int _ => some "int"
  | .str _ => some "str"
  | .tup _ => some "tuple"
  | .rol _ => some "list"
  | .obj i => match st[i]? with
    | some (.lst _) => some "list"
    | some (.dct _) => some "dict"
    | _ => none
  | _ => none
def isiT (t : String) (c : String) : Option Bool := L2.kitB t c
def isiD (t : String) : List String → Option Bool
  | [] => some false
  | c :: cs => match isiT t c with
    | some true => some true
    | some false => isiD t cs
    | none => none
def enumL : Nat → List D → List D
  | _, [] => []
  | n, x :: xs => .tup [.int n, x] :: enumL (n + 1) xs
def zipL : List D → List D → List D
  | x :: xs, y :: ys => .tup [x, y] :: zipL xs ys
  | _, _ => []
def rngL (a : Int) (n : Nat) : List D := (List.range n).map fun i => .int (a + (i : Nat))
def seqD (st : Sto) : List D → Option (List D)
  | [.str s] => some (s.map fun c => .str [c])
  | [d] => items st d
  | _ => none
def rngD : List D → Option (Int × Nat)
  | [.int n] => if -4611686018427387904 ≤ n ∧ n < 4611686018427387904 then some (0, n.toNat) else none
  | [.int a, .int b] => if -4611686018427387904 ≤ a ∧ a < 4611686018427387904 ∧ -4611686018427387904 ≤ b ∧ b < 4611686018427387904 then some (a, (b - a).toNat) else none
  | _ => none
def enumD (st : Sto) : List D → Option (List D)
  | [.obj i] => (litems st i).map (enumL 0)
  | _ => none
def zipD (st : Sto) : List D → Option (List D)
  | [.obj i, .obj j] => match litems st i, litems st j with
    | some xs, some ys => some (zipL xs ys)
    | _, _ => none
  | [.tup xs, .tup ys] => some (zipL xs ys)
  | _ => none
/-- what is walked -/
def walked (k : Sk) (ds : List D) (st : Sto) : Option (List D) := match k with
  | .seq => seqD st ds
  | .range => (rngD ds).map fun p => rngL p.1 p.2
  | .enum => enumD st ds
  | .zip => zipD st ds
  | .rrange => (rngD ds).map fun p => (rngL p.1 p.2).reverse
mutual
def asgT : Tg → D → Env → Option Env
  | .nm i, d, env => some (env.set i (some d))
  | .tp ts, .tup xs, env => asgTs ts xs env
  | .tp _, _, _ => none
def asgTs : List Tg → List D → Env → Option Env
  | [], [], env => some env
  | t :: ts, x :: xs, env => match asgT t x env with
    | some env => asgTs ts xs env
    | none => none
  | _, _, _ => none
end
def wipeE (env : Env) : List Nat → Env
  | [] => env
  | i :: is => (wipeE env is).set i none
def strsD : List D → Option (List S)
  | [] => some []
  | .str s :: xs => match strsD xs with
    | some ss => some (s :: ss)
    | none => none
  | _ => none
def joinS (sep : S) : List S → S
  | [] => []
  | [s] => s
  | s :: r => s ++ sep ++ joinS sep r
def sumLen (sep : Nat) : List S → Nat
  | [] => 0
  | s :: r => s.length + sep + sumLen sep r
/-- where the sign stands, from a place on -/
def findS (c : Nat) : List Nat → Nat → Int
  | [], _ => -1
  | x :: r, i => if x = c then (i : Int) else findS c r (i + 1)
def splitS (c : Nat) : S → S → List S
  | acc, [] => [acc]
  | acc, x :: r => if x = c then acc :: splitS c [] r else splitS c (acc ++ [x]) r
/-- without the signs of cs ahead and behind -/
def stripS (cs s : S) : S := (s.drop (s.takeWhile fun x => cs.contains x).length).take (s.length - ((s.drop (s.takeWhile fun x => cs.contains x).length).reverse.takeWhile fun x => cs.contains x).length - (s.takeWhile fun x => cs.contains x).length)
def boolsD : List D → Option (List Bool)
  | [] => some []
  | .bl b :: xs => match boolsD xs with
    | some bs => some (b :: bs)
    | none => none
  | _ => none
def intsD : List D → Option (List Int)
  | [] => some []
  | .int b :: xs => match intsD xs with
    | some bs => some (b :: bs)
    | none => none
  | _ => none
def bltD (b : Bt) (ds : List D) (st : Sto) : Mx D := match b, ds with
  | .len, [.str s] => some (.ok (.int s.length), st)
  | .len, [d] => match items st d with
    | some xs => some (.ok (.int xs.length), st)
    | none => none
  | .int, [.int i] => some (.ok (.int i), st)
  | .int, [.bl k] => some (.ok (.int (if k then 1 else 0)), st)
  | .abs, [.int i] => some (.ok (.int (if i < 0 then -i else i)), st)
  | .max, [.int i, .int j] => some (.ok (.int (if j > i then j else i)), st)
  | .max, [.int i, .int j, .int k] => some (.ok (.int (max (max i j) k)), st)
  | .min, [.int i, .int j] => some (.ok (.int (if j < i then j else i)), st)
  | .tuple, [d] => match items st d with
    | some xs => some (.ok (.tup xs), st)
    | none => none
  | .list, [d] => match items st d with
    | some xs => newL xs st
    | none => none
  | .all, [.obj i] => match (litems st i).bind boolsD with
    | some bs => some (.ok (.bl (bs.all id)), st)
    | none => none
  | .any, [.obj i] => match (litems st i).bind boolsD with
    | some bs => some (.ok (.bl (bs.any id)), st)
    | none => none
  | .sum, [.obj i] => match (litems st i).bind intsD with
    | some bs => some (.ok (.int bs.sum), st)
    | none => none
  | _, _ => none
def mthD (m : Mt) (o : D) (ds : List D) (st : Sto) : Mx D := match m, o, ds with
  | .append, .obj i, [d] => match st[i]? with
    | some (.lst xs) => if xs.length < LN then some (.ok .non, st.set i (.lst (xs ++ [d]))) else none
    | _ => none
  | .extend, .obj i, [.obj j] => match st[i]?, litems st j with
    | some (.lst xs), some ys => if xs.length + ys.length ≤ LN then some (.ok .non, st.set i (.lst (xs ++ ys))) else none
    | _, _ => none
  | .pop, .obj i, [] => match st[i]? with
    | some (.lst xs) => match xs.getLast? with
      | some x => some (.ok x, st.set i (.lst xs.dropLast))
      | none => none
    | _ => none
  | .join, .str sep, [d] => match (items st d).bind strsD with
    | some ss => if sumLen sep.length ss ≤ LN then some (.ok (.str (joinS sep ss)), st) else none
    | none => none
  | .find, .str s, [.str [c]] => some (.ok (.int (findS c s 0)), st)
  | .find, .str s, [.str [c], .int i] => if 0 ≤ i ∧ i ≤ s.length then some (.ok (.int (findS c (s.drop i.toNat) i.toNat)), st) else none
  | .split, .str s, [.str [c]] => if s.length + 2 ≤ LN ∧ c < 256 then newL ((splitS c [] s).map .str) st else none
  | .lstrip, .str s, [.str cs] => some (.ok (.str (s.dropWhile fun x => cs.contains x)), st)
  | .endswith, .str s, [.str t] => some (.ok (.bl (t.isSuffixOf s)), st)
  | .index, .str s, [.str [c]] => if findS c s 0 < 0 then none else some (.ok (.int (findS c s 0)), st)
  | .get, .cdt kvs, [.str k] => some (.ok ((kvs.lookup k).getD .non), st)
  | .get, .cdt kvs, [.str k, d] => some (.ok ((kvs.lookup k).getD d), st)
  | .strip, .str s, [.str cs] => some (.ok (.str (stripS cs s)), st)
  | _, _, _ => none
/-- what is asked of the receiver ahead of the arguments -/
def preM (st : Sto) : Mt → D → Bool
  | .append, .obj i => (litems st i).isSome
  | .extend, .obj i => (litems st i).isSome
  | .pop, .obj i => (litems st i).isSome
  | .append, _ => false
  | .extend, _ => false
  | .pop, _ => false
  | .get, .cdt _ => true
  | .get, _ => false
  | _, .str _ => true
  | _, _ => false
def stsubD (o i v : D) (st : Sto) : Option Sto := match o, i with
  | .obj j, .int n => match st[j]? with
    | some (.lst xs) => match ixN xs.length n with
      | some k => some (st.set j (.lst (xs.set k v)))
      | none => none
    | _ => none
  | _, _ => none
def getL (st : Sto) (o i : D) : Option D := match o, i with
  | .obj j, .int n => (litems st j).bind fun xs => atI xs n
  | _, _ => none
/-- an instance's fields -/
def putN (f : Nat) (v : D) : List (Nat × D) → List (Nat × D)
  | [] => [(f, v)]
  | (g, x) :: r => if g = f then (g, v) :: r else (g, x) :: putN f v r
def insD (st : Sto) : D → Option (Nat × Nat × List (Nat × D))
  | .obj i => match st[i]? with
    | some (.ins c fs) => some (i, c, fs)
    | _ => none
  | _ => none
/-- an instance's class -/
def clsD (st : Sto) (x : D) : Option Nat := (insD st x).map fun q => q.2.1
/-- a class that has no method of that name -/
def noMth (P : Pg) (c f : Nat) : Bool := match P.cl c with
  | some k => (k.ms.lookup f).isNone
  | none => false
def fldD (P : Pg) (st : Sto) (o : D) (f : Nat) : Option D := match insD st o with
  | some (_, c, fs) => if noMth P c f = true then fs.lookup f else none
  | none => none
def fsetD (P : Pg) (o : D) (f : Nat) (v : D) (st : Sto) : Option Sto := match insD st o with
  | some (i, c, fs) => if noMth P c f = true ∧ fs.length < 900 then some (st.set i (.ins c (putN f v fs))) else none
  | none => none
def allD : Env → Option (List D)
  | [] => some []
  | some d :: r => match allD r with
    | some ds => some (d :: ds)
    | none => none
  | none :: _ => none
def noExn : Env → Bool
  | [] => true
  | some (.exn _ _) :: _ => false
  | _ :: r => noExn r
def optI : List D → Option (Option Int)
  | [] => some none
  | [.int i] => some (some i)
  | _ => none

/-! ### loops -/
/-- a comprehension's loop; None is told where an exception comes -/
def lcG (wk : Sto → Option (List D)) (asg : D → Option Env) (tst : Env → Sto → Mx Bool) (elt : Env → Sto → Mx D) : Nat → Nat → List D → Sto → Option (List D × Sto)
  | 0, _, _, _ => none
  | F + 1, i, acc, st => match wk st with
    | none => none
    | some its => match its[i]? with
      | none => some (acc, st)
      | some x => match asg x with
        | none => none
        | some env => match tst env st with
          | some (.ok false, st) => lcG wk asg tst elt F (i + 1) acc st
          | some (.ok true, st) => match elt env st with
            | some (.ok y, st) => if acc.length < LN then lcG wk asg tst elt F (i + 1) (acc ++ [y]) st else none
            | _ => none
          | _ => none
def whG (tst : Env → Sto → Mx Bool) (body : Env → Sto → Sx) : Nat → Env → Sto → Sx
  | 0, _, _ => none
  | F + 1, env, st => be env (tst env st) fun b st => if b = true then
      (match body env st with
      | some (.nx env, st) => whG tst body F env st
      | some (.ct env, st) => whG tst body F env st
      | some (.bk env, st) => some (.nx env, st)
      | r => r) else some (.nx env, st)
def forG (wk : Sto → Option (List D)) (asg : D → Env → Option Env) (body : Env → Sto → Sx) : Nat → Nat → Env → Sto → Sx
  | 0, _, _, _ => none
  | F + 1, i, env, st => match wk st with
    | none => none
    | some its => match its[i]? with
      | none => some (.nx env, st)
      | some x => match asg x env with
        | none => none
        | some env => match body env st with
          | some (.nx env, st) => forG wk asg body F (i + 1) env st
          | some (.ct env, st) => forG wk asg body F (i + 1) env st
          | some (.bk env, st) => some (.nx env, st)
          | r => r

/-! ### the evaluator -/
/-- a value that may go on: no handled exception -/
def nex (d : D) (st : Sto) : Mx D := match d with
  | .exn _ _ => none
  | d => some (.ok d, st)
@[simp] theorem nex_non (st : Sto) : nex .non st = some (.ok .non, st) := rfl
@[simp] theorem nex_bl (b : Bool) (st : Sto) : nex (.bl b) st = some (.ok (.bl b), st) := rfl
@[simp] theorem nex_int (b : Int) (st : Sto) : nex (.int b) st = some (.ok (.int b), st) := rfl
@[simp] theorem nex_str (b : S) (st : Sto) : nex (.str b) st = some (.ok (.str b), st) := rfl
@[simp] theorem nex_tup (b : List D) (st : Sto) : nex (.tup b) st = some (.ok (.tup b), st) := rfl
@[simp] theorem nex_rol (b : List D) (st : Sto) : nex (.rol b) st = some (.ok (.rol b), st) := rfl
@[simp] theorem nex_obj (b : Nat) (st : Sto) : nex (.obj b) st = some (.ok (.obj b), st) := rfl
@[simp] theorem nex_ty (b : String) (st : Sto) : nex (.ty b) st = some (.ok (.ty b), st) := rfl
@[simp] theorem nex_glo (b : Nat) (st : Sto) : nex (.glo b) st = some (.ok (.glo b), st) := rfl
@[simp] theorem nex_cdt (b : List (S × D)) (st : Sto) : nex (.cdt b) st = some (.ok (.cdt b), st) := rfl
def isX : D → Bool
  | .exn _ _ => true
  | _ => false
def exnAt (env : Env) (i : Nat) : Option (Nat × List D) := match env[i]? with
  | some (some (.exn c fs)) => some (c, fs)
  | _ => none
def bT (m : Mx D) : Mx Bool := bd m fun d st => opt (truD st d) st
def hdsB (P : Pg) : List CS → Bool
  | [] => true
  | .hdl c _ _ :: r => P.hcl c && hdsB P r
  | _ :: _ => false
/-- the end of a suite -/
def suiteN (m : Sx) : Sx := match m with
  | some (.exc _ _ _, _) => none
  | some (.nx env, st) => if noExn env = true then some (.nx env, st) else none
  | some (.bk env, st) => if noExn env = true then some (.bk env, st) else none
  | some (.ct env, st) => if noExn env = true then some (.ct env, st) else none
  | m => m
def suiteI (i : Nat) (m : Sx) : Sx := match m with
  | some (.exc _ _ _, _) => none
  | some (.nx env, st) => if noExn (env.set i none) = true then some (.nx (env.set i none), st) else none
  | some (.bk env, st) => if noExn (env.set i none) = true then some (.bk (env.set i none), st) else none
  | some (.ct env, st) => if noExn (env.set i none) = true then some (.ct (env.set i none), st) else none
  | m => m
section
variable (P : Pg) (call : Nat → List D → Sto → Mx D)
mutual
def evE : CE → Env → Sto → Mx D
  | .var i, env, st => match env[i]? with
    | some (some d) => nex d st
    | _ => none
  | .int i, _, st => some (.ok (.int i), st)
  | .bl b, _, st => some (.ok (.bl b), st)
  | .non, _, st => some (.ok .non, st)
  | .str s, _, st => some (.ok (.str s), st)
  | .glo g, _, st => opt (P.gl g) st
  | .bin op a b, env, st => bd (evE a env st) fun x st => bd (evE b env st) fun y st => binD op x y st
  | .cmp op a b, env, st => bd (evE a env st) fun x st => bd (evE b env st) fun y st => opt ((cmpD op st x y).map .bl) st
  | .cmp2 op op' a b c, env, st => bd (evE a env st) fun x st => bd (evE b env st) fun y st => match cmpD op st x y with
    | some true => bd (evE c env st) fun z st => opt ((cmpD op' st y z).map .bl) st
    | some false => some (.ok (.bl false), st)
    | none => none
  | .not a, env, st => bd (evE a env st) fun d st => opt ((truD st d).map fun b => .bl (!b)) st
  | .neg a, env, st => bd (evE a env st) fun d st => match d with
    | .int i => some (.ok (.int (-i)), st)
    | _ => none
  | .and a es, env, st => bd (evE a env st) fun d st => evAnd es d env st
  | .or a es, env, st => bd (evE a env st) fun d st => evOr es d env st
  | .ite c a b, env, st => bd (bT (evE c env st)) fun k st => if k = true then evE a env st else evE b env st
  | .tup es, env, st => bd (evL es env st) fun ds st => if ds.length ≤ LN then some (.ok (.tup ds), st) else none
  | .lst es, env, st => bd (evL es env st) fun ds st => if ds.length ≤ LN then newL ds st else none
  | .sub a b, env, st => bd (evE a env st) fun x st => bd (evE b env st) fun y st => opt (subD st x y) st
  | .slc a lo hi, env, st => bd (evE a env st) fun x st => bd (evL lo env st) fun l st => match optI l with
    | some l => bd (evL hi env st) fun h st => match optI h with
      | some h => slcD x l h st
      | none => none
    | none => none
  | .slc3 a lo hi k, env, st => bd (evE a env st) fun x st => bd (evL lo env st) fun l st => match optI l with
    | some l => bd (evL hi env st) fun h st => match optI h with
      | some h => bd (evE k env st) fun y st => match y with
        | .int k => slc3D x l h k st
        | _ => none
      | none => none
    | none => none
  | .call g es, env, st => match P.fn g with
    | none => none
    | some _ => bd (evL es env st) fun ds st => call g ds st
  | .blt b es, env, st => bd (evL es env st) fun ds st => bltD b ds st
  | .isi e ts, env, st => bd (evE e env st) fun d st => opt (((typD st d).bind fun t => isiD t ts).map .bl) st
  | .mth m o es, env, st => bd (evE o env st) fun x st => if preM st m x = true then bd (evL es env st) fun ds st => mthD m x ds st else none
  | .comp own k srcs tg tst elt, env, st => bd (evL srcs env st) fun ds st =>
      match lcG (walked k ds) (fun x => asgT tg x (wipeE env own)) (fun env st => evTs tst env st) (fun env st => evE elt env st) FU 0 [] st with
      | some (ys, st) => newL ys st
      | none => none
  | .fld o f, env, st => bd (evE o env st) fun x st => opt (fldD P st x f) st
  | .mcl o m es, env, st => bd (evE o env st) fun x st => match insD st x with
    | some (_, c, fs) => match P.cl c, fs.lookup m with
      | some k, none => match k.ms.lookup m with
        | some g => match P.fn g with
          | some _ => bd (evL es env st) fun ds st => call g (x :: ds) st
          | none => none
        | none => none
      | _, _ => none
    | none => none
  | .cav i es, env, st => match env[i]? with
    | some (some (.glo g)) => match P.fn g with
      | some _ => bd (evL es env st) fun ds st => call g ds st
      | none => none
    | _ => none
  | .xis i c, env, st => match exnAt env i with
    | some (c', _) => opt ((P.sub c' c).map .bl) st
    | none => none
  | .xfl i f, env, st => match exnAt env i with
    | some (c', fs) => match P.xf c' with
      | some ns => opt ((ns.zip fs).lookup f) st
      | none => none
    | none => none
  | .dct es, env, st => bd (evL es env st) fun ds st => match pairsD ds with
    | some kvs => newD (mergeD [] kvs) st
    | none => none
  | .tix g e, env, st => match P.gl g with
    | some (.tup xs) => match strsD xs with
      | some ss => bd (evE e env st) fun d st => match d with
        | .str s => opt ((idxS s ss).map fun k => .int (k : Nat)) st
        | _ => none
      | none => none
    | _ => none
def evL : List CE → Env → Sto → Mx (List D)
  | [], _, st => some (.ok [], st)
  | e :: es, env, st => bd (evE e env st) fun d st => bd (evL es env st) fun ds st => some (.ok (d :: ds), st)
def evTs : List CE → Env → Sto → Mx Bool
  | [], _, st => some (.ok true, st)
  | [e], env, st => bT (evE e env st)
  | _, _, _ => none
def evAnd : List CE → D → Env → Sto → Mx D
  | [], d, _, st => some (.ok d, st)
  | e :: es, d, env, st => match truD st d with
    | some true => bd (evE e env st) fun d st => evAnd es d env st
    | some false => some (.ok d, st)
    | none => none
def evOr : List CE → D → Env → Sto → Mx D
  | [], d, _, st => some (.ok d, st)
  | e :: es, d, env, st => match truD st d with
    | some false => bd (evE e env st) fun d st => evOr es d env st
    | some true => some (.ok d, st)
    | none => none
end
def evT (c : CE) (env : Env) (st : Sto) : Mx Bool := bT (evE P call c env st)
mutual
def evS : CS → Env → Sto → Sx
  | .expr e, env, st => be env (evE P call e env st) fun _ st => some (.nx env, st)
  | .set i e, env, st => be env (evE P call e env st) fun d st => some (.nx (env.set i (some d)), st)
  | .tgt t e, env, st => be env (evE P call e env st) fun d st => match asgT t d env with
    | some env => some (.nx env, st)
    | none => none
  | .par i j a b, env, st => be env (evE P call a env st) fun x st => be env (evE P call b env st) fun y st => some (.nx ((env.set i (some x)).set j (some y)), st)
  | .stsub o i e, env, st => be env (evE P call e env st) fun v st => be env (evE P call o env st) fun o st => be env (evE P call i env st) fun i st => match stsubD o i v st with
    | some st => some (.nx env, st)
    | none => none
  | .aug i op e, env, st => match env[i]? with
    | some (some x) => if isX x = true then none else be env (evE P call e env st) fun y st => be env (augD op x y st) fun z st => some (.nx (env.set i (some z)), st)
    | _ => none
  | .ret e, env, st => be env (evE P call e env st) fun d st => some (.rt d, st)
  | .retN, _, st => some (.rt .non, st)
  | .ife c a b, env, st => be env (evT P call c env st) fun k st => if k = true then evSs a env st else evSs b env st
  | .whl c b, env, st => whG (fun env st => evT P call c env st) (fun env st => evSs b env st) FU env st
  | .forr k srcs tg b, env, st => be env (evL P call srcs env st) fun ds st => forG (walked k ds) (fun x env => asgT tg x env) (fun env st => evSs b env st) FU 0 env st
  | .pass, env, st => some (.nx env, st)
  | .brk, env, st => some (.bk env, st)
  | .cont, env, st => some (.ct env, st)
  | .raise c es, env, st => match P.xf c with
    | some ns => if es.length = ns.length then be env (evL P call es env st) fun ds st => some (.exc env c ds, st) else none
    | none => none
  | .fset o f e, env, st => be env (evE P call e env st) fun v st => be env (evE P call o env st) fun x st => match fsetD P x f v st with
    | some st => some (.nx env, st)
    | none => none
  | .fau o f op e, env, st => be env (evE P call o env st) fun x st => match fldD P st x f with
    | some y => be env (evE P call e env st) fun z st1 => be env (augD op y z st1) fun v st2 => if clsD st2 x = clsD st x then (match fsetD P x f v st2 with
      | some st => some (.nx env, st)
      | none => none) else none
    | none => none
  | .sau o i op e, env, st => be env (evE P call o env st) fun o st => be env (evE P call i env st) fun i st => match getL st o i with
    | some x => be env (evE P call e env st) fun y st => be env (augD op x y st) fun z st => match stsubD o i z st with
      | some st => some (.nx env, st)
      | none => none
    | none => none
  | .tri b hs, env, st => if hdsB P hs = true then (match evSs b env st with
    | some (.exc env' c fs, st') => evHs hs c fs env' st'
    | r => r) else none
  | .hdl _ _ _, _, _ => none
  | .newi c g, env, st => match allD env, P.fn g with
    | some ds, some _ => be env (call g (.obj st.length :: ds) (st ++ [.ins c []])) fun r st' => match r with
      | .non => some (.rt (.obj st.length), st')
      | _ => none
    | _, _ => none
def evSs : List CS → Env → Sto → Sx
  | [], env, st => some (.nx env, st)
  | s :: ss, env, st => bs (evS s env st) fun env st => evSs ss env st
def evHs : List CS → Nat → List D → Env → Sto → Sx
  | [], c, fs, env, st => some (.exc env c fs, st)
  | h :: hs, c, fs, env, st => evH h (evHs hs) c fs env st
def evH : CS → (Nat → List D → Env → Sto → Sx) → Nat → List D → Env → Sto → Sx
  | .hdl c' sl b, more, c, fs, env, st => match P.sub c c' with
    | some true => (match sl with
      | none => suiteN (evSs b env st)
      | some i => suiteI i (evSs b (env.set i (some (.exn c fs))) st))
    | some false => more c fs env st
    | none => none
  | _, _, _, _, _, _ => none
end
end
def startE (n : Nat) (ds : List D) : Env := ds.map some ++ List.replicate (n - ds.length) none
def retOf : Sx → Mx D
  | some (.nx _, st) => some (.ok .non, st)
  | some (.rt d, st) => some (.ok d, st)
  | some (.exc _ c fs, st) => some (.exc c fs, st)
  | _ => none
def callN (P : Pg) : Nat → Nat → List D → Sto → Mx D
  | 0, _, _, _ => none
  | n + 1, g, ds, st => match P.fn g with
    | none => none
    | some f => if ds.length = f.ps then retOf (evSs P (callN P n) f.body (startE f.slots ds) st) else none
end Mini

set_option Elab.async false
set_option linter.all false
set_option maxRecDepth 100000
set_option maxHeartbeats 4000000
namespace Mini
open PySem PySem.Spec PyProof.Rows L2

theorem LN_eq : sizeLine = LN := sizeLine_eq

/-- a list that nobody writes -/
def Fz (K : PySem.W.Frag) (H : Hp) (a : Addr) (xs : List V) : Prop := (∃ o, H a = some (.frz o (.lst xs))) ∨
    ∃ (o : Obj) (its : Array Value) (n : Nat), K.lookup a = some o ∧ o.cls = .type "list" ∧ o.dict = none ∧ o.data = .seq its n ∧ its.size ≤ sizeLine ∧ Vals xs its.toList
theorem Fz.sq {K : PySem.W.Frag} {H : Hp} {a : Addr} {xs : List V} (h : Fz K H a xs) : SqL K H a xs := by
  rcases h with ⟨o, h⟩ | h
  · exact .inl (.inr ⟨o, h⟩)
  · exact .inr h
section
variable (K : PySem.W.Frag) (G : Nat → V → Prop)
mutual
def Rep (μ : List Addr) (H : Hp) : D → V → Prop
  | .non, v => v = .non
  | .bl b, v => v = .bl b
  | .int i, v => v = .int i
  | .str s, v => v = .str ⟨s.toArray⟩ ∧ s.length ≤ sizeLine ∧ ∀ c ∈ s, c < 1114112
  | .tup xs, v => ∃ a vs, v = .ref a ∧ SqT K H a vs ∧ RepL μ H xs vs
  | .rol xs, v => ∃ a vs, v = .ref a ∧ Fz K H a vs ∧ RepL μ H xs vs
  | .obj i, v => ∃ a, v = .ref a ∧ μ[i]? = some a
  | .ty n, v => v = .ty n
  | .glo g, v => (∃ a, v = .ref a) ∧ G g v
  | .cdt kvs, v => ∃ d, v = .ref d ∧ G 0 v ∧ RepC μ H d kvs ∧ ∀ k : S, k ∉ kvs.map (·.1) → PySem.W.nsIn K d ⟨k.toArray⟩ = some none
  | .exn _ _, _ => False
def RepC (μ : List Addr) (H : Hp) (d : Addr) : List (S × D) → Prop
  | [] => True
  | (k, x) :: xs => (∃ w u, PySem.W.nsIn K d ⟨k.toArray⟩ = some (some u) ∧ RelV w u ∧ Rep μ H x w) ∧ RepC μ H d xs
def RepL (μ : List Addr) (H : Hp) : List D → List V → Prop
  | [], vs => vs = []
  | x :: xs, vs => ∃ v r, vs = v :: r ∧ Rep μ H x v ∧ RepL μ H xs r
end
def kOf : DKey → Key
  | .inl i => .inl i
  | .inr s => .inr ⟨s.toArray⟩
def RepKV (μ : List Addr) (H : Hp) : List (DKey × D) → List (Key × V) → Prop
  | [], vs => vs = []
  | (k, x) :: xs, vs => ∃ v r, vs = (kOf k, v) :: r ∧ Rep K G μ H x v ∧ RepKV μ H xs r
/-- an instance's fields; a number's name is told by G -/
def RepF (μ : List Addr) (H : Hp) : List (Nat × D) → List (Str × V) → Prop
  | [], vs => vs = []
  | (f, x) :: xs, vs => ∃ n v r, vs = (n, v) :: r ∧ G f (.str n) ∧ Rep K G μ H x v ∧ RepF μ H xs r
def RepO (μ : List Addr) (H : Hp) (a : Addr) : O → Prop
  | .lst xs => ∃ vs, H a = some (.lst vs) ∧ RepL K G μ H xs vs
  | .dct kvs => ∃ vs, H a = some (.dK vs) ∧ RepKV K G μ H kvs vs
  | .ins c fs => ∃ C dx vs, H a = some (.ins C dx vs) ∧ H dx = some (.own a) ∧ dx ∉ μ ∧ G c (.ref C) ∧ RepF K G μ H fs vs
structure SRep (μ : List Addr) (st : Sto) (H : Hp) : Prop where
  len : μ.length = st.length
  nd : μ.Nodup
  at_ : ∀ (i : Nat) o a, st[i]? = some o → μ[i]? = some a → RepO K G μ H a o
structure Ext (μ : List Addr) (H : Hp) (μ' : List Addr) (H' : Hp) : Prop where
  pre : ∃ l, μ' = μ ++ l
  keep : ∀ a o, a ∉ μ → H a = some o → H' a = some o ∧ a ∉ μ'
  tup : ∀ a vs, SqT K H a vs → SqT K H' a vs
  frz : ∀ a o u, H a = some (.frz o u) → H' a = some (.frz o u)
end

section
variable {K : PySem.W.Frag} {G : Nat → V → Prop} {μ μ' μ'' : List Addr} {H H' H'' : Hp}
theorem Ext.refl : Ext K μ H μ H := ⟨⟨[], by simp⟩, fun _ _ n e => ⟨e, n⟩, fun _ _ h => h, fun _ _ _ h => h⟩
theorem Ext.trans (a : Ext K μ H μ' H') (b : Ext K μ' H' μ'' H'') : Ext K μ H μ'' H'' := by
  obtain ⟨l, e⟩ := a.pre
  obtain ⟨l', e'⟩ := b.pre
  refine ⟨⟨l ++ l', by rw [e', e, List.append_assoc]⟩, fun x o n h => ?_, fun x vs h => b.tup _ _ (a.tup _ _ h), fun x o u h => b.frz _ _ _ (a.frz _ _ _ h)⟩
  obtain ⟨h1, n1⟩ := a.keep x o n h
  exact b.keep x o n1 h1
mutual
theorem Rep.ext (e : Ext K μ H μ' H') : ∀ {d : D} {v : V}, Rep K G μ H d v → Rep K G μ' H' d v
  | .non, _, h => h
  | .bl _, _, h => h
  | .int _, _, h => h
  | .str _, _, h => h
  | .tup xs, _, h => by
    unfold Rep at h ⊢
    obtain ⟨a, vs, e1, e2, e3⟩ := h
    exact ⟨a, vs, e1, e.tup _ _ e2, RepL.ext e e3⟩
  | .rol xs, _, h => by
    unfold Rep at h ⊢
    obtain ⟨a, vs, e1, e2, e3⟩ := h
    exact ⟨a, vs, e1, e2.imp (fun ⟨o, q⟩ => ⟨o, e.frz _ _ _ q⟩) id, RepL.ext e e3⟩
  | .obj i, _, h => by
    unfold Rep at h ⊢
    obtain ⟨a, e1, e2⟩ := h
    obtain ⟨l, el⟩ := e.pre
    refine ⟨a, e1, ?_⟩
    rw [el, List.getElem?_append_left (List.getElem?_eq_some_iff.mp e2).1]
    exact e2
  | .ty _, _, h => h
  | .glo _, _, h => h
  | .cdt kvs, _, h => by
    unfold Rep at h ⊢
    obtain ⟨d, e1, e2, e3, e4⟩ := h
    exact ⟨d, e1, e2, RepC.ext e e3, e4⟩
  | .exn _ _, _, h => by unfold Rep at h; exact h.elim
theorem RepC.ext (e : Ext K μ H μ' H') {d : Addr} : ∀ {xs : List (S × D)}, RepC K G μ H d xs → RepC K G μ' H' d xs
  | [], _ => by unfold RepC; trivial
  | (k, x) :: xs, h => by
    unfold RepC at h ⊢
    obtain ⟨⟨w, u, h1, h2, h3⟩, h4⟩ := h
    exact ⟨⟨w, u, h1, h2, Rep.ext e h3⟩, RepC.ext e h4⟩
theorem RepL.ext (e : Ext K μ H μ' H') : ∀ {xs : List D} {vs : List V}, RepL K G μ H xs vs → RepL K G μ' H' xs vs
  | [], _, h => h
  | x :: xs, _, h => by
    unfold RepL at h ⊢
    obtain ⟨v, r, e1, e2, e3⟩ := h
    exact ⟨v, r, e1, Rep.ext e e2, RepL.ext e e3⟩
end
theorem RepKV.ext (e : Ext K μ H μ' H') : ∀ {xs : List (DKey × D)} {vs : List (Key × V)}, RepKV K G μ H xs vs → RepKV K G μ' H' xs vs
  | [], _, h => h
  | (k, x) :: xs, _, h => by
    obtain ⟨v, r, e1, e2, e3⟩ := h
    exact ⟨v, r, e1, Rep.ext e e2, RepKV.ext e e3⟩
theorem RepF.ext (e : Ext K μ H μ' H') : ∀ {xs : List (Nat × D)} {vs : List (Str × V)}, RepF K G μ H xs vs → RepF K G μ' H' xs vs
  | [], _, h => h
  | (k, x) :: xs, _, h => by
    obtain ⟨n, v, r, e1, e0, e2, e3⟩ := h
    exact ⟨n, v, r, e1, e0, Rep.ext e e2, RepF.ext e e3⟩
theorem RepL.length : ∀ {xs : List D} {vs : List V}, RepL K G μ H xs vs → vs.length = xs.length
  | [], _, h => by unfold RepL at h; rw [h]; rfl
  | x :: xs, _, h => by
    unfold RepL at h
    obtain ⟨v, r, rfl, _, e3⟩ := h
    rw [List.length_cons, List.length_cons, RepL.length e3]
theorem RepL.cons {x : D} {v : V} {xs : List D} {vs : List V} (h : Rep K G μ H x v) (t : RepL K G μ H xs vs) : RepL K G μ H (x :: xs) (v :: vs) := by
  unfold RepL
  exact ⟨v, vs, rfl, h, t⟩
theorem RepL.nil : RepL K G μ H [] [] := by unfold RepL; rfl
theorem RepL.get : ∀ {xs : List D} {vs : List V} {i : Nat} {d : D}, RepL K G μ H xs vs → xs[i]? = some d → ∃ v, vs[i]? = some v ∧ Rep K G μ H d v
  | [], _, _, _, _, e => by simp at e
  | x :: xs, _, i, d, h, e => by
    unfold RepL at h
    obtain ⟨v, r, rfl, e2, e3⟩ := h
    cases i with
    | zero => simp at e; subst e; exact ⟨v, rfl, e2⟩
    | succ i => exact RepL.get (i := i) e3 (by simpa using e)
theorem RepL.append : ∀ {xs ys : List D} {vs ws : List V}, RepL K G μ H xs vs → RepL K G μ H ys ws → RepL K G μ H (xs ++ ys) (vs ++ ws)
  | [], _, _, _, h, h' => by unfold RepL at h; subst h; exact h'
  | x :: xs, _, _, _, h, h' => by
    unfold RepL at h
    obtain ⟨v, r, rfl, e2, e3⟩ := h
    exact RepL.cons e2 (RepL.append e3 h')
theorem RepL.take : ∀ {xs : List D} {vs : List V} (n : Nat), RepL K G μ H xs vs → RepL K G μ H (xs.take n) (vs.take n)
  | _, _, 0, _ => by simp [RepL.nil]
  | [], _, n + 1, h => by unfold RepL at h; subst h; simp [RepL.nil]
  | x :: xs, _, n + 1, h => by
    unfold RepL at h
    obtain ⟨v, r, rfl, e2, e3⟩ := h
    exact RepL.cons e2 (RepL.take n e3)
theorem RepL.drop : ∀ {xs : List D} {vs : List V} (n : Nat), RepL K G μ H xs vs → RepL K G μ H (xs.drop n) (vs.drop n)
  | _, _, 0, h => h
  | [], _, n + 1, h => by unfold RepL at h; subst h; simp [RepL.nil]
  | x :: xs, _, n + 1, h => by
    unfold RepL at h
    obtain ⟨v, r, rfl, e2, e3⟩ := h
    exact RepL.drop n e3
theorem RepL.set {d : D} {v : V} (hd : Rep K G μ H d v) : ∀ {xs : List D} {vs : List V} (n : Nat), RepL K G μ H xs vs → RepL K G μ H (xs.set n d) (vs.set n v)
  | [], _, _, h => by unfold RepL at h; subst h; simp [RepL.nil]
  | x :: xs, _, 0, h => by
    unfold RepL at h
    obtain ⟨w, r, rfl, e2, e3⟩ := h
    exact RepL.cons hd e3
  | x :: xs, _, n + 1, h => by
    unfold RepL at h
    obtain ⟨w, r, rfl, e2, e3⟩ := h
    exact RepL.cons e2 (RepL.set hd n e3)
/-- a new tuple, or any object of no one's store, is laid -/
theorem Ext.new {p : Addr} {o : HO} (n : H p = none) : Ext K μ H μ (upd H p o) := by
  refine ⟨⟨[], by simp⟩, fun a u na e => ⟨?_, na⟩, fun a vs h => ?_, fun a ob u e => by rw [upd_ne (ne_of_none e n)]; exact e⟩
  · rw [upd_ne (ne_of_none e n)]; exact e
  · rcases h with h | h
    · refine .inl ?_
      rcases h with h | ⟨ob, h⟩
      · exact .inl (by rw [upd_ne (ne_of_none h n)]; exact h)
      · exact .inr ⟨ob, by rw [upd_ne (ne_of_none h n)]; exact h⟩
    · exact .inr h
theorem SRep.new {st : Sto} {p : Addr} {o : HO} (s : SRep K G μ st H) (n : H p = none) : SRep K G μ st (upd H p o) := by
  have x : Ext K μ H μ (upd H p o) := Ext.new n
  refine ⟨s.len, s.nd, fun i u a e1 e2 => ?_⟩
  have q := s.at_ i u a e1 e2
  cases u with
  | lst xs =>
    obtain ⟨vs, h1, h2⟩ := q
    exact ⟨vs, by rw [upd_ne (ne_of_none h1 n)]; exact h1, h2.ext x⟩
  | dct kvs =>
    obtain ⟨vs, h1, h2⟩ := q
    exact ⟨vs, by rw [upd_ne (ne_of_none h1 n)]; exact h1, h2.ext x⟩
  | ins c fs =>
    obtain ⟨C, dx, vs, h1, h2, h3, h4, h5⟩ := q
    exact ⟨C, dx, vs, by rw [upd_ne (ne_of_none h1 n)]; exact h1, by rw [upd_ne (ne_of_none h2 n)]; exact h2, h3, h4, h5.ext x⟩
theorem SRep.tracked {st : Sto} {a : Addr} (s : SRep K G μ st H) (m : a ∈ μ) : ∃ o, H a = some o ∧ (∀ xs, o ≠ .tup xs) ∧ (∀ ob u, o ≠ .frz ob u) ∧ ∀ y, o ≠ .own y := by
  obtain ⟨i, hi, e⟩ := List.mem_iff_getElem.mp m
  have hi' : i < st.length := by rw [← s.len]; exact hi
  have q := s.at_ i st[i] a (List.getElem?_eq_getElem hi') (by rw [List.getElem?_eq_getElem hi, e])
  cases hu : st[i] with
  | lst xs =>
    rw [hu] at q
    obtain ⟨vs, h1, _⟩ := q
    exact ⟨_, h1, (fun _ z => by cases z), (fun _ _ z => by cases z), (fun _ z => by cases z)⟩
  | dct xs =>
    rw [hu] at q
    obtain ⟨vs, h1, _⟩ := q
    exact ⟨_, h1, (fun _ z => by cases z), (fun _ _ z => by cases z), (fun _ z => by cases z)⟩
  | ins c fs =>
    rw [hu] at q
    obtain ⟨C, dx, vs, h1, _⟩ := q
    exact ⟨_, h1, (fun _ z => by cases z), (fun _ _ z => by cases z), (fun _ z => by cases z)⟩
theorem SRep.notin {st : Sto} {p : Addr} (s : SRep K G μ st H) (n : H p = none) : p ∉ μ := fun m => by
  obtain ⟨o, e, _⟩ := s.tracked m
  rw [n] at e
  cases e
/-- a new list -/
theorem Ext.push {st : Sto} {p : Addr} {o : HO} (s : SRep K G μ st H) (n : H p = none) : Ext K μ H (μ ++ [p]) (upd H p o) := by
  have x : Ext K μ H μ (upd H p o) := Ext.new n
  refine ⟨⟨[p], rfl⟩, fun a u na e => ⟨(x.keep a u na e).1, ?_⟩, x.tup, x.frz⟩
  intro m
  rcases List.mem_append.mp m with m | m
  · exact na m
  · rw [List.mem_singleton.mp m, n] at e; cases e
theorem SRep.push {st : Sto} {p : Addr} {xs : List D} {vs : List V} (s : SRep K G μ st H) (n : H p = none) (r : RepL K G μ H xs vs) : SRep K G (μ ++ [p]) (st ++ [.lst xs]) (upd H p (.lst vs)) := by
  have x : Ext K μ H (μ ++ [p]) (upd H p (.lst vs)) := Ext.push s n
  have s1 : SRep K G μ st (upd H p (.lst vs)) := s.new n
  refine ⟨by simp [s.len], ?_, fun i u a e1 e2 => ?_⟩
  · rw [List.nodup_append]
    refine ⟨s.nd, by simp, fun a ha b hb e => ?_⟩
    rw [List.mem_singleton.mp hb] at e
    exact s.notin n (e ▸ ha)
  · by_cases hi : i < st.length
    · rw [List.getElem?_append_left hi] at e1
      rw [List.getElem?_append_left (by rw [s.len]; exact hi)] at e2
      have q := s.at_ i u a e1 e2
      cases u with
      | lst ys =>
        obtain ⟨ws, h1, h2⟩ := q
        exact ⟨ws, by rw [upd_ne (ne_of_none h1 n)]; exact h1, h2.ext x⟩
      | dct kvs =>
        obtain ⟨ws, h1, h2⟩ := q
        exact ⟨ws, by rw [upd_ne (ne_of_none h1 n)]; exact h1, h2.ext x⟩
      | ins c fs =>
        obtain ⟨C, dx, ws, h1, h2, h3, h4, h5⟩ := q
        refine ⟨C, dx, ws, by rw [upd_ne (ne_of_none h1 n)]; exact h1, by rw [upd_ne (ne_of_none h2 n)]; exact h2, fun m => ?_, h4, h5.ext x⟩
        rcases List.mem_append.mp m with m | m
        · exact h3 m
        · rw [List.mem_singleton.mp m, n] at h2; cases h2
    · rw [List.getElem?_append_right (by omega)] at e1
      rw [List.getElem?_append_right (by rw [s.len]; omega)] at e2
      have h0 : i - st.length = 0 := by
        cases h : i - st.length with
        | zero => rfl
        | succ k => rw [h] at e1; simp at e1
      rw [h0] at e1
      rw [s.len, h0] at e2
      simp at e1 e2
      subst e1 e2
      exact ⟨vs, upd_same, r.ext x⟩
/-- an object of the store is written -/
theorem Ext.write {st : Sto} {i : Nat} {p : Addr} {o : HO} (s : SRep K G μ st H) (e : μ[i]? = some p) : Ext K μ H μ (upd H p o) := by
  have m : p ∈ μ := List.mem_of_getElem? e
  obtain ⟨u, hu, nt, nf, _⟩ := s.tracked m
  refine ⟨⟨[], by simp⟩, fun a w na h => ⟨?_, na⟩, fun a vs h => ?_, fun a ob w h => ?_⟩
  · have ne : a ≠ p := fun z => na (by rw [z]; exact m)
    rw [upd_ne ne]; exact h
  · rcases h with h | h
    · refine .inl ?_
      rcases h with h | ⟨ob, h⟩
      · refine .inl ?_
        rw [upd_ne (fun z => ?_)]
        · exact h
        · rw [z, hu] at h; exact nt vs (Option.some.inj h)
      · refine .inr ⟨ob, ?_⟩
        rw [upd_ne (fun z => ?_)]
        · exact h
        · rw [z, hu] at h; exact nf _ _ (Option.some.inj h)
    · exact .inr h
  · rw [upd_ne (fun z => ?_)]
    · exact h
    · rw [z, hu] at h; exact nf _ _ (Option.some.inj h)
/-- an object of the store is written: what stands then at its place is told of the heap behind it -/
theorem SRep.writeO {st : Sto} {i : Nat} {p : Addr} {o : O} {ho : HO} (s : SRep K G μ st H) (e : μ[i]? = some p) (r : RepO K G μ (upd H p ho) p o) : SRep K G μ (st.set i o) (upd H p ho) := by
  have x : Ext K μ H μ (upd H p ho) := Ext.write s e
  have m : p ∈ μ := List.mem_of_getElem? e
  obtain ⟨u0, hu0, _, _, nw⟩ := s.tracked m
  refine ⟨by simp [s.len], s.nd, fun j u a e1 e2 => ?_⟩
  by_cases hj : j = i
  · subst hj
    rw [e] at e2
    cases e2
    have hl : j < st.length := by rw [← s.len]; exact (List.getElem?_eq_some_iff.mp e).1
    rw [List.getElem?_set_self hl] at e1
    cases e1
    exact r
  · rw [List.getElem?_set_ne (Ne.symm hj)] at e1
    have na : a ≠ p := fun z => by
      subst z
      obtain ⟨h1, q1⟩ := List.getElem?_eq_some_iff.mp e
      obtain ⟨h2, q2⟩ := List.getElem?_eq_some_iff.mp e2
      exact hj ((List.getElem_inj s.nd).mp (q2.trans q1.symm))
    have q := s.at_ j u a e1 e2
    cases u with
    | lst ys =>
      obtain ⟨ws, h1, h2⟩ := q
      exact ⟨ws, by rw [upd_ne na]; exact h1, h2.ext x⟩
    | dct kvs =>
      obtain ⟨ws, h1, h2⟩ := q
      exact ⟨ws, by rw [upd_ne na]; exact h1, h2.ext x⟩
    | ins c fs =>
      obtain ⟨C, dx, ws, h1, h2, h3, h4, h5⟩ := q
      refine ⟨C, dx, ws, by rw [upd_ne na]; exact h1, ?_, h3, h4, h5.ext x⟩
      rw [upd_ne (fun z => ?_)]
      · exact h2
      · rw [z, hu0] at h2
        exact nw _ (Option.some.inj h2)
theorem SRep.write {st : Sto} {i : Nat} {p : Addr} {xs : List D} {vs : List V} (s : SRep K G μ st H) (e : μ[i]? = some p) (r : RepL K G μ H xs vs) : SRep K G μ (st.set i (.lst xs)) (upd H p (.lst vs)) :=
  s.writeO e ⟨vs, upd_same, r.ext (Ext.write s e)⟩
end
end Mini

set_option Elab.async false
set_option linter.all false
set_option maxRecDepth 100000
set_option maxHeartbeats 4000000
namespace Mini
open PySem L2

/-- what is fixed: the program, its calls, the written part, what the module's names stand for, the classes of errors (where, names of fields), the error that is handled (its class, value, dict) -/
structure Fix where
  P : Pg
  call : Nat → List D → Sto → Mx D
  K : PySem.W.Frag
  G : Nat → V → Prop
  xc : Nat → Option (Addr × List Str)
  hx : Nat → V → Option Addr → Prop

variable (F : Fix)
/-- an error's dict, by its fields -/
def XD (μ : List Addr) (H : Hp) (ns : List Str) (vs : List V) : Option Addr → Prop
  | none => ns = []
  | some d => d ∉ μ ∧ ∃ l, H d = some (.xd l) ∧ ∀ (i : Nat) n v, ns[i]? = some n → vs[i]? = some v → l.lookup n = some v
theorem XD.ext {K : PySem.W.Frag} {μ μ' : List Addr} {H H' : Hp} {ns : List Str} {vs : List V} {dd : Option Addr} (h : XD μ H ns vs dd) (e : Ext K μ H μ' H') : XD μ' H' ns vs dd := by
  cases dd with
  | none => exact h
  | some d =>
    obtain ⟨h1, l, h2, h3⟩ := h
    obtain ⟨k1, k2⟩ := e.keep d _ h1 h2
    exact ⟨k2, l, k1, h3⟩
/-- an error in flight: its class (a Value), its dict, of a class's number and its fields -/
def XR (c : Nat) (vs : List V) (cls : Value) (dd : Option Addr) (μ : List Addr) (H : Hp) : Prop :=
  ∃ C ns, F.xc c = some (C, ns) ∧ cls = .ref C ∧ ns.length = vs.length ∧ XD μ H ns vs dd
theorem nex_eq (d : D) (st : Sto) : (isX d = true ∧ nex d st = none) ∨ (isX d = false ∧ nex d st = some (.ok d, st)) := by
  cases d <;> first
    | exact .inr ⟨rfl, rfl⟩
    | exact .inl ⟨rfl, rfl⟩
structure EnvRep (μ : List Addr) (H : Hp) (env : Env) (σ : St) : Prop where
  len : env.length = σ.length
  at_ : ∀ (i : Nat) d, env[i]? = some (some d) → isX d = false → ∃ v, σ[i]? = some (some v) ∧ Rep F.K F.G μ H d v
  ex_ : ∀ (i : Nat) c fs, env[i]? = some (some (.exn c fs)) → ∃ v dd C ns vs, σ[i]? = some (some v) ∧ F.hx c v dd ∧ F.xc c = some (C, ns) ∧ RepL F.K F.G μ H fs vs ∧ ns.length = vs.length ∧ XD μ H ns vs dd
theorem EnvRep.ext {F : Fix} {μ μ' : List Addr} {H H' : Hp} {env : Env} {σ : St} (h : EnvRep F μ H env σ) (e : Ext F.K μ H μ' H') : EnvRep F μ' H' env σ :=
  ⟨h.len, fun i d q n => let ⟨v, h1, h2⟩ := h.at_ i d q n; ⟨v, h1, h2.ext e⟩, fun i c fs q => let ⟨v, dd, C, ns, vs, h1, h2, h3, h4, h5, h6⟩ := h.ex_ i c fs q; ⟨v, dd, C, ns, vs, h1, h2, h3, h4.ext e, h5, h6.ext e⟩⟩
theorem rep_nox {K : PySem.W.Frag} {G : Nat → V → Prop} {μ : List Addr} {H : Hp} {d : D} {v : V} (r : Rep K G μ H d v) : isX d = false := by
  cases d <;> first
    | rfl
    | (unfold Rep at r; exact r.elim)
theorem EnvRep.set {F : Fix} {μ : List Addr} {H : Hp} {env : Env} {σ : St} {d : D} {v : V} (h : EnvRep F μ H env σ) (r : Rep F.K F.G μ H d v) (i : Nat) : EnvRep F μ H (env.set i (some d)) (σ.set i (some v)) := by
  refine ⟨by simp [h.len], fun j x q nx => ?_, fun j c fs q => ?_⟩
  · by_cases hj : i = j
    · subst hj
      by_cases hl : i < env.length
      · rw [List.getElem?_set_self hl] at q
        cases q
        exact ⟨v, by rw [List.getElem?_set_self (by rw [← h.len]; exact hl)], r⟩
      · rw [List.set_eq_of_length_le (by omega)] at q
        obtain ⟨z, _⟩ := List.getElem?_eq_some_iff.mp q
        exact absurd z hl
    · rw [List.getElem?_set_ne hj] at q ⊢
      exact h.at_ j x q nx
  · by_cases hj : i = j
    · subst hj
      by_cases hl : i < env.length
      · rw [List.getElem?_set_self hl] at q
        cases q
        have := rep_nox r
        cases this
      · rw [List.set_eq_of_length_le (by omega)] at q
        obtain ⟨z, _⟩ := List.getElem?_eq_some_iff.mp q
        exact absurd z hl
    · rw [List.getElem?_set_ne hj] at q ⊢
      exact h.ex_ j c fs q

abbrev AOk (μ : List Addr) (H : Hp) {α β : Type} (R : List Addr → Hp → α → β → Prop) (a : α) (st' : Sto) (Q : β → Hp → Prop) : Prop := ∀ μ' H' v, Ext F.K μ H μ' H' → SRep F.K F.G μ' st' H' → R μ' H' a v → Q v H'
def AEx (W : WX) (σ : St) (μ : List Addr) (H : Hp) (c : Nat) (fs : List D) (st' : Sto) : Prop :=
  ∀ μ' H' vs cls dd, Ext F.K μ H μ' H' → SRep F.K F.G μ' st' H' → RepL F.K F.G μ' H' fs vs → XR F c vs cls dd μ' H' → W cls dd σ H'
/-- behind an evaluation -/
def After (W : WX) (σ : St) (μ : List Addr) (H : Hp) {α β : Type} (R : List Addr → Hp → α → β → Prop) (r : Rs α) (st' : Sto) (Q : β → Hp → Prop) : Prop := match r with
  | .ok a => AOk F μ H R a st' Q
  | .exc c fs => AEx F W σ μ H c fs st'
abbrev RB : List Addr → Hp → Bool → Bool → Prop := fun _ _ a b => a = b
/-- a computation's reading, at a state -/
def tM (W : WX) (σ : St) (μ : List Addr) (H : Hp) {α β : Type} (R : List Addr → Hp → α → β → Prop) (m : Mx α) (Q : β → Hp → Prop) : Prop := ∃ r st', m = some (r, st') ∧ After F W σ μ H R r st' Q
abbrev RD : List Addr → Hp → D → V → Prop := Rep F.K F.G
abbrev RDL : List Addr → Hp → List D → List V → Prop := RepL F.K F.G
def tE (W : WX) (c : CE) : TE := fun σ H Q => ∃ μ env st, EnvRep F μ H env σ ∧ SRep F.K F.G μ st H ∧ tM F W σ μ H (RD F) (evE F.P F.call c env st) Q
def tT (W : WX) (c : CE) : TT := fun σ H Q => ∃ μ env st, EnvRep F μ H env σ ∧ SRep F.K F.G μ st H ∧ tM F W σ μ H RB (evT F.P F.call c env st) Q
def tL (W : WX) (cs : List CE) : TA := fun σ H Q => ∃ μ env st, EnvRep F μ H env σ ∧ SRep F.K F.G μ st H ∧ tM F W σ μ H (RDL F) (evL F.P F.call cs env st) Q

section
variable {F}
variable {W : WX} {σ : St} {μ μ' : List Addr} {H H' : Hp} {α β γ δ : Type} {R : List Addr → Hp → α → β → Prop} {R' : List Addr → Hp → γ → δ → Prop}
theorem After.ext {r : Rs α} {st' : Sto} {Q : β → Hp → Prop} (h : After F W σ μ H R r st' Q) (e : Ext F.K μ H μ' H') : After F W σ μ' H' R r st' Q := by
  cases r with
  | ok a => exact fun m h' v x s q => h m h' v (e.trans x) s q
  | exc c fs => exact fun m h' vs cls dd x s q z => h m h' vs cls dd (e.trans x) s q z
theorem tM.ext {m : Mx α} {Q : β → Hp → Prop} (h : tM F W σ μ H R m Q) (e : Ext F.K μ H μ' H') : tM F W σ μ' H' R m Q := by
  obtain ⟨r, st', q, a⟩ := h
  exact ⟨r, st', q, a.ext e⟩
/-- one computation behind another -/
theorem tM.bd {m : Mx α} {f : α → Sto → Mx γ} {Q : δ → Hp → Prop} {Q1 : β → Hp → Prop} (h : tM F W σ μ H R' (bd m f) Q)
    (k : ∀ x st1 μ1 H1 v, Ext F.K μ H μ1 H1 → SRep F.K F.G μ1 st1 H1 → R μ1 H1 x v → tM F W σ μ1 H1 R' (f x st1) Q → Q1 v H1) : tM F W σ μ H R m Q1 := by
  obtain ⟨r, st', q, a⟩ := h
  cases m with
  | none => cases q
  | some p =>
    obtain ⟨r1, st1⟩ := p
    cases r1 with
    | ok x => exact ⟨.ok x, st1, rfl, fun μ1 H1 v e s rr => k x st1 μ1 H1 v e s rr ⟨r, st', q, a.ext e⟩⟩
    | exc c fs =>
      cases q
      exact ⟨.exc c fs, _, rfl, a⟩
theorem tM.ok {a : α} {st : Sto} {v : β} {Q : β → Hp → Prop} (h : tM F W σ μ H R (some (.ok a, st)) Q) (s : SRep F.K F.G μ st H) (r : R μ H a v) : Q v H := by
  obtain ⟨r1, st', q, z⟩ := h
  cases q
  exact z μ H v .refl s r
theorem tM.no {Q : β → Hp → Prop} (h : tM F W σ μ H R (none : Mx α) Q) : False := by
  obtain ⟨_, _, q, _⟩ := h
  cases q
theorem tM.at_ {a : α} {st : Sto} {Q : β → Hp → Prop} (h : tM F W σ μ H R (some (.ok a, st)) Q) : ∀ μ' H' v, Ext F.K μ H μ' H' → SRep F.K F.G μ' st H' → R μ' H' a v → Q v H' := by
  obtain ⟨r1, st', q, z⟩ := h
  cases q
  exact z
/-- a new list -/
theorem tM.newL {xs : List D} {vs : List V} {st : Sto} {Q : VK} {p : Addr} (h : tM F W σ μ H (RD F) (newL xs st) Q) (s : SRep F.K F.G μ st H) (r : RepL F.K F.G μ H xs vs) (n : H p = none) : Q (.ref p) (upd H p (.lst vs)) := by
  refine h.at_ (μ ++ [p]) _ (.ref p) (Ext.push s n) (s.push n r) ?_
  unfold RD Rep
  refine ⟨p, rfl, ?_⟩
  rw [← s.len, List.getElem?_append_right (Nat.le_refl _), Nat.sub_self]
  rfl
theorem PE.imp {X : Cx} {e : Expr} {t t' : TE} (h : PE X e t) (k : ∀ σ H Q, t' σ H Q → t σ H Q) : PE X e t' := ⟨fun pins s σ H Q I q => h.run pins s σ H Q I (k σ H Q q)⟩
theorem PT.imp {X : Cx} {e : Expr} {t t' : TT} (h : PT X e t) (k : ∀ σ H Q, t' σ H Q → t σ H Q) : PT X e t' := ⟨fun pins s σ H Q I q => h.run pins s σ H Q I (k σ H Q q)⟩
theorem PA.imp {X : Cx} {e : List Expr} {t t' : TA} (h : PA X e t) (k : ∀ σ H Q, t' σ H Q → t σ H Q) : PA X e t' := ⟨fun pos pins s σ H Q I q => h.run pos pins s σ H Q I (k σ H Q q)⟩
theorem PS.imp {X : Cx} {e : Stmt} {t t' : TS} (h : PS X e t) (k : ∀ D σ H, t' D σ H → t D σ H) : PS X e t' := ⟨fun pins s σ H D I q => h.run pins s σ H D I (k D σ H q)⟩
theorem PSs.imp {X : Cx} {e : List Stmt} {t t' : TS} (h : PSs X e t) (k : ∀ D σ H, t' D σ H → t D σ H) : PSs X e t' := ⟨fun pins s σ H D I q => h.run pins s σ H D I (k D σ H q)⟩

/-! ### what two data come to -/
/-- the reading of a binary thing by data -/
def r2 (F : Fix) (f : D → D → Sto → Mx D) : R2 := fun v w H Q => ∃ W σ μ st x y, SRep F.K F.G μ st H ∧ Rep F.K F.G μ H x v ∧ Rep F.K F.G μ H y w ∧ tM F W σ μ H (RD F) (f x y st) Q
theorem repI {μ : List Addr} {H : Hp} {i : Int} {v : V} (h : Rep F.K F.G μ H (.int i) v) : v = .int i := by unfold Rep at h; exact h
theorem repS {μ : List Addr} {H : Hp} {x : S} {v : V} (h : Rep F.K F.G μ H (.str x) v) : v = .str ⟨x.toArray⟩ ∧ x.length ≤ sizeLine ∧ ∀ c ∈ x, c < 1114112 := by unfold Rep at h; exact h
theorem repT {μ : List Addr} {H : Hp} {x : List D} {v : V} (h : Rep F.K F.G μ H (.tup x) v) : ∃ a vs, v = .ref a ∧ SqT F.K H a vs ∧ RepL F.K F.G μ H x vs := by unfold Rep at h; exact h
theorem repR {μ : List Addr} {H : Hp} {x : List D} {v : V} (h : Rep F.K F.G μ H (.rol x) v) : ∃ a vs, v = .ref a ∧ Fz F.K H a vs ∧ RepL F.K F.G μ H x vs := by unfold Rep at h; exact h
theorem repB {μ : List Addr} {H : Hp} {x : Bool} {v : V} (h : Rep F.K F.G μ H (.bl x) v) : v = .bl x := by unfold Rep at h; exact h
theorem repN {μ : List Addr} {H : Hp} {v : V} (h : Rep F.K F.G μ H .non v) : v = .non := by unfold Rep at h; exact h
theorem repO {μ : List Addr} {H : Hp} {i : Nat} {v : V} (h : Rep F.K F.G μ H (.obj i) v) : ∃ a, v = .ref a ∧ μ[i]? = some a := by unfold Rep at h; exact h
theorem mkI {μ : List Addr} {H : Hp} {i : Int} : RD F μ H (.int i) (.int i) := by unfold RD Rep; rfl
theorem mkB {μ : List Addr} {H : Hp} {i : Bool} : RD F μ H (.bl i) (.bl i) := by unfold RD Rep; rfl
theorem mkN {μ : List Addr} {H : Hp} : RD F μ H .non .non := by unfold RD Rep; rfl
theorem mkS {μ : List Addr} {H : Hp} {x : S} (h : x.length ≤ sizeLine) (c : ∀ c ∈ x, c < 1114112) : RD F μ H (.str x) (.str ⟨x.toArray⟩) := by unfold RD Rep; exact ⟨rfl, h, c⟩
theorem mkT {μ : List Addr} {H : Hp} {a : Addr} {x : List D} {vs : List V} (h : SqT F.K H a vs) (r : RepL F.K F.G μ H x vs) : RD F μ H (.tup x) (.ref a) := by unfold RD Rep; exact ⟨a, vs, rfl, h, r⟩
/-- a list of the store -/
theorem SRep.lst {μ : List Addr} {H : Hp} {st : Sto} {i : Nat} {xs : List D} {a : Addr} (s : SRep F.K F.G μ st H) (e : st[i]? = some (.lst xs)) (ea : μ[i]? = some a) : ∃ vs, H a = some (.lst vs) ∧ RepL F.K F.G μ H xs vs := s.at_ i _ a e ea
theorem str_app (a b : S) : (⟨a.toArray⟩ ++ ⟨b.toArray⟩ : Str) = ⟨(a ++ b).toArray⟩ := TL.ext_tl (by rw [TL.tl_append])
theorem str_len (a : S) : (⟨a.toArray⟩ : Str).length = a.length := by simp [Str.length]
/-- a new tuple -/
theorem tM.tup {xs : List D} {vs : List V} {st : Sto} {Q : VK} {p : Addr} (h : tM F W σ μ H (RD F) (some (.ok (.tup xs), st)) Q) (s : SRep F.K F.G μ st H) (r : RepL F.K F.G μ H xs vs) (n : H p = none) : Q (.ref p) (upd H p (.tup vs)) :=
  h.at_ μ _ (.ref p) (Ext.new n) (s.new n) (mkT (.inl (.inl upd_same)) (r.ext (Ext.new n)))
end
end Mini

set_option Elab.async false
set_option linter.all false
set_option maxRecDepth 100000
set_option maxHeartbeats 4000000
namespace Mini
open PySem L2
section
variable {X : Cx} {F : Fix}
theorem okRep_spec {n : Nat} {k : Int} (h : okRep n k = true) : n * k.toNat ≤ LN ∧ k < 9223372036854775808 ∧ -9223372036854775808 ≤ k := by
  unfold okRep at h
  simp only [Bool.and_eq_true, decide_eq_true_eq] at h
  exact ⟨h.1.1, h.1.2, h.2⟩
theorem foldl_app (x : List Nat) : ∀ (n : Nat) (acc : Array Nat), (List.replicate n x.toArray).foldl (· ++ ·) acc = acc ++ (reps x n).toArray
  | 0, acc => by simp [reps]
  | n + 1, acc => by
    rw [List.replicate_succ, List.foldl_cons, foldl_app x n]
    unfold reps
    rw [List.replicate_succ, List.flatten_cons]
    simp
theorem op_mul_str : OpR X (binaryOp .Mult) (fun v w H Q => ∃ (a : S) (n : Int), v = .str ⟨a.toArray⟩ ∧ w = .int n ∧ okRep a.length n = true ∧ a.length ≤ sizeLine ∧ Q (.str ⟨(reps a n.toNat).toArray⟩) H) := by
  intro pins s σ H v w x y Q I rx ry h
  obtain ⟨a, n, rfl, rfl, hk, ha, q⟩ := h
  obtain ⟨t, rfl⟩ := rx
  obtain ⟨u, rfl⟩ := ry
  obtain ⟨h1, h2, h3⟩ := okRep_spec hk
  have len : (⟨a.toArray⟩ : Str).length = a.length := str_len a
  refine P.mul_str ?_ (fun c1 c2 => ?_) (fun c1 c2 => ?_) ?_
  · rw [decide_eq_false (by omega), decide_eq_false (by omega)]; rfl
  · rw [len]
    have n1 : 1 ≤ n := by omega
    have : (a.length : Int) * n ≤ 16777216 := by
      have : ((a.length * n.toNat : Nat) : Int) ≤ ((16777216 : Nat) : Int) := Int.ofNat_le.mpr h1
      rw [Int.natCast_mul, Int.toNat_of_nonneg (by omega)] at this
      exact this
    intro z
    have z' : (2 ^ 63 - 1) / n + 1 ≤ (a.length : Int) := z
    have k1 : (2 ^ 63 - 1 : Int) < ((2 ^ 63 - 1) / n + 1) * n := by
      have := Int.lt_ediv_add_one_mul_self (2 ^ 63 - 1) (show (0 : Int) < n by omega)
      exact this
    have k2 : ((2 ^ 63 - 1 : Int) / n + 1) * n ≤ (a.length : Int) * n := Int.mul_le_mul_of_nonneg_right z' (by omega)
    omega
  · rw [len]
    show decide (a.length * n.toNat > sizeLine) = false
    rw [LN_eq]
    exact decide_eq_false (by omega)
  · by_cases c1 : n < 1
    · rw [if_pos c1]
      have e : n.toNat = 0 := by omega
      refine ⟨by decide, ⟨.str Str.empty, H, I.tok _, ⟨_, rfl⟩, ?_⟩⟩
      rw [e] at q
      exact q
    · rw [if_neg c1]
      by_cases c2 : (n == 1 || (⟨a.toArray⟩ : Str).length == 0) = true
      · rw [if_pos c2]
        refine ⟨.str ⟨a.toArray⟩, H, I, ⟨t, rfl⟩, ?_⟩
        have e : reps a n.toNat = a := by
          rcases Bool.or_eq_true_iff.mp c2 with z | z
          · have : n = 1 := by simpa using z
            subst this
            simp [reps]
          · have : a = [] := by
              rw [len] at z
              exact List.length_eq_zero_iff.mp (by simpa using z)
            subst this
            simp [reps]
        rw [e] at q
        exact q
      · rw [if_neg c2]
        have e : (List.replicate n.toNat (⟨a.toArray⟩ : Str).cps).foldl (· ++ ·) #[] = (reps a n.toNat).toArray := by
          have := foldl_app a n.toNat #[]
          rw [this]; simp
        refine ⟨?_, ⟨.str ⟨(reps a n.toNat).toArray⟩, H, I.tok _, ⟨_, by rw [e]⟩, q⟩⟩
        rw [e]
        show (reps a n.toNat).toArray.size ≤ sizeLine
        rw [LN_eq, List.size_toArray]
        unfold reps
        rw [List.length_flatten, List.map_replicate, List.sum_replicate_nat, Nat.mul_comm]
        exact h1

theorem nat64 {i : Int} (h : i.natAbs < 18446744073709551616) : -(2 ^ 64) < i ∧ i < 2 ^ 64 := by
  have : (2 : Int) ^ 64 = 18446744073709551616 := by decide
  omega
theorem RepL.flat {K : PySem.W.Frag} {G : Nat → V → Prop} {μ : List Addr} {H : Hp} {xs : List D} {vs : List V} (r : RepL K G μ H xs vs) : ∀ n : Nat, RepL K G μ H (reps xs n) (List.replicate n vs).flatten
  | 0 => by simp [reps, RepL.nil]
  | n + 1 => by
    unfold reps
    rw [List.replicate_succ, List.flatten_cons, List.replicate_succ, List.flatten_cons]
    exact r.append (RepL.flat r n)
theorem op_bin (hK : X.K = F.K) (op : Operator) : OpR X (binaryOp op) (r2 F (binD op)) := by
  intro pins s σ H v w a b Q I ra rb h
  obtain ⟨W, σ', μ, st, x, y, sr, rx, ry, t⟩ := h
  unfold binD at t
  split at t
  · cases repI rx; cases repI ry
    exact op_add pins s σ H _ _ a b Q I ra rb ⟨_, _, rfl, rfl, t.ok sr mkI⟩
  · cases repI rx; cases repI ry
    exact op_sub pins s σ H _ _ a b Q I ra rb ⟨_, _, rfl, rfl, t.ok sr mkI⟩
  · cases repI rx; cases repI ry
    split at t
    · rename_i c
      refine op_mul pins s σ H _ _ a b Q I ra rb ⟨_, _, rfl, rfl, ?_, t.ok sr mkI⟩
      rcases c with c | c
      · exact .inl (nat64 c)
      · exact .inr (nat64 c)
    · exact t.no.elim
  · cases repI rx; cases repI ry
    split at t
    · rename_i c
      exact op_fdiv pins s σ H _ _ a b Q I ra rb ⟨_, _, rfl, rfl, c, t.ok sr mkI⟩
    · exact t.no.elim
  · cases repI rx; cases repI ry
    split at t
    · rename_i c
      exact op_mod pins s σ H _ _ a b Q I ra rb ⟨_, _, rfl, rfl, c, t.ok sr mkI⟩
    · exact t.no.elim
  · cases repI rx; cases repI ry
    split at t
    · rename_i c
      have e : 2 ^ 64 = 18446744073709551616 := by decide
      exact op_pow pins s σ H _ _ a b Q I ra rb ⟨_, _, rfl, rfl, ⟨c.1, c.2.1, Nat.lt_of_lt_of_eq c.2.2 e.symm⟩, t.ok sr mkI⟩
    · exact t.no.elim
  · split at t
    · rename_i c
      obtain ⟨rfl, h1, h2⟩ := repS rx
      obtain ⟨rfl, h3, h4⟩ := repS ry
      refine op_add_str pins s σ H _ _ a b Q I ra rb ⟨_, _, rfl, rfl, ?_, ?_⟩
      · rw [str_len, str_len, LN_eq]; exact c
      · rw [str_app]
        refine t.ok sr (mkS ?_ fun c hc => ?_)
        · rw [List.length_append, LN_eq]; exact c
        · rcases List.mem_append.mp hc with z | z
          · exact h2 _ z
          · exact h4 _ z
    · exact t.no.elim
  · split at t
    · rename_i c
      obtain ⟨p, vs, rfl, h1, h2⟩ := repT rx
      obtain ⟨q, ws, rfl, h3, h4⟩ := repT ry
      have l1 := h2.length
      have l2 := h4.length
      refine op_catA pins s σ H _ _ a b Q I ra rb ⟨p, q, vs, ws, rfl, rfl, by rw [hK]; exact h1, by rw [hK]; exact h3, by rw [l1, l2, LN_eq]; exact c, fun z => ?_, fun _ z => ?_, fun _ _ n hn => ?_⟩
      · subst z
        have e := h2.append h4
        exact t.ok sr (mkT h3 e)
      · subst z
        have e := h2.append h4
        rw [List.append_nil] at e
        exact t.ok sr (mkT h1 e)
      · exact t.tup sr (h2.append h4) hn
    · exact t.no.elim
  · split at t
    · rename_i e1 e2
      split at t
      · rename_i c
        obtain ⟨p, rfl, h1⟩ := repO rx
        obtain ⟨q, rfl, h2⟩ := repO ry
        obtain ⟨vs, h3, h4⟩ := SRep.lst sr e1 h1
        obtain ⟨ws, h5, h6⟩ := SRep.lst sr e2 h2
        refine op_cat pins s σ H _ _ a b Q I ra rb ⟨p, q, vs, ws, rfl, rfl, h3, h5, ?_, fun n hn => t.newL sr (h4.append h6) hn⟩
        rw [h4.length, h6.length, LN_eq]; exact c
      · exact t.no.elim
    · exact t.no.elim
  · split at t
    · rename_i c
      obtain ⟨rfl, h1, h2⟩ := repS rx
      cases repI ry
      refine op_mul_str pins s σ H _ _ a b Q I ra rb ⟨_, _, rfl, rfl, c, h1, t.ok sr (mkS ?_ fun z hz => ?_)⟩
      · obtain ⟨q1, _, _⟩ := okRep_spec c
        rw [LN_eq]
        unfold reps
        rw [List.length_flatten, List.map_replicate, List.sum_replicate_nat, Nat.mul_comm]
        exact q1
      · unfold reps at hz
        obtain ⟨l, hl, hz⟩ := List.mem_flatten.mp hz
        rw [(List.mem_replicate.mp hl).2] at hz
        exact h2 _ hz
    · exact t.no.elim
  · split at t
    · rename_i c
      obtain ⟨p, vs, rfl, h1, h2⟩ := repT rx
      cases repI ry
      have l1 := h2.length
      refine op_repT pins s σ H _ _ a b Q I ra rb ⟨p, _, vs, rfl, rfl, by rw [hK]; exact h1, ?_, c.2.2.1, c.2.2.2, by rw [l1]; exact c.2.1, fun n hn => t.tup sr (h2.flat _) hn⟩
      intro z
      subst z
      simp at l1
      omega
    · exact t.no.elim
  · split at t
    · rename_i e1
      split at t
      · rename_i c
        obtain ⟨p, rfl, h1⟩ := repO rx
        cases repI ry
        obtain ⟨vs, h3, h4⟩ := SRep.lst sr e1 h1
        obtain ⟨q1, q2, q3⟩ := okRep_spec c
        refine op_rep pins s σ H _ _ a b Q I ra rb ⟨p, _, vs, rfl, rfl, h3, ?_, ?_, ?_, fun n hn => t.newL sr (h4.flat _) hn⟩
        · have : (2 : Int) ^ 63 = 9223372036854775808 := by decide
          omega
        · have : (2 : Int) ^ 63 = 9223372036854775808 := by decide
          omega
        · rw [h4.length, LN_eq]; exact q1
      · exact t.no.elim
    · exact t.no.elim
  · exact t.no.elim
/-! ### t += u -/
theorem noI_tuple : typeLookup (.type "tuple") (dunderI "add") = pure none := by rw [typeLookup_type, builtinLookup_eq_fast]; kernel_rfl
theorem icat_tup {prog : Program} {w : World} {A : Around} {E : Value → Shared → Prop} {s : Shared} {t b : Addr} {vs ws : List Value} {Q : Value → Shared → Prop} (ht : PyProof.Rows.IsTup s.heap t vs.toArray) (hb : PyProof.Rows.IsTup s.heap b ws.toArray)
    (h0 : vs = [] → Q (.ref b) s) (h1 : vs ≠ [] → ws = [] → Q (.ref t) s)
    (h2 : vs ≠ [] → ws ≠ [] → Q (.ref s.heap.objs.size) { s with heap := s.heap.push { cls := .type "tuple", data := .seq (vs ++ ws).toArray } }) (hsz : vs.length + ws.length ≤ sizeLine) :
    wpAny (model prog w) A (inplaceOp .Add (.ref t) (.ref b)) Q E s := by
  obtain ⟨⟨cls, dd, data, sl⟩, ho, hc, n, hd⟩ := id ht
  obtain ⟨⟨cls2, dd2, data2, sl2⟩, ho2, hc2, n2, hd2⟩ := id hb
  simp only at hc hd hc2 hd2
  subst hc hd hc2 hd2
  have e : vs.toArray ++ ws.toArray = (vs ++ ws).toArray := by simp
  refine PyProof.Rows.inplaceOp_concat (T := "tuple") (id := "tuple.__add__") ⟨_, ho, rfl⟩ ⟨_, ho2, rfl⟩ noI_tuple noFill_tuple_add seq_tuple_add ?_
  by_cases hv : vs = []
  · exact call_meets PySem.F.slot_tuple_add ⟨_, ho, rfl⟩ PySem.F.entry_tuple_add (PySem.F.args_tuple_add_2 _ _)
      (PyProof.Rows.tuple_addW0 t b vs.toArray ws.toArray n n2 dd dd2 sl sl2 (by simp [hv])) ⟨ho, ho2, h0 hv⟩
  · by_cases hw : ws = []
    · exact call_meets PySem.F.slot_tuple_add ⟨_, ho, rfl⟩ PySem.F.entry_tuple_add (PySem.F.args_tuple_add_2 _ _)
        (PyProof.Rows.tuple_addW1 t b vs.toArray ws.toArray n n2 dd dd2 sl sl2 (by simpa using hv) (by simp [hw])) ⟨ho, ho2, h1 hv hw⟩
    · refine call_meets PySem.F.slot_tuple_add ⟨_, ho, rfl⟩ PySem.F.entry_tuple_add (PySem.F.args_tuple_add_2 _ _)
        (PyProof.Rows.tuple_addW2 t b vs.toArray ws.toArray n n2 dd dd2 sl sl2 (by simpa using hv) (by simpa using hw) (by rw [List.size_toArray, List.size_toArray]; exact hsz)) ⟨ho, ho2, ?_⟩
      rw [e]
      exact h2 hv hw
theorem op_icatA : OpR X (inplaceOp .Add) (rCatA X.K) := by
  intro pins s σ H x y v u Q I rx ry h
  obtain ⟨a, b, xs, ys, rfl, rfl, ha, hb, hz, q0, q1, q2⟩ := h
  cases rx
  cases ry
  obtain ⟨its, r1, p1, _⟩ := I.tuple ha
  obtain ⟨its2, r2, p2, _⟩ := I.tuple hb
  refine icat_tup p1 p2 (fun z => ⟨.ref b, H, I, rfl, q0 (r1.nil_iff.mp z)⟩) (fun y z => ⟨.ref a, H, I, rfl, q1 (fun w => y (r1.nil_iff.mpr w)) (r2.nil_iff.mp z)⟩) (fun y z => ?_) (by rw [← r1.length, ← r2.length]; exact hz)
  refine ⟨.ref s.heap.objs.size, _, I.laid (t' := s.toks) (o := .tup (xs ++ ys)) (fun b ob q => Heap.get?_push_of_some _ q) (Nat.le_refl _) ?_, rfl, q2 (fun w => y (r1.nil_iff.mpr w)) (fun w => z (r2.nil_iff.mpr w)) _ (I.hok.fresh (Nat.le_refl _))⟩
  exact ⟨by rw [List.length_append]; exact hz, _, r1.append r2, PyProof.Rows.IsTup.new _ _⟩
end
end Mini

set_option Elab.async false
set_option linter.all false
set_option maxRecDepth 100000
set_option maxHeartbeats 4000000
namespace Mini
open PySem L2
section
variable {X : Cx} {F : Fix}
theorem op_aug (hK : X.K = F.K) (op : Operator) : OpR X (inplaceOp op) (r2 F (augD op)) := by
  intro pins s σ H v w a b Q I ra rb h
  obtain ⟨W, σ', μ, st, x, y, sr, rx, ry, t⟩ := h
  unfold augD at t
  split at t
  · cases repI rx; cases repI ry
    exact iop_add pins s σ H _ _ a b Q I ra rb ⟨_, _, rfl, rfl, t.ok sr mkI⟩
  · cases repI rx; cases repI ry
    exact iop_sub pins s σ H _ _ a b Q I ra rb ⟨_, _, rfl, rfl, t.ok sr mkI⟩
  · split at t
    · rename_i c
      obtain ⟨rfl, h1, h2⟩ := repS rx
      obtain ⟨rfl, h3, h4⟩ := repS ry
      refine iop_add_str pins s σ H _ _ a b Q I ra rb ⟨_, _, rfl, rfl, ?_, ?_⟩
      · rw [str_len, str_len, LN_eq]; exact c
      · rw [str_app]
        refine t.ok sr (mkS ?_ fun c hc => ?_)
        · rw [List.length_append, LN_eq]; exact c
        · rcases List.mem_append.mp hc with z | z
          · exact h2 _ z
          · exact h4 _ z
    · exact t.no.elim
  · split at t
    · rename_i c
      obtain ⟨p, vs, rfl, h1, h2⟩ := repT rx
      obtain ⟨q, ws, rfl, h3, h4⟩ := repT ry
      have l1 := h2.length
      have l2 := h4.length
      refine op_icatA pins s σ H _ _ a b Q I ra rb ⟨p, q, vs, ws, rfl, rfl, by rw [hK]; exact h1, by rw [hK]; exact h3, by rw [l1, l2, LN_eq]; exact c, fun z => ?_, fun _ z => ?_, fun _ _ n hn => ?_⟩
      · subst z
        have e := h2.append h4
        exact t.ok sr (mkT h3 e)
      · subst z
        have e := h2.append h4
        rw [List.append_nil] at e
        exact t.ok sr (mkT h1 e)
      · exact t.tup sr (h2.append h4) hn
    · exact t.no.elim
  · exact t.no.elim
/-- a list or tuple that is read -/
theorem items_sq {μ : List Addr} {H : Hp} {st : Sto} {d : D} {v : V} {xs : List D} (sr : SRep F.K F.G μ st H) (r : Rep F.K F.G μ H d v) (e : items st d = some xs) : ∃ a vs, v = .ref a ∧ (SqL F.K H a vs ∨ SqT F.K H a vs) ∧ RepL F.K F.G μ H xs vs := by
  unfold items at e
  split at e
  · cases e
    obtain ⟨a, vs, rfl, h1, h2⟩ := repT r
    exact ⟨a, vs, rfl, .inr h1, h2⟩
  · cases e
    obtain ⟨a, vs, rfl, h1, h2⟩ := repR r
    exact ⟨a, vs, rfl, .inl h1.sq, h2⟩
  · obtain ⟨a, rfl, h1⟩ := repO r
    unfold litems at e
    split at e
    · rename_i e1
      cases e
      obtain ⟨vs, h2, h3⟩ := SRep.lst sr e1 h1
      exact ⟨a, vs, rfl, .inl (.inl (.inl h2)), h3⟩
    · cases e
  · cases e
theorem litems_sq {μ : List Addr} {H : Hp} {st : Sto} {i : Nat} {v : V} {xs : List D} (sr : SRep F.K F.G μ st H) (r : Rep F.K F.G μ H (.obj i) v) (e : litems st i = some xs) : ∃ a vs, v = .ref a ∧ H a = some (.lst vs) ∧ RepL F.K F.G μ H xs vs := by
  obtain ⟨a, rfl, h1⟩ := repO r
  unfold litems at e
  split at e
  · rename_i e1
    cases e
    obtain ⟨vs, h2, h3⟩ := SRep.lst sr e1 h1
    exact ⟨a, vs, rfl, h2, h3⟩
  · cases e
theorem isEmpty_of_rep {μ : List Addr} {H : Hp} {xs : List D} {vs : List V} (h : RepL F.K F.G μ H xs vs) : (!xs.isEmpty) = !vs.isEmpty := by
  have := h.length
  cases xs <;> cases vs <;> simp_all
/-- truth -/
theorem tru_d {μ : List Addr} {H : Hp} {st : Sto} {d : D} {v : V} {k : Bool} (sr : SRep F.K F.G μ st H) (r : Rep F.K F.G μ H d v) (e : truD st d = some k) : TruV F.K v H k := by
  unfold truD at e
  split at e
  · cases e; cases repN r; rfl
  · cases e; cases repB r; rfl
  · cases e; cases repI r; rfl
  · rename_i z
    cases e
    obtain ⟨rfl, h1, _⟩ := repS r
    refine ⟨by rw [str_len]; exact h1, ?_⟩
    rw [str_len]
    cases z <;> rfl
  · cases e
    obtain ⟨a, vs, rfl, h1, h2⟩ := repT r
    exact .inr (.inl ⟨vs, h1, isEmpty_of_rep h2⟩)
  · cases e
    obtain ⟨a, vs, rfl, h1, h2⟩ := repR r
    exact .inl ⟨vs, h1.sq, isEmpty_of_rep h2⟩
  · rename_i i
    cases hl : litems st i with
    | none => rw [hl] at e; cases e
    | some xs =>
      rw [hl] at e
      cases e
      obtain ⟨a, vs, rfl, h1, h2⟩ := litems_sq sr r hl
      exact .inl ⟨vs, .inl (.inl h1), isEmpty_of_rep h2⟩
  · cases e
/-- data for == -/
theorem mapO_dp {K : PySem.W.Frag} {G : Nat → V → Prop} {μ : List Addr} {H : Hp} {n : Nat} {f : D → Option PyData} (hf : ∀ d v p, Rep K G μ H d v → f d = some p → Dp K H v p ∧ p.canLay0 = true ∧ p.depth ≤ n) :
    ∀ {xs : List D} {vs : List V} {ps : List PyData}, RepL K G μ H xs vs → mapO f xs = some ps → DpAll K H vs ps ∧ PyData.canLayAll0 ps = true ∧ PyData.depthAll ps ≤ n
  | [], _, _, h, e => by
    unfold RepL at h; subst h
    cases e
    exact ⟨.nil, by simp [PyData.canLayAll0], by simp [PyData.depthAll]⟩
  | x :: xs, _, ps, h, e => by
    unfold RepL at h
    obtain ⟨v, r, rfl, h1, h2⟩ := h
    unfold mapO at e
    split at e
    · rename_i y ys e1 e2
      cases e
      obtain ⟨a1, a2, a3⟩ := hf x v y h1 e1
      obtain ⟨b1, b2, b3⟩ := mapO_dp hf h2 e2
      refine ⟨.cons a1 b1, ?_, ?_⟩
      · simp [PyData.canLayAll0, a2, b2]
      · simp only [PyData.depthAll]
        omega
    · cases e
theorem toPy_dp {μ : List Addr} {H : Hp} {st : Sto} (sr : SRep F.K F.G μ st H) : ∀ (n : Nat) (d : D) (v : V) (p : PyData), Rep F.K F.G μ H d v → toPy st n d = some p → Dp F.K H v p ∧ p.canLay0 = true ∧ p.depth ≤ n
  | 0, _, _, _, _, e => by cases e
  | n + 1, d, v, p, r, e => by
    unfold toPy at e
    split at e
    · cases e; cases repN r; exact ⟨.non, by simp [PyData.canLay0], by simp [PyData.depth]⟩
    · cases e; cases repB r; exact ⟨.bl _, by simp [PyData.canLay0], by simp [PyData.depth]⟩
    · cases e; cases repI r; exact ⟨.int _, by simp [PyData.canLay0], by simp [PyData.depth]⟩
    · cases e
      obtain ⟨rfl, h1, h2⟩ := repS r
      refine ⟨.str _, ?_, by simp [PyData.depth]⟩
      unfold PyData.canLay0 PyData.strOk
      rw [List.all_toArray, List.all_eq_true]
      intro c hc
      exact decide_eq_true (h2 c hc)
    · rename_i xs
      obtain ⟨a, vs, rfl, h1, h2⟩ := repT r
      cases hm : mapO (toPy st n) xs with
      | none => rw [hm] at e; cases e
      | some ps =>
        rw [hm] at e
        cases e
        obtain ⟨b1, b2, b3⟩ := mapO_dp (toPy_dp sr n) h2 hm
        exact ⟨.tup h1 b1, by simp [PyData.canLay0, b2], by simp only [PyData.depth]; omega⟩
    · rename_i xs
      obtain ⟨a, vs, rfl, h1, h2⟩ := repR r
      cases hm : mapO (toPy st n) xs with
      | none => rw [hm] at e; cases e
      | some ps =>
        rw [hm] at e
        cases e
        obtain ⟨b1, b2, b3⟩ := mapO_dp (toPy_dp sr n) h2 hm
        exact ⟨.lst h1.sq b1, by simp [PyData.canLay0, b2], by simp only [PyData.depth]; omega⟩
    · split at e
      · rename_i i xs hx
        obtain ⟨a, vs, rfl, h1, h2⟩ := litems_sq sr r hx
        cases hm : mapO (toPy st n) xs with
        | none => rw [hm] at e; cases e
        | some ps =>
          rw [hm] at e
          cases e
          obtain ⟨b1, b2, b3⟩ := mapO_dp (toPy_dp sr n) h2 hm
          exact ⟨.lst (.inl (.inl h1)) b1, by simp [PyData.canLay0, b2], by simp only [PyData.depth]; omega⟩
      · cases e
    · cases e
theorem shaped_of {p : PyData} (h : p.canLay0 = true) (d : p.depth ≤ 60) : SeqAt.shaped p = true := by
  unfold SeqAt.shaped
  rw [h, Bool.true_and]
  exact decide_eq_true (by omega)
theorem flat_rep {μ : List Addr} {H : Hp} {d : D} {v : V} (r : Rep F.K F.G μ H d v) (f : flatD d = true) : flatV v = true := by
  cases d <;> first
    | (cases repN r; rfl)
    | (cases repB r; rfl)
    | (cases repI r; rfl)
    | (obtain ⟨rfl, _⟩ := repS r; rfl)
    | (exact absurd (show false = true from f) Bool.false_ne_true)
theorem flats_rep {μ : List Addr} {H : Hp} : ∀ {xs : List D} {vs : List V}, RepL F.K F.G μ H xs vs → xs.all flatD = true → vs.all flatV = true
  | [], _, h, _ => by unfold RepL at h; subst h; rfl
  | x :: xs, _, h, f => by
    unfold RepL at h
    obtain ⟨v, r, rfl, h1, h2⟩ := h
    rw [List.all_cons, Bool.and_eq_true] at f ⊢
    exact ⟨flat_rep h1 f.1, flats_rep h2 f.2⟩
theorem str_beq (a b : S) : ((⟨a.toArray⟩ : Str) == ⟨b.toArray⟩) = (a == b) := by
  by_cases h : a = b
  · subst h; simp
  · have h' : (⟨a.toArray⟩ : Str) ≠ ⟨b.toArray⟩ := fun z => h (by
      have := congrArg (fun s : Str => s.cps.toList) z
      simpa using this)
    rw [beq_eq_false_iff_ne.mpr h, beq_eq_false_iff_ne.mpr h']
theorem eqF_rep {μ : List Addr} {H : Hp} {d e : D} {v w : V} (r : Rep F.K F.G μ H d v) (q : Rep F.K F.G μ H e w) (f : flatD d = true) (g : flatD e = true) : eqV v w = eqF d e := by
  cases d <;> first
    | (exact absurd (show false = true from f) Bool.false_ne_true)
    | skip
  all_goals (cases e <;> first
    | (exact absurd (show false = true from g) Bool.false_ne_true)
    | skip)
  all_goals first
    | (cases repN r) | (cases repB r) | (cases repI r) | (obtain ⟨rfl, _⟩ := repS r)
  all_goals first
    | (cases repN q) | (cases repB q) | (cases repI q) | (obtain ⟨rfl, _⟩ := repS q)
  all_goals first
    | rfl
    | exact str_beq _ _
theorem inV_rep {μ : List Addr} {H : Hp} {d : D} {v : V} (r : Rep F.K F.G μ H d v) (f : flatD d = true) : ∀ {xs : List D} {vs : List V}, RepL F.K F.G μ H xs vs → xs.all flatD = true → inV v vs = xs.any fun y => eqF y d
  | [], _, h, _ => by unfold RepL at h; subst h; rfl
  | x :: xs, _, h, g => by
    unfold RepL at h
    obtain ⟨w, t, rfl, h1, h2⟩ := h
    rw [List.all_cons, Bool.and_eq_true] at g
    have ih := inV_rep r f h2 g.2
    unfold inV at ih ⊢
    rw [List.any_cons, List.any_cons, ih, eqF_rep h1 r g.1 f]
/-- the reading of a comparison -/
def rC (F : Fix) (op : CmpOp) : R2 := fun v w H Q => ∃ μ st x y b, SRep F.K F.G μ st H ∧ Rep F.K F.G μ H x v ∧ Rep F.K F.G μ H y w ∧ cmpD op st x y = some b ∧ Q (.bl b) H
theorem op_cmp (hK : X.K = F.K) (hu : X.A.units + 64 < cLine) (op : CmpOp) : OpR X (compareOp op) (rC F op) := by
  intro pins s σ H v w a b Q I ra rb h
  obtain ⟨μ, st, x, y, k, sr, rx, ry, e, q⟩ := h
  have eq1 : ∀ k', eqD st x y = some k' → ∃ p p', Dp X.K H v p ∧ Dp X.K H w p' ∧ SeqAt.shaped p = true ∧ SeqAt.shaped p' = true ∧ PyData.eqv p p' = k' := by
    intro k' e
    unfold eqD at e
    split at e
    · rename_i p p' e1 e2
      cases e
      obtain ⟨a1, a2, a3⟩ := toPy_dp sr 60 x v p rx e1
      obtain ⟨b1, b2, b3⟩ := toPy_dp sr 60 y w p' ry e2
      rw [hK]
      exact ⟨p, p', a1, b1, shaped_of a2 a3, shaped_of b2 b3, rfl⟩
    · cases e
  have in1 : ∀ k', inD st x y = some k' → (∃ (c : Nat) (z : Str), v = .str ⟨#[c]⟩ ∧ w = .str z ∧ decide (c ∈ z.cps.toList) = k') ∨
      (∃ p xs, w = .ref p ∧ (SqL X.K H p xs ∨ SqT X.K H p xs) ∧ flatV v = true ∧ xs.all flatV = true ∧ inV v xs = k') := by
    intro k' e
    unfold inD at e
    split at e
    · cases e
      obtain ⟨rfl, _⟩ := repS rx
      obtain ⟨rfl, _⟩ := repS ry
      exact .inl ⟨_, _, rfl, rfl, rfl⟩
    · split at e
      · rename_i xs hx
        split at e
        · rename_i c
          cases e
          obtain ⟨p, vs, rfl, h1, h2⟩ := items_sq sr ry hx
          rw [Bool.and_eq_true] at c
          rw [hK]
          exact .inr ⟨p, vs, rfl, h1, flat_rep rx c.1, flats_rep h2 c.2, inV_rep rx c.1 h2 c.2⟩
        · cases e
      · cases e
  cases op with
  | Eq =>
    obtain ⟨p, p', h1, h2, h3, h4, rfl⟩ := eq1 k e
    exact op_eqD hu pins s σ H v w a b Q I ra rb ⟨p, p', h1, h2, h3, h4, q⟩
  | NotEq =>
    have e' : (eqD st x y).map not = some k := e
    cases hq : eqD st x y with
    | none => rw [hq] at e'; cases e'
    | some k' =>
      rw [hq] at e'
      cases e'
      obtain ⟨p, p', h1, h2, h3, h4, rfl⟩ := eq1 k' hq
      exact op_neD hu pins s σ H v w a b Q I ra rb ⟨p, p', h1, h2, h3, h4, q⟩
  | Lt =>
    unfold cmpD at e
    dsimp only at e
    split at e
    · cases e; cases repI rx; cases repI ry
      exact op_lt pins s σ H _ _ a b Q I ra rb ⟨_, _, rfl, rfl, q⟩
    · cases e
  | LtE =>
    unfold cmpD at e
    dsimp only at e
    split at e
    · cases e; cases repI rx; cases repI ry
      exact op_le pins s σ H _ _ a b Q I ra rb ⟨_, _, rfl, rfl, q⟩
    · cases e
  | Gt =>
    unfold cmpD at e
    dsimp only at e
    split at e
    · cases e; cases repI rx; cases repI ry
      exact op_gt pins s σ H _ _ a b Q I ra rb ⟨_, _, rfl, rfl, q⟩
    · cases e
  | GtE =>
    unfold cmpD at e
    dsimp only at e
    split at e
    · cases e; cases repI rx; cases repI ry
      exact op_ge pins s σ H _ _ a b Q I ra rb ⟨_, _, rfl, rfl, q⟩
    · cases e
  | Is =>
    unfold cmpD at e
    dsimp only at e
    split at e
    · cases repN ry
      refine op_isN pins s σ H _ _ a b Q I ra rb ⟨rfl, ?_⟩
      split at e
      · cases e; cases repN rx; exact q
      · cases e
      · rename_i hx hx2
        cases e
        have : v ≠ .non := fun z => by
          subst z
          cases x <;> unfold Rep at rx <;> simp_all
        rw [decide_eq_false this]
        exact q
    · cases repB ry
      split at e
      · cases e
        cases repB rx
        exact op_isBl pins s σ H _ _ a b Q I ra rb ⟨_, _, rfl, rfl, q⟩
      · cases e
    · cases e
  | IsNot =>
    unfold cmpD at e
    dsimp only at e
    split at e
    · cases repN ry
      refine op_notN pins s σ H _ _ a b Q I ra rb ⟨rfl, ?_⟩
      split at e
      · cases e; cases repN rx; exact q
      · cases e
      · rename_i hx hx2
        cases e
        have : v ≠ .non := fun z => by
          subst z
          cases x <;> unfold Rep at rx <;> simp_all
        rw [decide_eq_false this]
        exact q
    · cases repB ry
      split at e
      · cases e
        cases repB rx
        exact op_notBl pins s σ H _ _ a b Q I ra rb ⟨_, _, rfl, rfl, q⟩
      · cases e
    · cases e
  | In =>
    rcases in1 k e with ⟨c, z, rfl, rfl, rfl⟩ | ⟨p, xs, rfl, h1, h2, h3, rfl⟩
    · exact op_in_sign pins s σ H _ _ a b Q I ra rb ⟨c, z, rfl, rfl, q⟩
    · exact op_in_seq pins s σ H _ _ a b Q I ra rb ⟨p, xs, rfl, h1, h2, h3, q⟩
  | NotIn =>
    have e' : (inD st x y).map not = some k := e
    cases hq : inD st x y with
    | none => rw [hq] at e'; cases e'
    | some k' =>
      rw [hq] at e'
      cases e'
      rcases in1 k' hq with ⟨c, z, rfl, rfl, rfl⟩ | ⟨p, xs, rfl, h1, h2, h3, rfl⟩
      · exact op_notIn_sign pins s σ H _ _ a b Q I ra rb ⟨c, z, rfl, rfl, q⟩
      · exact op_notIn_seq pins s σ H _ _ a b Q I ra rb ⟨p, xs, rfl, h1, h2, h3, q⟩
end
end Mini

set_option Elab.async false
set_option linter.all false
set_option maxRecDepth 100000
set_option maxHeartbeats 4000000
namespace Mini
open PySem L2
/-! ### texts -/
section
open Builtin Builtin.Str StrLaws
theorem occ_full (x y : Str) (hi : Nat) : ∀ (l : List Nat) (st : Array Nat × Nat), 1 ≤ st.fst.size → (forIn l st (occBody x y hi 1)).run.fst = st.fst
  | [], st, _ => rfl
  | a :: l, st, h => by
    rw [List.forIn_cons]
    unfold occBody
    rw [if_neg (by omega)]
    exact occ_full x y hi l _ h
theorem occ_find (a : List Nat) (c : Nat) : ∀ (m lo free : Nat), lo + m = a.length + 1 → free ≤ lo →
    (forIn (List.range' lo m) ((#[] : Array Nat), free) (occBody ⟨a.toArray⟩ ⟨#[c]⟩ a.length 1)).run.fst.toList = (if findS c (a.drop lo) lo < 0 then [] else [(findS c (a.drop lo) lo).toNat])
  | 0, lo, free, h, _ => by
    rw [List.drop_eq_nil_of_le (by omega)]
    rfl
  | m + 1, lo, free, h, hf => by
    rw [List.range'_succ, List.forIn_cons]
    have key := subAt_one (⟨a.toArray⟩ : Str) c lo
    have hl : (⟨a.toArray⟩ : Str).length = a.length := str_len a
    rw [hl] at key
    have one : (⟨#[c]⟩ : Str).length = 1 := rfl
    rw [one] at key
    by_cases hlo : lo < a.length
    · rw [List.drop_eq_getElem_cons hlo]
      by_cases hc : a[lo] = c
      · have hk : (a : List Nat)[lo]? = some c := by rw [List.getElem?_eq_getElem hlo, hc]
        obtain ⟨k1, k2⟩ := key.mpr hk
        have c1 : ((((#[] : Array Nat), free).fst.size < 1 ∧ ((#[] : Array Nat), free).snd ≤ lo) ∧ lo + (⟨#[c]⟩ : Str).length ≤ a.length) ∧ subAt ⟨a.toArray⟩ ⟨#[c]⟩ lo = true := ⟨⟨⟨by simp, hf⟩, k1⟩, k2⟩
        have e1 : occBody ⟨a.toArray⟩ ⟨#[c]⟩ a.length 1 lo ((#[] : Array Nat), free) = pure (ForInStep.yield (#[lo], lo + 1)) := by
          unfold occBody
          rw [if_pos c1]; rfl
        rw [e1]
        have e2 := occ_full ⟨a.toArray⟩ ⟨#[c]⟩ a.length (List.range' (lo + 1) m) (#[lo], lo + 1) (by simp)
        have e3 : findS c (a[lo] :: a.drop (lo + 1)) lo = (lo : Int) := by
          unfold findS
          rw [if_pos hc]
        rw [e3, if_neg (by omega)]
        show (forIn (List.range' (lo + 1) m) ((#[lo] : Array Nat), lo + 1) (occBody ⟨a.toArray⟩ ⟨#[c]⟩ a.length 1)).run.fst.toList = _
        rw [e2]
        simp
      · have hk : ¬ (a : List Nat)[lo]? = some c := by rw [List.getElem?_eq_getElem hlo]; simpa using hc
        have c2 : ¬ (((((#[] : Array Nat), free).fst.size < 1 ∧ ((#[] : Array Nat), free).snd ≤ lo) ∧ lo + (⟨#[c]⟩ : Str).length ≤ a.length) ∧ subAt ⟨a.toArray⟩ ⟨#[c]⟩ lo = true) := fun z => hk (key.mp ⟨z.1.2, z.2⟩)
        have e1 : occBody ⟨a.toArray⟩ ⟨#[c]⟩ a.length 1 lo ((#[] : Array Nat), free) = pure (ForInStep.yield (#[], free)) := by
          unfold occBody
          rw [if_neg c2]
        rw [e1]
        have ih := occ_find a c m (lo + 1) free (by omega) (by omega)
        have e3 : findS c (a[lo] :: a.drop (lo + 1)) lo = findS c (a.drop (lo + 1)) (lo + 1) := by
          conv => lhs; unfold findS
          rw [if_neg hc]
        rw [e3]
        exact ih
    · have hk : ¬ (a : List Nat)[lo]? = some c := by rw [List.getElem?_eq_none (by omega)]; simp
      have c2 : ¬ (((((#[] : Array Nat), free).fst.size < 1 ∧ ((#[] : Array Nat), free).snd ≤ lo) ∧ lo + (⟨#[c]⟩ : Str).length ≤ a.length) ∧ subAt ⟨a.toArray⟩ ⟨#[c]⟩ lo = true) := fun z => hk (key.mp ⟨z.1.2, z.2⟩)
      have e1 : occBody ⟨a.toArray⟩ ⟨#[c]⟩ a.length 1 lo ((#[] : Array Nat), free) = pure (ForInStep.yield (#[], free)) := by
        unfold occBody
        rw [if_neg c2]
      rw [e1]
      have ih := occ_find a c m (lo + 1) free (by omega) (by omega)
      rw [List.drop_eq_nil_of_le (by omega)] at ih ⊢
      exact ih
theorem occ_one (a : List Nat) (c lo : Nat) (h : lo ≤ a.length) : occurrences ⟨a.toArray⟩ ⟨#[c]⟩ lo a.length 1 = (if findS c (a.drop lo) lo < 0 then [] else [(findS c (a.drop lo) lo).toNat]) := by
  rw [occ_eq]
  exact occ_find a c _ lo lo (by omega) (Nat.le_refl _)
theorem findS_ge (c : Nat) : ∀ (l : List Nat) (i : Nat), -1 ≤ findS c l i
  | [], _ => by show (-1 : Int) ≤ -1; omega
  | x :: r, i => by
    unfold findS
    split
    · omega
    · exact findS_ge c r (i + 1)
theorem match_find (k : Int) (h : -1 ≤ k) : (match (if k < 0 then ([] : List Nat) else [k.toNat]) with | i :: _ => (i : Int) | [] => -1) = k := by
  by_cases hk : k < 0
  · rw [if_pos hk]
    show (-1 : Int) = k
    omega
  · rw [if_neg hk]
    show ((k.toNat : Nat) : Int) = k
    omega
theorem find_one (a : List Nat) (c : Nat) : Txt.find ⟨a.toArray⟩ ⟨#[c]⟩ = findS c a 0 := by
  unfold Txt.find
  rw [str_len, occ_one a c 0 (Nat.zero_le _), List.drop_zero]
  exact match_find _ (findS_ge c a 0)
theorem find3_one (a : List Nat) (c : Nat) (i : Int) (h0 : 0 ≤ i) (h : i ≤ a.length) : Txt.find3 ⟨a.toArray⟩ ⟨#[c]⟩ i = findS c (a.drop i.toNat) i.toNat := by
  unfold Txt.find3
  have e : fromIndex (⟨a.toArray⟩ : Str).length i = i.toNat := by
    unfold fromIndex
    rw [if_neg (by omega)]
    omega
  rw [e, str_len, occ_one a c i.toNat (by omega)]
  exact match_find _ (findS_ge c _ _)
theorem spl_split (c : Nat) : ∀ (l acc : List Nat), TL.spl [c] 0 acc l = splitS c acc l
  | [], acc => by rw [TL.spl_nil]; rfl
  | x :: r, acc => by
    unfold splitS
    by_cases h : x = c
    · rw [if_pos h]
      rw [TL.spl_hit (by simp [TL.pre, h])]
      rw [show ([c] : List Nat).length - 1 = 0 from rfl, spl_split c r []]
    · rw [if_neg h]
      rw [TL.spl_miss (by simp [TL.pre, h])]
      exact spl_split c r (acc ++ [x])
theorem split_one (a : List Nat) (c : Nat) (hc : c < 256) : Txt.split ⟨a.toArray⟩ ⟨#[c]⟩ = (splitS c [] a).map fun l => (⟨l.toArray⟩ : Str) := by
  have := SX.split_S (a := a) (b := [c]) (by simp) (by simp [hc])
  rw [spl_split] at this
  exact this
theorem joinL_S (sep : S) : ∀ l : List S, TL.joinL sep l = joinS sep l
  | [] => rfl
  | [s] => by simp [TL.joinL, joinS]
  | s :: t :: r => by
    have := joinL_S sep (t :: r)
    unfold TL.joinL joinS
    rw [this, List.append_assoc]
theorem lstrip_set (a cs : List Nat) : Txt.lstripChars ⟨a.toArray⟩ ⟨cs.toArray⟩ = ⟨(a.dropWhile fun x => cs.contains x).toArray⟩ := by
  have hc : (fun x => (cs.toArray).contains x) = (fun x => cs.contains x) := by
    funext x
    simp
  unfold Txt.lstripChars Txt.stripBy
  have e0 : stripLo (⟨cs.toArray⟩ : Str).cps.contains true ⟨a.toArray⟩ = (a.takeWhile (fun x => cs.contains x)).length := by
    unfold stripLo
    rw [if_pos rfl]
    show (a.takeWhile (fun x => (cs.toArray : Array Nat).contains x)).length = _
    rw [hc]
  have e1 : stripHi (⟨cs.toArray⟩ : Str).cps.contains false ⟨a.toArray⟩ (stripLo (⟨cs.toArray⟩ : Str).cps.contains true ⟨a.toArray⟩) = a.length := by
    unfold stripHi
    rw [if_neg (by simp)]
    exact str_len a
  have dw : a.dropWhile (fun x => cs.contains x) = a.drop (a.takeWhile (fun x => cs.contains x)).length := by
    have := List.takeWhile_append_dropWhile (p := fun x => cs.contains x) (l := a)
    conv => rhs; rw [← this]
    rw [List.drop_left']
    simp
  split
  · rename_i h
    unfold stripSame at h
    rw [Bool.and_eq_true, beq_iff_eq, e0] at h
    rw [dw, h.1, List.drop_zero]
  · unfold stripped
    rw [e1, e0]
    apply TL.ext_tl
    have := TL.tl_strSub_end (⟨a.toArray⟩ : Str) (a.takeWhile (fun x => cs.contains x)).length
    rw [str_len] at this
    rw [this, dw]
theorem strip_set (a cs : List Nat) : Txt.stripChars ⟨a.toArray⟩ ⟨cs.toArray⟩ = ⟨(stripS cs a).toArray⟩ := by
  have hc : (fun x => (cs.toArray).contains x) = (fun x => cs.contains x) := by
    funext x
    simp
  unfold Txt.stripChars Txt.stripBy stripS
  have e0 : stripLo (⟨cs.toArray⟩ : Str).cps.contains true ⟨a.toArray⟩ = (a.takeWhile (fun x => cs.contains x)).length := by
    unfold stripLo
    rw [if_pos rfl]
    show (a.takeWhile (fun x => (cs.toArray : Array Nat).contains x)).length = _
    rw [hc]
  have e1 : stripHi (⟨cs.toArray⟩ : Str).cps.contains true ⟨a.toArray⟩ (stripLo (⟨cs.toArray⟩ : Str).cps.contains true ⟨a.toArray⟩) = a.length - ((a.drop (a.takeWhile (fun x => cs.contains x)).length).reverse.takeWhile fun x => cs.contains x).length := by
    rw [e0]
    unfold stripHi
    rw [if_pos rfl, str_len]
    show a.length - ((a.drop (a.takeWhile (fun x => cs.contains x)).length).reverse.takeWhile (fun x => (cs.toArray : Array Nat).contains x)).length = _
    rw [hc]
  generalize hlo : (a.takeWhile fun x => cs.contains x).length = lo at *
  generalize hhi : ((a.drop lo).reverse.takeWhile fun x => cs.contains x).length = q at *
  split
  · rename_i h
    unfold stripSame at h
    rw [e1] at h
    rw [Bool.and_eq_true, beq_iff_eq, e0, beq_iff_eq, str_len] at h
    rw [h.1, h.2, List.drop_zero, Nat.sub_zero, List.take_length]
  · unfold stripped
    rw [e1, e0]
    apply TL.ext_tl
    exact TL.tl_strSub (⟨a.toArray⟩ : Str) lo (a.length - q)
theorem stripS_sub (cs a : S) : (stripS cs a).Sublist a := (List.take_sublist _ _).trans (List.drop_sublist _ _)
theorem ends_one (a b : List Nat) : Txt.endswith ⟨a.toArray⟩ ⟨b.toArray⟩ = b.isSuffixOf a := by
  unfold Txt.endswith
  rw [str_len, str_len, subAt_eq]
  rw [Bool.eq_iff_iff]
  simp only [Bool.and_eq_true, decide_eq_true_eq, beq_iff_eq, List.isSuffixOf_iff_suffix]
  constructor
  · rintro ⟨h1, h2⟩
    have h3 : (a.drop (a.length - b.length)).take b.length = b := by simpa [str_len] using h2
    rw [List.take_of_length_le (by rw [List.length_drop]; omega)] at h3
    refine ⟨a.take (a.length - b.length), ?_⟩
    conv => lhs; rhs; rw [← h3]
    exact List.take_append_drop _ _
  · rintro ⟨p, rfl⟩
    refine ⟨by simp, ?_⟩
    simp [str_len]
end
end Mini

set_option Elab.async false
set_option linter.all false
set_option maxRecDepth 100000
set_option maxHeartbeats 4000000
namespace Mini
open PySem L2
section
variable {X : Cx} {F : Fix}
theorem atI_rep {K : PySem.W.Frag} {G : Nat → V → Prop} {μ : List Addr} {H : Hp} {xs : List D} {vs : List V} {i : Int} {d : D} (r : RepL K G μ H xs vs) (e : atI xs i = some d) : ∃ v, atI vs i = some v ∧ Rep K G μ H d v := by
  unfold atI at e ⊢
  rw [r.length]
  cases h : ixN xs.length i with
  | none => rw [h] at e; cases e
  | some j =>
    rw [h] at e
    exact r.get e
/-! ### dicts -/
def rIxD : R2 := fun x y H Q => ∃ a v, x = .ref a ∧ DGet H a y (some v) ∧ Q v H
theorem ix_dict (hu : X.A.units + 1 < cLine) : IxR X rIxD := by
  intro value slice pins s σ H x y v u Q I rx ry h hs
  obtain ⟨a, z, rfl, g, q⟩ := h
  obtain rfl : v = Value.ref a := rx
  have hT := dict_typeIs I g
  unfold PyProof.Rows.subscriptTail
  refine wpAny_bind ?_
  rw [getitemInPython_of_ne hT.not_modules]
  refine wpAny_bind (wpAny_specialOf hT PySem.F.slot_dict_getitem.lookup ?_)
  have fin : wpAny (model X.prog X.w) X.A (subscripted slice false (.ref a) u) (fun r s₃ => wpAny (model X.prog X.w) X.A (letTemporaryGo value (.ref a) r >>= fun _ => pure r) (EP X pins σ Q) X.xe s₃) X.xe s := by
    rw [hs]
    exact wpAny_operating (wpAny_mono (d_getItem hu I g ry fun w' s3 I3 rw' => (⟨z, H, I3, rw', q⟩ : EP X pins σ Q w' s3)) (fun r s₃ h₃ => wpAny_bind (wpAny_letTemporaryGo (wpAny_pure h₃))) fun _ _ x => x)
  first
    | exact wpAny_pure (wpAny_bind fin)
    | exact wpAny_bind (wpAny_pure (wpAny_bind fin))
    | exact wpAny_bind fin
theorem kOf_inj {a b : DKey} (h : kOf a = kOf b) : a = b := by
  cases a <;> cases b <;> simp [kOf] at h ⊢
  · exact h
  · simpa using h
theorem look_rep {K : PySem.W.Frag} {G : Nat → V → Prop} {μ : List Addr} {H : Hp} {k : DKey} : ∀ {kvs : List (DKey × D)} {vs : List (Key × V)} {d : D}, RepKV K G μ H kvs vs → lookD k kvs = some d → ∃ v, valV vs (kOf k) = some v ∧ Rep K G μ H d v
  | [], _, _, _, e => by cases e
  | (j, x) :: r, _, d, h, e => by
    obtain ⟨v, r', rfl, h1, h2⟩ := h
    unfold lookD at e
    split at e
    · rename_i c
      cases e
      subst c
      exact ⟨v, valV_pos rfl, h1⟩
    · rename_i c
      obtain ⟨w, q1, q2⟩ := look_rep h2 e
      refine ⟨w, ?_, q2⟩
      unfold valV at q1 ⊢
      rw [List.find?_cons_of_neg (by simpa using fun z => c (kOf_inj z))]
      exact q1
theorem dct_at {μ : List Addr} {st : Sto} {H : Hp} {x : D} {v : V} {k : DKey} {d : D} (sr : SRep F.K F.G μ st H) (rx : Rep F.K F.G μ H x v) (e : dctD st x k = some d) : ∃ a kvs w, v = .ref a ∧ H a = some (.dK kvs) ∧ valV kvs (kOf k) = some w ∧ Rep F.K F.G μ H d w := by
  unfold dctD at e
  split at e
  · rename_i i
    split at e
    · rename_i kvs hk
      obtain ⟨a, rfl, h1⟩ := repO rx
      obtain ⟨vs, h2, h3⟩ := sr.at_ _ _ _ hk h1
      obtain ⟨w, q1, q2⟩ := look_rep h3 e
      exact ⟨a, vs, w, rfl, h2, q1, q2⟩
    · cases e
  · cases e
def rSub (F : Fix) : R2 := fun v w H Q => ∃ μ st x y d, SRep F.K F.G μ st H ∧ Rep F.K F.G μ H x v ∧ Rep F.K F.G μ H y w ∧ subD st x y = some d ∧ ∀ u, Rep F.K F.G μ H d u → Q u H
theorem ix_sub (hK : X.K = F.K) (hu : X.A.units + 1 < cLine) : IxR X (rSub F) := by
  intro value slice pins s σ H v w a b Q I ra rb h hs
  obtain ⟨μ, st, x, y, d, sr, rx, ry, e, q⟩ := h
  unfold subD at e
  split at e
  · rename_i z i
    obtain ⟨rfl, h1, h2⟩ := repS rx
    cases repI ry
    cases ha : atI z i with
    | none => rw [ha] at e; cases e
    | some c =>
      rw [ha] at e
      cases e
      refine ix_str value slice pins s σ H _ _ a b Q I ra rb ⟨_, _, c, rfl, rfl, by rw [str_len]; exact h1, ha, q _ (mkS ?_ ?_)⟩ hs
      · rw [LN_eq]; show 1 ≤ 16777216; omega
      · intro k hk
        rw [List.mem_singleton.mp hk]
        unfold atI at ha
        cases hj : ixN z.length i with
        | none => rw [hj] at ha; cases ha
        | some j =>
          rw [hj] at ha
          exact h2 c (List.mem_of_getElem? ha)
  · split at e
    · rename_i xs hx
      obtain ⟨p, vs, rfl, h1, h2⟩ := items_sq sr rx hx
      cases repI ry
      obtain ⟨u, h3, h4⟩ := atI_rep h2 e
      rcases h1 with h1 | h1
      · exact ix_list value slice pins s σ H _ _ a b Q I ra rb ⟨p, vs, _, u, rfl, rfl, by rw [hK]; exact h1, h3, q u h4⟩ hs
      · exact ix_tup value slice pins s σ H _ _ a b Q I ra rb ⟨p, vs, _, u, rfl, rfl, by rw [hK]; exact h1, h3, q u h4⟩ hs
    · obtain ⟨p, kvs, u, rfl, h1, h2, h3⟩ := dct_at sr rx e
      cases repI ry
      exact ix_dict hu value slice pins s σ H _ _ a b Q I ra rb ⟨p, u, rfl, .inl ⟨kvs, _, .inl h1, rfl, h2.symm⟩, q u h3⟩ hs
  · obtain ⟨p, kvs, u, rfl, h1, h2, h3⟩ := dct_at sr rx e
    obtain ⟨rfl, _, _⟩ := repS ry
    exact ix_dict hu value slice pins s σ H _ _ a b Q I ra rb ⟨p, u, rfl, .inl ⟨kvs, _, .inl h1, rfl, h2.symm⟩, q u h3⟩ hs
  · cases e
def rSlc (F : Fix) : V → Option Int → Option Int → Hp → VK → Prop := fun v lo hi H Q => ∃ W σ μ st x, SRep F.K F.G μ st H ∧ Rep F.K F.G μ H x v ∧ tM F W σ μ H (RD F) (slcD x lo hi st) Q
theorem cut_rep {K : PySem.W.Frag} {G : Nat → V → Prop} {μ : List Addr} {H : Hp} {xs : List D} {vs : List V} (r : RepL K G μ H xs vs) (lo hi : Option Int) : RepL K G μ H (cut xs lo hi) (cutV vs lo hi) := by
  unfold cut cutV
  rw [r.length]
  exact (r.drop _).take _
theorem cut_len {α : Type} (xs : List α) (lo hi : Option Int) : (cut xs lo hi).length ≤ xs.length := by
  unfold cut
  rw [List.length_take, List.length_drop]
  omega
theorem cut_mem {α : Type} {xs : List α} {lo hi : Option Int} {x : α} (h : x ∈ cut xs lo hi) : x ∈ xs := by
  unfold cut at h
  exact List.mem_of_mem_drop (List.mem_of_mem_take h)
theorem sl_slc (hK : X.K = F.K) : SlR X (rSlc F) := by
  intro pins s σ H v a vl vu lo hi sl Q I ra hs pl pu h
  obtain ⟨W, σ', μ, st, x, sr, rx, t⟩ := h
  unfold slcD at t
  split at t
  · rename_i z
    obtain ⟨rfl, h1, h2⟩ := repS rx
    refine sl_str pins s σ H _ a vl vu lo hi sl Q I ra hs pl pu ⟨_, rfl, by rw [str_len]; exact h1, ?_⟩
    have e : cutS (⟨z.toArray⟩ : Str) lo hi = ⟨(cut z lo hi).toArray⟩ := by
      unfold cutS cut
      rw [str_len]
    rw [e]
    exact t.ok sr (mkS (Nat.le_trans (cut_len _ _ _) h1) fun c hc => h2 c (cut_mem hc))
  · rename_i xs
    obtain ⟨p, vs, rfl, h1, h2⟩ := repT rx
    refine sl_tupA pins s σ H _ a vl vu lo hi sl Q I ra hs pl pu ⟨p, vs, rfl, by rw [hK]; exact h1, fun z => ?_, fun _ n hn => t.tup sr (cut_rep h2 lo hi) hn⟩
    have e : cut xs lo hi = xs := by
      unfold cut
      rw [← h2.length, z.1, z.2, h2.length]
      simp
    rw [e] at t
    exact t.ok sr rx
  · obtain ⟨p, vs, rfl, h1, h2⟩ := repR rx
    exact sl_list pins s σ H _ a vl vu lo hi sl Q I ra hs pl pu ⟨p, vs, rfl, by rw [hK]; exact h1.sq, fun n hn => t.newL sr (cut_rep h2 lo hi) hn⟩
  · split at t
    · rename_i xs hx
      obtain ⟨p, vs, rfl, h1, h2⟩ := litems_sq sr rx hx
      exact sl_list pins s σ H _ a vl vu lo hi sl Q I ra hs pl pu ⟨p, vs, rfl, .inl (.inl h1), fun n hn => t.newL sr (cut_rep h2 lo hi) hn⟩
    · exact t.no.elim
  · exact t.no.elim
/-! ### built-ins -/
def rBlt (F : Fix) (b : Bt) : List V → Hp → VK → Prop := fun vs H Q => ∃ W σ μ st ds, SRep F.K F.G μ st H ∧ RepL F.K F.G μ H ds vs ∧ tM F W σ μ H (RD F) (bltD b ds st) Q
theorem rep1 {μ : List Addr} {H : Hp} {d : D} {vs : List V} (h : RepL F.K F.G μ H [d] vs) : ∃ v, vs = [v] ∧ Rep F.K F.G μ H d v := by
  unfold RepL at h
  obtain ⟨v, r, rfl, h1, h2⟩ := h
  unfold RepL at h2
  subst h2
  exact ⟨v, rfl, h1⟩
theorem rep2 {μ : List Addr} {H : Hp} {d e : D} {vs : List V} (h : RepL F.K F.G μ H [d, e] vs) : ∃ v w, vs = [v, w] ∧ Rep F.K F.G μ H d v ∧ Rep F.K F.G μ H e w := by
  unfold RepL at h
  obtain ⟨v, r, rfl, h1, h2⟩ := h
  obtain ⟨w, rfl, h3⟩ := rep1 h2
  exact ⟨v, w, rfl, h1, h3⟩
theorem rep0 {μ : List Addr} {H : Hp} {vs : List V} (h : RepL F.K F.G μ H [] vs) : vs = [] := by
  unfold RepL at h
  exact h
theorem bools_rep {μ : List Addr} {H : Hp} : ∀ {xs : List D} {vs : List V} {bs : List Bool}, RepL F.K F.G μ H xs vs → boolsD xs = some bs → vs = bs.map V.bl
  | [], _, _, h, e => by cases e; exact rep0 h
  | x :: xs, _, bs, h, e => by
    unfold RepL at h
    obtain ⟨v, r, rfl, h1, h2⟩ := h
    unfold boolsD at e
    split at e
    · rename_i heq; cases heq
    · split at e
      · rename_i heq _ _ hb
        cases e
        cases heq
        cases repB h1
        rw [List.map_cons, bools_rep h2 hb]
      · cases e
    · cases e
theorem ints_rep {μ : List Addr} {H : Hp} : ∀ {xs : List D} {vs : List V} {bs : List Int}, RepL F.K F.G μ H xs vs → intsD xs = some bs → vs = bs.map V.int
  | [], _, _, h, e => by cases e; exact rep0 h
  | x :: xs, _, bs, h, e => by
    unfold RepL at h
    obtain ⟨v, r, rfl, h1, h2⟩ := h
    unfold intsD at e
    split at e
    · rename_i heq; cases heq
    · split at e
      · rename_i heq _ _ hb
        cases e
        cases heq
        cases repI h1
        rw [List.map_cons, ints_rep h2 hb]
      · cases e
    · cases e
theorem strs_rep {μ : List Addr} {H : Hp} : ∀ {xs : List D} {vs : List V} {bs : List S}, RepL F.K F.G μ H xs vs → strsD xs = some bs → vs = (bs.map fun l => (⟨l.toArray⟩ : Str)).map V.str ∧ ∀ b ∈ bs, ∀ c ∈ b, c < 1114112
  | [], _, _, h, e => by cases e; exact ⟨rep0 h, fun b hb => by simp at hb⟩
  | x :: xs, _, bs, h, e => by
    unfold RepL at h
    obtain ⟨v, r, rfl, h1, h2⟩ := h
    unfold strsD at e
    split at e
    · rename_i heq; cases heq
    · split at e
      · rename_i heq _ _ hb
        cases e
        cases heq
        obtain ⟨rfl, q1, q2⟩ := repS h1
        obtain ⟨z1, z2⟩ := strs_rep h2 hb
        refine ⟨by rw [List.map_cons, List.map_cons, z1], fun b hb' => ?_⟩
        rcases List.mem_cons.mp hb' with z | z
        · subst z; exact q2
        · exact z2 b z
      · cases e
    · cases e
/-- what a built-in function is -/
def bltV : Bt → Value
  | .len => .builtin "len"
  | .int => .type "int"
  | .abs => .builtin "abs"
  | .max => .builtin "max"
  | .min => .builtin "min"
  | .tuple => .type "tuple"
  | .list => .type "list"
  | .all => .builtin "all"
  | .any => .builtin "any"
  | .sum => .builtin "sum"
theorem rep3 {K : PySem.W.Frag} {G : Nat → V → Prop} {μ : List Addr} {H : Hp} {a b c : D} {vs : List V} (r : RepL K G μ H [a, b, c] vs) : ∃ v w u, vs = [v, w, u] ∧ Rep K G μ H a v ∧ Rep K G μ H b w ∧ Rep K G μ H c u := by
  unfold RepL at r
  obtain ⟨v, t, rfl, h1, h2⟩ := r
  unfold RepL at h2
  obtain ⟨w, t, rfl, h3, h4⟩ := h2
  unfold RepL at h4
  obtain ⟨u, t, rfl, h5, h6⟩ := h4
  unfold RepL at h6
  subst h6
  exact ⟨v, w, u, rfl, h1, h3, h5⟩
theorem max2_eq (i j : Int) : nuMax2 (.int i) (.int j) = some (.int (max i j)) := by
  show some (if decide (i < j) = true then V.int j else V.int i) = _
  by_cases h : i < j
  · rw [if_pos (by simpa using h), Int.max_eq_right (by omega)]
  · rw [if_neg (by simpa using h), Int.max_eq_left (by omega)]
theorem max3_eq (i j k : Int) : nuMax3 (.int i) (.int j) (.int k) = some (.int (max (max i j) k)) := by
  unfold nuMax3
  rw [max2_eq]
  exact max2_eq _ _
theorem call_blt (hK : X.K = F.K) (hc : X.calm = true) (b : Bt) : CallR X (bltV b) (rBlt F b) := by
  intro pins s σ H vs us Q I ru h
  obtain ⟨W, σ', μ, st, ds, sr, rd, t⟩ := h
  unfold bltD at t
  split at t
  · obtain ⟨v, rfl, r1⟩ := rep1 rd
    obtain ⟨rfl, h1, h2⟩ := repS r1
    refine call_len pins s σ H _ us Q I ru ⟨_, _, rfl, ⟨by rw [str_len]; exact h1, rfl⟩, ?_⟩
    rw [str_len]
    exact t.ok sr mkI
  · obtain ⟨v, rfl, r1⟩ := rep1 rd
    split at t
    · rename_i xs hx
      obtain ⟨p, ws, rfl, h1, h2⟩ := items_sq sr r1 hx
      have q : Q (.int ws.length) H := by rw [h2.length]; exact t.ok sr mkI
      rcases h1 with h1 | h1
      · exact call_len pins s σ H _ us Q I ru ⟨_, _, rfl, .inl ⟨ws, by rw [hK]; exact h1, rfl⟩, q⟩
      · exact call_len pins s σ H _ us Q I ru ⟨_, _, rfl, .inr ⟨ws, by rw [hK]; exact h1, rfl⟩, q⟩
    · exact t.no.elim
  · obtain ⟨v, rfl, r1⟩ := rep1 rd
    cases repI r1
    exact call_int1 pins s σ H _ us Q I ru (.inl ⟨_, rfl, t.ok sr mkI⟩)
  · obtain ⟨v, rfl, r1⟩ := rep1 rd
    cases repB r1
    exact call_int1 pins s σ H _ us Q I ru (.inr ⟨_, rfl, t.ok sr mkI⟩)
  · obtain ⟨v, rfl, r1⟩ := rep1 rd
    cases repI r1
    exact call_abs pins s σ H _ us Q I ru ⟨_, rfl, t.ok sr mkI⟩
  · obtain ⟨v, w, rfl, r1, r2⟩ := rep2 rd
    cases repI r1; cases repI r2
    exact call_max2 hc pins s σ H _ us Q I ru ⟨_, _, rfl, t.ok sr mkI⟩
  · obtain ⟨v, w, u, rfl, r1, r2, r3⟩ := rep3 rd
    cases repI r1; cases repI r2; cases repI r3
    exact call_max3Nu hc pins s σ H _ us Q I ru ⟨_, _, _, _, rfl, max3_eq _ _ _, t.ok sr mkI⟩
  · obtain ⟨v, w, rfl, r1, r2⟩ := rep2 rd
    cases repI r1; cases repI r2
    exact call_min2 hc pins s σ H _ us Q I ru ⟨_, _, rfl, t.ok sr mkI⟩
  · obtain ⟨v, rfl, r1⟩ := rep1 rd
    split at t
    · rename_i xs hx
      obtain ⟨p, ws, rfl, h1, h2⟩ := items_sq sr r1 hx
      rcases h1 with h1 | h1
      · exact call_tuple_of pins s σ H _ us Q I ru ⟨p, ws, rfl, .inl ⟨by rw [hK]; exact h1, fun n hn => t.tup sr h2 hn⟩⟩
      · exact call_tuple_of pins s σ H _ us Q I ru ⟨p, ws, rfl, .inr ⟨by rw [hK]; exact h1, t.ok sr (mkT h1 h2)⟩⟩
    · exact t.no.elim
  · obtain ⟨v, rfl, r1⟩ := rep1 rd
    split at t
    · rename_i xs hx
      obtain ⟨p, ws, rfl, h1, h2⟩ := items_sq sr r1 hx
      exact call_list_of pins s σ H _ us Q I ru ⟨p, ws, rfl, by rw [hK]; exact h1, fun n hn => t.newL sr h2 hn⟩
    · exact t.no.elim
  · obtain ⟨v, rfl, r1⟩ := rep1 rd
    split at t
    · rename_i bs hx
      obtain ⟨xs, hx1, hx2⟩ := Option.bind_eq_some_iff.mp hx
      obtain ⟨p, ws, rfl, h1, h2⟩ := litems_sq sr r1 hx1
      have e := bools_rep h2 hx2
      subst e
      exact cr_all hc pins s σ H _ us Q I ru ⟨p, bs, rfl, .inl (.inl h1), t.ok sr mkB⟩
    · exact t.no.elim
  · obtain ⟨v, rfl, r1⟩ := rep1 rd
    split at t
    · rename_i bs hx
      obtain ⟨xs, hx1, hx2⟩ := Option.bind_eq_some_iff.mp hx
      obtain ⟨p, ws, rfl, h1, h2⟩ := litems_sq sr r1 hx1
      have e := bools_rep h2 hx2
      subst e
      exact cr_any hc pins s σ H _ us Q I ru ⟨p, bs, rfl, .inl (.inl h1), t.ok sr mkB⟩
    · exact t.no.elim
  · obtain ⟨v, rfl, r1⟩ := rep1 rd
    split at t
    · rename_i bs hx
      obtain ⟨xs, hx1, hx2⟩ := Option.bind_eq_some_iff.mp hx
      obtain ⟨p, ws, rfl, h1, h2⟩ := litems_sq sr r1 hx1
      have e := ints_rep h2 hx2
      subst e
      exact cr_sum hc pins s σ H _ us Q I ru ⟨p, bs, rfl, .inl (.inl h1), t.ok sr mkI⟩
    · exact t.no.elim
  · exact t.no.elim
end
end Mini

set_option Elab.async false
set_option linter.all false
set_option maxRecDepth 100000
set_option maxHeartbeats 4000000
/-! Slices with a step. -/
namespace Mini
open PySem L2
open PyProof.Rows hiding St
theorem takeIx_cons {α : Type} (xs : List α) (i : Nat) (is : List Nat) : takeIx xs (i :: is) = match xs[i]? with
    | some x => x :: takeIx xs is
    | none => takeIx xs is := by
  unfold takeIx
  rw [List.filterMap_cons]
  cases xs[i]? <;> rfl
theorem takeIx_len {α : Type} (xs : List α) (is : List Nat) : (takeIx xs is).length ≤ is.length := List.length_filterMap_le _ _
theorem RepL.pick {K : PySem.W.Frag} {G : Nat → V → Prop} {μ : List Addr} {H : Hp} {xs : List D} {vs : List V} (r : RepL K G μ H xs vs) : ∀ is : List Nat, RepL K G μ H (takeIx xs is) (takeIx vs is)
  | [] => by unfold takeIx; unfold RepL; rfl
  | i :: is => by
    rw [takeIx_cons, takeIx_cons]
    cases h : xs[i]? with
    | none =>
      have hv : vs[i]? = none := by
        rw [List.getElem?_eq_none_iff] at h ⊢
        rw [r.length]
        exact h
      rw [hv]
      exact RepL.pick r is
    | some d =>
      obtain ⟨v, h1, h2⟩ := r.get h
      rw [h1]
      exact RepL.cons h2 (RepL.pick r is)
theorem vals_pick {vs : List V} {us : List Value} (r : Vals vs us) : ∀ is : List Nat, Vals (takeIx vs is) (takeIx us is)
  | [] => .nil
  | i :: is => by
    rw [takeIx_cons, takeIx_cons]
    cases h : vs[i]? with
    | none =>
      have hv : us[i]? = none := by
        rw [List.getElem?_eq_none_iff] at h ⊢
        rw [← r.length]
        exact h
      rw [hv]
      exact vals_pick r is
    | some d =>
      obtain ⟨v, h1, h2⟩ := r.get h
      rw [h1]
      exact .cons h2 (vals_pick r is)
section
variable {prog : Program} {w : World} {A : Around} {E : Value → Shared → Prop} {s : Shared}
theorem part_of {v : Value} {o : Option Int} {Q : Option Int → Shared → Prop} (p : IsPart v o) (h : Q o s) : wpAny (model prog w) A (Builtin.Slice.slicePartIndex v) Q E s := HT.slicePart_ p h
theorem applied_step {b : Addr} {vl vu vk : Value} {lo hi : Option Int} {k : Int} {n : Nat} {Q : Int × Int × Nat → Shared → Prop} (hb : s.heap.IsSliceOf b vl vu vk) (pl : IsPart vl lo) (pu : IsPart vu hi) (pk : IsPart vk (some k)) (h0 : k ≠ 0)
    (h : Q ((Builtin.Slice.sliceAdjust lo hi k n).1, k, Builtin.Slice.slicePlaces (Builtin.Slice.sliceAdjust lo hi k n).1 (Builtin.Slice.sliceAdjust lo hi k n).2 k) s) : wpAny (model prog w) A (Builtin.Slice.sliceApplied (.ref b) (pure (n : Int))) Q E s := by
  obtain ⟨ob, g1, _, g3⟩ := id hb
  unfold Builtin.Slice.sliceApplied Builtin.Slice.sliceFields
  refine wpAny_bind (wpAny_bind (wpAny_field g1 g3 (x := vl) rfl (wpAny_bind (wpAny_field g1 g3 (x := vu) rfl (wpAny_bind (wpAny_field g1 g3 (x := vk) rfl (wpAny_pure ?_)))))))
  refine wpAny_bind (part_of pk ?_)
  have hk : ¬ ((k == 0) = true) := by simpa using h0
  show wpAny _ _ (if (k == 0) = true then _ else _) _ _ s
  rw [if_neg hk]
  exact wpAny_bind (part_of pl (wpAny_bind (part_of pu (wpAny_bind (wpAny_pure (wpAny_pure h))))))
theorem tuple_step {t b : Addr} {its : Array Value} {vl vu vk : Value} {lo hi : Option Int} {k : Int} {Q : Value → Shared → Prop} (ht : IsTup s.heap t its) (hb : s.heap.IsSliceOf b vl vu vk) (pl : IsPart vl lo) (pu : IsPart vu hi) (pk : IsPart vk (some k)) (h0 : k ≠ 0) (h1 : k ≠ 1)
    (hz : (stepT its.size lo hi k).length ≤ sizeLine)
    (h : Q (.ref s.heap.objs.size) { s with heap := s.heap.push { cls := .type "tuple", data := .seq (takeIx its.toList (stepT its.size lo hi k)).toArray } }) : wpAny (model prog w) A (getItem (.ref t) (.ref b)) Q E s := by
  have hok : sizeOk (.seq (takeIx its.toList (stepT its.size lo hi k)).toArray) := by
    show (takeIx its.toList (stepT its.size lo hi k)).toArray.size ≤ sizeLine
    rw [List.size_toArray]
    exact Nat.le_trans (takeIx_len _ _) hz
  have he : ((List.range (Builtin.Slice.slicePlaces (Builtin.Slice.sliceAdjust lo hi k its.size).1 (Builtin.Slice.sliceAdjust lo hi k its.size).2 k)).filterMap fun (m : Nat) => its[((Builtin.Slice.sliceAdjust lo hi k its.size).1 + (m : Int) * k).toNat]?) = takeIx its.toList (stepT its.size lo hi k) := by
    unfold takeIx stepT
    rw [List.filterMap_map]
    congr 1
    funext m
    simp
  obtain ⟨ob, g1, g2, g3⟩ := id hb
  have hT : s.TypeIs (.ref b) "slice" := ⟨ob, g1, g2⟩
  unfold getItem
  try with_reducible refine wpAny_holding ?_
  first | refine wpAny_bind (wpAny_pure ?_) | skip
  refine wpAny_bind (wpAny_sequenceKey ht.typeIs (by decide) ?_)
  refine wpAny_bind (wpAny_callSpecial?_slot (name := Str.ofString "__getitem__") ht.typeIs slot_tuple_getitem (wpAny_call_entry slot_tuple_getitem ht.typeIs entry_tuple_getitem ?_ (args_tuple_getitem _ _)))
  show wpAny _ _ (Builtin.Tuple.tupleItemsOf (.ref t) >>= _) _ _ s
  refine wpAny_bind (tupleItemsOf_ ht (wpAny_bind (wpAny_typeOf hT ?_)))
  rw [if_pos (by decide)]
  refine wpAny_bind (applied_step hb pl pu pk h0 ?_)
  have hk : (k == 1) = false := by simpa using h1
  have hno : ¬ (((Builtin.Slice.sliceAdjust lo hi k its.size).1 == 0 && k == 1 && Builtin.Slice.slicePlaces (Builtin.Slice.sliceAdjust lo hi k its.size).1 (Builtin.Slice.sliceAdjust lo hi k its.size).2 k == its.size) = true) := by
    rw [hk, Bool.and_false, Bool.false_and]
    exact Bool.false_ne_true
  show wpAny _ _ (if ((Builtin.Slice.sliceAdjust lo hi k its.size).1 == 0 && k == 1 && Builtin.Slice.slicePlaces (Builtin.Slice.sliceAdjust lo hi k its.size).1 (Builtin.Slice.sliceAdjust lo hi k its.size).2 k == its.size) = true then _ else _) _ _ s
  rw [if_neg hno, he]
  first
    | exact wpAny_bind (m := Builtin.Tuple.tupleExact _) (wpAny_newObj_type (wpAny_pure ⟨_, rfl, wpAny_pure h⟩) hok)
    | exact wpAny_bind (m := Builtin.Tuple.tupleExact _) (wpAny_newObj_type (wpAny_bind (wpAny_pure (wpAny_pure ⟨_, rfl, wpAny_pure h⟩))) hok)
    | exact wpAny_bind (wpAny_bind (m := Builtin.Tuple.tupleExact _) (wpAny_newObj_type (wpAny_pure (wpAny_pure ⟨_, rfl, wpAny_pure h⟩)) hok))
    | exact wpAny_bind (wpAny_bind (m := Builtin.Tuple.tupleExact _) (wpAny_newObj_type (wpAny_pure ⟨_, rfl, wpAny_pure h⟩) hok))
end
section
variable {X : Cx} {F : Fix}
/-- what a slice with a step is, by values -/
def Sl3 (X : Cx) (r : V → Option Int → Option Int → Int → Hp → VK → Prop) : Prop :=
  ∀ (pins : List (Addr × Obj)) (s : Shared) (σ : St) (H : Hp) (x : V) (v vl vu vk : Value) (lo hi : Option Int) (k : Int) (b : Addr) (Q : VK), Inv X pins σ H s → RelV x v → s.heap.IsSliceOf b vl vu vk → IsPart vl lo → IsPart vu hi → IsPart vk (some k) → r x lo hi k H Q →
    ∃ T id, typeLookup (.type T) "__getitem__" = pure (some (.builtin id)) ∧ s.TypeIs v T ∧ wpAny (model X.prog X.w) X.A (getItem v (.ref b)) (EP X pins σ Q) X.xe s
def tSl3 (r : V → Option Int → Option Int → Int → Hp → VK → Prop) (te : TE) (tl th tk : TO) : TE := fun σ H Q => te σ H fun x H1 => tl σ H1 fun l H2 => th σ H2 fun u H3 => tk σ H3 fun o H4 => ∃ k, o = some k ∧ r x l u k H4 Q
theorem pe_slice3 {r : V → Option Int → Option Int → Int → Hp → VK → Prop} {e f : Expr} {te : TE} {lo hi : Option Expr} {tl th tk : TO} {pos p2 : Pos} (hr : Sl3 X r) (he : PE X e te) (hl : PO X lo tl) (hu : PO X hi th) (hf : PO X (some f) tk) :
    PE X (.Subscript e (.Slice lo hi (some f) p2) pos) (tSl3 r te tl th tk) := by
  refine ⟨fun pins s σ H Q I h => Subscript_ (thn (he.run pins s σ H _ I h) fun v s1 ⟨x, H1, I1, r1, q1⟩ => ?_)⟩
  refine wpAny_Slice (thn (hl.run pins s1 σ H1 _ I1 q1) fun vl s2 ⟨l, H2, I2, pl, q2⟩ => thn (hu.run pins s2 σ H2 _ I2 q2) fun vu s3 ⟨u, H3, I3, pu, q3⟩ => thn (hf.run pins s3 σ H3 _ I3 q3) fun vk s4 ⟨o, H4, I4, pk, q4⟩ => ?_)
  · obtain ⟨k, rfl, q⟩ := q4
    have J : Inv X pins σ H4 { s4 with heap := s4.heap.push { cls := .type "slice", data := .fields #[vl, vu, vk] } } := I4.kept (t' := s4.toks) fun c oc z => Heap.get?_push_of_some _ z
    obtain ⟨T, id, hT, ht, hg⟩ := hr pins { s4 with heap := s4.heap.push { cls := .type "slice", data := .fields #[vl, vu, vk] } } σ H4 x v vl vu vk l u k s4.heap.objs.size Q J r1 (Heap.IsSliceOf.new ..) pl pu pk q
    show wpAny (model X.prog X.w) X.A (subscriptTail e (.Slice lo hi (some f) p2) v (.ref s4.heap.objs.size)) (EP X pins σ Q) X.xe { s4 with heap := s4.heap.push { cls := .type "slice", data := .fields #[vl, vu, vk] } }
    exact tail_any (ops := [v, .ref s4.heap.objs.size]) ht hT hg (by with_unfolding_all rfl)
def rSlc3 (F : Fix) : V → Option Int → Option Int → Int → Hp → VK → Prop := fun v lo hi k H Q => ∃ W σ μ st x, SRep F.K F.G μ st H ∧ Rep F.K F.G μ H x v ∧ tM F W σ μ H (RD F) (slc3D x lo hi k st) Q
theorem sl_slc3 (hK : X.K = F.K) : Sl3 X (rSlc3 F) := by
  intro pins s σ H v a vl vu vk lo hi k b Q I ra hs pl pu pk h
  obtain ⟨W, σ', μ, st, x, sr, rx, t⟩ := h
  unfold slc3D at t
  have list : ∀ (p : Addr) (xs : List D) (vs : List V), k ≠ 0 → v = .ref p → SqL X.K H p vs → RepL F.K F.G μ H xs vs → tM F W σ' μ H (RD F) (newL (takeIx xs (stepL xs.length lo hi k)) st) Q →
      ∃ T id, typeLookup (.type T) "__getitem__" = pure (some (.builtin id)) ∧ s.TypeIs a T ∧ wpAny (model X.prog X.w) X.A (getItem a (.ref b)) (EP X pins σ Q) X.xe s := by
    intro p xs vs h0 ev hq hr t
    subst ev
    cases ra
    obtain ⟨its, r, hl, hz⟩ := I.list hq
    have hlen := r.length
    refine ⟨"list", _, PySem.slot_list_getitem.lookup, hl.isList.typeIs, ?_⟩
    refine wpAny_getItem_list_slice hl.isList hs pl pu pk (by simpa using h0) ?_ (by rw [List.size_toArray]; omega)
    have e : slicePick its.toArray lo hi (some k) = (takeIx its (stepL vs.length lo hi k)).toArray := by
      unfold slicePick takeIx stepL
      rw [List.size_toArray, hlen]
      simp
    have hle : (takeIx its (stepL vs.length lo hi k)).length ≤ its.length := by
      have := slicePick_size_le its.toArray lo hi (some k)
      rw [e, List.size_toArray, List.size_toArray] at this
      exact this
    have hv := vals_pick r (stepL vs.length lo hi k)
    rw [e]
    rw [hr.length.symm] at t
    refine ⟨.ref _, _, I.laid (t' := s.toks) (o := .lst (takeIx vs (stepL vs.length lo hi k))) (fun c oc z => Heap.get?_push_of_some _ z) (Nat.le_refl _) ?_, rfl, t.newL sr (hr.pick _) (I.hok.fresh (Nat.le_refl _))⟩
    exact ⟨by rw [hv.length]; omega, _, 0, hv, Heap.get?_push_size _ rfl⟩
  split at t
  · exact t.no.elim
  · rename_i h0
    split at t
    · rename_i xs
      obtain ⟨p, vs, rfl, h1, h2⟩ := repT rx
      split at t
      · exact t.no.elim
      · rename_i h3
        rw [not_or] at h3
        cases ra
        rw [← hK] at h1
        obtain ⟨its, r, ht, hz⟩ := I.tuple h1
        have hlen : its.toArray.size = xs.length := by rw [List.size_toArray, ← r.length, h2.length]
        refine ⟨"tuple", _, slot_tuple_getitem.lookup, ht.typeIs, ?_⟩
        refine tuple_step ht hs pl pu pk h0 h3.1 (by rw [hlen, sizeLine_eq]; have := h3.2; unfold LN at this; omega) ?_
        rw [hlen]
        have hv := vals_pick r (stepT xs.length lo hi k)
        refine ⟨.ref s.heap.objs.size, _, I.laid (t' := s.toks) (o := .tup (takeIx vs (stepT xs.length lo hi k))) (fun c oc z => Heap.get?_push_of_some _ z) (Nat.le_refl _) ?_, rfl, t.tup sr (h2.pick _) (I.hok.fresh (Nat.le_refl _))⟩
        refine ⟨?_, _, hv, IsTup.new _ _⟩
        have := takeIx_len vs (stepT xs.length lo hi k)
        have := h3.2
        rw [sizeLine_eq]
        unfold LN at this
        omega
    · obtain ⟨p, vs, rfl, h1, h2⟩ := repR rx
      exact list p _ vs h0 rfl (by rw [hK]; exact h1.sq) h2 t
    · split at t
      · rename_i xs hx
        obtain ⟨p, vs, rfl, h1, h2⟩ := litems_sq sr rx hx
        exact list p _ vs h0 rfl (.inl (.inl h1)) h2 t
      · exact t.no.elim
    · exact t.no.elim
end
end Mini

set_option Elab.async false
set_option linter.all false
set_option maxRecDepth 100000
set_option maxHeartbeats 4000000
namespace Mini
open PySem L2
section
variable {X : Cx} {F : Fix}
def rMth (F : Fix) (m : Mt) : V → List V → Hp → VK → Prop := fun v vs H Q => ∃ W σ μ st x ds, SRep F.K F.G μ st H ∧ Rep F.K F.G μ H x v ∧ RepL F.K F.G μ H ds vs ∧ tM F W σ μ H (RD F) (mthD m x ds st) Q
/-- a method's receiver's type and its place -/
def mthT : Mt → String × Str × String
  | .append => ("list", "append", "list.append")
  | .extend => ("list", "extend", "list.extend")
  | .pop => ("list", "pop", "list.pop")
  | .join => ("str", "join", "str.join")
  | .find => ("str", "find", "str.find")
  | .split => ("str", "split", "str.split")
  | .lstrip => ("str", "lstrip", "str.lstrip")
  | .strip => ("str", "strip", "str.strip")
  | .endswith => ("str", "endswith", "str.endswith")
  | .index => ("str", "index", "str.index")
  | .get => ("dict", "get", "dict.get")
theorem sumLen_eq (n : Nat) : ∀ ss : List S, sumLen n ss = (((ss.map fun l => (⟨l.toArray⟩ : Str)).map (·.length)).sum) + ss.length * n
  | [] => by simp [sumLen]
  | s :: r => by
    unfold sumLen
    rw [sumLen_eq n r, List.map_cons, List.map_cons, List.sum_cons, str_len, List.length_cons, Nat.add_mul]
    omega
theorem joinS_len (sep : S) : ∀ ss : List S, (joinS sep ss).length ≤ sumLen sep.length ss
  | [] => by simp [joinS, sumLen]
  | [s] => by simp [joinS, sumLen]
  | s :: t :: r => by
    have := joinS_len sep (t :: r)
    unfold joinS sumLen
    rw [List.length_append, List.length_append]
    omega
theorem joinS_mem (sep : S) {P : Nat → Prop} (hs : ∀ c ∈ sep, P c) : ∀ ss : List S, (∀ s ∈ ss, ∀ c ∈ s, P c) → ∀ c ∈ joinS sep ss, P c
  | [], _, c, h => by simp [joinS] at h
  | [s], h, c, hc => h s (by simp) c hc
  | s :: t :: r, h, c, hc => by
    unfold joinS at hc
    rcases List.mem_append.mp hc with hc | hc
    · rcases List.mem_append.mp hc with hc | hc
      · exact h s (by simp) c hc
      · exact hs c hc
    · exact joinS_mem sep hs (t :: r) (fun s hs => h s (List.mem_cons_of_mem _ hs)) c hc
theorem splitS_mem (c : Nat) {P : Nat → Prop} : ∀ (l acc : S), (∀ x ∈ l, P x) → (∀ x ∈ acc, P x) → ∀ s ∈ splitS c acc l, ∀ x ∈ s, P x
  | [], acc, _, ha, s, hs => by
    unfold splitS at hs
    rw [List.mem_singleton.mp hs]
    exact ha
  | y :: r, acc, hl, ha, s, hs => by
    unfold splitS at hs
    split at hs
    · rcases List.mem_cons.mp hs with hs | hs
      · rw [hs]; exact ha
      · exact splitS_mem c r [] (fun x hx => hl x (List.mem_cons_of_mem _ hx)) (fun x hx => by simp at hx) s hs
    · refine splitS_mem c r (acc ++ [y]) (fun x hx => hl x (List.mem_cons_of_mem _ hx)) (fun x hx => ?_) s hs
      rcases List.mem_append.mp hx with hx | hx
      · exact ha x hx
      · rw [List.mem_singleton.mp hx]; exact hl y (by simp)
theorem splitS_len (c : Nat) : ∀ (l acc : S), ∀ s ∈ splitS c acc l, s.length ≤ acc.length + l.length
  | [], acc, s, hs => by
    unfold splitS at hs
    rw [List.mem_singleton.mp hs]
    simp
  | y :: r, acc, s, hs => by
    unfold splitS at hs
    split at hs
    · rcases List.mem_cons.mp hs with hs | hs
      · rw [hs]; omega
      · have := splitS_len c r [] s hs
        simp at this ⊢
        omega
    · have := splitS_len c r (acc ++ [y]) s hs
      simp at this ⊢
      omega
theorem strs_mk {μ : List Addr} {H : Hp} : ∀ {ss : List S}, (∀ s ∈ ss, s.length ≤ sizeLine ∧ ∀ c ∈ s, c < 1114112) → RepL F.K F.G μ H (ss.map .str) ((ss.map fun l => (⟨l.toArray⟩ : Str)).map V.str)
  | [], _ => RepL.nil
  | s :: r, h => RepL.cons (mkS (h s (by simp)).1 (h s (by simp)).2) (strs_mk fun t ht => h t (List.mem_cons_of_mem _ ht))
theorem RepL.dropLast {K : PySem.W.Frag} {G : Nat → V → Prop} {μ : List Addr} {H : Hp} {xs : List D} {vs : List V} (r : RepL K G μ H xs vs) : RepL K G μ H xs.dropLast vs.dropLast := by
  rw [List.dropLast_eq_take, List.dropLast_eq_take, r.length]
  exact r.take _
/-- what a written dict has at a key -/
theorem repC_get {K : PySem.W.Frag} {G : Nat → V → Prop} {μ : List Addr} {H : Hp} {d : Addr} : ∀ {kvs : List (S × D)} {k : S} {x : D}, RepC K G μ H d kvs → kvs.lookup k = some x → ∃ w u, PySem.W.nsIn K d ⟨k.toArray⟩ = some (some u) ∧ RelV w u ∧ Rep K G μ H x w
  | [], _, _, _, e => by simp at e
  | (k0, x0) :: r, k, x, h, e => by
    unfold RepC at h
    rw [List.lookup_cons] at e
    split at e
    · rename_i z
      cases e
      have : k = k0 := by simpa using z
      subst this
      exact h.1
    · exact repC_get h.2 e
theorem lookup_none {α : Type} : ∀ {kvs : List (S × α)} {k : S}, kvs.lookup k = none → k ∉ kvs.map (·.1)
  | [], _, _ => by simp
  | (k0, x0) :: r, k, e => by
    rw [List.lookup_cons] at e
    split at e
    · cases e
    · rename_i z
      have ih := lookup_none e
      have z' : ¬ k = k0 := by simpa using z
      simp only [List.map_cons, List.mem_cons]
      intro q
      rcases q with q | q
      · exact z' q
      · exact ih q
theorem cdt_find {w : World} {μ : List Addr} {H : Hp} {d : Addr} {es : Array DictEntry} {n : Nat} {kvs : List (S × D)} {k : S} (D0 : KDict F.K w d es n) (h : RepC F.K F.G μ H d kvs) (hn : ∀ k : S, k ∉ kvs.map (·.1) → PySem.W.nsIn F.K d ⟨k.toArray⟩ = some none) :
    (∃ u v, findBy Value.isStrOf es ⟨k.toArray⟩ = some u ∧ RelV v u ∧ ∃ x, kvs.lookup k = some x ∧ Rep F.K F.G μ H x v) ∨ (findBy Value.isStrOf es ⟨k.toArray⟩ = none ∧ kvs.lookup k = none) := by
  cases e : kvs.lookup k with
  | some x =>
    obtain ⟨v, u, h1, h2, h3⟩ := repC_get h e
    exact .inl ⟨u, v, PySem.W.find_K D0.at_ h1, h2, x, rfl, h3⟩
  | none => exact .inr ⟨PySem.W.find_K D0.at_ (hn k (lookup_none e)), rfl⟩
theorem mt_mth (hK : X.K = F.K) (hD : ∀ d, F.G 0 (.ref d) → ∃ es n, KDict X.K X.w d es n) (m : Mt) : MtR X (mthT m).2.2 (rMth F m) := by
  intro pins s σ H v vs a us Q I ra ru h
  obtain ⟨W, σ', μ, st, x, ds, sr, rx, rd, t⟩ := h
  unfold mthD at t
  split at t
  · split at t
    · rename_i e1
      split at t
      · rename_i c
        obtain ⟨p, rfl, h1⟩ := repO rx
        obtain ⟨w, rfl, r1⟩ := rep1 rd
        obtain ⟨ws, h2, h3⟩ := SRep.lst sr e1 h1
        refine mt_append pins s σ H _ _ a us Q I ra ru ⟨p, ws, w, rfl, rfl, h2, by rw [h3.length, LN_eq]; exact c, ?_⟩
        exact t.at_ μ _ _ (Ext.write sr h1) (sr.write h1 (h3.append (RepL.cons r1 RepL.nil))) mkN
      · exact t.no.elim
    · exact t.no.elim
  · split at t
    · rename_i e1 e2
      split at t
      · rename_i c
        obtain ⟨p, rfl, h1⟩ := repO rx
        obtain ⟨w, rfl, r1⟩ := rep1 rd
        obtain ⟨ws, h2, h3⟩ := SRep.lst sr e1 h1
        obtain ⟨q, zs, rfl, h4, h5⟩ := litems_sq sr r1 e2
        refine mt_extend pins s σ H _ _ a us Q I ra ru ⟨p, q, ws, zs, rfl, rfl, h2, h4, by rw [h3.length, h5.length, LN_eq]; exact c, ?_⟩
        exact t.at_ μ _ _ (Ext.write sr h1) (sr.write h1 (h3.append h5)) mkN
      · exact t.no.elim
    · exact t.no.elim
  · split at t
    · rename_i xs e1
      split at t
      · rename_i y e2
        obtain ⟨p, rfl, h1⟩ := repO rx
        cases rep0 rd
        obtain ⟨ws, h2, h3⟩ := SRep.lst sr e1 h1
        rw [List.getLast?_eq_getElem?] at e2
        obtain ⟨z, h4, h5⟩ := h3.get e2
        refine mt_pop pins s σ H _ _ a us Q I ra ru ⟨p, ws, z, rfl, rfl, h2, by rw [h3.length]; exact h4, ?_⟩
        exact t.at_ μ _ _ (Ext.write sr h1) (sr.write h1 h3.dropLast) (h5.ext (Ext.write sr h1))
      · exact t.no.elim
    · exact t.no.elim
  · split at t
    · rename_i ss hx
      split at t
      · rename_i c
        obtain ⟨rfl, q1, q2⟩ := repS rx
        obtain ⟨w, rfl, r1⟩ := rep1 rd
        obtain ⟨xs, hx1, hx2⟩ := Option.bind_eq_some_iff.mp hx
        obtain ⟨p, ws, rfl, h1, h2⟩ := items_sq sr r1 hx1
        obtain ⟨e, e2⟩ := strs_rep h2 hx2
        subst e
        refine mt_join pins s σ H _ _ a us Q I ra ru ⟨_, p, _, rfl, rfl, by rw [hK]; exact h1, ?_, ?_⟩
        · rw [sumLen_eq] at c
          rw [str_len, List.length_map]
          exact c
        · show Q (.str (Txt.join (SX.S _) (ss.map SX.S))) H
          rw [SX.join_S, joinL_S]
          refine t.ok sr (mkS ?_ (joinS_mem _ q2 ss e2))
          rw [LN_eq]
          exact Nat.le_trans (joinS_len _ _) c
      · exact t.no.elim
    · exact t.no.elim
  · obtain ⟨rfl, q1, q2⟩ := repS rx
    obtain ⟨w, rfl, r1⟩ := rep1 rd
    obtain ⟨rfl, _⟩ := repS r1
    refine mt_find pins s σ H _ _ a us Q I ra ru ⟨_, _, rfl, rfl, ?_⟩
    rw [find_one]
    exact t.ok sr mkI
  · split at t
    · rename_i c
      obtain ⟨rfl, q1, q2⟩ := repS rx
      obtain ⟨w, z, rfl, r1, r2⟩ := rep2 rd
      obtain ⟨rfl, _⟩ := repS r1
      cases repI r2
      refine mt_find3 pins s σ H _ _ a us Q I ra ru ⟨_, _, _, rfl, rfl, ?_⟩
      rw [find3_one _ _ _ c.1 c.2]
      exact t.ok sr mkI
    · exact t.no.elim
  · split at t
    · rename_i c
      obtain ⟨rfl, q1, q2⟩ := repS rx
      obtain ⟨w, rfl, r1⟩ := rep1 rd
      obtain ⟨rfl, _⟩ := repS r1
      refine mt_split pins s σ H _ _ a us Q I ra ru ⟨_, _, rfl, rfl, rfl, by rw [str_len, LN_eq]; exact c.1, ?_⟩
      intro p hp
      rw [split_one _ _ c.2]
      refine t.newL sr (strs_mk fun s hs => ⟨?_, ?_⟩) hp
      · have := splitS_len _ _ [] s hs
        rw [LN_eq]
        have c1 := c.1
        simp at this
        omega
      · exact splitS_mem _ _ [] q2 (fun x hx => by simp at hx) s hs
    · exact t.no.elim
  · obtain ⟨rfl, q1, q2⟩ := repS rx
    obtain ⟨w, rfl, r1⟩ := rep1 rd
    obtain ⟨rfl, _⟩ := repS r1
    refine mt_lstripChars pins s σ H _ _ a us Q I ra ru ⟨_, _, rfl, rfl, by rw [str_len]; exact q1, ?_⟩
    rw [lstrip_set]
    refine t.ok sr (mkS (Nat.le_trans (List.Sublist.length_le (List.dropWhile_sublist _)) q1) fun c hc => q2 c ((List.dropWhile_sublist _).mem hc))
  · obtain ⟨rfl, q1, q2⟩ := repS rx
    obtain ⟨w, rfl, r1⟩ := rep1 rd
    obtain ⟨rfl, _⟩ := repS r1
    refine mt_endswith pins s σ H _ _ a us Q I ra ru ⟨_, _, rfl, rfl, ?_⟩
    rw [ends_one]
    exact t.ok sr mkB
  · split at t
    · exact t.no.elim
    · rename_i z c k
      obtain ⟨rfl, q1, q2⟩ := repS rx
      obtain ⟨w, rfl, r1⟩ := rep1 rd
      obtain ⟨rfl, _⟩ := repS r1
      have e := occ_one z c 0 (Nat.zero_le _)
      rw [List.drop_zero, if_neg k] at e
      refine mt_sindex pins s σ H _ _ a us Q I ra ru ⟨_, _, _, _, rfl, rfl, by rw [str_len]; exact e, ?_⟩
      have e2 : (((findS c z 0).toNat : Nat) : Int) = findS c z 0 := by omega
      rw [e2]
      exact t.ok sr mkI
  · rename_i kvs k
    unfold Rep at rx
    obtain ⟨d, rfl, hg, hC, hn⟩ := rx
    obtain ⟨w, rfl, r1⟩ := rep1 rd
    obtain ⟨rfl, _⟩ := repS r1
    obtain ⟨es, n, D0⟩ := hD d hg
    cases ra
    cases ru with
    | cons ru1 ru2 =>
      cases ru2
      obtain ⟨tk, rfl⟩ := ru1
      have D1 : KDict F.K X.w d es n := by rw [← hK]; exact D0
      refine call_meetsIn PySem.F.slot_dict_get (kd_type D0 I) PySem.F.entry_dict_get (PySem.F.args_dict_get_2 _ _) (meets_dict_get (strKind X.prog X.w) d (PySem.strKind_is X.prog X.w _ tk) D0.low) ⟨_, PySem.W.mapOf_K (prog := X.prog) I.kIn D0.at_ D0.lit, ?_⟩
      rcases cdt_find (k := k) D1 hC hn with ⟨u, v, f1, f2, x, f3, f4⟩ | ⟨f1, f3⟩
      · rw [f1]
        rw [f3] at t
        exact ⟨v, H, I.tok _, f2, t.ok sr f4⟩
      · rw [f1]
        rw [f3] at t
        exact ⟨.non, H, I.tok _, rfl, t.ok sr mkN⟩
  · rename_i kvs k d1
    unfold Rep at rx
    obtain ⟨d, rfl, hg, hC, hn⟩ := rx
    obtain ⟨w, w2, rfl, r1, r2⟩ := rep2 rd
    obtain ⟨rfl, _⟩ := repS r1
    obtain ⟨es, n, D0⟩ := hD d hg
    cases ra
    cases ru with
    | cons ru1 ru2 =>
      cases ru2 with
      | cons ru3 ru4 =>
        cases ru4
        obtain ⟨tk, rfl⟩ := ru1
        have D1 : KDict F.K X.w d es n := by rw [← hK]; exact D0
        refine call_meetsIn PySem.F.slot_dict_get (kd_type D0 I) PySem.F.entry_dict_get (PySem.F.args_dict_get_3 _ _ _) (meets_dict_get_default (strKind X.prog X.w) d (PySem.strKind_is X.prog X.w _ tk) D0.low _) ⟨_, PySem.W.mapOf_K (prog := X.prog) I.kIn D0.at_ D0.lit, ?_⟩
        rcases cdt_find (k := k) D1 hC hn with ⟨u, v, f1, f2, x, f3, f4⟩ | ⟨f1, f3⟩
        · rw [f1]
          rw [f3] at t
          exact ⟨v, H, I.tok _, f2, t.ok sr f4⟩
        · rw [f1]
          rw [f3] at t
          exact ⟨w2, H, I.tok _, ru3, t.ok sr r2⟩
  · obtain ⟨rfl, q1, q2⟩ := repS rx
    obtain ⟨w, rfl, r1⟩ := rep1 rd
    obtain ⟨rfl, _⟩ := repS r1
    refine mt_stripChars pins s σ H _ _ a us Q I ra ru ⟨_, _, rfl, rfl, by rw [str_len]; exact q1, ?_⟩
    rw [strip_set]
    exact t.ok sr (mkS (Nat.le_trans (stripS_sub _ _).length_le q1) fun c hc => q2 c ((stripS_sub _ _).mem hc))
  · exact t.no.elim
/-! ### isinstance -/
theorem kitOne_of {K : PySem.W.Frag} {t c : String} {b : Bool} (h : isiT t c = some b) : PySem.W.kitOne K (.type t) (.type c) = some b := kit_ty h
theorem typ_ty (hK : X.K = F.K) {μ : List Addr} {H : Hp} {st : Sto} {d : D} {v : V} {t : String} (sr : SRep F.K F.G μ st H) (r : Rep F.K F.G μ H d v) (e : typD st d = some t) : TyX X.K H v (.type t) := by
  unfold typD at e
  split at e
  · cases e; cases repN r; exact .base .non
  · cases e; cases repB r; exact .base (.bl _)
  · cases e; cases repI r; exact .base (.int _)
  · cases e; obtain ⟨rfl, _⟩ := repS r; exact .base (.str _)
  · cases e
    obtain ⟨a, vs, rfl, h1, h2⟩ := repT r
    rw [← hK] at h1
    rcases h1 with (h1 | ⟨o, h1⟩) | ⟨o, its, n, h1, h2, _⟩
    · exact .base (.tup h1)
    · exact .fTuple h1
    · exact .kTuple h1 h2
  · cases e
    obtain ⟨a, vs, rfl, h1, h2⟩ := repR r
    rw [← hK] at h1
    rcases h1 with ⟨o, h1⟩ | ⟨o, its, n, h1, h2, _⟩
    · exact .base (.frz h1)
    · exact .kList h1 h2
  · obtain ⟨a, rfl, h1⟩ := repO r
    split at e
    · rename_i e1
      cases e
      obtain ⟨ws, h2, h3⟩ := SRep.lst sr e1 h1
      exact .base (.lst h2)
    · rename_i e1
      cases e
      obtain ⟨ws, h2, h3⟩ := sr.at_ _ _ _ e1 h1
      exact .base (.dK h2)
    · cases e
  · cases e
theorem kitAny_of {K : PySem.W.Frag} {t : String} : ∀ {cs : List String} {b : Bool}, isiD t cs = some b → PySem.W.kitAny K (.type t) (cs.map .type) = some b
  | [], _, h => by cases h; rfl
  | c :: cs, b, h => by
    unfold isiD at h
    split at h
    · rename_i h1
      cases h
      exact kitAny_cons (kitOne_of h1) (fun z => nomatch z) (fun _ => rfl)
    · rename_i h1
      exact kitAny_cons (kitOne_of h1) (fun _ => kitAny_of h) (fun z => nomatch z)
    · cases h
end
end Mini

set_option Elab.async false
set_option linter.all false
set_option maxRecDepth 100000
set_option maxHeartbeats 4000000
namespace Mini
open PySem L2
open RZ (ItzT pi_zipA)
section
variable {X : Cx} {F : Fix}
/-- an iterator goes as is told -/
def JOk (F : Fix) (J : It) (k : Sk) (ds : List D) (vs : List V) : Prop := ∀ μ st H its (i : Nat), SRep F.K F.G μ st H → RepL F.K F.G μ H ds vs → walked k ds st = some its →
  (its[i]? = none → J.stop i H) ∧ ∀ d, its[i]? = some d → J.go i H ∧ ∀ x H', J.yld i H x H' → SRep F.K F.G μ st H' ∧ Ext F.K μ H μ H' ∧ Rep F.K F.G μ H' d x
def wI (F : Fix) (W : WX) (k : Sk) (cs : List CE) : TI := fun σ H R => tL F W cs σ H fun vs H1 => ∃ μ st ds its, SRep F.K F.G μ st H1 ∧ RepL F.K F.G μ H1 ds vs ∧ walked k ds st = some its ∧ ∀ J, JOk F J k ds vs → R J H1
theorem getElem?_none_of {α : Type} {xs : List α} {i : Nat} (h : xs[i]? = none) : xs.length ≤ i := List.getElem?_eq_none_iff.mp h
/-- a list that is walked -/
theorem jok_list {d : D} {a : Addr} (hk : ∀ st, walked .seq [d] st = items st d) (hl : ∀ μ st H xs, SRep F.K F.G μ st H → Rep F.K F.G μ H d (.ref a) → items st d = some xs → ∃ vs, SqL F.K H a vs ∧ RepL F.K F.G μ H xs vs) : JOk F (Itl F.K a) .seq [d] [.ref a] := by
  intro μ st H its i sr rd e
  rw [hk] at e
  obtain ⟨v, ev, r⟩ := rep1 rd
  cases ev
  obtain ⟨vs, h1, h2⟩ := hl μ st H its sr r e
  refine ⟨fun z => ⟨vs, h1, by rw [h2.length]; exact getElem?_none_of z⟩, fun x hx => ?_⟩
  obtain ⟨w, h3, h4⟩ := h2.get hx
  refine ⟨⟨vs, w, h1, h3⟩, fun y H' hy => ?_⟩
  obtain ⟨rfl, q⟩ := hy
  have := q vs h1
  rw [h3] at this
  cases this
  exact ⟨sr, .refl, h4⟩
theorem jok_tup {xs : List D} {a : Addr} : JOk F (Itt F.K a) .seq [.tup xs] [.ref a] := by
  intro μ st H its i sr rd e
  cases e
  obtain ⟨v, ev, r⟩ := rep1 rd
  cases ev
  obtain ⟨p, vs, ep, h1, h2⟩ := repT r
  cases ep
  refine ⟨fun z => ⟨vs, h1, by rw [h2.length]; exact getElem?_none_of z⟩, fun x hx => ?_⟩
  obtain ⟨w, h3, h4⟩ := h2.get hx
  refine ⟨⟨vs, w, h1, h3⟩, fun y H' hy => ?_⟩
  obtain ⟨rfl, q⟩ := hy
  have := q vs h1
  rw [h3] at this
  cases this
  exact ⟨sr, .refl, h4⟩
theorem jok_str {z : S} (h1 : z.length ≤ sizeLine) (h2 : ∀ c ∈ z, c < 1114112) : JOk F (Its ⟨z.toArray⟩) .seq [.str z] [.str ⟨z.toArray⟩] := by
  intro μ st H its i sr rd e
  cases e
  refine ⟨fun q => ?_, fun x hx => ?_⟩
  · show z.toArray.size ≤ i
    have := getElem?_none_of q
    simpa using this
  · rw [List.getElem?_map] at hx
    cases hc : z[i]? with
    | none => rw [hc] at hx; cases hx
    | some c =>
      rw [hc] at hx
      cases hx
      refine ⟨?_, fun y H' hy => ?_⟩
      · show i < z.toArray.size
        have := (List.getElem?_eq_some_iff.mp hc).1
        simpa using this
      · obtain ⟨rfl, c', q, rfl⟩ := hy
        have q' : z[i]? = some c' := by simpa using q
        rw [hc] at q'
        cases q'
        refine ⟨sr, .refl, mkS ?_ ?_⟩
        · rw [LN_eq]; show 1 ≤ 16777216; omega
        · intro k hk
          rw [List.mem_singleton.mp hk]
          exact h2 c (List.mem_of_getElem? hc)
theorem rngL_get {a : Int} {n i : Nat} : (rngL a n)[i]? = if i < n then some (D.int (a + (i : Nat))) else none := by
  unfold rngL
  rw [List.getElem?_map]
  by_cases h : i < n
  · rw [if_pos h, List.getElem?_range h]; rfl
  · rw [if_neg h, List.getElem?_eq_none (by simp; omega)]; rfl
theorem jok_rng {ds : List D} {vs : List V} {a : Int} {n : Nat} (h : ∀ st its, walked .range ds st = some its → its = rngL a n) : JOk F (Itr a n) .range ds vs := by
  intro μ st H its i sr rd e
  rw [h st its e, rngL_get]
  refine ⟨fun z => ?_, fun d hd => ?_⟩
  · show n ≤ i
    by_cases c : i < n
    · rw [if_pos c] at z; cases z
    · omega
  · by_cases c : i < n
    · rw [if_pos c] at hd
      cases hd
      refine ⟨c, fun y H' hy => ?_⟩
      obtain ⟨rfl, rfl⟩ := hy
      exact ⟨sr, .refl, mkI⟩
    · rw [if_neg c] at hd; cases hd
theorem enumL_get : ∀ (xs : List D) (n i : Nat), (enumL n xs)[i]? = (xs[i]?).map fun x => D.tup [.int ((n + i : Nat) : Int), x]
  | [], _, _ => by simp [enumL]
  | x :: xs, n, 0 => by simp [enumL]
  | x :: xs, n, i + 1 => by
    unfold enumL
    rw [List.getElem?_cons_succ, List.getElem?_cons_succ, enumL_get xs (n + 1) i]
    rw [show n + 1 + i = n + (i + 1) by omega]
theorem zipL_get : ∀ (xs ys : List D) (i : Nat), (zipL xs ys)[i]? = (match xs[i]?, ys[i]? with | some x, some y => some (D.tup [x, y]) | _, _ => none)
  | [], _, _ => by simp [zipL]
  | _ :: _, [], i => by
    simp only [zipL, List.getElem?_nil]
    split <;> simp_all
  | x :: xs, y :: ys, 0 => by simp [zipL]
  | x :: xs, y :: ys, i + 1 => by
    unfold zipL
    rw [List.getElem?_cons_succ, List.getElem?_cons_succ, List.getElem?_cons_succ, zipL_get xs ys i]
theorem jok_enum {i0 : Nat} {a : Addr} : JOk F (Ite F.K a) .enum [.obj i0] [.ref a] := by
  intro μ st H its i sr rd e
  obtain ⟨v, ev, r⟩ := rep1 rd
  cases ev
  have e' : (litems st i0).map (enumL 0) = some its := e
  cases hx : litems st i0 with
  | none => rw [hx] at e'; cases e'
  | some xs =>
    rw [hx] at e'
    cases e'
    obtain ⟨p, vs, ep, h1, h2⟩ := litems_sq sr r hx
    cases ep
    have h1' : SqL F.K H a vs := .inl (.inl h1)
    rw [enumL_get]
    refine ⟨fun z => ⟨vs, h1', ?_⟩, fun d hd => ?_⟩
    · rw [h2.length]
      cases hi : xs[i]? with
      | none => exact getElem?_none_of hi
      | some y => rw [hi] at z; cases z
    · cases hi : xs[i]? with
      | none => rw [hi] at hd; cases hd
      | some y =>
        rw [hi] at hd
        cases hd
        obtain ⟨w, h3, h4⟩ := h2.get hi
        refine ⟨⟨vs, w, h1', h3⟩, fun y' H' hy => ?_⟩
        obtain ⟨T, x, rfl, nT, rfl, q⟩ := hy
        have := q vs h1'
        rw [h3] at this
        cases this
        refine ⟨sr.new nT, .new nT, mkT (.inl (.inl upd_same)) ?_⟩
        refine RepL.cons ?_ (RepL.cons (h4.ext (.new nT)) RepL.nil)
        rw [Nat.zero_add]
        exact mkI
theorem jok_zipL {i0 j0 : Nat} {a b : Addr} : JOk F (Itz F.K a b) .zip [.obj i0, .obj j0] [.ref a, .ref b] := by
  intro μ st H its i sr rd e
  obtain ⟨v, w, ev, r, r'⟩ := rep2 rd
  cases ev
  have e' : (match litems st i0, litems st j0 with | some xs, some ys => some (zipL xs ys) | _, _ => none) = some its := e
  split at e'
  · rename_i xs ys hx hy
    cases e'
    obtain ⟨p, vs, ep, h1, h2⟩ := litems_sq sr r hx
    cases ep
    obtain ⟨p, ws, ep, k1, k2⟩ := litems_sq sr r' hy
    cases ep
    have h1' : SqL F.K H a vs := .inl (.inl h1)
    have k1' : SqL F.K H b ws := .inl (.inl k1)
    rw [zipL_get]
    refine ⟨fun z => ⟨vs, ws, h1', k1', ?_⟩, fun d hd => ?_⟩
    · rw [h2.length, k2.length]
      cases hi : xs[i]? with
      | none => exact .inl (getElem?_none_of hi)
      | some y =>
        cases hj : ys[i]? with
        | none => exact .inr (getElem?_none_of hj)
        | some y' => rw [hi, hj] at z; cases z
    · cases hi : xs[i]? with
      | none => rw [hi] at hd; cases hd
      | some y =>
        cases hj : ys[i]? with
        | none => rw [hi, hj] at hd; cases hd
        | some y' =>
          rw [hi, hj] at hd
          cases hd
          obtain ⟨u, h3, h4⟩ := h2.get hi
          obtain ⟨u', k3, k4⟩ := k2.get hj
          refine ⟨⟨vs, ws, u, u', h1', k1', h3, k3⟩, fun z H' hz => ?_⟩
          obtain ⟨T, x, x', rfl, nT, rfl, q, q'⟩ := hz
          have t1 := q vs h1'
          have t2 := q' ws k1'
          rw [h3] at t1
          rw [k3] at t2
          cases t1
          cases t2
          exact ⟨sr.new nT, .new nT, mkT (.inl (.inl upd_same)) (RepL.cons (h4.ext (.new nT)) (RepL.cons (k4.ext (.new nT)) RepL.nil))⟩
  · cases e'
theorem jok_zipT {xs ys : List D} {a b : Addr} : JOk F (ItzT F.K a b) .zip [.tup xs, .tup ys] [.ref a, .ref b] := by
  intro μ st H its i sr rd e
  obtain ⟨v, w, ev, r, r'⟩ := rep2 rd
  cases ev
  cases e
  obtain ⟨p, vs, ep, h1, h2⟩ := repT r
  cases ep
  obtain ⟨p, ws, ep, k1, k2⟩ := repT r'
  cases ep
  rw [zipL_get]
  refine ⟨fun z => ⟨vs, ws, h1, k1, ?_⟩, fun d hd => ?_⟩
  · rw [h2.length, k2.length]
    cases hi : xs[i]? with
    | none => exact .inl (getElem?_none_of hi)
    | some y =>
      cases hj : ys[i]? with
      | none => exact .inr (getElem?_none_of hj)
      | some y' => rw [hi, hj] at z; cases z
  · cases hi : xs[i]? with
    | none => rw [hi] at hd; cases hd
    | some y =>
      cases hj : ys[i]? with
      | none => rw [hi, hj] at hd; cases hd
      | some y' =>
        rw [hi, hj] at hd
        cases hd
        obtain ⟨u, h3, h4⟩ := h2.get hi
        obtain ⟨u', k3, k4⟩ := k2.get hj
        refine ⟨⟨vs, ws, u, u', h1, k1, h3, k3⟩, fun z H' hz => ?_⟩
        obtain ⟨T, x, x', rfl, nT, rfl, q, q'⟩ := hz
        have t1 := q vs h1
        have t2 := q' ws k1
        rw [h3] at t1
        rw [k3] at t2
        cases t1
        cases t2
        exact ⟨sr.new nT, .new nT, mkT (.inl (.inl upd_same)) (RepL.cons (h4.ext (.new nT)) (RepL.cons (k4.ext (.new nT)) RepL.nil))⟩
/-! ### the walks -/
theorem two62 : (2 : Int) ^ 62 = 4611686018427387904 := by decide
theorem PI.imp {X : Cx} {tg e : Expr} {t t' : TI} (h : PI X tg e t) (k : ∀ σ H R, t' σ H R → t σ H R) : PI X tg e t' := ⟨fun pins s σ H R I q => h.run pins s σ H R I (k σ H R q)⟩
theorem tM.mono {W : WX} {σ : L2.St} {μ : List Addr} {H : Hp} {α β : Type} {R : List Addr → Hp → α → β → Prop} {m : Mx α} {Q Q' : β → Hp → Prop} (h : tM F W σ μ H R m Q) (k : ∀ v H', Q v H' → Q' v H') : tM F W σ μ H R m Q' := by
  obtain ⟨r, st', e, a⟩ := h
  refine ⟨r, st', e, ?_⟩
  cases r with
  | ok d => exact fun μ' H' v x s q => k _ _ (a μ' H' v x s q)
  | exc c fs => exact a
theorem tL.mono {W : WX} {cs : List CE} {σ : L2.St} {H : Hp} {Q Q' : List V → Hp → Prop} (h : tL F W cs σ H Q) (k : ∀ v H', Q v H' → Q' v H') : tL F W cs σ H Q' := by
  obtain ⟨μ, env, st, he, sr, t⟩ := h
  exact ⟨μ, env, st, he, sr, t.mono k⟩
theorem evL_len {P : Pg} {call : Nat → List D → Sto → Mx D} : ∀ {cs : List CE} {env : Env} {st st' : Sto} {ds : List D}, evL P call cs env st = some (.ok ds, st') → ds.length = cs.length
  | [], _, _, _, _, e => by
    unfold evL at e
    cases e
    rfl
  | c :: cs, env, st, st', ds, e => by
    unfold evL at e
    cases h : evE P call c env st with
    | none => rw [h] at e; cases e
    | some p =>
      obtain ⟨r, st1⟩ := p
      cases r with
      | exc c fs => rw [h] at e; cases e
      | ok d =>
        rw [h, bd_ok] at e
        cases h2 : evL P call cs env st1 with
        | none => rw [h2] at e; cases e
        | some p =>
          obtain ⟨r, st2⟩ := p
          cases r with
          | exc c fs => rw [h2] at e; cases e
          | ok ds' =>
            rw [h2, bd_ok] at e
            cases e
            rw [List.length_cons, List.length_cons, evL_len h2]
theorem tL.len {W : WX} {cs : List CE} {σ : L2.St} {H : Hp} {Q : List V → Hp → Prop} (h : tL F W cs σ H Q) : tL F W cs σ H fun vs H1 => vs.length = cs.length ∧ Q vs H1 := by
  obtain ⟨μ, env, st, he, sr, r, st', e, a⟩ := h
  refine ⟨μ, env, st, he, sr, r, st', e, ?_⟩
  cases r with
  | ok d => exact fun μ' H' v x s q => ⟨by rw [RepL.length q]; exact evL_len e, a μ' H' v x s q⟩
  | exc c fs => exact a
theorem pi_rng {W : WX} {tg : Expr} {as : List Expr} {cs : List CE} {p pos : Pos} (hg : Gl X "range") (hm : X.mg "range" = none) (ha : PA X as (tL F W cs)) (hl : as.length = cs.length) (ho : as.length = 1 ∨ as.length = 2) (hs : ∀ e es, starEach (e :: es) X.env = (false, eval e X.env) :: starEach es X.env ∨ e ∉ as) : PI X tg (.Call (.Name "range" p) as [] pos) (wI F W .range cs) := by
  match as, ha, hl, ho, hs with
  | [a], ha, hl, ho, hs =>
    have hs1 : starEach [a] X.env = [(false, eval a X.env)] := (hs a []).elim (fun z => z) fun z => absurd (by simp) z
    refine PI.imp (pi_range1 hg hm ha hs1) fun σ H R h => tL.mono (tL.len h) fun vs H1 ⟨hl', μ, st, ds, its, sr, rd, wk, k⟩ => ?_
    have l := rd.length
    have wk' : (rngD ds).map (fun p => rngL p.1 p.2) = some its := wk
    cases hr : rngD ds with
    | none => rw [hr] at wk'; cases wk'
    | some q =>
      have hr' := hr
      unfold rngD at hr
      split at hr
      · split at hr
        · rename_i n c
          cases hr
          obtain ⟨v, rfl, r⟩ := rep1 rd
          cases repI r
          refine ⟨n, rfl, by rw [two62]; omega, by rw [two62]; omega, k _ (jok_rng fun st' its' e => ?_)⟩
          have e' : (rngD [.int n]).map (fun p => rngL p.1 p.2) = some its' := e
          rw [hr'] at e'
          cases e'
          rfl
        · cases hr
      · simp at hl l
        omega
      · cases hr
  | [a, b], ha, hl, ho, hs =>
    have hs1 : starEach [a, b] X.env = [(false, eval a X.env), (false, eval b X.env)] := by
      rw [(hs a [b]).elim (fun z => z) fun z => absurd (by simp) z, (hs b []).elim (fun z => z) fun z => absurd (by simp) z]
      rfl
    have hs2 : starEach [b] X.env = [(false, eval b X.env)] := (hs b []).elim (fun z => z) fun z => absurd (by simp) z
    refine PI.imp (pi_range2 hg hm ha hs1 hs2) fun σ H R h => tL.mono (tL.len h) fun vs H1 ⟨hl', μ, st, ds, its, sr, rd, wk, k⟩ => ?_
    have l := rd.length
    have wk' : (rngD ds).map (fun p => rngL p.1 p.2) = some its := wk
    cases hr : rngD ds with
    | none => rw [hr] at wk'; cases wk'
    | some q =>
      have hr' := hr
      unfold rngD at hr
      split at hr
      · simp at hl l
        omega
      · split at hr
        · rename_i x y c
          cases hr
          obtain ⟨v, w, rfl, r, r'⟩ := rep2 rd
          cases repI r
          cases repI r'
          refine ⟨x, y, rfl, by rw [two62]; omega, k _ (jok_rng fun st' its' e => ?_)⟩
          have e' : (rngD [.int x, .int y]).map (fun p => rngL p.1 p.2) = some its' := e
          rw [hr'] at e'
          cases e'
          rfl
        · cases hr
      · cases hr
theorem rng_rev {n i : Nat} (a : Int) : (rngL a n).reverse[i]? = if i < n then some (D.int (a + (n : Int) - 1 + (i : Nat) * (-1))) else none := by
  have hl : (rngL a n).length = n := by unfold rngL; simp
  by_cases h : i < n
  · rw [if_pos h, List.getElem?_reverse (by rw [hl]; exact h), hl, rngL_get, if_pos (by omega)]
    congr 2
    omega
  · rw [if_neg h, List.getElem?_eq_none (by rw [List.length_reverse, hl]; omega)]
theorem jok_rrng {ds : List D} {vs : List V} {a : Int} {n : Nat} (h : ∀ st its, walked .rrange ds st = some its → its = (rngL a n).reverse) : JOk F (Itc (a + (n : Int) - 1) (-1) n) .rrange ds vs := by
  intro μ st H its i sr rd e
  rw [h st its e, rng_rev]
  refine ⟨fun z => ?_, fun d hd => ?_⟩
  · show n ≤ i
    by_cases c : i < n
    · rw [if_pos c] at z; cases z
    · omega
  · by_cases c : i < n
    · rw [if_pos c] at hd
      cases hd
      refine ⟨c, fun y H' hy => ?_⟩
      obtain ⟨rfl, rfl⟩ := hy
      exact ⟨sr, .refl, mkI⟩
    · rw [if_neg c] at hd; cases hd
theorem pi_rrng {W : WX} {tg e : Expr} {c : CE} {p p' pos pos' : Pos} (hg : Gl X "reversed") (hm : X.mg "reversed" = none) (hg' : Gl X "range") (hm' : X.mg "range" = none) (he : PE X e (tE F W c)) (hs : starEach [e] X.env = (false, eval e X.env) :: starEach [] X.env) :
    PI X tg (.Call (.Name "reversed" p) [.Call (.Name "range" p') [e] [] pos'] [] pos) (wI F W .rrange [c]) := by
  refine PI.imp (pi_revR hg hm (prg_1 hg' hm' he hs)) fun σ H R h => ?_
  obtain ⟨μ, env, st, hE, sr, t⟩ := h
  rw [evL] at t
  refine ⟨μ, env, st, hE, sr, tM.bd t fun x st1 μ1 H1 v e1 s1 r1 t1 => ?_⟩
  rw [evL, bd_ok] at t1
  obtain ⟨μ2, st2, ds, its, sr2, rd, wk, k⟩ := t1.ok s1 (RepL.cons r1 RepL.nil)
  have l := rd.length
  have wk' : (rngD ds).map (fun p => (rngL p.1 p.2).reverse) = some its := wk
  cases hr : rngD ds with
  | none => rw [hr] at wk'; cases wk'
  | some q =>
    have hr' := hr
    unfold rngD at hr
    split at hr
    · split at hr
      · rename_i n c
        cases hr
        obtain ⟨v', ev, r⟩ := rep1 rd
        cases ev
        cases repI r
        refine ⟨n, rfl, by rw [two62]; omega, by rw [two62]; omega, by rw [two62]; omega, by rw [two62]; omega, ?_⟩
        rw [Int.sub_zero]
        refine k _ (jok_rrng fun st' its' e => ?_)
        have e' : (rngD [.int n]).map (fun p => (rngL p.1 p.2).reverse) = some its' := e
        rw [hr'] at e'
        cases e'
        rfl
      · cases hr
    · simp at l
    · cases hr
theorem pi_enu {W : WX} {a : Expr} {c : CE} {p pos tpos : Pos} {elts : List Expr} {kk : Nat} (hg : Gl X "enumerate") (hm : X.mg "enumerate" = none) (hK : X.K = F.K) (ha : PA X [a] (tL F W [c])) (hs : starEach [a] X.env = [(false, eval a X.env)]) : PI X (.Tuple elts kk tpos) (.Call (.Name "enumerate" p) [a] [] pos) (wI F W .enum [c]) := by
  refine PI.imp (pi_enum hg hm ha hs) fun σ H R h => tL.mono h fun vs H1 ⟨μ, st, ds, its, sr, rd, wk, k⟩ => ?_
  have wk' : enumD st ds = some its := wk
  unfold enumD at wk'
  split at wk'
  · rename_i i
    obtain ⟨v, rfl, r⟩ := rep1 rd
    cases hx : litems st i with
    | none => rw [hx] at wk'; cases wk'
    | some xs =>
      obtain ⟨q, ws, rfl, h1, h2⟩ := litems_sq sr r hx
      refine ⟨q, ws, rfl, .inl (.inl h1), ?_⟩
      rw [hK]
      exact k _ jok_enum
  · cases wk'
theorem pi_zi {W : WX} {a b : Expr} {cs : List CE} {p pos tpos : Pos} {elts : List Expr} {kk : Nat} (hg : Gl X "zip") (hm : X.mg "zip" = none) (hK : X.K = F.K) (ha : PA X [a, b] (tL F W cs)) (hs : starEach [a, b] X.env = (false, eval a X.env) :: starEach [b] X.env) (hpl : (backTo pos (starEach [b] X.env)).any (·.1) = false) : PI X (.Tuple elts kk tpos) (.Call (.Name "zip" p) [a, b] [] pos) (wI F W .zip cs) := by
  refine PI.imp (pi_zipA hg hm ha hs hpl) fun σ H R h => tL.mono h fun vs H1 ⟨μ, st, ds, its, sr, rd, wk, k⟩ => ?_
  have wk' : zipD st ds = some its := wk
  unfold zipD at wk'
  split at wk'
  · obtain ⟨v, w, rfl, r, r'⟩ := rep2 rd
    split at wk'
    · rename_i xs ys hx hy
      obtain ⟨q, ws, rfl, h1, h2⟩ := litems_sq sr r hx
      obtain ⟨q', ws', rfl, h1', h2'⟩ := litems_sq sr r' hy
      refine ⟨q, q', ws, ws', rfl, .inl ⟨.inl (.inl h1), .inl (.inl h1'), ?_⟩⟩
      rw [hK]
      exact k _ jok_zipL
    · cases wk'
  · obtain ⟨v, w, rfl, r, r'⟩ := rep2 rd
    obtain ⟨q, ws, rfl, h1, h2⟩ := repT r
    obtain ⟨q', ws', rfl, h1', h2'⟩ := repT r'
    refine ⟨q, q', ws, ws', rfl, .inr ⟨by rw [hK]; exact h1, by rw [hK]; exact h1', ?_⟩⟩
    rw [hK]
    exact k _ jok_zipT
  · cases wk'
theorem pi_sq {W : WX} {tg l : Expr} {c : CE} (hK : X.K = F.K) (hl : PE X l (tE F W c)) : PI X tg l (wI F W .seq [c]) := by
  refine ⟨fun pins s σ H R I h => ?_⟩
  have h' : tE F W c σ H fun v H1 => ∃ μ st d its, SRep F.K F.G μ st H1 ∧ Rep F.K F.G μ H1 d v ∧ seqD st [d] = some its ∧ ∀ J, JOk F J .seq [d] [v] → R J H1 := by
    obtain ⟨μ, env, st, he, sr, t⟩ := h
    refine ⟨μ, env, st, he, sr, ?_⟩
    unfold evL at t
    refine tM.bd t fun x st1 μ1 H1 v e1 s1 r1 t1 => ?_
    unfold evL at t1
    rw [bd_ok] at t1
    obtain ⟨μ2, st2, ds, its, sr2, rd, wk, k⟩ := t1.at_ μ1 H1 [v] .refl s1 (RepL.cons r1 RepL.nil)
    have wk' : seqD st2 ds = some its := wk
    have ld := rd.length
    match ds, ld with
    | [d], _ =>
      obtain ⟨v', ev, r⟩ := rep1 rd
      cases ev
      exact ⟨μ2, st2, d, its, sr2, r, wk', k⟩
  refine thn (hl.run pins s σ H _ I h') fun v s1 ⟨x, H1, I1, r1, μ, st, d, its, sr, rd, wk, k⟩ => ?_
  unfold seqD at wk
  split at wk
  · rename_i z heq
    cases heq
    obtain ⟨rfl, h1, h2⟩ := repS rd
    obtain ⟨t, rfl⟩ := r1
    have q := k _ (jok_str h1 h2)
    cases ha : (⟨z.toArray⟩ : Str).cps.all (· < 128)
    · exact wpAny_pyIter_wide ha (pi_one (tk := s1.toks) I1 _ (turn_str _ _ t "str_iterator" (.inr rfl)) ⟨_, Heap.get?_push_size _ rfl, rfl, rfl⟩ q)
    · exact wpAny_pyIter_ascii ha (pi_one (tk := s1.toks) I1 _ (turn_str _ _ t "str_ascii_iterator" (.inl rfl)) ⟨_, Heap.get?_push_size _ rfl, rfl, rfl⟩ q)
  · rename_i d' hd heq
    cases heq
    have wks : ∀ st', walked .seq [d] st' = items st' d := by
      intro st'
      show seqD st' [d] = items st' d
      unfold seqD
      split
      · rename_i heq; cases heq; exact absurd rfl (hd _)
      · rename_i heq; cases heq; rfl
      · rename_i h1 h2; exact absurd rfl (h2 d)
    obtain ⟨a, ws, rfl, h1, h2⟩ := items_sq sr rd wk
    cases r1
    match d, rd, wk, hd, k, wks with
    | .tup xs, rd, wk, hd, k, wks =>
      obtain ⟨b, us, eb, q1, q2⟩ := repT rd
      cases eb
      rw [← hK] at q1
      obtain ⟨its', rv, p, hz⟩ := I1.tuple q1
      refine wpAny_pyIter_tuple (show s1.heap.IsTuple a its'.toArray from p) ?_
      have T : Turn X.prog X.w X.K tg (Itt F.K a) [s1.heap.objs.size] s1.heap.objs.size (fun i h => h.IsTupleIter s1.heap.objs.size a i) := by rw [hK]; exact turn_tuple a _
      exact pi_one (tk := s1.toks) I1 _ T ⟨_, Heap.get?_push_size _ rfl, rfl, rfl⟩ (k _ jok_tup)
    | .rol xs, rd, wk, hd, k, wks =>
      obtain ⟨b, us, eb, q1, q2⟩ := repR rd
      cases eb
      have q1' := q1.sq
      rw [← hK] at q1'
      obtain ⟨its', rv, p, hz⟩ := I1.list q1'
      refine wpAny_pyIter_list p.isList ?_
      have T : Turn X.prog X.w X.K tg (Itl F.K a) [s1.heap.objs.size] s1.heap.objs.size (fun i h => h.IsListIter s1.heap.objs.size a i) := by rw [hK]; exact turn_list a _
      refine pi_one (tk := s1.toks) I1 _ T ⟨_, Heap.get?_push_size _ rfl, rfl, rfl⟩ (k _ (jok_list wks fun μ st H xs sr r e => ?_))
      cases e
      obtain ⟨b, us, eb, q1, q2⟩ := repR r
      cases eb
      exact ⟨us, q1.sq, q2⟩
    | .obj i, rd, wk, hd, k, wks =>
      obtain ⟨b, us, eb, q1, q2⟩ := litems_sq sr rd wk
      cases eb
      obtain ⟨its', rv, p, hz⟩ := I1.list (.inl (.inl q1))
      refine wpAny_pyIter_list p.isList ?_
      have T : Turn X.prog X.w X.K tg (Itl F.K a) [s1.heap.objs.size] s1.heap.objs.size (fun i h => h.IsListIter s1.heap.objs.size a i) := by rw [hK]; exact turn_list a _
      refine pi_one (tk := s1.toks) I1 _ T ⟨_, Heap.get?_push_size _ rfl, rfl, rfl⟩ (k _ (jok_list wks fun μ st H xs sr r e => ?_))
      obtain ⟨b, us, eb, q1, q2⟩ := litems_sq sr r e
      cases eb
      exact ⟨us, .inl (.inl q1), q2⟩
  · cases wk
end
end Mini

set_option Elab.async false
set_option linter.all false
set_option maxRecDepth 100000
set_option maxHeartbeats 4000000
namespace Mini
open PySem L2

/-- where a piece of code stands: its scope, the names whose cells are its own -/
structure Sc where
  sc : Scope
  fn : Str → Bool
  /-- within an except's suite -/
  hot : Bool := false
def visB (sc : Scope) (x : Str) : Bool := match sc.names.lookup x with
  | some .local => true
  | some .cell => true
  | some .free => true
  | _ => false
def glB (sc : Scope) (x : Str) : Bool := match sc.names.lookup x with
  | some .globalImplicit => true
  | _ => false
def locB (s : Sc) (x : Str) : Bool := match s.sc.names.lookup x with
  | some .local => true
  | some .cell => s.fn x
  | _ => false
def bltN : Bt → Str
  | .len => "len"
  | .int => "int"
  | .abs => "abs"
  | .max => "max"
  | .min => "min"
  | .tuple => "tuple"
  | .list => "list"
  | .all => "all"
  | .any => "any"
  | .sum => "sum"
def tyN : String → Option Str
  | "int" => some "int"
  | "str" => some "str"
  | "bool" => some "bool"
  | "tuple" => some "tuple"
  | "list" => some "list"
  | "dict" => some "dict"
  | _ => none
/-- the built-ins' names that the program uses -/
def bnames : List Str := ["len", "int", "abs", "max", "min", "tuple", "list", "all", "any", "sum", "str", "bool", "dict", "range", "enumerate", "zip", "isinstance", "reversed"]
def blkOf (s : Sc) (scope : Scope) : Sc := ⟨relS scope s.sc, fun x => scope.names.lookup x == some .cell, s.hot⟩
def fldOk (nm : Nat → Str) (f : Nat) : Bool := decide (100000 ≤ f) && !(nm f == ("?" : Str))
def noSuper : Expr → Bool
  | .Call (.Name _ _) [] [] _ => false
  | _ => true
section
variable (nm : Nat → Str) (N : List Str)
def chkTy (sc : Scope) : List String → List Expr → Bool
  | [], [] => true
  | t :: ts, .Name x _ :: es => decide (tyN t = some x) && glB sc x && chkTy sc ts es
  | _, _ => false
mutual
def chkTg (s : Sc) : Tg → Expr → Bool
  | .nm i, .Name x _ => decide (N[i]? = some x) && locB s x
  | .tp ts, .Tuple es _ _ => !s.hot && chkTgs s ts es
  | _, _ => false
def chkTgs (s : Sc) : List Tg → List Expr → Bool
  | [], [] => true
  | t :: ts, e :: es => chkTg s t e && chkTgs s ts es
  | _, _ => false
end
mutual
def slotsT : Tg → List Nat
  | .nm i => [i]
  | .tp ts => slotsTs ts
def slotsTs : List Tg → List Nat
  | [] => []
  | t :: ts => slotsT t ++ slotsTs ts
end
def isTupE : Expr → Bool
  | .Tuple _ _ _ => true
  | _ => false
/-- a walk's form, and its arguments -/
def iterB (sc : Scope) : Sk → Expr → Expr → Bool
  | .seq, _, _ => true
  | .range, .Call (.Name x _) es [] _, _ => decide (x = "range") && glB sc x && (decide (es.length = 1) || decide (es.length = 2))
  | .enum, .Call (.Name x _) es [] _, tg => decide (x = "enumerate") && glB sc x && decide (es.length = 1) && isTupE tg
  | .zip, .Call (.Name x _) es [] _, tg => decide (x = "zip") && glB sc x && decide (es.length = 2) && isTupE tg
  | .rrange, .Call (.Name x _) [.Call (.Name y _) [_] [] _] [] _, _ => decide (x = "reversed") && glB sc x && decide (y = "range") && glB sc y
  | _, _, _ => false
def iterArgs : Sk → Expr → List Expr
  | .seq, e => [e]
  | .rrange, .Call _ [.Call _ es _ _] _ _ => es
  | _, .Call _ es _ _ => es
  | _, _ => []
mutual
/-- this expression is that of the syntax; t: it is a test -/
def chkE (s : Sc) (t : Bool) : CE → Expr → Bool
  | .var i, .Name x _ => decide (N[i]? = some x) && visB s.sc x && !(x == ("__debug__" : Str)) && !(x == ("__classdict__" : Str))
  | .int i, .Constant (.int j) _ _ => decide (i = j)
  | .bl b, .Constant (.bool c) _ _ => decide (b = c)
  | .non, .Constant .none _ _ => true
  | .str z, .Constant (.str x) _ _ => decide (x = ⟨z.toArray⟩) && decide (z.length ≤ LN) && z.all (fun c => decide (c < 1114112))
  | .glo g, .Name x _ => decide (nm g = x) && glB s.sc x && !(x == ("__debug__" : Str))
  | .bin op a b, .BinOp a' op' b' _ => decide (op = op') && chkE s false a a' && chkE s false b b'
  | .cmp op a b, .Compare a' [op'] [b'] _ => decide (op = op') && chkE s false a a' && chkE s false b b'
  | .cmp2 op1 op2 a b c, .Compare a' [op1', op2'] [b', c'] _ => decide (op1 = op1') && decide (op2 = op2') && chkE s false a a' && chkE s false b b' && chkE s false c c'
  | .not a, .UnaryOp .Not a' _ => chkE s t a a'
  | .neg a, .UnaryOp .USub a' _ => chkE s false a a'
  | .and a es, .BoolOp .And (a' :: es') _ => chkE s t a a' && chkL s t es es'
  | .or a es, .BoolOp .Or (a' :: es') _ => chkE s t a a' && chkL s t es es'
  | .ite c a b, .IfExp c' a' b' _ => !t && chkE s true c c' && chkE s false a a' && chkE s false b b'
  | .tup es, .Tuple es' _ _ => chkL s false es es'
  | .lst es, .List es' _ => chkL s false es es'
  | .sub a b, .Subscript a' b' _ => chkE s false a a' && chkE s false b b'
  | .slc a lo hi, .Subscript a' (.Slice lo' hi' none _) _ => chkE s false a a' && chkL s false lo lo'.toList && chkL s false hi hi'.toList
  | .slc3 a lo hi k, .Subscript a' (.Slice lo' hi' (some k') _) _ => chkE s false a a' && chkL s false lo lo'.toList && chkL s false hi hi'.toList && chkE s false k k'
  | .call g es, .Call (.Name x _) es' [] _ => !s.hot && decide (g < 200000) && decide (nm g = x) && glB s.sc x && !(x == ("__debug__" : Str)) && chkL s false es es'
  | .blt b es, .Call (.Name x _) es' [] _ => !s.hot && decide (bltN b = x) && glB s.sc x && chkL s false es es' && !es.isEmpty
  | .isi e ts, .Call (.Name x _) [e', .Tuple es _ _] [] _ => decide (x = "isinstance") && glB s.sc x && chkE s false e e' && chkTy s.sc ts es && decide (ts.length ≤ 8)
  | .isi e [ty], .Call (.Name x _) [e', .Name y _] [] _ => decide (x = "isinstance") && glB s.sc x && chkE s false e e' && decide (tyN ty = some y) && glB s.sc y
  | .mth m o es, .Call (.Attribute o' name apos) es' [] cpos => decide (name = (mthT m).2.1) && noSuper o' && chkE s false o o' && chkL s false es es' && (apos.endLine == cpos.line) && decide (es'.length < 30) && (decide (m ≠ .get) || !es.isEmpty)
  | .comp own k srcs tg tst elt, .ListComp elt' [⟨tg', iter', ifs', a⟩] scope _ => !s.hot && decide (a = 0) && blkC N s.sc scope (own.map fun i => (N.getD i "", i)) && iterB s.sc k iter' tg' && chkL s false srcs (iterArgs k iter') && chkTg N (blkOf s scope) tg tg' && (slotsT tg).all (fun i => decide (i ∈ own)) && decide (tst.length ≤ 1)
      && chkL (blkOf s scope) true tst ifs' && chkE (blkOf s scope) false elt elt'
  | .fld o f, .Attribute o' name _ => decide (nm f = name) && fldOk nm f && noSuper o' && chkE s false o o'
  | .mcl o m es, .Call (.Attribute o' name apos) es' [] cpos => !s.hot && decide (nm m = name) && fldOk nm m && noSuper o' && chkE s false o o' && chkL s false es es' && (apos.endLine == cpos.line) && decide (es'.length < 30)
  | .cav i es, .Call (.Name x _) es' [] _ => !s.hot && decide (N[i]? = some x) && visB s.sc x && !(x == ("__debug__" : Str)) && !(x == ("__classdict__" : Str)) && chkL s false es es'
  | .xis i c, .Call (.Name x _) [.Name n _, .Name y _] [] _ => s.hot && decide (x = "isinstance") && glB s.sc x && decide (N[i]? = some n) && visB s.sc n && !(n == ("__debug__" : Str)) && !(n == ("__classdict__" : Str)) && decide (nm c = y) && glB s.sc y && !(y == ("__debug__" : Str)) && !(y == ("__name__" : Str))
  | .xfl i f, .Attribute (.Name n _) name _ => s.hot && decide (N[i]? = some n) && visB s.sc n && !(n == ("__debug__" : Str)) && !(n == ("__classdict__" : Str)) && decide (nm f = name) && fldOk nm f
  | .dct es, .Dict ks' vs' _ => chkK s es ks' vs' && decide (es.length ≤ 30)
  | .tix g e, .Call (.Attribute (.Name x _) name apos) [e'] [] cpos => decide (nm g = x) && glB s.sc x && !(x == ("__debug__" : Str)) && decide (name = "index") && chkE s false e e' && (apos.endLine == cpos.line)
  | _, _ => false
def chkK (s : Sc) : List CE → List (Option Expr) → List Expr → Bool
  | [], [], [] => true
  | k :: v :: r, some k' :: ks, v' :: vs => chkE s false k k' && chkE s false v v' && chkK s r ks vs
  | _, _, _ => false
def chkL (s : Sc) (t : Bool) : List CE → List Expr → Bool
  | [], [] => true
  | c :: cs, e :: es => chkE s t c e && chkL s t cs es
  | _, _ => false
end
end
end Mini

set_option Elab.async false
set_option linter.all false
set_option maxRecDepth 100000
set_option maxHeartbeats 4000000
namespace Mini
open PySem L2
/-- a def's promise -/
def spF (F : Fix) (call : Nat → List D → Sto → Mx D) (g : Nat) : Sp := fun vs H Q E => ∃ μ st ds r st', SRep F.K F.G μ st H ∧ RepL F.K F.G μ H ds vs ∧ call g ds st = some (r, st') ∧ (match r with
  | .ok d => AOk F μ H (RD F) d st' Q
  | .exc c fs => ∀ μ' H' ws cls dd, Ext F.K μ H μ' H' → SRep F.K F.G μ' st' H' → RepL F.K F.G μ' H' fs ws → XR F c ws cls dd μ' H' → E cls dd H')
/-- what may be called at a level: a def, a class that is made by its __init__ -/
inductive Callee (P : Program) (w : World) (K : PySem.W.Frag) (mg : Str → Option Value) (base : Heap) : Nat → Addr → Sp → Prop
  | fn {k : Nat} {f : Addr} {fd : FuncData} {ps : List Str} {sp : Sp} : FnOk P w K mg base (L2.CX P w) k f fd ps sp → PySem.W.keepIn K (.ref f) = true → Binds K fd ps [] → Callee P w K mg base k f sp
  | cl {k : Nat} {C f : Addr} {fd : FuncData} {ps : List Str} {sp sp' : Sp} : Mk K C f → FnOk P w K mg base (L2.CX P w) k f fd ps sp' → Binds K fd ps [] →
      (∀ vs H Q E, sp vs H Q E → ∀ x dx, H x = none → H dx = none → dx ≠ x → sp' (.ref x :: vs) (upd (upd H dx (.own x)) x (.ins C dx [])) (fun v H2 => v = .non ∧ Q (.ref x) H2) E) → Callee P w K mg base (k + 1) C sp
/-- what an error's __init__ does: self.f = f for each of its fields -/
def spI (C : Addr) (ns : List Str) : Sp := fun vs H Q _ => ∃ a ws, vs = .ref a :: ws ∧ ws.length = ns.length ∧ H a = some (exo a C none) ∧
  ∀ dx l, H dx = none → dx ≠ a → (∀ (i : Nat) n v, ns[i]? = some n → ws[i]? = some v → l.lookup n = some v) → Q .non (upd (upd H dx (exd dx l)) a (exo a C (some dx)))
/-- a class of errors at C, and the names of its fields: how one is made -/
inductive ExcI (P : Program) (w : World) (K : PySem.W.Frag) (mg : Str → Option Value) (base : Heap) (C : Addr) : List Str → Prop
  | bare {B newId initId : String} {bmB : List Value} : ExcBaseFacts B newId initId bmB → PySem.W.excIn K C bmB newId = true → PySem.W.keepIn K (.ref C) = true → PySem.W.subIn K (.ref C) (.type "BaseException") = some true → PySem.W.typeIn K (.ref C) = some (.type "type") → ExcI P w K mg base C []
  | ve {n : Str} {ns : List Str} {fI : Addr} {fd : FuncData} {ps : List Str} : OexC K C → PySem.W.findIn K (.ref C) "__init__" = some (some (.ref fI)) → PySem.W.typeIn K (.ref fI) = some (.type "function") → FnOk P w K mg base CX0 1 fI fd ps (spI C (n :: ns)) → Binds K fd ps [] → ExcI P w K mg base C (n :: ns)
structure Good (F : Fix) (nm : Nat → Str) (X : Cx) (W : WX) (k : Nat) (hot : Bool) : Prop where
  K : X.K = F.K
  calm : hot = false → X.calm = true
  tk : Takes X W
  po : PassesOwn (model X.prog X.w) X.A X.env X.xe
  room : hot = false → Room k X.A
  k2 : 2 ≤ k
  nh : hot = false → ∀ c v dd, ¬ F.hx c v dd
  un : X.A.units + 64 < cLine
  nd : X.N.Nodup
  bl : ∀ x ∈ bnames, X.mg x = none
  gl : ∀ g d, F.P.gl g = some d → ∃ v u, X.mg (nm g) = some u ∧ RelV v u ∧ ∀ μ H, Rep F.K F.G μ H d v
  fn : ∀ g f, g < 200000 → F.P.fn g = some f → ∃ fa, X.mg (nm g) = some (.ref fa) ∧ Callee X.prog X.w X.K X.mg X.base k fa (spF F F.call g)
  cl : ∀ g ds st r, F.call g ds st = some r → ∃ f, F.P.fn g = some f
  /-- the module's tuples -/
  gt : ∀ g xs, F.P.gl g = some (.tup xs) → ∃ p o, X.mg (nm g) = some (.ref p) ∧ X.K.lookup p = some o ∧ o.cls = .type "tuple" ∧ o.dict = none
  /-- functions as values -/
  gv : ∀ g f a, F.P.fn g = some f → F.G g (.ref a) → g < 200000 ∧ X.mg (nm g) = some (.ref a)
  /-- written dicts -/
  kd : ∀ d, F.G 0 (.ref d) → ∃ es n, KDict X.K X.w d es n
  /-- names of fields -/
  gf : ∀ f, fldOk nm f = true → F.G f (.str (nm f))
  gi : ∀ f n, F.G f (.str n) → n = nm f ∧ fldOk nm f = true
  inj : ∀ f g, fldOk nm f = true → fldOk nm g = true → nm f = nm g → f = g
  /-- classes -/
  gu : ∀ c cl C C', F.P.cl c = some cl → F.G c (.ref C) → F.G c (.ref C') → C = C'
  cs : ∀ c cl C, F.P.cl c = some cl → F.G c (.ref C) → Cls X.K C ∧ (∀ f, fldOk nm f = true → cl.ms.lookup f = none → NoAttr X.K C (nm f)) ∧
    ∀ m g f, cl.ms.lookup m = some g → F.P.fn g = some f → ∃ fa fd ps, Meth X.K C (nm m) fa ∧ Binds X.K fd ps [] ∧ FnOk X.prog X.w X.K X.mg X.base (L2.CX X.prog X.w) k fa fd ps (spF F F.call g)
  /-- errors -/
  xs : ∀ c fs, F.P.xf c = some fs → ∃ C, F.xc c = some (C, fs.map nm) ∧ X.mg (nm c) = some (.ref C) ∧ (fs = [] ∨ fs.length ≤ 900) ∧ ExcI X.prog X.w X.K X.mg X.base C (fs.map nm) ∧ XfC X.K C ∧ ∀ f, f ∈ fs → PySem.W.findIn X.K (.ref C) (nm f) = some none
  /-- within a suite: the error that is handled -/
  hs : hot = true → ∃ (X0 : Cx) (a : Addr) (oe : Obj) (pn : List (Addr × Obj)), X = X0.suite a ((a, oe) :: pn) ∧ ∀ c v dd, F.hx c v dd → v = .ref a ∧ ∃ C ns, F.xc c = some (C, ns) ∧ Zc (.ref C) dd oe ∧ ∃ vs, oe.data = .fields vs
  hn : ∀ c', F.P.hcl c' = true → ∃ cv, (nm c' == ("__debug__" : Str)) = false ∧ (X.mg (nm c') = some cv ∨ (X.mg (nm c') = none ∧ bootBuiltins (nm c') = some cv ∧ nm c' ≠ "__name__"))
  xm : ∀ c c' b C ns, F.P.sub c c' = some b → F.xc c = some (C, ns) → ∃ cv vc, (nm c' == ("__debug__" : Str)) = false ∧ (X.mg (nm c') = some cv ∨ (X.mg (nm c') = none ∧ bootBuiltins (nm c') = some cv ∧ nm c' ≠ "__name__")) ∧ RelV vc cv ∧ (∀ u, RelV vc u → u = cv) ∧ PySem.W.exmOne X.K (.ref C) cv = some b ∧ PySem.W.kitOne X.K (.ref C) cv = some b ∧ ExcC X.K C
/-- the code stands in that scope -/
structure At (X : Cx) (N : List Str) (s : Sc) : Prop where
  N : X.N = N
  sc : X.env.scope = s.sc
  fn : X.fn = s.fn
variable {F : Fix} {nm : Nat → Str} {X : Cx} {W : WX} {k : Nat} {N : List Str} {s : Sc}
theorem vis_of (a : At X N s) {x : Str} (h : visB s.sc x = true) : Vis X.env.scope x := by
  rw [a.sc]
  unfold visB at h
  unfold Vis
  split at h
  · exact .inl (by assumption)
  · exact .inr (.inl (by assumption))
  · exact .inr (.inr (by assumption))
  · cases h
theorem gl_of (a : At X N s) {x : Str} (h : glB s.sc x = true) : Gl X x := by
  unfold Gl PySem.Env.kindOf
  rw [a.sc]
  unfold glB at h
  split at h
  · assumption
  · cases h
theorem loc_of (a : At X N s) {x : Str} (h : locB s x = true) : L2.Loc X.env.scope x ∧ (X.fn x = true ∨ X.env.scope.names.lookup x = some .local) := by
  rw [a.sc, a.fn]
  unfold locB at h
  unfold L2.Loc
  split at h
  · rename_i e
    exact ⟨.inl e, .inr e⟩
  · rename_i e
    exact ⟨.inr e, .inl h⟩
  · cases h
theorem star_of {t : Bool} {c : CE} {e : Expr} {es : List Expr} {env : PySem.Env} (h : chkE nm N s t c e = true) : starEach (e :: es) env = (false, eval e env) :: starEach es env := by
  cases e <;> first
    | rfl
    | (cases c <;> simp [chkE] at h)
theorem backTo_any {pos : Pos} : ∀ l : List (Bool × Sem Value), (backTo pos l).any (·.1) = l.any (·.1)
  | [] => rfl
  | (b, t) :: r => by
    unfold backTo
    rw [List.map_cons, List.any_cons, List.any_cons]
    have := backTo_any (pos := pos) r
    unfold backTo at this
    rw [this]
theorem stars_of {t : Bool} {env : PySem.Env} : ∀ {cs : List CE} {es : List Expr}, chkL nm N s t cs es = true → (starEach es env).any (·.1) = false
  | [], [], _ => rfl
  | [], _ :: _, h => by simp [chkL] at h
  | _ :: _, [], h => by simp [chkL] at h
  | c :: cs, e :: es, h => by
    unfold chkL at h
    rw [Bool.and_eq_true] at h
    rw [star_of h.1, List.any_cons, stars_of h.2]
    rfl
theorem chkL_len {t : Bool} : ∀ {cs : List CE} {es : List Expr}, chkL nm N s t cs es = true → es.length = cs.length
  | [], [], _ => rfl
  | [], _ :: _, h => by simp [chkL] at h
  | _ :: _, [], h => by simp [chkL] at h
  | c :: cs, e :: es, h => by
    unfold chkL at h
    rw [Bool.and_eq_true] at h
    rw [List.length_cons, List.length_cons, chkL_len h.2]
/-- what is shown of an expression -/
def PEx (F : Fix) (nm : Nat → Str) (c : CE) : Prop := ∀ (X : Cx) (W : WX) (k : Nat) (N : List Str) (s : Sc) (e : Expr), Good F nm X W k s.hot → At X N s →
  (chkE nm N s false c e = true → PE X e (tE F W c)) ∧ (chkE nm N s true c e = true → PT X e (tT F W c))
theorem soundA {cs : List CE} (ih : ∀ c ∈ cs, PEx F nm c) (g : Good F nm X W k s.hot) (a : At X N s) : ∀ {es : List Expr}, chkL nm N s false cs es = true → PA X es (tL F W cs) := by
  induction cs with
  | nil =>
    intro es h
    cases es with
    | nil =>
      refine PA.imp pa_nil fun σ H Q ⟨μ, env, st, he, sr, t⟩ => ?_
      unfold evL at t
      exact t.ok sr RepL.nil
    | cons e es => simp [chkL] at h
  | cons c cs ihl =>
    intro es h
    cases es with
    | nil => simp [chkL] at h
    | cons e es =>
      unfold chkL at h
      rw [Bool.and_eq_true] at h
      refine PA.imp (pa_cons ((ih c (by simp) X W k N s e g a).1 h.1) (ihl (fun d hd => ih d (List.mem_cons_of_mem _ hd)) h.2) (star_of h.1)) fun σ H Q ⟨μ, env, st, he, sr, t⟩ => ?_
      unfold evL at t
      refine ⟨μ, env, st, he, sr, tM.bd t fun x st1 μ1 H1 v e1 s1 r1 t1 => ?_⟩
      refine ⟨μ1, env, st1, he.ext e1, s1, tM.bd t1 fun xs st2 μ2 H2 vs e2 s2 r2 t2 => ?_⟩
      exact t2.ok s2 (RepL.cons (r1.ext e2) r2)
/-- a test by its value's truth -/
theorem pt_of {e : Expr} {c : CE} (g : Good F nm X W k s.hot) (h : PE X e (tE F W c)) (he : ∀ whole, isTrue e X.env whole = (do let v ← whole; standAt e.pos; holding [v] (truthy v))) : PT X e (tT F W c) := by
  refine PT.imp (pt_truth h he) fun σ H Q ⟨μ, env, st, hh, sr, t⟩ => ?_
  refine ⟨μ, env, st, hh, sr, ?_⟩
  unfold evT bT at t
  refine tM.bd t fun x st1 μ1 H1 v e1 s1 r1 t1 => ?_
  cases hk : truD st1 x with
  | none => rw [hk] at t1; exact t1.no.elim
  | some b =>
    rw [hk] at t1
    refine ⟨b, ?_, t1.ok s1 rfl⟩
    rw [g.K]
    exact tru_d s1 r1 hk
/-- a value of two values -/
theorem pe_two {e : Expr} {a b : CE} {r : R2} {f : D → D → Sto → Mx D} (h : PE X e (tOp r (tE F W a) (tE F W b))) (ev : CE) (hev : ∀ env st, evE F.P F.call ev env st = bd (evE F.P F.call a env st) fun x st => bd (evE F.P F.call b env st) fun y st => f x y st)
    (hr : ∀ v w H Q μ st x y σ, SRep F.K F.G μ st H → Rep F.K F.G μ H x v → Rep F.K F.G μ H y w → tM F W σ μ H (RD F) (f x y st) Q → r v w H Q) : PE X e (tE F W ev) := by
  refine PE.imp h fun σ H Q ⟨μ, env, st, he, sr, t⟩ => ?_
  rw [hev] at t
  refine ⟨μ, env, st, he, sr, tM.bd t fun x st1 μ1 H1 v e1 s1 r1 t1 => ?_⟩
  refine ⟨μ1, env, st1, he.ext e1, s1, tM.bd t1 fun y st2 μ2 H2 w e2 s2 r2 t2 => ?_⟩
  exact hr v w H2 Q μ2 st2 x y σ s2 (r1.ext e2) r2 t2
theorem cmp_r {op : CmpOp} {v w : V} {H : Hp} {Q : VK} {μ : List Addr} {st : Sto} {x y : D} {σ : L2.St} (sr : SRep F.K F.G μ st H) (rx : Rep F.K F.G μ H x v) (ry : Rep F.K F.G μ H y w) (t : tM F W σ μ H (RD F) (opt ((cmpD op st x y).map .bl) st) Q) : rC F op v w H Q := by
  cases h : cmpD op st x y with
  | none => rw [h] at t; exact t.no.elim
  | some b => rw [h] at t; exact ⟨μ, st, x, y, b, sr, rx, ry, h, t.ok sr mkB⟩
theorem mark_of {t : Bool} {c : CE} {e : Expr} {op : CmpOp} (h : chkE nm N s t c e = true) : behindInMarks op e = false := by
  cases e <;> first
    | rfl
    | (cases c <;> simp [chkE] at h)
theorem plainIx_of {t : Bool} {c : CE} {e : Expr} (h : chkE nm N s t c e = true) : PlainIx e := by
  intro o i
  cases e <;> first
    | rfl
    | (cases c <;> simp [chkE] at h)
theorem base_of {t : Bool} {c : CE} {e : Expr} {name : Str} {env : PySem.Env} (h : chkE nm N s t c e = true) (n : noSuper e = true) : attributeBase e name env (eval e env) = eval e env := by
  cases e <;> try rfl
  rename_i f args kws pos
  cases f <;> try rfl
  cases args <;> try rfl
  cases kws <;> try rfl
  cases n
theorem folded_of {t : Bool} {c : CE} {e : Expr} {env : PySem.Env} (h : chkE nm N s t c e = true) : ∀ x, foldedSetIterable e env x = pure x := by
  intro x
  cases e <;> first
    | rfl
    | (cases c <;> simp [chkE] at h)
end Mini

set_option Elab.async false
set_option linter.all false
set_option maxRecDepth 100000
set_option maxHeartbeats 4000000
namespace Mini
open PySem L2
section
variable {nm : Nat → Str} {N : List Str} {s : Sc} {t : Bool} {e : Expr}
theorem i_var {i : Nat} (h : chkE nm N s t (.var i) e = true) : ∃ x p, e = .Name x p ∧ N[i]? = some x ∧ visB s.sc x = true ∧ (x == ("__debug__" : Str)) = false ∧ (x == ("__classdict__" : Str)) = false := by
  cases e <;> simp [chkE] at h
  exact ⟨_, _, rfl, h.1.1.1, h.1.1.2, by simpa using h.1.2, by simpa using h.2⟩
theorem i_int {i : Int} (h : chkE nm N s t (.int i) e = true) : ∃ j p, e = .Constant (.int i) j p := by
  cases e <;> try (simp [chkE] at h; done)
  rename_i c j p
  cases c <;> simp [chkE] at h
  subst h
  exact ⟨_, _, rfl⟩
theorem i_bl {i : Bool} (h : chkE nm N s t (.bl i) e = true) : ∃ j p, e = .Constant (.bool i) j p := by
  cases e <;> try (simp [chkE] at h; done)
  rename_i c j p
  cases c <;> simp [chkE] at h
  subst h
  exact ⟨_, _, rfl⟩
theorem i_non (h : chkE nm N s t .non e = true) : ∃ j p, e = .Constant .none j p := by
  cases e <;> try (simp [chkE] at h; done)
  rename_i c j p
  cases c <;> simp [chkE] at h
  exact ⟨_, _, rfl⟩
theorem i_str {z : S} (h : chkE nm N s t (.str z) e = true) : ∃ j p, e = .Constant (.str ⟨z.toArray⟩) j p ∧ z.length ≤ LN ∧ ∀ c ∈ z, c < 1114112 := by
  cases e <;> try (simp [chkE] at h; done)
  rename_i c j p
  cases c <;> simp [chkE] at h
  obtain ⟨⟨h1, h2⟩, h3⟩ := h
  subst h1
  exact ⟨_, _, rfl, h2, h3⟩
theorem i_glo {g : Nat} (h : chkE nm N s t (.glo g) e = true) : ∃ p, e = .Name (nm g) p ∧ glB s.sc (nm g) = true ∧ (nm g == ("__debug__" : Str)) = false := by
  cases e <;> simp [chkE] at h
  obtain ⟨⟨h1, h2⟩, h3⟩ := h
  subst h1
  exact ⟨_, rfl, h2, by simpa using h3⟩
theorem i_bin {op : Operator} {a b : CE} (h : chkE nm N s t (.bin op a b) e = true) : ∃ a' b' p, e = .BinOp a' op b' p ∧ chkE nm N s false a a' = true ∧ chkE nm N s false b b' = true := by
  cases e <;> simp [chkE] at h
  obtain ⟨⟨h1, h2⟩, h3⟩ := h
  subst h1
  exact ⟨_, _, _, rfl, h2, h3⟩
theorem i_cmp {op : CmpOp} {a b : CE} (h : chkE nm N s t (.cmp op a b) e = true) : ∃ a' b' p, e = .Compare a' [op] [b'] p ∧ chkE nm N s false a a' = true ∧ chkE nm N s false b b' = true := by
  cases e <;> try (simp [chkE] at h; done)
  rename_i l ops cs p
  match ops, cs with
  | [o], [c] =>
    simp [chkE] at h
    obtain ⟨⟨h1, h2⟩, h3⟩ := h
    subst h1
    exact ⟨_, _, _, rfl, h2, h3⟩
  | [], _ => simp [chkE] at h
  | _ :: _ :: _, _ => simp [chkE] at h
  | [_], [] => simp [chkE] at h
  | [_], _ :: _ :: _ => simp [chkE] at h
theorem i_cmp2 {o1 o2 : CmpOp} {a b c : CE} (h : chkE nm N s t (.cmp2 o1 o2 a b c) e = true) : ∃ a' b' c' p, e = .Compare a' [o1, o2] [b', c'] p ∧ chkE nm N s false a a' = true ∧ chkE nm N s false b b' = true ∧ chkE nm N s false c c' = true := by
  cases e <;> try (simp [chkE] at h; done)
  rename_i l ops cs p
  match ops, cs with
  | [o, o'], [x, y] =>
    simp [chkE] at h
    obtain ⟨⟨⟨⟨h1, h2⟩, h3⟩, h4⟩, h5⟩ := h
    subst h1 h2
    exact ⟨_, _, _, _, rfl, h3, h4, h5⟩
  | [], _ => simp [chkE] at h
  | [_], _ => simp [chkE] at h
  | _ :: _ :: _ :: _, _ => simp [chkE] at h
  | [_, _], [] => simp [chkE] at h
  | [_, _], [_] => simp [chkE] at h
  | [_, _], _ :: _ :: _ :: _ => simp [chkE] at h
theorem i_not {a : CE} (h : chkE nm N s t (.not a) e = true) : ∃ a' p, e = .UnaryOp .Not a' p ∧ chkE nm N s t a a' = true := by
  cases e <;> try (simp [chkE] at h; done)
  rename_i op a' p
  cases op <;> simp [chkE] at h
  exact ⟨_, _, rfl, h⟩
theorem i_neg {a : CE} (h : chkE nm N s t (.neg a) e = true) : ∃ a' p, e = .UnaryOp .USub a' p ∧ chkE nm N s false a a' = true := by
  cases e <;> try (simp [chkE] at h; done)
  rename_i op a' p
  cases op <;> simp [chkE] at h
  exact ⟨_, _, rfl, h⟩
theorem i_and {a : CE} {es : List CE} (h : chkE nm N s t (.and a es) e = true) : ∃ a' es' p, e = .BoolOp .And (a' :: es') p ∧ chkE nm N s t a a' = true ∧ chkL nm N s t es es' = true := by
  cases e <;> try (simp [chkE] at h; done)
  rename_i op vs p
  cases op <;> cases vs <;> simp [chkE] at h
  exact ⟨_, _, _, rfl, h.1, h.2⟩
theorem i_or {a : CE} {es : List CE} (h : chkE nm N s t (.or a es) e = true) : ∃ a' es' p, e = .BoolOp .Or (a' :: es') p ∧ chkE nm N s t a a' = true ∧ chkL nm N s t es es' = true := by
  cases e <;> try (simp [chkE] at h; done)
  rename_i op vs p
  cases op <;> cases vs <;> simp [chkE] at h
  exact ⟨_, _, _, rfl, h.1, h.2⟩
theorem i_ite {c a b : CE} (h : chkE nm N s t (.ite c a b) e = true) : ∃ c' a' b' p, e = .IfExp c' a' b' p ∧ t = false ∧ chkE nm N s true c c' = true ∧ chkE nm N s false a a' = true ∧ chkE nm N s false b b' = true := by
  cases e <;> simp [chkE] at h
  exact ⟨_, _, _, _, rfl, h.1.1.1, h.1.1.2, h.1.2, h.2⟩
theorem i_tup {es : List CE} (h : chkE nm N s t (.tup es) e = true) : ∃ es' k p, e = .Tuple es' k p ∧ chkL nm N s false es es' = true := by
  cases e <;> simp [chkE] at h
  exact ⟨_, _, _, rfl, h⟩
theorem i_lst {es : List CE} (h : chkE nm N s t (.lst es) e = true) : ∃ es' p, e = .List es' p ∧ chkL nm N s false es es' = true := by
  cases e <;> simp [chkE] at h
  exact ⟨_, _, rfl, h⟩
theorem i_sub {a b : CE} (h : chkE nm N s t (.sub a b) e = true) : ∃ a' b' p, e = .Subscript a' b' p ∧ chkE nm N s false a a' = true ∧ chkE nm N s false b b' = true := by
  cases e <;> simp [chkE] at h
  exact ⟨_, _, _, rfl, h.1, h.2⟩
theorem i_slc {a : CE} {lo hi : List CE} (h : chkE nm N s t (.slc a lo hi) e = true) : ∃ a' lo' hi' p p', e = .Subscript a' (.Slice lo' hi' none p) p' ∧ chkE nm N s false a a' = true ∧ chkL nm N s false lo lo'.toList = true ∧ chkL nm N s false hi hi'.toList = true := by
  cases e <;> try (simp [chkE] at h; done)
  rename_i v sl p
  cases sl <;> try (simp [chkE] at h; done)
  rename_i l u st p'
  cases st <;> simp [chkE] at h
  exact ⟨_, _, _, _, _, rfl, h.1.1, h.1.2, h.2⟩
theorem i_slc3 {a k : CE} {lo hi : List CE} (h : chkE nm N s t (.slc3 a lo hi k) e = true) : ∃ a' lo' hi' k' p p', e = .Subscript a' (.Slice lo' hi' (some k') p) p' ∧ chkE nm N s false a a' = true ∧ chkL nm N s false lo lo'.toList = true ∧ chkL nm N s false hi hi'.toList = true ∧ chkE nm N s false k k' = true := by
  cases e <;> try (simp [chkE] at h; done)
  rename_i v sl p
  cases sl <;> try (simp [chkE] at h; done)
  rename_i l u st p'
  cases st <;> simp [chkE] at h
  exact ⟨_, _, _, _, _, _, rfl, h.1.1.1, h.1.1.2, h.1.2, h.2⟩
theorem i_call {g : Nat} {es : List CE} (h : chkE nm N s t (.call g es) e = true) : ∃ es' p p', e = .Call (.Name (nm g) p) es' [] p' ∧ glB s.sc (nm g) = true ∧ (nm g == ("__debug__" : Str)) = false ∧ chkL nm N s false es es' = true ∧ s.hot = false ∧ g < 200000 := by
  cases e <;> try (simp [chkE] at h; done)
  rename_i f args kws p
  cases f <;> try (simp [chkE] at h; done)
  cases kws <;> simp [chkE] at h
  obtain ⟨⟨⟨⟨⟨h0, h00⟩, h1⟩, h2⟩, h3⟩, h4⟩ := h
  subst h1
  exact ⟨_, _, _, rfl, h2, by simpa using h3, h4, h0, h00⟩
theorem i_blt {b : Bt} {es : List CE} (h : chkE nm N s t (.blt b es) e = true) : ∃ es' p p', e = .Call (.Name (bltN b) p) es' [] p' ∧ glB s.sc (bltN b) = true ∧ chkL nm N s false es es' = true ∧ es ≠ [] ∧ s.hot = false := by
  cases e <;> try (simp [chkE] at h; done)
  rename_i f args kws p
  cases f <;> try (simp [chkE] at h; done)
  cases kws <;> simp [chkE] at h
  obtain ⟨⟨⟨⟨h0, h1⟩, h2⟩, h3⟩, h4⟩ := h
  subst h1
  exact ⟨_, _, _, rfl, h2, h3, (by cases es <;> simp_all), h0⟩
theorem i_mth {m : Mt} {o : CE} {es : List CE} (h : chkE nm N s t (.mth m o es) e = true) : ∃ o' es' apos cpos, e = .Call (.Attribute o' (mthT m).2.1 apos) es' [] cpos ∧ noSuper o' = true ∧ chkE nm N s false o o' = true ∧ chkL nm N s false es es' = true ∧ (apos.endLine == cpos.line) = true ∧ es'.length < 30 ∧ (m = .get → es ≠ []) := by
  cases e <;> try (simp [chkE] at h; done)
  rename_i f args kws p
  cases f <;> try (simp [chkE] at h; done)
  cases kws <;> simp [chkE] at h
  obtain ⟨⟨⟨⟨⟨⟨h1, h2⟩, h3⟩, h4⟩, h5⟩, h6⟩, h7⟩ := h
  subst h1
  exact ⟨_, _, _, _, rfl, h2, h3, h4, by simpa using h5, h6, fun z => h7.resolve_left (fun y => y z)⟩
theorem i_isi {a : CE} {ts : List String} (h : chkE nm N s t (.isi a ts) e = true) : ∃ a' p p', glB s.sc "isinstance" = true ∧ chkE nm N s false a a' = true ∧
    ((∃ es k q, e = .Call (.Name "isinstance" p) [a', .Tuple es k q] [] p' ∧ chkTy s.sc ts es = true ∧ ts.length ≤ 8) ∨ (∃ ty y q, ts = [ty] ∧ e = .Call (.Name "isinstance" p) [a', .Name y q] [] p' ∧ tyN ty = some y ∧ glB s.sc y = true)) := by
  cases e <;> try (simp [chkE] at h; done)
  rename_i f args kws p
  cases f <;> try (simp [chkE] at h; done)
  rename_i x px
  cases kws <;> try (simp [chkE] at h; done)
  match args with
  | [] => simp [chkE] at h
  | [_] => simp [chkE] at h
  | _ :: _ :: _ :: _ => simp [chkE] at h
  | [a', tt] =>
    cases tt <;> try (simp [chkE] at h; done)
    · rename_i y q
      match ts with
      | [] => simp [chkE] at h
      | _ :: _ :: _ => simp [chkE] at h
      | [ty] =>
        simp [chkE] at h
        obtain ⟨⟨⟨⟨h1, h2⟩, h3⟩, h4⟩, h5⟩ := h
        subst h1
        exact ⟨a', px, p, h2, h3, .inr ⟨ty, y, q, rfl, rfl, h4, h5⟩⟩
    · rename_i es k q
      simp [chkE] at h
      obtain ⟨⟨⟨⟨h1, h2⟩, h3⟩, h4⟩, h5⟩ := h
      subst h1
      exact ⟨a', px, p, h2, h3, .inl ⟨es, k, q, rfl, h4, h5⟩⟩
theorem i_comp {own : List Nat} {k : Sk} {srcs tst : List CE} {tg : Tg} {elt : CE} (h : chkE nm N s t (.comp own k srcs tg tst elt) e = true) : ∃ elt' tg' iter' ifs' scope p, e = .ListComp elt' [⟨tg', iter', ifs', 0⟩] scope p ∧
    blkC N s.sc scope (own.map fun i => (N.getD i "", i)) = true ∧ iterB s.sc k iter' tg' = true ∧ chkL nm N s false srcs (iterArgs k iter') = true ∧ chkTg N (blkOf s scope) tg tg' = true ∧ (∀ i ∈ slotsT tg, i ∈ own) ∧ tst.length ≤ 1 ∧
    chkL nm N (blkOf s scope) true tst ifs' = true ∧ chkE nm N (blkOf s scope) false elt elt' = true ∧ s.hot = false := by
  cases e <;> try (simp [chkE] at h; done)
  rename_i el gs scope p
  match gs with
  | [] => simp [chkE] at h
  | _ :: _ :: _ => simp [chkE] at h
  | [⟨tg', iter', ifs', a⟩] =>
    simp [chkE] at h
    obtain ⟨⟨⟨⟨⟨⟨⟨⟨⟨h0, h1⟩, h2⟩, h3⟩, h4⟩, h5⟩, h6⟩, h7⟩, h8⟩, h9⟩ := h
    subst h1
    refine ⟨_, _, _, _, _, _, rfl, ?_, h3, h4, h5, h6, h7, h8, h9, h0⟩
    simpa using h2
theorem i_fld {o : CE} {f : Nat} (h : chkE nm N s t (.fld o f) e = true) : ∃ o' p, e = .Attribute o' (nm f) p ∧ fldOk nm f = true ∧ noSuper o' = true ∧ chkE nm N s false o o' = true := by
  cases e <;> simp [chkE] at h
  obtain ⟨⟨⟨h1, h2⟩, h3⟩, h4⟩ := h
  subst h1
  exact ⟨_, _, rfl, h2, h3, h4⟩
theorem i_mcl {o : CE} {m : Nat} {es : List CE} (h : chkE nm N s t (.mcl o m es) e = true) : ∃ o' es' ap cp, e = .Call (.Attribute o' (nm m) ap) es' [] cp ∧ s.hot = false ∧ fldOk nm m = true ∧ noSuper o' = true ∧ chkE nm N s false o o' = true ∧ chkL nm N s false es es' = true ∧ (ap.endLine == cp.line) = true ∧ es'.length < 30 := by
  cases e <;> try (simp [chkE] at h; done)
  rename_i f args kws p
  cases f <;> try (simp [chkE] at h; done)
  cases kws <;> simp [chkE] at h
  obtain ⟨⟨⟨⟨⟨⟨⟨h0, h1⟩, h2⟩, h3⟩, h4⟩, h5⟩, h6⟩, h7⟩ := h
  subst h1
  exact ⟨_, _, _, _, rfl, h0, h2, h3, h4, h5, by simpa using h6, h7⟩
theorem i_cav {i : Nat} {es : List CE} (h : chkE nm N s t (.cav i es) e = true) : ∃ x es' p p', e = .Call (.Name x p) es' [] p' ∧ s.hot = false ∧ N[i]? = some x ∧ visB s.sc x = true ∧ (x == ("__debug__" : Str)) = false ∧ (x == ("__classdict__" : Str)) = false ∧ chkL nm N s false es es' = true := by
  cases e <;> try (simp [chkE] at h; done)
  rename_i f args kws p
  cases f <;> try (simp [chkE] at h; done)
  cases kws <;> simp [chkE] at h
  obtain ⟨⟨⟨⟨⟨h0, h1⟩, h2⟩, h3⟩, h4⟩, h5⟩ := h
  exact ⟨_, _, _, _, rfl, h0, h1, h2, by simpa using h3, by simpa using h4, h5⟩
theorem i_xfl {i f : Nat} (h : chkE nm N s t (.xfl i f) e = true) : ∃ n p p', e = .Attribute (.Name n p) (nm f) p' ∧ s.hot = true ∧ N[i]? = some n ∧ visB s.sc n = true ∧ (n == ("__debug__" : Str)) = false ∧ (n == ("__classdict__" : Str)) = false ∧ fldOk nm f = true := by
  cases e <;> try (simp [chkE] at h; done)
  rename_i o name p
  cases o <;> simp [chkE] at h
  obtain ⟨⟨⟨⟨⟨⟨h0, h1⟩, h2⟩, h3⟩, h4⟩, h5⟩, h6⟩ := h
  subst h5
  exact ⟨_, _, _, rfl, h0, h1, h2, by simpa using h3, by simpa using h4, h6⟩
theorem i_xis {i c : Nat} (h : chkE nm N s t (.xis i c) e = true) : ∃ n p1 p2 p3 p4, e = .Call (.Name "isinstance" p1) [.Name n p2, .Name (nm c) p3] [] p4 ∧ s.hot = true ∧ glB s.sc "isinstance" = true ∧ N[i]? = some n ∧ visB s.sc n = true ∧ (n == ("__debug__" : Str)) = false ∧ (n == ("__classdict__" : Str)) = false ∧
    glB s.sc (nm c) = true ∧ (nm c == ("__debug__" : Str)) = false ∧ (nm c == ("__name__" : Str)) = false := by
  cases e <;> try (simp [chkE] at h; done)
  rename_i f args kws p
  cases f <;> try (simp [chkE] at h; done)
  cases kws <;> try (simp [chkE] at h; done)
  match args with
  | [] => simp [chkE] at h
  | [_] => simp [chkE] at h
  | _ :: _ :: _ :: _ => simp [chkE] at h
  | [a1, a2] =>
    cases a1 <;> try (simp [chkE] at h; done)
    cases a2 <;> simp [chkE] at h
    obtain ⟨⟨⟨⟨⟨⟨⟨⟨⟨⟨h0, h1⟩, h2⟩, h3⟩, h4⟩, h5⟩, h6⟩, h7⟩, h8⟩, h9⟩, h10⟩ := h
    subst h1 h7
    exact ⟨_, _, _, _, _, rfl, h0, h2, h3, h4, by simpa using h5, by simpa using h6, h8, by simpa using h9, by simpa using h10⟩
theorem i_dct {es : List CE} (h : chkE nm N s t (.dct es) e = true) : ∃ ks' vs' p, e = .Dict ks' vs' p ∧ chkK nm N s es ks' vs' = true ∧ es.length ≤ 30 := by
  cases e <;> simp [chkE] at h
  exact ⟨_, _, _, rfl, h.1, h.2⟩
theorem i_tix {i : Nat} {x : CE} (h : chkE nm N s t (.tix i x) e = true) : ∃ e' p ap cp, e = .Call (.Attribute (.Name (nm i) p) "index" ap) [e'] [] cp ∧ glB s.sc (nm i) = true ∧ (nm i == ("__debug__" : Str)) = false ∧ chkE nm N s false x e' = true ∧ (ap.endLine == cp.line) = true := by
  cases e <;> try (simp [chkE] at h; done)
  rename_i f args kws p
  cases f <;> try (simp [chkE] at h; done)
  rename_i o name ap
  cases o <;> try (simp [chkE] at h; done)
  cases kws <;> try (simp [chkE] at h; done)
  match args with
  | [] => simp [chkE] at h
  | _ :: _ :: _ => simp [chkE] at h
  | [e'] =>
    simp [chkE] at h
    obtain ⟨⟨⟨⟨⟨h1, h2⟩, h3⟩, h4⟩, h5⟩, h6⟩ := h
    subst h1 h4
    exact ⟨_, _, _, _, rfl, h2, by simpa using h3, h5, by simpa using h6⟩
end
end Mini

set_option Elab.async false
set_option linter.all false
set_option maxRecDepth 100000
set_option maxHeartbeats 4000000
namespace Mini
open PySem L2
section
variable {F : Fix} {nm : Nat → Str}
theorem s_var (i : Nat) : PEx F nm (.var i) := by
  intro X W k N s e g a
  have pe : ∀ t, chkE nm N s t (.var i) e = true → PE X e (tE F W (.var i)) := fun t h => by
    obtain ⟨x, p, rfl, h1, h2, h3, h4⟩ := i_var h
    refine PE.imp (pe_var (i := i) (by rw [a.N]; exact h1) (vis_of a h2) h3 h4) fun σ H Q ⟨μ, env, st, he, sr, t⟩ => ?_
    unfold evE at t
    split at t
    · rename_i d hd
      rcases nex_eq d st with ⟨_, n2⟩ | ⟨n1, n2⟩
      · rw [n2] at t
        exact t.no.elim
      · rw [n2] at t
        obtain ⟨v, q1, q2⟩ := he.at_ i d hd n1
        exact ⟨v, q1, t.ok sr q2⟩
    · exact t.no.elim
  refine ⟨pe false, fun h => pt_of g (pe true h) ?_⟩
  obtain ⟨x, p, rfl, _⟩ := i_var h
  exact fun _ => rfl
theorem s_int (i : Int) : PEx F nm (.int i) := by
  intro X W k N s e g a
  have pe : ∀ t, chkE nm N s t (.int i) e = true → PE X e (tE F W (.int i)) := fun t h => by
    obtain ⟨x, p, rfl⟩ := i_int h
    refine PE.imp pe_int fun σ H Q ⟨μ, env, st, he, sr, t⟩ => ?_
    unfold evE at t
    exact t.ok sr mkI
  refine ⟨pe false, fun h => pt_of g (pe true h) ?_⟩
  obtain ⟨x, p, rfl⟩ := i_int h
  exact fun _ => rfl
theorem s_bl (i : Bool) : PEx F nm (.bl i) := by
  intro X W k N s e g a
  have pe : ∀ t, chkE nm N s t (.bl i) e = true → PE X e (tE F W (.bl i)) := fun t h => by
    obtain ⟨x, p, rfl⟩ := i_bl h
    refine PE.imp pe_bl fun σ H Q ⟨μ, env, st, he, sr, t⟩ => ?_
    unfold evE at t
    exact t.ok sr mkB
  refine ⟨pe false, fun h => pt_of g (pe true h) ?_⟩
  obtain ⟨x, p, rfl⟩ := i_bl h
  exact fun _ => rfl
theorem s_non : PEx F nm .non := by
  intro X W k N s e g a
  have pe : ∀ t, chkE nm N s t .non e = true → PE X e (tE F W .non) := fun t h => by
    obtain ⟨x, p, rfl⟩ := i_non h
    refine PE.imp pe_non fun σ H Q ⟨μ, env, st, he, sr, t⟩ => ?_
    unfold evE at t
    exact t.ok sr mkN
  refine ⟨pe false, fun h => pt_of g (pe true h) ?_⟩
  obtain ⟨x, p, rfl⟩ := i_non h
  exact fun _ => rfl
theorem s_str (z : S) : PEx F nm (.str z) := by
  intro X W k N s e g a
  have pe : ∀ t, chkE nm N s t (.str z) e = true → PE X e (tE F W (.str z)) := fun t h => by
    obtain ⟨x, p, rfl, h1, h2⟩ := i_str h
    refine PE.imp pe_str fun σ H Q ⟨μ, env, st, he, sr, t⟩ => ?_
    unfold evE at t
    exact t.ok sr (mkS (by rw [LN_eq]; exact h1) h2)
  refine ⟨pe false, fun h => pt_of g (pe true h) ?_⟩
  obtain ⟨x, p, rfl, _⟩ := i_str h
  exact fun _ => rfl
theorem s_glo (i : Nat) : PEx F nm (.glo i) := by
  intro X W k N s e g a
  have pe : ∀ t, chkE nm N s t (.glo i) e = true → PE X e (tE F W (.glo i)) := fun t h => by
    obtain ⟨p, rfl, h1, h2⟩ := i_glo h
    cases hg : F.P.gl i with
    | none =>
      refine ⟨fun pins s σ H Q I ⟨μ, env, st, he, sr, t⟩ => ?_⟩
      unfold evE at t
      rw [hg] at t
      exact t.no.elim
    | some d =>
      obtain ⟨v, u, q1, q2, q3⟩ := g.gl i d hg
      refine PE.imp (pe_glob (gl_of a h1) q1 q2 h2) fun σ H Q ⟨μ, env, st, he, sr, t⟩ => ?_
      unfold evE at t
      rw [hg] at t
      exact t.ok sr (q3 μ H)
  refine ⟨pe false, fun h => pt_of g (pe true h) ?_⟩
  obtain ⟨p, rfl, _⟩ := i_glo h
  exact fun _ => rfl
theorem s_bin (op : Operator) {x y : CE} (hx : PEx F nm x) (hy : PEx F nm y) : PEx F nm (.bin op x y) := by
  intro X W k N s e g a
  have pe : ∀ t, chkE nm N s t (.bin op x y) e = true → PE X e (tE F W (.bin op x y)) := fun t h => by
    obtain ⟨a', b', p, rfl, h1, h2⟩ := i_bin h
    refine pe_two (f := binD op) (pe_op (op_bin g.K op) ((hx X W k N s _ g a).1 h1) ((hy X W k N s _ g a).1 h2)) _ (fun env st => by rw [evE]) fun v w H Q μ st x y σ sr rx ry t => ?_
    exact ⟨W, σ, μ, st, x, y, sr, rx, ry, t⟩
  refine ⟨pe false, fun h => pt_of g (pe true h) ?_⟩
  obtain ⟨a', b', p, rfl, _⟩ := i_bin h
  exact fun _ => rfl
theorem s_cmp (op : CmpOp) {x y : CE} (hx : PEx F nm x) (hy : PEx F nm y) : PEx F nm (.cmp op x y) := by
  intro X W k N s e g a
  refine ⟨fun h => ?_, fun h => ?_⟩
  · obtain ⟨a', b', p, rfl, h1, h2⟩ := i_cmp h
    refine pe_two (f := fun x y st => opt ((cmpD op st x y).map .bl) st) (pe_cmpR (op_cmp g.K g.un op) ((hx X W k N s _ g a).1 h1) ((hy X W k N s _ g a).1 h2) (mark_of h2)) _ (fun env st => by rw [evE]) fun v w H Q μ st x y σ sr rx ry t => ?_
    exact cmp_r sr rx ry t
  · obtain ⟨a', b', p, rfl, h1, h2⟩ := i_cmp h
    refine PT.imp (pt_cmpR (op_cmp g.K g.un op) ((hx X W k N s _ g a).1 h1) ((hy X W k N s _ g a).1 h2) (mark_of h2)) fun σ H Q ⟨μ, env, st, he, sr, t⟩ => ?_
    unfold evT bT at t
    rw [evE] at t
    have t' : tM F W σ μ H RB (bd (evE F.P F.call x env st) fun x st => bd (evE F.P F.call y env st) fun y st => bd (opt ((cmpD op st x y).map .bl) st) fun d st => opt (truD st d) st) Q := by
      cases h1 : evE F.P F.call x env st with
      | none => rw [h1] at t; exact t
      | some q =>
        obtain ⟨r, st1⟩ := q
        rw [h1] at t
        cases r with
        | exc c fs => exact t
        | ok d =>
          rw [bd_ok] at t ⊢
          cases h2 : evE F.P F.call y env st1 with
          | none => rw [h2] at t; exact t
          | some q =>
            obtain ⟨r, st2⟩ := q
            rw [h2] at t
            cases r with
            | exc c fs => exact t
            | ok d => exact t
    refine ⟨μ, env, st, he, sr, tM.bd t' fun x st1 μ1 H1 v e1 s1 r1 t1 => ?_⟩
    refine ⟨μ1, env, st1, he.ext e1, s1, tM.bd t1 fun y st2 μ2 H2 w e2 s2 r2 t2 => ?_⟩
    cases hc : cmpD op st2 x y with
    | none => rw [hc] at t2; exact t2.no.elim
    | some b =>
      rw [hc] at t2
      exact ⟨μ2, st2, x, y, b, s2, r1.ext e2, r2, hc, b, rfl, t2.ok s2 rfl⟩
theorem s_cmp2 (op op' : CmpOp) {x y z : CE} (hx : PEx F nm x) (hy : PEx F nm y) (hz : PEx F nm z) : PEx F nm (.cmp2 op op' x y z) := by
  intro X W k N s e g a
  have core : ∀ a' b' c' (h1 : chkE nm N s false x a' = true) (h2 : chkE nm N s false y b' = true) (h3 : chkE nm N s false z c' = true) σ H Q, tE F W (.cmp2 op op' x y z) σ H Q → tChain (rC F op) (rC F op') (tE F W x) (tE F W y) (tE F W z) σ H Q := by
    intro a' b' c' h1 h2 h3 σ H Q ⟨μ, env, st, he, sr, t⟩
    rw [evE] at t
    refine ⟨μ, env, st, he, sr, tM.bd t fun x st1 μ1 H1 v e1 s1 r1 t1 => ?_⟩
    refine ⟨μ1, env, st1, he.ext e1, s1, tM.bd t1 fun y st2 μ2 H2 w e2 s2 r2 t2 => ?_⟩
    cases hc : cmpD op st2 x y with
    | none => rw [hc] at t2; exact t2.no.elim
    | some b =>
      rw [hc] at t2
      refine ⟨μ2, st2, x, y, b, s2, r1.ext e2, r2, hc, b, rfl, ?_⟩
      cases b with
      | false =>
        rw [if_neg (by decide)]
        exact t2.ok s2 mkB
      | true =>
        rw [if_pos rfl]
        refine ⟨μ2, env, st2, (he.ext e1).ext e2, s2, tM.bd t2 fun z st3 μ3 H3 u e3 s3 r3 t3 => ?_⟩
        exact cmp_r s3 (r2.ext e3) r3 t3
  have mk : ∀ b' c', chkE nm N s false z c' = true → lastMarks [op, op'] [b', c'] = false := fun b' c' h => mark_of h
  refine ⟨fun h => ?_, fun h => ?_⟩
  · obtain ⟨a', b', c', p, rfl, h1, h2, h3⟩ := i_cmp2 h
    exact PE.imp (pe_chain (op_cmp g.K g.un op) (op_cmp g.K g.un op') ((hx X W k N s _ g a).1 h1) ((hy X W k N s _ g a).1 h2) ((hz X W k N s _ g a).1 h3) (mk _ _ h3)) (core _ _ _ h1 h2 h3)
  · obtain ⟨a', b', c', p, rfl, h1, h2, h3⟩ := i_cmp2 h
    refine PT.imp (pt_chain (op_cmp g.K g.un op) (op_cmp g.K g.un op') ((hx X W k N s _ g a).1 h1) ((hy X W k N s _ g a).1 h2) ((hz X W k N s _ g a).1 h3) (mk _ _ h3)) fun σ H Q ⟨μ, env, st, he, sr, t⟩ => ?_
    refine core _ _ _ h1 h2 h3 σ H _ ⟨μ, env, st, he, sr, ?_⟩
    unfold evT bT at t
    obtain ⟨r, st', q, A⟩ := t
    cases hv : evE F.P F.call (.cmp2 op op' x y z) env st with
    | none => rw [hv] at q; cases q
    | some p =>
      obtain ⟨r1, st1⟩ := p
      rw [hv] at q
      cases r1 with
      | exc c fs => cases q; exact ⟨_, _, rfl, A⟩
      | ok d =>
        refine ⟨_, _, rfl, fun μ' H' v e1 s1 r1 => ?_⟩
        rw [bd_ok] at q
        cases hk : truD st1 d with
        | none => rw [hk] at q; cases q
        | some b =>
          rw [hk] at q
          cases q
          -- the value is a truth
          have hd : ∃ b, d = .bl b := by
            rw [evE] at hv
            cases ha : evE F.P F.call x env st with
            | none => rw [ha] at hv; cases hv
            | some p =>
              obtain ⟨r, st2⟩ := p
              rw [ha] at hv
              cases r with
              | exc _ _ => cases hv
              | ok d1 =>
                rw [bd_ok] at hv
                cases hb : evE F.P F.call y env st2 with
                | none => rw [hb] at hv; cases hv
                | some p =>
                  obtain ⟨r, st3⟩ := p
                  rw [hb] at hv
                  cases r with
                  | exc _ _ => cases hv
                  | ok d2 =>
                    rw [bd_ok] at hv
                    split at hv
                    · cases hc : evE F.P F.call z env st3 with
                      | none => rw [hc] at hv; cases hv
                      | some p =>
                        obtain ⟨r, st4⟩ := p
                        rw [hc] at hv
                        cases r with
                        | exc _ _ => cases hv
                        | ok d3 =>
                          rw [bd_ok] at hv
                          cases hm : cmpD op' st4 d2 d3 with
                          | none => rw [hm] at hv; cases hv
                          | some b => rw [hm] at hv; cases hv; exact ⟨b, rfl⟩
                    · cases hv; exact ⟨false, rfl⟩
                    · cases hv
          obtain ⟨b', rfl⟩ := hd
          cases hk
          cases repB r1
          exact ⟨b, rfl, A μ' H' b e1 s1 rfl⟩
theorem s_not {x : CE} (hx : PEx F nm x) : PEx F nm (.not x) := by
  intro X W k N s e g a
  refine ⟨fun h => ?_, fun h => ?_⟩
  · obtain ⟨a', p, rfl, h1⟩ := i_not h
    refine PE.imp (pe_notT ((hx X W k N s _ g a).1 h1)) fun σ H Q ⟨μ, env, st, he, sr, t⟩ => ?_
    rw [evE] at t
    refine ⟨μ, env, st, he, sr, tM.bd t fun x st1 μ1 H1 v e1 s1 r1 t1 => ?_⟩
    cases hk : truD st1 x with
    | none => rw [hk] at t1; exact t1.no.elim
    | some b =>
      rw [hk] at t1
      refine ⟨b, by rw [g.K]; exact tru_d s1 r1 hk, t1.ok s1 mkB⟩
  · obtain ⟨a', p, rfl, h1⟩ := i_not h
    refine PT.imp (pt_not ((hx X W k N s _ g a).2 h1)) fun σ H Q ⟨μ, env, st, he, sr, t⟩ => ?_
    refine ⟨μ, env, st, he, sr, ?_⟩
    unfold evT bT at t ⊢
    rw [evE] at t
    obtain ⟨r, st', q, A⟩ := t
    cases hv : evE F.P F.call x env st with
    | none => rw [hv] at q; cases q
    | some p =>
      obtain ⟨r1, st1⟩ := p
      rw [hv] at q
      cases r1 with
      | exc c fs => cases q; exact ⟨_, _, rfl, A⟩
      | ok d =>
        rw [bd_ok] at q ⊢
        cases hk : truD st1 d with
        | none => rw [hk] at q; cases q
        | some b =>
          rw [hk] at q
          cases q
          exact ⟨_, _, rfl, fun μ' H' v e1 s1 r1 => by subst r1; exact A μ' H' _ e1 s1 rfl⟩
theorem s_neg {x : CE} (hx : PEx F nm x) : PEx F nm (.neg x) := by
  intro X W k N s e g a
  have pe : ∀ t, chkE nm N s t (.neg x) e = true → PE X e (tE F W (.neg x)) := fun t h => by
    obtain ⟨a', p, rfl, h1⟩ := i_neg h
    refine PE.imp (pe_un un_neg ((hx X W k N s _ g a).1 h1)) fun σ H Q ⟨μ, env, st, he, sr, t⟩ => ?_
    rw [evE] at t
    refine ⟨μ, env, st, he, sr, tM.bd t fun x st1 μ1 H1 v e1 s1 r1 t1 => ?_⟩
    split at t1
    · cases repI r1
      exact ⟨_, rfl, t1.ok s1 mkI⟩
    · exact t1.no.elim
  refine ⟨pe false, fun h => pt_of g (pe true h) ?_⟩
  obtain ⟨a', p, rfl, _⟩ := i_neg h
  exact fun _ => rfl
end
end Mini

set_option Elab.async false
set_option linter.all false
set_option maxRecDepth 100000
set_option maxHeartbeats 4000000
namespace Mini
open PySem L2
section
variable {F : Fix} {nm : Nat → Str}
/-- a test of a value that came -/
def tV (F : Fix) (W : WX) (m : Env → Sto → Mx D) : TE := fun σ H Q => ∃ μ env st, EnvRep F μ H env σ ∧ SRep F.K F.G μ st H ∧ tM F W σ μ H (RD F) (m env st) Q
def tVT (F : Fix) (W : WX) (m : Env → Sto → Mx D) : TT := fun σ H Q => ∃ μ env st, EnvRep F μ H env σ ∧ SRep F.K F.G μ st H ∧ tM F W σ μ H RB (bT (m env st)) Q
theorem and_v {X : Cx} {W : WX} {k : Nat} {N : List Str} {s : Sc} {p : Pos} (g : Good F nm X W k s.hot) (a : At X N s) : ∀ (es : List CE) (x : CE) (x' : Expr) (es' : List Expr), PEx F nm x → (∀ c ∈ es, PEx F nm c) → chkE nm N s false x x' = true → chkL nm N s false es es' = true →
    PE X (.BoolOp .And (x' :: es') p) (tV F W fun env st => bd (evE F.P F.call x env st) fun d st => evAnd F.P F.call es d env st)
  | [], x, x', es', hx, hes, h1, h2 => by
    cases es' with
    | cons _ _ => simp [chkL] at h2
    | nil =>
      refine PE.imp (pe_one ((hx X W k N s _ g a).1 h1)) fun σ H Q ⟨μ, env, st, he, sr, t⟩ => ?_
      refine ⟨μ, env, st, he, sr, tM.bd t fun x st1 μ1 H1 v e1 s1 r1 t1 => ?_⟩
      rw [evAnd] at t1
      exact t1.ok s1 r1
  | c :: cs, x, x', es', hx, hes, h1, h2 => by
    cases es' with
    | nil => simp [chkL] at h2
    | cons c' cs' =>
      unfold chkL at h2
      rw [Bool.and_eq_true] at h2
      refine PE.imp (pe_andT ((hx X W k N s _ g a).1 h1) (and_v g a cs c c' cs' (hes c (by simp)) (fun d hd => hes d (List.mem_cons_of_mem _ hd)) h2.1 h2.2)) fun σ H Q ⟨μ, env, st, he, sr, t⟩ => ?_
      refine ⟨μ, env, st, he, sr, tM.bd t fun x st1 μ1 H1 v e1 s1 r1 t1 => ?_⟩
      rw [evAnd] at t1
      cases hk : truD st1 x with
      | none => rw [hk] at t1; exact t1.no.elim
      | some b =>
        rw [hk] at t1
        refine ⟨b, by rw [g.K]; exact tru_d s1 r1 hk, ?_⟩
        cases b with
        | true => rw [if_pos rfl]; exact ⟨μ1, env, st1, he.ext e1, s1, t1⟩
        | false => rw [if_neg (by decide)]; exact t1.ok s1 r1
theorem or_v {X : Cx} {W : WX} {k : Nat} {N : List Str} {s : Sc} {p : Pos} (g : Good F nm X W k s.hot) (a : At X N s) : ∀ (es : List CE) (x : CE) (x' : Expr) (es' : List Expr), PEx F nm x → (∀ c ∈ es, PEx F nm c) → chkE nm N s false x x' = true → chkL nm N s false es es' = true →
    PE X (.BoolOp .Or (x' :: es') p) (tV F W fun env st => bd (evE F.P F.call x env st) fun d st => evOr F.P F.call es d env st)
  | [], x, x', es', hx, hes, h1, h2 => by
    cases es' with
    | cons _ _ => simp [chkL] at h2
    | nil =>
      refine PE.imp (pe_one ((hx X W k N s _ g a).1 h1)) fun σ H Q ⟨μ, env, st, he, sr, t⟩ => ?_
      refine ⟨μ, env, st, he, sr, tM.bd t fun x st1 μ1 H1 v e1 s1 r1 t1 => ?_⟩
      rw [evOr] at t1
      exact t1.ok s1 r1
  | c :: cs, x, x', es', hx, hes, h1, h2 => by
    cases es' with
    | nil => simp [chkL] at h2
    | cons c' cs' =>
      unfold chkL at h2
      rw [Bool.and_eq_true] at h2
      refine PE.imp (pe_orT ((hx X W k N s _ g a).1 h1) (or_v g a cs c c' cs' (hes c (by simp)) (fun d hd => hes d (List.mem_cons_of_mem _ hd)) h2.1 h2.2)) fun σ H Q ⟨μ, env, st, he, sr, t⟩ => ?_
      refine ⟨μ, env, st, he, sr, tM.bd t fun x st1 μ1 H1 v e1 s1 r1 t1 => ?_⟩
      rw [evOr] at t1
      cases hk : truD st1 x with
      | none => rw [hk] at t1; exact t1.no.elim
      | some b =>
        rw [hk] at t1
        refine ⟨b, by rw [g.K]; exact tru_d s1 r1 hk, ?_⟩
        cases b with
        | true => rw [if_pos rfl]; exact t1.ok s1 r1
        | false => rw [if_neg (by decide)]; exact ⟨μ1, env, st1, he.ext e1, s1, t1⟩
/-- a test behind a value -/
theorem bT_bd {m : Mx D} {f : D → Sto → Mx D} : bT (bd m f) = bd m fun d st => bT (f d st) := by
  unfold bT
  cases m with
  | none => rfl
  | some p =>
    obtain ⟨r, st⟩ := p
    cases r <;> rfl
theorem tM_bT {W : WX} {σ : L2.St} {μ : List Addr} {H : Hp} {m : Mx D} {f : D → Sto → Mx Bool} {Q : Bool → Hp → Prop} {Q1 : Bool → Hp → Prop} (h : tM F W σ μ H RB (bd m f) Q)
    (k : ∀ x b st1 μ1 H1, truD st1 x = some b → Ext F.K μ H μ1 H1 → SRep F.K F.G μ1 st1 H1 → tM F W σ μ1 H1 RB (f x st1) Q → Q1 b H1) (hn : ∀ x st1 r, f x st1 = some r → ∃ b, truD st1 x = some b) : tM F W σ μ H RB (bT m) Q1 := by
  obtain ⟨r, st', q, A⟩ := h
  unfold bT
  cases m with
  | none => cases q
  | some p =>
    obtain ⟨r1, st1⟩ := p
    cases r1 with
    | exc c fs => cases q; exact ⟨_, _, rfl, A⟩
    | ok x =>
      rw [bd_ok] at q ⊢
      obtain ⟨b, hb⟩ := hn x st1 _ q
      rw [hb]
      refine ⟨.ok b, st1, rfl, fun μ1 H1 v e s rr => ?_⟩
      subst rr
      exact k x b st1 μ1 H1 hb e s ⟨r, st', q, A.ext e⟩
theorem and_t {X : Cx} {W : WX} {k : Nat} {N : List Str} {s : Sc} {p : Pos} (g : Good F nm X W k s.hot) (a : At X N s) : ∀ (es : List CE) (x : CE) (x' : Expr) (es' : List Expr), PEx F nm x → (∀ c ∈ es, PEx F nm c) → chkE nm N s true x x' = true → chkL nm N s true es es' = true →
    PW X (.BoolOp .And (x' :: es') p) (tVT F W fun env st => bd (evE F.P F.call x env st) fun d st => evAnd F.P F.call es d env st)
  | [], x, x', es', hx, hes, h1, h2 => by
    cases es' with
    | cons _ _ => simp [chkL] at h2
    | nil =>
      have h := pw_and1 (pos := p) ((hx X W k N s _ g a).2 h1)
      refine ⟨fun wh pins s σ H Q I ⟨μ, env, st, he, sr, t⟩ => h.run wh pins s σ H Q I ⟨μ, env, st, he, sr, ?_⟩⟩
      rw [bT_bd] at t
      refine tM_bT t (fun x b st1 μ1 H1 hb e1 s1 t1 => ?_) fun x st1 r hq => ?_
      · rw [evAnd] at t1
        unfold bT at t1
        rw [bd_ok, hb] at t1
        exact t1.ok s1 rfl
      · rw [evAnd] at hq
        unfold bT at hq
        rw [bd_ok] at hq
        cases hb : truD st1 x with
        | none => rw [hb] at hq; cases hq
        | some b => exact ⟨b, rfl⟩
  | c :: cs, x, x', es', hx, hes, h1, h2 => by
    cases es' with
    | nil => simp [chkL] at h2
    | cons c' cs' =>
      unfold chkL at h2
      rw [Bool.and_eq_true] at h2
      have h := pw_and ((hx X W k N s _ g a).2 h1) (and_t (p := p) g a cs c c' cs' (hes c (by simp)) (fun d hd => hes d (List.mem_cons_of_mem _ hd)) h2.1 h2.2)
      refine ⟨fun wh pins s σ H Q I ⟨μ, env, st, he, sr, t⟩ => h.run wh pins s σ H Q I ⟨μ, env, st, he, sr, ?_⟩⟩
      rw [bT_bd] at t
      refine tM_bT t (fun x b st1 μ1 H1 hb e1 s1 t1 => ?_) fun x st1 r hq => ?_
      · rw [evAnd, hb] at t1
        cases b with
        | true => rw [if_pos rfl]; exact ⟨μ1, env, st1, he.ext e1, s1, t1⟩
        | false =>
          rw [if_neg (by decide)]
          unfold bT at t1
          rw [bd_ok, hb] at t1
          exact t1.ok s1 rfl
      · rw [evAnd] at hq
        cases hb : truD st1 x with
        | none => rw [hb] at hq; cases hq
        | some b => exact ⟨b, rfl⟩
theorem or_t {X : Cx} {W : WX} {k : Nat} {N : List Str} {s : Sc} {p : Pos} (g : Good F nm X W k s.hot) (a : At X N s) : ∀ (es : List CE) (x : CE) (x' : Expr) (es' : List Expr), PEx F nm x → (∀ c ∈ es, PEx F nm c) → chkE nm N s true x x' = true → chkL nm N s true es es' = true →
    PW X (.BoolOp .Or (x' :: es') p) (tVT F W fun env st => bd (evE F.P F.call x env st) fun d st => evOr F.P F.call es d env st)
  | [], x, x', es', hx, hes, h1, h2 => by
    cases es' with
    | cons _ _ => simp [chkL] at h2
    | nil =>
      have h := pw_or1 (pos := p) ((hx X W k N s _ g a).2 h1)
      refine ⟨fun wh pins s σ H Q I ⟨μ, env, st, he, sr, t⟩ => h.run wh pins s σ H Q I ⟨μ, env, st, he, sr, ?_⟩⟩
      rw [bT_bd] at t
      refine tM_bT t (fun x b st1 μ1 H1 hb e1 s1 t1 => ?_) fun x st1 r hq => ?_
      · rw [evOr] at t1
        unfold bT at t1
        rw [bd_ok, hb] at t1
        exact t1.ok s1 rfl
      · rw [evOr] at hq
        unfold bT at hq
        rw [bd_ok] at hq
        cases hb : truD st1 x with
        | none => rw [hb] at hq; cases hq
        | some b => exact ⟨b, rfl⟩
  | c :: cs, x, x', es', hx, hes, h1, h2 => by
    cases es' with
    | nil => simp [chkL] at h2
    | cons c' cs' =>
      unfold chkL at h2
      rw [Bool.and_eq_true] at h2
      have h := pw_or ((hx X W k N s _ g a).2 h1) (or_t (p := p) g a cs c c' cs' (hes c (by simp)) (fun d hd => hes d (List.mem_cons_of_mem _ hd)) h2.1 h2.2)
      refine ⟨fun wh pins s σ H Q I ⟨μ, env, st, he, sr, t⟩ => h.run wh pins s σ H Q I ⟨μ, env, st, he, sr, ?_⟩⟩
      rw [bT_bd] at t
      refine tM_bT t (fun x b st1 μ1 H1 hb e1 s1 t1 => ?_) fun x st1 r hq => ?_
      · rw [evOr, hb] at t1
        cases b with
        | false => rw [if_neg (by decide)]; exact ⟨μ1, env, st1, he.ext e1, s1, t1⟩
        | true =>
          rw [if_pos rfl]
          unfold bT at t1
          rw [bd_ok, hb] at t1
          exact t1.ok s1 rfl
      · rw [evOr] at hq
        cases hb : truD st1 x with
        | none => rw [hb] at hq; cases hq
        | some b => exact ⟨b, rfl⟩
theorem s_and {x : CE} {es : List CE} (hx : PEx F nm x) (hes : ∀ c ∈ es, PEx F nm c) : PEx F nm (.and x es) := by
  intro X W k N s e g a
  refine ⟨fun h => ?_, fun h => ?_⟩
  · obtain ⟨a', es', p, rfl, h1, h2⟩ := i_and h
    refine PE.imp (and_v g a es x a' es' hx hes h1 h2) fun σ H Q ⟨μ, env, st, he, sr, t⟩ => ⟨μ, env, st, he, sr, ?_⟩
    rw [evE] at t
    exact t
  · obtain ⟨a', es', p, rfl, h1, h2⟩ := i_and h
    refine PT.imp (and_t g a es x a' es' hx hes h1 h2).pt fun σ H Q ⟨μ, env, st, he, sr, t⟩ => ⟨μ, env, st, he, sr, ?_⟩
    unfold evT at t
    rw [evE] at t
    exact t
theorem s_or {x : CE} {es : List CE} (hx : PEx F nm x) (hes : ∀ c ∈ es, PEx F nm c) : PEx F nm (.or x es) := by
  intro X W k N s e g a
  refine ⟨fun h => ?_, fun h => ?_⟩
  · obtain ⟨a', es', p, rfl, h1, h2⟩ := i_or h
    refine PE.imp (or_v g a es x a' es' hx hes h1 h2) fun σ H Q ⟨μ, env, st, he, sr, t⟩ => ⟨μ, env, st, he, sr, ?_⟩
    rw [evE] at t
    exact t
  · obtain ⟨a', es', p, rfl, h1, h2⟩ := i_or h
    refine PT.imp (or_t g a es x a' es' hx hes h1 h2).pt fun σ H Q ⟨μ, env, st, he, sr, t⟩ => ⟨μ, env, st, he, sr, ?_⟩
    unfold evT at t
    rw [evE] at t
    exact t
theorem s_ite {c x y : CE} (hc : PEx F nm c) (hx : PEx F nm x) (hy : PEx F nm y) : PEx F nm (.ite c x y) := by
  intro X W k N s e g a
  refine ⟨fun h => ?_, fun h => ?_⟩
  · obtain ⟨c', a', b', p, rfl, _, h1, h2, h3⟩ := i_ite h
    refine PE.imp (pe_ifExp ((hc X W k N s _ g a).2 h1) ((hx X W k N s _ g a).1 h2) ((hy X W k N s _ g a).1 h3)) fun σ H Q ⟨μ, env, st, he, sr, t⟩ => ?_
    rw [evE] at t
    refine ⟨μ, env, st, he, sr, ?_⟩
    unfold evT
    refine tM.bd t fun b st1 μ1 H1 v e1 s1 r1 t1 => ?_
    subst r1
    cases b with
    | true => rw [if_pos rfl] at t1 ⊢; exact ⟨μ1, env, st1, he.ext e1, s1, t1⟩
    | false => rw [if_neg (by decide)] at t1 ⊢; exact ⟨μ1, env, st1, he.ext e1, s1, t1⟩
  · obtain ⟨_, _, _, _, _, h, _⟩ := i_ite h
    cases h
theorem s_tup {es : List CE} (hes : ∀ c ∈ es, PEx F nm c) : PEx F nm (.tup es) := by
  intro X W k N s e g a
  have pe : ∀ t, chkE nm N s t (.tup es) e = true → PE X e (tE F W (.tup es)) := fun t h => by
    obtain ⟨es', k', p, rfl, h1⟩ := i_tup h
    refine PE.imp (pe_tup (soundA hes g a h1)) fun σ H Q ⟨μ, env, st, he, sr, t⟩ => ?_
    rw [evE] at t
    refine ⟨μ, env, st, he, sr, tM.bd t fun xs st1 μ1 H1 vs e1 s1 r1 t1 => ?_⟩
    split at t1
    · rename_i c
      exact ⟨by rw [RepL.length r1, LN_eq]; exact c, fun q hq => t1.tup s1 r1 hq⟩
    · exact t1.no.elim
  refine ⟨pe false, fun h => pt_of g (pe true h) ?_⟩
  obtain ⟨_, _, _, rfl, _⟩ := i_tup h
  exact fun _ => rfl
theorem s_lst {es : List CE} (hes : ∀ c ∈ es, PEx F nm c) : PEx F nm (.lst es) := by
  intro X W k N s e g a
  have pe : ∀ t, chkE nm N s t (.lst es) e = true → PE X e (tE F W (.lst es)) := fun t h => by
    obtain ⟨es', p, rfl, h1⟩ := i_lst h
    refine PE.imp (pe_lst (soundA hes g a h1)) fun σ H Q ⟨μ, env, st, he, sr, t⟩ => ?_
    rw [evE] at t
    refine ⟨μ, env, st, he, sr, tM.bd t fun xs st1 μ1 H1 vs e1 s1 r1 t1 => ?_⟩
    split at t1
    · rename_i c
      exact ⟨by rw [RepL.length r1, LN_eq]; exact c, fun q hq => t1.newL s1 r1 hq⟩
    · exact t1.no.elim
  refine ⟨pe false, fun h => pt_of g (pe true h) ?_⟩
  obtain ⟨_, _, rfl, _⟩ := i_lst h
  exact fun _ => rfl
theorem s_sub {x y : CE} (hx : PEx F nm x) (hy : PEx F nm y) : PEx F nm (.sub x y) := by
  intro X W k N s e g a
  have pe : ∀ t, chkE nm N s t (.sub x y) e = true → PE X e (tE F W (.sub x y)) := fun t h => by
    obtain ⟨a', b', p, rfl, h1, h2⟩ := i_sub h
    refine pe_two (f := fun x y st => opt (subD st x y) st) (pe_ix (ix_sub g.K (by have := g.un; omega)) ((hx X W k N s _ g a).1 h1) ((hy X W k N s _ g a).1 h2) (plainIx_of h2)) _ (fun env st => by rw [evE]) fun v w H Q μ st x y σ sr rx ry t => ?_
    cases hd : subD st x y with
    | none => rw [hd] at t; exact t.no.elim
    | some d => rw [hd] at t; exact ⟨μ, st, x, y, d, sr, rx, ry, hd, fun u ru => t.ok sr ru⟩
  refine ⟨pe false, fun h => pt_of g (pe true h) ?_⟩
  obtain ⟨_, _, _, rfl, _⟩ := i_sub h
  exact fun _ => rfl
/-- a slice's bound -/
def tO (F : Fix) (W : WX) (cs : List CE) : TO := fun σ H Q => ∃ μ env st, EnvRep F μ H env σ ∧ SRep F.K F.G μ st H ∧ tM F W σ μ H (RDL F) (evL F.P F.call cs env st) fun vs H1 => ∃ o, ((vs = [] ∧ o = none) ∨ ∃ i, vs = [.int i] ∧ o = some i) ∧ Q o H1
theorem po_of {X : Cx} {W : WX} {k : Nat} {N : List Str} {s : Sc} {cs : List CE} {e : Option Expr} (g : Good F nm X W k s.hot) (a : At X N s) (hes : ∀ c ∈ cs, PEx F nm c) (h : chkL nm N s false cs e.toList = true) : PO X e (tO F W cs) := by
  cases e with
  | none =>
    cases cs with
    | cons _ _ => simp [chkL] at h
    | nil =>
      refine ⟨fun pins s σ H Q I ⟨μ, env, st, he, sr, t⟩ => po_none.run pins s σ H Q I ?_⟩
      rw [evL] at t
      obtain ⟨o, h1, h2⟩ := t.ok sr RepL.nil
      rcases h1 with ⟨_, rfl⟩ | ⟨i, h1, _⟩
      · exact h2
      · cases h1
  | some e =>
    match cs, h, hes with
    | [], h, _ => simp [chkL] at h
    | _ :: _ :: _, h, _ => simp [chkL] at h
    | [c], h, hes =>
      simp [chkL] at h
      have q := po_some ((hes c (by simp) X W k N s _ g a).1 h)
      refine ⟨fun pins s σ H Q I ⟨μ, env, st, he, sr, t⟩ => q.run pins s σ H Q I ?_⟩
      rw [evL] at t
      refine ⟨μ, env, st, he, sr, tM.bd t fun x st1 μ1 H1 v e1 s1 r1 t1 => ?_⟩
      rw [evL, bd_ok] at t1
      obtain ⟨o, h1, h2⟩ := t1.ok s1 (RepL.cons r1 RepL.nil)
      rcases h1 with ⟨h1, _⟩ | ⟨i, h1, rfl⟩
      · cases h1
      · cases h1
        exact ⟨i, rfl, h2⟩
theorem optI_rep {μ : List Addr} {H : Hp} {ds : List D} {vs : List V} {o : Option Int} (r : RepL F.K F.G μ H ds vs) (h : optI ds = some o) : (vs = [] ∧ o = none) ∨ ∃ i, vs = [.int i] ∧ o = some i := by
  unfold optI at h
  split at h
  · cases h; exact .inl ⟨rep0 r, rfl⟩
  · cases h
    obtain ⟨v, rfl, h1⟩ := rep1 r
    cases repI h1
    exact .inr ⟨_, rfl, rfl⟩
  · cases h
theorem s_slc {x : CE} {lo hi : List CE} (hx : PEx F nm x) (hl : ∀ c ∈ lo, PEx F nm c) (hh : ∀ c ∈ hi, PEx F nm c) : PEx F nm (.slc x lo hi) := by
  intro X W k N s e g a
  have pe : ∀ t, chkE nm N s t (.slc x lo hi) e = true → PE X e (tE F W (.slc x lo hi)) := fun t h => by
    obtain ⟨a', lo', hi', p, p', rfl, h1, h2, h3⟩ := i_slc h
    refine PE.imp (pe_slice (sl_slc g.K) ((hx X W k N s _ g a).1 h1) (po_of g a hl h2) (po_of g a hh h3)) fun σ H Q ⟨μ, env, st, he, sr, t⟩ => ?_
    rw [evE] at t
    refine ⟨μ, env, st, he, sr, tM.bd t fun x st1 μ1 H1 v e1 s1 r1 t1 => ?_⟩
    refine ⟨μ1, env, st1, he.ext e1, s1, tM.bd t1 fun l st2 μ2 H2 vl e2 s2 r2 t2 => ?_⟩
    cases hol : optI l with
    | none => rw [hol] at t2; exact t2.no.elim
    | some o =>
      rw [hol] at t2
      refine ⟨o, optI_rep r2 hol, μ2, env, st2, (he.ext e1).ext e2, s2, tM.bd t2 fun h st3 μ3 H3 vh e3 s3 r3 t3 => ?_⟩
      cases hoh : optI h with
      | none => rw [hoh] at t3; exact t3.no.elim
      | some o' =>
        rw [hoh] at t3
        exact ⟨o', optI_rep r3 hoh, W, σ, μ3, st3, x, s3, (r1.ext e2).ext e3, t3⟩
  refine ⟨pe false, fun h => pt_of g (pe true h) ?_⟩
  obtain ⟨_, _, _, _, _, rfl, _⟩ := i_slc h
  exact fun _ => rfl
theorem s_slc3 {x c : CE} {lo hi : List CE} (hx : PEx F nm x) (hl : ∀ c ∈ lo, PEx F nm c) (hh : ∀ c ∈ hi, PEx F nm c) (hc : PEx F nm c) : PEx F nm (.slc3 x lo hi c) := by
  intro X W k N s e g a
  have pe : ∀ t, chkE nm N s t (.slc3 x lo hi c) e = true → PE X e (tE F W (.slc3 x lo hi c)) := fun t h => by
    obtain ⟨a', lo', hi', k', p, p', rfl, h1, h2, h3, h4⟩ := i_slc3 h
    refine PE.imp (pe_slice3 (sl_slc3 g.K) ((hx X W k N s _ g a).1 h1) (po_of g a hl h2) (po_of g a hh h3) (po_some ((hc X W k N s _ g a).1 h4))) fun σ H Q ⟨μ, env, st, he, sr, t⟩ => ?_
    rw [evE] at t
    refine ⟨μ, env, st, he, sr, tM.bd t fun x st1 μ1 H1 v e1 s1 r1 t1 => ?_⟩
    refine ⟨μ1, env, st1, he.ext e1, s1, tM.bd t1 fun l st2 μ2 H2 vl e2 s2 r2 t2 => ?_⟩
    cases hol : optI l with
    | none => rw [hol] at t2; exact t2.no.elim
    | some o =>
      rw [hol] at t2
      refine ⟨o, optI_rep r2 hol, μ2, env, st2, (he.ext e1).ext e2, s2, tM.bd t2 fun h st3 μ3 H3 vh e3 s3 r3 t3 => ?_⟩
      cases hoh : optI h with
      | none => rw [hoh] at t3; exact t3.no.elim
      | some o' =>
        rw [hoh] at t3
        refine ⟨o', optI_rep r3 hoh, μ3, env, st3, ((he.ext e1).ext e2).ext e3, s3, tM.bd t3 fun y st4 μ4 H4 vy e4 s4 r4 t4 => ?_⟩
        cases y with
        | int n =>
          cases repI r4
          exact ⟨n, rfl, n, rfl, W, σ, μ4, st4, x, s4, ((r1.ext e2).ext e3).ext e4, t4⟩
        | _ => exact t4.no.elim
  refine ⟨pe false, fun h => pt_of g (pe true h) ?_⟩
  obtain ⟨_, _, _, _, _, _, rfl, _⟩ := i_slc3 h
  exact fun _ => rfl
end
end Mini

set_option Elab.async false
set_option linter.all false
set_option maxRecDepth 100000
set_option maxHeartbeats 4000000
namespace Mini
open PySem L2
section
variable {F : Fix} {nm : Nat → Str}
theorem bnames_blt (b : Bt) : bltN b ∈ bnames := by cases b <;> decide +kernel
section
variable {X : Cx}
theorem Callee.keep {P : Program} {w : World} {K : PySem.W.Frag} {mg : Str → Option Value} {base : Heap} {k : Nat} {f : Addr} {sp : Sp} (c : Callee P w K mg base k f sp) : PySem.W.keepIn K (.ref f) = true := by
  cases c with
  | fn _ h _ => exact h
  | cl m _ _ _ => exact m.kp
/-- a class is made; what its __init__ lets out goes on at the slots as they are -/
theorem makeAt {k : Nat} {C f : Addr} {fd : FuncData} {ps : List Str} {sp : Sp} {E : XK} {pins : List (Addr × Obj)} {σ : L2.St} {H : Hp} {s : Shared} {Q : VK} {us : List Value} {vs : List V}
    (M : Mk X.K C f) (Fo : FnOk X.prog X.w X.K X.mg X.base (L2.CX X.prog X.w) k f fd ps sp) (hr : Room (k + 1) X.A) (hb : Binds X.K fd ps [])
    (hx : PassesAt (L2.CX X.prog X.w) X σ E) (I : L2.Inv X pins σ H s) (r : Vals vs us)
    (h : ∀ x dx, H x = none → H dx = none → dx ≠ x → sp (.ref x :: vs) (upd (upd H dx (.own x)) x (.ins C dx [])) (fun v H2 => v = .non ∧ Q (.ref x) H2) E) :
    wpAny (model X.prog X.w) X.A (call (.ref C) us) (EP X pins σ Q) X.xe s := by
  have new := h (s.heap.objs.size + 1) s.heap.objs.size (I.hok.fresh (by omega)) (I.hok.fresh (by omega)) (Nat.ne_of_lt (by omega))
  have J := Inv.made (C := C) I
  have rr : Vals (V.ref (s.heap.objs.size + 1) :: vs) (Value.ref (s.heap.objs.size + 1) :: us) := Paired.cons rfl r
  have len : (Value.ref (s.heap.objs.size + 1) :: us).length = ps.length := by
    rw [← rr.length]
    exact Fo.len _ _ _ _ new
  have bb := hb _ (Value.ref (s.heap.objs.size + 1) :: us) J.kIn (by rw [List.append_nil]; exact len)
  rw [List.append_nil] at bb
  have main := Fo.run _ X.stack _ _ ⟨Value.ref (s.heap.objs.size + 1) :: us, []⟩ _ _ _ E (hr.make C us []) (J.env0.make C us []) bb rr new
  refine wpAny_call (make_map (f := f) I.kIn M.makes M.init (beq_iff_eq.mp M.fn) (codeAny_mono main ?_))
  intro res s' out
  match res, out with
  | .error er, out => exact hx pins _ _ er s' J out
  | .ok (.ret u), out =>
    obtain ⟨v, H3, J3, rv, hv, q⟩ := J.after out
    subst hv
    exact ⟨rv, ⟨V.ref (s.heap.objs.size + 1), H3, J3, rfl, q⟩⟩
  | .ok .next, out => exact absurd out (fun z => z)
  | .ok .brk, out => exact absurd out (fun z => z)
  | .ok .cont, out => exact absurd out (fun z => z)
theorem Callee.go {k : Nat} {f : Addr} {sp : Sp} {E : XK} {pins : List (Addr × Obj)} {σ : L2.St} {H : Hp} {s : Shared} {Q : VK} {us : List Value} {vs : List V} (c : Callee X.prog X.w X.K X.mg X.base k f sp)
    (hr : Room k X.A) (hx : PassesAt (L2.CX X.prog X.w) X σ E) (I : L2.Inv X pins σ H s) (r : Vals vs us) (h : sp vs H Q E) : wpAny (model X.prog X.w) X.A (call (.ref f) us) (EP X pins σ Q) X.xe s := by
  cases c with
  | fn Fo hk hb => exact run_fnS (E := fun _ => E) Fo hr hb hx I r h
  | cl M Fo hb g => exact makeAt M Fo hr hb hx I r (fun x dx h1 h2 h3 => g _ _ _ _ h x dx h1 h2 h3)
/-- f(..), f a def or a class -/
theorem pe_callC {k : Nat} {f : Addr} {sp : Sp} {E : L2.St → XK} {x : Str} {p pos : Pos} {es : List Expr} {t : TA} (c : Callee X.prog X.w X.K X.mg X.base k f sp) (hr : Room k X.A) (hx : ∀ σ, PassesAt (L2.CX X.prog X.w) X σ (E σ))
    (hn : ∀ (pins : List (Addr × Obj)) (s : Shared) (σ : L2.St) (H : Hp) (Q : Value → Shared → Prop), L2.Inv X pins σ H s → (∀ s1, L2.Inv X pins σ H s1 → Q (.ref f) s1) → wpAny (model X.prog X.w) X.A (eval (.Name x p) X.env) Q X.xe s)
    (ha : PA X es t) (hs : es = [] ∧ (∀ σ H Q, t σ H Q → Q [] H) ∨ ∃ e r, es = e :: r ∧ starEach (e :: r) X.env = (false, eval e X.env) :: starEach r X.env ∧ (backTo pos (starEach r X.env)).any (·.1) = false) :
    PE X (.Call (.Name x p) es [] pos) (fun σ H Q => t σ H fun vs H1 => sp vs H1 Q (E σ)) := by
  refine ⟨fun pins s σ H Q I h => wpAny_Call_Name_kw (hn pins s σ H _ I fun s1 I1 => ?_)⟩
  rcases hs with ⟨rfl, h0⟩ | ⟨e, r, rfl, h1, h2⟩
  · exact PySem.W.callWith_K0 I1.kIn c.keep (c.go hr (hx σ) I1 .nil (h0 σ H _ h))
  · refine PySem.W.callWith_K (h₀ := X.base) I1.ok.mod.kin c.keep (thn (ha.run pos pins s1 σ H _ I1 h) ?_) h1 h2
    rintro us s2 ⟨vs, H2, I2, r2, q⟩
    exact ⟨I2.kIn, c.go hr (hx σ) I2 r2 q⟩
/-- o.m(..), the method found by the object's class -/
theorem pe_methC {m : Str} {o : Expr} {ta : TE} {es : List Expr} {t : TA} {ap pos : Pos} {k : Nat} {E : L2.St → XK} (ho : PE X o ta) (hr : Room k X.A) (hx : ∀ σ, PassesAt (L2.CX X.prog X.w) X σ (E σ))
    (ha : PA X es t) (hs : es = [] ∧ (∀ σ H Q, t σ H Q → Q [] H) ∨ ∃ e r, es = e :: r ∧ starEach (e :: r) X.env = (false, eval e X.env) :: starEach r X.env ∧ (backTo pos (starEach r X.env)).any (·.1) = false)
    (ht : ∃ pl, eval (.Call (.Attribute o m ap) es [] pos) X.env = (eval o X.env >>= fun ov => standAt ap.atName >>= fun _ => holding [ov] (getMethod ov m pl) >>= fun q => callWith pos q.1 q.2 (backTo pos (starEach es X.env)) (backToKw pos (keywordEach [] X.env)))) :
    PE X (.Call (.Attribute o m ap) es [] pos) (fun σ H Q => ta σ H fun x H1 => ∃ a C dx fs f fd ps sp, x = .ref a ∧ H1 a = some (.ins C dx fs) ∧ Cls X.K C ∧ Meth X.K C m f ∧ fs.lookup m = none ∧ Binds X.K fd ps [] ∧
      FnOk X.prog X.w X.K X.mg X.base (L2.CX X.prog X.w) k f fd ps sp ∧ t σ H1 fun vs H2 => sp (x :: vs) H2 Q (E σ)) := by
  obtain ⟨pl, ht⟩ := ht
  refine ⟨fun pins s σ H Q I h => PySem.W.methodCall_KW (pl := pl) (thn (ho.run pins s σ H _ I h) ?_) ht⟩
  rintro u s1 ⟨x, H1, I1, rx, a, C, dx, fs, f, fd, ps, sp, rfl, ea, c, hm, l, hb, Fo, q⟩
  cases rx
  refine getmeth_ok I1 ea c hm l ?_
  rcases hs with ⟨rfl, h0⟩ | ⟨e, r, rfl, h1, h2⟩
  · exact PySem.W.callWith_K0 (first := [.ref a]) I1.kIn hm.kp (run_fnS (us := [.ref a]) (vs := [.ref a]) Fo hr hb (hx σ) I1 (Paired.cons rfl Paired.nil) (h0 σ H1 _ q))
  · refine PySem.W.callWith_K (first := [.ref a]) (h₀ := X.base) I1.ok.mod.kin hm.kp (thn (ha.run pos pins s1 σ H1 _ I1 q) ?_) h1 h2
    rintro us s2 ⟨vs, H2, I2, r2, q2⟩
    exact ⟨I2.kIn, run_fnS (us := .ref a :: us) (vs := .ref a :: vs) Fo hr hb (hx σ) I2 (Paired.cons rfl r2) q2⟩
end
theorem sp_of {W : WX} {σ : L2.St} {μ : List Addr} {H : Hp} {st : Sto} {i : Nat} {ds : List D} {vs : List V} {Q : VK} (sr : SRep F.K F.G μ st H) (r : RepL F.K F.G μ H ds vs) (t : tM F W σ μ H (RD F) (F.call i ds st) Q) : spF F F.call i vs H Q (WE W σ) := by
  obtain ⟨r1, st', q, A⟩ := t
  refine ⟨μ, st, ds, r1, st', sr, r, q, ?_⟩
  cases r1 with
  | ok d => exact A
  | exc c fs => exact fun μ' H' ws cls dd e s q z => A μ' H' ws cls dd e s q z
theorem tL_nil {W : WX} {σ : L2.St} {H : Hp} {Q : List V → Hp → Prop} (h : tL F W [] σ H Q) : Q [] H := by
  obtain ⟨μ, env, st, he, sr, t⟩ := h
  rw [evL] at t
  exact t.ok sr RepL.nil
/-- the arguments' form -/
theorem args_of {X : Cx} {W : WX} {N : List Str} {s : Sc} {es : List CE} {es' : List Expr} {pos : Pos} (h : chkL nm N s false es es' = true) :
    es' = [] ∧ (∀ σ H Q, tL F W es σ H Q → Q [] H) ∨ ∃ e r, es' = e :: r ∧ starEach (e :: r) X.env = (false, eval e X.env) :: starEach r X.env ∧ (backTo pos (starEach r X.env)).any (·.1) = false := by
  cases es with
  | nil =>
    cases es' with
    | cons _ _ => simp [chkL] at h
    | nil => exact .inl ⟨rfl, fun σ H Q q => tL_nil q⟩
  | cons c cs =>
    cases es' with
    | nil => simp [chkL] at h
    | cons c' cs' =>
      unfold chkL at h
      rw [Bool.and_eq_true] at h
      exact .inr ⟨c', cs', rfl, star_of h.1, by rw [backTo_any]; exact stars_of h.2⟩
theorem s_call (i : Nat) {es : List CE} (hes : ∀ c ∈ es, PEx F nm c) : PEx F nm (.call i es) := by
  intro X W k N s e g a
  have pe : ∀ t, chkE nm N s t (.call i es) e = true → PE X e (tE F W (.call i es)) := fun t h => by
    obtain ⟨es', p, p', rfl, h1, h2, h3, h4, h5⟩ := i_call h
    cases hf : F.P.fn i with
    | none =>
      refine ⟨fun pins s σ H Q I ⟨μ, env, st, he, sr, t⟩ => ?_⟩
      rw [evE, hf] at t
      exact t.no.elim
    | some f =>
      obtain ⟨fa, q1, q2⟩ := g.fn i f h5 hf
      refine PE.imp (pe_callC q2 (g.room h4) (fun σ => passAt g.tk σ) (fun pins s σ H Q I q => ld_glob I (gl_of a h1) q1 (q s I) h2) (soundA hes g a h3) (args_of (F := F) (W := W) h3)) fun σ H Q ⟨μ, env, st, he, sr, t⟩ => ?_
      rw [evE, hf] at t
      exact ⟨μ, env, st, he, sr, tM.bd t fun ds st1 μ1 H1 vs e1 s1 r1 t1 => sp_of s1 r1 t1⟩
  refine ⟨pe false, fun h => pt_of g (pe true h) ?_⟩
  obtain ⟨_, _, _, rfl, _⟩ := i_call h
  exact fun _ => rfl
theorem s_cav (i : Nat) {es : List CE} (hes : ∀ c ∈ es, PEx F nm c) : PEx F nm (.cav i es) := by
  intro X W k N s e g a
  have pe : ∀ t, chkE nm N s t (.cav i es) e = true → PE X e (tE F W (.cav i es)) := fun t h => by
    obtain ⟨x, es', p, p', rfl, h0, h1, h2, h3, h4, h5⟩ := i_cav h
    refine ⟨fun pins s0 σ H Q I ⟨μ, env, st, he, sr, t⟩ => ?_⟩
    rw [evE] at t
    split at t
    · rename_i gg hg
      split at t
      · rename_i f hf
        obtain ⟨v, v1, v2⟩ := he.at_ i _ hg rfl
        unfold Rep at v2
        obtain ⟨⟨fa, rfl⟩, v3⟩ := v2
        obtain ⟨b1, b2⟩ := g.gv gg f fa hf v3
        obtain ⟨fa', q1, q2⟩ := g.fn gg f b1 hf
        rw [b2] at q1
        cases q1
        refine wpAny_Call_Name_kw (thn ((pe_var (pos := p) (i := i) (by rw [a.N]; exact h1) (vis_of a h2) h3 h4).run pins s0 σ H (fun v H1 => v = .ref fa ∧ H1 = H) I ⟨.ref fa, v1, rfl, rfl⟩) ?_)
        rintro u s1 ⟨v, H1, I1, r1, rfl, rfl⟩
        cases r1
        have hA := args_of (F := F) (W := W) (X := X) (pos := p') h5
        have ha := soundA hes g a h5
        have tl : tL F W es σ H1 (fun vs H2 => spF F F.call gg vs H2 Q (WE W σ)) := ⟨μ, env, st, he, sr, tM.bd t fun ds st1 μ1 H1 vs e1 s1 r1 t1 => sp_of s1 r1 t1⟩
        rcases hA with ⟨rfl, z0⟩ | ⟨e, r, rfl, z1, z2⟩
        · exact PySem.W.callWith_K0 I1.kIn q2.keep (q2.go (g.room h0) (passAt g.tk σ) I1 .nil (z0 σ _ _ tl))
        · refine PySem.W.callWith_K (h₀ := X.base) I1.ok.mod.kin q2.keep (thn (ha.run p' pins s1 σ _ _ I1 tl) ?_) z1 z2
          rintro us s2 ⟨vs, H2, I2, r2, q⟩
          exact ⟨I2.kIn, q2.go (g.room h0) (passAt g.tk σ) I2 r2 q⟩
      · exact t.no.elim
    · exact t.no.elim
  refine ⟨pe false, fun h => pt_of g (pe true h) ?_⟩
  obtain ⟨_, _, _, _, rfl, _⟩ := i_cav h
  exact fun _ => rfl
theorem s_blt (b : Bt) {es : List CE} (hes : ∀ c ∈ es, PEx F nm c) : PEx F nm (.blt b es) := by
  intro X W k N s e g a
  have pe : ∀ t, chkE nm N s t (.blt b es) e = true → PE X e (tE F W (.blt b es)) := fun t h => by
    obtain ⟨es', p, p', rfl, h1, h2, h3, h4⟩ := i_blt h
    cases es with
    | nil => exact absurd rfl h3
    | cons c cs =>
      cases es' with
      | nil => simp [chkL] at h2
      | cons c' cs' =>
        have h2' := h2
        unfold chkL at h2'
        rw [Bool.and_eq_true] at h2'
        have hm := g.bl _ (bnames_blt b)
        have key : PE X (.Call (.Name (bltN b) p) (c' :: cs') [] p') (tCB (rBlt F b) (tL F W (c :: cs))) := by
          have hc := call_blt (F := F) g.K (g.calm h4) b
          have ha := soundA hes g a h2
          have h5 : starEach (c' :: cs') X.env = (false, eval c' X.env) :: starEach cs' X.env := star_of h2'.1
          have h6 : (backTo p' (starEach cs' X.env)).any (·.1) = false := by rw [backTo_any]; exact stars_of h2'.2
          cases b with
          | len => exact pe_callB hc (gl_of a h1) hm (by decide +kernel) ha (by decide +kernel) (by decide +kernel) h5 h6
          | abs => exact pe_callB hc (gl_of a h1) hm (by decide +kernel) ha (by decide +kernel) (by decide +kernel) h5 h6
          | max => exact pe_callB hc (gl_of a h1) hm (by decide +kernel) ha (by decide +kernel) (by decide +kernel) h5 h6
          | min => exact pe_callB hc (gl_of a h1) hm (by decide +kernel) ha (by decide +kernel) (by decide +kernel) h5 h6
          | all => exact pe_callB hc (gl_of a h1) hm (by decide +kernel) ha (by decide +kernel) (by decide +kernel) h5 h6
          | any => exact pe_callB hc (gl_of a h1) hm (by decide +kernel) ha (by decide +kernel) (by decide +kernel) h5 h6
          | sum => exact pe_callB hc (gl_of a h1) hm (by decide +kernel) ha (by decide +kernel) (by decide +kernel) h5 h6
          | int => exact pe_callTy hc (gl_of a h1) hm (by decide +kernel) ha (by decide +kernel) (by decide +kernel) h5 h6
          | tuple => exact pe_callTy hc (gl_of a h1) hm (by decide +kernel) ha (by decide +kernel) (by decide +kernel) h5 h6
          | list => exact pe_callTy hc (gl_of a h1) hm (by decide +kernel) ha (by decide +kernel) (by decide +kernel) h5 h6
        refine PE.imp key fun σ H Q ⟨μ, env, st, he, sr, t⟩ => ?_
        rw [evE] at t
        exact ⟨μ, env, st, he, sr, tM.bd t fun ds st1 μ1 H1 vs e1 s1 r1 t1 => ⟨W, σ, μ1, st1, ds, s1, r1, t1⟩⟩
  refine ⟨pe false, fun h => pt_of g (pe true h) ?_⟩
  obtain ⟨_, _, _, rfl, _⟩ := i_blt h
  exact fun _ => rfl
theorem pre_ty {X : Cx} (hK : X.K = F.K) {μ : List Addr} {H : Hp} {st : Sto} {m : Mt} {x : D} {v : V} (hget : m ≠ .get) (sr : SRep F.K F.G μ st H) (rx : Rep F.K F.G μ H x v) (h : preM st m x = true) : tyV X.K (mthT m).1 v H := by
  have lst : ∀ i, x = .obj i → (litems st i).isSome = true → tyV X.K "list" v H := fun i ex hi => by
    subst ex
    obtain ⟨xs, hx⟩ := Option.isSome_iff_exists.mp hi
    obtain ⟨p, ws, rfl, h2, h3⟩ := litems_sq sr rx hx
    exact .inl ⟨rfl, ws, .inl (.inl h2)⟩
  have str : ∀ z, x = .str z → tyV X.K "str" v H := fun z ex => by
    subst ex
    obtain ⟨rfl, _⟩ := repS rx
    rfl
  cases m <;> cases x <;> first
    | exact absurd rfl hget
    | exact lst _ rfl h
    | exact str _ rfl
    | cases h
/-- d.get(..), d a written dict -/
theorem pe_getK {X : Cx} {o e : Expr} {es : List Expr} {to : TE} {t : TA} {r : V → List V → Hp → VK → Prop} {ap cp : Pos} (hm : MtR X "dict.get" r) (ho : PE X o to) (ha : PA X (e :: es) t)
    (hb : attributeBase o "get" X.env (eval o X.env) = eval o X.env) (hf : ((backTo cp (starEach (e :: es) X.env)).all (fun x => !x.1) && (backToKw cp (keywordEach [] X.env)).all (fun x => x.1.isSome) && decide ((e :: es).length + ([] : List Keyword).length + (if ([] : List Keyword).isEmpty then 0 else 1) < 30)) = true)
    (hl : (ap.endLine == cp.line) = true) (hs : starEach (e :: es) X.env = (false, eval e X.env) :: starEach es X.env) (hp : (backTo cp (starEach es X.env)).any (·.1) = false) :
    PE X (.Call (.Attribute o "get" ap) (e :: es) [] cp) (fun σ H Q => to σ H fun x H1 => (∃ d ens n, x = .ref d ∧ KDict X.K X.w d ens n) ∧ t σ H1 fun vs H2 => r x vs H2 Q) := by
  refine ⟨fun pins s σ H Q I h => wpAny_Call_method_late hb hf hl rfl (thn (ho.run pins s σ H _ I h) ?_)⟩
  rintro v s1 ⟨x, H1, I1, r1, ⟨d, ens, n, rfl, D0⟩, q1⟩
  cases r1
  refine ⟨"dict", "dict.get", PySem.F.plainAttrs_dict, PySem.F.slot_dict_get, PySem.F.type_dict_get, kd_type D0 I1, fun a ea => ?_, ?_⟩
  · cases ea
    exact ⟨_, I1.kIn _ _ D0.at_, rfl⟩
  · have hA := ha.run cp pins s1 σ H1 _ I1 q1
    rw [hs] at hA ⊢
    refine Calls.callWith_builtin (by show (false || (backTo cp (starEach es X.env)).any (·.1)) = false; rw [hp] <;> rfl) (Calls.evalArgs_plain (thn hA ?_))
    rintro us s2 ⟨vs, H2, I2, r2, q2⟩
    exact hm pins s2 σ H2 (.ref d) vs _ us Q I2 rfl r2 q2
theorem s_mth (m : Mt) {o : CE} {es : List CE} (ho : PEx F nm o) (hes : ∀ c ∈ es, PEx F nm c) : PEx F nm (.mth m o es) := by
  intro X W k N s e g a
  have pe : ∀ t, chkE nm N s t (.mth m o es) e = true → PE X e (tE F W (.mth m o es)) := fun t h => by
    obtain ⟨o', es', ap, cp, rfl, h1, h2, h3, h4, h5, h9⟩ := i_mth h
    have hm := mt_mth (X := X) (F := F) g.K g.kd m
    have po := (ho X W k N s _ g a).1 h2
    have hb : attributeBase o' (mthT m).2.1 X.env (eval o' X.env) = eval o' X.env := base_of h2 h1
    have kinds : PlainAttrs (mthT m).1 ∧ Slot (mthT m).1 (mthT m).2.1 (mthT m).2.2 ∧ typeOf (.builtin (mthT m).2.2) = pure (.type "method_descriptor") := by
      cases m with
      | append => exact ⟨PySem.F.plainAttrs_list, PySem.F.slot_list_append, PySem.F.type_list_append⟩
      | extend => exact ⟨PySem.F.plainAttrs_list, PySem.F.slot_list_extend, PySem.F.type_list_extend⟩
      | pop => exact ⟨PySem.F.plainAttrs_list, PySem.F.slot_list_pop, PySem.F.type_list_pop⟩
      | join => exact ⟨PySem.F.plainAttrs_str, PySem.F.slot_str_join, PySem.F.type_str_join⟩
      | find => exact ⟨PySem.F.plainAttrs_str, PySem.F.slot_str_find, PySem.F.type_str_find⟩
      | split => exact ⟨PySem.F.plainAttrs_str, PySem.F.slot_str_split, PySem.F.type_str_split⟩
      | lstrip => exact ⟨PySem.F.plainAttrs_str, PySem.F.slot_str_lstrip, PySem.F.type_str_lstrip⟩
      | strip => exact ⟨PySem.F.plainAttrs_str, PySem.F.slot_str_strip, PySem.F.type_str_strip⟩
      | endswith => exact ⟨PySem.F.plainAttrs_str, PySem.F.slot_str_endswith, PySem.F.type_str_endswith⟩
      | index => exact ⟨PySem.F.plainAttrs_str, PySem.F.slot_str_index, PySem.F.type_str_index⟩
      | get => exact ⟨PySem.F.plainAttrs_dict, PySem.F.slot_dict_get, PySem.F.type_dict_get⟩
    obtain ⟨k1, k2, k3⟩ := kinds
    cases es with
    | nil =>
      cases es' with
      | cons _ _ => simp [chkL] at h3
      | nil =>
        by_cases hget : m = .get
        · exact absurd rfl (h9 hget)
        refine PE.imp (pe_bm0 k1 k2 k3 hm po hb h4) fun σ H Q ⟨μ, env, st, he, sr, t⟩ => ?_
        rw [evE] at t
        refine ⟨μ, env, st, he, sr, tM.bd t fun x st1 μ1 H1 v e1 s1 r1 t1 => ?_⟩
        cases hp : preM st1 m x with
        | false => rw [hp] at t1; exact t1.no.elim
        | true =>
          rw [hp] at t1
          simp only [if_pos] at t1
          rw [evL, bd_ok] at t1
          exact ⟨pre_ty g.K hget s1 r1 hp, W, σ, μ1, st1, x, [], s1, r1, RepL.nil, t1⟩
    | cons c cs =>
      cases es' with
      | nil => simp [chkL] at h3
      | cons c' cs' =>
        have h3' := h3
        unfold chkL at h3'
        rw [Bool.and_eq_true] at h3'
        have h6 : starEach (c' :: cs') X.env = (false, eval c' X.env) :: starEach cs' X.env := star_of h3'.1
        have h7 : (backTo cp (starEach cs' X.env)).any (·.1) = false := by rw [backTo_any]; exact stars_of h3'.2
        have h8 : ((backTo cp (starEach (c' :: cs') X.env)).all (fun x => !x.1) && (backToKw cp (keywordEach [] X.env)).all (fun x => x.1.isSome)
      && decide ((c' :: cs').length + ([] : List Keyword).length + (if ([] : List Keyword).isEmpty then 0 else 1) < 30)) = true := by
          have e1 : (backTo cp (starEach (c' :: cs') X.env)).all (fun x => !x.1) = true := by
            rw [List.all_eq_not_any_not]
            simp only [Bool.not_not]
            rw [backTo_any, stars_of h3]
            rfl
          rw [e1]
          have e2 : (backToKw cp (keywordEach [] X.env)).all (fun x => x.1.isSome) = true := rfl
          rw [e2, Bool.true_and, Bool.true_and]
          exact decide_eq_true (by show (c' :: cs').length + 0 + 0 < 30; omega)
        by_cases hget : m = .get
        · subst hget
          refine PE.imp (pe_getK hm po (soundA hes g a h3) hb h8 h4 h6 h7) fun σ H Q ⟨μ, env, st, he, sr, t⟩ => ?_
          rw [evE] at t
          refine ⟨μ, env, st, he, sr, tM.bd t fun x st1 μ1 H1 v e1 s1 r1 t1 => ?_⟩
          cases hp : preM st1 .get x with
          | false => rw [hp] at t1; exact t1.no.elim
          | true =>
            rw [hp] at t1
            simp only [if_pos] at t1
            cases x <;> try (cases hp; done)
            refine ⟨?_, μ1, env, st1, he.ext e1, s1, tM.bd t1 fun ds st2 μ2 H2 vs e2 s2 r2 t2 => ?_⟩
            · unfold RD Rep at r1
              obtain ⟨d, rfl, hg, _⟩ := r1
              obtain ⟨ens, n, D0⟩ := g.kd d hg
              exact ⟨d, ens, n, rfl, D0⟩
            · exact ⟨W, σ, μ2, st2, _, ds, s2, r1.ext e2, r2, t2⟩
        refine PE.imp (pe_bm k1 k2 k3 hm po (soundA hes g a h3) hb h8 h4 h6 h7) fun σ H Q ⟨μ, env, st, he, sr, t⟩ => ?_
        rw [evE] at t
        refine ⟨μ, env, st, he, sr, tM.bd t fun x st1 μ1 H1 v e1 s1 r1 t1 => ?_⟩
        cases hp : preM st1 m x with
        | false => rw [hp] at t1; exact t1.no.elim
        | true =>
          rw [hp] at t1
          simp only [if_pos] at t1
          refine ⟨pre_ty g.K hget s1 r1 hp, μ1, env, st1, he.ext e1, s1, tM.bd t1 fun ds st2 μ2 H2 vs e2 s2 r2 t2 => ?_⟩
          exact ⟨W, σ, μ2, st2, x, ds, s2, r1.ext e2, r2, t2⟩
  refine ⟨pe false, fun h => pt_of g (pe true h) ?_⟩
  obtain ⟨_, _, _, _, rfl, _⟩ := i_mth h
  exact fun _ => rfl
end
end Mini

set_option Elab.async false
set_option linter.all false
set_option maxRecDepth 100000
set_option maxHeartbeats 4000000
namespace Mini
open PySem PySem.W L2
/-! isinstance of an error that is handled, with a dict or without -/
section
variable {prog : Program} {w : World} {A : Around} {E : Value → Shared → Prop} {K : PySem.W.Frag} {x D : Addr} {ox : Obj} {od : Option Obj}
theorem found_class (T : ExcC K D) : findObj K D od "__class__" = some (.bind (.builtin "getset_descriptor.__get__") (.builtin "object.__class__")) := by
  obtain ⟨cd, hc, _⟩ := any_some T.hd
  unfold findObj
  rw [hc, Option.bind_some, T.ha, Option.bind_some]
  simp [T.hn, T.ht]
theorem class_of_exc {hp : Heap} {gs : Array GenState} {dr : Drawn} {tok : Nat} {os : OsState} {Q : Option Value → Shared → Prop} (T : ExcC K D) (X : K.In hp) (I : InstAt hp x ox D od)
    (h : Q (some (.ref D)) ⟨hp, gs, dr, tok + 1, os⟩) : wpAny (model prog w) A (getAttr? (.ref x) "__class__") Q E ⟨hp, gs, dr, tok, os⟩ := by
  have ty := I.type (M := model prog w)
  have own1 := looks_findIn (M := model prog w) X T.hg
  have own2 := looks_findIn (M := model prog w) X T.hk
  have own3 := looks_find (M := model prog w) X I (found_class (od := od) T)
  have under : Looks (model prog w) hp (isInstance (.ref x) (.type "BaseException")) true := ty.andThen (looks_subIn X T.hs)
  have n0 : (Value.builtin "BaseException.__getattribute__" == Value.builtin "object.__getattribute__") = false := by decide +kernel
  have n1 : (onTheHeap (Value.ref D) && Value.builtin "BaseException.__getattribute__" == Value.builtin "object.__getattribute__") = false := by rw [n0] <;> rfl
  unfold getAttr? getAttrBy? getAttrBy
  refine wpAny_bind (wpAny_mkText (wpAny_bind (wpAny_attempt (wpAny_holding (wpAny_bind (ty.at (wpAny_bind (own1.at ?_))))))))
  show wpAny (model prog w) _ (if (onTheHeap (Value.ref D) && Value.builtin "BaseException.__getattribute__" == Value.builtin "object.__getattribute__") = true then _ else _) _ _ _
  rw [n1, if_neg (by decide)]
  unfold getAttrByItsOwn hookBefore
  refine wpAny_bind ?_
  rw [if_pos (show onTheHeap (Value.ref D) = true by rfl)]
  refine own2.at (wpAny_bind (wpAny_attempt (wpAny_holding ?_)))
  unfold callGetattribute
  rw [if_neg (show ¬ (false && onTheHeap (Value.builtin "BaseException.__getattribute__")) = true by decide)]
  unfold boundAndCalled
  rw [PySem.F.excAttr_ValueError.ga.bind (.ref x)]
  refine wpAny_bind (wpAny_pure (show wpAny (model prog w) _ (call (.builtin "BaseException.__getattribute__") [.ref x, .str "__class__" tok]) _ _ _ from wpAny_call (codeAny_call_builtin PySem.F.excAttr_ValueError.ga.plain PySem.F.entry_bexc_ga ?_)))
  refine @check_slot (model prog w) _ _ ⟨hp, gs, dr, tok + 1, os⟩ "BaseException.__getattribute__" "BaseException" "__getattribute__" (.ref x) [.str "__class__" tok] [] _ (by decide +kernel) (by decide +kernel) under (PySem.F.args_bexc_ga (.ref x) (.str "__class__" tok)) ?_
  unfold Builtin.«object.__getattribute__»
  refine wpAny_bind (wpAny_of_eq (a := ((Value.ref x : Value), [Value.str "__class__" tok])) (by first | (simp only [slotArgs]; rfl) | rfl) ?_)
  refine wpAny_bind (wpAny_pure (wpAny_bind (ty.at (wpAny_bind (own3.at ?_)))))
  show wpAny (model prog w) _ (holding [Value.builtin "object.__class__"] (call (.builtin "getset_descriptor.__get__") [.builtin "object.__class__", .ref x, .ref D]) >>= ret) _ _ _
  refine wpAny_bind (wpAny_holding (wpAny_call (class_get (s := ⟨hp, gs, dr, tok + 1, os⟩) (ox := ox) (od := od) X I T.hm ?_)))
  refine wpAny_pure (show wpAny (model prog w) _ (handedOut (.ref D)) _ _ _ from ?_)
  rw [handedOut_of (v := .ref D) rfl]
  first
    | exact wpAny_pure (wpAny_bind (wpAny_pure (wpAny_pure h)))
    | exact wpAny_pure (wpAny_pure h)
    | exact wpAny_pure h
theorem kit_exc (T : ExcC K D) : KitX K (.ref x) (.ref D) (fun h => InstAt h x ox D od) := by
  have isC : ∃ cd c' d' sl', K.lookup D = some ⟨c', d', .cls cd, sl'⟩ := by
    obtain ⟨cd, hc, _⟩ := any_some T.hd
    unfold clsIn at hc
    split at hc
    · rename_i c' d' cd' sl' ho
      exact ⟨_, _, _, _, ho⟩
    · cases hc
  obtain ⟨cd, c', d', sl', ho⟩ := isC
  refine { ty := fun _ _ _ I => I.type, it := fun _ _ X _ => ?_, ne := fun h tp dd its n sl X htp => ?_, ca := ?_ }
  · intro A' Q' E' s' k q
    unfold isType loadHead
    exact wpAny_bind (wpAny_loadPart (k _ _ (X _ _ ho)) (wpAny_pure q))
  · cases hq : (Value.ref D == Value.ref tp) with
    | false => rfl
    | true =>
      have e : D = tp := Value.ref.inj (beq_iff_eq.mp hq)
      subst e
      have z := (X _ _ ho).symm.trans htp
      cases z
  · intro prog w A E Q s X I k
    obtain ⟨hp, gs, dr, tok, os⟩ := s
    exact class_of_exc T X I k
end
section
variable {F : Fix} {nm : Nat → Str}
theorem insD_rep {μ : List Addr} {H : Hp} {st : Sto} {x : D} {v : V} {i c : Nat} {fs : List (Nat × D)} (sr : SRep F.K F.G μ st H) (r : Rep F.K F.G μ H x v) (e : insD st x = some (i, c, fs)) :
    ∃ a C dx vs, x = .obj i ∧ v = .ref a ∧ μ[i]? = some a ∧ st[i]? = some (.ins c fs) ∧ H a = some (.ins C dx vs) ∧ H dx = some (.own a) ∧ dx ∉ μ ∧ F.G c (.ref C) ∧ RepF F.K F.G μ H fs vs := by
  unfold insD at e
  split at e
  · split at e
    · rename_i j c' fs' hs
      cases e
      obtain ⟨a, rfl, h1⟩ := repO r
      obtain ⟨C, dx, vs, h2, h3, h4, h5, h6⟩ := sr.at_ _ _ a hs h1
      exact ⟨a, C, dx, vs, rfl, rfl, h1, hs, h2, h3, h4, h5, h6⟩
    · cases e
  · cases e
theorem repF_get {X : Cx} {W : WX} {k : Nat} {hot : Bool} (g : Good F nm X W k hot) {μ : List Addr} {H : Hp} {f : Nat} (hf : fldOk nm f = true) : ∀ {fs : List (Nat × D)} {vs : List (Str × V)}, RepF F.K F.G μ H fs vs →
    (∀ d, fs.lookup f = some d → ∃ v, vs.lookup (nm f) = some v ∧ Rep F.K F.G μ H d v) ∧ (fs.lookup f = none → vs.lookup (nm f) = none)
  | [], _, h => by
    have h : _ = _ := h
    subst h
    exact ⟨fun d e => by simp at e, fun _ => rfl⟩
  | (f0, x0) :: r, _, h => by
    obtain ⟨n, v, r', rfl, hn, hx, hr⟩ := h
    obtain ⟨rfl, h0⟩ := g.gi f0 n hn
    obtain ⟨ih1, ih2⟩ := repF_get g hf hr
    by_cases e : f = f0
    · subst e
      simp only [List.lookup_cons, beq_self_eq_true]
      exact ⟨fun d q => ⟨v, rfl, by cases q; exact hx⟩, fun q => by cases q⟩
    · have e1 : (f == f0) = false := by simpa using e
      have e2 : (nm f == nm f0) = false := by
        have : nm f ≠ nm f0 := fun z => e (g.inj _ _ hf h0 z)
        simpa using this
      simp only [List.lookup_cons, e1, e2]
      exact ⟨ih1, ih2⟩
theorem repF_put {X : Cx} {W : WX} {k : Nat} {hot : Bool} (g : Good F nm X W k hot) {μ : List Addr} {H : Hp} {f : Nat} (hf : fldOk nm f = true) {y : D} {v : V} (hy : Rep F.K F.G μ H y v) : ∀ {fs : List (Nat × D)} {vs : List (Str × V)}, RepF F.K F.G μ H fs vs →
    RepF F.K F.G μ H (putN f y fs) (putF (nm f) v vs)
  | [], _, h => by
    have h : _ = _ := h
    subst h
    exact ⟨nm f, v, [], rfl, g.gf f hf, hy, rfl⟩
  | (f0, x0) :: r, _, h => by
    obtain ⟨n, v0, r', rfl, hn, hx, hr⟩ := h
    obtain ⟨rfl, h0⟩ := g.gi f0 n hn
    by_cases e : f0 = f
    · subst e
      rw [putN, if_pos rfl, putF, if_pos rfl]
      exact ⟨_, v, r', rfl, hn, hy, hr⟩
    · have e2 : nm f0 ≠ nm f := fun z => e (g.inj _ _ h0 hf z)
      rw [putN, if_neg e, putF, if_neg e2]
      exact ⟨_, v0, _, rfl, hn, hx, repF_put g hf hy hr⟩
theorem repF_len {μ : List Addr} {H : Hp} : ∀ {fs : List (Nat × D)} {vs : List (Str × V)}, RepF F.K F.G μ H fs vs → vs.length = fs.length
  | [], _, h => by
    have h : _ = _ := h
    subst h
    rfl
  | (f0, x0) :: r, _, h => by
    obtain ⟨n, v0, r', rfl, hn, hx, hr⟩ := h
    rw [List.length_cons, List.length_cons, repF_len hr]
theorem noMth_of {X : Cx} {W : WX} {k : Nat} {hot : Bool} (g : Good F nm X W k hot) {c f : Nat} {C : Addr} (h : noMth F.P c f = true) (hf : fldOk nm f = true) (hC : F.G c (.ref C)) : Cls X.K C ∧ NoAttr X.K C (nm f) := by
  unfold noMth at h
  split at h
  · rename_i cl hc
    obtain ⟨h1, h2, _⟩ := g.cs c cl C hc hC
    exact ⟨h1, h2 f hf (by simpa using h)⟩
  · cases h
theorem s_fld {o : CE} (f : Nat) (ho : PEx F nm o) : PEx F nm (.fld o f) := by
  intro X W k N s e g a
  have pe : ∀ t, chkE nm N s t (.fld o f) e = true → PE X e (tE F W (.fld o f)) := fun t h => by
    obtain ⟨o', p, rfl, h1, h2, h3⟩ := i_fld h
    refine PE.imp (pe_fld ((ho X W k N s _ g a).1 h3) (base_of h3 h2)) fun σ H Q ⟨μ, env, st, he, sr, t⟩ => ?_
    rw [evE] at t
    refine ⟨μ, env, st, he, sr, tM.bd t fun x st1 μ1 H1 v e1 s1 r1 t1 => ?_⟩
    cases hi : insD st1 x with
    | none => unfold fldD at t1; rw [hi] at t1; exact t1.no.elim
    | some q =>
      obtain ⟨i, c, fs⟩ := q
      unfold fldD at t1
      rw [hi] at t1
      dsimp only at t1
      obtain ⟨ad, C, dx, vs, rfl, rfl, b1, b2, b3, b4, b5, b6, b7⟩ := insD_rep s1 r1 hi
      split at t1
      · rename_i hn
        obtain ⟨n1, n2⟩ := noMth_of g hn h1 b6
        cases hl : fs.lookup f with
        | none => rw [hl] at t1; exact t1.no.elim
        | some d =>
          rw [hl] at t1
          obtain ⟨v, l1, l2⟩ := (repF_get g h1 b7).1 d hl
          exact ⟨ad, C, dx, vs, v, rfl, b3, n1, n2, l1, t1.ok s1 l2⟩
      · exact t1.no.elim
  refine ⟨pe false, fun h => pt_of g (pe true h) ?_⟩
  obtain ⟨_, _, rfl, _⟩ := i_fld h
  exact fun _ => rfl
theorem few_of {N : List Str} {s : Sc} {env : PySem.Env} {es : List CE} {es' : List Expr} {cp : Pos} (h : chkL nm N s false es es' = true) (hl : es'.length < 30) : methodCallForm (es'.length + ([] : List Keyword).length) (backTo cp (starEach es' env)) (backToKw cp (keywordEach [] env)) = true := by
  have e1 : (backTo cp (starEach es' env)).all (fun x => !x.1) = true := by
    rw [List.all_eq_not_any_not]
    simp only [Bool.not_not]
    rw [backTo_any, stars_of h]
    rfl
  have e2 : (backToKw cp (keywordEach [] env)).all (fun x => x.1.isSome) = true := rfl
  unfold methodCallForm
  rw [e1, e2, Bool.true_and, Bool.true_and]
  exact decide_eq_true (by show es'.length + 0 + 0 < 30; omega)
theorem meth_tree {N : List Str} {s : Sc} {t : Bool} {c : CE} {o : Expr} {es : List CE} {es' : List Expr} {m : Str} {ap cp : Pos} {env : PySem.Env} (h : chkE nm N s t c o = true) (n : noSuper o = true) (ha : chkL nm N s false es es' = true) (hl : es'.length < 30) (hp : (ap.endLine == cp.line) = true) :
    ∃ pl, eval (.Call (.Attribute o m ap) es' [] cp) env = (eval o env >>= fun ov => standAt ap.atName >>= fun _ => holding [ov] (getMethod ov m pl) >>= fun q => callWith cp q.1 q.2 (backTo cp (starEach es' env)) (backToKw cp (keywordEach [] env))) := by
  have hf := few_of (env := env) (cp := cp) ha hl
  have hb : attributeBase o m env (eval o env) = eval o env := base_of h n
  have hpos : methodCallPos true o env ap cp = pure cp := by
    unfold methodCallPos
    rw [hp]
    rfl
  refine ⟨(do return (← importBound o env).getD true), ?_⟩
  rw [arm_eval_Call, hb]
  unfold methodCall
  rw [hf]
  dsimp only
  rw [hpos]
  rfl
theorem s_mcl {o : CE} (m : Nat) {es : List CE} (ho : PEx F nm o) (hes : ∀ c ∈ es, PEx F nm c) : PEx F nm (.mcl o m es) := by
  intro X W k N s e g a
  have pe : ∀ t, chkE nm N s t (.mcl o m es) e = true → PE X e (tE F W (.mcl o m es)) := fun t h => by
    obtain ⟨o', es', ap, cp, rfl, h0, h1, h2, h3, h4, h5, h6⟩ := i_mcl h
    have ht : ∃ pl, eval (.Call (.Attribute o' (nm m) ap) es' [] cp) X.env = (eval o' X.env >>= fun ov => standAt ap.atName >>= fun _ => holding [ov] (getMethod ov (nm m) pl) >>= fun q => callWith cp q.1 q.2 (backTo cp (starEach es' X.env)) (backToKw cp (keywordEach [] X.env))) := meth_tree h3 h2 h4 h6 h5
    refine PE.imp (pe_methC (E := WE W) ((ho X W k N s _ g a).1 h3) (g.room h0) (fun σ => passAt g.tk σ) (soundA hes g a h4) (args_of (F := F) (W := W) h4) ht) fun σ H Q ⟨μ, env, st, he, sr, t⟩ => ?_
    rw [evE] at t
    refine ⟨μ, env, st, he, sr, tM.bd t fun x st1 μ1 H1 v e1 s1 r1 t1 => ?_⟩
    cases hi : insD st1 x with
    | none => rw [hi] at t1; exact t1.no.elim
    | some q =>
      obtain ⟨i, c, fs⟩ := q
      rw [hi] at t1
      dsimp only at t1
      split at t1
      · rename_i cl hc hl
        split at t1
        · rename_i gg hg
          split at t1
          · rename_i f hf
            obtain ⟨ad, C, dx, vs, rfl, rfl, b1, b2, b3, b4, b5, b6, b7⟩ := insD_rep s1 r1 hi
            obtain ⟨c1, c2, c3⟩ := g.cs c cl C hc b6
            obtain ⟨fa, fd, ps, d1, d2, d3⟩ := c3 m gg f hg hf
            refine ⟨ad, C, dx, vs, fa, fd, ps, _, rfl, b3, c1, d1, (repF_get g h1 b7).2 hl, d2, d3, ?_⟩
            refine ⟨μ1, env, st1, he.ext e1, s1, tM.bd t1 fun ds st2 μ2 H2 ws e2 s2 r2 t2 => ?_⟩
            exact sp_of s2 (RepL.cons (r1.ext e2) r2) t2
          · exact t1.no.elim
        · exact t1.no.elim
      · exact t1.no.elim
  refine ⟨pe false, fun h => pt_of g (pe true h) ?_⟩
  obtain ⟨_, _, _, _, rfl, _⟩ := i_mcl h
  exact fun _ => rfl
/-- the place of a class of errors, or of a built-in one, by its name -/
theorem names_pe {X : Cx} {x : Str} {cv : Value} {p : Pos} {E : Value → Shared → Prop} (h : Names X x cv) : ∀ (pins : List (Addr × Obj)) (s : Shared) (σ : L2.St) (H : Hp) (Q : Value → Shared → Prop), L2.Inv X pins σ H s → Q cv s → wpAny (model X.prog X.w) X.A (eval (.Name x p) X.env) Q E s := by
  intro pins s σ H Q I q
  obtain ⟨hg, hd, hm | ⟨hm, hv, hn⟩⟩ := h
  · exact ld_glob I hg hm q hd
  · exact ld_blt I hg hm hv q hn hd
theorem lookup_zip {α : Type} : ∀ {ns : List Nat} {fs : List α} {f : Nat} {d : α}, (ns.zip fs).lookup f = some d → ∃ j : Nat, ns[j]? = some f ∧ fs[j]? = some d
  | [], _, _, _, h => by simp at h
  | _ :: _, [], _, _, h => by simp at h
  | n :: ns, x :: fs, f, d, h => by
    rw [List.zip_cons_cons, List.lookup_cons] at h
    split at h
    · rename_i e
      cases h
      have : f = n := by simpa using e
      subst this
      exact ⟨0, rfl, rfl⟩
    · obtain ⟨j, h1, h2⟩ := lookup_zip h
      exact ⟨j + 1, h1, h2⟩
theorem s_xfl (i f : Nat) : PEx F nm (.xfl i f) := by
  intro X W k N s e g a
  have pe : ∀ t, chkE nm N s t (.xfl i f) e = true → PE X e (tE F W (.xfl i f)) := fun t h => by
    obtain ⟨n, p, p', rfl, h0, h1, h2, h3, h4, h5⟩ := i_xfl h
    obtain ⟨X0, ad, oe, pn, rfl, hh⟩ := g.hs h0
    refine ⟨fun pins s0 σ H Q I ⟨μ, env, st, he, sr, t⟩ => ?_⟩
    rw [evE] at t
    unfold exnAt at t
    split at t
    · rename_i c fs hc
      split at hc
      · rename_i c' fs' hx
        cases hc
        split at t
        · rename_i ns hn
          obtain ⟨v, dd, C, nss, vs, v1, v2, v3, v4, v5, v6⟩ := he.ex_ i c fs hx
          obtain ⟨rfl, C', nss', w1, w2, w3⟩ := hh c v dd v2
          rw [v3] at w1
          cases w1
          obtain ⟨C2, y1, y2, y3, y4, y5, y6⟩ := g.xs c ns hn
          rw [v3] at y1
          cases y1
          cases hl : (ns.zip fs).lookup f with
          | none => rw [hl] at t; exact t.no.elim
          | some d =>
            rw [hl] at t
            obtain ⟨j, j1, j2⟩ : ∃ j : Nat, ns[j]? = some f ∧ fs[j]? = some d := lookup_zip hl
            obtain ⟨u, u1, u2⟩ := v4.get j2
            have hj : (ns.map nm)[j]? = some (nm f) := by rw [List.getElem?_map, j1]; rfl
            cases dd with
            | none =>
              have v6 : ns.map nm = [] := v6
              rw [v6] at hj
              simp at hj
            | some d0 =>
              obtain ⟨z1, l, z2, z3⟩ := v6
              have hvar := pe_var (X := X0.suite ad ((ad, oe) :: pn)) (pos := p) (i := i) (by rw [a.N]; exact h1) (vis_of a h2) h3 h4
              refine (pe_xf (d := some d0) (cls := .ref C) (C := C) y5 (y6 f (List.mem_of_getElem? j1)) w2 w3 hvar (hb := rfl)).run pins s0 σ H Q I ?_
              exact ⟨.ref ad, v1, rfl, rfl, d0, l, u, rfl, z2, z3 j _ _ hj u1, t.ok sr u2⟩
        · exact t.no.elim
      · cases hc
    · exact t.no.elim
  refine ⟨pe false, fun h => pt_of g (pe true h) ?_⟩
  obtain ⟨_, _, _, rfl, _⟩ := i_xfl h
  exact fun _ => rfl
/-- isinstance(e, c), e the error that is handled, with a dict or without -/
theorem call_isX {X : Cx} {a D : Addr} {oe : Obj} {dd : Option Addr} {pn : List (Addr × Obj)} (T : ExcC X.K D) (hz : Zc (.ref D) dd oe) (hf : ∃ vs, oe.data = .fields vs) :
    CallR (X.suite a ((a, oe) :: pn)) (.builtin "isinstance") (fun xs H Q => ∃ (c : V) (cv : Value) (b : Bool), xs = [.ref a, c] ∧ (∀ u, RelV c u → u = cv) ∧ (∀ d, dd = some d → ∃ l, H d = some (.xd l)) ∧ PySem.W.kitOne X.K (.ref D) cv = some b ∧ Q (.bl b) H) := by
  intro pins s σ H xs us Q I r h
  obtain ⟨c, cv, b, rfl, hcv, hdd, e, q⟩ := h
  match us, r with
  | [u1, u2], .cons rx (.cons rt .nil) =>
    cases rx
    have ec := hcv _ rt
    subst ec
    obtain ⟨hget, _⟩ := I.pin (a, oe) (List.mem_append.mpr (.inl List.mem_cons_self))
    obtain ⟨vs, hv⟩ := hf
    have hnc : PySem.W.notCls oe = true := by
      unfold PySem.W.notCls
      rw [hv] <;> rfl
    have J : ∃ od, PySem.W.InstAt s.heap a oe D od := by
      cases dd with
      | none => exact ⟨none, hget, hz.1, hnc, by rw [hz.2]; trivial⟩
      | some d =>
        obtain ⟨l, hl⟩ := hdd d rfl
        obtain ⟨mA, hns, _⟩ := (show ObjOk X.prog X.w H s.heap d (.xd l) from I.hok d _ hl)
        obtain ⟨od, ho, _⟩ := lookIn_ns hns
        exact ⟨some od, hget, hz.1, hnc, by rw [hz.2]; exact ho⟩
    obtain ⟨od, J⟩ := J
    exact PySem.W.kia_one (kit_exc T) I.kIn J e (fun z => nomatch z) fun tk => ⟨.bl b, H, I.kept (t' := tk) fun _ _ z => z, rfl, q⟩
theorem s_xis (i c : Nat) : PEx F nm (.xis i c) := by
  intro X W k N s e g a
  have pe : ∀ t, chkE nm N s t (.xis i c) e = true → PE X e (tE F W (.xis i c)) := fun t h => by
    obtain ⟨n, p1, p2, p3, p4, rfl, h0, h1, h2, h3, h4, h5, h6, h7, h8⟩ := i_xis h
    have hm : X.mg "isinstance" = none := g.bl _ (by decide +kernel)
    have g' := g
    obtain ⟨X0, ad, oe, pn, rfl, hh⟩ := g.hs h0
    refine ⟨fun pins s0 σ H Q I ⟨μ, env, st, he, sr, t⟩ => ?_⟩
    rw [evE] at t
    unfold exnAt at t
    split at t
    · rename_i c0 fs hc
      split at hc
      · rename_i c' fs' hx
        cases hc
        obtain ⟨v, dd, C, nss, vs, v1, v2, v3, v4, v5, v6⟩ := he.ex_ i c0 fs hx
        obtain ⟨rfl, C', nss', w1, w2, w3⟩ := hh c0 v dd v2
        rw [v3] at w1
        cases w1
        cases hb : F.P.sub c0 c with
        | none => rw [hb] at t; exact t.no.elim
        | some b =>
          rw [hb] at t
          obtain ⟨cv, vc, y0, y1, y2, y3, y4, y5, y6⟩ := g'.xm c0 c b C _ hb v3
          have hvar := pe_var (X := X0.suite ad ((ad, oe) :: pn)) (pos := p2) (i := i) (by rw [a.N]; exact h2) (vis_of a h3) h4 h5
          have hcls : PE (X0.suite ad ((ad, oe) :: pn)) (.Name (nm c) p3) (fun σ H Q => Q vc H) := ⟨fun pins s σ H Q I h => names_pe ⟨gl_of a h6, y0, y1⟩ pins s σ H _ I ⟨vc, H, I, y2, h⟩⟩
          refine (pe_callB (call_isX (dd := dd) y6 w2 w3) (gl_of a h1) hm (by decide +kernel) (pa_cons hvar (pa_cons hcls pa_nil)) (by decide +kernel) (by decide +kernel)).run pins s0 σ H Q I ?_
          refine ⟨.ref ad, v1, vc, cv, b, rfl, y3, fun d hd => ?_, y5, t.ok sr mkB⟩
          subst hd
          obtain ⟨_, l, z2, _⟩ := v6
          exact ⟨l, z2⟩
      · cases hc
    · exact t.no.elim
  refine ⟨pe false, fun h => pt_of g (pe true h) ?_⟩
  obtain ⟨_, _, _, _, _, rfl, _⟩ := i_xis h
  exact fun _ => rfl
end
end Mini

set_option Elab.async false
set_option linter.all false
set_option maxRecDepth 100000
set_option maxHeartbeats 4000000
namespace Mini
open PySem L2
section
variable {F : Fix} {nm : Nat → Str}
theorem ty_boot {t : String} {y : Str} (h : tyN t = some y) : bootBuiltins y = some (.type t) ∧ y ∈ bnames ∧ y ≠ "__name__" ∧ (y == ("__debug__" : Str)) = false := by
  unfold tyN at h
  split at h
  all_goals first
    | (cases h; refine ⟨by decide +kernel, by decide +kernel, by decide +kernel, by decide +kernel⟩)
    | cases h
theorem pe_ty {X : Cx} {W : WX} {k : Nat} {N : List Str} {s : Sc} {t : String} {y : Str} {q : Pos} (g : Good F nm X W k s.hot) (a : At X N s) (h : tyN t = some y) (hy : glB s.sc y = true) : PE X (.Name y q) (tC (.ty t)) := by
  obtain ⟨h1, h2, h3, h4⟩ := ty_boot h
  exact pe_bltn (v := .ty t) (gl_of a hy) (g.bl y h2) h1 rfl h3 h4
theorem pa_tys {X : Cx} {W : WX} {k : Nat} {N : List Str} {s : Sc} (g : Good F nm X W k s.hot) (a : At X N s) : ∀ {ts : List String} {es : List Expr}, chkTy s.sc ts es = true → PA X es (fun _ H Q => Q (ts.map V.ty) H)
  | [], [], _ => PA.imp pa_nil fun _ _ _ h => h
  | [], _ :: _, h => by simp [chkTy] at h
  | t :: ts, es, h => by
    cases es with
    | nil => simp [chkTy] at h
    | cons e es =>
      cases e <;> try (simp [chkTy] at h; done)
      rename_i x p
      unfold chkTy at h
      simp only [Bool.and_eq_true, decide_eq_true_eq] at h
      exact PA.imp (pa_cons (pe_ty g a h.1.1 h.1.2) (pa_tys g a h.2) rfl) fun σ H Q hq => hq
theorem clsV_tys : ∀ ts : List String, Paired ClsV (ts.map V.ty) (ts.map Value.type)
  | [] => .nil
  | t :: ts => .cons (.ty t) (clsV_tys ts)
theorem s_isi {x : CE} (ts : List String) (hx : PEx F nm x) : PEx F nm (.isi x ts) := by
  intro X W k N s e g a
  have pe : ∀ t, chkE nm N s t (.isi x ts) e = true → PE X e (tE F W (.isi x ts)) := fun t h => by
    obtain ⟨a', p, p', h1, h2, h3⟩ := i_isi h
    have hm : X.mg "isinstance" = none := g.bl _ (by decide +kernel)
    have px := (hx X W k N s _ g a).1 h2
    rcases h3 with ⟨es, kk, q, rfl, h4, h5⟩ | ⟨ty, y, q, rfl, rfl, h4, h5⟩
    · have pt : PE X (.Tuple es kk q) (tTup fun _ H Q => Q (ts.map V.ty) H) := pe_tup (pa_tys g a h4)
      have pa2 := pa_cons px (pa_cons pt pa_nil rfl) (star_of h2)
      refine PE.imp (pe_callB call_isiT (gl_of a h1) hm (by decide +kernel) pa2 (by decide +kernel) (by decide +kernel) (star_of h2) rfl) fun σ H Q ⟨μ, env, st, he, sr, t⟩ => ?_
      rw [evE] at t
      refine ⟨μ, env, st, he, sr, tM.bd t fun x st1 μ1 H1 v e1 s1 r1 t1 => ?_⟩
      refine ⟨by rw [List.length_map, LN_eq]; show ts.length ≤ 16777216; omega, fun tp hp => ?_⟩
      cases ht : typD st1 x with
      | none => rw [ht] at t1; exact t1.no.elim
      | some ty =>
        rw [ht] at t1
        cases hb : isiD ty ts with
        | none => simp only [Option.bind_some, hb] at t1; exact t1.no.elim
        | some b =>
          simp only [Option.bind_some, hb] at t1
          refine ⟨v, tp, ts.map V.ty, .type ty, ts.map Value.type, b, rfl, upd_same, clsV_tys ts, ?_, kitAny_of hb, ?_⟩
          · exact typ_ty g.K (s1.new hp) (r1.ext (.new hp)) ht
          · exact t1.at_ μ1 _ _ (.new hp) (s1.new hp) mkB
    · have pa2 := pa_cons px (pa_cons (pe_ty (q := q) g a h4 h5) pa_nil rfl) (star_of h2)
      refine PE.imp (pe_callB call_isi (gl_of a h1) hm (by decide +kernel) pa2 (by decide +kernel) (by decide +kernel) (star_of h2) rfl) fun σ H Q ⟨μ, env, st, he, sr, t⟩ => ?_
      rw [evE] at t
      refine ⟨μ, env, st, he, sr, tM.bd t fun x st1 μ1 H1 v e1 s1 r1 t1 => ?_⟩
      cases ht : typD st1 x with
      | none => rw [ht] at t1; exact t1.no.elim
      | some tx =>
        rw [ht] at t1
        cases hb : isiT tx ty with
        | none => simp only [Option.bind_some, isiD, hb] at t1; exact t1.no.elim
        | some b =>
          have hd : isiD tx [ty] = some b := by
            unfold isiD
            rw [hb]
            cases b <;> rfl
          simp only [Option.bind_some, hd] at t1
          exact ⟨v, .ty ty, .type tx, .type ty, b, rfl, .ty ty, typ_ty g.K s1 r1 ht, kitOne_of hb, t1.ok s1 mkB⟩
  refine ⟨pe false, fun h => pt_of g (pe true h) ?_⟩
  obtain ⟨_, _, _, _, _, h3⟩ := i_isi h
  rcases h3 with ⟨_, _, _, rfl, _⟩ | ⟨_, _, _, _, rfl, _⟩
  · exact fun _ => rfl
  · exact fun _ => rfl
/-! ### targets -/
/-- the slots behind a store -/
def Upto (is : List Nat) (σ σ' : L2.St) : Prop := σ'.length = σ.length ∧ ∀ i, i ∉ is → σ'[i]? = σ[i]?
def gT (F : Fix) (tg : Tg) : TG := fun v σ H Q => ∃ μ env d env', EnvRep F μ H env σ ∧ Rep F.K F.G μ H d v ∧ asgT tg d env = some env' ∧ ∀ σ', EnvRep F μ H env' σ' → Upto (slotsT tg) σ σ' → Q σ' H
def gTs (F : Fix) (ts : List Tg) : TGs := fun vs σ H Q => ∃ μ env ds env', EnvRep F μ H env σ ∧ RepL F.K F.G μ H ds vs ∧ asgTs ts ds env = some env' ∧ ∀ σ', EnvRep F μ H env' σ' → Upto (slotsTs ts) σ σ' → Q σ' H
theorem PG.imp {X : Cx} {e : Expr} {t t' : TG} (h : PG X e t) (k : ∀ v σ H Q, t' v σ H Q → t v σ H Q) : PG X e t' := ⟨fun pins s σ H v u Q I r q => h.run pins s σ H v u Q I r (k v σ H Q q)⟩
theorem PGs.imp {X : Cx} {e : List Expr} {t t' : TGs} (h : PGs X e t) (k : ∀ v σ H Q, t' v σ H Q → t v σ H Q) : PGs X e t' := ⟨fun pins s σ H v u Q I r q => h.run pins s σ H v u Q I r (k v σ H Q q)⟩
theorem asg_star {N : List Str} {s : Sc} {tg : Tg} {e : Expr} {es : List Expr} {env : PySem.Env} (h : chkTg N s tg e = true) : assignEach (e :: es) env = (false, assign e env) :: assignEach es env := by
  cases tg <;> cases e <;> first
    | rfl
    | simp [chkTg] at h
theorem asgs_star {N : List Str} {s : Sc} {env : PySem.Env} : ∀ {ts : List Tg} {es : List Expr}, chkTgs N s ts es = true → (assignEach es env).length = ts.length ∧ (assignEach es env).findIdx? (·.1) = none
  | [], [], _ => ⟨rfl, rfl⟩
  | [], _ :: _, h => by simp [chkTgs] at h
  | _ :: _, [], h => by simp [chkTgs] at h
  | t :: ts, e :: es, h => by
    unfold chkTgs at h
    rw [Bool.and_eq_true] at h
    obtain ⟨h1, h2⟩ := asgs_star (env := env) h.2
    rw [asg_star h.1]
    refine ⟨by rw [List.length_cons, h1, List.length_cons], ?_⟩
    rw [List.findIdx?_cons]
    simp [h2]
theorem asgTs_len : ∀ {ts : List Tg} {ds : List D} {env env' : Env}, asgTs ts ds env = some env' → ds.length = ts.length
  | [], [], _, _, _ => rfl
  | [], _ :: _, _, _, h => by simp [asgTs] at h
  | _ :: _, [], _, _, h => by simp [asgTs] at h
  | t :: ts, d :: ds, env, env', h => by
    unfold asgTs at h
    split at h
    · rw [List.length_cons, List.length_cons, asgTs_len h]
    · cases h
mutual
theorem pg_of {X : Cx} {W : WX} {k : Nat} {N : List Str} {s : Sc} (g : Good F nm X W k s.hot) (a : At X N s) : ∀ (tg : Tg) (e : Expr), chkTg N s tg e = true → PG X e (gT F tg)
  | .nm i, e, h => by
    cases e <;> try (simp [chkTg] at h; done)
    rename_i x p
    simp only [chkTg, Bool.and_eq_true, decide_eq_true_eq] at h
    obtain ⟨h1, h2⟩ := loc_of a h.2
    refine PG.imp (pg_name (i := i) g.nd (by rw [a.N]; exact h.1) h1 h2) fun v σ H Q ⟨μ, env, d, env', he, rd, e1, q⟩ => ?_
    unfold asgT at e1
    cases e1
    refine q _ (he.set rd i) ⟨by simp, fun j hj => ?_⟩
    have : i ≠ j := fun z => hj (by rw [slotsT]; simp [z])
    exact List.getElem?_set_ne this
  | .tp ts, e, h => by
    cases e <;> try (simp [chkTg] at h; done)
    rename_i es kk p
    simp only [chkTg, Bool.and_eq_true, Bool.not_eq_true'] at h
    obtain ⟨h0, h⟩ := h
    obtain ⟨h1, h2⟩ := asgs_star (env := X.env) h
    refine PG.imp (pg_tup (n := ts.length) (g.calm h0) (pgs_of g a ts es h) h1 h2) fun v σ H Q ⟨μ, env, d, env', he, rd, e1, q⟩ => ?_
    unfold asgT at e1
    split at e1
    · rename_i heq; cases heq
    · rename_i heq; cases heq
      obtain ⟨b, vs, rfl, q1, q2⟩ := repT rd
      refine ⟨b, vs, rfl, by rw [g.K]; exact q1, by rw [q2.length]; exact asgTs_len e1, μ, _, _, _, he, q2, e1, fun σ' h1 h2 => q σ' h1 ?_⟩
      rw [slotsT]
      exact h2
    · cases e1
theorem pgs_of {X : Cx} {W : WX} {k : Nat} {N : List Str} {s : Sc} (g : Good F nm X W k s.hot) (a : At X N s) : ∀ (ts : List Tg) (es : List Expr), chkTgs N s ts es = true → PGs X es (gTs F ts)
  | [], es, h => by
    cases es with
    | cons _ _ => simp [chkTgs] at h
    | nil =>
      refine PGs.imp pgs_nil fun vs σ H Q ⟨μ, env, ds, env', he, rd, e1, q⟩ => ?_
      cases ds with
      | cons _ _ => simp [asgTs] at e1
      | nil =>
        unfold asgTs at e1
        cases e1
        exact ⟨rep0 rd, q σ he ⟨rfl, fun _ _ => rfl⟩⟩
  | t :: ts, es, h => by
    cases es with
    | nil => simp [chkTgs] at h
    | cons e es =>
      unfold chkTgs at h
      rw [Bool.and_eq_true] at h
      refine PGs.imp (pgs_cons (pg_of g a t e h.1) (pgs_of g a ts es h.2) (by rw [asg_star h.1]; rfl)) fun vs σ H Q ⟨μ, env, ds, env', he, rd, e1, q⟩ => ?_
      cases ds with
      | nil => simp [asgTs] at e1
      | cons d ds =>
        unfold asgTs at e1
        cases h3 : asgT t d env with
        | none => rw [h3] at e1; cases e1
        | some env1 =>
          rw [h3] at e1
          unfold RepL at rd
          obtain ⟨v, r, rfl, r1, r2⟩ := rd
          refine ⟨v, r, rfl, μ, env, d, env1, he, r1, h3, fun σ1 he1 u1 => ?_⟩
          refine ⟨μ, env1, ds, env', he1, r2, e1, fun σ2 he2 u2 => q σ2 he2 ⟨u2.1.trans u1.1, fun j hj => ?_⟩⟩
          rw [slotsTs] at hj
          rw [List.mem_append] at hj
          rw [u2.2 j fun z => hj (.inr z), u1.2 j fun z => hj (.inl z)]
end
end
end Mini

set_option Elab.async false
set_option linter.all false
set_option maxRecDepth 100000
set_option maxHeartbeats 4000000
namespace Mini
open PySem L2
section
variable {F : Fix} {nm : Nat → Str}
mutual
theorem Rep.mov {K : PySem.W.Frag} {G : Nat → V → Prop} {μ : List Addr} {H H' : Hp} (ht : ∀ a vs, SqT K H a vs → SqT K H' a vs) (hf : ∀ a o u, H a = some (.frz o u) → H' a = some (.frz o u)) : ∀ {d : D} {v : V}, Rep K G μ H d v → Rep K G μ H' d v
  | .non, _, h => h
  | .bl _, _, h => h
  | .int _, _, h => h
  | .str _, _, h => h
  | .tup xs, _, h => by
    unfold Rep at h ⊢
    obtain ⟨a, vs, e1, e2, e3⟩ := h
    exact ⟨a, vs, e1, ht _ _ e2, RepL.mov ht hf e3⟩
  | .rol xs, _, h => by
    unfold Rep at h ⊢
    obtain ⟨a, vs, e1, e2, e3⟩ := h
    exact ⟨a, vs, e1, e2.imp (fun ⟨o, q⟩ => ⟨o, hf _ _ _ q⟩) id, RepL.mov ht hf e3⟩
  | .obj i, _, h => by
    unfold Rep at h ⊢
    exact h
  | .ty _, _, h => h
  | .glo _, _, h => h
  | .cdt kvs, _, h => by
    unfold Rep at h ⊢
    obtain ⟨d, e1, e2, e3, e4⟩ := h
    exact ⟨d, e1, e2, RepC.mov ht hf e3, e4⟩
  | .exn _ _, _, h => by unfold Rep at h; exact h.elim
theorem RepC.mov {K : PySem.W.Frag} {G : Nat → V → Prop} {μ : List Addr} {H H' : Hp} {d : Addr} (ht : ∀ a vs, SqT K H a vs → SqT K H' a vs) (hf : ∀ a o u, H a = some (.frz o u) → H' a = some (.frz o u)) : ∀ {xs : List (S × D)}, RepC K G μ H d xs → RepC K G μ H' d xs
  | [], _ => by unfold RepC; trivial
  | (k, x) :: xs, h => by
    unfold RepC at h ⊢
    obtain ⟨⟨w, u, h1, h2, h3⟩, h4⟩ := h
    exact ⟨⟨w, u, h1, h2, Rep.mov ht hf h3⟩, RepC.mov ht hf h4⟩
theorem RepL.mov {K : PySem.W.Frag} {G : Nat → V → Prop} {μ : List Addr} {H H' : Hp} (ht : ∀ a vs, SqT K H a vs → SqT K H' a vs) (hf : ∀ a o u, H a = some (.frz o u) → H' a = some (.frz o u)) : ∀ {xs : List D} {vs : List V}, RepL K G μ H xs vs → RepL K G μ H' xs vs
  | [], _, h => h
  | x :: xs, _, h => by
    unfold RepL at h ⊢
    obtain ⟨v, r, e1, e2, e3⟩ := h
    exact ⟨v, r, e1, Rep.mov ht hf e2, RepL.mov ht hf e3⟩
end
theorem RepKV.mov {K : PySem.W.Frag} {G : Nat → V → Prop} {μ : List Addr} {H H' : Hp} (ht : ∀ a vs, SqT K H a vs → SqT K H' a vs) (hf : ∀ a o u, H a = some (.frz o u) → H' a = some (.frz o u)) : ∀ {xs : List (DKey × D)} {vs : List (Key × V)}, RepKV K G μ H xs vs → RepKV K G μ H' xs vs
  | [], _, h => h
  | (k, x) :: xs, _, h => by
    obtain ⟨v, r, e1, e2, e3⟩ := h
    exact ⟨v, r, e1, Rep.mov ht hf e2, RepKV.mov ht hf e3⟩
theorem RepF.mov {K : PySem.W.Frag} {G : Nat → V → Prop} {μ : List Addr} {H H' : Hp} (ht : ∀ a vs, SqT K H a vs → SqT K H' a vs) (hf : ∀ a o u, H a = some (.frz o u) → H' a = some (.frz o u)) : ∀ {xs : List (Nat × D)} {vs : List (Str × V)}, RepF K G μ H xs vs → RepF K G μ H' xs vs
  | [], _, h => h
  | (k, x) :: xs, _, h => by
    obtain ⟨n, v, r, e1, e0, e2, e3⟩ := h
    exact ⟨n, v, r, e1, e0, Rep.mov ht hf e2, RepF.mov ht hf e3⟩
/-- a list of no one's store is written -/
theorem own_tup {K : PySem.W.Frag} {H : Hp} {p : Addr} {xs : List V} {o : HO} (h : H p = some (.lst xs)) : (∀ a vs, SqT K H a vs → SqT K (upd H p o) a vs) ∧ ∀ a ob u, H a = some (.frz ob u) → upd H p o a = some (.frz ob u) := by
  refine ⟨fun a vs q => ?_, fun a ob u q => ?_⟩
  · rcases q with (q | ⟨ob, q⟩) | q
    · exact .inl (.inl (by rw [upd_ne (ne_of q h (fun z => by cases z))]; exact q))
    · exact .inl (.inr ⟨ob, by rw [upd_ne (ne_of q h (fun z => by cases z))]; exact q⟩)
    · exact .inr q
  · rw [upd_ne (ne_of q h (fun z => by cases z))]; exact q
theorem SRep.own {μ : List Addr} {st : Sto} {H : Hp} {p : Addr} {xs : List V} {o : HO} (s : SRep F.K F.G μ st H) (h : H p = some (.lst xs)) (n : p ∉ μ) : SRep F.K F.G μ st (upd H p o) := by
  obtain ⟨ht, hf⟩ := own_tup (K := F.K) (o := o) h
  refine ⟨s.len, s.nd, fun i u a e1 e2 => ?_⟩
  have ne : a ≠ p := fun z => n (by rw [← z]; exact List.mem_of_getElem? e2)
  have q := s.at_ i u a e1 e2
  cases u with
  | lst ys =>
    obtain ⟨ws, h1, h2⟩ := q
    exact ⟨ws, by rw [upd_ne ne]; exact h1, h2.mov ht hf⟩
  | dct kvs =>
    obtain ⟨ws, h1, h2⟩ := q
    exact ⟨ws, by rw [upd_ne ne]; exact h1, h2.mov ht hf⟩
  | ins c fs =>
    obtain ⟨C, dx, ws, h1, h2, h3, h4, h5⟩ := q
    refine ⟨C, dx, ws, by rw [upd_ne ne]; exact h1, ?_, h3, h4, h5.mov ht hf⟩
    rw [upd_ne (fun z => ?_)]
    · exact h2
    · rw [z, h] at h2
      cases h2
theorem Ext.own {K : PySem.W.Frag} {μ0 μ : List Addr} {H0 H : Hp} {p : Addr} {xs : List V} {o : HO} (e : Ext K μ0 H0 μ H) (h : H p = some (.lst xs)) (n : H0 p = none) : Ext K μ0 H0 μ (upd H p o) := by
  obtain ⟨ht, hf⟩ := own_tup (K := K) (o := o) h
  refine ⟨e.pre, fun a u na q => ?_, fun a vs q => ht _ _ (e.tup a vs q), fun a ob u q => hf _ _ _ (e.frz a ob u q)⟩
  obtain ⟨h1, h2⟩ := e.keep a u na q
  exact ⟨by rw [upd_ne (ne_of_none q n)]; exact h1, h2⟩
def hid (H : Hp) (p : Addr) : Hp := fun a => if a = p then none else H a
theorem hid_some {H : Hp} {p a : Addr} {o : HO} (h : hid H p a = some o) : H a = some o ∧ a ≠ p := by
  unfold hid at h
  split at h
  · cases h
  · exact ⟨h, by assumption⟩
theorem hid_of {H : Hp} {p a : Addr} {o : HO} (h : H a = some o) (n : a ≠ p) : hid H p a = some o := by
  unfold hid
  rw [if_neg n]
  exact h
/-- it becomes one of the store's -/
theorem SRep.adopt {μ : List Addr} {st : Sto} {H : Hp} {p : Addr} {xs : List D} {vs : List V} (s : SRep F.K F.G μ st H) (h : H p = some (.lst vs)) (n : p ∉ μ) (r : RepL F.K F.G μ H xs vs) : SRep F.K F.G (μ ++ [p]) (st ++ [.lst xs]) H := by
  have mv : ∀ {d : D} {v : V}, Rep F.K F.G μ H d v → Rep F.K F.G (μ ++ [p]) H d v := fun {d v} q => by
    have x : Ext F.K μ (hid H p) (μ ++ [p]) H := by
      refine ⟨⟨[p], rfl⟩, fun a o na e => ?_, fun a ws q => ?_, fun a ob u e => ?_⟩
      · obtain ⟨e1, ne⟩ := hid_some e
        exact ⟨e1, fun m => (List.mem_append.mp m).elim na fun m => ne (List.mem_singleton.mp m)⟩
      · rcases q with (q | ⟨ob, q⟩) | q
        · exact .inl (.inl (hid_some q).1)
        · exact .inl (.inr ⟨ob, (hid_some q).1⟩)
        · exact .inr q
      · exact (hid_some e).1
    refine Rep.ext x (Rep.mov (fun a ws q => ?_) (fun a ob u q => ?_) q)
    · rcases q with (q | ⟨ob, q⟩) | q
      · exact .inl (.inl (hid_of q (ne_of q h (fun z => by cases z))))
      · exact .inl (.inr ⟨ob, hid_of q (ne_of q h (fun z => by cases z))⟩)
      · exact .inr q
    · exact hid_of q (ne_of q h (fun z => by cases z))
  have mvL : ∀ {ds : List D} {ws : List V}, RepL F.K F.G μ H ds ws → RepL F.K F.G (μ ++ [p]) H ds ws := by
    intro ds
    induction ds with
    | nil => intro ws q; exact q
    | cons d ds ih =>
      intro ws q
      unfold RepL at q
      obtain ⟨v, r, rfl, q1, q2⟩ := q
      exact RepL.cons (mv q1) (ih q2)
  have mvK : ∀ {ds : List (DKey × D)} {ws : List (Key × V)}, RepKV F.K F.G μ H ds ws → RepKV F.K F.G (μ ++ [p]) H ds ws := by
    intro ds
    induction ds with
    | nil => intro ws q; exact q
    | cons d ds ih =>
      intro ws q
      obtain ⟨kd, d⟩ := d
      obtain ⟨v, r, rfl, q1, q2⟩ := q
      exact ⟨v, r, rfl, mv q1, ih q2⟩
  have mvF : ∀ {ds : List (Nat × D)} {ws : List (Str × V)}, RepF F.K F.G μ H ds ws → RepF F.K F.G (μ ++ [p]) H ds ws := by
    intro ds
    induction ds with
    | nil => intro ws q; exact q
    | cons d ds ih =>
      intro ws q
      obtain ⟨kd, d⟩ := d
      obtain ⟨n, v, r, rfl, q0, q1, q2⟩ := q
      exact ⟨n, v, r, rfl, q0, mv q1, ih q2⟩
  refine ⟨by simp [s.len], ?_, fun i u a e1 e2 => ?_⟩
  · rw [List.nodup_append]
    refine ⟨s.nd, by simp, fun a ha b hb e => ?_⟩
    rw [List.mem_singleton.mp hb] at e
    exact n (e ▸ ha)
  · by_cases hi : i < st.length
    · rw [List.getElem?_append_left hi] at e1
      rw [List.getElem?_append_left (by rw [s.len]; exact hi)] at e2
      have q := s.at_ i u a e1 e2
      cases u with
      | lst ys =>
        obtain ⟨ws, h1, h2⟩ := q
        exact ⟨ws, h1, mvL h2⟩
      | dct kvs =>
        obtain ⟨ws, h1, h2⟩ := q
        exact ⟨ws, h1, mvK h2⟩
      | ins c fs =>
        obtain ⟨C, dx, ws, h1, h2, h3, h4, h5⟩ := q
        refine ⟨C, dx, ws, h1, h2, fun m => ?_, h4, mvF h5⟩
        rcases List.mem_append.mp m with m | m
        · exact h3 m
        · rw [List.mem_singleton.mp m, h] at h2
          cases h2
    · rw [List.getElem?_append_right (by omega)] at e1
      rw [List.getElem?_append_right (by rw [s.len]; omega)] at e2
      have h0 : i - st.length = 0 := by
        cases h : i - st.length with
        | zero => rfl
        | succ k => rw [h] at e1; simp at e1
      rw [h0] at e1
      rw [s.len, h0] at e2
      simp at e1 e2
      subst e1 e2
      exact ⟨vs, h, mvL r⟩
theorem Ext.adopt {K : PySem.W.Frag} {μ0 μ : List Addr} {H0 H : Hp} {p : Addr} (e : Ext K μ0 H0 μ H) (n : H0 p = none) : Ext K μ0 H0 (μ ++ [p]) H := by
  obtain ⟨l, el⟩ := e.pre
  refine ⟨⟨l ++ [p], by rw [el, List.append_assoc]⟩, fun a u na q => ?_, e.tup, e.frz⟩
  obtain ⟨h1, h2⟩ := e.keep a u na q
  exact ⟨h1, fun m => (List.mem_append.mp m).elim h2 fun m => ne_of_none q n (List.mem_singleton.mp m)⟩
/-! ### the slots of a comprehension -/
theorem wipe_rep {μ : List Addr} {H : Hp} {env : Env} {σ : L2.St} (h : EnvRep F μ H env σ) : ∀ {own : List Nat}, EnvRep F μ H (wipeE env own) (wipe σ own)
  | [] => h
  | i :: is => by
    have ih := wipe_rep h (own := is)
    unfold wipeE wipe
    refine ⟨by rw [List.length_set, List.length_set, ih.len], fun j d q nx => ?_, fun j c fs q => ?_⟩
    · by_cases hj : i = j
      · subst hj
        by_cases hl : i < (wipeE env is).length
        · rw [List.getElem?_set_self hl] at q; cases q
        · rw [List.set_eq_of_length_le (by omega)] at q
          obtain ⟨z, _⟩ := List.getElem?_eq_some_iff.mp q
          exact absurd z hl
      · rw [List.getElem?_set_ne hj] at q ⊢
        exact ih.at_ j d q nx
    · by_cases hj : i = j
      · subst hj
        by_cases hl : i < (wipeE env is).length
        · rw [List.getElem?_set_self hl] at q; cases q
        · rw [List.set_eq_of_length_le (by omega)] at q
          obtain ⟨z, _⟩ := List.getElem?_eq_some_iff.mp q
          exact absurd z hl
      · rw [List.getElem?_set_ne hj] at q ⊢
        exact ih.ex_ j c fs q
theorem wipe_get {σ : L2.St} {i : Nat} : ∀ {own : List Nat}, i ∈ own → (wipe σ own)[i]? = none ∨ (wipe σ own)[i]? = some none
  | [], h => by simp at h
  | j :: js, h => by
    unfold wipe
    by_cases e : j = i
    · subst e
      by_cases hl : j < (wipe σ js).length
      · rw [List.getElem?_set_self hl]; exact .inr rfl
      · rw [List.getElem?_eq_none (by simpa using hl)]; exact .inl rfl
    · rw [List.getElem?_set_ne e]
      refine wipe_get ?_
      rcases List.mem_cons.mp h with z | z
      · exact absurd z.symm e
      · exact z
theorem wipe_upto {own is : List Nat} {σ σ2 : L2.St} (h : Upto is (wipe σ own) σ2) (hs : ∀ i ∈ is, i ∈ own) : wipe σ2 own = wipe σ own := by
  apply List.ext_getElem?
  intro i
  have hl : σ2.length = σ.length := by rw [h.1, wipe_length]
  by_cases hi : i ∈ own
  · have l1 : (wipe σ2 own).length = (wipe σ own).length := by rw [wipe_length, wipe_length, hl]
    by_cases hb : i < (wipe σ own).length
    · rcases wipe_get (σ := σ2) hi with z | z
      · have := List.getElem?_eq_none_iff.mp z
        omega
      · rcases wipe_get (σ := σ) hi with y | y
        · have := List.getElem?_eq_none_iff.mp y
          omega
        · rw [z, y]
    · rw [List.getElem?_eq_none (by omega), List.getElem?_eq_none (by omega)]
  · rw [wipe_out hi, h.2 i fun z => hi (hs i z)]
theorem Good.blk {X : Cx} {W : WX} {k : Nat} {hot : Bool} (g : Good F nm X W k hot) (hh : hot = false) (s : Shared) (H : Hp) (scope : Scope) (cenv : PySem.Env) (fp : List Addr) : Good F nm (X.blk s H scope cenv fp) (fun _ _ _ _ => False) k hot :=
  ⟨g.K, g.calm, takes0, PassesOwn.never, g.room, g.k2, g.nh, g.un, g.nd, g.bl, g.gl, g.fn, g.cl, g.gt, g.gv, g.kd, g.gf, g.gi, g.inj, g.gu, g.cs, g.xs, (fun z => by rw [hh] at z; cases z), g.hn, g.xm⟩
theorem At.blk {X : Cx} {N : List Str} {sc : Sc} (a : At X N sc) (s : Shared) (H : Hp) (scope : Scope) (cl : List (Str × Addr)) (C : Addr) (fp : List Addr) : At (X.blk s H scope (compEnvC scope cl C X.env) fp) N (blkOf sc scope) := by
  refine ⟨a.N, ?_, rfl⟩
  show relabel scope X.env = relS scope sc.sc
  unfold relabel relS PySem.Env.kindOf
  rw [a.sc]
end
end Mini

set_option Elab.async false
set_option linter.all false
set_option maxRecDepth 100000
set_option maxHeartbeats 4000000
namespace Mini
open PySem L2
section
variable {F : Fix} {nm : Nat → Str}
/-! ### displayed dicts -/
theorem own_tupD {K : PySem.W.Frag} {H : Hp} {p : Addr} {xs : List (Key × V)} {o : HO} (h : H p = some (.dK xs)) : (∀ a vs, SqT K H a vs → SqT K (upd H p o) a vs) ∧ ∀ a ob u, H a = some (.frz ob u) → upd H p o a = some (.frz ob u) := by
  refine ⟨fun a vs q => ?_, fun a ob u q => ?_⟩
  · rcases q with (q | ⟨ob, q⟩) | q
    · exact .inl (.inl (by rw [upd_ne (ne_of q h (fun z => by cases z))]; exact q))
    · exact .inl (.inr ⟨ob, by rw [upd_ne (ne_of q h (fun z => by cases z))]; exact q⟩)
    · exact .inr q
  · rw [upd_ne (ne_of q h (fun z => by cases z))]; exact q
theorem SRep.ownD {μ : List Addr} {st : Sto} {H : Hp} {p : Addr} {xs : List (Key × V)} {o : HO} (s : SRep F.K F.G μ st H) (h : H p = some (.dK xs)) (n : p ∉ μ) : SRep F.K F.G μ st (upd H p o) := by
  obtain ⟨ht, hf⟩ := own_tupD (K := F.K) (o := o) h
  refine ⟨s.len, s.nd, fun i u a e1 e2 => ?_⟩
  have ne : a ≠ p := fun z => n (by rw [← z]; exact List.mem_of_getElem? e2)
  have q := s.at_ i u a e1 e2
  cases u with
  | lst ys =>
    obtain ⟨ws, h1, h2⟩ := q
    exact ⟨ws, by rw [upd_ne ne]; exact h1, h2.mov ht hf⟩
  | dct kvs =>
    obtain ⟨ws, h1, h2⟩ := q
    exact ⟨ws, by rw [upd_ne ne]; exact h1, h2.mov ht hf⟩
  | ins c fs =>
    obtain ⟨C, dx, ws, h1, h2, h3, h4, h5⟩ := q
    refine ⟨C, dx, ws, by rw [upd_ne ne]; exact h1, ?_, h3, h4, h5.mov ht hf⟩
    rw [upd_ne (fun z => ?_)]
    · exact h2
    · rw [z, h] at h2
      cases h2
theorem Ext.ownD {K : PySem.W.Frag} {μ0 μ : List Addr} {H0 H : Hp} {p : Addr} {xs : List (Key × V)} {o : HO} (e : Ext K μ0 H0 μ H) (h : H p = some (.dK xs)) (n : H0 p = none) : Ext K μ0 H0 μ (upd H p o) := by
  obtain ⟨ht, hf⟩ := own_tupD (K := K) (o := o) h
  refine ⟨e.pre, fun a u na q => ?_, fun a vs q => ht _ _ (e.tup a vs q), fun a ob u q => hf _ _ _ (e.frz a ob u q)⟩
  obtain ⟨h1, h2⟩ := e.keep a u na q
  exact ⟨by rw [upd_ne (ne_of_none q n)]; exact h1, h2⟩
/-- it becomes one of the store's -/
theorem SRep.adoptD {μ : List Addr} {st : Sto} {H : Hp} {p : Addr} {xs : List (DKey × D)} {vs : List (Key × V)} (s : SRep F.K F.G μ st H) (h : H p = some (.dK vs)) (n : p ∉ μ) (r : RepKV F.K F.G μ H xs vs) : SRep F.K F.G (μ ++ [p]) (st ++ [.dct xs]) H := by
  have mv : ∀ {d : D} {v : V}, Rep F.K F.G μ H d v → Rep F.K F.G (μ ++ [p]) H d v := fun {d v} q => by
    have x : Ext F.K μ (hid H p) (μ ++ [p]) H := by
      refine ⟨⟨[p], rfl⟩, fun a o na e => ?_, fun a ws q => ?_, fun a ob u e => ?_⟩
      · obtain ⟨e1, ne⟩ := hid_some e
        exact ⟨e1, fun m => (List.mem_append.mp m).elim na fun m => ne (List.mem_singleton.mp m)⟩
      · rcases q with (q | ⟨ob, q⟩) | q
        · exact .inl (.inl (hid_some q).1)
        · exact .inl (.inr ⟨ob, (hid_some q).1⟩)
        · exact .inr q
      · exact (hid_some e).1
    refine Rep.ext x (Rep.mov (fun a ws q => ?_) (fun a ob u q => ?_) q)
    · rcases q with (q | ⟨ob, q⟩) | q
      · exact .inl (.inl (hid_of q (ne_of q h (fun z => by cases z))))
      · exact .inl (.inr ⟨ob, hid_of q (ne_of q h (fun z => by cases z))⟩)
      · exact .inr q
    · exact hid_of q (ne_of q h (fun z => by cases z))
  have mvL : ∀ {ds : List D} {ws : List V}, RepL F.K F.G μ H ds ws → RepL F.K F.G (μ ++ [p]) H ds ws := by
    intro ds
    induction ds with
    | nil => intro ws q; exact q
    | cons d ds ih =>
      intro ws q
      unfold RepL at q
      obtain ⟨v, r, rfl, q1, q2⟩ := q
      exact RepL.cons (mv q1) (ih q2)
  have mvK : ∀ {ds : List (DKey × D)} {ws : List (Key × V)}, RepKV F.K F.G μ H ds ws → RepKV F.K F.G (μ ++ [p]) H ds ws := by
    intro ds
    induction ds with
    | nil => intro ws q; exact q
    | cons d ds ih =>
      intro ws q
      obtain ⟨kd, d⟩ := d
      obtain ⟨v, r, rfl, q1, q2⟩ := q
      exact ⟨v, r, rfl, mv q1, ih q2⟩
  have mvF : ∀ {ds : List (Nat × D)} {ws : List (Str × V)}, RepF F.K F.G μ H ds ws → RepF F.K F.G (μ ++ [p]) H ds ws := by
    intro ds
    induction ds with
    | nil => intro ws q; exact q
    | cons d ds ih =>
      intro ws q
      obtain ⟨kd, d⟩ := d
      obtain ⟨n, v, r, rfl, q0, q1, q2⟩ := q
      exact ⟨n, v, r, rfl, q0, mv q1, ih q2⟩
  refine ⟨by simp [s.len], ?_, fun i u a e1 e2 => ?_⟩
  · rw [List.nodup_append]
    refine ⟨s.nd, by simp, fun a ha b hb e => ?_⟩
    rw [List.mem_singleton.mp hb] at e
    exact n (e ▸ ha)
  · by_cases hi : i < st.length
    · rw [List.getElem?_append_left hi] at e1
      rw [List.getElem?_append_left (by rw [s.len]; exact hi)] at e2
      have q := s.at_ i u a e1 e2
      cases u with
      | lst ys =>
        obtain ⟨ws, h1, h2⟩ := q
        exact ⟨ws, h1, mvL h2⟩
      | dct kvs =>
        obtain ⟨ws, h1, h2⟩ := q
        exact ⟨ws, h1, mvK h2⟩
      | ins c fs =>
        obtain ⟨C, dx, ws, h1, h2, h3, h4, h5⟩ := q
        refine ⟨C, dx, ws, h1, h2, fun m => ?_, h4, mvF h5⟩
        rcases List.mem_append.mp m with m | m
        · exact h3 m
        · rw [List.mem_singleton.mp m, h] at h2
          cases h2
    · rw [List.getElem?_append_right (by omega)] at e1
      rw [List.getElem?_append_right (by rw [s.len]; omega)] at e2
      have h0 : i - st.length = 0 := by
        cases h : i - st.length with
        | zero => rfl
        | succ k => rw [h] at e1; simp at e1
      rw [h0] at e1
      rw [s.len, h0] at e2
      simp at e1 e2
      subst e1 e2
      exact ⟨vs, h, mvK r⟩

abbrev RKV (F : Fix) : List Addr → Hp → List (DKey × D) → List (Key × V) → Prop := RepKV F.K F.G
theorem key_rep {μ : List Addr} {H : Hp} {x : D} {v : V} {j : DKey} (r : Rep F.K F.G μ H x v) (e : keyD x = some j) : v = kV (kOf j) := by
  cases x <;> try (cases e; done)
  · cases e
    cases repI r
    rfl
  · cases e
    obtain ⟨rfl, _⟩ := repS r
    rfl
def trsP (F : Fix) (W : WX) : List CE → List (TE × TE)
  | k :: v :: r => (tE F W k, tE F W v) :: trsP F W r
  | _ => []
theorem pairs_t {W : WX} {σ : L2.St} {env : Env} : ∀ (es : List CE) (n : Nat) (μ : List Addr) (H : Hp) (st : Sto) (Q : List (V × V) → Hp → Prop), es.length = 2 * n → EnvRep F μ H env σ → SRep F.K F.G μ st H →
    tM F W σ μ H (RDL F) (evL F.P F.call es env st) (fun vs H1 => ∀ ps, vs = (ps.map fun p : V × V => [p.1, p.2]).flatten → Q ps H1) → tPairs (trsP F W es) σ H Q
  | [], n, μ, H, st, Q, _, he, sr, t => by
    rw [evL] at t
    exact t.ok sr RepL.nil [] rfl
  | [_], n, _, _, _, _, hl, _, _, _ => by simp at hl; omega
  | k :: v :: es, n, μ, H, st, Q, hl, he, sr, t => by
    rw [evL] at t
    refine ⟨μ, env, st, he, sr, tM.bd t fun x st1 μ1 H1 v1 e1 s1 r1 t1 => ?_⟩
    rw [evL] at t1
    have t1' : tM F W σ μ1 H1 (RDL F) (bd (evE F.P F.call v env st1) fun d st => bd (evL F.P F.call es env st) fun ds st => some (.ok (x :: d :: ds), st)) (fun vs H1 => ∀ ps, vs = (ps.map fun p : V × V => [p.1, p.2]).flatten → Q ps H1) := by
      obtain ⟨r, st', q, z⟩ := t1
      refine ⟨r, st', ?_, z⟩
      rw [← q]
      cases evE F.P F.call v env st1 with
      | none => rfl
      | some p =>
        obtain ⟨p1, p2⟩ := p
        cases p1 with
        | exc c fs => rfl
        | ok d =>
          rw [bd_ok, bd_ok]
          cases evL F.P F.call es env p2 with
          | none => rfl
          | some p =>
            obtain ⟨p1, p2⟩ := p
            cases p1 <;> rfl
    refine ⟨μ1, env, st1, he.ext e1, s1, tM.bd t1' fun y st2 μ2 H2 v2 e2 s2 r2 t2 => ?_⟩
    refine pairs_t es (n - 1) μ2 H2 st2 _ (by simp at hl; omega) ((he.ext e1).ext e2) s2 (tM.bd t2 fun r st3 μ3 H3 vs e3 s3 r3 t3 => ?_)
    intro ps hps
    exact t3.ok s3 (RepL.cons ((r1.ext e2).ext e3) (RepL.cons (r2.ext e3) r3)) ((v1, v2) :: ps) (by rw [List.map_cons, List.flatten_cons, ← hps]; rfl)
theorem pps_of {X : Cx} {W : WX} {k : Nat} {N : List Str} {s : Sc} {pos : Pos} (g : Good F nm X W k s.hot) (a : At X N s) : ∀ {es : List CE} {ks' : List (Option Expr)} {vs' : List Expr}, (∀ c ∈ es, PEx F nm c) →
    chkK nm N s es ks' vs' = true → PPs X pos ks' vs' (trsP F W es) ∧ ks'.all (·.isSome) = true ∧ es.length = 2 * ks'.length ∧ vs'.length = ks'.length
  | [], ks', vs', _, h1 => by
    cases ks' with
    | cons _ _ => simp [chkK] at h1
    | nil =>
      cases vs' with
      | cons _ _ => simp [chkK] at h1
      | nil => exact ⟨pps_nil, rfl, rfl, rfl⟩
  | [_], _, _, _, h1 => by simp [chkK] at h1
  | c :: d :: es, ks', vs', hk, h1 => by
    cases ks' with
    | nil => simp [chkK] at h1
    | cons k' ks' =>
      cases k' with
      | none => simp [chkK] at h1
      | some k' =>
        cases vs' with
        | nil => simp [chkK] at h1
        | cons v' vs' =>
          unfold chkK at h1
          rw [Bool.and_eq_true, Bool.and_eq_true] at h1
          obtain ⟨q1, q2, q3, q4⟩ := pps_of g a (fun c hc => hk c (List.mem_cons_of_mem _ (List.mem_cons_of_mem _ hc))) h1.2
          refine ⟨pps_cons ((hk c (by simp) _ _ _ _ _ _ g a).1 h1.1.1) ((hk d (by simp) _ _ _ _ _ _ g a).1 h1.1.2) q1, by simpa using q2, by simp [q3]; omega, by simp [q4]⟩
theorem putK_cons (p : Key × V) (r : List (Key × V)) (k : Key) (v : V) (hn : p.1 ≠ k) : putK (p :: r) k v = p :: putK r k v := by
  unfold putK
  have e : (List.any (p :: r) fun kv => decide (kv.1 = k)) = r.any fun kv => decide (kv.1 = k) := by
    rw [List.any_cons, decide_eq_false hn, Bool.false_or]
  rw [e, List.map_cons, if_neg hn]
  split <;> rfl
theorem put_rep {K : PySem.W.Frag} {G : Nat → V → Prop} {μ : List Addr} {H : Hp} {k : DKey} {d : D} {v : V} (rd : Rep K G μ H d v) : ∀ {kvs : List (DKey × D)} {vs : List (Key × V)}, RepKV K G μ H kvs vs → (kvs.map (·.1)).Nodup → RepKV K G μ H (putD k d kvs) (putK vs (kOf k) v) ∧ ((putD k d kvs).map (·.1)).Nodup ∧ ∀ j ∈ (putD k d kvs).map (·.1), j = k ∨ j ∈ kvs.map (·.1)
  | [], _, h, _ => by
    unfold RepKV at h
    subst h
    refine ⟨⟨v, [], rfl, rd, rfl⟩, by simp [putD], by simp [putD]⟩
  | (j, x) :: r, _, h, hn => by
    obtain ⟨w, r', rfl, h1, h2⟩ := h
    rw [List.map_cons, List.nodup_cons] at hn
    unfold putD
    by_cases c : j = k
    · subst c
      rw [if_pos rfl]
      have hno : ∀ {kvs : List (DKey × D)} {vs : List (Key × V)}, RepKV K G μ H kvs vs → j ∉ kvs.map (·.1) → vs.map (fun kv => if kv.1 = kOf j then (kv.1, v) else kv) = vs := by
        intro kvs
        induction kvs with
        | nil =>
          intro vs q _
          unfold RepKV at q
          subst q
          rfl
        | cons p kvs ih =>
          intro vs q hj
          obtain ⟨pk, pd⟩ := p
          obtain ⟨w2, r2, rfl, q1, q2⟩ := q
          rw [List.map_cons, List.mem_cons, not_or] at hj
          rw [List.map_cons, ih q2 hj.2, if_neg (fun z => hj.1 (kOf_inj z).symm)]
      have e : putK ((kOf j, w) :: r') (kOf j) v = (kOf j, v) :: r' := by
        unfold putK
        rw [if_pos (by rw [List.any_cons]; simp), List.map_cons, if_pos rfl, hno h2 hn.1]
      rw [e]
      refine ⟨⟨v, r', rfl, rd, h2⟩, by rw [List.map_cons, List.nodup_cons]; exact hn, fun i hi => ?_⟩
      rw [List.map_cons] at hi ⊢
      exact .inr hi
    · rw [if_neg c, putK_cons _ _ _ _ (fun z => c (kOf_inj z))]
      obtain ⟨i1, i2, i3⟩ := put_rep rd h2 hn.2
      refine ⟨⟨w, _, rfl, h1, i1⟩, ?_, fun i hi => ?_⟩
      · rw [List.map_cons, List.nodup_cons]
        refine ⟨fun z => ?_, i2⟩
        rcases i3 _ z with z | z
        · exact c z
        · exact hn.1 z
      · rw [List.map_cons, List.mem_cons] at hi
        rw [List.map_cons, List.mem_cons]
        rcases hi with hi | hi
        · exact .inr (.inl hi)
        · rcases i3 i hi with z | z
          · exact .inl z
          · exact .inr (.inr z)
theorem merge_rep {K : PySem.W.Frag} {G : Nat → V → Prop} {μ : List Addr} {H : Hp} : ∀ {more : List (DKey × D)} {ms : List (Key × V)} {kvs : List (DKey × D)} {vs : List (Key × V)}, RepKV K G μ H more ms → RepKV K G μ H kvs vs → (kvs.map (·.1)).Nodup → RepKV K G μ H (mergeD kvs more) (mergeK vs ms)
  | [], _, _, _, h, q, _ => by
    unfold RepKV at h
    subst h
    exact q
  | (j, x) :: r, _, kvs, vs, h, q, hn => by
    obtain ⟨w, r', rfl, h1, h2⟩ := h
    obtain ⟨p1, p2, _⟩ := put_rep h1 q hn (k := j)
    have := merge_rep (more := r) (ms := r') h2 p1 p2
    exact this
theorem RepKV.movD {K : PySem.W.Frag} {G : Nat → V → Prop} {μ : List Addr} {H : Hp} {p : Addr} {xs : List (Key × V)} {o : HO} (h : H p = some (.dK xs)) {kvs : List (DKey × D)} {vs : List (Key × V)} (r : RepKV K G μ H kvs vs) : RepKV K G μ (upd H p o) kvs vs := by
  obtain ⟨h1, h2⟩ := own_tupD (K := K) (o := o) h
  exact RepKV.mov h1 h2 r
theorem RepKV.len {K : PySem.W.Frag} {G : Nat → V → Prop} {μ : List Addr} {H : Hp} : ∀ {kvs : List (DKey × D)} {vs : List (Key × V)}, RepKV K G μ H kvs vs → vs.length = kvs.length
  | [], _, h => by unfold RepKV at h; subst h; rfl
  | (j, x) :: r, _, h => by
    obtain ⟨w, r', rfl, h1, h2⟩ := h
    rw [List.length_cons, List.length_cons, RepKV.len h2]
theorem pairs_rep {μ : List Addr} {H : Hp} : ∀ (ds : List D) {vs : List V} {kvs : List (DKey × D)}, RepL F.K F.G μ H ds vs → pairsD ds = some kvs → ∃ ws, RepKV F.K F.G μ H kvs ws ∧ vs = ((ws.map fun kv => (kV kv.1, kv.2)).map fun p : V × V => [p.1, p.2]).flatten ∧ 2 * kvs.length = ds.length
  | [], _, _, r, e => by
    cases e
    unfold RepL at r
    subst r
    exact ⟨[], rfl, rfl, rfl⟩
  | [_], _, _, _, e => by cases e
  | x :: y :: ds, _, kvs, r, e => by
    unfold RepL at r
    obtain ⟨v, t, rfl, h1, h2⟩ := r
    unfold RepL at h2
    obtain ⟨w, t, rfl, h3, h4⟩ := h2
    unfold pairsD at e
    cases hk : keyD x with
    | none => rw [hk] at e; cases e
    | some j =>
      cases hp : pairsD ds with
      | none => rw [hk, hp] at e; cases e
      | some l =>
        rw [hk, hp] at e
        cases e
        obtain ⟨ws, q1, q2, q3⟩ := pairs_rep ds h4 hp
        refine ⟨(kOf j, w) :: ws, ⟨w, ws, rfl, h3, q1⟩, ?_, by simp; omega⟩
        rw [q2, key_rep h1 hk]
        rfl
theorem disp_t {W : WX} {es : List CE} {n : Nat} (hl : es.length = 2 * n) (h15 : es.length ≤ 30) (σ : L2.St) (H : Hp) (Q : VK) (h : tE F W (.dct es) σ H Q) : tDisp (trsP F W es) σ H Q := by
  obtain ⟨μ, env, st, he, sr, t⟩ := h
  rw [evE] at t
  intro p hp
  have e0 : Ext F.K μ H μ (upd H p (.dK [])) := .new hp
  refine pairs_t es n μ _ st _ hl (he.ext e0) (sr.new hp) ?_
  cases hv : evL F.P F.call es env st with
  | none => rw [hv] at t; exact t.no.elim
  | some r =>
    obtain ⟨r, st1⟩ := r
    rw [hv] at t
    cases r with
    | exc c fs =>
      have t' := t.ext e0
      obtain ⟨r, st', q, z⟩ := t'
      cases q
      exact ⟨.exc c fs, st1, rfl, z⟩
    | ok ds =>
      rw [bd_ok] at t
      cases hpd : pairsD ds with
      | none => rw [hpd] at t; exact t.no.elim
      | some kvs =>
        rw [hpd] at t
        dsimp only at t
        refine ⟨.ok ds, st1, rfl, fun μ1 H1 vs e1 s1 r1 => ?_⟩
        obtain ⟨ws, w1, w2, w3⟩ := pairs_rep ds r1 hpd
        have hlen : kvs.length ≤ 15 := by
          have := evL_len hv
          omega
        intro ps hps
        obtain ⟨hD, nm⟩ := e1.keep p _ (sr.notin hp) upd_same
        have inj : ∀ (a b : List (V × V)), (a.map fun p : V × V => [p.1, p.2]).flatten = (b.map fun p : V × V => [p.1, p.2]).flatten → a = b := by
          intro a
          induction a with
          | nil =>
            intro b h
            cases b with
            | nil => rfl
            | cons q b => simp at h
          | cons q a ih =>
            intro b h
            cases b with
            | nil => simp at h
            | cons q' b =>
              simp only [List.map_cons, List.flatten_cons, List.cons_append, List.nil_append, List.cons.injEq] at h
              rw [ih b h.2.2, Prod.ext h.1 h.2.1]
        refine ⟨hD, ws, inj _ _ (by rw [← hps, w2]), by rw [w1.len]; exact hlen, ?_⟩
        have r2 : RepKV F.K F.G μ1 (upd H1 p (.dK (mergeK [] ws))) (mergeD [] kvs) (mergeK [] ws) := merge_rep (w1.movD hD) rfl List.nodup_nil
        refine t.at_ (μ1 ++ [p]) _ (.ref p) (((e0.trans e1).ownD hD hp).adopt hp) ((s1.ownD hD nm).adoptD upd_same nm r2) ?_
        unfold RD Rep
        refine ⟨p, rfl, ?_⟩
        rw [← s1.len, List.getElem?_append_right (Nat.le_refl _), Nat.sub_self]
        rfl
theorem s_dct {es : List CE} (h1 : ∀ c ∈ es, PEx F nm c) : PEx F nm (.dct es) := by
  intro X W k N s e g a
  have pe : ∀ t, chkE nm N s t (.dct es) e = true → PE X e (tE F W (.dct es)) := fun t h => by
    obtain ⟨ks', vs', p, rfl, b1, b4⟩ := i_dct h
    obtain ⟨q1, q2, q3, q4⟩ := pps_of (W := W) (pos := p) g a h1 b1
    by_cases h0 : ks' = []
    · subst h0
      have he : es = [] := List.eq_nil_of_length_eq_zero (by simpa using q3)
      have hv : vs' = [] := List.eq_nil_of_length_eq_zero (by simpa using q4)
      subst he hv
      refine PE.imp pe_dnewK fun σ H Q ⟨μ, env, st, he, sr, t⟩ => ?_
      intro q hq
      rw [evE, evL, bd_ok] at t
      have e0 : Ext F.K μ H μ (upd H q (.dK [])) := .new hq
      have t' : tM F W σ μ H (RD F) (newD [] st) Q := t
      refine t'.at_ (μ ++ [q]) _ (.ref q) (e0.adopt hq) ((sr.new hq).adoptD (xs := []) upd_same (sr.notin hq) rfl) ?_
      unfold RD Rep
      refine ⟨q, rfl, ?_⟩
      rw [← sr.len, List.getElem?_append_right (Nat.le_refl _), Nat.sub_self]
      rfl
    · exact PE.imp (pe_disp q1 q2 q4.symm h0 (by omega)) (disp_t q3 b4)
  refine ⟨pe false, fun h => pt_of g (pe true h) ?_⟩
  obtain ⟨_, _, _, rfl, _⟩ := i_dct h
  exact fun _ => rfl
/-! ### the place of a text in a tuple of the module -/
theorem idx_at {z : S} : ∀ {ss : List S} {j : Nat}, idxS z ss = some j → (ss.map fun l => (⟨l.toArray⟩ : Str))[j]? = some ⟨z.toArray⟩ ∧ ∀ m, m < j → (ss.map fun l => (⟨l.toArray⟩ : Str))[m]? ≠ some ⟨z.toArray⟩
  | [], _, e => by cases e
  | t :: r, j, e => by
    unfold idxS at e
    split at e
    · rename_i c
      cases e
      subst c
      exact ⟨rfl, fun m hm => by omega⟩
    · rename_i c
      cases h : idxS z r with
      | none => rw [h] at e; cases e
      | some i =>
        rw [h] at e
        cases e
        obtain ⟨q1, q2⟩ := idx_at h
        refine ⟨by rw [List.map_cons, List.getElem?_cons_succ]; exact q1, fun m hm => ?_⟩
        cases m with
        | zero =>
          rw [List.map_cons, List.getElem?_cons_zero]
          intro h
          simp only [Option.some.injEq] at h
          have h' := congrArg (fun q : Str => q.cps.toList) h
          simp at h'
          exact c h'
        | succ m =>
          rw [List.map_cons, List.getElem?_cons_succ]
          exact q2 m (by dsimp only at hm; omega)
theorem s_tix (i : Nat) {x : CE} (hx : PEx F nm x) : PEx F nm (.tix i x) := by
  intro X W k N s e g a
  have pe : ∀ t, chkE nm N s t (.tix i x) e = true → PE X e (tE F W (.tix i x)) := fun t h => by
    obtain ⟨e', p, ap, cp, rfl, h1, h2, h3, h4⟩ := i_tix h
    cases hg : F.P.gl i with
    | none =>
      refine ⟨fun pins s σ H Q I ⟨μ, env, st, he, sr, t⟩ => ?_⟩
      rw [evE, hg] at t
      exact t.no.elim
    | some d =>
      by_cases hd : ∃ xs, d = .tup xs
      · obtain ⟨xs, rfl⟩ := hd
        obtain ⟨v, u, q1, q2, q3⟩ := g.gl i _ hg
        obtain ⟨P0, o, z1, z2, z3, z4⟩ := g.gt i xs hg
        rw [z1] at q1
        cases q1
        have h6 : starEach [e'] X.env = (false, eval e' X.env) :: starEach [] X.env := star_of h3
        refine PE.imp (pe_bm PySem.F.plainAttrs_tuple PySem.F.slot_tuple_index PySem.F.type_tuple_index mt_tup_index (pe_glob (gl_of a h1) z1 q2 h2) (pa_cons ((hx X W k N s _ g a).1 h3) pa_nil h6) rfl ?_ h4 h6 rfl) fun σ H Q ⟨μ, env, st, he, sr, t⟩ => ?_
        · rw [h6]
          rfl
        · rw [evE, hg] at t
          dsimp only at t
          cases hs : strsD xs with
          | none => rw [hs] at t; exact t.no.elim
          | some ss =>
            rw [hs] at t
            dsimp only at t
            have r := q3 μ H
            obtain ⟨p', vs, rfl, w1, w2⟩ := repT r
            cases q2
            refine ⟨.inr (.inl ⟨rfl, o, z2, z3, z4⟩), μ, env, st, he, sr, tM.bd t fun y st1 μ1 H1 w e1 s1 r1 t1 => ?_⟩
            cases y <;> try (exact t1.no.elim)
            rename_i sz
            obtain ⟨rfl, _⟩ := repS r1
            dsimp only at t1
            cases hi : idxS sz ss with
            | none => rw [hi] at t1; exact t1.no.elim
            | some j =>
              rw [hi] at t1
              obtain ⟨b1, b2⟩ := idx_at hi
              have ev := (strs_rep w2 hs).1
              refine ⟨P0, ss.map fun l => (⟨l.toArray⟩ : Str), _, j, rfl, rfl, ?_, b1, b2, t1.ok s1 mkI⟩
              have w3 := e1.tup _ _ w1
              rw [g.K]
              rw [ev] at w3
              exact w3
      · refine ⟨fun pins s σ H Q I ⟨μ, env, st, he, sr, t⟩ => ?_⟩
        rw [evE, hg] at t
        cases d <;> first
          | exact (hd ⟨_, rfl⟩).elim
          | exact t.no.elim
  refine ⟨pe false, fun h => pt_of g (pe true h) ?_⟩
  obtain ⟨_, _, _, _, rfl, _⟩ := i_tix h
  exact fun _ => rfl
end
end Mini

set_option Elab.async false
set_option linter.all false
set_option maxRecDepth 100000
set_option maxHeartbeats 4000000
namespace Mini
open PySem L2
section
variable {F : Fix} {nm : Nat → Str}
abbrev W0 : WX := fun _ _ _ _ => False
def tTs (F : Fix) (cs : List CE) : TT := fun σ H Q => ∃ μ env st, EnvRep F μ H env σ ∧ SRep F.K F.G μ st H ∧ tM F W0 σ μ H RB (evTs F.P F.call cs env st) Q
theorem pts_of {X : Cx} {k : Nat} {N : List Str} {s : Sc} {cs : List CE} {es : List Expr} (g : Good F nm X W0 k s.hot) (a : At X N s) (hes : ∀ c ∈ cs, PEx F nm c) (hl : cs.length ≤ 1) (h : chkL nm N s true cs es = true) : PTs X es (tTs F cs) := by
  match cs, es, h, hes, hl with
  | [], [], _, _, _ =>
    refine ⟨fun pins s σ H Q I ⟨μ, env, st, he, sr, t⟩ => pts_nil.run pins s σ H Q I ?_⟩
    rw [evTs] at t
    exact t.ok sr rfl
  | [], _ :: _, h, _, _ => simp [chkL] at h
  | [c], [], h, _, _ => simp [chkL] at h
  | [c], _ :: _ :: _, h, _, _ => simp [chkL] at h
  | [c], [e], h, hes, _ =>
    simp [chkL] at h
    have q := pts_one ((hes c (by simp) X W0 k N s e g a).2 h)
    refine ⟨fun pins s σ H Q I ⟨μ, env, st, he, sr, t⟩ => q.run pins s σ H Q I ⟨μ, env, st, he, sr, ?_⟩⟩
    rw [evTs] at t
    exact t
/-- a walk of some kind -/
theorem pi_of {X : Cx} {W : WX} {k : Nat} {N : List Str} {s : Sc} {kd : Sk} {cs : List CE} {iter tg : Expr} (g : Good F nm X W k s.hot) (a : At X N s) (hes : ∀ c ∈ cs, PEx F nm c) (h1 : iterB s.sc kd iter tg = true) (h2 : chkL nm N s false cs (iterArgs kd iter) = true) :
    PI X tg iter (wI F W kd cs) ∧ ∀ x, foldedSetIterable iter X.env x = pure x := by
  cases kd with
  | seq =>
    match cs, h2, hes with
    | [], h2, _ => simp [iterArgs, chkL] at h2
    | _ :: _ :: _, h2, _ => simp [iterArgs, chkL] at h2
    | [c], h2, hes =>
      simp [iterArgs, chkL] at h2
      exact ⟨pi_sq g.K ((hes c (by simp) X W k N s _ g a).1 h2), folded_of h2⟩
  | range =>
    cases iter <;> try (simp [iterB] at h1; done)
    rename_i f args kws p
    cases f <;> try (simp [iterB] at h1; done)
    rename_i x px
    cases kws <;> simp [iterB] at h1
    obtain ⟨⟨rfl, h3⟩, h4⟩ := h1
    have hl := chkL_len h2
    have hm : X.mg "range" = none := g.bl _ (by decide +kernel)
    refine ⟨pi_rng (gl_of a h3) hm (soundA hes g a h2) hl h4 fun e es => ?_, fun _ => rfl⟩
    by_cases he : e ∈ args
    · refine .inl ?_
      obtain ⟨c, hc⟩ : ∃ c, chkE nm N s false c e = true := by
        clear hl h4
        revert cs
        induction args with
        | nil => simp at he
        | cons e0 r ih =>
          intro cs hes h2
          cases cs with
          | nil => simp [iterArgs, chkL] at h2
          | cons c cs =>
            simp [iterArgs, chkL] at h2
            rcases List.mem_cons.mp he with z | z
            · subst z; exact ⟨c, h2.1⟩
            · exact ih z (fun d hd => hes d (List.mem_cons_of_mem _ hd)) h2.2
      exact star_of hc
    · exact .inr he
  | enum =>
    cases iter <;> try (simp [iterB] at h1; done)
    rename_i f args kws p
    cases f <;> try (simp [iterB] at h1; done)
    rename_i x px
    cases kws <;> simp [iterB] at h1
    obtain ⟨⟨⟨rfl, h3⟩, h4⟩, h5⟩ := h1
    cases tg <;> simp [isTupE] at h5
    have hm : X.mg "enumerate" = none := g.bl _ (by decide +kernel)
    match args, cs, h4, h2, hes with
    | [e], [], _, h2, _ => simp [iterArgs, chkL] at h2
    | [e], _ :: _ :: _, _, h2, _ => simp [iterArgs, chkL] at h2
    | [e], [c], _, h2, hes =>
      have h2' := h2
      simp [iterArgs, chkL] at h2'
      exact ⟨pi_enu (gl_of a h3) hm g.K (soundA hes g a h2) (star_of h2'), fun _ => rfl⟩
  | zip =>
    cases iter <;> try (simp [iterB] at h1; done)
    rename_i f args kws p
    cases f <;> try (simp [iterB] at h1; done)
    rename_i x px
    cases kws <;> simp [iterB] at h1
    obtain ⟨⟨⟨rfl, h3⟩, h4⟩, h5⟩ := h1
    cases tg <;> simp [isTupE] at h5
    have hm : X.mg "zip" = none := g.bl _ (by decide +kernel)
    match args, cs, h4, h2, hes with
    | [e, e'], [], _, h2, _ => simp [iterArgs, chkL] at h2
    | [e, e'], [_], _, h2, _ => simp [iterArgs, chkL] at h2
    | [e, e'], _ :: _ :: _ :: _, _, h2, _ => simp [iterArgs, chkL] at h2
    | [e, e'], [c, c'], _, h2, hes =>
      have h2' := h2
      simp [iterArgs, chkL] at h2'
      refine ⟨pi_zi (gl_of a h3) hm g.K (soundA hes g a h2) (star_of h2'.1) ?_, fun _ => rfl⟩
      rw [backTo_any, star_of h2'.2]
      rfl
  | rrange =>
    match iter, h1, h2 with
    | .Call (.Name x _) [.Call (.Name y _) [e] [] _] [] _, h1, h2 =>
      simp [iterB] at h1
      obtain ⟨⟨⟨rfl, h3⟩, rfl⟩, h4⟩ := h1
      match cs, h2, hes with
      | [], h2, _ => simp [iterArgs, chkL] at h2
      | _ :: _ :: _, h2, _ => simp [iterArgs, chkL] at h2
      | [c], h2, hes =>
        simp [iterArgs, chkL] at h2
        exact ⟨pi_rrng (gl_of a h3) (g.bl _ (by decide +kernel)) (gl_of a h4) (g.bl _ (by decide +kernel)) ((hes c (by simp) X W k N s _ g a).1 h2) (star_of h2), fun _ => rfl⟩
theorem comp_t {W : WX} {own : List Nat} {kd : Sk} {srcs tst : List CE} {tg : Tg} {elt : CE} (hsl : ∀ i ∈ slotsT tg, i ∈ own) (σ : L2.St) (H : Hp) (Q : VK) (h : tE F W (.comp own kd srcs tg tst elt) σ H Q) : tLc (wI F W kd srcs) (gT F tg) (tTs F tst) (tE F W0 elt) own σ H Q := by
  obtain ⟨μ, env, st, he, sr, t⟩ := h
  rw [evE] at t
  refine ⟨μ, env, st, he, sr, tM.bd t fun ds st1 μ1 H1 vs e1 s1 r1 t1 => ?_⟩
  cases hl : lcG (walked kd ds) (fun x => asgT tg x (wipeE env own)) (fun env st => evTs F.P F.call tst env st) (fun env st => evE F.P F.call elt env st) FU 0 [] st1 with
  | none => rw [hl] at t1; exact t1.no.elim
  | some p =>
    obtain ⟨ys, st'⟩ := p
    rw [hl] at t1
    have hw0 : ∃ its, walked kd ds st1 = some its := by
      unfold FU at hl
      rw [lcG] at hl
      cases hw : walked kd ds st1 with
      | none => rw [hw] at hl; cases hl
      | some its => exact ⟨its, rfl⟩
    obtain ⟨its, hw⟩ := hw0
    refine ⟨μ1, st1, ds, its, s1, r1, hw, fun J hJ D nD => ?_⟩
    refine ⟨fun i m Hh => ∃ μ2 st2 acc accV, Ext F.K μ1 H1 μ2 Hh ∧ SRep F.K F.G μ2 st2 Hh ∧ D ∉ μ2 ∧ Hh D = some (.lst accV) ∧ RepL F.K F.G μ2 Hh acc accV ∧ lcG (walked kd ds) (fun x => asgT tg x (wipeE env own)) (fun env st => evTs F.P F.call tst env st) (fun env st => evE F.P F.call elt env st) m i acc st2 = some (ys, st'),
      ⟨FU, μ1, st1, [], [], .new nD, s1.new nD, s1.notin nD, upd_same, RepL.nil, hl⟩, fun i m Hh hW => ?_⟩
    obtain ⟨μ2, st2, acc, accV, x2, s2, nm2, hD, rA, hl2⟩ := hW
    cases m with
    | zero => cases hl2
    | succ m =>
      rw [lcG] at hl2
      cases hw2 : walked kd ds st2 with
      | none => rw [hw2] at hl2; cases hl2
      | some its2 =>
        rw [hw2] at hl2
        dsimp only at hl2
        obtain ⟨j1, j2⟩ := hJ μ2 st2 Hh its2 i s2 (r1.ext x2) hw2
        cases hi : its2[i]? with
        | none =>
          rw [hi] at hl2
          cases hl2
          refine .inl ⟨j1 hi, ?_⟩
          refine t1.at_ (μ2 ++ [D]) Hh (.ref D) (x2.adopt nD) (s2.adopt hD nm2 rA) ?_
          unfold RD Rep
          refine ⟨D, rfl, ?_⟩
          rw [← s2.len, List.getElem?_append_right (Nat.le_refl _), Nat.sub_self]
          rfl
        | some d =>
          rw [hi] at hl2
          dsimp only at hl2
          obtain ⟨jg, jy⟩ := j2 d hi
          cases ha : asgT tg d (wipeE env own) with
          | none => rw [ha] at hl2; cases hl2
          | some env' =>
            rw [ha] at hl2
            dsimp only at hl2
            refine .inr ⟨jg, fun Hn => ∃ μ2 st2 acc accV, Ext F.K μ1 H1 μ2 Hn ∧ SRep F.K F.G μ2 st2 Hn ∧ D ∉ μ2 ∧ Hn D = some (.lst accV) ∧ RepL F.K F.G μ2 Hn acc accV ∧ lcG (walked kd ds) (fun x => asgT tg x (wipeE env own)) (fun env st => evTs F.P F.call tst env st) (fun env st => evE F.P F.call elt env st) m (i + 1) acc st2 = some (ys, st'), fun Hn hn => ⟨m, Nat.lt_succ_self m, hn⟩, fun xv H' hy => ?_⟩
            obtain ⟨s3, x3, rx⟩ := jy xv H' hy
            have heW : EnvRep F μ2 H' (wipeE env own) (wipe σ own) := wipe_rep (((he.ext e1).ext x2).ext x3)
            refine ⟨μ2, wipeE env own, d, env', heW, rx, ha, fun σ2 he2 u2 => ⟨wipe_upto u2 hsl, ?_⟩⟩
            obtain ⟨hD3, nm3⟩ := x3.keep D _ nm2 hD
            cases ht : evTs F.P F.call tst env' st2 with
            | none => rw [ht] at hl2; cases hl2
            | some p =>
              obtain ⟨rb, st3⟩ := p
              rw [ht] at hl2
              cases rb with
              | exc c fs => cases hl2
              | ok b =>
                refine ⟨μ2, env', st2, he2, s3, .ok b, st3, ht, fun μ4 H4 b' x4 s4 rb => ?_⟩
                subst rb
                obtain ⟨hD4, nm4⟩ := x4.keep D _ nm3 hD3
                cases b with
                | false =>
                  rw [if_neg (by decide)]
                  exact ⟨μ4, st3, acc, accV, (x2.trans x3).trans x4, s4, nm4, hD4, (rA.ext x3).ext x4, hl2⟩
                | true =>
                  rw [if_pos rfl]
                  dsimp only at hl2
                  cases hv : evE F.P F.call elt env' st3 with
                  | none => rw [hv] at hl2; cases hl2
                  | some p =>
                    obtain ⟨ry, st4⟩ := p
                    rw [hv] at hl2
                    cases ry with
                    | exc c fs => cases hl2
                    | ok y =>
                      dsimp only at hl2
                      split at hl2
                      · rename_i hlen
                        refine ⟨μ4, env', st3, he2.ext x4, s4, .ok y, st4, hv, fun μ5 H5 yv x5 s5 r5 => ?_⟩
                        obtain ⟨hD5, nm5⟩ := x5.keep D _ nm4 hD4
                        have rA5 := ((rA.ext x3).ext x4).ext x5
                        refine ⟨accV, hD5, by rw [rA.length, LN_eq]; exact hlen, μ5, st4, acc ++ [y], accV ++ [yv], (((x2.trans x3).trans x4).trans x5).own hD5 nD, s5.own hD5 nm5, nm5, upd_same, ?_, hl2⟩
                        obtain ⟨q1, q2⟩ := own_tup (K := F.K) (o := .lst (accV ++ [yv])) hD5
                        exact (rA5.append (RepL.cons r5 RepL.nil)).mov q1 q2
                      · cases hl2
theorem own_map (N : List Str) : ∀ own : List Nat, (own.map fun i => (N.getD i "", i)).map (·.2) = own
  | [] => rfl
  | i :: r => by
    rw [List.map_cons, List.map_cons, own_map N r]
theorem s_comp (own : List Nat) (kd : Sk) {srcs : List CE} (tg : Tg) {tst : List CE} {elt : CE} (h1 : ∀ c ∈ srcs, PEx F nm c) (h2 : ∀ c ∈ tst, PEx F nm c) (h3 : PEx F nm elt) : PEx F nm (.comp own kd srcs tg tst elt) := by
  intro X W k N s e g a
  have pe : ∀ t, chkE nm N s t (.comp own kd srcs tg tst elt) e = true → PE X e (tE F W (.comp own kd srcs tg tst elt)) := fun t h => by
    obtain ⟨elt', tg', iter', ifs', scope, p, rfl, b1, b2, b3, b4, b5, b6, b7, b8, b9⟩ := i_comp h
    obtain ⟨pi, fs⟩ := pi_of (W := W) g a h1 b2 b3
    have ok : BlkOk X.N X.env.scope scope (own.map fun i => (N.getD i "", i)) := by
      rw [a.N, a.sc]
      exact blkOk_by b1
    have q := pe_lc (pos := p) (g.calm b9) g.nd pi ok (fun s' H C cl fp => pg_of (s := blkOf s scope) (g.blk b9 s' H scope _ fp) (a.blk s' H scope cl C fp) tg tg' b4)
      (fun s' H C cl fp => pts_of (s := blkOf s scope) (g.blk b9 s' H scope _ fp) (a.blk s' H scope cl C fp) h2 b6 b7)
      (fun s' H C cl fp => (h3 _ _ k N (blkOf s scope) _ (g.blk b9 s' H scope _ fp) (a.blk s' H scope cl C fp)).1 b8) fs
    rw [own_map] at q
    exact PE.imp q (comp_t b5)
  refine ⟨pe false, fun h => pt_of g (pe true h) ?_⟩
  obtain ⟨_, _, _, _, _, _, rfl, _⟩ := i_comp h
  exact fun _ => rfl
/-- every expression -/
theorem sound (c : CE) : PEx F nm c := by
  have big : ∀ n, ∀ c : CE, sizeOf c < n → PEx F nm c := by
    intro n
    induction n with
    | zero => intro c h; omega
    | succ n ih =>
      intro c h
      have mem : ∀ (es : List CE), sizeOf es < n → ∀ d ∈ es, PEx F nm d := fun es hs d hd => ih d (by have := List.sizeOf_lt_of_mem hd; omega)
      cases c with
      | var i => exact s_var i
      | int i => exact s_int i
      | bl b => exact s_bl b
      | non => exact s_non
      | str z => exact s_str z
      | glo g => exact s_glo g
      | bin op a b => simp at h; exact s_bin op (ih a (by omega)) (ih b (by omega))
      | cmp op a b => simp at h; exact s_cmp op (ih a (by omega)) (ih b (by omega))
      | cmp2 op op' a b c => simp at h; exact s_cmp2 op op' (ih a (by omega)) (ih b (by omega)) (ih c (by omega))
      | not a => simp at h; exact s_not (ih a (by omega))
      | neg a => simp at h; exact s_neg (ih a (by omega))
      | and a es => simp at h; exact s_and (ih a (by omega)) (mem es (by omega))
      | or a es => simp at h; exact s_or (ih a (by omega)) (mem es (by omega))
      | ite c a b => simp at h; exact s_ite (ih c (by omega)) (ih a (by omega)) (ih b (by omega))
      | tup es => simp at h; exact s_tup (mem es (by omega))
      | lst es => simp at h; exact s_lst (mem es (by omega))
      | sub a b => simp at h; exact s_sub (ih a (by omega)) (ih b (by omega))
      | slc a lo hi => simp at h; exact s_slc (ih a (by omega)) (mem lo (by omega)) (mem hi (by omega))
      | slc3 a lo hi k => simp at h; exact s_slc3 (ih a (by omega)) (mem lo (by omega)) (mem hi (by omega)) (ih k (by omega))
      | call g es => simp at h; exact s_call g (mem es (by omega))
      | blt b es => simp at h; exact s_blt b (mem es (by omega))
      | isi e ts => simp at h; exact s_isi ts (ih e (by omega))
      | mth m o es => simp at h; exact s_mth m (ih o (by omega)) (mem es (by omega))
      | comp own k srcs tg tst elt => simp at h; exact s_comp own k tg (mem srcs (by omega)) (mem tst (by omega)) (ih elt (by omega))
      | fld o f => simp at h; exact s_fld f (ih o (by omega))
      | mcl o m es => simp at h; exact s_mcl m (ih o (by omega)) (mem es (by omega))
      | cav i es => simp at h; exact s_cav i (mem es (by omega))
      | xis i c => exact s_xis i c
      | xfl i f => exact s_xfl i f
      | dct es => simp at h; exact s_dct (mem es (by omega))
      | tix i e => simp at h; exact s_tix i (ih e (by omega))
  exact big _ c (Nat.lt_succ_self _)
end
end Mini

set_option Elab.async false
set_option linter.all false
set_option maxRecDepth 100000
set_option maxHeartbeats 4000000
namespace Mini
open PySem PySem.Spec PyProof.Rows L2
/-! ### try with clauses of all forms -/
/-- the ends of a suite whose name is let go -/
def endsI (D : Ends) (i : Nat) : Ends := { nx := fun σ H => D.nx (σ.set i none) H, rt := D.rt, bk := fun σ H => D.bk (σ.set i none) H, ct := fun σ H => D.ct (σ.set i none) H }
abbrev Clause := Value × Option Nat × (Addr → Value → Option Addr → TS)
/-- what the clauses wish of an error -/
def wHs (K : PySem.W.Frag) (Wout : WX) (D : Ends) : List Clause → WX
  | [] => Wout
  | (c, sl, ts) :: r => fun cls d σ H => ∃ b, PySem.W.exmOne K cls c = some b ∧ (b = true → ∀ a, H a = none → match sl with
      | none => ts a cls d D σ H
      | some i => ts a cls d (endsI D i) (σ.set i (some (.ref a))) H) ∧ (b = false → wHs K Wout D r cls d σ H)
inductive Clauses (X : Cx) : List ExceptHandler → List Clause → Prop
  | nil : Clauses X [] []
  | bare {x : Str} {c : Value} {ts : Addr → Value → Option Addr → TS} {b0 : Stmt} {bs : List Stmt} {np hp : Pos} {hds : List ExceptHandler} {l : List Clause} : Names X x c →
      (∀ (a : Addr) (oe : Obj) (cls : Value) (d : Option Addr) (pn : List (Addr × Obj)), Zc cls d oe → (∃ vs, oe.data = .fields vs) → PSs (X.suite a ((a, oe) :: pn)) (b0 :: bs) (ts a cls d)) → Clauses X hds l →
      Clauses X (.ExceptHandler (some (.Name x np)) none (b0 :: bs) hp :: hds) ((c, none, ts) :: l)
  | named {x n : Str} {i : Nat} {c : Value} {ts : Addr → Value → Option Addr → TS} {b0 : Stmt} {bs : List Stmt} {np hp : Pos} {hds : List ExceptHandler} {l : List Clause} : Names X x c → X.N[i]? = some n → X.env.kindOf n = some .local →
      (∀ (a : Addr) (oe : Obj) (cls : Value) (d : Option Addr) (pn : List (Addr × Obj)), Zc cls d oe → (∃ vs, oe.data = .fields vs) → PSs (X.suite a ((a, oe) :: pn)) (b0 :: bs) (ts a cls d)) → Clauses X hds l →
      Clauses X (.ExceptHandler (some (.Name x np)) (some n) (b0 :: bs) hp :: hds) ((c, some i, ts) :: l)
section
variable {X : Cx}
/-- what is known where the clauses are asked -/
structure Fell (X : Cx) (pins : List (Addr × Obj)) (a : Addr) (B : Heap) (sI s' : Shared) (σ : L2.St) (H : Hp) (cls : Value) (d : Option Addr) (h3 : Heap) : Prop where
  J : L2.Inv X pins σ H sI
  nb : ∀ b o, sI.heap.get? b = some o → b ∉ frs X.stack → B.get? b = some o
  up : sI.heap.UpToSlots h3
  os : s'.os = sI.os
  ag : AllBare s'.gens
  na : H a = none
  nL : a ≠ X.env.locals
  nF : a ∉ X.fs
  fl : HandSPX.FlyingZ B (X.env :: X.outer) a (Zc cls d) h3
theorem Fell.look {pins : List (Addr × Obj)} {a : Addr} {B : Heap} {sI s' : Shared} {σ : L2.St} {H : Hp} {cls : Value} {d : Option Addr} {h3 : Heap} (f : Fell X pins a B sI s' σ H cls d h3) : L2.Inv X pins σ H { s' with heap := h3 } :=
  f.J.landed f.nb f.fl.1 f.up f.os f.ag
theorem clauses_go {pins : List (Addr × Obj)} {a : Addr} {B : Heap} {sI s' : Shared} {σ : L2.St} {H : Hp} {cls : Value} {d : Option Addr} {h3 : Heap} {Wout : WX} {D : Ends} (hs : X.stack = X.env :: X.outer) (hf : X.env.frame = some X.env.locals) (hN : X.N.Nodup) (tk : Takes X Wout) (ok : X.Ok)
    (fe : Fell X pins a B sI s' σ H cls d h3) : ∀ {hds : List ExceptHandler} {l : List Clause}, Clauses X hds l → wHs X.K Wout D l cls d σ H → wpAny (model X.prog X.w) X.A (handleBy (.ref a) X.env hds) (SP X pins D) X.xe { s' with heap := h3 } := by
  intro hds l cl
  have K3 := fe.look
  obtain ⟨o3, v3, get3, z3, f3⟩ := fe.fl.there
  have T3 := K3.suite get3 f3 fe.na fe.nL fe.nF
  have type3 : PySem.W.Looks (model X.prog X.w) h3 (typeOf (.ref a)) cls := fun _ _ _ _ k q => wpAny_typeOf_ref (k _ _ get3) (by rw [z3.1]; exact q)
  induction cl with
  | nil =>
    intro w
    refine wpAny_handleBy_nil ?_
    obtain ⟨_, _, _, oe, vs, T, oT, ts', he, hz, hd, h1, _⟩ := id fe.fl
    have out : wpAny (model X.prog X.w) X.A (setFlight (.ref a) X.env.frame) (fun _ s4 => wpAny (model X.prog X.w) X.A (throw (.ref a) : Sem Flow) (SP X pins D) X.xe s4) X.xe { s' with heap := h3 } := by
      rw [hf]
      refine HandSPX.setFlight_upZ fe.fl (fun h4 hh4 up4 => wpAny_throw (tk _ _ ⟨a, B, sI, pins, σ, H, cls, d, rfl, fe.J, fe.nb, fe.up.trans up4, .inr (.inr ?_), fe.na, fe.os, fe.ag, w⟩))
      rw [hs]
      exact hh4
    unfold PySem.passOn
    refine wpAny_bind (wpAny_field he hd h1 ?_)
    rw [if_neg (by simp : ¬ ((Value.ref T == Value.none) = true))]
    first
      | exact wpAny_bind out
      | exact wpAny_bind (wpAny_pure (wpAny_bind out))
  | @bare x c ts b0 bs np hp hds2 l2 hc hsu r ih =>
    intro w
    obtain ⟨b, hb1, hyes, hno⟩ := w
    have LM := PySem.W.exm_one (M := model X.prog X.w) K3.kIn type3 hb1
    refine wpAny_handleBy_cons (codeAny_handlers_test ?_) (fun q => by cases q)
    refine names_pe (X := X.suite a ((a, o3) :: (X.pn ++ pins))) hc [] _ σ H _ T3 ?_
    refine LM.here ?_
    cases b with
    | false => exact ih (hno rfl)
    | true =>
      refine codeAny_handlers_suite (HandSPX.lands_againZ fe.fl fun h4 fl4 up4 => ?_)
      have K4 : L2.Inv X pins σ H { s' with heap := h4 } := fe.J.landed fe.nb fl4.1 (fe.up.trans up4) fe.os fe.ag
      obtain ⟨o4, v4, get4, z4, f4⟩ := fl4.there
      have T4 := K4.suite get4 f4 fe.na fe.nL fe.nF
      refine wpAny_mono ((hsu a o4 cls d (X.pn ++ pins) z4 ⟨_, f4⟩).run [] _ _ H _ T4 (hyes rfl a fe.na)) (fun f s6 q => ?_) (fun _ _ z => z.elim)
      match f, q with
      | .next, ⟨σ6, H6, S6, q6⟩ => exact ⟨_, _, S6.unsuite ok, q6⟩
      | .brk, ⟨σ6, H6, S6, q6⟩ => exact ⟨_, _, S6.unsuite ok, q6⟩
      | .cont, ⟨σ6, H6, S6, q6⟩ => exact ⟨_, _, S6.unsuite ok, q6⟩
      | .ret u, ⟨v6, σ6, H6, S6, r6, q6⟩ => exact ⟨_, _, _, S6.unsuite ok, r6, q6⟩
  | @named x n i c ts b0 bs np hp hds2 l2 hc hi hln hsu r ih =>
    intro w
    obtain ⟨b, hb1, hyes, hno⟩ := w
    have LM := PySem.W.exm_one (M := model X.prog X.w) K3.kIn type3 hb1
    refine wpAny_handleBy_cons (codeAny_handlers_test ?_) (fun q => by cases q)
    refine names_pe (X := X.suite a ((a, o3) :: (X.pn ++ pins))) hc [] _ σ H _ T3 ?_
    refine LM.here ?_
    cases b with
    | false => exact ih (hno rfl)
    | true =>
      refine codeAny_handlers_suite_as (HandSPX.lands_againZ fe.fl fun h4 fl4 up4 => ?_)
      have K4 : L2.Inv X pins σ H { s' with heap := h4 } := fe.J.landed fe.nb fl4.1 (fe.up.trans up4) fe.os fe.ag
      obtain ⟨o4, v4, get4, z4, f4⟩ := fl4.there
      have T4 := K4.suite get4 f4 fe.na fe.nL fe.nF
      refine store_ok (X := X.suite a ((a, o4) :: (X.pn ++ pins))) (v := .ref a) T4 hN hi (.inl hln) rfl (fun s5 T5 => ?_) (.inr hln)
      refine wpAny_mono ((hsu a o4 cls d (X.pn ++ pins) z4 ⟨_, f4⟩).run [] s5 _ H _ T5 (hyes rfl a fe.na)) (fun f s6 q => ?_) (fun _ _ z => z.elim)
      match f, q with
      | .next, ⟨σ6, H6, S6, q6⟩ => exact gone_ok (S6.unsuite ok) hN hi hln fun s7 J7 => ⟨_, _, J7, q6⟩
      | .brk, ⟨σ6, H6, S6, q6⟩ => exact gone_ok (S6.unsuite ok) hN hi hln fun s7 J7 => ⟨_, _, J7, q6⟩
      | .cont, ⟨σ6, H6, S6, q6⟩ => exact gone_ok (S6.unsuite ok) hN hi hln fun s7 J7 => ⟨_, _, J7, q6⟩
      | .ret u, ⟨v6, σ6, H6, S6, r6, q6⟩ => exact gone_ok (S6.unsuite ok) hN hi hln fun s7 J7 => ⟨_, _, _, J7, r6, q6⟩
theorem ps_tryL {body : List Stmt} {h0 : ExceptHandler} {hds : List ExceptHandler} {l : List Clause} {pos : Pos} {tb : WX → TS} {Wout : WX} (hs : X.stack = X.env :: X.outer) (hf : X.env.frame = some X.env.locals) (hN : X.N.Nodup) (tk : Takes X Wout)
    (hb : ∀ (W : WX) (pn : List (Addr × Obj)) (xe : Value → Shared → Prop), Takes (X.tr pn xe) W → PassesOwn (model X.prog X.w) X.A X.env xe → PSs (X.tr pn xe) body (tb W)) (cl : Clauses X (h0 :: hds) l) :
    PS X (.Try body (h0 :: hds) [] [] pos) (fun D σ H => tb (wHs X.K Wout D l) D σ H) := by
  refine ⟨fun pins s σ H D I h => wpAny_Try_except ?_⟩
  have ok := I.ok
  have fr : X.A.frames = some (X.env :: X.outer) := ok.frames.trans (by rw [hs])
  have main := (hb (wHs X.K Wout D l) (X.pn ++ pins) (fun e s1 => wpAny (model X.prog X.w) X.A (noteFrame e X.env) (fun _ s2 => wpAny (model X.prog X.w) X.A (setFlight e none) (fun _ s3 => wpAny (model X.prog X.w) X.A (handleBy e X.env (h0 :: hds)) (SP X pins D) X.xe s3) X.xe s2) X.xe s1) ?tks PassesOwn.looking).run [] s σ H D (I.toTry _) h
  case tks =>
    rintro u s' ⟨a, B, sI, pins', σ1, H1, cls, d, rfl, J', nb, up, sky, na, os, ag, w⟩
    have J : L2.Inv X pins σ1 H1 sI := J'.ofTry ok
    show wpAny (model X.prog X.w) X.A (noteFrame (.ref a) X.env) _ _ _
    refine Sky.land Zc.steady fr hf (show Sky B (X.env :: X.outer) a (Zc cls d) X.env.locals s'.heap by rw [← hs]; exact sky) fun h3 fl3 up3 => ?_
    obtain ⟨o3, v3, get3, z3, f3⟩ := fl3.there
    have out : a ∉ frs (X.env :: X.outer) := fun hm => by
      obtain ⟨_, o', e', hnf⟩ := fl3.2.2.1.mem hm
      rw [get3] at e'
      cases e'
      exact hnf _ f3
    refine clauses_go hs hf hN tk ok ⟨J, nb, up.trans up3, os, ag, na, fun z => out ?_, fun hm => out ?_, fl3⟩ cl w
    · exact List.mem_filterMap.mpr ⟨X.env, List.mem_cons_self, by rw [hf, z]⟩
    · obtain ⟨e, he, q⟩ := List.mem_filterMap.mp hm
      exact List.mem_filterMap.mpr ⟨e, List.mem_cons_of_mem _ he, q⟩
  refine wpAny_mono main (fun f s1 q => ?_) (fun e s1 he => he)
  match f, q with
  | .next, ⟨σ1, H1, J1, q1⟩ => exact wpAny_execs_nil ⟨σ1, H1, J1.ofTry ok, q1⟩
  | .brk, ⟨σ1, H1, J1, q1⟩ => exact ⟨σ1, H1, J1.ofTry ok, q1⟩
  | .cont, ⟨σ1, H1, J1, q1⟩ => exact ⟨σ1, H1, J1.ofTry ok, q1⟩
  | .ret u, ⟨v, σ1, H1, J1, r, q1⟩ => exact ⟨v, σ1, H1, J1.ofTry ok, r, q1⟩
/-- C(), an own class of errors without __init__ -/
theorem pmk_bare {C : Addr} {bmB : List Value} {B newId initId : String} {x : Str} {p pos : Pos} (T : ExcBaseFacts B newId initId bmB) (q : PySem.W.excIn X.K C bmB newId = true) (gC : X.mg x = some (.ref C)) (kC : PySem.W.keepIn X.K (.ref C) = true) (r : Raises X (.ref C)) (hg : Gl X x)
    (hd : (x == ("__debug__" : Str)) = false) : PMk X (.Call (.Name x p) [] [] pos) (fun _ H Q => Q (.ref C) none H) := by
  intro pins s σ H Q I h
  refine wpAny_Call_Name_kw (ld_glob I hg gC (PySem.W.callWith_K0 I.kIn kC ?_) hd)
  obtain ⟨bm, N, nm, qn, bs, hdct, sn, sub, ab, col, dd, k0, k1, k2, k3, k5, mN, hC, hN, hni, tl⟩ := exc_obj I.kIn q
  refine wpAny_call_exc_subT T tl hC hN hni (fun h' e hm => mk_of I hm r h (I.hok.gone hm.new)) (by rw [sizeLine_eq]; simp)
end
end Mini

set_option Elab.async false
set_option linter.all false
set_option maxRecDepth 100000
set_option maxHeartbeats 4000000
namespace Mini
open PySem L2
/-! ### statements -/
def isComp : Expr → Bool
  | .ListComp _ _ _ _ => true
  | .SetComp _ _ _ _ => true
  | .DictComp _ _ _ _ _ => true
  | _ => false
def isTupX : Expr → Bool
  | .Tuple _ _ _ => true
  | _ => false
/-- name = [..] whose stores are exchanged -/
def swB (sc : Scope) (x : Str) (px : Pos) : Expr → Bool
  | .ListComp _ _ scope pos => decide (sc.names.lookup x = some .local) && (px.line == pos.line) && !(scope.names.any fun (n, k) => n == x && (k == .local || k == .cell))
  | _ => false
/-- a sole target -/
def nameT : List Expr → Option (Str × Pos)
  | [.Name x p] => some (x, p)
  | _ => none
def tupT : List Expr → Option (List Expr × Nat × Pos)
  | [.Tuple es k p] => some (es, k, p)
  | _ => none
def attrT : List Expr → Option (Expr × Str × Pos)
  | [.Attribute o f p] => some (o, f, p)
  | _ => none
/-- C(..) -/
def madeT : Expr → Option (Str × List Expr × Pos × Pos)
  | .Call (.Name x p) es [] q => some (x, es, p, q)
  | _ => none
def raiseT : Option Expr → Option Expr → Option (Str × List Expr × Pos × Pos)
  | some e, none => madeT e
  | _, _ => none
/-- a clause: its class's name, its own name, its suite -/
def clauseT : ExceptHandler → Option (Str × Option Str × List Stmt × Pos × Pos)
  | .ExceptHandler (some (.Name x p)) n b q => some (x, n, b, p, q)
  | _ => none
def slotB (N : List Str) (sc : Scope) : Option Nat → Option Str → Bool
  | none, none => true
  | some i, some n => decide (N[i]? = some n) && decide (sc.names.lookup n = some .local)
  | _, _ => false
def subT : List Expr → Option (Expr × Expr × Pos)
  | [.Subscript o i p] => some (o, i, p)
  | _ => none
theorem nameT_eq {ts : List Expr} {x : Str} {p : Pos} (h : nameT ts = some (x, p)) : ts = [.Name x p] := by
  unfold nameT at h
  split at h
  · cases h; rfl
  · cases h
theorem tupT_eq {ts es : List Expr} {k : Nat} {p : Pos} (h : tupT ts = some (es, k, p)) : ts = [.Tuple es k p] := by
  unfold tupT at h
  split at h
  · cases h; rfl
  · cases h
theorem attrT_eq {ts : List Expr} {o : Expr} {f : Str} {p : Pos} (h : attrT ts = some (o, f, p)) : ts = [.Attribute o f p] := by
  unfold attrT at h
  split at h
  · cases h; rfl
  · cases h
theorem madeT_eq {e : Expr} {x : Str} {es : List Expr} {p q : Pos} (h : madeT e = some (x, es, p, q)) : e = .Call (.Name x p) es [] q := by
  unfold madeT at h
  split at h
  · cases h; rfl
  · cases h
theorem raiseT_eq {a b : Option Expr} {x : Str} {es : List Expr} {p q : Pos} (h : raiseT a b = some (x, es, p, q)) : a = some (.Call (.Name x p) es [] q) ∧ b = none := by
  unfold raiseT at h
  split at h
  · exact ⟨by rw [madeT_eq h], rfl⟩
  · cases h
theorem clauseT_eq {e : ExceptHandler} {x : Str} {n : Option Str} {b : List Stmt} {p q : Pos} (h : clauseT e = some (x, n, b, p, q)) : e = .ExceptHandler (some (.Name x p)) n b q := by
  unfold clauseT at h
  split at h
  · cases h; rfl
  · cases h
theorem subT_eq {ts : List Expr} {o i : Expr} {p : Pos} (h : subT ts = some (o, i, p)) : ts = [.Subscript o i p] := by
  unfold subT at h
  split at h
  · cases h; rfl
  · cases h
section
variable (nm : Nat → Str) (N : List Str)
mutual
def chkS (s : Sc) : CS → Stmt → Bool
  | .expr e, .Expr e' _ => chkE nm N s false e e' && !isComp e'
  | .set i e, .Assign ts e' _ => match nameT ts with
    | some (x, px) => decide (N[i]? = some x) && locB s x && chkE nm N s false e e' && (!isComp e' || swB s.sc x px e')
    | none => false
  | .tgt t e, .Assign ts e' _ => match tupT ts with
    | some (es, k, p) => chkTg N s t (.Tuple es k p) && chkE nm N s false e e' && !isTupX e'
    | none => false
  | .stsub o i e, .Assign ts e' _ => match subT ts with
    | some (o', i', _) => chkE nm N s false o o' && chkE nm N s false i i' && chkE nm N s false e e' && !isComp e'
    | none => false
  | .aug i op e, .AugAssign (.Name x _) op' e' _ => decide (N[i]? = some x) && locB s x && decide (op = op') && chkE nm N s false e e'
  | .ret e, .Return (some e') _ => chkE nm N s false e e'
  | .retN, .Return none _ => true
  | .ife c a b, .If c' a' b' _ => chkE nm N s true c c' && chkSs s a a' && chkSs s b b'
  | .whl c b, .While c' b' [] _ => !s.hot && chkE nm N s true c c' && chkSs s b b'
  | .forr k srcs tg b, .For tg' iter' b' [] _ => !s.hot && iterB s.sc k iter' tg' && chkL nm N s false srcs (iterArgs k iter') && chkTg N s tg tg' && chkSs s b b'
  | .pass, .Pass _ => true
  | .brk, .Break _ => true
  | .cont, .Continue _ => true
  | .raise c es, .Raise a b _ => match raiseT a b with
    | some (x, es', _, _) => !s.hot && decide (nm c = x) && glB s.sc x && !(x == ("__debug__" : Str)) && chkL nm N s false es es'
    | none => false
  | .fset o f e, .Assign ts e' _ => match attrT ts with
    | some (o', name, _) => decide (nm f = name) && fldOk nm f && chkE nm N s false o o' && chkE nm N s false e e' && !isComp e'
    | none => false
  | .fau o f op e, .AugAssign (.Attribute o' name _) op' e' _ => decide (nm f = name) && fldOk nm f && decide (op = op') && chkE nm N s false o o' && chkE nm N s false e e'
  | .sau o i op e, .AugAssign (.Subscript o' i' _) op' e' _ => decide (op = op') && chkE nm N s false o o' && chkE nm N s false i i' && chkE nm N s false e e'
  | .tri b hs, .Try b' hs' [] [] _ => !s.hot && chkSs s b b' && chkHs s hs hs' && !hs.isEmpty
  | _, _ => false
def chkSs (s : Sc) : List CS → List Stmt → Bool
  | [], [] => true
  | c :: cs, e :: es => chkS s c e && chkSs s cs es
  | _, _ => false
def chkHs (s : Sc) : List CS → List ExceptHandler → Bool
  | [], [] => true
  | c :: cs, e :: es => chkH s c e && chkHs s cs es
  | _, _ => false
def chkH (s : Sc) : CS → ExceptHandler → Bool
  | .hdl c sl b, h => match clauseT h with
    | some (x, n, b', _, _) => decide (nm c = x) && glB s.sc x && slotB N s.sc sl n && chkSs ⟨s.sc, s.fn, true⟩ b b' && !b.isEmpty
    | none => false
  | _, _ => false
end
end
section
variable (F : Fix)
def AfterS (W : WX) (μ : List Addr) (H : Hp) (fl : Fl) (st' : Sto) (D : Ends) : Prop := match fl with
  | .nx env => ∀ μ' H' σ', Ext F.K μ H μ' H' → SRep F.K F.G μ' st' H' → EnvRep F μ' H' env σ' → D.nx σ' H'
  | .bk env => ∀ μ' H' σ', Ext F.K μ H μ' H' → SRep F.K F.G μ' st' H' → EnvRep F μ' H' env σ' → D.bk σ' H'
  | .ct env => ∀ μ' H' σ', Ext F.K μ H μ' H' → SRep F.K F.G μ' st' H' → EnvRep F μ' H' env σ' → D.ct σ' H'
  | .rt d => ∀ μ' H' v, Ext F.K μ H μ' H' → SRep F.K F.G μ' st' H' → Rep F.K F.G μ' H' d v → D.rt v H'
  | .exc env c fs => ∀ μ' H' σ' vs cls dd, Ext F.K μ H μ' H' → SRep F.K F.G μ' st' H' → EnvRep F μ' H' env σ' → RepL F.K F.G μ' H' fs vs → XR F c vs cls dd μ' H' → W cls dd σ' H'
def tX (W : WX) (μ : List Addr) (H : Hp) (m : Sx) (D : Ends) : Prop := ∃ fl st', m = some (fl, st') ∧ AfterS F W μ H fl st' D
def tS (W : WX) (c : CS) : TS := fun D σ H => ∃ μ env st, EnvRep F μ H env σ ∧ SRep F.K F.G μ st H ∧ tX F W μ H (evS F.P F.call c env st) D
def tSs (W : WX) (c : List CS) : TS := fun D σ H => ∃ μ env st, EnvRep F μ H env σ ∧ SRep F.K F.G μ st H ∧ tX F W μ H (evSs F.P F.call c env st) D
end
section
variable {F : Fix} {nm : Nat → Str} {W : WX} {μ μ' : List Addr} {H H' : Hp} {D : Ends}
theorem AfterS.ext {fl : Fl} {st' : Sto} (h : AfterS F W μ H fl st' D) (e : Ext F.K μ H μ' H') : AfterS F W μ' H' fl st' D := by
  cases fl with
  | nx env => exact fun m h' v x s q => h m h' v (e.trans x) s q
  | bk env => exact fun m h' v x s q => h m h' v (e.trans x) s q
  | ct env => exact fun m h' v x s q => h m h' v (e.trans x) s q
  | rt d => exact fun m h' v x s q => h m h' v (e.trans x) s q
  | exc env c fs => exact fun m h' σ vs cls dd x s q r z => h m h' σ vs cls dd (e.trans x) s q r z
theorem tX.ext {m : Sx} (h : tX F W μ H m D) (e : Ext F.K μ H μ' H') : tX F W μ' H' m D := by
  obtain ⟨fl, st', q, a⟩ := h
  exact ⟨fl, st', q, a.ext e⟩
theorem tX.no (h : tX F W μ H none D) : False := by
  obtain ⟨_, _, q, _⟩ := h
  cases q
theorem tX.nx {env : Env} {st : Sto} {σ : L2.St} (h : tX F W μ H (some (.nx env, st)) D) (s : SRep F.K F.G μ st H) (e : EnvRep F μ H env σ) : D.nx σ H := by
  obtain ⟨_, _, q, a⟩ := h
  cases q
  exact a μ H σ .refl s e
/-- an expression ahead of the rest of a statement -/
theorem tX.be {α β : Type} {R : List Addr → Hp → α → β → Prop} {env : Env} {σ : L2.St} {m : Mx α} {f : α → Sto → Sx} {Q1 : β → Hp → Prop} (h : tX F W μ H (be env m f) D) (he : EnvRep F μ H env σ)
    (k : ∀ x st1 μ1 H1 v, Ext F.K μ H μ1 H1 → SRep F.K F.G μ1 st1 H1 → R μ1 H1 x v → tX F W μ1 H1 (f x st1) D → Q1 v H1) : tM F W σ μ H R m Q1 := by
  obtain ⟨fl, st', q, a⟩ := h
  cases m with
  | none => cases q
  | some p =>
    obtain ⟨r1, st1⟩ := p
    cases r1 with
    | ok x => exact ⟨.ok x, st1, rfl, fun μ1 H1 v e s rr => k x st1 μ1 H1 v e s rr ⟨fl, st', q, a.ext e⟩⟩
    | exc c fs =>
      cases q
      exact ⟨.exc c fs, _, rfl, fun μ1 H1 vs cls dd e s rr z => a μ1 H1 σ vs cls dd e s (he.ext e) rr z⟩
/-- a def's own body, or a suite in it -/
def Stm (X : Cx) : Prop := X.stack = X.env :: X.outer ∧ X.env.frame = some X.env.locals
/-- what is shown of a statement -/
def PSx (F : Fix) (nm : Nat → Str) (c : CS) : Prop := ∀ (X : Cx) (W : WX) (k : Nat) (N : List Str) (s : Sc) (st : Stmt), Good F nm X W k s.hot → At X N s → Stm X → s.sc.kind = .function → chkS nm N s c st = true → PS X st (tS F W c)
def PSsx (F : Fix) (nm : Nat → Str) (c : List CS) : Prop := ∀ (X : Cx) (W : WX) (k : Nat) (N : List Str) (s : Sc) (st : List Stmt), Good F nm X W k s.hot → At X N s → Stm X → s.sc.kind = .function → chkSs nm N s c st = true → PSs X st (tSs F W c)
theorem ss_of {cs : List CS} (h : ∀ c ∈ cs, PSx F nm c) : PSsx F nm cs := by
  intro X W k N s st g a hm hk
  induction cs generalizing st with
  | nil =>
    intro h
    cases st with
    | cons _ _ => simp [chkSs] at h
    | nil =>
      refine PSs.imp pss_nil fun D σ H ⟨μ, env, st, he, sr, t⟩ => ?_
      rw [evSs] at t
      exact t.nx sr he
  | cons c cs ih =>
    intro hc
    cases st with
    | nil => simp [chkSs] at hc
    | cons e es =>
      unfold chkSs at hc
      rw [Bool.and_eq_true] at hc
      refine PSs.imp (pss_cons (h c (by simp) X W k N s e g a hm hk hc.1) (ih (fun d hd => h d (List.mem_cons_of_mem _ hd)) es hc.2)) fun D σ H ⟨μ, env, st, he, sr, t⟩ => ?_
      rw [evSs] at t
      refine ⟨μ, env, st, he, sr, ?_⟩
      obtain ⟨fl, st', q, A⟩ := t
      cases hv : evS F.P F.call c env st with
      | none => rw [hv] at q; cases q
      | some p =>
        obtain ⟨f1, st1⟩ := p
        rw [hv] at q
        cases f1 with
        | nx env1 => exact ⟨.nx env1, st1, rfl, fun μ1 H1 σ1 x1 s1 he1 => ⟨μ1, env1, st1, he1, s1, fl, st', q, A.ext x1⟩⟩
        | rt d => cases q; exact ⟨_, _, rfl, A⟩
        | bk d => cases q; exact ⟨_, _, rfl, A⟩
        | ct d => cases q; exact ⟨_, _, rfl, A⟩
        | exc _ _ _ => cases q; exact ⟨_, _, rfl, A⟩
theorem swaps_no {e : Expr} {t : Option Expr} {l : Nat} {env : PySem.Env} (h : isComp e = false) : swapsWith e t l env = pure false := by
  cases e <;> first
    | rfl
    | cases h
theorem st_expr (e : CE) : PSx F nm (.expr e) := by
  intro X W k N s st g a hm hk h
  cases st <;> simp [chkS] at h
  refine PS.imp (ps_expr ((sound e X W k N s _ g a).1 h.1) (swaps_no h.2)) fun D σ H ⟨μ, env, st, he, sr, t⟩ => ?_
  rw [evS] at t
  exact ⟨μ, env, st, he, sr, tX.be t he fun x st1 μ1 H1 v e1 s1 r1 t1 => t1.nx s1 (he.ext e1)⟩
theorem st_ret (e : CE) : PSx F nm (.ret e) := by
  intro X W k N s st g a hm hk h
  cases st <;> try (simp [chkS] at h; done)
  rename_i v p
  cases v <;> simp [chkS] at h
  refine PS.imp (ps_ret ((sound e X W k N s _ g a).1 h)) fun D σ H ⟨μ, env, st, he, sr, t⟩ => ?_
  rw [evS] at t
  refine ⟨μ, env, st, he, sr, tX.be t he fun x st1 μ1 H1 v e1 s1 r1 t1 => ?_⟩
  obtain ⟨_, _, q, A⟩ := t1
  cases q
  exact A μ1 H1 v .refl s1 r1
theorem st_retN : PSx F nm .retN := by
  intro X W k N s st g a hm hk h
  cases st <;> try (simp [chkS] at h; done)
  rename_i v p
  cases v <;> simp [chkS] at h
  refine PS.imp ps_retN fun D σ H ⟨μ, env, st, he, sr, t⟩ => ?_
  rw [evS] at t
  obtain ⟨_, _, q, A⟩ := t
  cases q
  exact A μ H .non .refl sr mkN
theorem st_pass : PSx F nm .pass := by
  intro X W k N s st g a hm hk h
  cases st <;> simp [chkS] at h
  refine PS.imp ps_pass fun D σ H ⟨μ, env, st, he, sr, t⟩ => ?_
  rw [evS] at t
  exact t.nx sr he
theorem st_brk : PSx F nm .brk := by
  intro X W k N s st g a hm hk h
  cases st <;> simp [chkS] at h
  refine PS.imp ps_break fun D σ H ⟨μ, env, st, he, sr, t⟩ => ?_
  rw [evS] at t
  obtain ⟨_, _, q, A⟩ := t
  cases q
  exact A μ H σ .refl sr he
theorem st_cont : PSx F nm .cont := by
  intro X W k N s st g a hm hk h
  cases st <;> simp [chkS] at h
  refine PS.imp ps_continue fun D σ H ⟨μ, env, st, he, sr, t⟩ => ?_
  rw [evS] at t
  obtain ⟨_, _, q, A⟩ := t
  cases q
  exact A μ H σ .refl sr he
theorem del_upd {H1 : Hp} {a dx : Addr} {C : Addr} {l : List (Str × V)} (ha : H1 a = none) (hd : dx ≠ a) : upd (del (upd (upd (upd H1 a (exo a C none)) dx (exd dx l)) a (exo a C (some dx))) a) dx (.xd l) = upd H1 dx (.xd l) := by
  funext b
  by_cases h1 : b = dx
  · subst h1
    rw [upd_same, upd_same]
  · rw [upd_ne h1, upd_ne h1]
    by_cases h2 : b = a
    · subst h2
      rw [del_same, ha]
    · rw [del_ne h2, upd_ne h2, upd_ne h1, upd_ne h2]
theorem st_raise (c : Nat) (es : List CE) : PSx F nm (.raise c es) := by
  intro X W k N s st g a hm hk h
  cases st <;> try (simp [chkS] at h; done)
  rename_i e1 e2 p
  simp only [chkS] at h
  cases hr : raiseT e1 e2 with
  | none => rw [hr] at h; cases h
  | some q =>
    obtain ⟨x, es', px, py⟩ := q
    rw [hr] at h
    obtain ⟨rfl, rfl⟩ := raiseT_eq hr
    simp at h
    obtain ⟨⟨⟨⟨h0, h1⟩, h2⟩, h3⟩, h4⟩ := h
    subst h1
    have h3' : (nm c == ("__debug__" : Str)) = false := by simpa using h3
    cases hx : F.P.xf c with
    | none =>
      refine PS.imp ps_never fun D σ H ⟨μ, env, st, he, sr, t⟩ => ?_
      rw [evS, hx] at t
      exact t.no
    | some ns =>
      obtain ⟨C, x1, x2, x3, x4, x5, x6⟩ := g.xs c ns hx
      by_cases hlen0 : es.length = ns.length
      rotate_left
      · refine PS.imp ps_never fun D σ H ⟨μ, env, st, he, sr, t⟩ => ?_
        rw [evS, hx] at t
        dsimp only at t
        rw [if_neg hlen0] at t
        exact t.no
      have fin : ∀ D σ H, tS F W (.raise c es) D σ H → tL F W es σ H fun vs H1 => ∃ μ1 st1 env ds, SRep F.K F.G μ1 st1 H1 ∧ RepL F.K F.G μ1 H1 ds vs ∧ EnvRep F μ1 H1 env σ ∧ vs.length = es.length ∧ AfterS F W μ1 H1 (.exc env c ds) st1 D := by
        intro D σ H ⟨μ, env, st, he, sr, t⟩
        rw [evS, hx] at t
        dsimp only at t
        rw [if_pos hlen0] at t
        have tl : tL F W es σ H (fun vs H1 => ∃ μ1 st1 env ds, SRep F.K F.G μ1 st1 H1 ∧ RepL F.K F.G μ1 H1 ds vs ∧ EnvRep F μ1 H1 env σ ∧ AfterS F W μ1 H1 (.exc env c ds) st1 D) := by
          refine ⟨μ, env, st, he, sr, tX.be t he fun ds st1 μ1 H1 vs e1 s1 r1 t1 => ?_⟩
          obtain ⟨fl, st', q, A⟩ := t1
          cases q
          exact ⟨μ1, _, env, ds, s1, r1, he.ext e1, A⟩
        refine tL.mono tl.len ?_
        rintro vs H1 ⟨hl, μ1, st1, env, ds, s1, r1, he1, A⟩
        exact ⟨μ1, st1, env, ds, s1, r1, he1, hl, A⟩
      generalize hns : ns.map nm = nms at x1 x4
      cases x4 with
      | bare b1 b2 b3 b4 b5 =>
        have hn0 : ns = [] := by cases ns with
          | nil => rfl
          | cons _ _ => cases hns
        subst hn0
        cases es with
        | cons c1 cs1 => simp at hlen0
        | nil =>
          cases es' with
          | cons _ _ => simp [chkL] at h4
          | nil =>
            refine PS.imp (ps_raise (g.calm h0) g.tk (pmk_bare b1 b2 x2 b3 (raises_own b4 b5) (gl_of a h2) h3')) fun D σ H hh => ?_
            obtain ⟨μ1, st1, env, ds, s1, r1, he1, hl, A⟩ := tL_nil (fin D σ H hh)
            cases ds with
            | cons _ _ => unfold RepL at r1; obtain ⟨_, _, z, _⟩ := r1; cases z
            | nil => exact A μ1 H σ [] (.ref C) none .refl s1 he1 RepL.nil ⟨C, [], x1, rfl, rfl, rfl⟩
      | @ve n1 ns1 fI fd ps b1 b2 b3 b4 b5 =>
        have h5 : ns.length = ns1.length + 1 := by rw [← List.length_map (f := nm), hns]; rfl
        cases es with
        | nil => simp at hlen0; omega
        | cons c1 cs1 =>
          cases es' with
          | nil => simp [chkL] at h4
          | cons e1' es1' =>
            have h4' := h4
            unfold chkL at h4'
            rw [Bool.and_eq_true] at h4'
            have hr2 : Room (1 + 1) X.A := (g.room h0).mono g.k2
            refine PS.imp (ps_raise (g.calm h0) g.tk (pmk_oex (CX := CX0) b1 b2 b3 b4 hr2 b5 .nil (fun _ _ _ _ _ _ _ z => z.elim) (gl_of a h2) x2 (soundA (fun c _ => sound c) g a h4) h3' (star_of h4'.1) (by rw [backTo_any]; exact stars_of h4'.2))) fun D σ H hh => ?_
            have hf := fin D σ H hh
            refine tL.mono hf ?_
            rintro vs H1 ⟨μ1, st1, env, ds, s1, r1, he1, hl, A⟩
            have hlen : vs.length = (n1 :: ns1).length := by rw [hl, hlen0, ← hns, List.length_map]
            have h900 : ns.length ≤ 900 := by
              rcases x3 with z | z
              · rw [z]; simp
              · exact z
            refine ⟨by rw [hl, hlen0]; omega, fun ad had => ?_⟩
            rw [List.append_nil]
            refine ⟨ad, vs, rfl, hlen, upd_same, fun dx l d1 d2 d3 => ?_⟩
            have d4 : H1 dx = none := by rw [upd_ne d2] at d1; exact d1
            refine ⟨rfl, dx, l, upd_same, by rw [upd_ne d2, upd_same], d4, ?_⟩
            rw [del_upd had d2]
            have ex : Ext F.K μ1 H1 μ1 (upd H1 dx (.xd l)) := Ext.new d4
            exact A μ1 _ σ vs (.ref C) (some dx) ex (s1.new d4) (he1.ext ex) (r1.ext ex) ⟨C, _, x1, rfl, hlen.symm, s1.notin d4, l, upd_same, d3⟩
theorem st_ife (c : CE) {x y : List CS} (hx : PSsx F nm x) (hy : PSsx F nm y) : PSx F nm (.ife c x y) := by
  intro X W k N s st g a hm hk h
  cases st <;> simp [chkS] at h
  refine PS.imp (ps_if ((sound c X W k N s _ g a).2 h.1.1) (hx X W k N s _ g a hm hk h.1.2) (hy X W k N s _ g a hm hk h.2)) fun D σ H ⟨μ, env, st, he, sr, t⟩ => ?_
  rw [evS] at t
  refine ⟨μ, env, st, he, sr, tX.be t he fun b st1 μ1 H1 v e1 s1 r1 t1 => ?_⟩
  subst r1
  cases b with
  | true => rw [if_pos rfl] at t1 ⊢; exact ⟨μ1, env, st1, he.ext e1, s1, t1⟩
  | false => rw [if_neg (by decide)] at t1 ⊢; exact ⟨μ1, env, st1, he.ext e1, s1, t1⟩
theorem st_aug (i : Nat) (op : Operator) (e : CE) : PSx F nm (.aug i op e) := by
  intro X W k N s st g a hm hk h
  cases st <;> try (simp [chkS] at h; done)
  rename_i tg op' e' p
  cases tg <;> simp [chkS] at h
  obtain ⟨⟨⟨h1, h2⟩, rfl⟩, h4⟩ := h
  obtain ⟨l1, l2⟩ := loc_of a h2
  have hop : PIp X op (r2 F (augD op)) := op_aug g.K op
  refine PS.imp (ps_aug (i := i) g.nd (by rw [a.N]; exact h1) l1 ((sound e X W k N s _ g a).1 h4) hop l2) fun D σ H ⟨μ, env, st, he, sr, t⟩ => ?_
  rw [evS] at t
  split at t
  · rename_i x hx
    split at t
    · exact t.no.elim
    · rename_i hnx
      obtain ⟨v, q1, q2⟩ := he.at_ i x hx (by simpa using hnx)
      refine ⟨v, q1, μ, env, st, he, sr, tX.be t he fun y st1 μ1 H1 w e1 s1 r1 t1 => ?_⟩
      refine ⟨W, σ, μ1, st1, x, y, s1, q2.ext e1, r1, tX.be t1 (he.ext e1) fun z st2 μ2 H2 u e2 s2 r2 t2 => ?_⟩
      exact t2.nx s2 (((he.ext e1).ext e2).set r2 i)
  · exact t.no.elim
def rStS (F : Fix) : V → V → V → Hp → (Hp → Prop) → Prop := fun o i v H Q => ∃ μ st x y z st', SRep F.K F.G μ st H ∧ Rep F.K F.G μ H x o ∧ Rep F.K F.G μ H y i ∧ Rep F.K F.G μ H z v ∧ stsubD x y z st = some st' ∧ ∀ H', Ext F.K μ H μ H' → SRep F.K F.G μ st' H' → Q H'
theorem set_st {X : Cx} : PSet X (rStS F) := by
  intro pins s σ H o i v ov iv u Q I ro ri rv h
  obtain ⟨μ, st, x, y, z, st', sr, rx, ry, rz, e, q⟩ := h
  unfold stsubD at e
  split at e
  · split at e
    · rename_i xs e1
      split at e
      · rename_i kx e2
        cases e
        obtain ⟨p, rfl, h1⟩ := repO rx
        cases repI ry
        obtain ⟨ws, h2, h3⟩ := SRep.lst sr e1 h1
        refine set_list pins s σ H _ _ v ov iv u Q I ro ri rv ⟨p, ws, _, kx, rfl, rfl, h2, by rw [h3.length]; exact e2, ?_⟩
        exact q _ (Ext.write sr h1) (sr.write h1 (h3.set rz kx))
      · cases e
    · cases e
  · cases e
theorem st_stsub (o i e : CE) : PSx F nm (.stsub o i e) := by
  intro X W k N s st g a hm hk h
  cases st <;> try (simp [chkS] at h; done)
  rename_i tgs e' p
  simp only [chkS] at h
  cases hts : subT tgs with
  | none => rw [hts] at h; cases h
  | some q =>
    obtain ⟨o', i', px⟩ := q
    rw [hts] at h
    have e0 := subT_eq hts
    subst e0
    simp at h
    obtain ⟨⟨⟨h1, h2⟩, h3⟩, h4⟩ := h
    have ha : ∀ v, assign (.Subscript o' i' px) X.env v = (do
      let ov ← holding [v] (eval o' X.env)
      let iv ← holding [v, ov] (eval i' X.env)
      standAt px
      holding [v, ov, iv] (setItem ov iv v)
      release [v, ov, iv] []) := by
      intro v
      cases i' <;> first
        | rfl
        | (cases i <;> simp [chkE] at h2)
    have hw : swappedStores [.Subscript o' i' px] e' X.env = pure none := by
      cases e' <;> rfl
    refine PS.imp (ps_asg ((sound e X W k N s _ g a).1 h3) (pg_sub ((sound o X W k N s _ g a).1 h1) ((sound i X W k N s _ g a).1 h2) (set_st (F := F)) ha) (by unfold swapsWithSole; exact swaps_no h4) hw rfl) fun D σ H ⟨μ, env, st, he, sr, t⟩ => ?_
    rw [evS] at t
    refine ⟨μ, env, st, he, sr, tX.be t he fun z st1 μ1 H1 v e1 s1 r1 t1 => ?_⟩
    refine ⟨μ1, env, st1, he.ext e1, s1, tX.be t1 (he.ext e1) fun x st2 μ2 H2 w e2 s2 r2 t2 => ?_⟩
    refine ⟨μ2, env, st2, (he.ext e1).ext e2, s2, tX.be t2 ((he.ext e1).ext e2) fun y st3 μ3 H3 u e3 s3 r3 t3 => ?_⟩
    cases hs : stsubD x y z st3 with
    | none => rw [hs] at t3; exact t3.no.elim
    | some st4 =>
      rw [hs] at t3
      refine ⟨μ3, st3, x, y, z, st4, s3, r2.ext e3, r3, (r1.ext e2).ext e3, hs, fun H4 e4 s4 => ?_⟩
      exact (t3.ext e4).nx s4 ((((he.ext e1).ext e2).ext e3).ext e4)
theorem st_tgt (tg : Tg) (e : CE) : PSx F nm (.tgt tg e) := by
  intro X W k N s st g a hm hk h
  cases st <;> try (simp [chkS] at h; done)
  rename_i tgs e' p
  simp only [chkS] at h
  cases hts : tupT tgs with
  | none => rw [hts] at h; cases h
  | some q =>
    obtain ⟨es, kk, px⟩ := q
    rw [hts] at h
    have e0 := tupT_eq hts
    subst e0
    simp at h
    obtain ⟨⟨h1, h2⟩, h3⟩ := h
    have hw : swappedStores [.Tuple es kk px] e' X.env = pure none := by
      cases e' <;> first
        | rfl
        | cases h3
    have hs : swapsWithSole [.Tuple es kk px] e' p.line X.env = pure false := by
      cases e' <;> rfl
    refine PS.imp (ps_asg ((sound e X W k N s _ g a).1 h2) (pg_of g a tg _ h1) hs hw rfl) fun D σ H ⟨μ, env, st, he, sr, t⟩ => ?_
    rw [evS] at t
    refine ⟨μ, env, st, he, sr, tX.be t he fun d st1 μ1 H1 v e1 s1 r1 t1 => ?_⟩
    cases ha : asgT tg d env with
    | none => rw [ha] at t1; exact t1.no.elim
    | some env' =>
      rw [ha] at t1
      exact ⟨μ1, env, d, env', he.ext e1, r1, ha, fun σ' h1 _ => t1.nx s1 h1⟩
theorem st_set (i : Nat) (e : CE) : PSx F nm (.set i e) := by
  intro X W k N s st g a hm hk h
  cases st <;> try (simp [chkS] at h; done)
  rename_i tgs e' p
  simp only [chkS] at h
  cases hts : nameT tgs with
  | none => rw [hts] at h; cases h
  | some q =>
    obtain ⟨x, px⟩ := q
    rw [hts] at h
    have e0 := nameT_eq hts
    subst e0
    simp at h
    obtain ⟨⟨⟨h1, h2⟩, h3⟩, h4⟩ := h
    obtain ⟨l1, l2⟩ := loc_of a h2
    have fin : ∀ D σ H, tS F W (.set i e) D σ H → tAsg (tE F W e) (gName i) D σ H := by
      intro D σ H ⟨μ, env, st, he, sr, t⟩
      rw [evS] at t
      refine ⟨μ, env, st, he, sr, tX.be t he fun d st1 μ1 H1 v e1 s1 r1 t1 => ?_⟩
      exact t1.nx s1 ((he.ext e1).set r1 i)
    rcases h4 with h4 | h4
    · exact PS.imp (ps_set (i := i) g.nd (by rw [a.N]; exact h1) l1 ((sound e X W k N s _ g a).1 h3) (swaps_no h4) l2) fin
    · cases e' <;> try (simp [swB] at h4; done)
      rename_i el gs scope pos
      simp only [swB, Bool.and_eq_true, decide_eq_true_eq, Bool.not_eq_true'] at h4
      obtain ⟨⟨w1, w2⟩, w3⟩ := h4
      cases e <;> try (simp [chkE] at h3; done)
      rename_i own kd srcs tg tst elt
      obtain ⟨elt', tg', iter', ifs', scope', p', e0, b1, b2, b3, b4, b5, b6, b7, b8, b9⟩ := i_comp h3
      cases e0
      obtain ⟨pi, fs⟩ := pi_of (W := W) g a (fun c _ => sound c) b2 b3
      have ok : BlkOk X.N X.env.scope scope (own.map fun i => (N.getD i "", i)) := by
        rw [a.N, a.sc]
        exact blkOk_by b1
      have hsw : swapsWith (.ListComp el [⟨tg', iter', ifs', 0⟩] scope pos) (some (.Name x px)) p.line X.env = pure true := sw_true (by rw [a.sc]; exact hk) (by rw [a.sc]; exact w1) w2 w3
      have q := ps_setLc (i := i) (g.calm b9) g.nd (by rw [a.N]; exact h1) (by rw [a.sc]; exact w1) hsw pi ok (fun s' H C cl fp => pg_of (s := blkOf s scope) (g.blk b9 s' H scope _ fp) (a.blk s' H scope cl C fp) tg tg' b4)
        (fun s' H C cl fp => pts_of (s := blkOf s scope) (g.blk b9 s' H scope _ fp) (a.blk s' H scope cl C fp) (fun c _ => sound c) b6 b7)
        (fun s' H C cl fp => (sound elt _ _ k N (blkOf s scope) _ (g.blk b9 s' H scope _ fp) (a.blk s' H scope cl C fp)).1 b8) fs
      rw [own_map] at q
      exact PS.imp q fun D σ H h => comp_t b5 σ H _ (fin D σ H h)
theorem st_whl (c : CE) {b : List CS} (hb : PSsx F nm b) : PSx F nm (.whl c b) := by
  intro X W k N s st g a hm hk h
  cases st <;> try (simp [chkS] at h; done)
  rename_i c' b' el p
  cases el <;> simp [chkS] at h
  refine PS.imp (ps_while g.po ((sound c X W k N s _ g a).2 h.1.2) (hb X W k N s _ g a hm hk h.2)) fun D σ H ⟨μ, env, st, he, sr, t⟩ => ?_
  rw [evS] at t
  refine ⟨fun m σ H => ∃ μ env st, EnvRep F μ H env σ ∧ SRep F.K F.G μ st H ∧ tX F W μ H (whG (fun env st => evT F.P F.call c env st) (fun env st => evSs F.P F.call b env st) m env st) D, ⟨FU, μ, env, st, he, sr, t⟩, fun m σ H ⟨μ, env, st, he, sr, t⟩ => ?_⟩
  cases m with
  | zero => exact t.no.elim
  | succ m =>
    rw [whG] at t
    refine ⟨μ, env, st, he, sr, tX.be t he fun k st1 μ1 H1 v e1 s1 r1 t1 => ?_⟩
    subst r1
    cases k with
    | false =>
      rw [if_neg (by decide)] at t1 ⊢
      exact t1.nx s1 (he.ext e1)
    | true =>
      rw [if_pos rfl] at t1 ⊢
      refine ⟨fun σ H => ∃ μ env st, EnvRep F μ H env σ ∧ SRep F.K F.G μ st H ∧ tX F W μ H (whG (fun env st => evT F.P F.call c env st) (fun env st => evSs F.P F.call b env st) m env st) D, fun σ' H' hn => ⟨m, Nat.lt_succ_self m, hn⟩, μ1, env, st1, he.ext e1, s1, ?_⟩
      obtain ⟨fl, st', q, A⟩ := t1
      cases hv : evSs F.P F.call b env st1 with
      | none => rw [hv] at q; cases q
      | some p =>
        obtain ⟨f1, st2⟩ := p
        rw [hv] at q
        cases f1 with
        | nx env1 => exact ⟨.nx env1, st2, rfl, fun μ2 H2 σ2 x2 s2 he2 => ⟨μ2, env1, st2, he2, s2, fl, st', q, A.ext x2⟩⟩
        | ct env1 => exact ⟨.ct env1, st2, rfl, fun μ2 H2 σ2 x2 s2 he2 => ⟨μ2, env1, st2, he2, s2, fl, st', q, A.ext x2⟩⟩
        | bk env1 =>
          cases q
          exact ⟨.bk env1, _, rfl, A⟩
        | rt d => cases q; exact ⟨_, _, rfl, A⟩
        | exc _ _ _ => cases q; exact ⟨_, _, rfl, A⟩
theorem st_for (kd : Sk) (srcs : List CE) (tg : Tg) {b : List CS} (hb : PSsx F nm b) : PSx F nm (.forr kd srcs tg b) := by
  intro X W k N s st g a hm hk h
  cases st <;> try (simp [chkS] at h; done)
  rename_i tg' iter' b' el p
  cases el <;> simp [chkS] at h
  obtain ⟨⟨⟨⟨h0, h1⟩, h2⟩, h3⟩, h4⟩ := h
  obtain ⟨pi, fs⟩ := pi_of (W := W) g a (fun c _ => sound c) h1 h2
  refine PS.imp (ps_for g.po (g.calm h0) pi (pg_of g a tg tg' h3) (hb X W k N s _ g a hm hk h4) fs) fun D σ H ⟨μ, env, st, he, sr, t⟩ => ?_
  rw [evS] at t
  refine ⟨μ, env, st, he, sr, tX.be t he fun ds st1 μ1 H1 vs e1 s1 r1 t1 => ?_⟩
  have hw0 : ∃ its, walked kd ds st1 = some its := by
    obtain ⟨fl, st', q, A⟩ := t1
    unfold FU at q
    rw [forG] at q
    cases hw : walked kd ds st1 with
    | none => rw [hw] at q; cases q
    | some its => exact ⟨its, rfl⟩
  obtain ⟨its, hw⟩ := hw0
  refine ⟨μ1, st1, ds, its, s1, r1, hw, fun J hJ => ?_⟩
  refine ⟨fun i m σ H => ∃ μ env st, Ext F.K μ1 H1 μ H ∧ EnvRep F μ H env σ ∧ SRep F.K F.G μ st H ∧ tX F W μ H (forG (walked kd ds) (fun x env => asgT tg x env) (fun env st => evSs F.P F.call b env st) m i env st) D, ⟨FU, μ1, env, st1, .refl, he.ext e1, s1, t1⟩, fun i m σ H ⟨μ, env, st, x0, he, sr, t⟩ => ?_⟩
  cases m with
  | zero => exact t.no.elim
  | succ m =>
    rw [forG] at t
    cases hw2 : walked kd ds st with
    | none => rw [hw2] at t; exact t.no.elim
    | some its2 =>
      rw [hw2] at t
      dsimp only at t
      obtain ⟨j1, j2⟩ := hJ μ st H its2 i sr (r1.ext x0) hw2
      cases hi : its2[i]? with
      | none =>
        rw [hi] at t
        exact .inl ⟨j1 hi, t.nx sr he⟩
      | some d =>
        rw [hi] at t
        dsimp only at t
        obtain ⟨jg, jy⟩ := j2 d hi
        cases ha : asgT tg d env with
        | none => rw [ha] at t; exact t.no.elim
        | some env' =>
          rw [ha] at t
          dsimp only at t
          refine .inr ⟨jg, fun σ H => ∃ μ env st, Ext F.K μ1 H1 μ H ∧ EnvRep F μ H env σ ∧ SRep F.K F.G μ st H ∧ tX F W μ H (forG (walked kd ds) (fun x env => asgT tg x env) (fun env st => evSs F.P F.call b env st) m (i + 1) env st) D, fun σ' H' hn => ⟨m, Nat.lt_succ_self m, hn⟩, fun xv H' hy => ?_⟩
          obtain ⟨s3, x3, rx⟩ := jy xv H' hy
          refine ⟨μ, env, d, env', he.ext x3, rx, ha, fun σ2 he2 _ => ?_⟩
          refine ⟨μ, env', st, he2, s3, ?_⟩
          obtain ⟨fl, st', q, A⟩ := t
          cases hv : evSs F.P F.call b env' st with
          | none => rw [hv] at q; cases q
          | some p =>
            obtain ⟨f1, st2⟩ := p
            rw [hv] at q
            have A' := A.ext x3
            cases f1 with
            | nx env1 => exact ⟨.nx env1, st2, rfl, fun μ2 H2 σ2 x2 s2 he2 => ⟨μ2, env1, st2, (x0.trans x3).trans x2, he2, s2, fl, st', q, A'.ext x2⟩⟩
            | ct env1 => exact ⟨.ct env1, st2, rfl, fun μ2 H2 σ2 x2 s2 he2 => ⟨μ2, env1, st2, (x0.trans x3).trans x2, he2, s2, fl, st', q, A'.ext x2⟩⟩
            | bk env1 => cases q; exact ⟨.bk env1, _, rfl, A'⟩
            | rt d => cases q; exact ⟨_, _, rfl, A'⟩
            | exc _ _ _ => cases q; exact ⟨_, _, rfl, A'⟩
end
end Mini

set_option Elab.async false
set_option linter.all false
set_option maxRecDepth 100000
set_option maxHeartbeats 4000000
namespace Mini
open PySem L2
section
variable {F : Fix} {nm : Nat → Str}
/-- a field is stored -/
theorem fset_ok {X : Cx} {W : WX} {k : Nat} {hot : Bool} (g : Good F nm X W k hot) {μ : List Addr} {H : Hp} {st st' : Sto} {x y : D} {v w : V} {f : Nat} (hf : fldOk nm f = true) (sr : SRep F.K F.G μ st H) (rx : Rep F.K F.G μ H x v) (ry : Rep F.K F.G μ H y w) (e : fsetD F.P x f y st = some st') :
    ∃ a C dx fs, v = .ref a ∧ H a = some (.ins C dx fs) ∧ Cls X.K C ∧ NoAttr X.K C (nm f) ∧ fs.length < 1000 ∧ Ext F.K μ H μ (upd H a (.ins C dx (putF (nm f) w fs))) ∧ SRep F.K F.G μ st' (upd H a (.ins C dx (putF (nm f) w fs))) := by
  unfold fsetD at e
  cases hi : insD st x with
  | none => rw [hi] at e; cases e
  | some q =>
    obtain ⟨i, c, fs⟩ := q
    rw [hi] at e
    dsimp only at e
    split at e
    · rename_i hc
      cases e
      obtain ⟨a, C, dx, vs, rfl, rfl, b1, b2, b3, b4, b5, b6, b7⟩ := insD_rep sr rx hi
      obtain ⟨n1, n2⟩ := noMth_of g hc.1 hf b6
      have ne : dx ≠ a := fun z => by rw [z, b3] at b4; cases b4
      have ex : Ext F.K μ H μ (upd H a (.ins C dx (putF (nm f) w vs))) := Ext.write sr b1
      refine ⟨a, C, dx, vs, rfl, b3, n1, n2, by rw [repF_len b7]; omega, ex, sr.writeO b1 ⟨C, dx, _, upd_same, by rw [upd_ne ne]; exact b4, b5, b6, ?_⟩⟩
      exact (repF_put g hf ry b7).ext ex
    · cases e
theorem st_fset (o : CE) (f : Nat) (e : CE) : PSx F nm (.fset o f e) := by
  intro X W k N s st g a hm hk h
  cases st <;> try (simp [chkS] at h; done)
  rename_i tgs e' p
  simp only [chkS] at h
  cases hts : attrT tgs with
  | none => rw [hts] at h; cases h
  | some q =>
    obtain ⟨o', name, px⟩ := q
    rw [hts] at h
    have e0 := attrT_eq hts
    subst e0
    simp at h
    obtain ⟨⟨⟨⟨rfl, h1⟩, h2⟩, h3⟩, h4⟩ := h
    refine PS.imp (ps_fld ((sound o X W k N s _ g a).1 h2) ((sound e X W k N s _ g a).1 h3) (swaps_no h4)) fun D σ H ⟨μ, env, st, he, sr, t⟩ => ?_
    rw [evS] at t
    refine ⟨μ, env, st, he, sr, tX.be t he fun y st1 μ1 H1 w e1 s1 r1 t1 => ?_⟩
    refine ⟨μ1, env, st1, he.ext e1, s1, tX.be t1 (he.ext e1) fun x st2 μ2 H2 v e2 s2 r2 t2 => ?_⟩
    cases hs : fsetD F.P x f y st2 with
    | none => rw [hs] at t2; exact t2.no.elim
    | some st3 =>
      rw [hs] at t2
      obtain ⟨ad, C, dx, fs, rfl, b1, b2, b3, b4, b5, b6⟩ := fset_ok g h1 s2 r2 (r1.ext e2) hs
      exact ⟨ad, C, dx, fs, rfl, b1, b2, b3, b4, (t2.ext b5).nx b6 (((he.ext e1).ext e2).ext b5)⟩
/-- xs[i], by values -/
def rGetL (F : Fix) : V → V → Hp → VK → Prop := fun o i H Q => ∃ μ st x y d, SRep F.K F.G μ st H ∧ Rep F.K F.G μ H x o ∧ Rep F.K F.G μ H y i ∧ getL st x y = some d ∧ ∀ u, Rep F.K F.G μ H d u → Q u H
theorem get_L {X : Cx} : PGet X (rGetL F) := by
  intro pins s σ H o i ov iv Q I ro ri h
  obtain ⟨μ, st, x, y, d, sr, rx, ry, e, q⟩ := h
  unfold getL at e
  split at e
  · rename_i j n
    cases hx : litems st j with
    | none => rw [hx] at e; cases e
    | some xs =>
      rw [hx] at e
      obtain ⟨p, vs, rfl, h1, h2⟩ := litems_sq sr rx hx
      cases repI ry
      cases ro
      obtain ⟨t, rfl⟩ := ri
      obtain ⟨u, h3, h4⟩ := atI_rep h2 e
      obtain ⟨its, r, pl, hz⟩ := I.list (.inl (.inl h1))
      obtain ⟨m, k1, k2, k3, k4, k5⟩ := atI_get h3
      obtain ⟨w, ew, rw'⟩ := r.get k2
      have hl := r.length
      have hn := line63
      have fin : EP X pins σ Q w s := ⟨u, H, I, rw', q u h4⟩
      by_cases h0 : 0 ≤ n
      · have hj : n.toNat = m := by
          rw [seqIndex_of h0 k5] at k1
          exact Option.some.inj k1
        exact wpAny_getItem_list pl.isList h0 (by omega) (by rw [hj]; simpa using ew) fin
      · have hj : (n + (its.toArray.size : Int)).toNat = m := by
          rw [seqIndex_neg (by omega) k4] at k1
          rw [List.size_toArray, ← hl]
          exact Option.some.inj k1
        exact wpAny_getItem_list_neg pl.isList (by omega) (by rw [List.size_toArray] <;> omega) (by omega) (by rw [hj]; simpa using ew) fin
  · cases e
theorem st_sau (o i : CE) (op : Operator) (e : CE) : PSx F nm (.sau o i op e) := by
  intro X W k N s st g a hm hk h
  cases st <;> try (simp [chkS] at h; done)
  rename_i tg op' e' p
  cases tg <;> simp [chkS] at h
  rename_i o' i' px
  obtain ⟨⟨⟨rfl, h1⟩, h2⟩, h3⟩ := h
  have ha : ∀ ov iv new, augStore i' ov iv new = (do holding [new, ov, iv] (setItem ov iv new); release [new, ov, iv] []; pure .next) := by
    intro ov iv new
    cases i' <;> first
      | rfl
      | (cases i <;> simp [chkE] at h2)
  have hop : PIp X op (r2 F (augD op)) := op_aug g.K op
  refine PS.imp (ps_augS ((sound o X W k N s _ g a).1 h1) ((sound i X W k N s _ g a).1 h2) (get_L (F := F)) ((sound e X W k N s _ g a).1 h3) hop (set_st (F := F)) ha) fun D σ H ⟨μ, env, st, he, sr, t⟩ => ?_
  rw [evS] at t
  refine ⟨μ, env, st, he, sr, tX.be t he fun x st1 μ1 H1 v e1 s1 r1 t1 => ?_⟩
  refine ⟨μ1, env, st1, he.ext e1, s1, tX.be t1 (he.ext e1) fun y st2 μ2 H2 u e2 s2 r2 t2 => ?_⟩
  cases hd : getL st2 x y with
  | none => rw [hd] at t2; exact t2.no.elim
  | some z =>
    rw [hd] at t2
    refine ⟨μ2, st2, x, y, z, s2, r1.ext e2, r2, hd, fun uz rz => ?_⟩
    refine ⟨μ2, env, st2, (he.ext e1).ext e2, s2, tX.be t2 ((he.ext e1).ext e2) fun q st3 μ3 H3 w3 e3 s3 r3 t3 => ?_⟩
    refine ⟨W, σ, μ3, st3, z, q, s3, rz.ext e3, r3, tX.be t3 (((he.ext e1).ext e2).ext e3) fun zz st4 μ4 H4 w4 e4 s4 r4 t4 => ?_⟩
    cases hs : stsubD x y zz st4 with
    | none => rw [hs] at t4; exact t4.no.elim
    | some st5 =>
      rw [hs] at t4
      refine ⟨μ4, st4, x, y, zz, st5, s4, ((r1.ext e2).ext e3).ext e4, (r2.ext e3).ext e4, r4, hs, fun H5 e5 s5 => ?_⟩
      exact (t4.ext e5).nx s5 (((((he.ext e1).ext e2).ext e3).ext e4).ext e5)
theorem st_fau (o : CE) (f : Nat) (op : Operator) (e : CE) : PSx F nm (.fau o f op e) := by
  intro X W k N s st g a hm hk h
  cases st <;> try (simp [chkS] at h; done)
  rename_i tg op' e' p
  cases tg <;> simp [chkS] at h
  obtain ⟨⟨⟨⟨rfl, h1⟩, rfl⟩, h2⟩, h3⟩ := h
  have hop : InOp X op (r2 F (augD op)) := op_aug g.K op
  refine PS.imp (ps_fldaug ((sound o X W k N s _ g a).1 h2) ((sound e X W k N s _ g a).1 h3) hop) fun D σ H ⟨μ, env, st, he, sr, t⟩ => ?_
  rw [evS] at t
  refine ⟨μ, env, st, he, sr, tX.be t he fun x st1 μ1 H1 v e1 s1 r1 t1 => ?_⟩
  cases hd : fldD F.P st1 x f with
  | none => rw [hd] at t1; exact t1.no.elim
  | some y =>
    rw [hd] at t1
    dsimp only at t1
    unfold fldD at hd
    cases hi : insD st1 x with
    | none => rw [hi] at hd; cases hd
    | some q =>
      obtain ⟨i, c, fs⟩ := q
      rw [hi] at hd
      dsimp only at hd
      split at hd
      · rename_i hc
        have r1' := r1
        obtain ⟨ad, C, dx, vs, rfl, rfl, b1, b2, b3, b4, b5, b6, b7⟩ := insD_rep s1 r1 hi
        obtain ⟨n1, n2⟩ := noMth_of g hc h1 b6
        obtain ⟨u, l1, l2⟩ := (repF_get g h1 b7).1 y hd
        refine ⟨ad, C, dx, vs, u, rfl, b3, n1, n2, l1, μ1, env, st1, he.ext e1, s1, tX.be t1 (he.ext e1) fun z st2 μ2 H2 w e2 s2 r2 t2 => ?_⟩
        refine ⟨W, σ, μ2, st2, y, z, s2, l2.ext e2, r2, tX.be t2 ((he.ext e1).ext e2) fun zz st3 μ3 H3 w3 e3 s3 r3 t3 => ?_⟩
        split at t3
        rotate_left
        · exact t3.no.elim
        rename_i hcl
        cases hs : fsetD F.P (.obj i) f zz st3 with
        | none => rw [hs] at t3; exact t3.no.elim
        | some st4 =>
          rw [hs] at t3
          have r1x := (r1'.ext e2).ext e3
          obtain ⟨ad2, C2, dx2, fs2, z1, c1, c2, c3, c4, c5, c6⟩ := fset_ok g h1 s3 r1x r3 hs
          cases z1
          have hC : C2 = C := by
            unfold clsD at hcl
            rw [hi] at hcl
            cases hi3 : insD st3 (.obj i) with
            | none => rw [hi3] at hcl; cases hcl
            | some q3 =>
              obtain ⟨i3, c3', fs3⟩ := q3
              rw [hi3] at hcl
              have hcc : c3' = c := by simpa using hcl
              subst hcc
              obtain ⟨ad3, C3, dx3, vs3, _, y2, y3, y4, y5, y6, y7, y8, y9⟩ := insD_rep s3 r1x hi3
              cases y2
              rw [c1] at y5
              cases y5
              unfold noMth at hc
              split at hc
              · rename_i cl hcl2
                exact g.gu _ cl _ _ hcl2 y8 b6
              · cases hc
          subst hC
          exact ⟨dx2, fs2, c1, c4, (t3.ext c5).nx c6 ((((he.ext e1).ext e2).ext e3).ext c5)⟩
      · cases hd
/-! ### try -/
/-- within a suite: the error handled is the one at ad -/
def Fix.suite (F : Fix) (ad : Addr) (cls : Value) (d : Option Addr) : Fix := { F with hx := fun c v dd => v = .ref ad ∧ dd = d ∧ ∃ C ns, F.xc c = some (C, ns) ∧ cls = .ref C }
theorem Good.tr {X : Cx} {W : WX} {k : Nat} {hot : Bool} (g : Good F nm X W k hot) (hh : hot = false) {W' : WX} {pn : List (Addr × Obj)} {xe : Value → Shared → Prop} (tk : Takes (X.tr pn xe) W') (po : PassesOwn (model X.prog X.w) X.A X.env xe) : Good F nm (X.tr pn xe) W' k hot :=
  ⟨g.K, g.calm, tk, po, g.room, g.k2, g.nh, g.un, g.nd, g.bl, g.gl, g.fn, g.cl, g.gt, g.gv, g.kd, g.gf, g.gi, g.inj, g.gu, g.cs, g.xs, (fun z => by rw [hh] at z; cases z), g.hn, g.xm⟩
theorem Good.suite {X : Cx} {W : WX} {k : Nat} {hot : Bool} (g : Good F nm X W k hot) {ad : Addr} {oe : Obj} {cls : Value} {d : Option Addr} {pn : List (Addr × Obj)} (hz : Zc cls d oe) (hf : ∃ vs, oe.data = .fields vs) : Good (F.suite ad cls d) nm (X.suite ad ((ad, oe) :: pn)) W0 k true := by
  refine ⟨g.K, (fun z => by cases z), takes0, PassesOwn.never, (fun z => by cases z), g.k2, (fun z => by cases z), g.un, g.nd, g.bl, g.gl, g.fn, g.cl, g.gt, g.gv, g.kd, g.gf, g.gi, g.inj, g.gu, g.cs, g.xs, fun _ => ⟨X, ad, oe, pn, rfl, ?_⟩, g.hn, g.xm⟩
  rintro c v dd ⟨rfl, rfl, C, ns, h1, rfl⟩
  exact ⟨rfl, C, ns, h1, hz, hf⟩
theorem noExn_get : ∀ {env : Env}, noExn env = true → ∀ (i c : Nat) fs, env[i]? ≠ some (some (.exn c fs))
  | [], _, i, c, fs, z => by simp at z
  | none :: r, h, 0, c, fs, z => by simp at z
  | some d :: r, h, 0, c, fs, z => by
    simp at z
    subst z
    simp [noExn] at h
  | none :: r, h, i + 1, c, fs, z => noExn_get (env := r) (by simpa [noExn] using h) i c fs (by simpa using z)
  | some d :: r, h, i + 1, c, fs, z => by
    have h' : noExn r = true := by
      cases d <;> first
        | (simpa [noExn] using h)
        | (simp [noExn] at h)
    exact noExn_get h' i c fs (by simpa using z)
/-- behind a suite -/
theorem env_out {ad : Addr} {cls : Value} {d : Option Addr} {μ : List Addr} {H : Hp} {env : Env} {σ : L2.St} (h : EnvRep (F.suite ad cls d) μ H env σ) (n : noExn env = true) : EnvRep F μ H env σ :=
  ⟨h.len, h.at_, fun i c fs q => absurd q (noExn_get n i c fs)⟩
theorem env_out_set {ad : Addr} {cls : Value} {d : Option Addr} {μ : List Addr} {H : Hp} {env : Env} {σ : L2.St} {i : Nat} (h : EnvRep (F.suite ad cls d) μ H env σ) (n : noExn (env.set i none) = true) : EnvRep F μ H (env.set i none) (σ.set i none) := by
  refine ⟨by simp [h.len], fun j x q nx => ?_, fun j c fs q => absurd q (noExn_get n j c fs)⟩
  by_cases hj : i = j
  · subst hj
    by_cases hl : i < env.length
    · rw [List.getElem?_set_self hl] at q; cases q
    · rw [List.set_eq_of_length_le (by omega)] at q
      obtain ⟨z, _⟩ := List.getElem?_eq_some_iff.mp q
      exact absurd z hl
  · rw [List.getElem?_set_ne hj] at q ⊢
    exact h.at_ j x q nx
/-- into a suite -/
theorem env_in {X : Cx} {W : WX} {k : Nat} {hot : Bool} (g : Good F nm X W k hot) (hh : hot = false) {ad : Addr} {cls : Value} {d : Option Addr} {μ : List Addr} {H : Hp} {env : Env} {σ : L2.St} (h : EnvRep F μ H env σ) : EnvRep (F.suite ad cls d) μ H env σ :=
  ⟨h.len, h.at_, fun i c fs q => by
    obtain ⟨v, dd, _, _, _, _, h2, _⟩ := h.ex_ i c fs q
    exact absurd h2 (g.nh hh c v dd)⟩
theorem env_in_set {X : Cx} {W : WX} {k : Nat} {hot : Bool} (g : Good F nm X W k hot) (hh : hot = false) {ad : Addr} {cls : Value} {d : Option Addr} {μ : List Addr} {H : Hp} {env : Env} {σ : L2.St} {i c : Nat} {fs : List D} {vs : List V} (h : EnvRep F μ H env σ) (r : RepL F.K F.G μ H fs vs) (x : XR F c vs cls d μ H) :
    EnvRep (F.suite ad cls d) μ H (env.set i (some (.exn c fs))) (σ.set i (some (.ref ad))) := by
  have h' := env_in (ad := ad) (cls := cls) (d := d) g hh h
  refine ⟨by simp [h.len], fun j y q nx => ?_, fun j c' fs' q => ?_⟩
  · by_cases hj : i = j
    · subst hj
      by_cases hl : i < env.length
      · rw [List.getElem?_set_self hl] at q
        cases q
        cases nx
      · rw [List.set_eq_of_length_le (by omega)] at q
        obtain ⟨z, _⟩ := List.getElem?_eq_some_iff.mp q
        exact absurd z hl
    · rw [List.getElem?_set_ne hj] at q ⊢
      exact h.at_ j y q nx
  · by_cases hj : i = j
    · subst hj
      by_cases hl : i < env.length
      · rw [List.getElem?_set_self hl] at q
        cases q
        obtain ⟨C, ns, x1, x2, x3, x4⟩ := x
        exact ⟨.ref ad, d, C, ns, vs, by rw [List.getElem?_set_self (by rw [← h.len]; exact hl)], ⟨rfl, rfl, C, ns, x1, x2⟩, x1, r, x3, x4⟩
      · rw [List.set_eq_of_length_le (by omega)] at q
        obtain ⟨z, _⟩ := List.getElem?_eq_some_iff.mp q
        exact absurd z hl
    · rw [List.getElem?_set_ne hj] at q ⊢
      exact h'.ex_ j c' fs' q
theorem suite_in {X : Cx} {W : WX} {k : Nat} {hot : Bool} (g : Good F nm X W k hot) (hh : hot = false) {ad : Addr} {cls : Value} {d : Option Addr} {μ : List Addr} {H : Hp} {env : Env} {σ : L2.St} {st : Sto} {c : Nat} {fs : List D} {vs : List V} {b : List CS} {D : Ends} (he : EnvRep F μ H env σ) (sr : SRep F.K F.G μ st H) (r : RepL F.K F.G μ H fs vs) (x : XR F c vs cls d μ H) :
    (tX F W μ H (suiteN (evSs F.P F.call b env st)) D → tSs (F.suite ad cls d) W0 b D σ H) ∧
    ∀ i, tX F W μ H (suiteI i (evSs F.P F.call b (env.set i (some (.exn c fs))) st)) D → tSs (F.suite ad cls d) W0 b (endsI D i) (σ.set i (some (.ref ad))) H := by
  constructor
  · intro t
    refine ⟨μ, env, st, env_in g hh he, sr, ?_⟩
    obtain ⟨fl, st', q, A⟩ := t
    show tX (F.suite ad cls d) W0 μ H (evSs F.P F.call b env st) D
    cases hv : evSs F.P F.call b env st with
    | none => rw [hv] at q; cases q
    | some p =>
      obtain ⟨f1, st1⟩ := p
      rw [hv] at q
      unfold suiteN at q
      cases f1 with
      | exc _ _ _ => cases q
      | rt dd => cases q; exact ⟨_, _, rfl, A⟩
      | nx env1 =>
        dsimp only at q
        split at q
        · rename_i hn
          cases q
          exact ⟨_, _, rfl, fun μ2 H2 σ2 e2 s2 he2 => A μ2 H2 σ2 e2 s2 (env_out he2 hn)⟩
        · cases q
      | bk env1 =>
        dsimp only at q
        split at q
        · rename_i hn
          cases q
          exact ⟨_, _, rfl, fun μ2 H2 σ2 e2 s2 he2 => A μ2 H2 σ2 e2 s2 (env_out he2 hn)⟩
        · cases q
      | ct env1 =>
        dsimp only at q
        split at q
        · rename_i hn
          cases q
          exact ⟨_, _, rfl, fun μ2 H2 σ2 e2 s2 he2 => A μ2 H2 σ2 e2 s2 (env_out he2 hn)⟩
        · cases q
  · intro i t
    refine ⟨μ, env.set i (some (.exn c fs)), st, env_in_set g hh he r x, sr, ?_⟩
    obtain ⟨fl, st', q, A⟩ := t
    show tX (F.suite ad cls d) W0 μ H (evSs F.P F.call b (env.set i (some (.exn c fs))) st) (endsI D i)
    cases hv : evSs F.P F.call b (env.set i (some (.exn c fs))) st with
    | none => rw [hv] at q; cases q
    | some p =>
      obtain ⟨f1, st1⟩ := p
      rw [hv] at q
      unfold suiteI at q
      cases f1 with
      | exc _ _ _ => cases q
      | rt dd => cases q; exact ⟨_, _, rfl, A⟩
      | nx env1 =>
        dsimp only at q
        split at q
        · rename_i hn
          cases q
          exact ⟨_, _, rfl, fun μ2 H2 σ2 e2 s2 he2 => A μ2 H2 _ e2 s2 (env_out_set he2 hn)⟩
        · cases q
      | bk env1 =>
        dsimp only at q
        split at q
        · rename_i hn
          cases q
          exact ⟨_, _, rfl, fun μ2 H2 σ2 e2 s2 he2 => A μ2 H2 _ e2 s2 (env_out_set he2 hn)⟩
        · cases q
      | ct env1 =>
        dsimp only at q
        split at q
        · rename_i hn
          cases q
          exact ⟨_, _, rfl, fun μ2 H2 σ2 e2 s2 he2 => A μ2 H2 _ e2 s2 (env_out_set he2 hn)⟩
        · cases q
/-- what is shown of handlers -/
theorem names_one {X : Cx} {x : Str} {cv cw : Value} (h : X.mg x = some cv ∨ (X.mg x = none ∧ bootBuiltins x = some cv ∧ x ≠ "__name__")) (h' : X.mg x = some cw ∨ (X.mg x = none ∧ bootBuiltins x = some cw ∧ x ≠ "__name__")) : cv = cw := by
  rcases h with h | ⟨h1, h2, _⟩ <;> rcases h' with k | ⟨k1, k2, _⟩
  · rw [h] at k; exact Option.some.inj k
  · rw [h] at k1; cases k1
  · rw [h1] at k; cases k
  · rw [h2] at k2; exact Option.some.inj k2
theorem clauses_of {X : Cx} {W : WX} {k : Nat} {N : List Str} {s : Sc} (g : Good F nm X W k s.hot) (hh : s.hot = false) (a : At X N s) (hm : Stm X) (hk : s.sc.kind = .function) : ∀ {hs : List CS} {hs' : List ExceptHandler}, (∀ h ∈ hs, ∀ c sl b, h = .hdl c sl b → ∀ F', PSsx F' nm b) → chkHs nm N s hs hs' = true → hdsB F.P hs = true →
    ∃ l, Clauses X hs' l ∧ ∀ (D : Ends) μ H env σ st c fs vs cls d, EnvRep F μ H env σ → SRep F.K F.G μ st H → RepL F.K F.G μ H fs vs → XR F c vs cls d μ H → tX F W μ H (evHs F.P F.call hs c fs env st) D → wHs X.K W D l cls d σ H
  | [], hs', _, h, _ => by
    cases hs' with
    | cons _ _ => simp [chkHs] at h
    | nil =>
      refine ⟨[], .nil, fun D μ H env σ st c fs vs cls d he sr r x t => ?_⟩
      rw [evHs] at t
      obtain ⟨fl, st', q, A⟩ := t
      cases q
      exact A μ H σ vs cls d .refl sr he r x
  | h0 :: hs, hs', ih, h, hb => by
    cases hs' with
    | nil => simp [chkHs] at h
    | cons e es =>
      unfold chkHs at h
      rw [Bool.and_eq_true] at h
      cases h0 <;> try (simp [chkH] at h; done)
      rename_i c' sl b
      unfold hdsB at hb
      rw [Bool.and_eq_true] at hb
      obtain ⟨l, cl, hl⟩ := clauses_of g hh a hm hk (hs := hs) (hs' := es) (fun h hm => ih h (List.mem_cons_of_mem _ hm)) h.2 hb.2
      obtain ⟨hc, _⟩ := h
      unfold chkH at hc
      cases hq : clauseT e with
      | none => rw [hq] at hc; cases hc
      | some q =>
        obtain ⟨x, n, b', p1, p2⟩ := q
        rw [hq] at hc
        have e0 := clauseT_eq hq
        subst e0
        simp at hc
        obtain ⟨⟨⟨⟨rfl, c1⟩, c2⟩, c3⟩, c4⟩ := hc
        obtain ⟨cv, n0, n1⟩ := g.hn c' hb.1
        have nam : Names X (nm c') cv := ⟨gl_of a c1, n0, n1⟩
        have su : ∀ (ad : Addr) (oe : Obj) (cls : Value) (d : Option Addr) (pn : List (Addr × Obj)), Zc cls d oe → (∃ vs, oe.data = .fields vs) → PSs (X.suite ad ((ad, oe) :: pn)) b' (tSs (F.suite ad cls d) W0 b) := by
          intro ad oe cls d pn hz hf
          exact ih _ List.mem_cons_self c' sl b rfl _ _ W0 k N ⟨s.sc, s.fn, true⟩ b' (g.suite hz hf) ⟨a.N, a.sc, a.fn⟩ hm hk c3
        cases b' with
        | nil =>
          cases b with
          | nil => exact absurd rfl c4
          | cons _ _ => simp [chkSs] at c3
        | cons b0 bs =>
          have wish : ∀ (D : Ends) μ H env σ st c fs vs cls d, EnvRep F μ H env σ → SRep F.K F.G μ st H → RepL F.K F.G μ H fs vs → XR F c vs cls d μ H → tX F W μ H (evHs F.P F.call (.hdl c' sl b :: hs) c fs env st) D → wHs X.K W D ((cv, sl, fun ad cls d => tSs (F.suite ad cls d) W0 b) :: l) cls d σ H := by
            intro D μ H env σ st c fs vs cls d he sr r x t
            rw [evHs] at t
            simp only [evH] at t
            cases hs2 : F.P.sub c c' with
            | none => rw [hs2] at t; exact t.no.elim
            | some bb =>
              rw [hs2] at t
              have x' := x
              obtain ⟨C, ns, x1, rfl, x3, x4⟩ := x
              obtain ⟨cw, vc, y0, y1, y2, y3, y4, y5, y6⟩ := g.xm c c' bb C ns hs2 x1
              have := names_one n1 y1
              subst this
              refine ⟨bb, y4, fun hb1 ad had => ?_, fun hb1 => ?_⟩
              · subst hb1
                obtain ⟨i1, i2⟩ := suite_in (b := b) (D := D) (ad := ad) g hh he sr r x'
                cases sl with
                | none => exact i1 t
                | some i => exact i2 i t
              · subst hb1
                exact hl D μ H env σ st c fs vs _ d he sr r x' t
          cases sl with
          | none =>
            cases n with
            | some _ => simp [slotB] at c2
            | none => exact ⟨_, .bare nam su cl, wish⟩
          | some i =>
            cases n with
            | none => simp [slotB] at c2
            | some n =>
              simp [slotB] at c2
              refine ⟨_, .named nam (by rw [a.N]; exact c2.1) ?_ su cl, wish⟩
              unfold PySem.Env.kindOf
              rw [a.sc]
              exact c2.2
theorem st_tri {b hs : List CS} (hb : PSsx F nm b) (hhs : ∀ h ∈ hs, ∀ c sl b, h = .hdl c sl b → ∀ F', PSsx F' nm b) : PSx F nm (.tri b hs) := by
  intro X W k N s st g a hm hk h
  cases st <;> try (simp [chkS] at h; done)
  rename_i b' hs' el fi p
  cases el <;> try (simp [chkS] at h; done)
  cases fi <;> simp [chkS] at h
  obtain ⟨⟨⟨h0, h1⟩, h2⟩, h3⟩ := h
  by_cases hd : hdsB F.P hs = true
  rotate_left
  · refine PS.imp ps_never fun D σ H ⟨μ, env, st, he, sr, t⟩ => ?_
    rw [evS, if_neg hd] at t
    exact t.no
  obtain ⟨l, cl, hl⟩ := clauses_of g h0 a hm hk hhs h2 hd
  cases hs' with
  | nil =>
    cases hs with
    | nil => exact absurd rfl h3
    | cons _ _ => simp [chkHs] at h2
  | cons e0 es0 =>
    refine PS.imp (ps_tryL (tb := fun W' => tSs F W' b) hm.1 hm.2 g.nd g.tk (fun W' pn xe tk po => hb _ W' k N s _ (g.tr h0 tk po) ⟨a.N, a.sc, a.fn⟩ hm hk h1) cl) fun D σ H ⟨μ, env, st, he, sr, t⟩ => ?_
    rw [evS, if_pos hd] at t
    refine ⟨μ, env, st, he, sr, ?_⟩
    obtain ⟨fl, st', q, A⟩ := t
    cases hv : evSs F.P F.call b env st with
    | none => rw [hv] at q; cases q
    | some pr =>
      obtain ⟨f1, st1⟩ := pr
      rw [hv] at q
      cases f1 with
      | nx env1 => cases q; exact ⟨_, _, rfl, A⟩
      | rt d => cases q; exact ⟨_, _, rfl, A⟩
      | bk env1 => cases q; exact ⟨_, _, rfl, A⟩
      | ct env1 => cases q; exact ⟨_, _, rfl, A⟩
      | exc env1 c fs => exact ⟨.exc env1 c fs, st1, rfl, fun μ2 H2 σ2 vs cls dd e2 s2 he2 r2 x2 => hl D μ2 H2 env1 σ2 st1 c fs vs cls dd he2 s2 r2 x2 ⟨fl, st', q, A.ext e2⟩⟩
end
end Mini

set_option Elab.async false
set_option linter.all false
set_option maxRecDepth 100000
set_option maxHeartbeats 4000000
namespace Mini
open PySem L2
section
variable {F : Fix} {nm : Nat → Str}
theorem soundS (c : CS) : ∀ F, PSx F nm c := by
  have big : ∀ n, ∀ c : CS, sizeOf c < n → ∀ F, PSx F nm c := by
    intro n
    induction n with
    | zero => intro c h; omega
    | succ n ih =>
      intro c h F
      have mem : ∀ (es : List CS), sizeOf es < n → ∀ F, PSsx F nm es := fun es hs F => ss_of fun d hd => ih d (by have := List.sizeOf_lt_of_mem hd; omega) F
      cases c with
      | expr e => exact st_expr e
      | set i e => exact st_set i e
      | tgt t e => exact st_tgt t e
      | par i j a b => intro X W k N s st g a hm hk h; cases st <;> simp [chkS] at h
      | stsub o i e => exact st_stsub o i e
      | aug i op e => exact st_aug i op e
      | ret e => exact st_ret e
      | retN => exact st_retN
      | ife c a b => simp at h; exact st_ife c (mem a (by omega) F) (mem b (by omega) F)
      | whl c b => simp at h; exact st_whl c (mem b (by omega) F)
      | forr k srcs tg b => simp at h; exact st_for k srcs tg (mem b (by omega) F)
      | pass => exact st_pass
      | brk => exact st_brk
      | cont => exact st_cont
      | raise c es => exact st_raise c es
      | fset o f e => exact st_fset o f e
      | fau o f op e => exact st_fau o f op e
      | sau o i op e => exact st_sau o i op e
      | tri b hs =>
        simp at h
        refine st_tri (mem b (by omega) F) fun q hq c sl b2 e F' => mem b2 ?_ F'
        have := List.sizeOf_lt_of_mem hq
        rw [e] at this
        simp at this
        omega
      | hdl c sl b => intro X W k N s st g a hm hk h; cases st <;> simp [chkS] at h
      | newi c g => intro X W k N s st g a hm hk h; cases st <;> simp [chkS] at h
  exact big _ c (Nat.lt_succ_self _)
theorem soundSs (cs : List CS) : PSsx F nm cs := ss_of fun c _ => soundS c F
end
end Mini

set_option Elab.async false
set_option linter.all false
set_option maxRecDepth 100000
set_option maxHeartbeats 4000000
namespace Mini
open PySem L2
section
variable (P : Pg) (K : PySem.W.Frag) (G : Nat → V → Prop) (xc : Nat → Option (Addr × List Str))
/-- what is fixed at a level -/
abbrev Fx (k : Nat) : Fix := ⟨P, callN P k, K, G, xc, fun _ _ _ => False⟩
end
/-- a def of the text is that of the table -/
structure DefOk (nm : Nat → Str) (K : PySem.W.Frag) (f : Fn) (st : Stmt) (N ps : List Str) (fa : Addr) (fd : FuncData) : Prop where
  fun_ : ∃ x y, FunD K x y (defArgs st) (defBody st) (defScope st) [] [] fa fd
  binds : Binds K fd ps []
  scope : C8.scC N ps (defScope st) = true
  nps : f.ps = ps.length
  slots : f.slots = N.length
  body : chkSs nm N ⟨defScope st, fun _ => true, false⟩ f.body (defBody st) = true
/-- all that is known of the program's text -/
structure Prg (prog : Program) (w : World) (P : Pg) (K : PySem.W.Frag) (mg : Str → Option Value) (base : Heap) (G : Nat → V → Prop) (xc : Nat → Option (Addr × List Str)) (nm : Nat → Str) : Prop where
  bl : ∀ x ∈ bnames, mg x = none
  gl : ∀ g d, P.gl g = some d → ∃ v u, mg (nm g) = some u ∧ RelV v u ∧ ∀ μ H, Rep K G μ H d v
  fn : ∀ g f, P.fn g = some f → (∃ st N ps fa fd, DefOk nm K f st N ps fa fd ∧ (g < 200000 → mg (nm g) = some (.ref fa) ∧ PySem.W.keepIn K (.ref fa) = true)) ∨
    (∃ c gi fi C st N ps fa fd, f.body = [.newi c gi] ∧ f.slots = f.ps ∧ g < 200000 ∧ mg (nm g) = some (.ref C) ∧ G c (.ref C) ∧ P.fn gi = some fi ∧ Mk K C fa ∧ DefOk nm K fi st N ps fa fd)
  gt : ∀ g xs, P.gl g = some (.tup xs) → ∃ p o, mg (nm g) = some (.ref p) ∧ K.lookup p = some o ∧ o.cls = .type "tuple" ∧ o.dict = none
  gv : ∀ g f a, P.fn g = some f → G g (.ref a) → g < 200000 ∧ mg (nm g) = some (.ref a)
  kd : ∀ d, G 0 (.ref d) → ∃ es n, KDict K w d es n
  gf : ∀ f, fldOk nm f = true → G f (.str (nm f))
  gi : ∀ f n, G f (.str n) → n = nm f ∧ fldOk nm f = true
  inj : ∀ f g, fldOk nm f = true → fldOk nm g = true → nm f = nm g → f = g
  gu : ∀ c cl C C', P.cl c = some cl → G c (.ref C) → G c (.ref C') → C = C'
  cs : ∀ c cl C, P.cl c = some cl → G c (.ref C) → Cls K C ∧ (∀ f, fldOk nm f = true → cl.ms.lookup f = none → NoAttr K C (nm f)) ∧
    ∀ m g f, cl.ms.lookup m = some g → P.fn g = some f → ∃ fa st N ps fd, Meth K C (nm m) fa ∧ DefOk nm K f st N ps fa fd
  xs : ∀ c fs, P.xf c = some fs → ∃ C, xc c = some (C, fs.map nm) ∧ mg (nm c) = some (.ref C) ∧ (fs = [] ∨ fs.length ≤ 900) ∧ ExcI prog w K mg base C (fs.map nm) ∧ XfC K C ∧ ∀ f, f ∈ fs → PySem.W.findIn K (.ref C) (nm f) = some none
  hn : ∀ c', P.hcl c' = true → ∃ cv, (nm c' == ("__debug__" : Str)) = false ∧ (mg (nm c') = some cv ∨ (mg (nm c') = none ∧ bootBuiltins (nm c') = some cv ∧ nm c' ≠ "__name__"))
  xm : ∀ c c' b C ns, P.sub c c' = some b → xc c = some (C, ns) → ∃ cv vc, (nm c' == ("__debug__" : Str)) = false ∧ (mg (nm c') = some cv ∨ (mg (nm c') = none ∧ bootBuiltins (nm c') = some cv ∧ nm c' ≠ "__name__")) ∧ RelV vc cv ∧ (∀ u, RelV vc u → u = cv) ∧
    PySem.W.exmOne K (.ref C) cv = some b ∧ PySem.W.kitOne K (.ref C) cv = some b ∧ ExcC K C
section
variable {prog : Program} {w : World} {P : Pg} {K : PySem.W.Frag} {mg : Str → Option Value} {base : Heap} {G : Nat → V → Prop} {xc : Nat → Option (Addr × List Str)} {nm : Nat → Str}
theorem callN_fn {k g : Nat} {ds : List D} {st : Sto} {r : Rs D × Sto} (h : callN P k g ds st = some r) : ∃ f, P.fn g = some f ∧ ds.length = f.ps := by
  cases k with
  | zero => cases h
  | succ k =>
    unfold callN at h
    cases hf : P.fn g with
    | none => rw [hf] at h; cases h
    | some f =>
      rw [hf] at h
      dsimp only at h
      split at h
      · rename_i c; exact ⟨f, rfl, c⟩
      · cases h
theorem start_rep {F : Fix} {μ : List Addr} {H : Hp} {N : List Str} {n : Nat} (hn : n = N.length) : ∀ {ds : List D} {vs : List V}, RepL F.K F.G μ H ds vs → EnvRep F μ H (startE n ds) (L2.start N vs) := by
  intro ds vs r
  unfold startE L2.start
  have l := r.length
  have get : ∀ (i : Nat) d, (ds.map some ++ List.replicate (n - ds.length) none)[i]? = some (some d) → ds[i]? = some d := by
    intro i d q
    by_cases hi : i < ds.length
    · rw [List.getElem?_append_left (by simpa using hi), List.getElem?_map] at q
      cases hd : ds[i]? with
      | none => rw [hd] at q; cases q
      | some d' => rw [hd] at q; cases q; rfl
    · rw [List.getElem?_append_right (by simpa using hi), List.getElem?_replicate] at q
      split at q <;> cases q
  refine ⟨by simp [l, hn], fun i d q _ => ?_, fun i c fs q => ?_⟩
  · have hd := get i d q
    obtain ⟨v, q1, q2⟩ := r.get hd
    refine ⟨v, ?_, q2⟩
    have hi : i < ds.length := (List.getElem?_eq_some_iff.mp hd).1
    rw [List.getElem?_append_left (by rw [List.length_map, l]; exact hi), List.getElem?_map, q1]
    rfl
  · have hd := get i _ q
    obtain ⟨v, q1, q2⟩ := r.get hd
    have := rep_nox q2
    cases this
theorem startE_all : ∀ ds : List D, allD (startE ds.length ds) = some ds := by
  intro ds
  unfold startE
  rw [Nat.sub_self, List.replicate_zero, List.append_nil]
  induction ds with
  | nil => rfl
  | cons d ds ih =>
    rw [List.map_cons, allD, ih]
/-- a new instance -/
theorem made_rep {μ : List Addr} {st : Sto} {H : Hp} {x dx C : Addr} {c : Nat} (s : SRep K G μ st H) (hx : H x = none) (hdx : H dx = none) (ne : dx ≠ x) (hc : G c (.ref C)) :
    SRep K G (μ ++ [x]) (st ++ [.ins c []]) (upd (upd H dx (.own x)) x (.ins C dx [])) ∧ Ext K μ H (μ ++ [x]) (upd (upd H dx (.own x)) x (.ins C dx [])) := by
  have nx := s.notin hx
  have ndx := s.notin hdx
  have keep : ∀ a o, H a = some o → upd (upd H dx (.own x)) x (.ins C dx []) a = some o := fun a o e => by
    rw [upd_ne (ne_of_none e hx), upd_ne (ne_of_none e hdx)]
    exact e
  have ex : Ext K μ H (μ ++ [x]) (upd (upd H dx (.own x)) x (.ins C dx [])) := by
    refine ⟨⟨[x], rfl⟩, fun a o na e => ⟨keep a o e, fun m => ?_⟩, fun a vs h => ?_, fun a ob u e => keep a _ e⟩
    · rcases List.mem_append.mp m with m | m
      · exact na m
      · rw [List.mem_singleton.mp m, hx] at e; cases e
    · rcases h with (h | ⟨ob, h⟩) | h
      · exact .inl (.inl (keep _ _ h))
      · exact .inl (.inr ⟨ob, keep _ _ h⟩)
      · exact .inr h
  refine ⟨⟨by simp [s.len], ?_, fun i u a e1 e2 => ?_⟩, ex⟩
  · rw [List.nodup_append]
    refine ⟨s.nd, by simp, fun a ha b hb e => ?_⟩
    rw [List.mem_singleton.mp hb] at e
    exact nx (e ▸ ha)
  · by_cases hi : i < st.length
    · rw [List.getElem?_append_left hi] at e1
      rw [List.getElem?_append_left (by rw [s.len]; exact hi)] at e2
      have q := s.at_ i u a e1 e2
      cases u with
      | lst ys =>
        obtain ⟨ws, h1, h2⟩ := q
        exact ⟨ws, keep _ _ h1, h2.ext ex⟩
      | dct kvs =>
        obtain ⟨ws, h1, h2⟩ := q
        exact ⟨ws, keep _ _ h1, h2.ext ex⟩
      | ins c' fs =>
        obtain ⟨C', dx', ws, h1, h2, h3, h4, h5⟩ := q
        refine ⟨C', dx', ws, keep _ _ h1, keep _ _ h2, fun m => ?_, h4, h5.ext ex⟩
        rcases List.mem_append.mp m with m | m
        · exact h3 m
        · rw [List.mem_singleton.mp m, hx] at h2; cases h2
    · rw [List.getElem?_append_right (by omega)] at e1
      rw [List.getElem?_append_right (by rw [s.len]; omega)] at e2
      have h0 : i - st.length = 0 := by
        cases h : i - st.length with
        | zero => rfl
        | succ k => rw [h] at e1; simp at e1
      rw [h0] at e1
      rw [s.len, h0] at e2
      simp at e1 e2
      subst e1 e2
      refine ⟨C, dx, [], upd_same, by rw [upd_ne ne, upd_same], fun m => ?_, hc, rfl⟩
      rcases List.mem_append.mp m with m | m
      · exact ndx m
      · exact ne (List.mem_singleton.mp m)
/-- a class's making, by its __init__ -/
theorem made_sp {j g c gi : Nat} {f fi : Fn} {C : Addr} (hf : P.fn g = some f) (hb : f.body = [.newi c gi]) (hsl : f.slots = f.ps) (hc : G c (.ref C)) (hfi : P.fn gi = some fi) {vs : List V} {H : Hp} {Q : VK} {E : XK} (h : spF (Fx P K G xc (j + 1)) (callN P (j + 1)) g vs H Q E) {x dx : Addr} (hx : H x = none) (hdx : H dx = none) (ne : dx ≠ x) :
    spF (Fx P K G xc j) (callN P j) gi (.ref x :: vs) (upd (upd H dx (.own x)) x (.ins C dx [])) (fun v H2 => v = .non ∧ Q (.ref x) H2) E := by
  obtain ⟨μ, st, ds, r, st', sr, rd, z, A⟩ := h
  obtain ⟨s2, ex⟩ := made_rep (c := c) sr hx hdx ne hc
  unfold callN at z
  rw [hf] at z
  dsimp only at z
  split at z
  · rename_i hl
    rw [hb, hsl, ← hl, evSs, evS, startE_all, hfi] at z
    dsimp only at z
    have rx : Rep K G (μ ++ [x]) (upd (upd H dx (.own x)) x (.ins C dx [])) (.obj st.length) (.ref x) := by
      unfold Rep
      refine ⟨x, rfl, ?_⟩
      rw [← sr.len, List.getElem?_append_right (Nat.le_refl _), Nat.sub_self]
      rfl
    cases hv : callN P j gi (.obj st.length :: ds) (st ++ [.ins c []]) with
    | none => rw [hv] at z; cases z
    | some pr =>
      obtain ⟨r1, st1⟩ := pr
      rw [hv] at z
      refine ⟨μ ++ [x], st ++ [.ins c []], .obj st.length :: ds, r1, st1, s2, RepL.cons rx (rd.ext ex), hv, ?_⟩
      cases r1 with
      | exc c' fs =>
        cases z
        exact fun μ2 H2 ws cls dd e2 s3 r2 x2 => A μ2 H2 ws cls dd (ex.trans e2) s3 r2 x2
      | ok d =>
        rw [be_ok] at z
        cases d <;> try (cases z; done)
        cases z
        intro μ2 H2 v e2 s3 rv
        refine ⟨repN rv, A μ2 H2 (.ref x) (ex.trans e2) s3 (rx.ext e2)⟩
  · cases z
theorem fn_none {k : Nat} {fa : Addr} {fd : FuncData} {ps : List Str} : FnOk prog w K mg base (L2.CX prog w) k fa fd ps (fun _ _ _ _ => False) :=
  ⟨fun vs H Q E h => h.elim, fun A outer s H args us vs Q E _ _ _ _ h => h.elim⟩
theorem good_of {k : Nat} {X : Cx} {E : WX} (W : Prg X.prog X.w P X.K X.mg X.base G xc nm)
    (callee : ∀ g' f', g' < 200000 → P.fn g' = some f' → ∃ fa', X.mg (nm g') = some (.ref fa') ∧ Callee X.prog X.w X.K X.mg X.base (k + 2) fa' (spF (Fx P X.K G xc k) (callN P k) g'))
    (meths : ∀ c cl C, P.cl c = some cl → G c (.ref C) → Cls X.K C ∧ (∀ f, fldOk nm f = true → cl.ms.lookup f = none → NoAttr X.K C (nm f)) ∧
        ∀ m g f, cl.ms.lookup m = some g → P.fn g = some f → ∃ fa fd ps, Meth X.K C (nm m) fa ∧ Binds X.K fd ps [] ∧ FnOk X.prog X.w X.K X.mg X.base (L2.CX X.prog X.w) (k + 2) fa fd ps (spF (Fx P X.K G xc k) (callN P k) g))
    (nd : X.N.Nodup) (tk : Takes X E) (po : PassesOwn (model X.prog X.w) X.A X.env X.xe) (hr : Room (k + 2) X.A) (calm : X.calm = true) : Good (Fx P X.K G xc k) nm X E (k + 2) false where
  K := rfl
  calm := fun _ => calm
  tk := tk
  po := po
  room := fun _ => hr
  k2 := by omega
  nh := fun _ _ _ _ z => z
  un := hr.units
  nd := nd
  bl := W.bl
  gl := W.gl
  fn := callee
  cl := fun g' ds' st' r' h' => by
    obtain ⟨f', hf', _⟩ := callN_fn h'
    exact ⟨f', hf'⟩
  gt := W.gt
  gv := W.gv
  kd := W.kd
  gf := W.gf
  gi := W.gi
  inj := W.inj
  gu := W.gu
  cs := meths
  xs := W.xs
  hs := fun z => by cases z
  hn := W.hn
  xm := W.xm
theorem fn_all (W : Prg prog w P K mg base G xc nm) : ∀ (k g : Nat) (f : Fn) (st : Stmt) (N ps : List Str) (fa : Addr) (fd : FuncData), P.fn g = some f → DefOk nm K f st N ps fa fd →
      FnOk prog w K mg base (L2.CX prog w) (k + 2) fa fd ps (spF (Fx P K G xc k) (callN P k) g)
  | 0, g, f, st, N, ps, fa, fd, hf, d => by
    have no : ∀ vs H Q E, ¬ spF (Fx P K G xc 0) (callN P 0) g vs H Q E := fun vs H Q E ⟨_, _, _, _, _, _, _, z, _⟩ => by cases z
    exact ⟨fun vs H Q E h => absurd h (no vs H Q E), fun A outer s H args us vs Q E _ _ _ _ h => absurd h (no vs H Q E)⟩
  | k + 1, g, f, st, N, ps, fa, fd, hf, d => by
    have S := C8.fnScope_by d.scope
    obtain ⟨nx, ny, hfun⟩ := d.fun_
    have callee : ∀ g' f', g' < 200000 → P.fn g' = some f' → ∃ fa', mg (nm g') = some (.ref fa') ∧ Callee prog w K mg base (k + 2) fa' (spF (Fx P K G xc k) (callN P k) g') := by
      intro g' f' hlt hf'
      rcases W.fn g' f' hf' with ⟨st', N', ps', fa', fd', d', hm⟩ | ⟨c, gi, fi, C, st', N', ps', fa', fd', h1, h2, h3, h4, h5, h6, h7, h8⟩
      · obtain ⟨m1, m2⟩ := hm hlt
        exact ⟨fa', m1, .fn (fn_all W k g' f' st' N' ps' fa' fd' hf' d') m2 d'.binds⟩
      · refine ⟨C, h4, ?_⟩
        cases k with
        | zero =>
          refine .cl h7 (fn_none (fd := fd') (ps := ps')) h8.binds fun vs H Q E h => ?_
          obtain ⟨_, _, _, _, _, _, _, z, _⟩ := h
          cases z
        | succ j => exact .cl h7 (fn_all W j gi fi st' N' ps' fa' fd' h6 h8) h8.binds fun vs H Q E h x dx a1 a2 a3 => made_sp hf' h1 h2 h5 h6 h a1 a2 a3
    have meths : ∀ c cl C, P.cl c = some cl → G c (.ref C) → Cls K C ∧ (∀ f, fldOk nm f = true → cl.ms.lookup f = none → NoAttr K C (nm f)) ∧
        ∀ m g f, cl.ms.lookup m = some g → P.fn g = some f → ∃ fa fd ps, Meth K C (nm m) fa ∧ Binds K fd ps [] ∧ FnOk prog w K mg base (L2.CX prog w) (k + 2) fa fd ps (spF (Fx P K G xc k) (callN P k) g) := by
      intro c cl C h1 h2
      obtain ⟨c1, c2, c3⟩ := W.cs c cl C h1 h2
      refine ⟨c1, c2, fun m g' f' hm hg => ?_⟩
      obtain ⟨fa', st', N', ps', fd', m1, d'⟩ := c3 m g' f' hm hg
      exact ⟨fa', fd', ps', m1, d'.binds, fn_all W k g' f' st' N' ps' fa' fd' hg d'⟩
    refine hfun.ok S (fun vs H Q E h => ?_) (fun cdv A outer s H vs Q E hr h => ?_)
    · obtain ⟨μ, st', ds, r, st2, sr, rd, z, _⟩ := h
      obtain ⟨f', hf', hl⟩ := callN_fn z
      rw [hf] at hf'
      cases hf'
      rw [RepL.length rd, hl, d.nps]
    · obtain ⟨μ, st0, ds, r, st2, sr, rd, z, A0⟩ := h
      refine ⟨tSs (Fx P K G xc k) (fun cls dd _ H => E cls dd H) f.body, ?_, ?_⟩
      · have good : Good (Fx P K G xc k) nm (cxOf (L2.CX prog w) prog w K mg base N ny (defScope st) fa cdv A outer s H E) (fun cls dd _ H => E cls dd H) (k + 2) false :=
          good_of (X := cxOf (L2.CX prog w) prog w K mg base N ny (defScope st) fa cdv A outer s H E) W callee meths S.nd (takes_of rfl rfl rfl rfl) (passes_of rfl) hr rfl
        have at_ : At (cxOf (L2.CX prog w) prog w K mg base N ny (defScope st) fa cdv A outer s H E) N ⟨defScope st, fun _ => true, false⟩ := ⟨rfl, rfl, rfl⟩
        have stm : Stm (cxOf (L2.CX prog w) prog w K mg base N ny (defScope st) fa cdv A outer s H E) := ⟨rfl, rfl⟩
        exact soundSs f.body _ _ (k + 2) N ⟨defScope st, fun _ => true, false⟩ (defBody st) good at_ stm S.kind d.body
      · unfold callN at z
        rw [hf] at z
        dsimp only at z
        split at z
        · refine ⟨μ, startE f.slots ds, st0, start_rep d.slots rd, sr, ?_⟩
          cases hv : evSs P (callN P k) f.body (startE f.slots ds) st0 with
          | none => rw [hv] at z; cases z
          | some p =>
            obtain ⟨fl, st3⟩ := p
            rw [hv] at z
            cases fl with
            | nx env => cases z; exact ⟨.nx env, _, rfl, fun μ' H' σ' x s _ => A0 μ' H' .non x s mkN⟩
            | rt d => cases z; exact ⟨.rt d, _, rfl, fun μ' H' v x s q => A0 μ' H' v x s q⟩
            | bk env => cases z
            | ct env => cases z
            | exc env c fs => cases z; exact ⟨.exc env c fs, _, rfl, fun μ' H' σ' ws cls dd x s _ q y => A0 μ' H' ws cls dd x s q y⟩
        · cases z
end
/-! ### constants of the module -/
section
variable (K : PySem.W.Frag)
mutual
def valB : D → Value → Bool
  | .non, .none => true
  | .bl b, .bool c => b == c
  | .int i, .int j _ => decide (i = j)
  | .str z, .str x _ => decide (x = ⟨z.toArray⟩) && decide (z.length ≤ LN) && z.all (fun c => decide (c < 1114112))
  | .tup xs, .ref a => match K.lookup a with
    | some ⟨.type c, none, .seq its _, _⟩ => decide (c = "tuple") && decide (its.size ≤ LN) && valBs xs its.toList
    | _ => false
  | _, _ => false
def valBs : List D → List Value → Bool
  | [], [] => true
  | d :: ds, u :: us => valB d u && valBs ds us
  | _, _ => false
end
end
mutual
theorem valB_ok {K : PySem.W.Frag} {G : Nat → V → Prop} : ∀ (d : D) (u : Value), valB K d u = true → ∃ v, RelV v u ∧ ∀ μ H, Rep K G μ H d v
  | .non, u, h => by
    cases u <;> simp [valB] at h
    exact ⟨.non, rfl, fun μ H => by unfold Rep; rfl⟩
  | .bl b, u, h => by
    cases u <;> simp [valB] at h
    subst h
    exact ⟨.bl b, rfl, fun μ H => by unfold Rep; rfl⟩
  | .int i, u, h => by
    cases u <;> simp [valB] at h
    subst h
    exact ⟨.int i, ⟨_, rfl⟩, fun μ H => by unfold Rep; rfl⟩
  | .str z, u, h => by
    cases u <;> simp [valB] at h
    obtain ⟨⟨h1, h2⟩, h3⟩ := h
    subst h1
    exact ⟨.str ⟨z.toArray⟩, ⟨_, rfl⟩, fun μ H => by unfold Rep; exact ⟨rfl, by rw [LN_eq]; exact h2, h3⟩⟩
  | .tup xs, u, h => by
    cases u <;> try (simp [valB] at h; done)
    rename_i a
    unfold valB at h
    split at h
    · rename_i c its n sl hk
      simp only [Bool.and_eq_true, decide_eq_true_eq] at h
      obtain ⟨⟨h1, h2⟩, h3⟩ := h
      obtain ⟨vs, r, q⟩ := valBs_ok (G := G) xs its.toList h3
      refine ⟨.ref a, rfl, fun μ H => ?_⟩
      unfold Rep
      refine ⟨a, vs, rfl, .inr ⟨_, its, n, hk, by rw [h1], rfl, by rw [LN_eq]; exact h2, r⟩, q μ H⟩
    · cases h
  | .rol _, u, h => by cases u <;> simp [valB] at h
  | .obj _, u, h => by cases u <;> simp [valB] at h
  | .ty _, u, h => by cases u <;> simp [valB] at h
  | .glo _, u, h => by cases u <;> simp [valB] at h
  | .cdt _, u, h => by cases u <;> simp [valB] at h
  | .exn _ _, u, h => by cases u <;> simp [valB] at h
theorem valBs_ok {K : PySem.W.Frag} {G : Nat → V → Prop} : ∀ (ds : List D) (us : List Value), valBs K ds us = true → ∃ vs, Vals vs us ∧ ∀ μ H, RepL K G μ H ds vs
  | [], [], _ => ⟨[], .nil, fun _ _ => RepL.nil⟩
  | [], _ :: _, h => by simp [valBs] at h
  | _ :: _, [], h => by simp [valBs] at h
  | d :: ds, u :: us, h => by
    unfold valBs at h
    rw [Bool.and_eq_true] at h
    obtain ⟨v, r, q⟩ := valB_ok (G := G) d u h.1
    obtain ⟨vs, rs, qs⟩ := valBs_ok (G := G) ds us h.2
    exact ⟨v :: vs, .cons r rs, fun μ H => RepL.cons (q μ H) (qs μ H)⟩
end
def cstB (K : PySem.W.Frag) (x : Str) (d : D) : Bool := match PySem.W.nsIn K mainGlobals x with
  | some (some u) => valB K d u
  | _ => false
theorem cstB_ok {K : PySem.W.Frag} {G : Nat → V → Prop} {h : Heap} {mg : Str → Option Value} {x : Str} {d : D} (X : K.In h) (g : h.Ns mainGlobals mg) (c : cstB K x d = true) : ∃ v u, mg x = some u ∧ RelV v u ∧ ∀ μ H, Rep K G μ H d v := by
  unfold cstB at c
  split at c
  · rename_i u hu
    obtain ⟨v, r, q⟩ := valB_ok (G := G) d u c
    exact ⟨v, u, PySem.W.mg_of X g hu, r, q⟩
  · cases c
theorem cstB_tup {K : PySem.W.Frag} {h : Heap} {mg : Str → Option Value} {x : Str} {xs : List D} (X : K.In h) (g : h.Ns mainGlobals mg) (c : cstB K x (.tup xs) = true) : ∃ p o, mg x = some (.ref p) ∧ K.lookup p = some o ∧ o.cls = .type "tuple" ∧ o.dict = none := by
  unfold cstB at c
  split at c
  · rename_i u hu
    cases u <;> try (simp [valB] at c; done)
    rename_i a
    unfold valB at c
    split at c
    · rename_i c' its n sl hk
      simp only [Bool.and_eq_true, decide_eq_true_eq] at c
      exact ⟨a, _, PySem.W.mg_of X g hu, hk, by rw [c.1.1], rfl⟩
    · cases c
  · cases c
/-! ### the hook -/
def exB (cs : List (Str × D)) (K : PySem.W.Frag) : Bool := cs.all fun p => cstB K p.1 p.2
abbrev AlM : Type := He.AlD × Bool
def obsM (n : Nat) (fa : List He.Fa) (fn : List He.DefD) (cs : List (Str × D)) (g : Addr → Option Obj) : AlM := (He.obsD fa fn (He.frG g (He.asD g n)), exB cs (He.frG g (He.asD g n)))
def SaysM (fa : List He.Fa) (fn : List He.DefD) (cs : List (Str × D)) (K : PySem.W.Frag) : Prop := He.SaysD fa fn K ∧ exB cs K = true
def hookM (n : Nat) (fa : List He.Fa) (fn : List He.DefD) (cs : List (Str × D)) : PySem.W.Hook where
  α := AlM
  obs := fun s => obsM n fa fn cs s.heap.get?
  val := fun _ => (He.valD fn, true)
  says := fun _ h => ∃ K : PySem.W.Frag, K.In h ∧ SaysM fa fn cs K
  of := fun _ _ e => ⟨_, He.frG_in, congrArg (fun z : AlM => z.1) e, congrArg (fun z : AlM => z.2) e⟩
  keeps := fun _ _ _ ⟨K, hK, c⟩ k => ⟨K, PySem.W.Frag.In.keeps hK k, c⟩
theorem obsM_eq {n : Nat} {fa : List He.Fa} {fn : List He.DefD} {cs : List (Str × D)} {g : Addr → Option Obj} {s : Shared} (h : ∀ a, g a = s.heap.get? a) : obsM n fa fn cs g = (hookM n fa fn cs).obs s := by
  have e : g = s.heap.get? := funext h
  rw [e] <;> rfl
end Mini

set_option Elab.async false
set_option linter.all false
set_option maxRecDepth 100000
set_option maxHeartbeats 4000000
namespace Mini
open PySem L2
theorem FnOk.calm {P : Program} {w : World} {K : PySem.W.Frag} {mg : Str → Option Value} {base : Heap} {k : Nat} {f : Addr} {fd : FuncData} {ps : List Str} {sp : Sp} (Fo : FnOk P w K mg base (L2.CX P w) k f fd ps sp) :
    FnOk P w K mg base CX0 k f fd ps (fun vs H Q _ => sp vs H Q fun _ _ _ => False) := by
  refine ⟨fun vs H Q E h => Fo.len _ _ _ _ h, fun A outer s H args us vs Q E hr e0 hb r h => codeAny_mono (Fo.run A outer s H args us vs Q (fun _ _ _ => False) hr e0 hb r h) fun r s' hq => ?_⟩
  cases r with
  | ok fl => cases fl <;> exact hq
  | error e =>
    obtain ⟨_, _, _, _, _, _, _, _, _, _, _, _, z⟩ := (show L2.CX P w outer H s (fun _ _ _ => False) e s' from hq)
    exact z.elim
theorem ints_rol {K : PySem.W.Frag} {G : Nat → V → Prop} {μ : List Addr} {H : Hp} : ∀ ns : List Int, RepL K G μ H (ns.map .int) (ns.map V.int)
  | [] => RepL.nil
  | n :: ns => RepL.cons (by unfold Rep; rfl) (ints_rol ns)
theorem law_sp {F : Fix} {call : Nat → List D → Sto → Mx D} {g : Nat} {H : Hp} {a : Addr} {ns : List Int} (hO : Only H) (hS : SqL F.K H a (ns.map V.int)) {st' : Sto} (h : call g [.rol (ns.map .int)] [] = some (.ok (.bl true), st')) : spF F call g [.ref a] H (fun v _ => v = .bl true) (fun _ _ _ => False) := by
  have fz : Fz F.K H a (ns.map V.int) := by
    rcases hS with (q | q) | q
    · rcases hO a with z | ⟨o, xs, z⟩
      · rw [z] at q; cases q
      · rw [z] at q; cases q
    · exact .inl q
    · exact .inr q
  refine ⟨[], [], [.rol (ns.map .int)], .ok (.bl true), st', ⟨rfl, by simp, fun i o a e => by simp at e⟩, RepL.cons ?_ RepL.nil, h, fun μ' H' v _ _ r => repB r⟩
  unfold Rep
  exact ⟨a, _, rfl, fz, ints_rol ns⟩
theorem mem_of_lookup' {α : Type} {g : Nat} {f : α} : ∀ {l : List (Nat × α)}, l.lookup g = some f → (g, f) ∈ l
  | [], h => by simp at h
  | (k, v) :: r, h => by
    rw [List.lookup_cons] at h
    split at h
    · rename_i e
      cases h
      have : g = k := by simpa using e
      subst this
      exact List.mem_cons_self
    · exact List.mem_cons_of_mem _ (mem_of_lookup' h)
end Mini
namespace He
open PySem L2
theorem SaysD.facts' {fa : List Fa} {fn : List DefD} {K : PySem.W.Frag} (c : SaysD fa fn K) {f : Fa} (h : f ∈ fa) : f.ok K = true := by
  obtain ⟨i, hi, e⟩ := List.mem_iff_getElem.mp h
  exact c.fact i (f := f) (by rw [List.getElem?_eq_getElem hi, e])
theorem SaysD.defs' {fa : List Fa} {fn : List DefD} {K : PySem.W.Frag} (c : SaysD fa fn K) {d : DefD} (h : d ∈ fn) : ∃ fd, FunD K d.name d.qual d.params d.body d.scope (d.dvs K) (d.kws K) (fAd K d.at_) fd := by
  obtain ⟨i, hi, e⟩ := List.mem_iff_getElem.mp h
  exact c.def_ i (d := d) (by rw [List.getElem?_eq_getElem hi, e])
end He

set_option Elab.async false
set_option linter.all false
set_option maxRecDepth 100000
set_option maxHeartbeats 4000000
namespace Mini
open PySem L2
/-- a program without classes, errors and fields of its own -/
theorem prg_plain {prog : Program} {w : World} {P : Pg} {K : PySem.W.Frag} {mg : Str → Option Value} {base : Heap} {nm : Nat → Str} (hbl : ∀ x ∈ bnames, mg x = none)
    (hgl : ∀ g d, P.gl g = some d → ∃ v u, mg (nm g) = some u ∧ RelV v u ∧ ∀ μ H, Rep K (fun _ _ => False) μ H d v)
    (hfn : ∀ g f, P.fn g = some f → ∃ st N ps fa fd, DefOk nm K f st N ps fa fd ∧ mg (nm g) = some (.ref fa) ∧ PySem.W.keepIn K (.ref fa) = true)
    (hgt : ∀ g xs, P.gl g = some (.tup xs) → ∃ p o, mg (nm g) = some (.ref p) ∧ K.lookup p = some o ∧ o.cls = .type "tuple" ∧ o.dict = none)
    (hcl : ∀ c, P.cl c = none) (hsub : ∀ c c', P.sub c c' = none) (hh : ∀ c, P.hcl c = false) (hx : ∀ c, P.xf c = none) (hfo : ∀ f, fldOk nm f = false) :
    Prg prog w P K mg base (fun _ _ => False) (fun _ => none) nm where
  bl := hbl
  gl := hgl
  fn := fun g f h => .inl (by
    obtain ⟨st, N, ps, fa, fd, d, h1, h2⟩ := hfn g f h
    exact ⟨st, N, ps, fa, fd, d, fun _ => ⟨h1, h2⟩⟩)
  gt := hgt
  gv := fun _ _ _ _ z => z.elim
  kd := fun _ z => z.elim
  gf := fun f h => by rw [hfo] at h; cases h
  gi := fun _ _ z => z.elim
  inj := fun f _ h => by rw [hfo] at h; cases h
  gu := fun c _ _ _ h => by rw [hcl] at h; cases h
  cs := fun c _ _ h => by rw [hcl] at h; cases h
  xs := fun c _ h => by rw [hx] at h; cases h
  hn := fun c h => by rw [hh] at h; cases h
  xm := fun c c' _ _ _ h => by rw [hsub] at h; cases h
theorem lookup_far {α : Type} {f : Nat} : ∀ {l : List (Nat × α)}, (l.all fun p => decide (p.1 < 100000)) = true → 100000 ≤ f → l.lookup f = none
  | [], _, _ => rfl
  | (k, v) :: r, h, hf => by
    rw [List.all_cons, Bool.and_eq_true, decide_eq_true_eq] at h
    rw [List.lookup_cons]
    have : (f == k) = false := by
      rw [beq_eq_false_iff_ne]
      omega
    rw [this]
    exact lookup_far h.2 hf
theorem fld_none {nms : List (Nat × Str)} (h : (nms.all fun p => decide (p.1 < 100000)) = true) (f : Nat) : fldOk (fun g => (nms.lookup g).getD "?") f = false := by
  unfold fldOk
  by_cases hf : 100000 ≤ f
  · dsimp only
    rw [lookup_far h hf, Option.getD_none]
    simp
  · simp [hf]
end Mini

set_option Elab.async false
set_option linter.all false
set_option maxRecDepth 100000
set_option maxHeartbeats 4000000
namespace Mini
open PySem L2
/-! ### what a head must look at, as Bools -/
def oexB (K : PySem.W.Frag) (C : Addr) : Bool := (match K.lookup C with
  | some ⟨.type "type", _, .cls cd, sl⟩ => (match cd.mro, sl.toList with
    | .ref C' :: bm, [_, _, _, _, some (.builtin n), _] => C' == C && n == "ValueError.__new__" && !cd.hasDel && cd.hasDict && PySem.HandSPX.refsVE bm
    | _, _ => false)
  | _ => false) && (He.eqO (PySem.W.findIn K (.ref C) "__setattr__") (some (some (.builtin "object.__setattr__"))) && (decide (PySem.W.subIn K (.ref C) (.type "BaseException") = some true) && (decide (PySem.W.typeIn K (.ref C) = some (.type "type")) && PySem.W.keepIn K (.ref C))))
theorem oexB_ok {K : PySem.W.Frag} {C : Addr} (h : oexB K C = true) : OexC K C := by
  obtain ⟨q, h⟩ := He.ba h
  obtain ⟨h1, h⟩ := He.ba h
  obtain ⟨h2, h⟩ := He.ba h
  obtain ⟨h3, h4⟩ := He.ba h
  refine ⟨?_, He.eqO_ok h1, of_decide_eq_true h2, of_decide_eq_true h3, h4⟩
  split at q
  · rename_i dd cd sl ho
    split at q
    · rename_i C' bm k0 k1 k2 k3 n k5 hm hs
      simp only [Bool.and_eq_true, beq_iff_eq, Bool.not_eq_true'] at q
      obtain ⟨⟨⟨⟨rfl, rfl⟩, hdel⟩, hdd⟩, ht⟩ := q
      obtain ⟨nm, bs, mro, ns, qn, hd, sn, sub, ab, col, del⟩ := cd
      dsimp only at hm hdel hdd
      subst hm hdel hdd
      have hsl : sl = #[k0, k1, k2, k3, some (.builtin "ValueError.__new__"), k5] := by
        obtain ⟨l⟩ := sl
        simp only at hs
        rw [hs]
      subst hsl
      exact ⟨nm, qn, ns, bs, bm, sn, sub, ab, col, dd, k0, k1, k2, k3, k5, ho, ht⟩
    · cases q
  · cases q
def exccB (K : PySem.W.Frag) (D : Addr) : Bool := He.eqO (PySem.W.findIn K (.ref D) "__getattribute__") (some (some (.builtin "BaseException.__getattribute__"))) && (He.eqO (PySem.W.findIn K (.ref D) "__getattr__") (some none) && (decide (PySem.W.subIn K (.ref D) (.type "BaseException") = some true) && (PySem.W.hasDictIn K D &&
  (He.eqO (PySem.W.findIn K (.ref D) "__class__") (some (some (.builtin "object.__class__"))) && (He.eqO (PySem.W.specialIn K (.builtin "object.__class__") "__get__") (some (some (.builtin "getset_descriptor.__get__"))) && (decide (PySem.W.takesIn K (.builtin "object.__class__") = some true) && decide (PySem.W.mroIn K D (.type "object") = some true)))))))
theorem exccB_ok {K : PySem.W.Frag} {D : Addr} (h : exccB K D = true) : ExcC K D := by
  obtain ⟨h1, h⟩ := He.ba h
  obtain ⟨h2, h⟩ := He.ba h
  obtain ⟨h3, h⟩ := He.ba h
  obtain ⟨h4, h⟩ := He.ba h
  obtain ⟨h5, h⟩ := He.ba h
  obtain ⟨h6, h⟩ := He.ba h
  obtain ⟨h7, h8⟩ := He.ba h
  exact ⟨He.eqO_ok h1, He.eqO_ok h2, of_decide_eq_true h3, h4, He.eqO_ok h5, He.eqO_ok h6, of_decide_eq_true h7, of_decide_eq_true h8⟩
/-! ### an error's __init__ -/
def initB : List Str → List Stmt → Bool
  | [], [] => true
  | f :: r, .Assign [.Attribute (.Name s _) g _] (.Name y _) _ :: ss => decide (s = ("self" : Str)) && decide (g = f) && decide (y = f) && initB r ss
  | _, _ => false
def tI (K : PySem.W.Frag) : Nat → List Str → TS
  | _, [] => tNext
  | i, f :: r => tSeq (tOst K f (tVar 0) (tVar i)) (tI K (i + 1) r)
theorem tI_pss {X : Cx} (h0 : X.N[0]? = some ("self" : Str)) (hv : ∀ x ∈ X.N, Vis X.env.scope x) (hd : ∀ x ∈ X.N, (x == ("__debug__" : Str)) = false ∧ (x == ("__classdict__" : Str)) = false) : ∀ {r : List Str} {i : Nat} {ss : List Stmt}, (∀ (j : Nat) f, r[j]? = some f → X.N[i + j]? = some f) → initB r ss = true → PSs X ss (tI X.K i r)
  | [], i, ss, _, h => by
    cases ss with
    | nil => exact pss_nil
    | cons _ _ => simp [initB] at h
  | f :: r, i, ss, hN, h => by
    unfold initB at h
    split at h
    · simp_all
    · rename_i f' r' s p1 g p2 y p3 p4 ss' e1
      cases e1
      simp only [Bool.and_eq_true, decide_eq_true_eq] at h
      obtain ⟨⟨⟨rfl, rfl⟩, rfl⟩, h4⟩ := h
      have hi : X.N[i]? = some y := by
        have := hN 0 y rfl
        simpa using this
      have m0 := List.mem_of_getElem? h0
      have m1 := List.mem_of_getElem? hi
      refine pss_cons (ps_ost (pe_var h0 (hv _ m0) (hd _ m0).1 (hd _ m0).2) (pe_var hi (hv _ m1) (hd _ m1).1 (hd _ m1).2)) (tI_pss h0 hv hd (fun j f hj => ?_) h4)
      have := hN (j + 1) f (by rw [List.getElem?_cons_succ]; exact hj)
      rw [← this]
      congr 1
      omega
    · cases h
theorem upd_dx {H : Hp} {a dx : Addr} {o1 o2 u : HO} (h : dx ≠ a) : upd (upd (upd H dx o1) a u) dx o2 = upd (upd H dx o2) a u := by
  funext b
  by_cases h1 : b = dx
  · subst h1
    rw [upd_same, upd_ne h, upd_same]
  · rw [upd_ne h1]
    by_cases h2 : b = a
    · subst h2
      rw [upd_same, upd_same]
    · rw [upd_ne h2, upd_ne h1, upd_ne h2, upd_ne h1]
theorem tI_go {K : PySem.W.Frag} {C a dx : Addr} (T : OexC K C) (hda : dx ≠ a) {D : Ends} {σ : L2.St} (h0 : σ[0]? = some (some (.ref a))) {H : Hp} : ∀ (r : List Str) (ws : List V) (i : Nat) (fs : List (Str × V)), r.length = ws.length → (∀ (j : Nat) v, ws[j]? = some v → σ[i + j]? = some (some v)) →
    (∀ f ∈ r, PySem.W.findIn K (.ref C) f = some none) → fs.length + r.length ≤ 901 → D.nx σ (upd (upd H dx (exd dx ((r.zip ws).reverse ++ fs))) a (exo a C (some dx))) → tI K i r D σ (upd (upd H dx (exd dx fs)) a (exo a C (some dx)))
  | [], ws, i, fs, hl, _, _, _, k => by
    cases ws with
    | nil => exact k
    | cons _ _ => simp at hl
  | f :: r, ws, i, fs, hl, hσ, hno, h9, k => by
    cases ws with
    | nil => simp at hl
    | cons v ws =>
      have hi : σ[i]? = some (some v) := by
        have := hσ 0 v rfl
        simpa using this
      refine ⟨v, hi, .ref a, h0, a, C, rfl, T, hno f (by simp), .inr ⟨dx, fs, upd_same, ?_, by simp at h9; omega, ?_⟩⟩
      · rw [upd_ne hda, upd_same]
      · rw [upd_dx hda]
        refine tI_go T hda h0 r ws (i + 1) ((f, v) :: fs) (by simpa using hl) (fun j v' hj => ?_) (fun g hg => hno g (List.mem_cons_of_mem _ hg)) (by simp at h9 ⊢; omega) ?_
        · have := hσ (j + 1) v' (by rw [List.getElem?_cons_succ]; exact hj)
          rw [← this]
          congr 1
          omega
        · rw [List.zip_cons_cons, List.reverse_cons, List.append_assoc] at k
          exact k
theorem lookup_nd {α : Type} : ∀ {l : List (Str × α)} {n : Str} {v : α}, (l.map (·.1)).Nodup → (n, v) ∈ l → l.lookup n = some v
  | [], _, _, _, h => by simp at h
  | (k, x) :: r, n, v, hn, h => by
    rw [List.map_cons, List.nodup_cons] at hn
    rw [List.lookup_cons]
    rcases List.mem_cons.mp h with h | h
    · cases h
      simp
    · have : n ≠ k := fun z => hn.1 (by rw [← z]; exact List.mem_map.mpr ⟨_, h, rfl⟩)
      rw [beq_false_of_ne this]
      exact lookup_nd hn.2 h
theorem init_ok {P : Program} {w : World} {K : PySem.W.Frag} {mg : Str → Option Value} {base : Heap} {x q : Str} {st : Stmt} {ns : List Str} {C fI : Addr} {fd : FuncData} (F : FunD K x q (defArgs st) (defBody st) (defScope st) [] [] fI fd) (T : OexC K C)
    (hsc : C8.scC (("self" : Str) :: ns) (("self" : Str) :: ns) (defScope st) = true) (hb : initB ns (defBody st) = true) (hno : ∀ f ∈ ns, PySem.W.findIn K (.ref C) f = some none) (hd : ((("self" : Str) :: ns).all fun x => !(x == ("__debug__" : Str)) && !(x == ("__classdict__" : Str))) = true)
    (h0 : ns ≠ []) (h9 : ns.length ≤ 900) : FnOk P w K mg base CX0 1 fI fd (("self" : Str) :: ns) (spI C ns) := by
  have S := C8.fnScope_by hsc
  refine F.ok (k := 0) S (fun vs H Q E h => ?_) (fun cdv A outer s H vs Q E hr h => ?_)
  · obtain ⟨a, ws, rfl, h2, _⟩ := h
    rw [List.length_cons, List.length_cons, h2]
  · obtain ⟨a, ws, rfl, h2, h3, h4⟩ := h
    refine ⟨tI K 1 ns, ?_, ?_⟩
    · refine tI_pss (X := cxOf CX0 P w K mg base (("self" : Str) :: ns) q (defScope st) fI cdv A outer s H E) rfl (fun y hy => ?_) (fun y hy => ?_) (fun j f hj => ?_) hb
      · show Vis (defScope st) y
        unfold Vis
        rcases S.par y hy with z | z
        · exact .inl z
        · exact .inr (.inl z)
      · have := List.all_eq_true.mp hd y hy
        simpa using this
      · show (("self" : Str) :: ns)[1 + j]? = some f
        rw [Nat.add_comm, List.getElem?_cons_succ]
        exact hj
    · have hst : L2.start (("self" : Str) :: ns) (.ref a :: ws) = some (.ref a) :: ws.map some := by
        unfold L2.start
        rw [List.length_cons, List.length_cons, h2, Nat.sub_self, List.replicate_zero, List.append_nil, List.map_cons]
      rw [hst]
      cases ns with
      | nil => exact absurd rfl h0
      | cons f r =>
        cases ws with
        | nil => simp at h2
        | cons v ws =>
          refine ⟨v, rfl, .ref a, rfl, a, C, rfl, T, hno f (by simp), .inl ⟨h3, fun dx n1 n2 => ?_⟩⟩
          refine tI_go T n2 rfl r ws 2 [(f, v)] (by simpa using h2.symm) (fun j v' hj => ?_) (fun g hg => hno g (List.mem_cons_of_mem _ hg)) (by simp at h9 ⊢; omega) ?_
          · rw [Nat.add_comm]
            show (ws.map some)[j]? = _
            rw [List.getElem?_map, hj]
            rfl
          · refine h4 dx _ n1 n2 fun i n y hi hy => ?_
            have nd : (f :: r).Nodup := by
              have := S.nd
              rw [List.nodup_cons] at this
              exact this.2
            have e : (r.zip ws).reverse ++ [(f, v)] = ((f :: r).zip (v :: ws)).reverse := by
              rw [List.zip_cons_cons, List.reverse_cons]
            rw [e]
            refine lookup_nd ?_ ?_
            · rw [List.map_reverse, List.map_fst_zip (by rw [h2]; exact Nat.le_refl _)]
              exact (List.pairwise_reverse).2 (nd.imp fun z => z.symm)
            · rw [List.mem_reverse]
              refine List.mem_of_getElem? (i := i) ?_
              rw [List.getElem?_zip_eq_some]
              exact ⟨hi, hy⟩
/-! ### tables -/
def subL : List (Nat × Nat × Bool) → Nat → Nat → Option Bool
  | [], _, _ => none
  | (x, y, r) :: t, a, b => if x = a ∧ y = b then some r else subL t a b
theorem subL_mem : ∀ {l : List (Nat × Nat × Bool)} {a b : Nat} {r : Bool}, subL l a b = some r → (a, b, r) ∈ l
  | [], _, _, _, h => by cases h
  | (x, y, r') :: t, a, b, r, h => by
    unfold subL at h
    split at h
    · rename_i c
      obtain ⟨rfl, rfl⟩ := c
      cases h
      exact List.mem_cons_self
    · exact List.mem_cons_of_mem _ (subL_mem h)
/-- what the numbers stand for -/
def GG (K : PySem.W.Frag) (nm : Nat → Str) (refs : List Nat) (dicts : List Str) : Nat → V → Prop := fun g v =>
  (fldOk nm g = true ∧ v = .str (nm g)) ∨ (g ∈ refs ∧ v = .ref (He.ga K (nm g))) ∨ (g = 0 ∧ ∃ x ∈ dicts, v = .ref (He.ga K x))
def XX (K : PySem.W.Frag) (nm : Nat → Str) (P : Pg) : Nat → Option (Addr × List Str) := fun c => (P.xf c).map fun fs => (He.ga K (nm c), fs.map nm)
/-- a class that stands in a clause or an isinstance: the program's, or a built-in one -/
inductive Clv (K : PySem.W.Frag) (mg : Str → Option Value) (nm : Nat → Str) (c : Nat) : V → Value → Prop
  | own : (nm c == ("__debug__" : Str)) = false → mg (nm c) = some (.ref (He.ga K (nm c))) → Clv K mg nm c (.ref (He.ga K (nm c))) (.ref (He.ga K (nm c)))
  | blt {T : String} : (nm c == ("__debug__" : Str)) = false → mg (nm c) = none → bootBuiltins (nm c) = some (.type T) → nm c ≠ "__name__" → Clv K mg nm c (.ty T) (.type T)
theorem prg_gen {prog : Program} {w : World} {P : Pg} {K : PySem.W.Frag} {mg : Str → Option Value} {base : Heap} {nm : Nat → Str} {refs : List Nat} {dicts : List Str} (hbl : ∀ x ∈ bnames, mg x = none)
    (hgl : ∀ g d, P.gl g = some d → ∃ v u, mg (nm g) = some u ∧ RelV v u ∧ ∀ μ H, Rep K (GG K nm refs dicts) μ H d v)
    (hgt : ∀ g xs, P.gl g = some (.tup xs) → ∃ p o, mg (nm g) = some (.ref p) ∧ K.lookup p = some o ∧ o.cls = .type "tuple" ∧ o.dict = none)
    (hfn : ∀ g f, P.fn g = some f → (∃ st N ps fa fd, DefOk nm K f st N ps fa fd ∧ (g < 200000 → mg (nm g) = some (.ref fa) ∧ PySem.W.keepIn K (.ref fa) = true)) ∨
      (∃ c gi fi st N ps fa fd, f.body = [.newi c gi] ∧ f.slots = f.ps ∧ g < 200000 ∧ mg (nm g) = some (.ref (He.ga K (nm c))) ∧ c ∈ refs ∧ P.fn gi = some fi ∧ Mk K (He.ga K (nm c)) fa ∧ DefOk nm K fi st N ps fa fd))
    (h0f : P.fn 0 = none) (h0c : P.cl 0 = none) (hrefs : ∀ g ∈ refs, 0 < g ∧ g < 100000 ∧ mg (nm g) = some (.ref (He.ga K (nm g))))
    (hd : ∀ x ∈ dicts, ∃ es n, KDict K w (He.ga K x) es n)
    (hinj : ∀ f g, fldOk nm f = true → fldOk nm g = true → nm f = nm g → f = g)
    (hcs : ∀ c cl, P.cl c = some cl → Cls K (He.ga K (nm c)) ∧ (∀ f, fldOk nm f = true → cl.ms.lookup f = none → NoAttr K (He.ga K (nm c)) (nm f)) ∧
      ∀ m g f, cl.ms.lookup m = some g → P.fn g = some f → ∃ fa st N ps fd, Meth K (He.ga K (nm c)) (nm m) fa ∧ DefOk nm K f st N ps fa fd)
    (hxs : ∀ c fs, P.xf c = some fs → mg (nm c) = some (.ref (He.ga K (nm c))) ∧ (fs = [] ∨ fs.length ≤ 900) ∧ ExcI prog w K mg base (He.ga K (nm c)) (fs.map nm) ∧ XfC K (He.ga K (nm c)) ∧ ∀ f, f ∈ fs → PySem.W.findIn K (.ref (He.ga K (nm c))) (nm f) = some none)
    (hhn : ∀ c', P.hcl c' = true → ∃ vc cv, Clv K mg nm c' vc cv)
    (hxm : ∀ c c' b, P.sub c c' = some b → ∃ vc cv, Clv K mg nm c' vc cv ∧ PySem.W.exmOne K (.ref (He.ga K (nm c))) cv = some b ∧ PySem.W.kitOne K (.ref (He.ga K (nm c))) cv = some b ∧ ExcC K (He.ga K (nm c))) :
    Prg prog w P K mg base (GG K nm refs dicts) (XX K nm P) nm := by
  have r0 : 0 ∉ refs := fun z => by
    have := (hrefs 0 z).1
    omega
  have f0 : ∀ g, fldOk nm g = true → 100000 ≤ g := fun g h => by
    unfold fldOk at h
    rw [Bool.and_eq_true] at h
    exact of_decide_eq_true h.1
  refine ⟨hbl, hgl, ?_, hgt, ?_, ?_, ?_, ?_, hinj, ?_, ?_, ?_, ?_, ?_⟩
  · intro g f h
    rcases hfn g f h with h | ⟨c, gi, fi, st, N, ps, fa, fd, h1, h2, h3, h4, h5, h6, h7, h8⟩
    · exact .inl h
    · exact .inr ⟨c, gi, fi, _, st, N, ps, fa, fd, h1, h2, h3, h4, .inr (.inl ⟨h5, rfl⟩), h6, h7, h8⟩
  · intro g f a h1 h2
    rcases h2 with ⟨_, h2⟩ | ⟨h2, h3⟩ | ⟨h2, _⟩
    · cases h2
    · cases h3
      obtain ⟨_, q2, q3⟩ := hrefs g h2
      exact ⟨by omega, q3⟩
    · subst h2
      rw [h0f] at h1
      cases h1
  · intro d h
    rcases h with ⟨h, _⟩ | ⟨h, _⟩ | ⟨_, x, h1, h2⟩
    · have := f0 0 h
      omega
    · exact absurd h r0
    · cases h2
      exact hd x h1
  · intro f h
    exact .inl ⟨h, rfl⟩
  · intro f n h
    rcases h with ⟨h1, h2⟩ | ⟨_, h2⟩ | ⟨_, x, _, h2⟩
    · cases h2
      exact ⟨rfl, h1⟩
    · cases h2
    · cases h2
  · intro c cl C C' h h1 h2
    rcases h1 with ⟨_, h1⟩ | ⟨_, h1⟩ | ⟨h1, _⟩
    · cases h1
    · rcases h2 with ⟨_, h2⟩ | ⟨_, h2⟩ | ⟨h2, _⟩
      · cases h2
      · cases h1
        cases h2
        rfl
      · subst h2
        rw [h0c] at h
        cases h
    · subst h1
      rw [h0c] at h
      cases h
  · intro c cl C h h1
    rcases h1 with ⟨_, h1⟩ | ⟨_, h1⟩ | ⟨h1, _⟩
    · cases h1
    · cases h1
      exact hcs c cl h
    · subst h1
      rw [h0c] at h
      cases h
  · intro c fs h
    obtain ⟨q1, q2, q3, q4, q5⟩ := hxs c fs h
    exact ⟨_, by unfold XX; rw [h]; rfl, q1, q2, q3, q4, q5⟩
  · intro c h
    obtain ⟨vc, cv, k⟩ := hhn c h
    cases k with
    | own h1 h2 => exact ⟨_, h1, .inl h2⟩
    | blt h1 h2 h3 h4 => exact ⟨_, h1, .inr ⟨h2, h3, h4⟩⟩
  · intro c c' b C ns h hx
    obtain ⟨vc, cv, k, q1, q2, q3⟩ := hxm c c' b h
    have eC : C = He.ga K (nm c) := by
      unfold XX at hx
      cases hf : P.xf c with
      | none => rw [hf] at hx; cases hx
      | some fs => rw [hf] at hx; cases hx; rfl
    subst eC
    cases k with
    | own h1 h2 => exact ⟨_, .ref (He.ga K (nm c')), h1, .inl h2, rfl, fun u r => r, q1, q2, q3⟩
    | @blt T h1 h2 h3 h4 => exact ⟨_, .ty T, h1, .inr ⟨h2, h3, h4⟩, rfl, fun u r => r, q1, q2, q3⟩
/-! ### errors by Bools -/
def xcB (K : PySem.W.Frag) (nm : Nat → Str) (p : Nat × List Nat) : Bool := He.eqO (PySem.W.nsIn K mainGlobals (nm p.1)) (some (some (.ref (He.ga K (nm p.1))))) && (xfB K (He.ga K (nm p.1)) && ((p.2.all fun f => He.eqO (PySem.W.findIn K (.ref (He.ga K (nm p.1))) (nm f)) (some none)) &&
  (match p.2 with
  | [] => (He.Fa.exc (nm p.1)).ok K
  | _ => oexB K (He.ga K (nm p.1)) && (He.eqO (PySem.W.findIn K (.ref (He.ga K (nm p.1))) "__init__") (some (some (.ref (He.ma K (He.ga K (nm p.1)) "__init__")))) && decide (PySem.W.typeIn K (.ref (He.ma K (He.ga K (nm p.1)) "__init__")) = some (.type "function"))))))
theorem xc_bare {prog : Program} {w : World} {K : PySem.W.Frag} {h : Heap} {mg : Str → Option Value} {base : Heap} {nm : Nat → Str} {c : Nat} (X : K.In h) (G : h.Ns mainGlobals mg) (b : xcB K nm (c, []) = true) :
    mg (nm c) = some (.ref (He.ga K (nm c))) ∧ (([] : List Nat) = [] ∨ ([] : List Nat).length ≤ 900) ∧ ExcI prog w K mg base (He.ga K (nm c)) (([] : List Nat).map nm) ∧ XfC K (He.ga K (nm c)) ∧ ∀ f, f ∈ ([] : List Nat) → PySem.W.findIn K (.ref (He.ga K (nm c))) (nm f) = some none := by
  obtain ⟨b1, b⟩ := He.ba b
  obtain ⟨b2, b⟩ := He.ba b
  obtain ⟨b3, b4⟩ := He.ba b
  obtain ⟨e1, e2, e3, e4⟩ := He.exc_ok b4
  exact ⟨PySem.W.mg_of X G (He.eqO_ok b1), .inl rfl, .bare PySem.F.excBase_ValueError e1 e2 e3 e4, xfB_ok b2, fun f hf => by simp at hf⟩
theorem xc_init {prog : Program} {w : World} {K : PySem.W.Frag} {h : Heap} {mg : Str → Option Value} {base : Heap} {nm : Nat → Str} {c f : Nat} {r : List Nat} {x q : Str} {st : Stmt} {fd : FuncData} (X : K.In h) (G : h.Ns mainGlobals mg) (b : xcB K nm (c, f :: r) = true)
    (F : FunD K x q (defArgs st) (defBody st) (defScope st) [] [] (He.ma K (He.ga K (nm c)) "__init__") fd) (B : Binds K fd (("self" : Str) :: (f :: r).map nm) []) (hsc : C8.scC (("self" : Str) :: (f :: r).map nm) (("self" : Str) :: (f :: r).map nm) (defScope st) = true) (hb : initB ((f :: r).map nm) (defBody st) = true)
    (hd : ((("self" : Str) :: (f :: r).map nm).all fun x => !(x == ("__debug__" : Str)) && !(x == ("__classdict__" : Str))) = true) (h9 : (f :: r).length ≤ 900) :
    mg (nm c) = some (.ref (He.ga K (nm c))) ∧ ((f :: r) = [] ∨ (f :: r).length ≤ 900) ∧ ExcI prog w K mg base (He.ga K (nm c)) ((f :: r).map nm) ∧ XfC K (He.ga K (nm c)) ∧ ∀ g, g ∈ (f :: r) → PySem.W.findIn K (.ref (He.ga K (nm c))) (nm g) = some none := by
  obtain ⟨b1, b⟩ := He.ba b
  obtain ⟨b2, b⟩ := He.ba b
  obtain ⟨b3, b⟩ := He.ba b
  obtain ⟨b4, b⟩ := He.ba b
  obtain ⟨b5, b6⟩ := He.ba b
  have hno : ∀ g, g ∈ (f :: r) → PySem.W.findIn K (.ref (He.ga K (nm c))) (nm g) = some none := fun g hg => He.eqO_ok (List.all_eq_true.mp b3 g hg)
  have T := oexB_ok b4
  refine ⟨PySem.W.mg_of X G (He.eqO_ok b1), .inr h9, ?_, xfB_ok b2, hno⟩
  refine .ve T (He.eqO_ok b5) (of_decide_eq_true b6) (init_ok F T hsc hb (fun z hz => ?_) hd (by simp) (by simpa using h9)) B
  obtain ⟨g, hg, rfl⟩ := List.mem_map.mp (show z ∈ (f :: r).map nm from hz)
  exact hno g hg
/-- a class in a clause or an isinstance -/
def cvOf (K : PySem.W.Frag) (nm : Nat → Str) (bt : List (Nat × String)) (c : Nat) : Value := match bt.lookup c with
  | some T => .type T
  | none => .ref (He.ga K (nm c))
def sbB (K : PySem.W.Frag) (nm : Nat → Str) (bt : List (Nat × String)) (p : Nat × Nat × Bool) : Bool := decide (PySem.W.exmOne K (.ref (He.ga K (nm p.1))) (cvOf K nm bt p.2.1) = some p.2.2) && (decide (PySem.W.kitOne K (.ref (He.ga K (nm p.1))) (cvOf K nm bt p.2.1) = some p.2.2) && exccB K (He.ga K (nm p.1)))
def clB (K : PySem.W.Frag) (nm : Nat → Str) (bt : List (Nat × String)) (c : Nat) : Bool := !(nm c == ("__debug__" : Str)) && (match bt.lookup c with
  | some T => He.eqO (PySem.W.nsIn K mainGlobals (nm c)) (some none) && (decide (bootBuiltins (nm c) = some (.type T)) && !decide (nm c = "__name__"))
  | none => He.eqO (PySem.W.nsIn K mainGlobals (nm c)) (some (some (.ref (He.ga K (nm c))))))
theorem clB_ok {K : PySem.W.Frag} {h : Heap} {mg : Str → Option Value} {nm : Nat → Str} {bt : List (Nat × String)} {c : Nat} (X : K.In h) (G : h.Ns mainGlobals mg) (b : clB K nm bt c = true) : ∃ vc, Clv K mg nm c vc (cvOf K nm bt c) := by
  obtain ⟨b1, b⟩ := He.ba b
  have b1' : (nm c == ("__debug__" : Str)) = false := by simpa using b1
  unfold cvOf
  cases hl : bt.lookup c with
  | none =>
    rw [hl] at b
    exact ⟨_, .own b1' (PySem.W.mg_of X G (He.eqO_ok b))⟩
  | some T =>
    rw [hl] at b
    obtain ⟨b2, b⟩ := He.ba b
    obtain ⟨b3, b4⟩ := He.ba b
    exact ⟨_, .blt b1' (PySem.W.mg_none_of X G (He.eqO_ok b2)) (of_decide_eq_true b3) (by simpa using b4)⟩
theorem sbB_ok {K : PySem.W.Frag} {h : Heap} {mg : Str → Option Value} {nm : Nat → Str} {bt : List (Nat × String)} {c c' : Nat} {r : Bool} (X : K.In h) (G : h.Ns mainGlobals mg) (b : sbB K nm bt (c, c', r) = true) (b' : clB K nm bt c' = true) :
    ∃ vc cv, Clv K mg nm c' vc cv ∧ PySem.W.exmOne K (.ref (He.ga K (nm c))) cv = some r ∧ PySem.W.kitOne K (.ref (He.ga K (nm c))) cv = some r ∧ ExcC K (He.ga K (nm c)) := by
  obtain ⟨vc, k⟩ := clB_ok X G b'
  obtain ⟨b1, b⟩ := He.ba b
  obtain ⟨b2, b3⟩ := He.ba b
  exact ⟨vc, _, k, of_decide_eq_true b1, of_decide_eq_true b2, exccB_ok b3⟩
end Mini

set_option Elab.async false
set_option linter.all false
set_option maxRecDepth 100000
set_option maxHeartbeats 4000000
namespace Mini
open PySem L2
theorem nodup_eq {α β : Type} : ∀ {l : List (α × β)} {a b : α} {x : β}, (l.map (·.2)).Nodup → (a, x) ∈ l → (b, x) ∈ l → a = b
  | [], _, _, _, _, h, _ => by simp at h
  | (k, y) :: r, a, b, x, hn, h1, h2 => by
    rw [List.map_cons, List.nodup_cons] at hn
    rcases List.mem_cons.mp h1 with h1 | h1
    · cases h1
      rcases List.mem_cons.mp h2 with h2 | h2
      · cases h2; rfl
      · exact absurd (List.mem_map.mpr ⟨_, h2, rfl⟩) hn.1
    · rcases List.mem_cons.mp h2 with h2 | h2
      · cases h2
        exact absurd (List.mem_map.mpr ⟨_, h1, rfl⟩) hn.1
      · exact nodup_eq hn.2 h1 h2
theorem fld_at {nms : List (Nat × Str)} {f : Nat} (h : fldOk (fun g => (nms.lookup g).getD "?") f = true) : (f, (nms.lookup f).getD "?") ∈ nms.filter fun p => decide (100000 ≤ p.1) := by
  unfold fldOk at h
  rw [Bool.and_eq_true] at h
  obtain ⟨h1, h2⟩ := h
  cases hl : nms.lookup f with
  | none => simp [hl] at h2
  | some x => exact List.mem_filter.mpr ⟨mem_of_lookup' hl, h1⟩
theorem fld_inj {nms : List (Nat × Str)} (hn : decide ((nms.filter fun p => decide (100000 ≤ p.1)).map (·.2)).Nodup = true) : ∀ f g, fldOk (fun g => (nms.lookup g).getD "?") f = true → fldOk (fun g => (nms.lookup g).getD "?") g = true → (nms.lookup f).getD "?" = (nms.lookup g).getD "?" → f = g := by
  intro f g h1 h2 e
  have m1 := fld_at h1
  have m2 := fld_at h2
  rw [← e] at m2
  exact nodup_eq (of_decide_eq_true hn) m1 m2
/-- the hook of a head: constants, errors, classes in clauses -/
def exG (cs : List (Str × D)) (nm : Nat → Str) (xs : List (Nat × List Nat)) (sb : List (Nat × Nat × Bool)) (bt : List (Nat × String)) (hc : List Nat) (K : PySem.W.Frag) : Bool :=
  exB cs K && ((xs.all fun p => xcB K nm p) && ((sb.all fun p => sbB K nm bt p && clB K nm bt p.2.1) && hc.all fun c => clB K nm bt c))
theorem exG_ok {cs : List (Str × D)} {nm : Nat → Str} {xs : List (Nat × List Nat)} {sb : List (Nat × Nat × Bool)} {bt : List (Nat × String)} {hc : List Nat} {K : PySem.W.Frag} (h : exG cs nm xs sb bt hc K = true) :
    exB cs K = true ∧ (∀ p ∈ xs, xcB K nm p = true) ∧ (∀ p ∈ sb, sbB K nm bt p = true ∧ clB K nm bt p.2.1 = true) ∧ ∀ c ∈ hc, clB K nm bt c = true := by
  obtain ⟨h1, h⟩ := He.ba h
  obtain ⟨h2, h⟩ := He.ba h
  obtain ⟨h3, h4⟩ := He.ba h
  exact ⟨h1, List.all_eq_true.mp h2, fun p hp => He.ba (List.all_eq_true.mp h3 p hp), List.all_eq_true.mp h4⟩
theorem sub_all {K : PySem.W.Frag} {h : Heap} {mg : Str → Option Value} {nm : Nat → Str} {sb : List (Nat × Nat × Bool)} {bt : List (Nat × String)} (X : K.In h) (G : h.Ns mainGlobals mg) (q : ∀ p ∈ sb, sbB K nm bt p = true ∧ clB K nm bt p.2.1 = true) :
    ∀ c c' b, subL sb c c' = some b → ∃ vc cv, Clv K mg nm c' vc cv ∧ PySem.W.exmOne K (.ref (He.ga K (nm c))) cv = some b ∧ PySem.W.kitOne K (.ref (He.ga K (nm c))) cv = some b ∧ ExcC K (He.ga K (nm c)) := by
  intro c c' b e
  have m := subL_mem e
  exact sbB_ok X G (q _ m).1 (q _ m).2
theorem hcl_all {K : PySem.W.Frag} {h : Heap} {mg : Str → Option Value} {nm : Nat → Str} {bt : List (Nat × String)} {hc : List Nat} (X : K.In h) (G : h.Ns mainGlobals mg) (q : ∀ c ∈ hc, clB K nm bt c = true) : ∀ c, hc.contains c = true → ∃ vc cv, Clv K mg nm c vc cv := by
  intro c e
  obtain ⟨vc, k⟩ := clB_ok X G (q c (by simpa using e))
  exact ⟨vc, _, k⟩
end Mini

set_option Elab.async false
set_option linter.all false
set_option maxRecDepth 100000
set_option maxHeartbeats 4000000
namespace Mini
/-- is_text -/
def f1 : Fn := ⟨1, 1,
    [(.ret (.isi (.var 0) ["str"]))]⟩
/-- look_text -/
def f2 : Fn := ⟨1, 1,
    [(.ife (.not (.call 1 [(.var 0)])) [(.raise 50 [])] []), (.ife (.cmp .Gt (.blt .len [(.var 0)]) (.glo 35)) [(.raise 51 [])] [])]⟩
/-- run_end -/
def f3 : Fn := ⟨3, 3,
    [(.whl (.and (.cmp .Lt (.var 1) (.blt .len [(.var 0)])) [(.cmp .In (.sub (.var 0) (.var 1)) (.var 2))]) [(.aug 1 .Add (.int 1))]), (.ret (.var 1))]⟩
/-- line_end -/
def f4 : Fn := ⟨2, 3,
    [(.set 2 (.mth .find (.var 0) [(.str [10]), (.var 1)])), (.ret (.ite (.cmp .Lt (.var 2) (.int 0)) (.blt .len [(.var 0)]) (.var 2)))]⟩
/-- gap_end -/
def f5 : Fn := ⟨2, 2,
    [(.whl (.and (.cmp .Lt (.var 1) (.blt .len [(.var 0)])) [(.cmp .In (.sub (.var 0) (.var 1)) (.str [32, 10, 35]))]) [(.set 1 (.ite (.cmp .Eq (.sub (.var 0) (.var 1)) (.str [35]))
    (.call 4 [(.var 0), (.var 1)]) (.bin .Add (.var 1) (.int 1))))]), (.ret (.var 1))]⟩
/-- letters_at -/
def f6 : Fn := ⟨2, 3,
    [(.set 2 (.call 3 [(.var 0), (.var 1), (.glo 39)])), (.ife (.cmp .In (.slc (.var 0) [(.var 1)] [(.var 2)]) (.glo 38)) [(.ret (.tup [(.glo 43), (.var 2)]))] []), (.ret (.tup [(.ite
    (.cmp .LtE (.bin .Sub (.var 2) (.var 1)) (.glo 36)) (.glo 44) (.glo 48)), (.var 2)]))]⟩
/-- figures_at -/
def f7 : Fn := ⟨2, 4,
    [(.set 2 (.call 3 [(.var 0), (.var 1), (.glo 40)])), (.set 3 (.and (.cmp .LtE (.bin .Sub (.var 2) (.var 1)) (.glo 41)) [(.or (.cmp .NotEq (.sub (.var 0) (.var 1)) (.str [48]))
    [(.cmp .Eq (.bin .Sub (.var 2) (.var 1)) (.int 1))])])), (.ret (.tup [(.ite (.var 3) (.glo 45) (.glo 48)), (.var 2)]))]⟩
/-- quote_at -/
def f8 : Fn := ⟨2, 3,
    [(.set 2 (.mth .find (.var 0) [(.str [34]), (.bin .Add (.var 1) (.int 1))])), (.ife (.or (.cmp .Lt (.var 2) (.int 0)) [(.cmp .Gt (.var 2) (.call 4 [(.var 0), (.var 1)]))]) [(.ret
    (.tup [(.glo 48), (.bin .Add (.var 1) (.int 1))]))] []), (.ret (.tup [(.ite (.cmp .LtE (.bin .Sub (.bin .Sub (.var 2) (.var 1)) (.int 1)) (.glo 37)) (.glo 46) (.glo 48)), (.bin
    .Add (.var 2) (.int 1))]))]⟩
/-- word_at -/
def f9 : Fn := ⟨2, 2,
    [(.ife (.cmp .In (.sub (.var 0) (.var 1)) (.glo 39)) [(.ret (.call 6 [(.var 0), (.var 1)]))] []), (.ife (.cmp .In (.sub (.var 0) (.var 1)) (.glo 40)) [(.ret (.call 7 [(.var 0),
    (.var 1)]))] []), (.ife (.cmp .Eq (.sub (.var 0) (.var 1)) (.str [34])) [(.ret (.call 8 [(.var 0), (.var 1)]))] []), (.ret (.tup [(.ite (.cmp .In (.sub (.var 0) (.var 1)) (.glo
    42)) (.glo 47) (.glo 48)), (.bin .Add (.var 1) (.int 1))]))]⟩
/-- words_of -/
def f10 : Fn := ⟨1, 6,
    [(.expr (.call 2 [(.var 0)])), (.set 1 (.lst [])), (.set 2 (.int 0)), (.set 3 (.call 5 [(.var 0), (.var 2)])), (.whl (.cmp .Lt (.var 3) (.blt .len [(.var 0)])) [(.tgt (.tp [(.nm 4),
    (.nm 5)]) (.call 9 [(.var 0), (.var 3)])), (.expr (.mth .append (.var 1) [(.tup [(.var 4), (.slc (.var 0) [(.var 2)] [(.var 3)]), (.slc (.var 0) [(.var 3)] [(.var 5)])])])),
    (.set 2 (.var 5)), (.set 3 (.call 5 [(.var 0), (.var 2)]))]), (.ret (.tup [(.blt .tuple [(.var 1)]), (.slc (.var 0) [(.var 2)] [])]))]⟩
/-- remarks_in -/
def f11 : Fn := ⟨1, 4,
    [(.set 1 (.lst [])), (.set 2 (.mth .find (.var 0) [(.str [35])])), (.whl (.cmp .GtE (.var 2) (.int 0)) [(.set 3 (.call 4 [(.var 0), (.var 2)])), (.expr (.mth .append (.var 1) [(.slc
    (.var 0) [(.var 2)] [(.var 3)])])), (.set 2 (.mth .find (.var 0) [(.str [35]), (.var 3)]))]), (.ret (.blt .tuple [(.var 1)]))]⟩
/-- _law_deck -/
def f12 : Fn := ⟨1, 2,
    [(.ret (.lst [(.comp [1] .seq [(.slc (.var 0) [] [(.int 63)])] (.nm 1) [] (.blt .abs [(.var 1)])), (.int 0), (.int 0), (.int 0)]))]⟩
/-- _law_draw -/
def f13 : Fn := ⟨2, 5,
    [(.set 2 (.sub (.var 0) (.int 0))), (.stsub (.var 0) (.int 3) (.bin .Add (.sub (.var 0) (.int 3)) (.int 1))), (.ife (.and (.cmp .Eq (.sub (.var 0) (.int 2)) (.int 0)) [(.cmp .Lt
    (.sub (.var 0) (.int 1)) (.blt .len [(.var 2)]))]) [(.stsub (.var 0) (.int 1) (.bin .Add (.sub (.var 0) (.int 1)) (.int 1))), (.ife (.cmp .GtE (.sub (.var 2) (.bin .Sub (.sub
    (.var 0) (.int 1)) (.int 1))) (.bin .Pow (.int 10) (.int 18))) [(.stsub (.var 0) (.int 2) (.sub (.var 2) (.bin .Sub (.sub (.var 0) (.int 1)) (.int 1))))] [])] []), (.ife (.cmp
    .Gt (.sub (.var 0) (.int 2)) (.int 0)) [(.set 4 (.bin .Mod (.sub (.var 0) (.int 2)) (.var 1))), (.stsub (.var 0) (.int 2) (.bin .FloorDiv (.sub (.var 0) (.int 2)) (.var 1))),
    (.ret (.var 4))] []), (.set 3 (.bin .Mult (.sub (.var 0) (.int 3)) (.int 48271))), (.ife (.cmp .Gt (.blt .len [(.var 2)]) (.int 0)) [(.set 3 (.bin .Add (.var 3) (.bin .Mod (.sub
    (.var 2) (.bin .Mod (.bin .Mult (.sub (.var 0) (.int 3)) (.int 7)) (.blt .len [(.var 2)]))) (.int 2305843009213693951))))] []), (.set 3 (.bin .Mod (.bin .Add (.var 3) (.bin
    .Mult (.bin .Mult (.sub (.var 0) (.int 3)) (.sub (.var 0) (.int 3))) (.int 69621))) (.int 2305843009213693951))), (.ret (.bin .Mod (.bin .FloorDiv (.bin .Mod (.bin .Mult (.var
    3) (.var 3)) (.int 2147483629)) (.int 8)) (.var 1)))]⟩
/-- _law_name -/
def f14 : Fn := ⟨1, 3,
    [(.ife (.cmp .Gt (.call 13 [(.var 0), (.int 4)]) (.int 0)) [(.ret (.sub (.lst [(.str [97]), (.str [98]), (.str [97, 98]), (.str [120]), (.str [121]), (.str [105, 115, 97]), (.str
    [100, 101, 102, 115]), (.str [97, 98, 99, 100, 101, 102, 103, 104, 105, 106, 107, 108])]) (.call 13 [(.var 0), (.int 8)])))] []), (.set 1 (.str [97, 98, 99, 100, 101, 102, 103,
    104, 105, 106, 107, 108, 109, 110, 111, 112, 113, 114, 115, 116, 117, 118, 119, 120, 121, 122])), (.ret (.bin .Add (.str [113]) (.mth .join (.str []) [(.comp [2] .range [(.call
    13 [(.var 0), (.int 12)])] (.nm 2) [] (.sub (.var 1) (.call 13 [(.var 0), (.int 26)])))])))]⟩
/-- _law_typed -/
def f15 : Fn := ⟨1, 3,
    [(.set 1 (.str [32, 97, 98, 48, 57, 59, 35, 40, 91, 44, 43, 60, 61, 95, 126, 92, 39])), (.ret (.bin .Add (.bin .Add (.str [34]) (.mth .join (.str []) [(.comp [2] .range [(.sub (.lst
    [(.int 0), (.int 1), (.int 3), (.int 40)]) (.call 13 [(.var 0), (.int 4)]))] (.nm 2) [] (.sub (.var 1) (.call 13 [(.var 0), (.int 17)])))])) (.str [34])))]⟩
/-- _law_key -/
def f16 : Fn := ⟨1, 1,
    [(.ife (.cmp .In (.var 0) (.tup [(.str [40]), (.str [41]), (.str [91]), (.str [93]), (.str [44]), (.str [59]), (.str [43]), (.str [45]), (.str [42]), (.str [60]), (.str [61])]))
    [(.ret (.lst [(.str [115, 105, 103, 110]), (.str []), (.var 0)]))] []), (.ret (.lst [(.str [107, 101, 121]), (.str []), (.var 0)]))]⟩
/-- _law_let -/
def f17 : Fn := ⟨3, 5,
    [(.set 3 (.lst [])), (.forr .range [(.bin .Add (.int 1) (.call 13 [(.var 0), (.int 3)]))] (.nm 4) [(.expr (.mth .extend (.var 3) [(.lst [(.call 16 [(.sub (.lst [(.str [44]), (.str
    [108, 101, 116])]) (.blt .int [(.cmp .Eq (.var 4) (.int 0))]))]), (.lst [(.str [110, 97, 109, 101]), (.str []), (.call 14 [(.var 0)])]), (.call 16 [(.str [105, 115])])])])),
    (.expr (.mth .append (.var 3) [(.call 18 [(.var 0), (.var 1), (.bin .Sub (.var 2) (.int 1))])]))]), (.ret (.tup [(.str [108, 101, 116]), (.bin .Add (.var 3) (.lst [(.call 16
    [(.str [105, 110])]), (.call 18 [(.var 0), (.var 1), (.bin .Sub (.var 2) (.int 1))])]))]))]⟩
/-- _law_whole_part -/
def f18 : Fn := ⟨3, 7,
    [(.stsub (.var 1) (.int 0) (.bin .Sub (.sub (.var 1) (.int 0)) (.int 1))), (.set 3 (.call 13 [(.var 0), (.int 9)])), (.ife (.or (.cmp .Lt (.var 2) (.int 2)) [(.cmp .Lt (.sub (.var
    1) (.int 0)) (.int 1)), (.cmp .Gt (.var 3) (.int 3))]) [(.ret (.call 19 [(.var 0), (.var 1), (.var 2), (.int 0)]))] []), (.ife (.cmp .Eq (.var 3) (.int 0)) [(.ret (.call 17
    [(.var 0), (.var 1), (.var 2)]))] []), (.set 4 (.sub (.lst [(.lst [(.str [105, 102]), (.str [116, 104, 101, 110]), (.str [101, 108, 115, 101])]), (.lst [(.str [102, 111, 114]),
    (.str [98, 101, 108, 111, 119]), (.str [103, 105, 118, 101])])]) (.bin .Mod (.var 3) (.int 2)))), (.set 5 (.lst [])), (.forr .seq [(.var 4)] (.nm 6) [(.expr (.mth .append (.var
    5) [(.call 16 [(.var 6)])])), (.ife (.cmp .Eq (.var 6) (.str [102, 111, 114])) [(.expr (.mth .append (.var 5) [(.lst [(.str [110, 97, 109, 101]), (.str []), (.call 14 [(.var
    0)])])]))] [(.expr (.mth .append (.var 5) [(.call 18 [(.var 0), (.var 1), (.bin .Sub (.var 2) (.int 1))])]))])]), (.ret (.tup [(.sub (.var 4) (.int 0)), (.var 5)]))]⟩
/-- _law_chained -/
def f19 : Fn := ⟨4, 8,
    [(.ife (.cmp .Eq (.var 3) (.int 5)) [(.ret (.call 20 [(.var 0), (.var 1), (.var 2)]))] []), (.ife (.or (.cmp .Lt (.var 2) (.int 2)) [(.cmp .Lt (.sub (.var 1) (.int 0)) (.int 1)),
    (.cmp .Gt (.call 13 [(.var 0), (.int 4)]) (.int 0))]) [(.ret (.call 19 [(.var 0), (.var 1), (.var 2), (.bin .Add (.var 3) (.int 1))]))] []), (.stsub (.var 1) (.int 0) (.bin .Sub
    (.sub (.var 1) (.int 0)) (.int 1))), (.ife (.cmp .Eq (.var 3) (.int 3)) [(.set 7 (.sub (.lst [(.str [110, 111, 116]), (.str [115, 105, 122, 101])]) (.call 13 [(.var 0), (.int
    2)]))), (.ret (.tup [(.var 7), (.lst [(.call 16 [(.var 7)]), (.call 19 [(.var 0), (.var 1), (.bin .Sub (.var 2) (.int 1)), (.int 3)])])]))] []), (.set 4 (.lst [(.call 19 [(.var
    0), (.var 1), (.bin .Sub (.var 2) (.int 1)), (.bin .Add (.var 3) (.int 1))])])), (.ife (.cmp .Eq (.var 3) (.int 4)) [(.forr .range [(.bin .Add (.int 1) (.call 13 [(.var 0),
    (.int 2)]))] (.nm 6) [(.expr (.mth .extend (.var 4) [(.lst [(.call 16 [(.str [91])]), (.call 18 [(.var 0), (.var 1), (.bin .Sub (.var 2) (.int 1))]), (.call 16 [(.str
    [93])])])]))]), (.ret (.tup [(.str [97, 116]), (.var 4)]))] []), (.set 5 (.sub (.sub (.lst [(.str [60, 61]), (.str [43, 45]), (.str [42, 42])]) (.var 3)) (.call 13 [(.var 0),
    (.int 2)]))), (.forr .range [(.bin .Add (.int 1) (.bin .Mult (.call 13 [(.var 0), (.int 2)]) (.blt .int [(.cmp .Gt (.var 3) (.int 0))])))] (.nm 6) [(.expr (.mth .extend (.var 4)
    [(.lst [(.call 16 [(.var 5)]), (.call 19 [(.var 0), (.var 1), (.bin .Sub (.var 2) (.int 1)), (.bin .Add (.var 3) (.int 1))])])])), (.set 5 (.sub (.sub (.lst [(.str [60, 61]),
    (.str [43, 45]), (.str [42, 42])]) (.var 3)) (.call 13 [(.var 0), (.int 2)])))]), (.ife (.cmp .Eq (.var 3) (.int 0)) [(.ret (.tup [(.sub (.lst [(.str [116, 104, 97, 110]), (.str
    [115, 97, 109, 101])]) (.blt .int [(.cmp .Eq (.sub (.sub (.var 4) (.int 1)) (.int 2)) (.str [61]))])), (.var 4)]))] []), (.ret (.tup [(.sub (.lst [(.str [115, 117, 109]), (.str
    [112, 114, 111, 100, 117, 99, 116])]) (.bin .Sub (.var 3) (.int 1))), (.var 4)]))]⟩
/-- _law_plain -/
def f20 : Fn := ⟨3, 6,
    [(.set 3 (.call 13 [(.var 0), (.int 8)])), (.ife (.or (.cmp .Lt (.var 2) (.int 2)) [(.cmp .Lt (.sub (.var 1) (.int 0)) (.int 1))]) [(.set 3 (.bin .Mod (.var 3) (.int 4)))] []),
    (.ife (.cmp .Eq (.var 3) (.int 0)) [(.ret (.tup [(.str [110, 117, 109, 98, 101, 114]), (.lst [(.lst [(.str [110, 117, 109, 98, 101, 114]), (.str []), (.sub (.lst [(.str [48]),
    (.str [55]), (.str [49, 48]), (.str [57, 57, 57, 57, 57, 57])]) (.call 13 [(.var 0), (.int 4)]))])])]))] []), (.ife (.cmp .Eq (.var 3) (.int 1)) [(.ret (.tup [(.str [116, 101,
    120, 116]), (.lst [(.lst [(.str [116, 101, 120, 116]), (.str []), (.call 15 [(.var 0)])])])]))] []), (.ife (.cmp .Eq (.var 3) (.int 2)) [(.ret (.tup [(.str [116, 114, 117, 116,
    104]), (.lst [(.call 16 [(.sub (.lst [(.str [121, 101, 115]), (.str [110, 111])]) (.call 13 [(.var 0), (.int 2)]))])])]))] []), (.ife (.cmp .Lt (.var 3) (.int 5)) [(.ret (.tup
    [(.str [117, 115, 101]), (.lst [(.lst [(.str [110, 97, 109, 101]), (.str []), (.call 14 [(.var 0)])])])]))] []), (.ife (.cmp .Eq (.var 3) (.int 5)) [(.ret (.tup [(.str [114,
    111, 117, 110, 100]), (.lst [(.call 16 [(.str [40])]), (.call 18 [(.var 0), (.var 1), (.bin .Sub (.var 2) (.int 1))]), (.call 16 [(.str [41])])])]))] []), (.set 4 (.bin .Add
    (.slc (.lst [(.lst [(.str [110, 97, 109, 101]), (.str []), (.call 14 [(.var 0)])])]) [] [(.blt .int [(.cmp .Eq (.var 3) (.int 6))])]) (.lst [(.call 16 [(.sub (.lst [(.str [91]),
    (.str [40])]) (.blt .int [(.cmp .Eq (.var 3) (.int 6))]))])]))), (.forr .range [(.call 13 [(.var 0), (.int 4)])] (.nm 5) [(.ife (.cmp .Gt (.var 5) (.int 0)) [(.expr (.mth
    .append (.var 4) [(.call 16 [(.str [44])])]))] []), (.expr (.mth .append (.var 4) [(.call 18 [(.var 0), (.var 1), (.bin .Sub (.var 2) (.int 1))])]))]), (.ret (.tup [(.sub (.lst
    [(.str [114, 111, 119]), (.str [99, 97, 108, 108])]) (.blt .int [(.cmp .Eq (.var 3) (.int 6))])), (.bin .Add (.var 4) (.lst [(.call 16 [(.sub (.lst [(.str [93]), (.str [41])])
    (.blt .int [(.cmp .Eq (.var 3) (.int 6))]))])]))]))]⟩
/-- _law_listed -/
def f21 : Fn := ⟨3, 4,
    [(.forr .range [(.var 2)] (.nm 3) [(.ife (.cmp .Gt (.var 3) (.int 0)) [(.expr (.mth .append (.var 1) [(.call 16 [(.str [44])])]))] []), (.expr (.mth .append (.var 1) [(.lst [(.str
    [110, 97, 109, 101]), (.str []), (.call 14 [(.var 0)])])]))])]⟩
/-- _law_item -/
def f22 : Fn := ⟨2, 3,
    [(.ife (.cmp .Eq (.call 13 [(.var 0), (.int 5)]) (.int 0)) [(.set 2 (.lst [(.call 16 [(.str [100, 114, 97, 119])])])), (.expr (.call 21 [(.var 0), (.var 2), (.bin .Add (.int 1)
    (.call 13 [(.var 0), (.int 3)]))])), (.ret (.tup [(.str [100, 114, 97, 119]), (.bin .Add (.var 2) (.lst [(.call 16 [(.str [102, 114, 111, 109])]), (.lst [(.str [110, 97, 109,
    101]), (.str []), (.call 14 [(.var 0)])]), (.call 16 [(.str [59])])]))]))] []), (.set 2 (.lst [(.call 16 [(.str [100, 101, 102])]), (.lst [(.str [110, 97, 109, 101]), (.str []),
    (.call 14 [(.var 0)])]), (.call 16 [(.str [40])])])), (.expr (.call 21 [(.var 0), (.var 2), (.call 13 [(.var 0), (.int 4)])])), (.expr (.mth .extend (.var 2) [(.lst [(.call 16
    [(.str [41])]), (.call 16 [(.str [105, 115])]), (.call 18 [(.var 0), (.var 1), (.bin .Add (.int 2) (.call 13 [(.var 0), (.int 4)]))])])])), (.ret (.tup [(.str [100, 101, 102]),
    (.bin .Add (.var 2) (.lst [(.call 16 [(.str [59])])]))]))]⟩
/-- _law_flat -/
def f23 : Fn := ⟨1, 3,
    [(.ife (.or (.isi (.var 0) ["list"]) [(.cmp .Eq (.blt .len [(.var 0)]) (.int 3))]) [(.ret (.lst [(.var 0)]))] []), (.set 1 (.lst [])), (.forr .seq [(.sub (.var 0) (.int 1))] (.nm 2)
    [(.set 1 (.bin .Add (.var 1) (.call 23 [(.var 2)])))]), (.ret (.var 1))]⟩
/-- _law_remark -/
def f24 : Fn := ⟨1, 2,
    [(.ret (.bin .Add (.str [35]) (.mth .join (.str []) [(.comp [1] .range [(.call 13 [(.var 0), (.int 5)])] (.nm 1) [] (.sub (.str [32, 97, 59, 34, 35, 40, 126, 57]) (.call 13 [(.var
    0), (.int 8)])))])))]⟩
/-- _law_gap -/
def f25 : Fn := ⟨3, 6,
    [(.set 3 (.str [97, 98, 99, 100, 101, 102, 103, 104, 105, 106, 107, 108, 109, 110, 111, 112, 113, 114, 115, 116, 117, 118, 119, 120, 121, 122])), (.set 4 (.and (.cmp .NotEq (.var 1)
    (.str [])) [(.and (.cmp .In (.sub (.var 1) (.neg (.int 1))) (.var 3)) [(.cmp .In (.sub (.var 2) (.int 0)) (.var 3))])])), (.set 4 (.or (.var 4) [(.and (.cmp .NotEq (.var 1)
    (.str [])) [(.and (.cmp .In (.sub (.var 1) (.neg (.int 1))) (.str [48, 49, 50, 51, 52, 53, 54, 55, 56, 57])) [(.cmp .In (.sub (.var 2) (.int 0)) (.str [48, 49, 50, 51, 52, 53,
    54, 55, 56, 57]))])])])), (.set 5 (.call 13 [(.var 0), (.int 8)])), (.ife (.cmp .Lt (.var 5) (.int 4)) [(.ret (.sub (.lst [(.str []), (.str [32])]) (.blt .int [(.or (.var 4)
    [(.cmp .Eq (.var 5) (.int 3))])])))] []), (.ret (.sub (.lst [(.str [32]), (.str [10]), (.str [32, 32, 10, 32]), (.bin .Add (.bin .Add (.bin .Mult (.str [32]) (.bin .Sub (.var 5)
    (.int 7))) (.call 24 [(.var 0)])) (.str [10]))]) (.bin .Sub (.var 5) (.int 4))))]⟩
/-- _law_file -/
def f26 : Fn := ⟨2, 15,
    [(.set 2 (.lst [(.int 60)])), (.set 3 (.comp [12] .range [(.call 13 [(.var 0), (.bin .Add (.var 1) (.int 1))])] (.nm 12) [] (.call 22 [(.var 0), (.var 2)]))), (.set 4 (.lst [])),
    (.set 5 (.bl false)), (.forr .enum [(.var 3)] (.tp [(.nm 7), (.nm 8)]) [(.set 9 (.str [])), (.forr .enum [(.call 23 [(.var 8)])] (.tp [(.nm 13), (.nm 14)]) [(.stsub (.var 14)
    (.int 1) (.call 25 [(.var 0), (.var 9), (.sub (.var 14) (.int 2))])), (.ife (.and (.cmp .Eq (.var 13) (.int 0)) [(.var 5)]) [(.stsub (.var 14) (.int 1) (.bin .Mult (.str [32])
    (.call 13 [(.var 0), (.int 3)])))] []), (.set 9 (.sub (.var 14) (.int 2)))]), (.set 10 (.call 13 [(.var 0), (.int 4)])), (.set 11 (.bin .Add (.bin .Add (.bin .Mult (.str [32])
    (.call 13 [(.var 0), (.int 3)])) (.sub (.lst [(.str []), (.call 24 [(.var 0)])]) (.call 13 [(.var 0), (.int 2)]))) (.str [10]))), (.ife (.cmp .Eq (.var 10) (.int 0)) [(.set 11
    (.sub (.lst [(.str []), (.slc (.var 11) [] [(.neg (.int 1))])]) (.blt .int [(.cmp .Eq (.bin .Add (.var 7) (.int 1)) (.blt .len [(.var 3)]))])))] []), (.set 5 (.not (.mth
    .endswith (.var 11) [(.str [10])]))), (.expr (.mth .append (.var 4) [(.var 11)]))]), (.set 6 (.str [])), (.ife (.not (.var 5)) [(.forr .range [(.call 13 [(.var 0), (.int 3)])]
    (.nm 12) [(.set 6 (.bin .Add (.var 6) (.sub (.lst [(.str [32]), (.str [10]), (.bin .Add (.call 24 [(.var 0)]) (.str [10]))]) (.call 13 [(.var 0), (.int 3)]))))]), (.set 6 (.bin
    .Add (.var 6) (.sub (.lst [(.str []), (.call 24 [(.var 0)])]) (.call 13 [(.var 0), (.int 2)]))))] []), (.ife (.cmp .Gt (.blt .len [(.call 28 [(.tup [(.var 3), (.var 4), (.var
    6)])])]) (.int 1900)) [(.ret (.tup [(.lst []), (.lst []), (.str [10])]))] []), (.ret (.tup [(.var 3), (.var 4), (.var 6)]))]⟩
/-- _law_signs -/
def f27 : Fn := ⟨1, 2,
    [(.ret (.mth .join (.str []) [(.comp [1] .seq [(.var 0)] (.nm 1) [] (.bin .Add (.sub (.var 1) (.int 1)) (.sub (.var 1) (.int 2))))]))]⟩
/-- _law_text -/
def f28 : Fn := ⟨1, 6,
    [(.tgt (.tp [(.nm 1), (.nm 2), (.nm 3)]) (.var 0)), (.ret (.bin .Add (.mth .join (.str []) [(.comp [4, 5] .zip [(.var 1), (.var 2)] (.tp [(.nm 4), (.nm 5)]) [] (.bin .Add (.call 27
    [(.call 23 [(.var 4)])]) (.var 5)))]) (.var 3)))]⟩
/-- _law_spoilt -/
def f29 : Fn := ⟨2, 7,
    [(.set 2 (.lst [(.str []), (.str [32]), (.str [10]), (.str [59]), (.str [35]), (.str [34]), (.str [40]), (.str [41]), (.str [91]), (.str [93]), (.str [44]), (.str [105, 115, 32]),
    (.str [32, 105, 110, 32]), (.str [48]), (.str [97]), (.str [43]), (.str [60]), (.str [64]), (.str [65]), (.str [105, 102, 32])])), (.forr .range [(.call 13 [(.var 0), (.int
    5)])] (.nm 3) [(.set 4 (.call 13 [(.var 0), (.bin .Add (.blt .len [(.var 1)]) (.int 1))])), (.set 5 (.bin .Add (.var 4) (.sub (.lst [(.int 0), (.int 0), (.int 1), (.int 2),
    (.int 9)]) (.call 13 [(.var 0), (.int 5)])))), (.set 6 (.bin .Add (.sub (.var 2) (.call 13 [(.var 0), (.int 20)])) (.bin .Mult (.slc (.var 1) [(.var 4)] [(.bin .Add (.var 4)
    (.int 6))]) (.blt .int [(.cmp .Eq (.call 13 [(.var 0), (.int 6)]) (.int 0))])))), (.set 1 (.bin .Add (.bin .Add (.slc (.var 1) [] [(.var 4)]) (.var 6)) (.slc (.var 1) [(.var 5)]
    [])))]), (.ret (.var 1))]⟩
/-- _law_any -/
def f30 : Fn := ⟨1, 3,
    [(.ife (.cmp .Eq (.call 13 [(.var 0), (.int 4)]) (.int 0)) [(.set 1 (.bin .Add (.str [32, 10, 35, 34, 59, 40, 41, 91, 93, 44, 43, 45, 42, 60, 61, 97, 98, 48, 49, 57, 105, 115, 100,
    101, 102, 90, 95, 64]) (.str [39]))), (.ret (.mth .join (.str []) [(.comp [2] .range [(.call 13 [(.var 0), (.int 90)])] (.nm 2) [] (.sub (.var 1) (.call 13 [(.var 0), (.int
    29)])))]))] []), (.ret (.call 29 [(.var 0), (.call 28 [(.call 26 [(.var 0), (.int 4)])])]))]⟩
/-- _law_same -/
def f31 : Fn := ⟨2, 3,
    [(.ife (.isi (.var 1) ["tuple", "list"]) [(.ife (.or (.cmp .NotEq (.isi (.var 1) ["list"]) (.isi (.var 0) ["list"])) [(.cmp .NotEq (.isi (.var 1) ["tuple"]) (.isi (.var 0)
    ["tuple"]))]) [(.ret (.bl false))] []), (.ife (.cmp .NotEq (.blt .len [(.var 0)]) (.blt .len [(.var 1)])) [(.ret (.bl false))] []), (.ret (.cmp .Eq (.comp [2] .range [(.blt .len
    [(.var 1)])] (.nm 2) [(.not (.call 31 [(.sub (.var 0) (.var 2)), (.sub (.var 1) (.var 2))]))] (.var 2)) (.lst [])))] []), (.ife (.or (.isi (.var 1) ["bool"]) [(.isi (.var 0)
    ["bool"])]) [(.ret (.and (.isi (.var 1) ["bool"]) [(.isi (.var 0) ["bool"]), (.cmp .Eq (.var 0) (.var 1))]))] []), (.ife (.or (.cmp .Is (.var 1) .non) [(.cmp .Is (.var 0)
    .non)]) [(.ret (.and (.cmp .Is (.var 1) .non) [(.cmp .Is (.var 0) .non)]))] []), (.ret (.and (.cmp .Eq (.isi (.var 1) ["str"]) (.isi (.var 0) ["str"])) [(.cmp .Eq (.var 0) (.var
    1))]))]⟩
/-- _law_made -/
def f32 : Fn := ⟨1, 5,
    [(.set 1 (.str [])), (.set 2 (.lst [])), (.forr .range [(.call 13 [(.var 0), (.int 6)])] (.nm 3) [(.set 4 (.call 13 [(.var 0), (.int 4)])), (.ife (.cmp .Lt (.var 4) (.int 2)) [(.set
    1 (.bin .Add (.var 1) (.sub (.lst [(.str [32]), (.str [10])]) (.var 4))))] [(.expr (.mth .append (.var 2) [(.call 24 [(.var 0)])])), (.set 1 (.bin .Add (.bin .Add (.var 1) (.sub
    (.var 2) (.neg (.int 1)))) (.str [10])))])]), (.ife (.cmp .Eq (.call 13 [(.var 0), (.int 3)]) (.int 0)) [(.expr (.mth .append (.var 2) [(.call 24 [(.var 0)])])), (.set 1 (.bin
    .Add (.var 1) (.sub (.var 2) (.neg (.int 1)))))] []), (.ret (.tup [(.var 1), (.blt .tuple [(.var 2)])]))]⟩
/-- _law_due -/
def f33 : Fn := ⟨1, 3,
    [(.set 1 (.lst [])), (.forr .seq [(.mth .split (.var 0) [(.str [10])])] (.nm 2) [(.ife (.cmp .In (.str [35]) (.var 2)) [(.expr (.mth .append (.var 1) [(.slc (.var 2) [(.mth .index
    (.var 2) [(.str [35])])] [])]))] [])]), (.ret (.blt .tuple [(.var 1)]))]⟩
/-- SIGNS -/
def c35 : D := (.int 2000)
/-- LETTERS -/
def c36 : D := (.int 12)
/-- WIDE -/
def c37 : D := (.int 40)
/-- KEYS -/
def c38 : D := (.tup [(.str [100, 101, 102]), (.str [105, 115]), (.str [100, 114, 97, 119]), (.str [102, 114, 111, 109]), (.str [108, 101, 116]), (.str [105, 110]), (.str [105, 102]), (.str [116,
    104, 101, 110]), (.str [101, 108, 115, 101]), (.str [102, 111, 114]), (.str [98, 101, 108, 111, 119]), (.str [103, 105, 118, 101]), (.str [110, 111, 116]), (.str [115, 105, 122,
    101]), (.str [121, 101, 115]), (.str [110, 111])])
/-- SMALL -/
def c39 : D := (.str [97, 98, 99, 100, 101, 102, 103, 104, 105, 106, 107, 108, 109, 110, 111, 112, 113, 114, 115, 116, 117, 118, 119, 120, 121, 122])
/-- FIGURES -/
def c40 : D := (.str [48, 49, 50, 51, 52, 53, 54, 55, 56, 57])
/-- MOST_FIGURES -/
def c41 : D := (.int 6)
/-- MARKS -/
def c42 : D := (.str [40, 41, 91, 93, 44, 59, 43, 45, 42, 60, 61])
/-- KEY -/
def c43 : D := (.str [107, 101, 121])
/-- NAME -/
def c44 : D := (.str [110, 97, 109, 101])
/-- NUMBER -/
def c45 : D := (.str [110, 117, 109, 98, 101, 114])
/-- TEXT -/
def c46 : D := (.str [116, 101, 120, 116])
/-- SIGN -/
def c47 : D := (.str [115, 105, 103, 110])
/-- STRAY -/
def c48 : D := (.str [115, 116, 114, 97, 121])
/-- places_of -/
def f52 : Fn := ⟨1, 6,
    [(.set 1 (.lst [])), (.set 2 (.int 0)), (.forr .seq [(.var 0)] (.tp [(.nm 3), (.nm 4), (.nm 5)]) [(.expr (.mth .append (.var 1) [(.bin .Add (.var 2) (.blt .len [(.var 4)]))])),
    (.aug 2 .Add (.bin .Add (.blt .len [(.var 4)]) (.blt .len [(.var 5)])))]), (.ret (.blt .tuple [(.var 1)]))]⟩
/-- _law_due -/
def f53 : Fn := ⟨1, 6,
    [(.set 1 (.int 0)), (.set 2 (.lst [])), (.forr .seq [(.var 0)] (.tp [(.nm 3), (.nm 4), (.nm 5)]) [(.expr (.mth .append (.var 2) [(.bin .Add (.var 1) (.blt .len [(.var 4)]))])),
    (.set 1 (.bin .Add (.bin .Add (.var 1) (.blt .len [(.var 4)])) (.blt .len [(.var 5)])))]), (.ret (.blt .tuple [(.var 2)]))]⟩
/-- _law_own_words -/
def f55 : Fn := ⟨1, 8,
    [(.set 1 (.lst [])), (.set 2 (.str [])), (.set 3 (.int 0)), (.whl (.cmp .Lt (.var 3) (.blt .len [(.var 0)])) [(.set 4 (.sub (.var 0) (.var 3))), (.ife (.cmp .In (.var 4) (.str [32,
    10])) [(.set 2 (.bin .Add (.var 2) (.var 4))), (.set 3 (.bin .Add (.var 3) (.int 1)))] [(.ife (.cmp .Eq (.var 4) (.str [35])) [(.set 5 (.sub (.mth .split (.slc (.var 0) [(.var
    3)] []) [(.str [10])]) (.int 0))), (.set 2 (.bin .Add (.var 2) (.var 5))), (.set 3 (.bin .Add (.var 3) (.blt .len [(.var 5)])))] [(.tgt (.tp [(.nm 6), (.nm 7)]) (.call 56 [(.slc
    (.var 0) [(.var 3)] [])])), (.expr (.mth .append (.var 1) [(.tup [(.var 6), (.var 2), (.var 7)])])), (.set 2 (.str [])), (.set 3 (.bin .Add (.var 3) (.blt .len [(.var
    7)])))])])]), (.ret (.tup [(.var 1), (.var 2)]))]⟩
/-- _law_own_word -/
def f56 : Fn := ⟨1, 5,
    [(.set 1 (.mth .split (.str [100, 101, 102, 32, 105, 115, 32, 100, 114, 97, 119, 32, 102, 114, 111, 109, 32, 108, 101, 116, 32, 105, 110, 32, 105, 102, 32, 116, 104, 101, 110, 32,
    101, 108, 115, 101, 32, 102, 111, 114, 32, 98, 101, 108, 111, 119, 32, 103, 105, 118, 101, 32, 110, 111, 116, 32, 115, 105, 122, 101, 32, 121, 101, 115, 32, 110, 111]) [(.str
    [32])])), (.ife (.cmp .Eq (.sub (.var 0) (.int 0)) (.str [34])) [(.set 3 (.mth .split (.sub (.mth .split (.var 0) [(.str [10])]) (.int 0)) [(.str [34])])), (.ife (.cmp .Lt (.blt
    .len [(.var 3)]) (.int 3)) [(.ret (.tup [(.str [115, 116, 114, 97, 121]), (.str [34])]))] []), (.ret (.tup [(.sub (.lst [(.str [115, 116, 114, 97, 121]), (.str [116, 101, 120,
    116])]) (.blt .int [(.cmp .Lt (.blt .len [(.sub (.var 3) (.int 1))]) (.int 41))])), (.bin .Add (.bin .Add (.str [34]) (.sub (.var 3) (.int 1))) (.str [34]))]))] []), (.forr .seq
    [(.lst [(.str [97, 98, 99, 100, 101, 102, 103, 104, 105, 106, 107, 108, 109, 110, 111, 112, 113, 114, 115, 116, 117, 118, 119, 120, 121, 122]), (.str [48, 49, 50, 51, 52, 53,
    54, 55, 56, 57])])] (.nm 2) [(.set 4 (.slc (.var 0) [] [(.bin .Sub (.blt .len [(.var 0)]) (.blt .len [(.mth .lstrip (.var 0) [(.var 2)])]))])), (.ife (.cmp .In (.var 4) (.var
    1)) [(.ret (.tup [(.str [107, 101, 121]), (.var 4)]))] []), (.ife (.and (.cmp .NotEq (.var 4) (.str [])) [(.cmp .Eq (.sub (.var 2) (.int 0)) (.str [97]))]) [(.ret (.tup [(.sub
    (.lst [(.str [115, 116, 114, 97, 121]), (.str [110, 97, 109, 101])]) (.blt .int [(.cmp .Lt (.blt .len [(.var 4)]) (.int 13))])), (.var 4)]))] []), (.ife (.cmp .NotEq (.var 4)
    (.str [])) [(.ret (.tup [(.sub (.lst [(.str [115, 116, 114, 97, 121]), (.str [110, 117, 109, 98, 101, 114])]) (.blt .int [(.and (.cmp .Lt (.blt .len [(.var 4)]) (.int 7)) [(.or
    (.cmp .Eq (.var 4) (.str [48])) [(.cmp .NotEq (.sub (.var 4) (.int 0)) (.str [48]))])])])), (.var 4)]))] [])]), (.ret (.tup [(.sub (.lst [(.str [115, 116, 114, 97, 121]), (.str
    [115, 105, 103, 110])]) (.blt .int [(.cmp .In (.sub (.var 0) (.int 0)) (.str [40, 41, 91, 93, 44, 59, 43, 45, 42, 60, 61]))])), (.sub (.var 0) (.int 0))]))]⟩
/-- signs_of_words -/
def f59 : Fn := ⟨1, 4,
    [(.ret (.mth .join (.str []) [(.comp [1, 2, 3] .seq [(.var 0)] (.tp [(.nm 1), (.nm 2), (.nm 3)]) [] (.bin .Add (.var 2) (.var 3)))]))]⟩
/-- is_end -/
def f60 : Fn := ⟨1, 1,
    [(.ret (.and (.cmp .Eq (.sub (.var 0) (.int 0)) (.str [115, 105, 103, 110])) [(.cmp .Eq (.sub (.var 0) (.int 2)) (.glo 69))]))]⟩
/-- tail_length -/
def f61 : Fn := ⟨1, 3,
    [(.set 1 (.call 4 [(.var 0), (.int 0)])), (.set 2 (.mth .lstrip (.slc (.var 0) [] [(.var 1)]) [(.str [32])])), (.ife (.and (.cmp .NotEq (.var 2) (.str [])) [(.cmp .NotEq (.sub (.var
    2) (.int 0)) (.str [35]))]) [(.ret (.int 0))] []), (.ret (.blt .min [(.bin .Add (.var 1) (.int 1)), (.blt .len [(.var 0)])]))]⟩
/-- parted -/
def f62 : Fn := ⟨1, 4,
    [(.set 1 (.lst [])), (.set 2 (.lst [])), (.forr .seq [(.var 0)] (.nm 3) [(.expr (.mth .append (.var 2) [(.var 3)])), (.ife (.call 60 [(.var 3)]) [(.expr (.mth .append (.var 1)
    [(.var 2)])), (.set 2 (.lst []))] [])]), (.ret (.ite (.var 2) (.bin .Add (.var 1) (.lst [(.var 2)])) (.var 1)))]⟩
/-- without -/
def f63 : Fn := ⟨2, 2,
    [(.ret (.tup [(.sub (.var 0) (.int 0)), (.slc (.sub (.var 0) (.int 1)) [(.var 1)] []), (.sub (.var 0) (.int 2))]))]⟩
/-- items_of -/
def f64 : Fn := ⟨1, 10,
    [(.tgt (.tp [(.nm 4), (.nm 5)]) (.call 10 [(.var 0)])), (.set 1 (.call 62 [(.var 4)])), (.set 2 (.lst [])), (.set 3 (.int 0)), (.forr .enum [(.var 1)] (.tp [(.nm 6), (.nm 7)])
    [(.set 7 (.bin .Add (.lst [(.call 63 [(.sub (.var 7) (.int 0)), (.var 3)])]) (.slc (.var 7) [(.int 1)] []))), (.set 8 (.str [])), (.set 3 (.int 0)), (.ife (.call 60 [(.sub (.var
    7) (.neg (.int 1)))]) [(.set 9 (.ite (.cmp .Lt (.bin .Add (.var 6) (.int 1)) (.blt .len [(.var 1)])) (.sub (.sub (.var 1) (.bin .Add (.var 6) (.int 1))) (.int 0)) (.tup [(.str
    []), (.var 5), (.str [])]))), (.set 3 (.call 61 [(.bin .Add (.sub (.var 9) (.int 1)) (.sub (.var 9) (.int 2)))])), (.set 8 (.slc (.sub (.var 9) (.int 1)) [] [(.var 3)]))] []),
    (.expr (.mth .append (.var 2) [(.tup [(.blt .tuple [(.var 7)]), (.var 8)])]))]), (.ret (.tup [(.blt .tuple [(.var 2)]), (.slc (.var 5) [(.var 3)] [])]))]⟩
/-- item_text -/
def f65 : Fn := ⟨1, 1,
    [(.ret (.bin .Add (.call 59 [(.sub (.var 0) (.int 0))]) (.sub (.var 0) (.int 1))))]⟩
/-- item_texts -/
def f66 : Fn := ⟨1, 2,
    [(.ret (.blt .tuple [(.comp [1] .seq [(.sub (.call 64 [(.var 0)]) (.int 0))] (.nm 1) [] (.call 65 [(.var 1)]))]))]⟩
/-- END -/
def c69 : D := (.str [59])
/-- _law_long -/
def f70 : Fn := ⟨1, 4,
    [(.set 1 (.lst [(.str [97]), (.str [49]), (.str [59]), (.str [40]), (.str [34]), (.str [35, 10]), (.str [32]), (.str [10]), (.str [100, 101, 102]), (.str [61]), (.str [122, 57]),
    (.str [34, 97, 34])])), (.set 2 (.mth .join (.str []) [(.comp [3] .range [(.bin .Add (.int 1) (.call 13 [(.var 0), (.int 6)]))] (.nm 3) [] (.sub (.var 1) (.call 13 [(.var 0),
    (.int 12)])))])), (.ret (.bin .Mult (.var 2) (.bin .Add (.int 1) (.call 13 [(.var 0), (.int 100)]))))]⟩
end Mini

set_option Elab.async false
set_option linter.all false
set_option maxRecDepth 100000
set_option maxHeartbeats 4000000
namespace Mini
/-- sides_of -/
def f72 : Fn := ⟨1, 8,
    [(.ife (.not (.call 1 [(.var 0)])) [(.raise 50 [])] []), (.set 1 (.mth .split (.var 0) [(.str [10])])), (.set 2 (.lst [(.str []), (.str [])])), (.set 3 (.int 0)), (.forr .enum
    [(.var 1)] (.tp [(.nm 4), (.nm 5)]) [(.set 6 (.bin .Add (.var 5) (.bin .Mult (.str [10]) (.blt .int [(.cmp .Lt (.var 4) (.bin .Sub (.blt .len [(.var 1)]) (.int 1)))])))), (.ife
    (.cmp .In (.var 5) (.glo 80)) [(.ife (.cmp .NotEq (.tix 80 (.var 5)) (.var 3)) [(.raise 81 [(.var 4)])] []), (.set 3 (.bin .Mod (.bin .Add (.var 3) (.int 1)) (.int 3)))] [(.forr
    .range [(.int 2)] (.nm 7) [(.ife (.cmp .In (.var 3) (.tup [(.int 0), (.bin .Add (.var 7) (.int 1))])) [(.sau (.var 2) (.var 7) .Add (.var 6))] [])])])]), (.ife (.cmp .NotEq
    (.var 3) (.int 0)) [(.raise 81 [(.blt .len [(.var 1)])])] []), (.ret (.tup [(.sub (.var 2) (.int 0)), (.sub (.var 2) (.int 1))]))]⟩
/-- _law_stream -/
def f73 : Fn := ⟨2, 4,
    [(.set 2 (.int 0)), (.ife (.cmp .Lt (.var 1) (.blt .len [(.var 0)])) [(.set 2 (.blt .abs [(.sub (.var 0) (.var 1))]))] []), (.set 3 (.int 0)), (.ife (.cmp .GtE (.var 2) (.bin .Pow
    (.int 10) (.int 18))) [(.set 3 (.var 2))] []), (.ret (.lst [(.var 3), (.bin .Add (.bin .Add (.bin .Mod (.var 2) (.bin .Pow (.int 10) (.int 18))) (.bin .Mult (.int 7) (.var 1)))
    (.int 1)), (.int 0)]))]⟩
/-- _law_take -/
def f74 : Fn := ⟨2, 4,
    [(.ife (.cmp .Gt (.sub (.var 0) (.int 0)) (.int 0)) [(.set 3 (.bin .Mod (.sub (.var 0) (.int 0)) (.var 1))), (.stsub (.var 0) (.int 0) (.bin .FloorDiv (.sub (.var 0) (.int 0)) (.var
    1))), (.ret (.var 3))] []), (.stsub (.var 0) (.int 2) (.bin .Add (.sub (.var 0) (.int 2)) (.int 1))), (.set 2 (.bin .Add (.bin .Mult (.sub (.var 0) (.int 1)) (.bin .Add (.int
    48271) (.bin .Mult (.int 69621) (.sub (.var 0) (.int 2))))) (.bin .Mult (.int 40692) (.sub (.var 0) (.int 2))))), (.set 2 (.bin .Mod (.var 2) (.int 2305843009213693951))), (.set
    2 (.bin .Add (.bin .Mod (.bin .Mult (.var 2) (.var 2)) (.int 2147483629)) (.sub (.var 0) (.int 2)))), (.ret (.bin .Mod (.bin .Mod (.bin .Mult (.var 2) (.var 2)) (.int
    2147483587)) (.var 1)))]⟩
/-- _law_same -/
def f75 : Fn := ⟨2, 4,
    [(.ife (.cmp .NotEq (.isi (.var 0) ["tuple"]) (.isi (.var 1) ["tuple"])) [(.ret (.bl false))] []), (.ife (.cmp .NotEq (.isi (.var 0) ["list"]) (.isi (.var 1) ["list"])) [(.ret (.bl
    false))] []), (.ife (.isi (.var 0) ["tuple", "list"]) [(.ife (.cmp .NotEq (.blt .len [(.var 0)]) (.blt .len [(.var 1)])) [(.ret (.bl false))] []), (.ret (.blt .all [(.comp [2,
    3] .zip [(.var 0), (.var 1)] (.tp [(.nm 2), (.nm 3)]) [] (.call 75 [(.var 2), (.var 3)]))]))] []), (.ret (.and (.cmp .Eq (.isi (.var 0) ["bool"]) (.isi (.var 1) ["bool"]))
    [(.cmp .Eq (.var 0) (.var 1))]))]⟩
/-- _law_text -/
def f76 : Fn := ⟨1, 5,
    [(.set 1 (.lst [])), (.set 2 (.int 0)), (.forr .range [(.call 74 [(.var 0), (.int 13)])] (.nm 3) [(.set 4 (.call 74 [(.var 0), (.int 10)])), (.ife (.cmp .Lt (.var 4) (.int 5))
    [(.expr (.mth .append (.var 1) [(.sub (.lst [(.str [120, 59]), (.str []), (.str [35, 32, 114]), (.str [35, 60, 120]), (.str [32, 35, 60]), (.str [35, 61, 32]), (.str [35, 62,
    35]), (.str [35, 35, 60]), (.bin .Mult (.str [114]) (.int 2001))]) (.call 74 [(.var 0), (.int 9)]))]))] [(.ife (.cmp .Lt (.var 4) (.int 9)) [(.expr (.mth .append (.var 1) [(.sub
    (.lst [(.str [35, 60]), (.str [35, 61]), (.str [35, 62])]) (.var 2))])), (.set 2 (.bin .Mod (.bin .Add (.var 2) (.int 1)) (.int 3)))] [(.expr (.mth .append (.var 1) [(.sub (.lst
    [(.str [35, 60]), (.str [35, 61]), (.str [35, 62])]) (.call 74 [(.var 0), (.int 3)]))]))])])]), (.ife (.and (.cmp .Gt (.var 2) (.int 0)) [(.cmp .Gt (.call 74 [(.var 0), (.int
    4)]) (.int 0))]) [(.expr (.mth .extend (.var 1) [(.slc (.lst [(.str [35, 60]), (.str [121, 59]), (.str [35, 61]), (.str [122, 59]), (.str [35, 62])]) [(.bin .Mult (.int 2) (.var
    2))] [])]))] []), (.ret (.bin .Add (.mth .join (.str [10]) [(.var 1)]) (.bin .Mult (.str [10]) (.call 74 [(.var 0), (.int 2)]))))]⟩
/-- _law_due -/
def f77 : Fn := ⟨1, 6,
    [(.set 1 (.lst [(.str []), (.str [])])), (.set 2 (.str [35, 60])), (.set 3 (.mth .split (.var 0) [(.str [10])])), (.forr .range [(.blt .len [(.var 3)])] (.nm 4) [(.set 5 (.bin .Add
    (.sub (.var 3) (.var 4)) (.bin .Mult (.str [10]) (.blt .int [(.cmp .Lt (.bin .Add (.var 4) (.int 1)) (.blt .len [(.var 3)]))])))), (.ife (.cmp .In (.sub (.var 3) (.var 4)) (.tup
    [(.str [35, 60]), (.str [35, 61]), (.str [35, 62])])) [(.ife (.cmp .NotEq (.sub (.var 3) (.var 4)) (.var 2)) [(.ret (.var 4))] []), (.set 2 (.sub (.dct [(.str [35, 60]), (.str
    [35, 61]), (.str [35, 61]), (.str [35, 62]), (.str [35, 62]), (.str [35, 60])]) (.var 2)))] [(.ife (.cmp .NotEq (.var 2) (.str [35, 62])) [(.stsub (.var 1) (.int 0) (.bin .Add
    (.sub (.var 1) (.int 0)) (.var 5)))] []), (.ife (.cmp .NotEq (.var 2) (.str [35, 61])) [(.stsub (.var 1) (.int 1) (.bin .Add (.sub (.var 1) (.int 1)) (.var 5)))] [])])]), (.ife
    (.cmp .NotEq (.var 2) (.str [35, 60])) [(.ret (.blt .len [(.var 3)]))] []), (.ret (.tup [(.sub (.var 1) (.int 0)), (.sub (.var 1) (.int 1))]))]⟩
/-- _law_told -/
def f78 : Fn := ⟨1, 2,
    [(.tri [(.ret (.call 72 [(.var 0)]))] [(.hdl 81 (some 1) [(.ife (.and (.xis 1 49) [(.not (.xis 1 50))]) [(.ret (.xfl 1 100000))] []), (.ret (.str [111, 116, 104, 101, 114]))])])]⟩
/-- law -/
def f79 : Fn := ⟨1, 5,
    [(.forr .range [(.blt .max [(.int 2), (.blt .min [(.int 4), (.blt .len [(.var 0)])])])] (.nm 1) [(.set 2 (.call 73 [(.var 0), (.var 1)])), (.forr .range [(.int 8)] (.nm 3) [(.set 4
    (.call 76 [(.var 2)])), (.ife (.not (.call 75 [(.call 78 [(.var 4)]), (.call 77 [(.var 4)])])) [(.ret (.bl false))] [])])]), (.ret (.bl true))]⟩
/-- MARKS -/
def c80 : D := (.tup [(.str [35, 60]), (.str [35, 61]), (.str [35, 62])])
end Mini

set_option Elab.async false
set_option linter.all false
set_option maxRecDepth 100000
set_option maxHeartbeats 4000000
namespace Mini.K73
def fns : List (Nat × Fn) := [(1, f1), (72, f72), (73, f73), (74, f74), (75, f75), (76, f76), (77, f77), (78, f78), (79, f79)]
def gls : List (Nat × D) := [(80, c80)]
def xs : List (Nat × List Nat) := [(50, []), (81, [100000])]
def sb : List (Nat × Nat × Bool) := [(50, 81, false), (50, 50, true), (50, 49, true), (81, 81, true), (81, 50, false), (81, 49, true)]
def hc : List Nat := [81]
def P : Pg := { gl := fun g => gls.lookup g, fn := fun g => fns.lookup g, sub := subL sb, hcl := fun c => hc.contains c, xf := fun c => xs.lookup c }
end Mini.K73

set_option Elab.async false
set_option linter.all false
set_option maxRecDepth 100000
set_option maxHeartbeats 4000000
namespace Mini
/-! ### loops by invariants -/
theorem wh_ind {T : Env → Sto → Mx Bool} {B : Env → Sto → Sx} (I : Nat → Env → Sto → Prop) (R : Fl → Sto → Prop)
    (step : ∀ m env st, I m env st → (∃ st1, T env st = some (.ok false, st1) ∧ R (.nx env) st1) ∨
      (∃ st1 env2 st2 m', T env st = some (.ok true, st1) ∧ (B env st1 = some (.nx env2, st2) ∨ B env st1 = some (.ct env2, st2)) ∧ m' < m ∧ I m' env2 st2) ∨
      (∃ st1 d st2, T env st = some (.ok true, st1) ∧ B env st1 = some (.rt d, st2) ∧ R (.rt d) st2)) :
    ∀ (m : Nat) (env : Env) (st : Sto) (F : Nat), I m env st → m < F → ∃ fl st', whG T B F env st = some (fl, st') ∧ R fl st' := by
  intro m
  induction m using Nat.strongRecOn with
  | ind m ih =>
    intro env st F hI hF
    cases F with
    | zero => omega
    | succ F =>
      rcases step m env st hI with ⟨st1, h1, h2⟩ | ⟨st1, env2, st2, m', h1, h2, h3, h4⟩ | ⟨st1, d, st2, h1, h2, h3⟩
      · exact ⟨.nx env, st1, by rw [whG, h1]; rfl, h2⟩
      · obtain ⟨fl, st', q1, q2⟩ := ih m' h3 env2 st2 F h4 (by omega)
        refine ⟨fl, st', ?_, q2⟩
        rw [whG, h1]
        rcases h2 with h2 | h2
        · simp only [be_ok, if_true, h2, q1]
        · simp only [be_ok, if_true, h2, q1]
      · refine ⟨.rt d, st2, ?_, h3⟩
        rw [whG, h1]
        simp only [be_ok, if_true, h2]
theorem for_ind {wk : Sto → Option (List D)} {asg : D → Env → Option Env} {B : Env → Sto → Sx} (its : List D) (I : Nat → Env → Sto → Prop) (R : Fl → Sto → Prop)
    (hw : ∀ i env st, i ≤ its.length → I i env st → wk st = some its)
    (step : ∀ i x env st, its[i]? = some x → I i env st → ∃ env1, asg x env = some env1 ∧
      ((∃ env2 st2, (B env1 st = some (.nx env2, st2) ∨ B env1 st = some (.ct env2, st2)) ∧ I (i + 1) env2 st2) ∨ (∃ d st2, B env1 st = some (.rt d, st2) ∧ R (.rt d) st2)))
    (done : ∀ env st, I its.length env st → R (.nx env) st) :
    ∀ (k i : Nat) (env : Env) (st : Sto) (F : Nat), i + k = its.length → I i env st → k < F → ∃ fl st', forG wk asg B F i env st = some (fl, st') ∧ R fl st' := by
  intro k
  induction k with
  | zero =>
    intro i env st F hi hI hF
    cases F with
    | zero => omega
    | succ F =>
      have e : i = its.length := by omega
      subst e
      refine ⟨.nx env, st, ?_, done env st hI⟩
      rw [forG, hw _ env st (Nat.le_refl _) hI]
      simp
  | succ k ih =>
    intro i env st F hi hI hF
    cases F with
    | zero => omega
    | succ F =>
      have hx : its[i]? = some its[i] := List.getElem?_eq_getElem (by omega)
      obtain ⟨env1, h1, h2⟩ := step i _ env st hx hI
      rw [forG, hw i env st (by omega) hI]
      dsimp only
      rw [hx]
      dsimp only
      rw [h1]
      dsimp only
      rcases h2 with ⟨env2, st2, h2, h3⟩ | ⟨d, st2, h2, h3⟩
      · obtain ⟨fl, st', q1, q2⟩ := ih (i + 1) env2 st2 F (by omega) h3 (by omega)
        refine ⟨fl, st', ?_, q2⟩
        rcases h2 with h2 | h2
        · rw [h2]; exact q1
        · rw [h2]; exact q1
      · exact ⟨.rt d, st2, by rw [h2], h3⟩
theorem lc_ind {wk : Sto → Option (List D)} {asg : D → Option Env} {T : Env → Sto → Mx Bool} {E : Env → Sto → Mx D} (its : List D) (I : Nat → List D → Sto → Prop)
    (hw : ∀ i acc st, i ≤ its.length → I i acc st → wk st = some its)
    (step : ∀ i x acc st, its[i]? = some x → I i acc st → ∃ env1, asg x = some env1 ∧
      ((∃ st2, T env1 st = some (.ok false, st2) ∧ I (i + 1) acc st2) ∨ (∃ st2 y st3, T env1 st = some (.ok true, st2) ∧ E env1 st2 = some (.ok y, st3) ∧ acc.length < LN ∧ I (i + 1) (acc ++ [y]) st3))) :
    ∀ (k i : Nat) (acc : List D) (st : Sto) (F : Nat), i + k = its.length → I i acc st → k < F → ∃ ys st', lcG wk asg T E F i acc st = some (ys, st') ∧ I its.length ys st' := by
  intro k
  induction k with
  | zero =>
    intro i acc st F hi hI hF
    cases F with
    | zero => omega
    | succ F =>
      have e : i = its.length := by omega
      subst e
      refine ⟨acc, st, ?_, hI⟩
      rw [lcG, hw _ acc st (Nat.le_refl _) hI]
      simp
  | succ k ih =>
    intro i acc st F hi hI hF
    cases F with
    | zero => omega
    | succ F =>
      have hx : its[i]? = some its[i] := List.getElem?_eq_getElem (by omega)
      obtain ⟨env1, h1, h2⟩ := step i _ acc st hx hI
      rw [lcG, hw i acc st (by omega) hI]
      dsimp only
      rw [hx]
      dsimp only
      rw [h1]
      dsimp only
      rcases h2 with ⟨st2, h2, h3⟩ | ⟨st2, y, st3, h2, h3, h4, h5⟩
      · obtain ⟨ys, st', q1, q2⟩ := ih (i + 1) acc st2 F (by omega) h3 (by omega)
        exact ⟨ys, st', by rw [h2]; exact q1, q2⟩
      · obtain ⟨ys, st', q1, q2⟩ := ih (i + 1) (acc ++ [y]) st3 F (by omega) h5 (by omega)
        refine ⟨ys, st', ?_, q2⟩
        rw [h2]
        dsimp only
        rw [h3]
        dsimp only
        rw [if_pos h4]
        exact q1
theorem FU_eq : FU = 16777216 := rfl
/-! ### data -/
theorem eqD_str (st : Sto) (a b : S) : eqD st (.str a) (.str b) = some (decide (a = b)) := by
  show some (PySem.PyData.eqv (.str ⟨a.toArray⟩) (.str ⟨b.toArray⟩)) = _
  unfold PySem.PyData.eqv
  rw [str_beq]
  by_cases h : a = b <;> simp [h]
theorem eqD_int (st : Sto) (a b : Int) : eqD st (.int a) (.int b) = some (decide (a = b)) := by
  show some (PySem.PyData.eqv (.int a) (.int b)) = _
  unfold PySem.PyData.eqv
  rfl
theorem eqD_bl (st : Sto) (a b : Bool) : eqD st (.bl a) (.bl b) = some (decide (a = b)) := by
  show some (PySem.PyData.eqv (.bool a) (.bool b)) = _
  unfold PySem.PyData.eqv
  cases a <;> cases b <;> rfl
theorem atI_nat {α : Type} (xs : List α) (i : Nat) : L2.atI xs (i : Int) = xs[i]? := by
  unfold L2.atI L2.ixN
  rw [if_pos (by omega)]
  by_cases h : i < xs.length
  · rw [if_pos (by omega)]
    simp
  · rw [if_neg (by omega), List.getElem?_eq_none (by omega)]
    rfl
theorem cut_nat {α : Type} (xs : List α) (i j : Nat) (hi : i ≤ xs.length) (hj : j ≤ xs.length) : cut xs (some (i : Int)) (some (j : Int)) = (xs.drop i).take (j - i) := by
  unfold cut
  rw [HT.sIx_nat, HT.sIx_nat, Nat.min_eq_left hi, Nat.min_eq_left hj]
theorem cut_from {α : Type} (xs : List α) (i : Nat) (hi : i ≤ xs.length) : cut xs (some (i : Int)) none = xs.drop i := by
  unfold cut
  rw [HT.sIx_nat, HT.sIx_none, Nat.min_eq_left hi]
  rw [List.take_of_length_le]
  rw [List.length_drop]
  exact Nat.le_refl _
theorem inD_sign (st : Sto) (c : Nat) (s : S) : inD st (.str [c]) (.str s) = some (decide (c ∈ s)) := rfl
theorem all_flat_strs : ∀ ks : List S, (ks.map D.str).all flatD = true
  | [] => rfl
  | k :: ks => by rw [List.map_cons, List.all_cons, all_flat_strs ks]; rfl
theorem any_strs (x : S) : ∀ ks : List S, ((ks.map D.str).any fun y => eqF y (.str x)) = decide (x ∈ ks)
  | [] => by simp
  | k :: ks => by
    rw [List.map_cons, List.any_cons, any_strs x ks]
    show ((k == x) || decide (x ∈ ks)) = _
    by_cases h : k = x
    · simp [h]
    · have h' : ¬ x = k := fun z => h z.symm
      by_cases h2 : x ∈ ks
      · simp [h2]
      · simp [h, h', h2]
theorem inD_strs (st : Sto) (x : S) (ks : List S) : inD st (.str x) (.tup (ks.map .str)) = some (decide (x ∈ ks)) := by
  have e : inD st (.str x) (.tup (ks.map .str)) = (match items st (.tup (ks.map .str)) with
    | some xs => if flatD (.str x) && xs.all flatD then some (xs.any fun y => eqF y (.str x)) else none
    | none => none) := by
    unfold inD
    split
    · rename_i h; cases h
    · rfl
  rw [e]
  simp only [items, all_flat_strs, flatD, Bool.and_self, if_true, any_strs]
end Mini

set_option Elab.async false
set_option linter.all false
set_option maxRecDepth 100000
set_option maxHeartbeats 4000000
local macro_rules | `(tactic| simp_arith! [$xs:simpLemma,*] $[$l:location]?) => `(tactic| simp only [Mini.nex_non, Mini.nex_bl, Mini.nex_int, Mini.nex_str, Mini.nex_tup, Mini.nex_rol, Mini.nex_obj, Mini.nex_ty, Mini.nex_glo, Mini.nex_cdt, Mini.isX, Mini.startE, Mini.retOf, Mini.evSs, Mini.evS, Mini.evE, Mini.evL, Mini.evTs, Mini.evAnd, Mini.evOr, Mini.evT, Mini.bT, Mini.bs, Mini.be, Mini.bd, Mini.opt, Mini.asgT, Mini.asgTs, Mini.wipeE, Mini.preM, Mini.mthD, Mini.bltD, Mini.binD, Mini.augD, Mini.cmpD, Mini.subD, Mini.slcD, Mini.stsubD, Mini.optI, Mini.truD, Mini.items, Mini.litems, Mini.inD_sign, Mini.inD_strs, Mini.typD, Mini.newL, List.length_cons, List.length_nil, List.map_cons, List.map_nil, List.replicate_succ, List.replicate_zero, List.cons_append, List.nil_append, List.getElem?_cons_zero, List.getElem?_cons_succ, List.set_cons_zero, List.set_cons_succ, Nat.reduceAdd, Nat.reduceSub, Nat.zero_add, Nat.add_zero, Nat.sub_self, Option.map_some, Option.map_none, Option.bind_some, Option.bind_none, if_true, if_false, ite_true, ite_false, and_self, and_true, true_and, Mini.eqD_str, Mini.eqD_int, Mini.eqD_bl, Bool.not_true, Bool.not_false, Bool.false_eq_true, decide_true, decide_false, reduceIte, reduceCtorEq, decide_eq_true_eq, $xs,*] $[$l:location]?)
namespace Mini
structure HasW (P : Pg) : Prop where
  h1 : P.fn 1 = some f1
  h2 : P.fn 2 = some f2
  h3 : P.fn 3 = some f3
  h4 : P.fn 4 = some f4
  h5 : P.fn 5 = some f5
  h6 : P.fn 6 = some f6
  h7 : P.fn 7 = some f7
  h8 : P.fn 8 = some f8
  h9 : P.fn 9 = some f9
  h10 : P.fn 10 = some f10
  h35 : P.gl 35 = some c35
  h36 : P.gl 36 = some c36
  h37 : P.gl 37 = some c37
  h38 : P.gl 38 = some c38
  h39 : P.gl 39 = some c39
  h40 : P.gl 40 = some c40
  h41 : P.gl 41 = some c41
  h42 : P.gl 42 = some c42
  h43 : P.gl 43 = some c43
  h44 : P.gl 44 = some c44
  h45 : P.gl 45 = some c45
  h46 : P.gl 46 = some c46
  h47 : P.gl 47 = some c47
  h48 : P.gl 48 = some c48
/-! ### run_end -/
def runLen (cs : S) (l : S) : Nat := (l.takeWhile (fun c => decide (c ∈ cs))).length
theorem runLen_le (cs l : S) : runLen cs l ≤ l.length := by
  unfold runLen
  exact List.Sublist.length_le (List.takeWhile_sublist _)
theorem run_end_spec {P : Pg} (h3 : P.fn 3 = some f3) (n : Nat) (t cs : S) (a : Nat) (st : Sto) (ha : a ≤ t.length) (hl : t.length ≤ 2000) :
    callN P (n + 1) 3 [.str t, .int a, .str cs] st = some (.ok (.int ((a + runLen cs (t.drop a) : Nat) : Int)), st) := by
  rw [callN, h3]
  simp only [f3, List.length_cons, List.length_nil, Nat.reduceAdd, if_true, startE, List.map_cons, List.map_nil, List.replicate_zero, Nat.sub_self, List.append_nil]
  rw [evSs, evS]
  have key := wh_ind (T := fun env st => evT P (callN P n) (.and (.cmp .Lt (.var 1) (.blt .len [(.var 0)])) [(.cmp .In (.sub (.var 0) (.var 1)) (.var 2))]) env st) (B := fun env st => evSs P (callN P n) [(.aug 1 .Add (.int 1))] env st)
    (fun m env st' => st' = st ∧ ∃ b, b ≤ t.length ∧ m = t.length - b ∧ env = [some (.str t), some (.int ((b : Nat) : Int)), some (.str cs)] ∧ b + runLen cs (t.drop b) = a + runLen cs (t.drop a))
    (fun fl st' => st' = st ∧ fl = .nx [some (.str t), some (.int ((a + runLen cs (t.drop a) : Nat) : Int)), some (.str cs)])
    (fun m env st' ⟨hst, b, hb, hm, he, hr⟩ => by
      subst hst he
      by_cases hlt : b < t.length
      · have hd : t.drop b = t[b] :: t.drop (b + 1) := List.drop_eq_getElem_cons hlt
        have hget : t[b]? = some t[b] := List.getElem?_eq_getElem hlt
        have hlt' : ((b : Nat) : Int) < ((t.length : Nat) : Int) := by omega
        by_cases hc : t[b] ∈ cs
        · refine .inr (.inl ⟨st', [some (.str t), some (.int ((b + 1 : Nat) : Int)), some (.str cs)], st', t.length - (b + 1), ?_, .inl ?_, by omega, rfl, b + 1, by omega, rfl, rfl, ?_⟩)
          · simp_arith! [atI_nat, hget, hlt', hc]
          · simp_arith! [Int.natCast_add, Int.natCast_one]
          · rw [← hr, hd]
            unfold runLen
            rw [List.takeWhile_cons, if_pos (by simpa using hc), List.length_cons]
            omega
        · refine .inl ⟨st', ?_, rfl, ?_⟩
          · simp_arith! [atI_nat, hget, hlt', hc]
          · have e : runLen cs (t.drop b) = 0 := by
              rw [hd]
              unfold runLen
              rw [List.takeWhile_cons, if_neg (by simpa using hc)]
              rfl
            rw [← hr, e, Nat.add_zero]
      · have e : b = t.length := by omega
        have hlt' : ¬ ((b : Nat) : Int) < ((t.length : Nat) : Int) := by omega
        refine .inl ⟨st', ?_, rfl, ?_⟩
        · simp_arith! [atI_nat, hlt']
        · have e2 : runLen cs (t.drop b) = 0 := by
            rw [e, List.drop_length]
            rfl
          rw [← hr, e2, Nat.add_zero])
    (t.length - a) [some (.str t), some (.int a), some (.str cs)] st FU ⟨rfl, a, ha, rfl, rfl, rfl⟩ (by rw [FU_eq]; omega)
  obtain ⟨fl, st', k1, rfl, rfl⟩ := key
  rw [k1]
  simp_arith! []

/-! ### find, line_end -/
def toC (c : Nat) (l : S) : Nat := (l.takeWhile (fun x => decide (x ≠ c))).length
theorem toC_le (c : Nat) (l : S) : toC c l ≤ l.length := by
  unfold toC
  exact List.Sublist.length_le (List.takeWhile_sublist _)
theorem toC_cons_eq {c x : Nat} {r : S} (h : x = c) : toC c (x :: r) = 0 := by
  unfold toC
  rw [List.takeWhile_cons, if_neg (by simpa using h)]
  rfl
theorem toC_cons_ne {c x : Nat} {r : S} (h : x ≠ c) : toC c (x :: r) = toC c r + 1 := by
  unfold toC
  rw [List.takeWhile_cons, if_pos (by simpa using h), List.length_cons]
theorem findS_eq (c : Nat) : ∀ (l : S) (i : Nat), findS c l i = if c ∈ l then ((i + toC c l : Nat) : Int) else -1
  | [], i => by simp [findS]
  | x :: r, i => by
    unfold findS
    by_cases h : x = c
    · rw [if_pos h, if_pos (by simp [h]), toC_cons_eq h, Nat.add_zero]
    · rw [if_neg h, findS_eq c r (i + 1), toC_cons_ne h]
      by_cases hm : c ∈ r
      · rw [if_pos hm, if_pos (by simp [hm])]
        congr 1
        omega
      · rw [if_neg hm, if_neg (by simp [hm, Ne.symm h])]
theorem toC_none {c : Nat} : ∀ {l : S}, c ∉ l → toC c l = l.length
  | [], _ => rfl
  | x :: r, h => by
    simp at h
    rw [toC_cons_ne (Ne.symm h.1), toC_none h.2, List.length_cons]
theorem toC_get {c : Nat} : ∀ {l : S}, c ∈ l → l[toC c l]? = some c
  | [], h => by simp at h
  | x :: r, h => by
    by_cases e : x = c
    · rw [toC_cons_eq e, e]; rfl
    · rw [toC_cons_ne e, List.getElem?_cons_succ]
      refine toC_get ?_
      simp at h
      rcases h with h | h
      · exact absurd h.symm e
      · exact h
theorem toC_not {c : Nat} : ∀ {l : S}, ∀ x ∈ l.take (toC c l), x ≠ c
  | [], x, h => by simp at h
  | y :: r, x, h => by
    by_cases e : y = c
    · rw [toC_cons_eq e] at h; simp at h
    · rw [toC_cons_ne e, List.take_succ_cons] at h
      rcases List.mem_cons.mp h with h | h
      · rw [h]; exact e
      · exact toC_not x h
def lineEnd (t : S) (a : Nat) : Nat := a + toC 10 (t.drop a)
theorem lineEnd_le {t : S} {a : Nat} (h : a ≤ t.length) : lineEnd t a ≤ t.length := by
  unfold lineEnd
  have := toC_le 10 (t.drop a)
  rw [List.length_drop] at this
  omega
theorem line_end_spec {P : Pg} (h4 : P.fn 4 = some f4) (n : Nat) (t : S) (a : Nat) (st : Sto) (ha : a ≤ t.length) :
    callN P (n + 1) 4 [.str t, .int a] st = some (.ok (.int ((lineEnd t a : Nat) : Int)), st) := by
  have h1 : (0 : Int) ≤ a ∧ (a : Int) ≤ t.length := by omega
  by_cases hm : 10 ∈ t.drop a
  · have hn : ¬ ((a + toC 10 (t.drop a) : Nat) : Int) < 0 := by omega
    rw [callN, h4]
    simp_arith! [f4, h1, Int.toNat_natCast, findS_eq, hm, hn]
    rfl
  · have e : lineEnd t a = t.length := by
      unfold lineEnd
      rw [toC_none hm, List.length_drop]
      omega
    have hn : (-1 : Int) < 0 := by decide
    rw [callN, h4]
    simp_arith! [f4, h1, Int.toNat_natCast, findS_eq, hm, hn, e]
/-! ### gap_end -/
/-- how long a gap is; true: within a remark -/
def gm : Bool → S → Nat
  | _, [] => 0
  | false, c :: r => if c = 32 ∨ c = 10 then gm false r + 1 else if c = 35 then gm true r + 1 else 0
  | true, c :: r => if c = 10 then gm false r + 1 else gm true r + 1
theorem gm_le : ∀ (b : Bool) (l : S), gm b l ≤ l.length
  | _, [] => by cases ‹Bool› <;> simp [gm]
  | false, c :: r => by
    unfold gm
    have h1 := gm_le false r
    have h2 := gm_le true r
    split
    · simp; omega
    · split
      · simp; omega
      · omega
  | true, c :: r => by
    unfold gm
    have h1 := gm_le false r
    have h2 := gm_le true r
    split <;> simp <;> omega
theorem gm_true : ∀ l : S, gm true l = toC 10 l + gm false (l.drop (toC 10 l))
  | [] => rfl
  | c :: r => by
    by_cases h : c = 10
    · rw [toC_cons_eq h, List.drop_zero, Nat.zero_add]
      unfold gm
      simp [h]
    · rw [toC_cons_ne h]
      have := gm_true r
      conv => lhs; unfold gm
      rw [if_neg h, this, List.drop_succ_cons]
      omega
def gapEnd (t : S) (a : Nat) : Nat := a + gm false (t.drop a)
theorem gapEnd_le {t : S} {a : Nat} (h : a ≤ t.length) : gapEnd t a ≤ t.length := by
  unfold gapEnd
  have := gm_le false (t.drop a)
  rw [List.length_drop] at this
  omega
theorem gap_end_spec {P : Pg} (h4 : P.fn 4 = some f4) (h5 : P.fn 5 = some f5) (n : Nat) (t : S) (a : Nat) (st : Sto) (ha : a ≤ t.length) (hl : t.length ≤ 2000) :
    callN P (n + 2) 5 [.str t, .int a] st = some (.ok (.int ((gapEnd t a : Nat) : Int)), st) := by
  rw [callN, h5]
  simp only [f5, List.length_cons, List.length_nil, Nat.reduceAdd, if_true, startE, List.map_cons, List.map_nil, List.replicate_zero, Nat.sub_self, List.append_nil]
  rw [evSs, evS]
  have key := wh_ind (T := fun env st => evT P (callN P (n + 1)) (.and (.cmp .Lt (.var 1) (.blt .len [(.var 0)])) [(.cmp .In (.sub (.var 0) (.var 1)) (.str [32, 10, 35]))]) env st)
    (B := fun env st => evSs P (callN P (n + 1)) [(.set 1 (.ite (.cmp .Eq (.sub (.var 0) (.var 1)) (.str [35])) (.call 4 [(.var 0), (.var 1)]) (.bin .Add (.var 1) (.int 1))))] env st)
    (fun m env st' => st' = st ∧ ∃ b, b ≤ t.length ∧ m = t.length - b ∧ env = [some (.str t), some (.int ((b : Nat) : Int))] ∧ gapEnd t b = gapEnd t a)
    (fun fl st' => st' = st ∧ fl = .nx [some (.str t), some (.int ((gapEnd t a : Nat) : Int))])
    (fun m env st' ⟨hst, b, hb, hm, he, hr⟩ => by
      subst hst he
      by_cases hlt : b < t.length
      · have hd : t.drop b = t[b] :: t.drop (b + 1) := List.drop_eq_getElem_cons hlt
        have hget : t[b]? = some t[b] := List.getElem?_eq_getElem hlt
        have hlt' : ((b : Nat) : Int) < ((t.length : Nat) : Int) := by omega
        by_cases h35 : t[b] = 35
        · have hin : t[b] ∈ [32, 10, 35] := by simp [h35]
          have hd1 : ([t[b]] : List Nat) = [35] := by rw [h35]
          have step : gapEnd t (lineEnd t b) = gapEnd t b := by
            unfold gapEnd lineEnd
            rw [hd, toC_cons_ne (by omega), ← hd]
            have e1 : gm false (t.drop b) = gm true (t.drop (b + 1)) + 1 := by
              rw [hd]
              conv => lhs; unfold gm
              rw [if_neg (by omega), if_pos h35]
            rw [e1, gm_true, List.drop_drop]
            have e2 : b + (toC 10 (t.drop (b + 1)) + 1) = b + 1 + toC 10 (t.drop (b + 1)) := by omega
            rw [e2]
            omega
          have hgt : b < lineEnd t b := by
            unfold lineEnd
            rw [hd, toC_cons_ne (by omega)]
            omega
          refine .inr (.inl ⟨st', [some (.str t), some (.int ((lineEnd t b : Nat) : Int))], st', t.length - lineEnd t b, ?_, .inl ?_, ?_, rfl, lineEnd t b, lineEnd_le hb, rfl, rfl, step.trans hr⟩)
          · simp_arith! [atI_nat, hget, hlt', hin]
          · have sp := line_end_spec h4 n t b st' hb
            simp_arith! [h4, sp, atI_nat, hget, hd1]
          · have := lineEnd_le hb
            omega
        · by_cases hin : t[b] ∈ [32, 10, 35]
          · have hin' : t[b] = 32 ∨ t[b] = 10 := by
              simp at hin
              omega
            have hd1 : ¬ ([t[b]] : List Nat) = [35] := by simpa using h35
            refine .inr (.inl ⟨st', [some (.str t), some (.int ((b + 1 : Nat) : Int))], st', t.length - (b + 1), ?_, .inl ?_, by omega, rfl, b + 1, by omega, rfl, rfl, ?_⟩)
            · simp_arith! [atI_nat, hget, hlt', hin]
            · simp_arith! [atI_nat, hget, hd1, Int.natCast_add, Int.natCast_one]
            · rw [← hr]
              unfold gapEnd
              rw [hd]
              conv => rhs; unfold gm
              rw [if_pos hin']
              omega
          · refine .inl ⟨st', ?_, rfl, ?_⟩
            · simp_arith! [atI_nat, hget, hlt', hin]
            · have e : gapEnd t b = b := by
                unfold gapEnd
                rw [hd]
                simp at hin
                unfold gm
                rw [if_neg (by omega), if_neg (by omega), Nat.add_zero]
              rw [← hr, e]
      · have e : b = t.length := by omega
        have hlt' : ¬ ((b : Nat) : Int) < ((t.length : Nat) : Int) := by omega
        refine .inl ⟨st', ?_, rfl, ?_⟩
        · simp_arith! [atI_nat, hlt']
        · have e2 : gapEnd t b = b := by
            unfold gapEnd
            rw [e, List.drop_length]
            rfl
          rw [← hr, e2])
    (t.length - a) [some (.str t), some (.int a)] st FU ⟨rfl, a, ha, rfl, rfl, rfl⟩ (by rw [FU_eq]; omega)
  obtain ⟨fl, st', k1, rfl, rfl⟩ := key
  rw [k1]
  simp_arith! []
end Mini

set_option Elab.async false
set_option linter.all false
set_option maxRecDepth 100000
set_option maxHeartbeats 4000000
namespace Mini
def smallL : S := [97, 98, 99, 100, 101, 102, 103, 104, 105, 106, 107, 108, 109, 110, 111, 112, 113, 114, 115, 116, 117, 118, 119, 120, 121, 122]
def figL : S := [48, 49, 50, 51, 52, 53, 54, 55, 56, 57]
def markL : S := [40, 41, 91, 93, 44, 59, 43, 45, 42, 60, 61]
def keyL : List S := [[100, 101, 102], [105, 115], [100, 114, 97, 119], [102, 114, 111, 109], [108, 101, 116], [105, 110], [105, 102], [116, 104, 101, 110], [101, 108, 115, 101], [102, 111, 114], [98, 101, 108, 111, 119], [103, 105, 118, 101], [110, 111, 116], [115, 105, 122, 101], [121, 101, 115], [110, 111]]
def sKey : S := [107, 101, 121]
def sName : S := [110, 97, 109, 101]
def sNumber : S := [110, 117, 109, 98, 101, 114]
def sText : S := [116, 101, 120, 116]
def sSign : S := [115, 105, 103, 110]
def sStray : S := [115, 116, 114, 97, 121]
theorem e35 : c35 = .int 2000 := rfl
theorem e36 : c36 = .int 12 := rfl
theorem e37 : c37 = .int 40 := rfl
theorem e38 : c38 = .tup (keyL.map .str) := rfl
theorem e39 : c39 = .str smallL := rfl
theorem e40 : c40 = .str figL := rfl
theorem e41 : c41 = .int 6 := rfl
theorem e42 : c42 = .str markL := rfl
theorem e43 : c43 = .str sKey := rfl
theorem e44 : c44 = .str sName := rfl
theorem e45 : c45 = .str sNumber := rfl
theorem e46 : c46 = .str sText := rfl
theorem e47 : c47 = .str sSign := rfl
theorem e48 : c48 = .str sStray := rfl
/-- a word that begins a text: its sort and how long it is -/
def lettersW (l : S) : S × Nat := (if l.take (runLen smallL l) ∈ keyL then sKey else if runLen smallL l ≤ 12 then sName else sStray, runLen smallL l)
def figuresW (l : S) : S × Nat := (if runLen figL l ≤ 6 ∧ (l.head? ≠ some 48 ∨ runLen figL l = 1) then sNumber else sStray, runLen figL l)
def quoteW (l : S) : S × Nat := if 34 ∈ l.drop 1 ∧ toC 34 (l.drop 1) + 1 ≤ toC 10 l then (if toC 34 (l.drop 1) ≤ 40 then sText else sStray, toC 34 (l.drop 1) + 2) else (sStray, 1)
def wordW (l : S) : S × Nat := match l with
  | [] => (sStray, 0)
  | c :: r => if c ∈ smallL then lettersW (c :: r) else if c ∈ figL then figuresW (c :: r) else if c = 34 then quoteW (c :: r) else (if c ∈ markL then sSign else sStray, 1)
def toW (a : Nat) (w : S × Nat) : D := .tup [.str w.1, .int ((a + w.2 : Nat) : Int)]
theorem letters_at_spec {P : Pg} (H : HasW P) (n : Nat) (t : S) (a : Nat) (st : Sto) (ha : a ≤ t.length) (hl : t.length ≤ 2000) :
    callN P (n + 2) 6 [.str t, .int a] st = some (.ok (toW a (lettersW (t.drop a))), st) := by
  rw [callN, H.h6]
  have sp := run_end_spec H.h3 n t smallL a st ha hl
  have hr := runLen_le smallL (t.drop a)
  rw [List.length_drop] at hr
  have hc := cut_nat t a (a + runLen smallL (t.drop a)) ha (by omega)
  rw [Nat.add_sub_cancel_left] at hc
  have hsub : ((a + runLen smallL (t.drop a) : Nat) : Int) - (a : Int) = ((runLen smallL (t.drop a) : Nat) : Int) := by omega
  have h2 : (2 : Nat) ≤ LN := by decide
  unfold lettersW toW
  by_cases hk : (t.drop a).take (runLen smallL (t.drop a)) ∈ keyL
  · simp_arith! [f6, H.h3, H.h39, e39, H.h38, e38, H.h43, e43, sp, hc, hk, h2]
  · by_cases h12 : ((runLen smallL (t.drop a) : Nat) : Int) ≤ 12
    · have h12' : runLen smallL (t.drop a) ≤ 12 := by omega
      simp_arith! [f6, H.h3, H.h39, e39, H.h38, e38, H.h36, e36, H.h44, e44, H.h48, e48, sp, hc, hk, hsub, h12, h12', h2]
    · have h12' : ¬ runLen smallL (t.drop a) ≤ 12 := by omega
      simp_arith! [f6, H.h3, H.h39, e39, H.h38, e38, H.h36, e36, H.h44, e44, H.h48, e48, sp, hc, hk, hsub, h12, h12', h2]
theorem figures_at_spec {P : Pg} (H : HasW P) (n : Nat) (t : S) (a : Nat) (st : Sto) (ha : a < t.length) (hl : t.length ≤ 2000) :
    callN P (n + 2) 7 [.str t, .int a] st = some (.ok (toW a (figuresW (t.drop a))), st) := by
  rw [callN, H.h7]
  have sp := run_end_spec H.h3 n t figL a st (by omega) hl
  have hget : t[a]? = some t[a] := List.getElem?_eq_getElem ha
  have hd : t.drop a = t[a] :: t.drop (a + 1) := List.drop_eq_getElem_cons ha
  have hh : (t.drop a).head? = some t[a] := by rw [hd]; rfl
  have hsub : ((a + runLen figL (t.drop a) : Nat) : Int) - (a : Int) = ((runLen figL (t.drop a) : Nat) : Int) := by omega
  have h2 : (2 : Nat) ≤ LN := by decide
  unfold figuresW toW
  rw [hh]
  by_cases h6 : ((runLen figL (t.drop a) : Nat) : Int) ≤ 6
  · have h6' : runLen figL (t.drop a) ≤ 6 := by omega
    by_cases h0 : t[a] = 48
    · have h0' : ([t[a]] : S) = [48] := by rw [h0]
      by_cases h1 : ((runLen figL (t.drop a) : Nat) : Int) = 1
      · have h1' : runLen figL (t.drop a) = 1 := by omega
        simp_arith! [f7, H.h3, H.h40, e40, H.h41, e41, H.h45, e45, H.h48, e48, sp, atI_nat, hget, hsub, h6, h0', h1, h6', h2]
        simp [h1', LN]
      · have h1' : ¬ runLen figL (t.drop a) = 1 := by omega
        simp_arith! [f7, H.h3, H.h40, e40, H.h41, e41, H.h45, e45, H.h48, e48, sp, atI_nat, hget, hsub, h6, h0', h1, h6', h2]
        simp [h1', h0, LN]
    · have h0' : ¬ ([t[a]] : S) = [48] := by simpa using h0
      simp_arith! [f7, H.h3, H.h40, e40, H.h41, e41, H.h45, e45, H.h48, e48, sp, atI_nat, hget, hsub, h6, h0', h6', h2]
      simp [h0]
  · have h6' : ¬ runLen figL (t.drop a) ≤ 6 := by omega
    simp_arith! [f7, H.h3, H.h40, e40, H.h41, e41, H.h45, e45, H.h48, e48, sp, atI_nat, hget, hsub, h6, h6', h2]
    simp
theorem quote_at_spec {P : Pg} (H : HasW P) (n : Nat) (t : S) (a : Nat) (st : Sto) (ha : a < t.length) :
    callN P (n + 2) 8 [.str t, .int a] st = some (.ok (toW a (quoteW (t.drop a))), st) := by
  rw [callN, H.h8]
  have sp := line_end_spec H.h4 n t a st (by omega)
  have hr : (0 : Int) ≤ (a : Int) + 1 ∧ (a : Int) + 1 ≤ t.length := by omega
  have ht : ((a : Int) + 1).toNat = a + 1 := by omega
  have h2 : (2 : Nat) ≤ LN := by decide
  unfold quoteW toW
  rw [List.drop_drop]
  by_cases hm : 34 ∈ t.drop (a + 1)
  · have hn : ¬ ((a + 1 + toC 34 (t.drop (a + 1)) : Nat) : Int) < 0 := by omega
    by_cases hle : ((lineEnd t a : Nat) : Int) < ((a + 1 + toC 34 (t.drop (a + 1)) : Nat) : Int)
    · have hle' : ¬ toC 34 (t.drop (a + 1)) + 1 ≤ toC 10 (t.drop a) := by
        unfold lineEnd at hle
        omega
      simp_arith! [f8, H.h4, H.h48, e48, H.h37, e37, H.h46, e46, sp, hr, ht, findS_eq, hm, hn, hle, hle', h2]
      simp
    · have hle' : toC 34 (t.drop (a + 1)) + 1 ≤ toC 10 (t.drop a) := by
        unfold lineEnd at hle
        omega
      have hsub : ((a + 1 + toC 34 (t.drop (a + 1)) : Nat) : Int) - (a : Int) - 1 = ((toC 34 (t.drop (a + 1)) : Nat) : Int) := by omega
      have hadd : ((a + 1 + toC 34 (t.drop (a + 1)) : Nat) : Int) + 1 = ((a + (toC 34 (t.drop (a + 1)) + 2) : Nat) : Int) := by omega
      by_cases h40 : ((toC 34 (t.drop (a + 1)) : Nat) : Int) ≤ 40
      · have h40' : toC 34 (t.drop (a + 1)) ≤ 40 := by omega
        simp_arith! [f8, H.h4, H.h48, e48, H.h37, e37, H.h46, e46, sp, hr, ht, findS_eq, hm, hn, hle, hle', hsub, hadd, h40, h40', h2]
      · have h40' : ¬ toC 34 (t.drop (a + 1)) ≤ 40 := by omega
        simp_arith! [f8, H.h4, H.h48, e48, H.h37, e37, H.h46, e46, sp, hr, ht, findS_eq, hm, hn, hle, hle', hsub, hadd, h40, h40', h2]
  · have hn : (-1 : Int) < 0 := by decide
    simp_arith! [f8, H.h4, H.h48, e48, H.h37, e37, H.h46, e46, sp, hr, ht, findS_eq, hm, hn, h2]
    simp
theorem word_at_spec {P : Pg} (H : HasW P) (n : Nat) (t : S) (a : Nat) (st : Sto) (ha : a < t.length) (hl : t.length ≤ 2000) :
    callN P (n + 3) 9 [.str t, .int a] st = some (.ok (toW a (wordW (t.drop a))), st) := by
  rw [callN, H.h9]
  have hget : t[a]? = some t[a] := List.getElem?_eq_getElem ha
  have hd : t.drop a = t[a] :: t.drop (a + 1) := List.drop_eq_getElem_cons ha
  have h2 : (2 : Nat) ≤ LN := by decide
  have hw : wordW (t.drop a) = if t[a] ∈ smallL then lettersW (t.drop a) else if t[a] ∈ figL then figuresW (t.drop a) else if t[a] = 34 then quoteW (t.drop a) else (if t[a] ∈ markL then sSign else sStray, 1) := by
    rw [hd]
    rfl
  rw [hw]
  by_cases h1 : t[a] ∈ smallL
  · have sp := letters_at_spec H n t a st (by omega) hl
    simp_arith! [f9, H.h6, H.h39, e39, sp, atI_nat, hget, h1, h2]
  · by_cases h2' : t[a] ∈ figL
    · have sp := figures_at_spec H n t a st ha hl
      simp_arith! [f9, H.h7, H.h39, e39, H.h40, e40, sp, atI_nat, hget, h1, h2', h2]
    · by_cases h3 : t[a] = 34
      · have h3' : ([t[a]] : S) = [34] := by rw [h3]
        have sp := quote_at_spec H n t a st ha
        have a1 : ¬ (34 : Nat) ∈ smallL := by decide
        have a2 : ¬ (34 : Nat) ∈ figL := by decide
        simp_arith! [f9, H.h8, H.h39, e39, H.h40, e40, sp, atI_nat, hget, h3, a1, a2, h2]
      · have h3' : ¬ ([t[a]] : S) = [34] := by simpa using h3
        by_cases h4 : t[a] ∈ markL
        · simp_arith! [f9, H.h39, e39, H.h40, e40, H.h42, e42, H.h47, e47, H.h48, e48, atI_nat, hget, h1, h2', h3', h3, h4, toW, h2]
          simp
        · simp_arith! [f9, H.h39, e39, H.h40, e40, H.h42, e42, H.h47, e47, H.h48, e48, atI_nat, hget, h1, h2', h3', h3, h4, toW, h2]
          simp
end Mini

set_option Elab.async false
set_option linter.all false
set_option maxRecDepth 100000
set_option maxHeartbeats 4000000
namespace Mini
/-! ### what an evaluation ends with -/
def W {α : Type} (m : Mx α) (Q : α → Sto → Prop) : Prop := ∃ a st', m = some (.ok a, st') ∧ Q a st'
theorem W_ok {α : Type} (a : α) (st : Sto) (Q : α → Sto → Prop) : W (some (.ok a, st)) Q ↔ Q a st := by
  constructor
  · rintro ⟨a', st', h, q⟩
    cases h
    exact q
  · intro q
    exact ⟨a, st, rfl, q⟩
theorem W_none {α : Type} (Q : α → Sto → Prop) : W (none : Mx α) Q ↔ False := by
  constructor
  · rintro ⟨_, _, h, _⟩
    cases h
  · exact False.elim
theorem W_bd {α β : Type} (m : Mx α) (f : α → Sto → Mx β) (Q : β → Sto → Prop) : W (bd m f) Q ↔ W m (fun a st => W (f a st) Q) := by
  constructor
  · rintro ⟨b, st', h, q⟩
    cases m with
    | none => cases h
    | some p =>
      obtain ⟨r, s⟩ := p
      cases r with
      | ok a => exact ⟨a, s, rfl, b, st', h, q⟩
      | exc c fs => cases h
  · rintro ⟨a, s, h, b, st', h2, q⟩
    exact ⟨b, st', by rw [h]; exact h2, q⟩
theorem W_opt {α : Type} (a : α) (st : Sto) (Q : α → Sto → Prop) : W (opt (some a) st) Q ↔ Q a st := W_ok a st Q
theorem W_newL (xs : List D) (st : Sto) (Q : D → Sto → Prop) : W (newL xs st) Q ↔ Q (.obj st.length) (st ++ [.lst xs]) := W_ok _ _ Q
theorem W_ite {α : Type} (c : Prop) [Decidable c] (a b : Mx α) (Q : α → Sto → Prop) : W (if c then a else b) Q ↔ (c → W a Q) ∧ (¬ c → W b Q) := by
  by_cases h : c
  · rw [if_pos h]
    exact ⟨fun q => ⟨fun _ => q, fun n => absurd h n⟩, fun q => q.1 h⟩
  · rw [if_neg h]
    exact ⟨fun q => ⟨fun n => absurd n h, fun _ => q⟩, fun q => q.2 h⟩
def okFl : Fl → Prop
  | .exc _ _ _ => False
  | _ => True
def WS (m : Sx) (Q : Fl → Sto → Prop) : Prop := ∃ fl st', m = some (fl, st') ∧ okFl fl ∧ Q fl st'
theorem WS_mk {fl : Fl} (h : okFl fl) (st : Sto) (Q : Fl → Sto → Prop) : WS (some (fl, st)) Q ↔ Q fl st := by
  constructor
  · rintro ⟨a', st', h, _, q⟩
    cases h
    exact q
  · intro q
    exact ⟨_, st, rfl, h, q⟩
theorem WS_nx (e : Env) (st : Sto) (Q : Fl → Sto → Prop) : WS (some (.nx e, st)) Q ↔ Q (.nx e) st := WS_mk (fl := .nx e) trivial st Q
theorem WS_rt (e : D) (st : Sto) (Q : Fl → Sto → Prop) : WS (some (.rt e, st)) Q ↔ Q (.rt e) st := WS_mk (fl := .rt e) trivial st Q
theorem WS_bk (e : Env) (st : Sto) (Q : Fl → Sto → Prop) : WS (some (.bk e, st)) Q ↔ Q (.bk e) st := WS_mk (fl := .bk e) trivial st Q
theorem WS_ct (e : Env) (st : Sto) (Q : Fl → Sto → Prop) : WS (some (.ct e, st)) Q ↔ Q (.ct e) st := WS_mk (fl := .ct e) trivial st Q
theorem WS_be {α : Type} (env : Env) (m : Mx α) (f : α → Sto → Sx) (Q : Fl → Sto → Prop) : WS (be env m f) Q ↔ W m (fun a st => WS (f a st) Q) := by
  constructor
  · rintro ⟨b, st', h, k, q⟩
    cases m with
    | none => cases h
    | some p =>
      obtain ⟨r, s⟩ := p
      cases r with
      | ok a => exact ⟨a, s, rfl, b, st', h, k, q⟩
      | exc c fs =>
        cases h
        exact absurd k (by simp [okFl])
  · rintro ⟨a, s, h, b, st', h2, k, q⟩
    exact ⟨b, st', by rw [h]; exact h2, k, q⟩
def QB (f : Env → Sto → Sx) (Q : Fl → Sto → Prop) : Fl → Sto → Prop
  | .nx env, st => WS (f env st) Q
  | fl, st => Q fl st
theorem QB_nx (f : Env → Sto → Sx) (Q : Fl → Sto → Prop) (env : Env) (st : Sto) : QB f Q (.nx env) st ↔ WS (f env st) Q := Iff.rfl
theorem QB_rt (f : Env → Sto → Sx) (Q : Fl → Sto → Prop) (d : D) (st : Sto) : QB f Q (.rt d) st ↔ Q (.rt d) st := Iff.rfl
theorem QB_bk (f : Env → Sto → Sx) (Q : Fl → Sto → Prop) (d : Env) (st : Sto) : QB f Q (.bk d) st ↔ Q (.bk d) st := Iff.rfl
theorem QB_ct (f : Env → Sto → Sx) (Q : Fl → Sto → Prop) (d : Env) (st : Sto) : QB f Q (.ct d) st ↔ Q (.ct d) st := Iff.rfl
theorem WS_bs (m : Sx) (f : Env → Sto → Sx) (Q : Fl → Sto → Prop) : WS (bs m f) Q ↔ WS m (QB f Q) := by
  constructor
  · rintro ⟨fl, st', h, k, q⟩
    cases m with
    | none => cases h
    | some p =>
      obtain ⟨r, s⟩ := p
      cases r with
      | nx env => exact ⟨_, s, rfl, trivial, fl, st', h, k, q⟩
      | rt d =>
        cases h
        exact ⟨_, _, rfl, k, q⟩
      | bk d =>
        cases h
        exact ⟨_, _, rfl, k, q⟩
      | ct d =>
        cases h
        exact ⟨_, _, rfl, k, q⟩
      | exc e c fs =>
        cases h
        exact ⟨_, _, rfl, k, q⟩
  · rintro ⟨fl, st', h, k, q⟩
    subst h
    cases fl with
    | nx env =>
      obtain ⟨fl2, st2, h2, k2, q2⟩ := q
      exact ⟨fl2, st2, h2, k2, q2⟩
    | rt d => exact ⟨_, _, rfl, k, q⟩
    | bk d => exact ⟨_, _, rfl, k, q⟩
    | ct d => exact ⟨_, _, rfl, k, q⟩
    | exc e c fs => exact absurd k (by simp [okFl])
/-- what follows a statement -/
def QC (P : Pg) (call : Nat → List D → Sto → Mx D) (ss : List CS) (Q : Fl → Sto → Prop) : Fl → Sto → Prop := QB (fun env st => evSs P call ss env st) Q
theorem QC_nx (P : Pg) (call : Nat → List D → Sto → Mx D) (ss : List CS) (Q : Fl → Sto → Prop) (env : Env) (st : Sto) : QC P call ss Q (.nx env) st ↔ WS (evSs P call ss env st) Q := Iff.rfl
theorem QC_rt (P : Pg) (call : Nat → List D → Sto → Mx D) (ss : List CS) (Q : Fl → Sto → Prop) (d : D) (st : Sto) : QC P call ss Q (.rt d) st ↔ Q (.rt d) st := Iff.rfl
theorem QC_bk (P : Pg) (call : Nat → List D → Sto → Mx D) (ss : List CS) (Q : Fl → Sto → Prop) (d : Env) (st : Sto) : QC P call ss Q (.bk d) st ↔ Q (.bk d) st := Iff.rfl
theorem QC_ct (P : Pg) (call : Nat → List D → Sto → Mx D) (ss : List CS) (Q : Fl → Sto → Prop) (d : Env) (st : Sto) : QC P call ss Q (.ct d) st ↔ Q (.ct d) st := Iff.rfl
theorem WS_nil (P : Pg) (call : Nat → List D → Sto → Mx D) (Q : Fl → Sto → Prop) (env : Env) (st : Sto) : WS (evSs P call [] env st) Q ↔ Q (.nx env) st := by rw [evSs, WS_nx]
theorem WS_cons (P : Pg) (call : Nat → List D → Sto → Mx D) (s : CS) (ss : List CS) (Q : Fl → Sto → Prop) (env : Env) (st : Sto) : WS (evSs P call (s :: ss) env st) Q ↔ WS (evS P call s env st) (QC P call ss Q) := by rw [evSs, WS_bs]; rfl
theorem QC_nil (P : Pg) (call : Nat → List D → Sto → Mx D) (Q : Fl → Sto → Prop) (env : Env) (st : Sto) : QC P call [] Q (.nx env) st ↔ Q (.nx env) st := by
  rw [QC_nx, WS_nil]
def QI (P : Pg) (call : Nat → List D → Sto → Mx D) (a b : List CS) (env : Env) (Q : Fl → Sto → Prop) (k : Bool) (st : Sto) : Prop := (k = true → WS (evSs P call a env st) Q) ∧ (¬ k = true → WS (evSs P call b env st) Q)
theorem QI_ap (P : Pg) (call : Nat → List D → Sto → Mx D) (a b : List CS) (env : Env) (Q : Fl → Sto → Prop) (k : Bool) (st : Sto) : QI P call a b env Q k st ↔ (k = true → WS (evSs P call a env st) Q) ∧ (¬ k = true → WS (evSs P call b env st) Q) := Iff.rfl
theorem WS_ife (P : Pg) (call : Nat → List D → Sto → Mx D) (c : CE) (a b : List CS) (Q : Fl → Sto → Prop) (env : Env) (st : Sto) : WS (evS P call (.ife c a b) env st) Q ↔ W (evT P call c env st) (QI P call a b env Q) := by
  rw [evS, WS_be]
  have e : (fun (k : Bool) st => WS (if k = true then evSs P call a env st else evSs P call b env st) Q) = QI P call a b env Q := by
    funext k st
    cases k
    · simp [QI]
    · simp [QI]
  rw [e]
theorem evS_expr (P : Pg) (call : Nat → List D → Sto → Mx D) (e : CE) (env : Env) (st : Sto) : evS P call (.expr e) env st = be env (evE P call e env st) fun _ st => some (.nx env, st) := by rw [evS]
theorem WS_ite (c : Prop) [Decidable c] (a b : Sx) (Q : Fl → Sto → Prop) : WS (if c then a else b) Q ↔ (c → WS a Q) ∧ (¬ c → WS b Q) := by
  by_cases h : c
  · rw [if_pos h]
    exact ⟨fun q => ⟨fun _ => q, fun n => absurd h n⟩, fun q => q.1 h⟩
  · rw [if_neg h]
    exact ⟨fun q => ⟨fun n => absurd n h, fun _ => q⟩, fun q => q.2 h⟩
def QR (Q : D → Sto → Prop) : Fl → Sto → Prop
  | .nx _, st => Q .non st
  | .rt d, st => Q d st
  | _, _ => False
theorem QR_nx (Q : D → Sto → Prop) (env : Env) (st : Sto) : QR Q (.nx env) st ↔ Q .non st := Iff.rfl
theorem QR_rt (Q : D → Sto → Prop) (d : D) (st : Sto) : QR Q (.rt d) st ↔ Q d st := Iff.rfl
theorem W_ret (m : Sx) (Q : D → Sto → Prop) : W (retOf m) Q ↔ WS m (QR Q) := by
  constructor
  · rintro ⟨d, st', h, q⟩
    cases m with
    | none => cases h
    | some p =>
      obtain ⟨r, s⟩ := p
      cases r with
      | nx env =>
        cases h
        exact ⟨_, _, rfl, trivial, q⟩
      | rt d =>
        cases h
        exact ⟨_, _, rfl, trivial, q⟩
      | bk d => cases h
      | ct d => cases h
      | exc e c fs => cases h
  · rintro ⟨fl, st', h, k, q⟩
    subst h
    cases fl with
    | nx env => exact ⟨_, _, rfl, q⟩
    | rt d => exact ⟨_, _, rfl, q⟩
    | bk d => exact absurd q (by simp [QR])
    | ct d => exact absurd q (by simp [QR])
    | exc e c fs => exact absurd k (by simp [okFl])
theorem W_mono {α : Type} {m : Mx α} {Q R : α → Sto → Prop} (h : W m Q) (q : ∀ a st, Q a st → R a st) : W m R := by
  obtain ⟨a, st, h1, h2⟩ := h
  exact ⟨a, st, h1, q a st h2⟩
theorem WS_mono {m : Sx} {Q R : Fl → Sto → Prop} (h : WS m Q) (q : ∀ a st, Q a st → R a st) : WS m R := by
  obtain ⟨a, st, h1, h2, h3⟩ := h
  exact ⟨a, st, h1, h2, q a st h3⟩
theorem evAnd_bl (P : Pg) (call : Nat → List D → Sto → Mx D) (e : CE) (es : List CE) (b : Bool) (env : Env) (st : Sto) :
    evAnd P call (e :: es) (.bl b) env st = if b = true then bd (evE P call e env st) (fun d st => evAnd P call es d env st) else some (.ok (.bl b), st) := by
  rw [evAnd]
  cases b <;> rfl
theorem evOr_bl (P : Pg) (call : Nat → List D → Sto → Mx D) (e : CE) (es : List CE) (b : Bool) (env : Env) (st : Sto) :
    evOr P call (e :: es) (.bl b) env st = if b = true then some (.ok (.bl b), st) else bd (evE P call e env st) (fun d st => evOr P call es d env st) := by
  rw [evOr]
  cases b <;> rfl
theorem evAnd_nil (P : Pg) (call : Nat → List D → Sto → Mx D) (d : D) (env : Env) (st : Sto) : evAnd P call [] d env st = some (.ok d, st) := by rw [evAnd]
theorem evOr_nil (P : Pg) (call : Nat → List D → Sto → Mx D) (d : D) (env : Env) (st : Sto) : evOr P call [] d env st = some (.ok d, st) := by rw [evOr]
theorem mem_nil (x : Nat) : (x ∈ ([] : S)) ↔ False := by simp
theorem ln0 : ((0 : Nat) ≤ LN) ↔ True := by simp [LN]
theorem lm0 : ((0 : Nat) < LN) ↔ True := by simp [LN]
theorem ln1 : ((1 : Nat) ≤ LN) ↔ True := by simp [LN]
theorem lm1 : ((1 : Nat) < LN) ↔ True := by simp [LN]
theorem ln2 : ((2 : Nat) ≤ LN) ↔ True := by simp [LN]
theorem lm2 : ((2 : Nat) < LN) ↔ True := by simp [LN]
theorem ln3 : ((3 : Nat) ≤ LN) ↔ True := by simp [LN]
theorem lm3 : ((3 : Nat) < LN) ↔ True := by simp [LN]
theorem ln4 : ((4 : Nat) ≤ LN) ↔ True := by simp [LN]
theorem lm4 : ((4 : Nat) < LN) ↔ True := by simp [LN]
theorem ln5 : ((5 : Nat) ≤ LN) ↔ True := by simp [LN]
theorem lm5 : ((5 : Nat) < LN) ↔ True := by simp [LN]
theorem ln6 : ((6 : Nat) ≤ LN) ↔ True := by simp [LN]
theorem lm6 : ((6 : Nat) < LN) ↔ True := by simp [LN]
theorem ln7 : ((7 : Nat) ≤ LN) ↔ True := by simp [LN]
theorem lm7 : ((7 : Nat) < LN) ↔ True := by simp [LN]
theorem ln8 : ((8 : Nat) ≤ LN) ↔ True := by simp [LN]
theorem lm8 : ((8 : Nat) < LN) ↔ True := by simp [LN]
theorem ln9 : ((9 : Nat) ≤ LN) ↔ True := by simp [LN]
theorem lm9 : ((9 : Nat) < LN) ↔ True := by simp [LN]
theorem ln10 : ((10 : Nat) ≤ LN) ↔ True := by simp [LN]
theorem lm10 : ((10 : Nat) < LN) ↔ True := by simp [LN]
theorem ln11 : ((11 : Nat) ≤ LN) ↔ True := by simp [LN]
theorem lm11 : ((11 : Nat) < LN) ↔ True := by simp [LN]
theorem ln12 : ((12 : Nat) ≤ LN) ↔ True := by simp [LN]
theorem lm12 : ((12 : Nat) < LN) ↔ True := by simp [LN]
theorem ln13 : ((13 : Nat) ≤ LN) ↔ True := by simp [LN]
theorem lm13 : ((13 : Nat) < LN) ↔ True := by simp [LN]
theorem ln14 : ((14 : Nat) ≤ LN) ↔ True := by simp [LN]
theorem lm14 : ((14 : Nat) < LN) ↔ True := by simp [LN]
theorem ln15 : ((15 : Nat) ≤ LN) ↔ True := by simp [LN]
theorem lm15 : ((15 : Nat) < LN) ↔ True := by simp [LN]
theorem ln16 : ((16 : Nat) ≤ LN) ↔ True := by simp [LN]
theorem lm16 : ((16 : Nat) < LN) ↔ True := by simp [LN]
theorem ln17 : ((17 : Nat) ≤ LN) ↔ True := by simp [LN]
theorem lm17 : ((17 : Nat) < LN) ↔ True := by simp [LN]
theorem ln18 : ((18 : Nat) ≤ LN) ↔ True := by simp [LN]
theorem lm18 : ((18 : Nat) < LN) ↔ True := by simp [LN]
theorem ln19 : ((19 : Nat) ≤ LN) ↔ True := by simp [LN]
theorem lm19 : ((19 : Nat) < LN) ↔ True := by simp [LN]
theorem ln20 : ((20 : Nat) ≤ LN) ↔ True := by simp [LN]
theorem lm20 : ((20 : Nat) < LN) ↔ True := by simp [LN]
/-! ### one step after the other -/
theorem W_bdk {α β : Type} {m : Mx α} {f : α → Sto → Mx β} {Q : β → Sto → Prop} {K : α → Sto → Prop} (h : ∀ a st, W (f a st) Q ↔ K a st) : W (bd m f) Q ↔ W m K := by
  rw [W_bd]
  have : (fun a st => W (f a st) Q) = K := by
    funext a st
    exact propext (h a st)
  rw [this]
theorem WS_bek {α : Type} {env : Env} {m : Mx α} {f : α → Sto → Sx} {Q : Fl → Sto → Prop} {K : α → Sto → Prop} (h : ∀ a st, WS (f a st) Q ↔ K a st) : WS (be env m f) Q ↔ W m K := by
  rw [WS_be]
  have : (fun a st => WS (f a st) Q) = K := by
    funext a st
    exact propext (h a st)
  rw [this]
section
variable (P : Pg) (call : Nat → List D → Sto → Mx D)
theorem E_var (i : Nat) (env : Env) (st : Sto) : evE P call (.var i) env st = match env[i]? with
    | some (some d) => nex d st
    | _ => none := by
  rw [evE] <;> rfl
theorem E_int (i : Int) (env : Env) (st : Sto) : evE P call (.int i) env st = some (.ok (.int i), st) := by rw [evE]
theorem E_bl (i : Bool) (env : Env) (st : Sto) : evE P call (.bl i) env st = some (.ok (.bl i), st) := by rw [evE]
theorem E_str (i : S) (env : Env) (st : Sto) : evE P call (.str i) env st = some (.ok (.str i), st) := by rw [evE]
theorem E_non (env : Env) (st : Sto) : evE P call .non env st = some (.ok .non, st) := by rw [evE]
theorem E_glo (g : Nat) (env : Env) (st : Sto) : evE P call (.glo g) env st = opt (P.gl g) st := by rw [evE]
def KBin2 (op : PySem.Operator) (x : D) (Q : D → Sto → Prop) (y : D) (st : Sto) : Prop := W (binD op x y st) Q
def KBin1 (op : PySem.Operator) (b : CE) (env : Env) (Q : D → Sto → Prop) (x : D) (st : Sto) : Prop := W (evE P call b env st) (KBin2 op x Q)
theorem W_bin (op : PySem.Operator) (a b : CE) (env : Env) (st : Sto) (Q : D → Sto → Prop) : W (evE P call (.bin op a b) env st) Q ↔ W (evE P call a env st) (KBin1 P call op b env Q) := by
  rw [evE]
  exact W_bdk fun x st => W_bdk fun y st => Iff.rfl
theorem KBin1_ap (op : PySem.Operator) (b : CE) (env : Env) (Q : D → Sto → Prop) (x : D) (st : Sto) : KBin1 P call op b env Q x st ↔ W (evE P call b env st) (KBin2 op x Q) := Iff.rfl
theorem KBin2_ap (op : PySem.Operator) (x : D) (Q : D → Sto → Prop) (y : D) (st : Sto) : KBin2 op x Q y st ↔ W (binD op x y st) Q := Iff.rfl
def KCmp2 (op : PySem.CmpOp) (x : D) (Q : D → Sto → Prop) (y : D) (st : Sto) : Prop := W (opt ((cmpD op st x y).map D.bl) st) Q
def KCmp1 (op : PySem.CmpOp) (b : CE) (env : Env) (Q : D → Sto → Prop) (x : D) (st : Sto) : Prop := W (evE P call b env st) (KCmp2 op x Q)
theorem W_cmp (op : PySem.CmpOp) (a b : CE) (env : Env) (st : Sto) (Q : D → Sto → Prop) : W (evE P call (.cmp op a b) env st) Q ↔ W (evE P call a env st) (KCmp1 P call op b env Q) := by
  rw [evE]
  exact W_bdk fun x st => W_bdk fun y st => Iff.rfl
theorem KCmp1_ap (op : PySem.CmpOp) (b : CE) (env : Env) (Q : D → Sto → Prop) (x : D) (st : Sto) : KCmp1 P call op b env Q x st ↔ W (evE P call b env st) (KCmp2 op x Q) := Iff.rfl
theorem KCmp2_ap (op : PySem.CmpOp) (x : D) (Q : D → Sto → Prop) (y : D) (st : Sto) : KCmp2 op x Q y st ↔ W (opt ((cmpD op st x y).map D.bl) st) Q := Iff.rfl
def KNot (Q : D → Sto → Prop) (d : D) (st : Sto) : Prop := W (opt ((truD st d).map fun b => D.bl (!b)) st) Q
theorem W_not (a : CE) (env : Env) (st : Sto) (Q : D → Sto → Prop) : W (evE P call (.not a) env st) Q ↔ W (evE P call a env st) (KNot Q) := by
  rw [evE]
  exact W_bdk fun x st => Iff.rfl
theorem KNot_ap (Q : D → Sto → Prop) (d : D) (st : Sto) : KNot Q d st ↔ W (opt ((truD st d).map fun b => D.bl (!b)) st) Q := Iff.rfl
def negD : D → Sto → Mx D
  | .int i, st => some (.ok (.int (-i)), st)
  | _, _ => none
def KNeg (Q : D → Sto → Prop) (d : D) (st : Sto) : Prop := W (negD d st) Q
theorem W_neg (a : CE) (env : Env) (st : Sto) (Q : D → Sto → Prop) : W (evE P call (.neg a) env st) Q ↔ W (evE P call a env st) (KNeg Q) := by
  rw [evE]
  exact W_bdk fun x st => by cases x <;> exact Iff.rfl
theorem KNeg_ap (Q : D → Sto → Prop) (d : D) (st : Sto) : KNeg Q d st ↔ W (negD d st) Q := Iff.rfl
def KAnd (es : List CE) (env : Env) (Q : D → Sto → Prop) (d : D) (st : Sto) : Prop := W (evAnd P call es d env st) Q
theorem W_and (a : CE) (es : List CE) (env : Env) (st : Sto) (Q : D → Sto → Prop) : W (evE P call (.and a es) env st) Q ↔ W (evE P call a env st) (KAnd P call es env Q) := by
  rw [evE]
  exact W_bdk fun x st => Iff.rfl
theorem KAnd_nil (env : Env) (Q : D → Sto → Prop) (d : D) (st : Sto) : KAnd P call [] env Q d st ↔ Q d st := by
  unfold KAnd
  rw [evAnd_nil, W_ok]
theorem KAnd_bl (e : CE) (es : List CE) (env : Env) (Q : D → Sto → Prop) (b : Bool) (st : Sto) : KAnd P call (e :: es) env Q (.bl b) st ↔ (b = true → W (evE P call e env st) (KAnd P call es env Q)) ∧ (¬ b = true → Q (.bl false) st) := by
  unfold KAnd
  rw [evAnd_bl]
  cases b
  · simp [W_ok]
  · simp only [if_true, true_imp_iff, not_true_eq_false, false_imp_iff, and_true]
    exact W_bdk fun x st => Iff.rfl
def KOr (es : List CE) (env : Env) (Q : D → Sto → Prop) (d : D) (st : Sto) : Prop := W (evOr P call es d env st) Q
theorem W_or (a : CE) (es : List CE) (env : Env) (st : Sto) (Q : D → Sto → Prop) : W (evE P call (.or a es) env st) Q ↔ W (evE P call a env st) (KOr P call es env Q) := by
  rw [evE]
  exact W_bdk fun x st => Iff.rfl
theorem KOr_nil (env : Env) (Q : D → Sto → Prop) (d : D) (st : Sto) : KOr P call [] env Q d st ↔ Q d st := by
  unfold KOr
  rw [evOr_nil, W_ok]
theorem KOr_bl (e : CE) (es : List CE) (env : Env) (Q : D → Sto → Prop) (b : Bool) (st : Sto) : KOr P call (e :: es) env Q (.bl b) st ↔ (b = true → Q (.bl true) st) ∧ (¬ b = true → W (evE P call e env st) (KOr P call es env Q)) := by
  unfold KOr
  rw [evOr_bl]
  cases b
  · simp only [Bool.false_eq_true, if_false, not_false_eq_true, true_imp_iff, false_imp_iff, true_and]
    exact W_bdk fun x st => Iff.rfl
  · simp [W_ok]
def KT (Q : Bool → Sto → Prop) (d : D) (st : Sto) : Prop := W (opt (truD st d) st) Q
theorem W_T (c : CE) (env : Env) (st : Sto) (Q : Bool → Sto → Prop) : W (evT P call c env st) Q ↔ W (evE P call c env st) (KT Q) := by
  unfold evT bT
  exact W_bdk fun x st => Iff.rfl
theorem KT_ap (Q : Bool → Sto → Prop) (d : D) (st : Sto) : KT Q d st ↔ W (opt (truD st d) st) Q := Iff.rfl
def KIte (a b : CE) (env : Env) (Q : D → Sto → Prop) (k : Bool) (st : Sto) : Prop := (k = true → W (evE P call a env st) Q) ∧ (¬ k = true → W (evE P call b env st) Q)
theorem W_iteE (c a b : CE) (env : Env) (st : Sto) (Q : D → Sto → Prop) : W (evE P call (.ite c a b) env st) Q ↔ W (evE P call c env st) (KT (KIte P call a b env Q)) := by
  rw [evE, ← W_T]
  unfold evT
  exact W_bdk fun x st => W_ite _ _ _ _
theorem KIte_ap (a b : CE) (env : Env) (Q : D → Sto → Prop) (k : Bool) (st : Sto) : KIte P call a b env Q k st ↔ (k = true → W (evE P call a env st) Q) ∧ (¬ k = true → W (evE P call b env st) Q) := Iff.rfl
def KC (d : D) (Q : List D → Sto → Prop) (ds : List D) (st : Sto) : Prop := Q (d :: ds) st
def KL (es : List CE) (env : Env) (Q : List D → Sto → Prop) (d : D) (st : Sto) : Prop := W (evL P call es env st) (KC d Q)
theorem W_L0 (env : Env) (st : Sto) (Q : List D → Sto → Prop) : W (evL P call [] env st) Q ↔ Q [] st := by rw [evL, W_ok]
theorem W_L (e : CE) (es : List CE) (env : Env) (st : Sto) (Q : List D → Sto → Prop) : W (evL P call (e :: es) env st) Q ↔ W (evE P call e env st) (KL P call es env Q) := by
  rw [evL]
  exact W_bdk fun x st => W_bdk fun y st => W_ok _ _ _
theorem KL_ap (es : List CE) (env : Env) (Q : List D → Sto → Prop) (d : D) (st : Sto) : KL P call es env Q d st ↔ W (evL P call es env st) (KC d Q) := Iff.rfl
theorem KC_ap (d : D) (Q : List D → Sto → Prop) (ds : List D) (st : Sto) : KC d Q ds st ↔ Q (d :: ds) st := Iff.rfl
def KTup (Q : D → Sto → Prop) (ds : List D) (st : Sto) : Prop := ds.length ≤ LN ∧ Q (.tup ds) st
theorem W_tup (es : List CE) (env : Env) (st : Sto) (Q : D → Sto → Prop) : W (evE P call (.tup es) env st) Q ↔ W (evL P call es env st) (KTup Q) := by
  rw [evE]
  refine W_bdk fun x st => ?_
  rw [W_ite, W_ok, W_none]
  unfold KTup
  by_cases h : x.length ≤ LN <;> simp [h]
theorem KTup_ap (Q : D → Sto → Prop) (ds : List D) (st : Sto) : KTup Q ds st ↔ ds.length ≤ LN ∧ Q (.tup ds) st := Iff.rfl
def KLst (Q : D → Sto → Prop) (ds : List D) (st : Sto) : Prop := ds.length ≤ LN ∧ Q (.obj st.length) (st ++ [.lst ds])
theorem W_lst (es : List CE) (env : Env) (st : Sto) (Q : D → Sto → Prop) : W (evE P call (.lst es) env st) Q ↔ W (evL P call es env st) (KLst Q) := by
  rw [evE]
  refine W_bdk fun x st => ?_
  rw [W_ite, W_newL, W_none]
  unfold KLst
  by_cases h : x.length ≤ LN <;> simp [h]
theorem KLst_ap (Q : D → Sto → Prop) (ds : List D) (st : Sto) : KLst Q ds st ↔ ds.length ≤ LN ∧ Q (.obj st.length) (st ++ [.lst ds]) := Iff.rfl
def KSub2 (x : D) (Q : D → Sto → Prop) (y : D) (st : Sto) : Prop := W (opt (subD st x y) st) Q
def KSub1 (b : CE) (env : Env) (Q : D → Sto → Prop) (x : D) (st : Sto) : Prop := W (evE P call b env st) (KSub2 x Q)
theorem W_sub (a b : CE) (env : Env) (st : Sto) (Q : D → Sto → Prop) : W (evE P call (.sub a b) env st) Q ↔ W (evE P call a env st) (KSub1 P call b env Q) := by
  rw [evE]
  exact W_bdk fun x st => W_bdk fun y st => Iff.rfl
theorem KSub1_ap (b : CE) (env : Env) (Q : D → Sto → Prop) (x : D) (st : Sto) : KSub1 P call b env Q x st ↔ W (evE P call b env st) (KSub2 x Q) := Iff.rfl
theorem KSub2_ap (x : D) (Q : D → Sto → Prop) (y : D) (st : Sto) : KSub2 x Q y st ↔ W (opt (subD st x y) st) Q := Iff.rfl
def slcW (x : D) (l h : List D) (st : Sto) : Mx D := match optI l with
  | some l => match optI h with
    | some h => slcD x l h st
    | none => none
  | none => none
def KSlc3 (x : D) (l : List D) (Q : D → Sto → Prop) (h : List D) (st : Sto) : Prop := W (slcW x l h st) Q
def KSlc2 (x : D) (hi : List CE) (env : Env) (Q : D → Sto → Prop) (l : List D) (st : Sto) : Prop := (optI l).isSome = true ∧ W (evL P call hi env st) (KSlc3 x l Q)
def KSlc1 (lo hi : List CE) (env : Env) (Q : D → Sto → Prop) (x : D) (st : Sto) : Prop := W (evL P call lo env st) (KSlc2 P call x hi env Q)
theorem W_slc (a : CE) (lo hi : List CE) (env : Env) (st : Sto) (Q : D → Sto → Prop) : W (evE P call (.slc a lo hi) env st) Q ↔ W (evE P call a env st) (KSlc1 P call lo hi env Q) := by
  rw [evE]
  refine W_bdk fun x st => W_bdk fun l st => ?_
  unfold KSlc2
  cases hl : optI l with
  | none => simp [W_none]
  | some l' =>
    simp only [Option.isSome_some, true_and]
    refine W_bdk fun h st => ?_
    unfold KSlc3 slcW
    rw [hl] <;> exact Iff.rfl
theorem KSlc1_ap (lo hi : List CE) (env : Env) (Q : D → Sto → Prop) (x : D) (st : Sto) : KSlc1 P call lo hi env Q x st ↔ W (evL P call lo env st) (KSlc2 P call x hi env Q) := Iff.rfl
theorem KSlc2_ap (x : D) (hi : List CE) (env : Env) (Q : D → Sto → Prop) (l : List D) (st : Sto) : KSlc2 P call x hi env Q l st ↔ (optI l).isSome = true ∧ W (evL P call hi env st) (KSlc3 x l Q) := Iff.rfl
theorem KSlc3_ap (x : D) (l : List D) (Q : D → Sto → Prop) (h : List D) (st : Sto) : KSlc3 x l Q h st ↔ W (slcW x l h st) Q := Iff.rfl
def KCall (g : Nat) (Q : D → Sto → Prop) (ds : List D) (st : Sto) : Prop := W (call g ds st) Q
theorem W_call {g : Nat} {f : Fn} (h : P.fn g = some f) (es : List CE) (env : Env) (st : Sto) (Q : D → Sto → Prop) : W (evE P call (.call g es) env st) Q ↔ W (evL P call es env st) (KCall call g Q) := by
  rw [evE, h]
  exact W_bdk fun x st => Iff.rfl
theorem KCall_ap (g : Nat) (Q : D → Sto → Prop) (ds : List D) (st : Sto) : KCall call g Q ds st ↔ W (call g ds st) Q := Iff.rfl
def KBlt (b : Bt) (Q : D → Sto → Prop) (ds : List D) (st : Sto) : Prop := W (bltD b ds st) Q
theorem W_blt (b : Bt) (es : List CE) (env : Env) (st : Sto) (Q : D → Sto → Prop) : W (evE P call (.blt b es) env st) Q ↔ W (evL P call es env st) (KBlt b Q) := by
  rw [evE]
  exact W_bdk fun x st => Iff.rfl
theorem KBlt_ap (b : Bt) (Q : D → Sto → Prop) (ds : List D) (st : Sto) : KBlt b Q ds st ↔ W (bltD b ds st) Q := Iff.rfl
def KIsi (ts : List String) (Q : D → Sto → Prop) (d : D) (st : Sto) : Prop := W (opt (((typD st d).bind fun t => isiD t ts).map D.bl) st) Q
theorem W_isi (e : CE) (ts : List String) (env : Env) (st : Sto) (Q : D → Sto → Prop) : W (evE P call (.isi e ts) env st) Q ↔ W (evE P call e env st) (KIsi ts Q) := by
  rw [evE]
  exact W_bdk fun x st => Iff.rfl
theorem KIsi_ap (ts : List String) (Q : D → Sto → Prop) (d : D) (st : Sto) : KIsi ts Q d st ↔ W (opt (((typD st d).bind fun t => isiD t ts).map D.bl) st) Q := Iff.rfl
def KMth2 (m : Mt) (x : D) (Q : D → Sto → Prop) (ds : List D) (st : Sto) : Prop := W (mthD m x ds st) Q
def KMth1 (m : Mt) (es : List CE) (env : Env) (Q : D → Sto → Prop) (x : D) (st : Sto) : Prop := preM st m x = true ∧ W (evL P call es env st) (KMth2 m x Q)
theorem W_mth (m : Mt) (o : CE) (es : List CE) (env : Env) (st : Sto) (Q : D → Sto → Prop) : W (evE P call (.mth m o es) env st) Q ↔ W (evE P call o env st) (KMth1 P call m es env Q) := by
  rw [evE]
  refine W_bdk fun x st => ?_
  rw [W_ite, W_none]
  unfold KMth1
  by_cases h : preM st m x = true
  · simp only [h, true_imp_iff, not_true_eq_false, false_imp_iff, and_true, true_and]
    exact W_bdk fun x st => Iff.rfl
  · simp [h]
theorem KMth1_ap (m : Mt) (es : List CE) (env : Env) (Q : D → Sto → Prop) (x : D) (st : Sto) : KMth1 P call m es env Q x st ↔ preM st m x = true ∧ W (evL P call es env st) (KMth2 m x Q) := Iff.rfl
theorem KMth2_ap (m : Mt) (x : D) (Q : D → Sto → Prop) (ds : List D) (st : Sto) : KMth2 m x Q ds st ↔ W (mthD m x ds st) Q := Iff.rfl
theorem W_Ts0 (env : Env) (st : Sto) (Q : Bool → Sto → Prop) : W (evTs P call [] env st) Q ↔ Q true st := by rw [evTs, W_ok]
theorem W_Ts1 (e : CE) (env : Env) (st : Sto) (Q : Bool → Sto → Prop) : W (evTs P call [e] env st) Q ↔ W (evE P call e env st) (KT Q) := by
  rw [evTs]
  exact W_T P call e env st Q
def KExpr (env : Env) (Q : Fl → Sto → Prop) (d : D) (st : Sto) : Prop := Q (.nx env) st
theorem WS_expr (e : CE) (env : Env) (st : Sto) (Q : Fl → Sto → Prop) : WS (evS P call (.expr e) env st) Q ↔ W (evE P call e env st) (KExpr env Q) := by
  rw [evS]
  exact WS_bek fun x st => WS_nx _ _ _
theorem KExpr_ap (env : Env) (Q : Fl → Sto → Prop) (d : D) (st : Sto) : KExpr env Q d st ↔ Q (.nx env) st := Iff.rfl
def KSet (i : Nat) (env : Env) (Q : Fl → Sto → Prop) (d : D) (st : Sto) : Prop := Q (.nx (env.set i (some d))) st
theorem WS_set (i : Nat) (e : CE) (env : Env) (st : Sto) (Q : Fl → Sto → Prop) : WS (evS P call (.set i e) env st) Q ↔ W (evE P call e env st) (KSet i env Q) := by
  rw [evS]
  exact WS_bek fun x st => WS_nx _ _ _
theorem KSet_ap (i : Nat) (env : Env) (Q : Fl → Sto → Prop) (d : D) (st : Sto) : KSet i env Q d st ↔ Q (.nx (env.set i (some d))) st := Iff.rfl
def QE (Q : Fl → Sto → Prop) (o : Option Env) (st : Sto) : Prop := match o with
  | some env => Q (.nx env) st
  | none => False
theorem QE_some (Q : Fl → Sto → Prop) (env : Env) (st : Sto) : QE Q (some env) st ↔ Q (.nx env) st := Iff.rfl
def KTgt (t : Tg) (env : Env) (Q : Fl → Sto → Prop) (d : D) (st : Sto) : Prop := QE Q (asgT t d env) st
theorem WS_tgt (t : Tg) (e : CE) (env : Env) (st : Sto) (Q : Fl → Sto → Prop) : WS (evS P call (.tgt t e) env st) Q ↔ W (evE P call e env st) (KTgt t env Q) := by
  rw [evS]
  refine WS_bek fun x st => ?_
  unfold KTgt QE
  cases asgT t x env with
  | some e => exact WS_nx _ _ _
  | none =>
    constructor
    · rintro ⟨_, _, h, _⟩
      cases h
    · exact False.elim
theorem KTgt_ap (t : Tg) (env : Env) (Q : Fl → Sto → Prop) (d : D) (st : Sto) : KTgt t env Q d st ↔ QE Q (asgT t d env) st := Iff.rfl
def QO (env : Env) (Q : Fl → Sto → Prop) (o : Option Sto) : Prop := match o with
  | some st => Q (.nx env) st
  | none => False
theorem QO_some (env : Env) (Q : Fl → Sto → Prop) (st : Sto) : QO env Q (some st) ↔ Q (.nx env) st := Iff.rfl
def KSt3 (v o : D) (env : Env) (Q : Fl → Sto → Prop) (i : D) (st : Sto) : Prop := QO env Q (stsubD o i v st)
def KSt2 (v : D) (ie : CE) (env : Env) (Q : Fl → Sto → Prop) (o : D) (st : Sto) : Prop := W (evE P call ie env st) (KSt3 v o env Q)
def KSt1 (oe ie : CE) (env : Env) (Q : Fl → Sto → Prop) (v : D) (st : Sto) : Prop := W (evE P call oe env st) (KSt2 P call v ie env Q)
theorem WS_stsub (oe ie e : CE) (env : Env) (st : Sto) (Q : Fl → Sto → Prop) : WS (evS P call (.stsub oe ie e) env st) Q ↔ W (evE P call e env st) (KSt1 P call oe ie env Q) := by
  rw [evS]
  refine WS_bek fun x st => WS_bek fun o st => WS_bek fun i st => ?_
  unfold KSt3 QO
  cases stsubD o i x st with
  | some e => exact WS_nx _ _ _
  | none =>
    constructor
    · rintro ⟨_, _, h, _⟩
      cases h
    · exact False.elim
theorem KSt1_ap (oe ie : CE) (env : Env) (Q : Fl → Sto → Prop) (v : D) (st : Sto) : KSt1 P call oe ie env Q v st ↔ W (evE P call oe env st) (KSt2 P call v ie env Q) := Iff.rfl
theorem KSt2_ap (v : D) (ie : CE) (env : Env) (Q : Fl → Sto → Prop) (o : D) (st : Sto) : KSt2 P call v ie env Q o st ↔ W (evE P call ie env st) (KSt3 v o env Q) := Iff.rfl
theorem KSt3_ap (v o : D) (env : Env) (Q : Fl → Sto → Prop) (i : D) (st : Sto) : KSt3 v o env Q i st ↔ QO env Q (stsubD o i v st) := Iff.rfl
def KAug (i : Nat) (op : PySem.Operator) (env : Env) (x : D) (Q : Fl → Sto → Prop) (y : D) (st : Sto) : Prop := W (augD op x y st) (KSet i env Q)
theorem WS_aug {x : D} (i : Nat) (op : PySem.Operator) (e : CE) (env : Env) (st : Sto) (Q : Fl → Sto → Prop) (h : env[i]? = some (some x)) (hx : isX x = false := by rfl) : WS (evS P call (.aug i op e) env st) Q ↔ W (evE P call e env st) (KAug i op env x Q) := by
  rw [evS, h]
  simp only [hx, Bool.false_eq_true, if_false]
  exact WS_bek fun x st => WS_bek fun y st => WS_nx _ _ _
theorem KAug_ap (i : Nat) (op : PySem.Operator) (env : Env) (x : D) (Q : Fl → Sto → Prop) (y : D) (st : Sto) : KAug i op env x Q y st ↔ W (augD op x y st) (KSet i env Q) := Iff.rfl
def KRet (Q : Fl → Sto → Prop) (d : D) (st : Sto) : Prop := Q (.rt d) st
theorem WS_ret (e : CE) (env : Env) (st : Sto) (Q : Fl → Sto → Prop) : WS (evS P call (.ret e) env st) Q ↔ W (evE P call e env st) (KRet Q) := by
  rw [evS]
  exact WS_bek fun x st => WS_rt _ _ _
theorem KRet_ap (Q : Fl → Sto → Prop) (d : D) (st : Sto) : KRet Q d st ↔ Q (.rt d) st := Iff.rfl
theorem WS_retN (env : Env) (st : Sto) (Q : Fl → Sto → Prop) : WS (evS P call .retN env st) Q ↔ Q (.rt .non) st := by rw [evS, WS_rt]
theorem WS_pass (env : Env) (st : Sto) (Q : Fl → Sto → Prop) : WS (evS P call .pass env st) Q ↔ Q (.nx env) st := by rw [evS, WS_nx]
theorem WS_brk (env : Env) (st : Sto) (Q : Fl → Sto → Prop) : WS (evS P call .brk env st) Q ↔ Q (.bk env) st := by rw [evS, WS_bk]
theorem WS_cont (env : Env) (st : Sto) (Q : Fl → Sto → Prop) : WS (evS P call .cont env st) Q ↔ Q (.ct env) st := by rw [evS, WS_ct]
def KFor (k : Sk) (tg : Tg) (b : List CS) (env : Env) (Q : Fl → Sto → Prop) (ds : List D) (st : Sto) : Prop := WS (forG (walked k ds) (fun x env => asgT tg x env) (fun env st => evSs P call b env st) FU 0 env st) Q
theorem WS_forr (k : Sk) (srcs : List CE) (tg : Tg) (b : List CS) (env : Env) (st : Sto) (Q : Fl → Sto → Prop) : WS (evS P call (.forr k srcs tg b) env st) Q ↔ W (evL P call srcs env st) (KFor P call k tg b env Q) := by
  rw [evS]
  exact WS_bek fun x st => Iff.rfl
theorem WS_ifeT (c : CE) (a b : List CS) (Q : Fl → Sto → Prop) (env : Env) (st : Sto) : WS (evS P call (.ife c a b) env st) Q ↔ W (evE P call c env st) (KT (QI P call a b env Q)) := by
  rw [WS_ife, W_T]
end
/-! ### loops -/
theorem kfor {k : Sk} {P : Pg} {call : Nat → List D → Sto → Mx D} {ds : List D} {tg : Tg} {body : List CS} (its : List D) (I : Nat → Env → Sto → Prop) {env : Env} {st : Sto} {Q : Fl → Sto → Prop}
    (hlen : its.length < 1000000)
    (hw : ∀ i env st, i ≤ its.length → I i env st → walked k ds st = some its)
    (h0 : I 0 env st)
    (step : ∀ i x env st, its[i]? = some x → i < its.length → I i env st → ∃ env1, asgT tg x env = some env1 ∧
      WS (evSs P call body env1 st) (fun fl st2 => match fl with
        | .nx env2 => I (i + 1) env2 st2
        | .ct env2 => I (i + 1) env2 st2
        | .rt d => Q (.rt d) st2
        | _ => False))
    (done : ∀ env st, I its.length env st → Q (.nx env) st) :
    KFor P call k tg body env Q ds st := by
  have := for_ind (wk := walked k ds) (asg := fun x env => asgT tg x env) (B := fun env st => evSs P call body env st) its I (fun fl st => okFl fl ∧ Q fl st) hw
    (fun i x env st hx hI => by
      have hi : i < its.length := by
        rcases Nat.lt_or_ge i its.length with h | h
        · exact h
        · rw [List.getElem?_eq_none h] at hx
          cases hx
      obtain ⟨env1, h1, fl, st2, h2, h3, h4⟩ := step i x env st hx hi hI
      refine ⟨env1, h1, ?_⟩
      cases fl with
      | nx env2 => exact .inl ⟨env2, st2, .inl h2, h4⟩
      | ct env2 => exact .inl ⟨env2, st2, .inr h2, h4⟩
      | rt d => exact .inr ⟨d, st2, h2, trivial, h4⟩
      | bk e => exact absurd h4 (fun z => z)
      | exc e c fs => exact absurd h3 (by simp [okFl]))
    (fun env st h => ⟨trivial, done env st h⟩) its.length 0 env st FU (by omega) h0 (by rw [FU_eq]; omega)
  obtain ⟨fl, st', h1, h2, h3⟩ := this
  exact ⟨fl, st', h1, h2, h3⟩
def KComp (P : Pg) (call : Nat → List D → Sto → Mx D) (own : List Nat) (k : Sk) (tg : Tg) (tst : List CE) (elt : CE) (env : Env) (Q : D → Sto → Prop) (ds : List D) (st : Sto) : Prop :=
  ∃ ys st', lcG (walked k ds) (fun x => asgT tg x (wipeE env own)) (fun env st => evTs P call tst env st) (fun env st => evE P call elt env st) FU 0 [] st = some (ys, st') ∧ Q (.obj st'.length) (st' ++ [.lst ys])
theorem W_comp (P : Pg) (call : Nat → List D → Sto → Mx D) (own : List Nat) (k : Sk) (srcs : List CE) (tg : Tg) (tst : List CE) (elt : CE) (env : Env) (st : Sto) (Q : D → Sto → Prop) :
    W (evE P call (.comp own k srcs tg tst elt) env st) Q ↔ W (evL P call srcs env st) (KComp P call own k tg tst elt env Q) := by
  rw [evE]
  refine W_bdk fun ds st => ?_
  unfold KComp
  constructor
  · rintro ⟨d, st2, h, q⟩
    split at h
    · rename_i ys st3 hl
      cases h
      exact ⟨ys, st3, hl, q⟩
    · cases h
  · rintro ⟨ys, st', h, q⟩
    rw [h]
    exact (W_newL _ _ _).2 q
theorem kcomp {k : Sk} {P : Pg} {call : Nat → List D → Sto → Mx D} {own : List Nat} {tg : Tg} {tst : List CE} {elt : CE} {ds : List D} (its : List D) (I : Nat → List D → Sto → Prop) {env : Env} {st : Sto} {Q : D → Sto → Prop}
    (hlen : its.length < 1000000)
    (hw : ∀ i acc st, i ≤ its.length → I i acc st → walked k ds st = some its)
    (h0 : I 0 [] st)
    (hacc : ∀ i acc st, I i acc st → i ≤ its.length → acc.length ≤ i)
    (step : ∀ i x acc st, its[i]? = some x → i < its.length → I i acc st → ∃ env1, asgT tg x (wipeE env own) = some env1 ∧
      W (evTs P call tst env1 st) (fun b st2 => if b = true then W (evE P call elt env1 st2) (fun y st3 => I (i + 1) (acc ++ [y]) st3) else I (i + 1) acc st2))
    (done : ∀ ys st, I its.length ys st → ys.length ≤ its.length → Q (.obj st.length) (st ++ [.lst ys])) :
    KComp P call own k tg tst elt env Q ds st := by
  have := lc_ind (wk := walked k ds) (asg := fun x => asgT tg x (wipeE env own)) (T := fun env st => evTs P call tst env st) (E := fun env st => evE P call elt env st) its I hw
    (fun i x acc st hx hI => by
      have hi : i < its.length := by
        rcases Nat.lt_or_ge i its.length with h | h
        · exact h
        · rw [List.getElem?_eq_none h] at hx
          cases hx
      obtain ⟨env1, h1, b, st2, h2, h3⟩ := step i x acc st hx hi hI
      refine ⟨env1, h1, ?_⟩
      cases b with
      | false => exact .inl ⟨st2, h2, h3⟩
      | true =>
        obtain ⟨y, st3, h4, h5⟩ := h3
        have := hacc i acc st hI (by omega)
        exact .inr ⟨st2, y, st3, h2, h4, by unfold LN; omega, h5⟩) its.length 0 [] st FU (by omega) h0 (by rw [FU_eq]; omega)
  obtain ⟨ys, st', h1, h2⟩ := this
  exact ⟨ys, st', h1, done ys st' h2 (hacc _ _ _ h2 (Nat.le_refl _))⟩
/-! ### no handled errors -/
theorem nex_of {d : D} (h : isX d = false) (st : Sto) : nex d st = some (.ok d, st) := by
  cases d <;> first | rfl | cases h
theorem nex_walked {d : D} {st : Sto} {its : List D} (h : walked .seq [d] st = some its) (st' : Sto) : nex d st' = some (.ok d, st') := by
  cases d <;> first | rfl | cases h
/-! ### ranges -/
theorem walked_range (ds : List D) (st : Sto) : walked .range ds st = (rngD ds).map fun p => rngL p.1 p.2 := rfl
theorem rngD_one (i : Int) (h : -4611686018427387904 ≤ i ∧ i < 4611686018427387904) : rngD [.int i] = some (0, i.toNat) := by
  unfold rngD
  simp only [h, and_self, if_true]
theorem walked_rng (r : Nat) (h : r < 1000000) (st : Sto) : walked .range [.int (r : Int)] st = some (rngL 0 r) := by
  rw [walked_range, rngD_one _ (by omega), Int.toNat_natCast]
  rfl
theorem rngL_lenth (a : Int) (r : Nat) : (rngL a r).length = r := by
  unfold rngL
  simp
theorem rngL_at {r i : Nat} {x : D} (h : (rngL 0 r)[i]? = some x) : x = .int (i : Int) := by
  unfold rngL at h
  rw [List.getElem?_map] at h
  by_cases k : i < r
  · rw [List.getElem?_range k] at h
    simp at h
    exact h.symm
  · rw [List.getElem?_eq_none (by simpa using k)] at h
    cases h
end Mini

set_option Elab.async false
set_option linter.all false
set_option maxRecDepth 100000
set_option maxHeartbeats 4000000
local macro_rules | `(tactic| simp_arith! only [$xs:simpLemma,*] $[$l:location]?) => `(tactic| simp only [Mini.startE, Mini.asgT, Mini.asgTs, Mini.wipeE, Mini.preM, Mini.mthD, Mini.bltD, Mini.binD, Mini.augD, Mini.cmpD, Mini.subD, Mini.slcD, Mini.slcW, Mini.negD, Mini.stsubD, Mini.optI, Mini.truD, Mini.items, Mini.litems, Mini.inD_sign, Mini.inD_strs, Mini.typD, List.length_cons, List.length_nil, List.map_cons, List.map_nil, List.replicate_succ, List.replicate_zero, List.cons_append, List.nil_append, List.getElem?_cons_zero, List.getElem?_cons_succ, List.set_cons_zero, List.set_cons_succ, Nat.reduceAdd, Nat.reduceSub, Nat.zero_add, Nat.add_zero, Nat.sub_self, Option.map_some, Option.map_none, Option.bind_some, Option.bind_none, Option.isSome_some, if_true, if_false, ite_true, ite_false, and_self, and_true, true_and, Mini.eqD_str, Mini.eqD_int, Mini.eqD_bl, Bool.not_true, Bool.not_false, Bool.false_eq_true, decide_true, decide_false, reduceIte, reduceCtorEq, decide_eq_true_eq, Mini.W_ok, Mini.W_none, imp_false, Classical.not_not, Mini.W_opt, Mini.W_ite, Mini.W_newL, Mini.WS_nx, Mini.WS_rt, Mini.WS_bk, Mini.WS_ct, Mini.WS_nil, Mini.WS_cons, Mini.WS_ifeT, Mini.QI_ap, Mini.WS_ite, Mini.QC_nx, Mini.QC_nil, Mini.QC_rt, Mini.QC_bk, Mini.QC_ct, Mini.W_ret, Mini.QR_nx, Mini.QR_rt, true_imp_iff, false_imp_iff, not_true_eq_false, not_false_eq_true, imp_self, forall_const, ne_eq, Mini.E_var, Mini.nex_non, Mini.nex_bl, Mini.nex_int, Mini.nex_str, Mini.nex_tup, Mini.nex_rol, Mini.nex_obj, Mini.nex_ty, Mini.nex_glo, Mini.nex_cdt, Mini.E_int, Mini.E_bl, Mini.E_str, Mini.E_non, Mini.E_glo, Mini.W_bin, Mini.KBin1_ap, Mini.KBin2_ap, Mini.W_cmp, Mini.KCmp1_ap, Mini.KCmp2_ap, Mini.W_not, Mini.KNot_ap, Mini.W_neg, Mini.KNeg_ap, Mini.W_and, Mini.KAnd_nil, Mini.KAnd_bl, Mini.W_or, Mini.KOr_nil, Mini.KOr_bl, Mini.W_T, Mini.KT_ap, Mini.W_iteE, Mini.KIte_ap, Mini.W_L0, Mini.W_L, Mini.KL_ap, Mini.KC_ap, Mini.W_tup, Mini.KTup_ap, Mini.W_lst, Mini.KLst_ap, Mini.W_sub, Mini.KSub1_ap, Mini.KSub2_ap, Mini.W_slc, Mini.KSlc1_ap, Mini.KSlc2_ap, Mini.KSlc3_ap, Mini.KCall_ap, Mini.W_blt, Mini.KBlt_ap, Mini.W_isi, Mini.KIsi_ap, Mini.W_mth, Mini.KMth1_ap, Mini.KMth2_ap, Mini.W_Ts0, Mini.W_Ts1, Mini.WS_expr, Mini.KExpr_ap, Mini.WS_set, Mini.KSet_ap, Mini.QE_some, Mini.WS_tgt, Mini.KTgt_ap, Mini.QO_some, Mini.WS_stsub, Mini.KSt1_ap, Mini.KSt2_ap, Mini.KSt3_ap, Mini.WS_aug, Mini.KAug_ap, Mini.WS_ret, Mini.KRet_ap, Mini.WS_retN, Mini.WS_pass, Mini.WS_brk, Mini.WS_cont, Mini.WS_forr, Mini.W_comp, Mini.ln0, Mini.ln1, Mini.ln2, Mini.ln3, Mini.ln4, Mini.ln5, Mini.ln6, Mini.ln7, Mini.ln8, Mini.ln9, Mini.ln10, Mini.ln11, Mini.ln12, Mini.ln13, Mini.ln14, Mini.ln15, Mini.ln16, Mini.ln17, Mini.ln18, Mini.ln19, Mini.ln20, Mini.lm0, Mini.lm1, Mini.lm2, Mini.lm3, Mini.lm4, Mini.lm5, Mini.lm6, Mini.lm7, Mini.lm8, Mini.lm9, Mini.lm10, Mini.lm11, Mini.lm12, Mini.lm13, Mini.lm14, Mini.lm15, Mini.lm16, Mini.lm17, Mini.lm18, Mini.lm19, Mini.lm20, Int.reduceEq, Int.reduceLT, Int.reduceLE, Int.reduceMod, Int.reduceSub, Int.reduceAdd, Int.reduceMul, $xs,*] $[$l:location]?)
namespace Mini
theorem atI_natc {α : Type} (xs : List α) (i : Int) (k : Nat) (h : i = (k : Int)) : L2.atI xs i = xs[k]? := by rw [h, atI_nat]
theorem ixN_nat (n k : Nat) (h : k < n) : L2.ixN n (k : Int) = some k := by
  unfold L2.ixN
  rw [if_pos (by omega), if_pos (by omega)]
  rfl
theorem draw_fin (st : Sto) (dk cl many c : Nat) (x a b : Int) (h1 : 1 ≤ many) (ha : 0 ≤ a) (hb : 0 ≤ b) :
    ∃ r a' b' : Nat, D.int (x % (many : Int)) = D.int r ∧ r < many ∧ st.set dk (.lst [.obj cl, .int a, .int b, .int ((c : Int) + 1)]) = st.set dk (.lst [.obj cl, .int a', .int b', .int ((c + 1 : Nat) : Int)]) := by
  have e1 := Int.emod_nonneg x (b := (many : Int)) (by omega)
  have e2 := Int.emod_lt_of_pos x (b := (many : Int)) (by omega)
  refine ⟨(x % (many : Int)).toNat, a.toNat, b.toNat, ?_, by omega, ?_⟩
  · rw [Int.toNat_of_nonneg e1]
  · rw [Int.toNat_of_nonneg ha, Int.toNat_of_nonneg hb, Int.natCast_add, Int.natCast_one]
theorem draw_raw {P : Pg} (h13 : P.fn 13 = some f13) (n : Nat) (st : Sto) (dk cl : Nat) (cells : List Int) (a b c many : Nat)
    (hd : st[dk]? = some (.lst [.obj cl, .int a, .int b, .int c])) (hc : st[cl]? = some (.lst (cells.map .int))) (hne : dk ≠ cl) (hpos : ∀ z ∈ cells, 0 ≤ z)
    (hm : c < 1000000000000) (h1 : 1 ≤ many) (h2 : many < 1073741824) :
    W (callN P (n + 1) 13 [.obj dk, .int many] st) (fun d st' => ∃ r a' b' : Nat, d = .int r ∧ r < many ∧ st' = st.set dk (.lst [.obj cl, .int a', .int b', .int ((c + 1 : Nat) : Int)])) := by
  have hlt : dk < st.length := by
    rcases Nat.lt_or_ge dk st.length with h | h
    · exact h
    · rw [List.getElem?_eq_none h] at hd
      cases hd
  have g1 : ∀ o, (st.set dk o)[dk]? = some o := fun o => by rw [List.getElem?_set_self hlt]
  have g2 : ∀ o, (st.set dk o)[cl]? = some (.lst (cells.map .int)) := fun o => by rw [List.getElem?_set_ne hne, hc]
  have i0 : ∀ xs : List D, L2.atI xs 0 = xs[0]? := fun xs => atI_nat xs 0
  have i1 : ∀ xs : List D, L2.atI xs 1 = xs[1]? := fun xs => atI_nat xs 1
  have i2 : ∀ xs : List D, L2.atI xs 2 = xs[2]? := fun xs => atI_nat xs 2
  have i3 : ∀ xs : List D, L2.atI xs 3 = xs[3]? := fun xs => atI_nat xs 3
  have x1 : L2.ixN 4 1 = some 1 := by decide
  have x2 : L2.ixN 4 2 = some 2 := by decide
  have x3 : L2.ixN 4 3 = some 3 := by decide
  have q1 : (0 : Int) < (many : Int) := by omega
  have q2 : (many : Int) < 1073741824 := by omega
  have q3 : ((c : Int) + 1).natAbs < 18446744073709551616 := by omega
  have q4 : ∀ x : Int, (x % 2305843009213693951).natAbs < 18446744073709551616 := fun x => by omega
  have q5 : (0 : Int) < 2305843009213693951 := by decide
  have q6 : (0 : Int) < 2147483629 := by decide
  have q7 : (0 : Int) < 8 ∧ (8 : Int) < 1073741824 := by decide
  have q8 : (69621 : Int).natAbs < 18446744073709551616 := by decide
  have q9 : (0 : Int) ≤ 18 ∧ (18 : Int) ≤ 1000000 ∧ (10 : Int).natAbs < 18446744073709551616 := by decide
  have ln : (cells.map D.int).length = cells.length := List.length_map _
  have num : ∀ a' b' : Nat, WS (evSs P (callN P n) (f13.body.drop 4) [some (D.obj dk), some (D.int many), some (D.obj cl), none, none] (st.set dk (.lst [.obj cl, .int a', .int b', .int ((c : Int) + 1)])))
      (QR fun d st' => ∃ r a' b' : Nat, d = .int r ∧ r < many ∧ st' = st.set dk (.lst [.obj cl, .int a', .int b', .int ((c + 1 : Nat) : Int)])) := by
    intro a' b'
    by_cases hl : (0 : Int) < ((cells.length : Nat) : Int)
    · have e1 := Int.emod_nonneg (((c : Int) + 1) * 7) (b := (cells.length : Int)) (by omega)
      have e2 := Int.emod_lt_of_pos (((c : Int) + 1) * 7) (b := (cells.length : Int)) (by omega)
      have e3 : ∃ z : Int, L2.atI (cells.map D.int) (((c : Int) + 1) * 7 % (cells.length : Int)) = some (.int z) := by
        refine ⟨cells[((((c : Int) + 1) * 7) % (cells.length : Int)).toNat]'(by omega), ?_⟩
        rw [atI_natc _ _ _ (Int.toNat_of_nonneg e1).symm, List.getElem?_map, List.getElem?_eq_getElem (by omega)]
        rfl
      obtain ⟨z, e3⟩ := e3
      simp_arith! only [f13, List.drop_succ_cons, List.drop_zero, i0, i1, i2, i3, x1, x2, x3, g1, g2, List.set_set, q1, q2, q3, q4, q5, q6, q7, q8, q9, true_or, or_true, ln, hl, e3]
      exact draw_fin _ _ _ _ _ _ _ _ h1 (by omega) (by omega)
    · simp_arith! only [f13, List.drop_succ_cons, List.drop_zero, i0, i1, i2, i3, x1, x2, x3, g1, g2, List.set_set, q1, q2, q3, q4, q5, q6, q7, q8, q9, true_or, or_true, ln, hl]
      exact draw_fin _ _ _ _ _ _ _ _ h1 (by omega) (by omega)
  simp only [f13, List.drop_succ_cons, List.drop_zero] at num
  rw [callN, h13]
  by_cases hb : (b : Int) = 0
  · by_cases ha : (a : Int) < ((cells.length : Nat) : Int)
    · have e3 : L2.atI (cells.map D.int) ((a : Int) + 1 - 1) = some (.int (cells[a]'(by omega))) := by
        rw [atI_natc _ _ a (by omega), List.getElem?_map, List.getElem?_eq_getElem (by omega)]
        rfl
      have e4 : 0 ≤ cells[a]'(by omega) := hpos _ (List.getElem_mem _)
      by_cases hz : (10 : Int) ^ (18 : Int).toNat ≤ cells[a]'(by omega)
      · have hz2 : (0 : Int) < cells[a]'(by omega) := by
          have : (10 : Int) ^ (18 : Int).toNat = 1000000000000000000 := by decide
          omega
        simp_arith! only [f13, hd, i0, i1, i2, i3, x1, x2, x3, g1, g2, List.set_set, q1, q2, q3, q4, q5, q6, q7, q8, q9, true_or, or_true, ln, hb, ha, e3, hz, hz2]
        exact draw_fin _ _ _ _ _ _ _ _ h1 (by omega) (Int.ediv_nonneg e4 (by omega))
      · have hz2 : ¬ (0 : Int) < 0 := by decide
        simp_arith! only [f13, hd, i0, i1, i2, i3, x1, x2, x3, g1, g2, List.set_set, q1, q2, q3, q4, q5, q6, q7, q8, q9, true_or, or_true, ln, hb, ha, e3, hz, hz2]
        have := num (a + 1) 0
        simp_arith! only [f13, hd, i0, i1, i2, i3, x1, x2, x3, g1, g2, List.set_set, q1, q2, q3, q4, q5, q6, q7, q8, q9, true_or, or_true, ln] at this
        exact this
    · have hz2 : ¬ (0 : Int) < 0 := by decide
      simp_arith! only [f13, hd, i0, i1, i2, i3, x1, x2, x3, g1, g2, List.set_set, q1, q2, q3, q4, q5, q6, q7, q8, q9, true_or, or_true, ln, hb, ha, hz2]
      have := num a 0
      simp_arith! only [f13, hd, i0, i1, i2, i3, x1, x2, x3, g1, g2, List.set_set, q1, q2, q3, q4, q5, q6, q7, q8, q9, true_or, or_true, ln] at this
      exact this
  · have hz2 : (0 : Int) < b := by omega
    simp_arith! only [f13, hd, i0, i1, i2, i3, x1, x2, x3, g1, g2, List.set_set, q1, q2, q3, q4, q5, q6, q7, q8, q9, true_or, or_true, ln, hb, hz2]
    exact draw_fin _ _ _ _ _ _ _ _ h1 (by omega) (Int.ediv_nonneg (by omega) (by omega))
end Mini

set_option Elab.async false
set_option linter.all false
set_option maxRecDepth 100000
set_option maxHeartbeats 4000000
namespace Mini
/-! ### what lies in the store, by sorts -/
inductive Ty where
  | raw | word | prt (d : Nat) | cells | room | deck
abbrev Tys := List Ty
/-- how many words a part of a depth has at most -/
def wt : Nat → Nat
  | 0 => 0
  | d + 1 => 4 * wt d + 10
theorem wt_le {a b : Nat} (h : a ≤ b) : wt a ≤ wt b := by
  induction h with
  | refl => exact Nat.le_refl _
  | step _ ih =>
    refine Nat.le_trans ih ?_
    rw [wt]
    omega
inductive PV (T : Tys) (d : Nat) : D → Nat → Prop
  | word {i : Nat} : T[i]? = some .word → PV T d (.obj i) 1
  | node {s : S} {i e : Nat} : T[i]? = some (.prt e) → e < d → PV T d (.tup [.str s, .obj i]) (wt e)
inductive PVs (T : Tys) (d : Nat) : List D → Nat → Prop
  | nil : PVs T d [] 0
  | cons {x : D} {xs : List D} {a b : Nat} : PV T d x a → PVs T d xs b → PVs T d (x :: xs) (a + b)
theorem PVs.app {T : Tys} {d : Nat} {xs ys : List D} {a b : Nat} (h : PVs T d xs a) (k : PVs T d ys b) : PVs T d (xs ++ ys) (a + b) := by
  induction h with
  | nil => rw [List.nil_append, Nat.zero_add]; exact k
  | cons h1 _ ih => rw [List.cons_append, Nat.add_assoc]; exact .cons h1 ih
/-- the sorts grow -/
def Gr (T T' : Tys) : Prop := ∀ (i : Nat) (t : Ty), T[i]? = some t → (∀ z : t = .raw, False) → T'[i]? = some t
theorem Gr.rfl {T : Tys} : Gr T T := fun _ _ h _ => h
theorem Gr.trans {A B C : Tys} (h : Gr A B) (k : Gr B C) : Gr A C := fun i t q z => k i t (h i t q z) z
theorem PV.gr {T T' : Tys} {d e : Nat} {x : D} {a : Nat} (h : PV T d x a) (g : Gr T T') (he : d ≤ e) : PV T' e x a := by
  cases h with
  | word h => exact .word (g _ _ h (fun z => by cases z))
  | node h k => exact .node (g _ _ h (fun z => by cases z)) (by omega)
theorem PV.nex {T : Tys} {d : Nat} {x : D} {a : Nat} (h : PV T d x a) (st : Sto) : Mini.nex x st = some (.ok x, st) := by
  cases h <;> rfl
theorem PVs.gr {T T' : Tys} {d e : Nat} {xs : List D} {a : Nat} (h : PVs T d xs a) (g : Gr T T') (he : d ≤ e) : PVs T' e xs a := by
  induction h with
  | nil => exact .nil
  | cons h1 _ ih => exact .cons (h1.gr g he) ih
def okTy (T : Tys) (st : Sto) (i : Nat) : Ty → Prop
  | .raw => True
  | .word => ∃ a b c, st[i]? = some (.lst [.str a, .str b, .str c]) ∧ c ≠ [] ∧ b.length ≤ 10 ∧ c.length ≤ 42
  | .prt d => ∃ xs w, st[i]? = some (.lst xs) ∧ PVs T d xs w ∧ w ≤ wt d ∧ xs.length ≤ 20
  | .cells => ∃ cs : List Int, st[i]? = some (.lst (cs.map .int)) ∧ ∀ z ∈ cs, 0 ≤ z
  | .room => ∃ z : Int, st[i]? = some (.lst [.int z])
  | .deck => ∃ cl a b c : Nat, st[i]? = some (.lst [.obj cl, .int a, .int b, .int c]) ∧ T[cl]? = some .cells
structure Wt (T : Tys) (st : Sto) : Prop where
  len : T.length = st.length
  ok : ∀ (i : Nat) (t : Ty), T[i]? = some t → okTy T st i t
theorem get_app {α : Type} {xs ys : List α} {i : Nat} {x : α} (h : xs[i]? = some x) : (xs ++ ys)[i]? = some x := by
  have hi : i < xs.length := by
    rcases Nat.lt_or_ge i xs.length with q | q
    · exact q
    · rw [List.getElem?_eq_none q] at h
      cases h
  rw [List.getElem?_append_left hi]
  exact h
theorem lt_of_get {α : Type} {xs : List α} {i : Nat} {x : α} (h : xs[i]? = some x) : i < xs.length := by
  rcases Nat.lt_or_ge i xs.length with q | q
  · exact q
  · rw [List.getElem?_eq_none q] at h
    cases h
theorem Gr.app (T : Tys) (t : List Ty) : Gr T (T ++ t) := fun i t h _ => get_app h
/-- what a sort asks stays where the sorts grow and its place stays -/
theorem okTy.keep {T T' : Tys} {st st' : Sto} {i : Nat} {t : Ty} (h : okTy T st i t) (g : Gr T T') (k : (∀ z : t = .raw, False) → st'[i]? = st[i]?) : okTy T' st' i t := by
  cases t with
  | raw => trivial
  | word =>
    obtain ⟨a, b, c, h1, h2⟩ := h
    exact ⟨a, b, c, by rw [k (fun z => by cases z)]; exact h1, h2⟩
  | prt d =>
    obtain ⟨xs, w, h1, h2, h3⟩ := h
    exact ⟨xs, w, by rw [k (fun z => by cases z)]; exact h1, h2.gr g (Nat.le_refl _), h3⟩
  | cells =>
    obtain ⟨cs, h1, h2⟩ := h
    exact ⟨cs, by rw [k (fun z => by cases z)]; exact h1, h2⟩
  | room =>
    obtain ⟨cs, h1⟩ := h
    exact ⟨cs, by rw [k (fun z => by cases z)]; exact h1⟩
  | deck =>
    obtain ⟨cl, a, b, c, h1, h2⟩ := h
    exact ⟨cl, a, b, c, by rw [k (fun z => by cases z)]; exact h1, g _ _ h2 (fun z => by cases z)⟩
/-- a new thing -/
theorem Wt.new {T : Tys} {st : Sto} (h : Wt T st) (o : O) (t : Ty) (k : okTy (T ++ [t]) (st ++ [o]) st.length t) : Wt (T ++ [t]) (st ++ [o]) := by
  refine ⟨by rw [List.length_append, List.length_append, h.len]; rfl, fun i u hu => ?_⟩
  by_cases hi : i < T.length
  · rw [List.getElem?_append_left hi] at hu
    refine (h.ok i u hu).keep (Gr.app _ _) (fun _ => ?_)
    rw [List.getElem?_append_left (by rw [← h.len]; exact hi)]
  · have hl := lt_of_get hu
    rw [List.length_append] at hl
    have e : i = T.length := by simp at hl; omega
    subst e
    rw [List.getElem?_append_right (Nat.le_refl _), Nat.sub_self] at hu
    cases hu
    rw [h.len]
    exact k
theorem Wt.raw {T : Tys} {st : Sto} (h : Wt T st) (o : O) : Wt (T ++ [.raw]) (st ++ [o]) := h.new o .raw trivial
/-- something of a sort is put into a place -/
theorem Wt.put {T : Tys} {st : Sto} (h : Wt T st) {i : Nat} {t : Ty} (hi : T[i]? = some t) (o : O) (k : okTy T (st.set i o) i t) : Wt T (st.set i o) := by
  refine ⟨by rw [List.length_set]; exact h.len, fun j u hu => ?_⟩
  by_cases e : i = j
  · subst e
    rw [hi] at hu
    cases hu
    exact k
  · refine (h.ok j u hu).keep Gr.rfl (fun _ => ?_)
    rw [List.getElem?_set_ne e]
/-- a raw thing gets its sort -/
theorem Wt.sort {T : Tys} {st : Sto} (h : Wt T st) {i : Nat} (hi : T[i]? = some .raw) (t : Ty) (k : okTy (T.set i t) st i t) : Wt (T.set i t) st := by
  have g : Gr T (T.set i t) := fun j u hu z => by
    by_cases e : i = j
    · subst e
      rw [hi] at hu
      cases hu
      exact absurd rfl z
    · rw [List.getElem?_set_ne e]
      exact hu
  refine ⟨by rw [List.length_set]; exact h.len, fun j u hu => ?_⟩
  by_cases e : i = j
  · subst e
    rw [List.getElem?_set_self (lt_of_get hi)] at hu
    cases hu
    exact k
  · rw [List.getElem?_set_ne e] at hu
    exact (h.ok j u hu).keep g (fun _ => rfl)
/-- the deck's count -/
def Cnt (st : Sto) (dk m : Nat) : Prop := ∃ (cl a b c : Nat), st[dk]? = some (.lst [.obj cl, .int a, .int b, .int c]) ∧ c ≤ m
structure GS (dk : Nat) (T : Tys) (st : Sto) (m : Nat) : Prop where
  wt : Wt T st
  hdk : T[dk]? = some .deck
  cnt : Cnt st dk m
theorem GS.le {dk : Nat} {T : Tys} {st : Sto} {m m' : Nat} (h : GS dk T st m) (k : m ≤ m') : GS dk T st m' := by
  obtain ⟨cl, a, b, c, h1, h2⟩ := h.cnt
  exact ⟨h.wt, h.hdk, cl, a, b, c, h1, by omega⟩
theorem GS.new {dk : Nat} {T : Tys} {st : Sto} {m : Nat} (h : GS dk T st m) (o : O) (t : Ty) (k : okTy (T ++ [t]) (st ++ [o]) st.length t) : GS dk (T ++ [t]) (st ++ [o]) m := by
  obtain ⟨cl, a, b, c, h1, h2⟩ := h.cnt
  exact ⟨h.wt.new o t k, get_app h.hdk, cl, a, b, c, get_app h1, h2⟩
theorem GS.raw {dk : Nat} {T : Tys} {st : Sto} {m : Nat} (h : GS dk T st m) (o : O) : GS dk (T ++ [.raw]) (st ++ [o]) m := h.new o .raw trivial
theorem GS.word {dk : Nat} {T : Tys} {st : Sto} {m : Nat} (h : GS dk T st m) (a b c : S) (h1 : c ≠ []) (h2 : b.length ≤ 10) (h3 : c.length ≤ 42) : GS dk (T ++ [.word]) (st ++ [.lst [.str a, .str b, .str c]]) m :=
  h.new _ .word ⟨a, b, c, by rw [List.getElem?_append_right (Nat.le_refl _), Nat.sub_self]; rfl, h1, h2, h3⟩
theorem GS.prt {dk : Nat} {T : Tys} {st : Sto} {m : Nat} (h : GS dk T st m) (d : Nat) (xs : List D) (w : Nat) (h1 : PVs T d xs w) (h2 : w ≤ Mini.wt d) (h3 : xs.length ≤ 20) : GS dk (T ++ [.prt d]) (st ++ [.lst xs]) m :=
  h.new _ (.prt d) ⟨xs, w, by rw [List.getElem?_append_right (Nat.le_refl _), Nat.sub_self]; rfl, h1.gr (Gr.app _ _) (Nat.le_refl _), h2, h3⟩
theorem GS.put {dk : Nat} {T : Tys} {st : Sto} {m : Nat} (h : GS dk T st m) {i : Nat} {t : Ty} (hi : T[i]? = some t) (o : O) (hne : ∀ z : t = .deck, False) (k : okTy T (st.set i o) i t) : GS dk T (st.set i o) m := by
  obtain ⟨cl, a, b, c, h1, h2⟩ := h.cnt
  refine ⟨h.wt.put hi o k, h.hdk, cl, a, b, c, ?_, h2⟩
  rw [List.getElem?_set_ne, h1]
  intro e
  subst e
  rw [h.hdk] at hi
  cases hi
  exact hne rfl
theorem GS.putr {dk : Nat} {T : Tys} {st : Sto} {m : Nat} (h : GS dk T st m) {i : Nat} (hi : T[i]? = some .raw) (o : O) : GS dk T (st.set i o) m := h.put hi o (fun z => by cases z) trivial
theorem GS.sort {dk : Nat} {T : Tys} {st : Sto} {m : Nat} (h : GS dk T st m) {i : Nat} (hi : T[i]? = some .raw) (d : Nat) (xs : List D) (w : Nat) (h0 : st[i]? = some (.lst xs)) (h1 : PVs T d xs w) (h2 : w ≤ Mini.wt d) (h3 : xs.length ≤ 20) : GS dk (T.set i (.prt d)) st m := by
  have g : Gr T (T.set i (.prt d)) := fun j u hu z => by
    by_cases e : i = j
    · subst e
      rw [hi] at hu
      cases hu
      exact absurd rfl z
    · rw [List.getElem?_set_ne e]
      exact hu
  refine ⟨h.wt.sort hi _ ⟨xs, w, h0, h1.gr g (Nat.le_refl _), h2, h3⟩, g _ _ h.hdk (fun z => by cases z), h.cnt⟩
/-- things that nobody changes but who made them -/
def Fixd : Ty → Prop
  | .raw => True
  | .prt _ => True
  | _ => False
/-- from one to another: the sorts that were there stay, with the things that are fixed -/
structure Go (T : Tys) (st : Sto) (T' : Tys) (st' : Sto) : Prop where
  pre : ∀ (i : Nat) (t : Ty), T[i]? = some t → T'[i]? = some t
  fx : ∀ (i : Nat) (t : Ty), T[i]? = some t → Fixd t → st'[i]? = st[i]?
theorem Go.fr {T T' : Tys} {st st' : Sto} (h : Go T st T' st') (i : Nat) (q : T[i]? = some .raw) : st'[i]? = st[i]? := h.fx i _ q trivial
theorem Go.rfl {T : Tys} {st : Sto} : Go T st T st := ⟨fun _ _ h => h, fun _ _ _ _ => Eq.refl _⟩
theorem Go.trans {T T1 T2 : Tys} {st st1 st2 : Sto} (h : Go T st T1 st1) (k : Go T1 st1 T2 st2) : Go T st T2 st2 :=
  ⟨fun i t q => k.pre i t (h.pre i t q), fun i t q z => (k.fx i t (h.pre i _ q) z).trans (h.fx i t q z)⟩
theorem Go.gr {T T' : Tys} {st st' : Sto} (h : Go T st T' st') : Gr T T' := fun i t q _ => h.pre i t q
theorem Go.new {T : Tys} {st : Sto} (h : T.length = st.length) (o : O) (t : Ty) : Go T st (T ++ [t]) (st ++ [o]) :=
  ⟨fun i t q => get_app q, fun i t q z => List.getElem?_append_left (by rw [← h]; exact lt_of_get q)⟩
/-- what came behind the beginning may change -/
theorem Go.put {T T' : Tys} {st st' : Sto} (h : Go T st T' st') {i : Nat} (hi : T.length ≤ i) (o : O) : Go T st T' (st'.set i o) :=
  ⟨h.pre, fun j t q z => by
    have := lt_of_get q
    rw [List.getElem?_set_ne (by omega)]
    exact h.fx j t q z⟩
theorem Go.putt {T T' : Tys} {st st' : Sto} (h : Go T st T' st') {i : Nat} {t : Ty} (hi : T'[i]? = some t) (hr : ∀ z : Fixd t, False) (o : O) : Go T st T' (st'.set i o) :=
  ⟨h.pre, fun j u q z => by
    have := h.pre j _ q
    rw [List.getElem?_set_ne]
    · exact h.fx j u q z
    · intro e
      subst e
      rw [hi] at this
      cases this
      exact hr z⟩
theorem Go.sort {T T' : Tys} {st st' : Sto} (h : Go T st T' st') {i : Nat} (hi : T.length ≤ i) (t : Ty) : Go T st (T'.set i t) st' :=
  ⟨fun j u q => by
    have := lt_of_get q
    rw [List.getElem?_set_ne (by omega)]
    exact h.pre j u q, h.fx⟩
/-! ### the draw -/
theorem draw_spec {P : Pg} (h13 : P.fn 13 = some f13) (n : Nat) {dk : Nat} {T : Tys} {st : Sto} {m : Nat} (g : GS dk T st m) (many : Nat) (hm : m < 1000000000000) (h1 : 1 ≤ many) (h2 : many < 1073741824) (Q : D → Sto → Prop)
    (k : ∀ (r : Nat) (st' : Sto), r < many → GS dk T st' (m + 1) → Go T st T st' → Q (.int r) st') :
    W (callN P (n + 1) 13 [.obj dk, .int many] st) Q := by
  obtain ⟨cl, a, b, c, e1, e2⟩ := g.wt.ok dk _ g.hdk
  obtain ⟨cs, e3, e4⟩ := g.wt.ok cl _ e2
  obtain ⟨_, _, _, c', e5, e6⟩ := g.cnt
  rw [e1] at e5
  have e7 : c = c' := by
    simp at e5
    omega
  have hne : dk ≠ cl := by
    intro e
    subst e
    have := g.hdk
    rw [e2] at this
    cases this
  have hlt := lt_of_get e1
  refine W_mono (draw_raw h13 n st dk cl cs a b c many e1 e3 hne e4 (by omega) h1 h2) ?_
  rintro d st' ⟨r, a', b', rfl, hr, rfl⟩
  have q1 : (st.set dk (.lst [.obj cl, .int a', .int b', .int ((c + 1 : Nat) : Int)]))[dk]? = some (.lst [.obj cl, .int a', .int b', .int ((c + 1 : Nat) : Int)]) := List.getElem?_set_self hlt
  exact k r _ hr ⟨g.wt.put g.hdk _ ⟨cl, a', b', c + 1, q1, e2⟩, g.hdk, cl, a', b', c + 1, q1, by omega⟩ (Go.rfl.putt g.hdk (fun z => z) _)
end Mini

set_option Elab.async false
set_option linter.all false
set_option maxRecDepth 100000
set_option maxHeartbeats 4000000
local macro_rules | `(tactic| simp_arith only [$xs:simpLemma,*] $[$l:location]?) => `(tactic| simp only [Mini.startE, Mini.asgT, Mini.asgTs, Mini.wipeE, Mini.preM, Mini.mthD, Mini.bltD, Mini.binD, Mini.augD, Mini.cmpD, Mini.subD, Mini.slcD, Mini.slcW, Mini.negD, Mini.stsubD, Mini.optI, Mini.truD, Mini.items, Mini.litems, Mini.inD_sign, Mini.inD_strs, Mini.typD, List.length_cons, List.length_nil, List.map_cons, List.map_nil, List.replicate_succ, List.replicate_zero, List.cons_append, List.nil_append, List.getElem?_cons_zero, List.getElem?_cons_succ, List.set_cons_zero, List.set_cons_succ, Nat.reduceAdd, Nat.reduceSub, Nat.zero_add, Nat.add_zero, Nat.sub_self, Option.map_some, Option.map_none, Option.bind_some, Option.bind_none, Option.isSome_some, if_true, if_false, ite_true, ite_false, and_self, and_true, true_and, Mini.eqD_str, Mini.eqD_int, Mini.eqD_bl, Bool.not_true, Bool.not_false, Bool.false_eq_true, decide_true, decide_false, reduceIte, reduceCtorEq, decide_eq_true_eq, Mini.W_ok, Mini.W_none, imp_false, Classical.not_not, Mini.W_opt, Mini.W_ite, Mini.WS_nx, Mini.WS_rt, Mini.WS_bk, Mini.WS_ct, Mini.WS_nil, Mini.WS_cons, Mini.WS_ifeT, Mini.QI_ap, Mini.WS_ite, Mini.QC_nx, Mini.QC_nil, Mini.QC_rt, Mini.QC_bk, Mini.QC_ct, Mini.W_ret, Mini.QR_nx, Mini.QR_rt, true_imp_iff, false_imp_iff, not_true_eq_false, not_false_eq_true, imp_self, forall_const, ne_eq, Mini.E_var, Mini.nex_non, Mini.nex_bl, Mini.nex_int, Mini.nex_str, Mini.nex_tup, Mini.nex_rol, Mini.nex_obj, Mini.nex_ty, Mini.nex_glo, Mini.nex_cdt, Mini.E_int, Mini.E_bl, Mini.E_str, Mini.E_non, Mini.E_glo, Mini.W_bin, Mini.KBin1_ap, Mini.KBin2_ap, Mini.W_cmp, Mini.KCmp1_ap, Mini.KCmp2_ap, Mini.W_not, Mini.KNot_ap, Mini.W_neg, Mini.KNeg_ap, Mini.W_and, Mini.KAnd_nil, Mini.KAnd_bl, Mini.W_or, Mini.KOr_nil, Mini.KOr_bl, Mini.W_T, Mini.KT_ap, Mini.W_iteE, Mini.KIte_ap, Mini.W_L0, Mini.W_L, Mini.KL_ap, Mini.KC_ap, Mini.W_tup, Mini.KTup_ap, Mini.W_lst, Mini.W_sub, Mini.KSub1_ap, Mini.KSub2_ap, Mini.W_slc, Mini.KSlc1_ap, Mini.KSlc2_ap, Mini.KSlc3_ap, Mini.KCall_ap, Mini.W_blt, Mini.KBlt_ap, Mini.W_isi, Mini.KIsi_ap, Mini.W_mth, Mini.KMth1_ap, Mini.KMth2_ap, Mini.W_Ts0, Mini.W_Ts1, Mini.WS_expr, Mini.KExpr_ap, Mini.WS_set, Mini.KSet_ap, Mini.QE_some, Mini.WS_tgt, Mini.KTgt_ap, Mini.QO_some, Mini.WS_stsub, Mini.KSt1_ap, Mini.KSt2_ap, Mini.KSt3_ap, Mini.WS_aug, Mini.KAug_ap, Mini.WS_ret, Mini.KRet_ap, Mini.WS_retN, Mini.WS_pass, Mini.WS_brk, Mini.WS_cont, Mini.WS_forr, Mini.W_comp, Mini.ln0, Mini.ln1, Mini.ln2, Mini.ln3, Mini.ln4, Mini.ln5, Mini.ln6, Mini.ln7, Mini.ln8, Mini.ln9, Mini.ln10, Mini.ln11, Mini.ln12, Mini.ln13, Mini.ln14, Mini.ln15, Mini.ln16, Mini.ln17, Mini.ln18, Mini.ln19, Mini.ln20, Mini.lm0, Mini.lm1, Mini.lm2, Mini.lm3, Mini.lm4, Mini.lm5, Mini.lm6, Mini.lm7, Mini.lm8, Mini.lm9, Mini.lm10, Mini.lm11, Mini.lm12, Mini.lm13, Mini.lm14, Mini.lm15, Mini.lm16, Mini.lm17, Mini.lm18, Mini.lm19, Mini.lm20, Int.reduceEq, Int.reduceLT, Int.reduceLE, Int.reduceMod, Int.reduceSub, Int.reduceAdd, Int.reduceMul, $xs,*] $[$l:location]?)
namespace Mini
structure HasG (P : Pg) : Prop where
  h13 : P.fn 13 = some f13
  h14 : P.fn 14 = some f14
  h15 : P.fn 15 = some f15
  h16 : P.fn 16 = some f16
  h17 : P.fn 17 = some f17
  h18 : P.fn 18 = some f18
  h19 : P.fn 19 = some f19
  h20 : P.fn 20 = some f20
  h21 : P.fn 21 = some f21
  h22 : P.fn 22 = some f22
  h23 : P.fn 23 = some f23
  h24 : P.fn 24 = some f24
  h25 : P.fn 25 = some f25
  h26 : P.fn 26 = some f26
  h27 : P.fn 27 = some f27
  h28 : P.fn 28 = some f28
  h29 : P.fn 29 = some f29
  h30 : P.fn 30 = some f30
theorem pick_spec (xs : List D) (r : Nat) (h : r < xs.length) (p : D → Prop) (hp : ∀ x ∈ xs, p x) : ∃ x, L2.atI xs (r : Int) = some x ∧ p x := by
  rw [atI_nat, List.getElem?_eq_getElem h]
  exact ⟨_, rfl, hp _ (List.getElem_mem _)⟩
theorem pick_at {st : Sto} {j : Nat} {xs : List D} (_ : st[j]? = some (.lst xs)) (r : Nat) (h : r < xs.length) (p : D → Prop) (hp : ∀ x ∈ xs, p x) : ∃ x, L2.atI xs (r : Int) = some x ∧ p x := pick_spec xs r h p hp
theorem pickS_spec (xs : S) (r : Nat) (h : r < xs.length) : ∃ x, L2.atI xs (r : Int) = some x ∧ x ∈ xs := by
  rw [atI_nat, List.getElem?_eq_getElem h]
  exact ⟨_, rfl, List.getElem_mem _⟩
theorem last_at {α : Type} (xs : List α) (x : α) : (xs ++ [x])[xs.length]? = some x := by
  rw [List.getElem?_append_right (Nat.le_refl _), Nat.sub_self]
  rfl
theorem Wt.last {T : Tys} {st : Sto} (h : Wt T st) (t : Ty) : (T ++ [t])[st.length]? = some t := by
  rw [← h.len]
  exact last_at _ _
theorem strs_signs : ∀ cs : S, strsD (cs.map fun c => .str [c]) = some (cs.map fun c => [c])
  | [] => rfl
  | c :: cs => by
    rw [List.map_cons, List.map_cons, strsD, strs_signs cs]
theorem join_signs : ∀ cs : S, joinS [] (cs.map fun c => [c]) = cs
  | [] => rfl
  | [c] => rfl
  | c :: d :: cs => by
    have := join_signs (d :: cs)
    rw [List.map_cons, List.map_cons, joinS]
    rw [List.map_cons] at this
    rw [this]
    rfl
    · simp
theorem sum_signs : ∀ cs : S, sumLen 0 (cs.map fun c => [c]) = cs.length
  | [] => rfl
  | c :: cs => by
    rw [List.map_cons, sumLen, sum_signs cs, List.length_cons, List.length_cons, List.length_nil]
    omega
/-- a row of drawn signs -/
theorem kcomp_signs {P : Pg} (h13 : P.fn 13 = some f13) (n : Nat) {dk : Nat} {T : Tys} {st : Sto} {m : Nat} (g : GS dk T st m) {own : List Nat} {i : Nat} {E : CE} (L : S) {M : Nat} (r R : Nat) (hr : r ≤ R) (hR : R < 100000) (hm : m < 100000000000) (hL : L.length = M) (hM : 1 ≤ M) (hM2 : M < 1073741824) {env : Env}
    (hE : ∀ x st, evE P (callN P (n + 1)) E ((wipeE env own).set i (some x)) st = some (.ok (.str L), st))
    (h0 : ∀ x, ((wipeE env own).set i (some x))[0]? = some (some (.obj dk))) (Q : D → Sto → Prop)
    (k : ∀ (cs : S) (st' : Sto), (∀ c ∈ cs, c ∈ L) → cs.length = r → GS dk T st' (m + R) → Go T st T st' → Q (.obj st'.length) (st' ++ [.lst (cs.map fun c => .str [c])])) :
    KComp P (callN P (n + 1)) own .range (.nm i) [] (.sub E (.call 13 [.var 0, .int (M : Nat)])) env Q [.int (r : Nat)] st := by
  refine kcomp (rngL 0 r) (fun j acc st' => ∃ cs : S, acc = cs.map (fun c => .str [c]) ∧ cs.length = j ∧ (∀ c ∈ cs, c ∈ L) ∧ GS dk T st' (m + j) ∧ Go T st T st') (by rw [rngL_lenth]; omega)
    (fun _ _ st' _ _ => walked_rng r (by omega) st') ⟨[], rfl, rfl, by simp, g, Go.rfl⟩ (fun j acc st' ⟨cs, e, h, _⟩ _ => by rw [e, List.length_map]; omega) ?_ ?_
  · rintro j x acc st' hx hj ⟨cs, rfl, hcs, hin, g', go'⟩
    rw [rngL_lenth] at hj
    refine ⟨_, rfl, ?_⟩
    simp_arith! only [hE, W_call _ _ h13, h0]
    refine draw_spec h13 n g' M (by omega) hM hM2 _ ?_
    intro q st2 hq g2 go2
    obtain ⟨y, e1, e2⟩ := pickS_spec L q (by omega)
    simp_arith! only [e1]
    refine ⟨cs ++ [y], by rw [List.map_append]; rfl, by rw [List.length_append, hcs]; rfl, ?_, by rw [← Nat.add_assoc]; exact g2, go'.trans go2⟩
    intro c hc
    rw [List.mem_append] at hc
    rcases hc with hc | hc
    · exact hin c hc
    · rw [List.mem_singleton] at hc
      rw [hc]
      exact e2
  · rintro ys st' ⟨cs, rfl, hcs, hin, g', go'⟩ _
    rw [rngL_lenth] at hcs g'
    exact k cs st' hin hcs (g'.le (by omega)) go'
theorem name_spec {P : Pg} (H : HasG P) (n : Nat) {dk : Nat} {T : Tys} {st : Sto} {m : Nat} (g : GS dk T st m) (hm : m < 100000000) (Q : D → Sto → Prop)
    (k : ∀ (s : S) (T' : Tys) (st' : Sto), s ≠ [] → s.length ≤ 12 → GS dk T' st' (m + 20) → Go T st T' st' → Q (.str s) st') :
    W (callN P (n + 2) 14 [.obj dk] st) Q := by
  rw [callN, H.h14]
  simp_arith! only [f14, W_call _ _ H.h13]
  refine draw_spec H.h13 n g 4 (by omega) (by decide) (by decide) _ ?_
  intro r st1 hr g1 go1
  simp_arith! only []
  refine ⟨fun h => ?_, fun h => ?_⟩
  · simp_arith! only [W_call _ _ H.h13]
    refine draw_spec H.h13 n (g1.raw _) 8 (by omega) (by decide) (by decide) _ ?_
    intro r2 st2 hr2 g2 go2
    have e := go2.fr _ (g1.wt.last _)
    rw [last_at] at e
    obtain ⟨x, hx, s, rfl, q1, q2⟩ := pick_at e r2 hr2 (fun x => ∃ s, x = .str s ∧ s ≠ [] ∧ s.length ≤ 12) (by simp)
    simp_arith! only [e, hx]
    exact k s _ _ q1 q2 (g2.le (by omega)) (go1.trans ((Go.new g1.wt.len _ _).trans go2))
  · simp_arith! only [W_call _ _ H.h13]
    refine draw_spec H.h13 n g1 12 (by omega) (by decide) (by decide) _ ?_
    intro r2 st2 hr2 g2 go2
    simp_arith! only []
    refine kcomp_signs (M := 26) H.h13 n g2 [97, 98, 99, 100, 101, 102, 103, 104, 105, 106, 107, 108, 109, 110, 111, 112, 113, 114, 115, 116, 117, 118, 119, 120, 121, 122] r2 11 (by omega) (by decide) (by omega) rfl (by decide) (by decide) (fun x st => by simp_arith! only []) (fun x => by simp_arith! only []) _ ?_
    intro cs st3 hin hcs g3 go3
    have hs : cs.length ≤ LN := by unfold LN; omega
    have hs2 : 1 + cs.length ≤ LN := by unfold LN; omega
    simp_arith! only [last_at, strs_signs, sum_signs, join_signs, hs, hs2]
    exact k _ _ _ (by simp) (by rw [List.length_cons]; omega) ((g3.raw _).le (by omega)) (go1.trans (go2.trans (go3.trans (Go.new g3.wt.len _ _))))
theorem typed_spec {P : Pg} (H : HasG P) (n : Nat) {dk : Nat} {T : Tys} {st : Sto} {m : Nat} (g : GS dk T st m) (hm : m < 100000000) (Q : D → Sto → Prop)
    (k : ∀ (s : S) (T' : Tys) (st' : Sto), s ≠ [] → s.length ≤ 42 → GS dk T' st' (m + 50) → Go T st T' st' → Q (.str s) st') :
    W (callN P (n + 2) 15 [.obj dk] st) Q := by
  rw [callN, H.h15]
  simp_arith! only [f15, W_call _ _ H.h13]
  refine draw_spec H.h13 n (g.raw _) 4 (by omega) (by decide) (by decide) _ ?_
  intro r st1 hr g1 go1
  have e := go1.fr _ (g.wt.last _)
  rw [last_at] at e
  obtain ⟨x, hx, q, rfl, q1⟩ := pick_at e r hr (fun x => ∃ q : Nat, x = .int (q : Int) ∧ q ≤ 40) (by
    intro x hx
    simp at hx
    rcases hx with rfl | rfl | rfl | rfl
    · exact ⟨0, rfl, by decide⟩
    · exact ⟨1, rfl, by decide⟩
    · exact ⟨3, rfl, by decide⟩
    · exact ⟨40, rfl, by decide⟩)
  simp_arith! only [e, hx]
  refine kcomp_signs (M := 17) H.h13 n g1 [32, 97, 98, 48, 57, 59, 35, 40, 91, 44, 43, 60, 61, 95, 126, 92, 39] q 40 q1 (by decide) (by omega) rfl (by decide) (by decide) (fun x st => by simp_arith! only []) (fun x => by simp_arith! only []) _ ?_
  intro cs st3 hin hcs g3 go3
  have hs : cs.length ≤ LN := by unfold LN; omega
  have hs2 : 1 + cs.length ≤ LN := by unfold LN; omega
  have hs3 : (cs.length + 1) + 1 ≤ LN := by unfold LN; omega
  simp_arith! only [last_at, strs_signs, sum_signs, join_signs, hs, hs2, hs3]
  exact k _ _ _ (by simp) (by simp; omega) ((g3.raw _).le (by omega)) ((Go.new g.wt.len _ _).trans (go1.trans (go3.trans (Go.new g3.wt.len _ _))))
theorem remark_spec {P : Pg} (h13 : P.fn 13 = some f13) (h24 : P.fn 24 = some f24) (n : Nat) {dk : Nat} {T : Tys} {st : Sto} {m : Nat} (g : GS dk T st m) (hm : m < 100000000) (Q : D → Sto → Prop)
    (k : ∀ (s : S) (T' : Tys) (st' : Sto), s.length ≤ 4 → 10 ∉ s → GS dk T' st' (m + 6) → Go T st T' st' → Q (.str (35 :: s)) st') :
    W (callN P (n + 2) 24 [.obj dk] st) Q := by
  rw [callN, h24]
  simp_arith! only [f24, W_call _ _ h13]
  refine draw_spec h13 n g 5 (by omega) (by decide) (by decide) _ ?_
  intro r st1 hr g1 go1
  simp_arith! only []
  refine kcomp_signs (M := 8) h13 n g1 [32, 97, 59, 34, 35, 40, 126, 57] r 4 (by omega) (by decide) (by omega) rfl (by decide) (by decide) (fun x st => by simp_arith! only []) (fun x => by simp_arith! only []) _ ?_
  intro cs st3 hin hcs g3 go3
  have hs : cs.length ≤ LN := by unfold LN; omega
  have hs2 : 1 + cs.length ≤ LN := by unfold LN; omega
  simp_arith! only [last_at, strs_signs, sum_signs, join_signs, hs, hs2]
  refine k cs _ _ (by omega) ?_ ((g3.raw _).le (by omega)) (go1.trans (go3.trans (Go.new g3.wt.len _ _)))
  intro h
  have := hin 10 h
  simp at this
/-- new lists -/
theorem wnew {dk : Nat} {T : Tys} {st : Sto} {m : Nat} (g : GS dk T st m) {xs : List D} (Q : D → Sto → Prop)
    (k : ∀ (i : Nat) (T' : Tys) (st' : Sto), T'[i]? = some .raw → st'[i]? = some (.lst xs) → T.length ≤ i → GS dk T' st' m → Go T st T' st' → Q (.obj i) st') : W (newL xs st) Q := by
  rw [W_newL]
  exact k _ _ _ (g.wt.last _) (last_at _ _) (by rw [g.wt.len]; exact Nat.le_refl _) (g.raw _) (Go.new g.wt.len _ _)
theorem klst {dk : Nat} {T : Tys} {st : Sto} {m : Nat} (g : GS dk T st m) {xs : List D} (hx : xs.length ≤ LN) (Q : D → Sto → Prop)
    (k : ∀ (i : Nat) (T' : Tys) (st' : Sto), T'[i]? = some .raw → st'[i]? = some (.lst xs) → T.length ≤ i → GS dk T' st' m → Go T st T' st' → Q (.obj i) st') : KLst Q xs st :=
  ⟨hx, k _ _ _ (g.wt.last _) (last_at _ _) (by rw [g.wt.len]; exact Nat.le_refl _) (g.raw _) (Go.new g.wt.len _ _)⟩
theorem klst_word {dk : Nat} {T : Tys} {st : Sto} {m : Nat} (g : GS dk T st m) {a s : S} (h1 : s ≠ []) (h2 : s.length ≤ 42) (Q : D → Sto → Prop)
    (k : ∀ (i : Nat) (T' : Tys) (st' : Sto), T'[i]? = some .word → GS dk T' st' m → Go T st T' st' → (∃ z, st'[i]? = some (.lst [.str z, .str [], .str s])) → Q (.obj i) st') : KLst Q [.str a, .str [], .str s] st :=
  ⟨by unfold LN; simp, k _ _ _ (g.wt.last _) (g.word _ _ _ h1 (by simp) h2) (Go.new g.wt.len _ _) ⟨_, last_at _ _⟩⟩
theorem klst_prt {dk : Nat} {T : Tys} {st : Sto} {m : Nat} (g : GS dk T st m) {xs : List D} (d w : Nat) (h1 : PVs T d xs w) (h2 : w ≤ wt d) (h3 : xs.length ≤ 20) (Q : D → Sto → Prop)
    (k : ∀ (i : Nat) (T' : Tys) (st' : Sto), T'[i]? = some (.prt d) → GS dk T' st' m → Go T st T' st' → Q (.obj i) st') : KLst Q xs st :=
  ⟨by unfold LN; omega, k _ _ _ (g.wt.last _) (g.prt d xs w h1 h2 h3) (Go.new g.wt.len _ _)⟩
theorem wnew_prt {dk : Nat} {T : Tys} {st : Sto} {m : Nat} (g : GS dk T st m) {xs : List D} (d w : Nat) (h1 : PVs T d xs w) (h2 : w ≤ wt d) (h3 : xs.length ≤ 20) (Q : D → Sto → Prop)
    (k : ∀ (i : Nat) (T' : Tys) (st' : Sto), T'[i]? = some (.prt d) → GS dk T' st' m → Go T st T' st' → Q (.obj i) st') : W (newL xs st) Q := by
  rw [W_newL]
  exact k _ _ _ (g.wt.last _) (g.prt d xs w h1 h2 h3) (Go.new g.wt.len _ _)
theorem key_spec {P : Pg} (h16 : P.fn 16 = some f16) (n : Nat) {dk : Nat} {T : Tys} {st : Sto} {m : Nat} (g : GS dk T st m) (s : S) (h1 : s ≠ []) (h2 : s.length ≤ 42) (Q : D → Sto → Prop)
    (k : ∀ (i : Nat) (T' : Tys) (st' : Sto), T'[i]? = some .word → GS dk T' st' m → Go T st T' st' → (∃ z, st'[i]? = some (.lst [.str z, .str [], .str s])) → Q (.obj i) st') :
    W (callN P (n + 1) 16 [.str s] st) Q := by
  rw [callN, h16]
  have e : ∀ st, inD st (.str s) (.tup [(.str [40]), (.str [41]), (.str [91]), (.str [93]), (.str [44]), (.str [59]), (.str [43]), (.str [45]), (.str [42]), (.str [60]), (.str [61])]) = some (decide (s ∈ ([[40], [41], [91], [93], [44], [59], [43], [45], [42], [60], [61]] : List S))) := fun st => inD_strs st s [[40], [41], [91], [93], [44], [59], [43], [45], [42], [60], [61]]
  simp_arith only [f16, e]
  refine ⟨fun h => ?_, fun h => ?_⟩
  · refine klst_word g h1 h2 _ ?_
    intro i T' st' q1 q2 q3 q4
    simp_arith only []
    exact k i T' st' q1 q2 q3 q4
  · refine klst_word g h1 h2 _ ?_
    intro i T' st' q1 q2 q3 q4
    simp_arith only []
    exact k i T' st' q1 q2 q3 q4
end Mini

set_option Elab.async false
set_option linter.all false
set_option maxRecDepth 100000
set_option maxHeartbeats 4000000
local macro_rules | `(tactic| simp_arith [$xs:simpLemma,*] $[$l:location]?) => `(tactic| simp only [Mini.startE, Mini.asgT, Mini.asgTs, Mini.wipeE, Mini.preM, Mini.mthD, Mini.bltD, Mini.binD, Mini.augD, Mini.cmpD, Mini.subD, Mini.slcD, Mini.slcW, Mini.negD, Mini.stsubD, Mini.optI, Mini.truD, Mini.items, Mini.litems, Mini.inD_sign, Mini.inD_strs, Mini.typD, List.length_cons, List.length_nil, List.map_cons, List.map_nil, List.replicate_succ, List.replicate_zero, List.cons_append, List.nil_append, List.getElem?_cons_zero, List.getElem?_cons_succ, List.set_cons_zero, List.set_cons_succ, Nat.reduceAdd, Nat.reduceSub, Nat.zero_add, Nat.add_zero, Nat.sub_self, Option.map_some, Option.map_none, Option.bind_some, Option.bind_none, Option.isSome_some, if_true, if_false, ite_true, ite_false, and_self, and_true, true_and, Mini.eqD_str, Mini.eqD_int, Mini.eqD_bl, Bool.not_true, Bool.not_false, Bool.false_eq_true, decide_true, decide_false, reduceIte, reduceCtorEq, decide_eq_true_eq, Mini.W_ok, Mini.W_none, imp_false, Classical.not_not, Mini.W_opt, Mini.W_ite, Mini.WS_nx, Mini.WS_rt, Mini.WS_bk, Mini.WS_ct, Mini.WS_nil, Mini.WS_cons, Mini.WS_ifeT, Mini.WS_ite, Mini.QC_nil, Mini.QC_rt, Mini.QC_bk, Mini.QC_ct, Mini.W_ret, Mini.QR_nx, Mini.QR_rt, true_imp_iff, false_imp_iff, not_true_eq_false, not_false_eq_true, imp_self, forall_const, ne_eq, Mini.E_var, Mini.nex_non, Mini.nex_bl, Mini.nex_int, Mini.nex_str, Mini.nex_tup, Mini.nex_rol, Mini.nex_obj, Mini.nex_ty, Mini.nex_glo, Mini.nex_cdt, Mini.E_int, Mini.E_bl, Mini.E_str, Mini.E_non, Mini.E_glo, Mini.W_bin, Mini.KBin1_ap, Mini.KBin2_ap, Mini.W_cmp, Mini.KCmp1_ap, Mini.KCmp2_ap, Mini.W_not, Mini.KNot_ap, Mini.W_neg, Mini.KNeg_ap, Mini.W_and, Mini.KAnd_nil, Mini.KAnd_bl, Mini.W_or, Mini.KOr_nil, Mini.KOr_bl, Mini.W_T, Mini.KT_ap, Mini.W_iteE, Mini.KIte_ap, Mini.W_L0, Mini.W_L, Mini.KL_ap, Mini.KC_ap, Mini.W_tup, Mini.KTup_ap, Mini.W_lst, Mini.W_sub, Mini.KSub1_ap, Mini.KSub2_ap, Mini.W_slc, Mini.KSlc1_ap, Mini.KSlc2_ap, Mini.KSlc3_ap, Mini.KCall_ap, Mini.W_blt, Mini.KBlt_ap, Mini.W_isi, Mini.KIsi_ap, Mini.W_mth, Mini.KMth1_ap, Mini.KMth2_ap, Mini.W_Ts0, Mini.W_Ts1, Mini.WS_expr, Mini.KExpr_ap, Mini.WS_set, Mini.KSet_ap, Mini.QE_some, Mini.WS_tgt, Mini.KTgt_ap, Mini.QO_some, Mini.WS_stsub, Mini.KSt1_ap, Mini.KSt2_ap, Mini.KSt3_ap, Mini.WS_aug, Mini.KAug_ap, Mini.WS_ret, Mini.KRet_ap, Mini.WS_retN, Mini.WS_pass, Mini.WS_brk, Mini.WS_cont, Mini.WS_forr, Mini.W_comp, Mini.ln0, Mini.ln1, Mini.ln2, Mini.ln3, Mini.ln4, Mini.ln5, Mini.ln6, Mini.ln7, Mini.ln8, Mini.ln9, Mini.ln10, Mini.ln11, Mini.ln12, Mini.ln13, Mini.ln14, Mini.ln15, Mini.ln16, Mini.ln17, Mini.ln18, Mini.ln19, Mini.ln20, Mini.lm0, Mini.lm1, Mini.lm2, Mini.lm3, Mini.lm4, Mini.lm5, Mini.lm6, Mini.lm7, Mini.lm8, Mini.lm9, Mini.lm10, Mini.lm11, Mini.lm12, Mini.lm13, Mini.lm14, Mini.lm15, Mini.lm16, Mini.lm17, Mini.lm18, Mini.lm19, Mini.lm20, Int.reduceEq, Int.reduceLT, Int.reduceLE, Int.reduceMod, Int.reduceSub, Int.reduceAdd, Int.reduceMul, $xs,*] $[$l:location]?)
namespace Mini
/-- what a list that grows here is like -/
structure Loc (dk rm i : Nat) (T0 : Tys) (st0 : Sto) (T : Tys) (st : Sto) (m d : Nat) (xs : List D) (w : Nat) : Prop where
  gs : GS dk T st m
  go : Go T0 st0 T st
  lo : T0.length ≤ i
  rm : T[rm]? = some .room
  ra : T[i]? = some .raw
  at_ : st[i]? = some (.lst xs)
  pv : PVs T d xs w
theorem Loc.step {dk rm i : Nat} {T0 : Tys} {st0 : Sto} {T T' : Tys} {st st' : Sto} {m m' d : Nat} {xs : List D} {w : Nat} (h : Loc dk rm i T0 st0 T st m d xs w) (g : GS dk T' st' m') (k : Go T st T' st') : Loc dk rm i T0 st0 T' st' m' d xs w :=
  ⟨g, h.go.trans k, h.lo, k.pre _ _ h.rm, k.pre _ _ h.ra, by rw [k.fr _ h.ra]; exact h.at_, h.pv.gr k.gr (Nat.le_refl _)⟩
theorem Loc.le {dk rm i : Nat} {T0 : Tys} {st0 : Sto} {T : Tys} {st : Sto} {m m' d : Nat} {xs : List D} {w : Nat} (h : Loc dk rm i T0 st0 T st m d xs w) (k : m ≤ m') : Loc dk rm i T0 st0 T st m' d xs w := ⟨h.gs.le k, h.go, h.lo, h.rm, h.ra, h.at_, h.pv⟩
theorem Loc.push {dk rm i : Nat} {T0 : Tys} {st0 : Sto} {T : Tys} {st : Sto} {m d : Nat} {xs ys : List D} {w v : Nat} (h : Loc dk rm i T0 st0 T st m d xs w) (p : PVs T d ys v) : Loc dk rm i T0 st0 T (st.set i (.lst (xs ++ ys))) m d (xs ++ ys) (w + v) :=
  ⟨h.gs.putr h.ra _, h.go.put h.lo _, h.lo, h.rm, h.ra, List.getElem?_set_self (lt_of_get h.at_), h.pv.app p⟩
/-- a list is made -/
theorem Loc.new {dk rm : Nat} {T0 : Tys} {st0 : Sto} {T : Tys} {st : Sto} {m d : Nat} {xs : List D} {w : Nat} (g : GS dk T st m) (go : Go T0 st0 T st) (hl : T0.length ≤ st.length) (hr : T[rm]? = some .room) (p : PVs T d xs w) : Loc dk rm st.length T0 st0 (T ++ [.raw]) (st ++ [.lst xs]) m d xs w :=
  ⟨g.raw _, go.trans (Go.new g.wt.len _ _), hl, get_app hr, g.wt.last _, last_at _ _, p.gr (Gr.app _ _) (Nat.le_refl _)⟩
theorem Loc.fin {dk rm i : Nat} {T0 : Tys} {st0 : Sto} {T : Tys} {st : Sto} {m d : Nat} {xs : List D} {w : Nat} (h : Loc dk rm i T0 st0 T st m d xs w) (h2 : w ≤ wt d) (h3 : xs.length ≤ 20) :
    (T.set i (.prt d))[i]? = some (.prt d) ∧ GS dk (T.set i (.prt d)) st m ∧ Go T0 st0 (T.set i (.prt d)) st :=
  ⟨List.getElem?_set_self (lt_of_get h.ra), h.gs.sort h.ra d xs w h.at_ h.pv h2 h3, h.go.sort h.lo _⟩
theorem Go.len {dk : Nat} {T0 : Tys} {st0 : Sto} {T : Tys} {st : Sto} {m : Nat} (go : Go T0 st0 T st) (g : GS dk T st m) : T0.length ≤ st.length := by
  rw [← g.wt.len]
  rcases Nat.lt_or_ge T.length T0.length with h | h
  · have e : T0[T.length]? = some T0[T.length] := List.getElem?_eq_getElem h
    have := go.pre _ _ e
    rw [List.getElem?_eq_none (Nat.le_refl _)] at this
    cases this
  · exact h
def bc : Nat → Nat
  | 0 => 0
  | d + 1 => 4 * bc d + 110
/-- what a part is made by: def g at depth d, with its other things -/
def PSpec (P : Pg) (g lv d c : Nat) (more : List D) : Prop := ∀ (dk rm : Nat) (T : Tys) (st : Sto) (m : Nat), GS dk T st m → T[rm]? = some .room → m + c ≤ 100000000 → ∀ Q : D → Sto → Prop,
  (∀ (s : S) (i : Nat) (T' : Tys) (st' : Sto), T'[i]? = some (.prt d) → GS dk T' st' (m + c) → Go T st T' st' → Q (.tup [.str s, .obj i]) st') →
  W (callN P lv g (.obj dk :: .obj rm :: .int (d : Nat) :: more) st) Q
theorem PV.nd {T : Tys} {s : S} {i e : Nat} (h : T[i]? = some (.prt e)) : PV T (e + 1) (.tup [.str s, .obj i]) (wt e) := .node h (by omega)
theorem cut_one (x : D) : cut [x] none (some 1) = [x] := rfl
theorem cut_none (x : D) : cut [x] none (some 0) = [] := rfl
theorem plain_spec {P : Pg} (H : HasG P) (n d : Nat) (IH : 1 ≤ d → PSpec P 18 (n + 2) d (bc d) []) : PSpec P 20 (n + 3) (d + 1) (4 * bc d + 100) [] := by
  intro dk rm T st m g hrm hm Q k
  have hwt : wt (d + 1) = 4 * wt d + 10 := rfl
  have hd1 : ((d + 1 : Nat) : Int) - 1 = (d : Int) := by omega
  have i0 : ∀ xs : List D, L2.atI xs 0 = xs[0]? := fun xs => atI_nat xs 0
  have i1 : ∀ xs : List D, L2.atI xs 1 = xs[1]? := fun xs => atI_nat xs 1
  rw [callN, H.h20]
  simp_arith [f20, W_call _ _ H.h13]
  refine draw_spec H.h13 (n + 1) g 8 (by omega) (by decide) (by decide) _ ?_
  intro r st1 hr g1 go1
  obtain ⟨z1, hz1⟩ := g1.wt.ok rm _ hrm
  have main : ∀ (q : Int), (q = 0 ∨ q = 1 ∨ q = 2 ∨ q = 3 ∨ (1 ≤ d ∧ (q = 4 ∨ q = 5 ∨ q = 6 ∨ q = 7))) → WS (evSs P (callN P (n + 2)) (f20.body.drop 2) [some (D.obj dk), some (D.obj rm), some (D.int ((d + 1 : Nat) : Int)), some (D.int q), none, none] st1) (QR Q) := by
    have nm : ∀ q : Int, q = 3 ∨ q = 4 → WS (evSs P (callN P (n + 2)) (f20.body.drop 2) [some (D.obj dk), some (D.obj rm), some (D.int ((d + 1 : Nat) : Int)), some (D.int q), none, none] st1) (QR Q) := by
      intro q hq
      have a1 : ¬ q = 0 := by omega
      have a2 : ¬ q = 1 := by omega
      have a3 : ¬ q = 2 := by omega
      have a4 : q < 5 := by omega
      simp_arith only [f20, List.drop_succ_cons, List.drop_zero, W_call _ _ H.h14, a1, a2, a3, a4]
      refine name_spec H n g1 (by omega) _ ?_
      intro s T2 st2 hs1 hs2 g2 go2
      simp_arith only []
      refine klst_word g2 hs1 (by omega) _ ?_
      intro i3 T3 st3 q3 g3 go3 _
      simp_arith only []
      refine klst_prt g3 (d + 1) _ (.cons (.word q3) .nil) (by omega) (by simp) _ ?_
      intro i4 T4 st4 q4 g4 go4
      simp_arith only []
      exact k _ _ _ _ q4 (g4.le (by omega)) (go1.trans (go2.trans (go3.trans go4)))
    rintro q (rfl | rfl | rfl | rfl | ⟨hd, rfl | rfl | rfl | rfl⟩)
    · simp_arith only [f20, List.drop_succ_cons, List.drop_zero, W_call _ _ H.h13]
      refine klst g1 (by unfold LN; simp) _ ?_
      intro i2 T2 st2 q2 e2 _ g2 go2
      simp_arith only [W_call _ _ H.h13]
      refine draw_spec H.h13 (n + 1) g2 4 (by omega) (by decide) (by decide) _ ?_
      intro r3 st3 hr3 g3 go3
      have e3 := go3.fr _ q2
      rw [e2] at e3
      obtain ⟨x, hx, s, rfl, hs1, hs2⟩ := pick_at e3 r3 hr3 (fun x => ∃ s, x = .str s ∧ s ≠ [] ∧ s.length ≤ 42) (by simp)
      simp_arith only [e3, hx]
      refine klst_word g3 hs1 (by omega) _ ?_
      intro i4 T4 st4 q4 g4 go4 _
      simp_arith only []
      refine klst_prt g4 (d + 1) _ (.cons (.word q4) .nil) (by omega) (by simp) _ ?_
      intro i5 T5 st5 q5 g5 go5
      simp_arith only []
      exact k _ _ _ _ q5 (g5.le (by omega)) (go1.trans (go2.trans (go3.trans (go4.trans go5))))
    · simp_arith only [f20, List.drop_succ_cons, List.drop_zero, W_call _ _ H.h15]
      refine typed_spec H n g1 (by omega) _ ?_
      intro s T2 st2 hs1 hs2 g2 go2
      simp_arith only []
      refine klst_word g2 hs1 (by omega) _ ?_
      intro i3 T3 st3 q3 g3 go3 _
      simp_arith only []
      refine klst_prt g3 (d + 1) _ (.cons (.word q3) .nil) (by omega) (by simp) _ ?_
      intro i4 T4 st4 q4 g4 go4
      simp_arith only []
      exact k _ _ _ _ q4 (g4.le (by omega)) (go1.trans (go2.trans (go3.trans go4)))
    · simp_arith only [f20, List.drop_succ_cons, List.drop_zero, W_call _ _ H.h13, W_call _ _ H.h16]
      refine klst g1 (by unfold LN; simp) _ ?_
      intro i2 T2 st2 q2 e2 _ g2 go2
      simp_arith only [W_call _ _ H.h13]
      refine draw_spec H.h13 (n + 1) g2 2 (by omega) (by decide) (by decide) _ ?_
      intro r3 st3 hr3 g3 go3
      have e3 := go3.fr _ q2
      rw [e2] at e3
      obtain ⟨x, hx, s, rfl, hs1, hs2⟩ := pick_at e3 r3 hr3 (fun x => ∃ s, x = .str s ∧ s ≠ [] ∧ s.length ≤ 42) (by simp)
      simp_arith only [e3, hx]
      refine key_spec H.h16 (n + 1) g3 s hs1 (by omega) _ ?_
      intro i4 T4 st4 q4 g4 go4 _
      simp_arith only []
      refine klst_prt g4 (d + 1) _ (.cons (.word q4) .nil) (by omega) (by simp) _ ?_
      intro i5 T5 st5 q5 g5 go5
      simp_arith only []
      exact k _ _ _ _ q5 (g5.le (by omega)) (go1.trans (go2.trans (go3.trans (go4.trans go5))))
    · exact nm 3 (.inl rfl)
    · exact nm 4 (.inr rfl)
    · simp_arith only [f20, List.drop_succ_cons, List.drop_zero, W_call _ _ H.h16]
      refine key_spec H.h16 (n + 1) g1 [40] (by simp) (by simp) _ ?_
      intro i2 T2 st2 q2 g2 go2 _
      simp_arith only [W_call _ _ H.h18, hd1]
      refine IH hd dk rm T2 st2 _ g2 (go2.pre _ _ hrm) (by omega) _ ?_
      intro s3 i3 T3 st3 q3 g3 go3
      simp_arith only [W_call _ _ H.h16]
      refine key_spec H.h16 (n + 1) g3 [41] (by simp) (by simp) _ ?_
      intro i4 T4 st4 q4 g4 go4 _
      simp_arith only []
      refine klst_prt g4 (d + 1) _ (.cons (.word (go4.pre _ _ (go3.pre _ _ q2))) (.cons (.nd (go4.pre _ _ q3)) (.cons (.word q4) .nil))) (by omega) (by simp) _ ?_
      intro i5 T5 st5 q5 g5 go5
      simp_arith only []
      exact k _ _ _ _ q5 (g5.le (by omega)) (go1.trans (go2.trans (go3.trans (go4.trans go5))))
    · simp_arith only [f20, List.drop_succ_cons, List.drop_zero, W_call _ _ H.h14]
      refine name_spec H n g1 (by omega) _ ?_
      intro s T2 st2 hs1 hs2 g2 go2
      simp_arith only []
      refine klst_word g2 hs1 (by omega) _ ?_
      intro i3 T3 st3 q3 g3 go3 _
      simp_arith only []
      refine klst g3 (by unfold LN; simp) _ ?_
      intro i4 T4 st4 q4 e4 _ g4 go4
      simp_arith only [e4, cut_one]
      refine wnew g4 _ ?_
      intro i5 T5 st5 q5 e5 _ g5 go5
      simp_arith only [W_call _ _ H.h16]
      refine klst g5 (by unfold LN; simp) _ ?_
      intro i6 T6 st6 q6 e6 _ g6 go6
      simp_arith only [e6, i0, i1, W_call _ _ H.h16]
      refine key_spec H.h16 (n + 1) g6 _ (by simp) (by simp) _ ?_
      intro i7 T7 st7 q7 g7 go7 _
      simp_arith only []
      refine klst g7 (by unfold LN; simp) _ ?_
      intro i8 T8 st8 q8 e8 _ g8 go8
      have e5' : st8[i5]? = st5[i5]? := by rw [go8.fr _ (go7.pre _ _ (go6.pre _ _ q5)), go7.fr _ (go6.pre _ _ q5), go6.fr _ q5]
      rw [e5] at e5'
      simp_arith only [e8, e5']
      have goA := go1.trans (go2.trans (go3.trans (go4.trans (go5.trans (go6.trans (go7.trans go8))))))
      rw [W_newL]
      have L0 := Loc.new (d := d + 1) g8 goA (goA.len g8) (goA.pre _ _ hrm) (xs := [.obj i3, .obj i7]) (.cons (.word (go8.pre _ _ (go7.pre _ _ (go6.pre _ _ (go5.pre _ _ (go4.pre _ _ q3)))))) (.cons (.word (go8.pre _ _ q7)) .nil))
      simp_arith []
      rw [QC_nx]
      simp_arith [W_call _ _ H.h13]
      refine draw_spec H.h13 (n + 1) L0.gs 4 (by omega) (by decide) (by decide) _ ?_
      intro r9 st9 hr9 g9 go9
      have L9 := L0.step g9 go9
      simp_arith only []
      refine kfor (rngL 0 r9) (fun j env st' => ∃ T' xs w e, env = [some (D.obj dk), some (D.obj rm), some (D.int ((d + 1 : Nat) : Int)), some (D.int 6), some (D.obj st8.length), e] ∧ Loc dk rm st8.length T st T' st' (m + 30 + j * bc d) (d + 1) xs w ∧ w ≤ 2 + j * (1 + wt d) ∧ xs.length ≤ 2 + 2 * j) (by rw [rngL_lenth]; omega)
        (fun _ _ st' _ _ => walked_rng r9 (by omega) st') ⟨_, _, _, _, rfl, L9.le (by omega), by simp, by simp⟩ ?_ ?_
      · rintro j x env st' hx hj ⟨T', xs, w, e, rfl, L, hw, hl⟩
        rw [rngL_lenth] at hj
        obtain rfl := rngL_at hx
        have hj3 : j * bc d ≤ 3 * bc d := Nat.mul_le_mul_right _ (by omega)
        refine ⟨_, rfl, ?_⟩
        have tail : ∀ (T2 : Tys) (st2 : Sto) (xs2 : List D) (w2 : Nat), Loc dk rm st8.length T st T2 st2 (m + 30 + j * bc d) (d + 1) xs2 w2 → w2 ≤ w + 1 → xs2.length ≤ xs.length + 1 →
            WS (evSs P (callN P (n + 2)) [.expr (.mth .append (.var 4) [(.call 18 [(.var 0), (.var 1), (.bin .Sub (.var 2) (.int 1))])])] [some (D.obj dk), some (D.obj rm), some (D.int ((d + 1 : Nat) : Int)), some (D.int 6), some (D.obj st8.length), some (D.int (j : Int))] st2)
            (fun fl st2 => match fl with
              | .nx env2 => ∃ T' xs w e, env2 = [some (D.obj dk), some (D.obj rm), some (D.int ((d + 1 : Nat) : Int)), some (D.int 6), some (D.obj st8.length), e] ∧ Loc dk rm st8.length T st T' st2 (m + 30 + (j + 1) * bc d) (d + 1) xs w ∧ w ≤ 2 + (j + 1) * (1 + wt d) ∧ xs.length ≤ 2 + 2 * (j + 1)
              | .ct env2 => ∃ T' xs w e, env2 = [some (D.obj dk), some (D.obj rm), some (D.int ((d + 1 : Nat) : Int)), some (D.int 6), some (D.obj st8.length), e] ∧ Loc dk rm st8.length T st T' st2 (m + 30 + (j + 1) * bc d) (d + 1) xs w ∧ w ≤ 2 + (j + 1) * (1 + wt d) ∧ xs.length ≤ 2 + 2 * (j + 1)
              | .rt d => QC P (callN P (n + 2)) [(.ret (.tup [(.sub (.lst [(.str [114, 111, 119]), (.str [99, 97, 108, 108])]) (.blt .int [(.cmp .Eq (.var 3) (.int 6))])), (.bin .Add (.var 4) (.lst [(.call 16 [(.sub (.lst [(.str [93]), (.str [41])]) (.blt .int [(.cmp .Eq (.var 3) (.int 6))]))])]))]))] (QR Q) (.rt d) st2
              | _ => False) := by
          intro T2 st2 xs2 w2 L2 hw2 hl2
          simp_arith only [L2.at_, W_call _ _ H.h18, hd1]
          refine IH hd dk rm T2 st2 _ L2.gs L2.rm (by omega) _ ?_
          intro s3 i3 T3 st3 q3 g3 go3
          have L3 := L2.step g3 go3
          have hlt : xs2.length < LN := by unfold LN; omega
          simp_arith only [L3.at_, hlt]
          refine ⟨_, _, _, _, rfl, (L3.push (.cons (.nd q3) .nil)).le (by rw [Nat.succ_mul]; omega), by rw [Nat.succ_mul]; omega, by simp; omega⟩
        simp_arith []
        by_cases hj0 : (0 : Int) < (j : Int)
        · simp_arith [hj0, QI_ap, L.at_, W_call _ _ H.h16]
          refine key_spec H.h16 (n + 1) L.gs [44] (by simp) (by simp) _ ?_
          intro i2 T2 st2 q2 g2 go2 _
          have L2 := L.step g2 go2
          have hlt : xs.length < LN := by unfold LN; omega
          simp_arith [L2.at_, hlt]
          exact tail _ _ _ _ (L2.push (.cons (.word q2) .nil)) (by omega) (by simp)
        · simp_arith [hj0, QI_ap]
          exact tail _ _ _ _ L (by omega) (by omega)
      · rintro env st' ⟨T', xs, w, e, rfl, L, hw, hl⟩
        rw [rngL_lenth] at L hw hl
        have hj3 : r9 * bc d ≤ 3 * bc d := Nat.mul_le_mul_right _ (by omega)
        have hw3 : r9 * (1 + wt d) ≤ 3 * (1 + wt d) := Nat.mul_le_mul_right _ (by omega)
        simp_arith only []
        refine klst L.gs (by unfold LN; simp) _ ?_
        intro ia Ta sta qa ea _ ga goa
        have La := L.step ga goa
        simp_arith only [ea, i0, i1, W_call _ _ H.h16]
        refine klst La.gs (by unfold LN; simp) _ ?_
        intro ib Tb stb qb eb _ gb gob
        have Lb := La.step gb gob
        simp_arith only [eb, i0, i1, W_call _ _ H.h16]
        refine key_spec H.h16 (n + 1) Lb.gs _ (by simp) (by simp) _ ?_
        intro ic Tc stc qc gc goc _
        have Lc := Lb.step gc goc
        simp_arith only []
        refine klst Lc.gs (by unfold LN; simp) _ ?_
        intro id Td std qd ed _ gd god
        have Ld := Lc.step gd god
        have hlt : xs.length + 1 ≤ LN := by unfold LN; omega
        simp_arith only [Ld.at_, ed, hlt]
        refine wnew_prt Ld.gs (d + 1) _ (Ld.pv.app (.cons (.word (god.pre _ _ qc)) .nil)) (by omega) (by simp; omega) _ ?_
        intro ie Te ste qe ge goe
        simp_arith only []
        exact k _ _ _ _ qe (ge.le (by omega)) (Ld.go.trans goe)
    · simp_arith only [f20, List.drop_succ_cons, List.drop_zero, W_call _ _ H.h14]
      refine name_spec H n g1 (by omega) _ ?_
      intro s T2 st2 hs1 hs2 g2 go2
      simp_arith only []
      refine klst_word g2 hs1 (by omega) _ ?_
      intro i3 T3 st3 q3 g3 go3 _
      simp_arith only []
      refine klst g3 (by unfold LN; simp) _ ?_
      intro i4 T4 st4 q4 e4 _ g4 go4
      simp_arith only [e4, cut_none]
      refine wnew g4 _ ?_
      intro i5 T5 st5 q5 e5 _ g5 go5
      simp_arith only [W_call _ _ H.h16]
      refine klst g5 (by unfold LN; simp) _ ?_
      intro i6 T6 st6 q6 e6 _ g6 go6
      simp_arith only [e6, i0, i1, W_call _ _ H.h16]
      refine key_spec H.h16 (n + 1) g6 _ (by simp) (by simp) _ ?_
      intro i7 T7 st7 q7 g7 go7 _
      simp_arith only []
      refine klst g7 (by unfold LN; simp) _ ?_
      intro i8 T8 st8 q8 e8 _ g8 go8
      have e5' : st8[i5]? = st5[i5]? := by rw [go8.fr _ (go7.pre _ _ (go6.pre _ _ q5)), go7.fr _ (go6.pre _ _ q5), go6.fr _ q5]
      rw [e5] at e5'
      simp_arith only [e8, e5']
      have goA := go1.trans (go2.trans (go3.trans (go4.trans (go5.trans (go6.trans (go7.trans go8))))))
      rw [W_newL]
      have L0 := Loc.new (d := d + 1) g8 goA (goA.len g8) (goA.pre _ _ hrm) (xs := [.obj i7]) (.cons (.word (go8.pre _ _ q7)) .nil)
      simp_arith []
      rw [QC_nx]
      simp_arith [W_call _ _ H.h13]
      refine draw_spec H.h13 (n + 1) L0.gs 4 (by omega) (by decide) (by decide) _ ?_
      intro r9 st9 hr9 g9 go9
      have L9 := L0.step g9 go9
      simp_arith only []
      refine kfor (rngL 0 r9) (fun j env st' => ∃ T' xs w e, env = [some (D.obj dk), some (D.obj rm), some (D.int ((d + 1 : Nat) : Int)), some (D.int 7), some (D.obj st8.length), e] ∧ Loc dk rm st8.length T st T' st' (m + 30 + j * bc d) (d + 1) xs w ∧ w ≤ 2 + j * (1 + wt d) ∧ xs.length ≤ 2 + 2 * j) (by rw [rngL_lenth]; omega)
        (fun _ _ st' _ _ => walked_rng r9 (by omega) st') ⟨_, _, _, _, rfl, L9.le (by omega), by simp, by simp⟩ ?_ ?_
      · rintro j x env st' hx hj ⟨T', xs, w, e, rfl, L, hw, hl⟩
        rw [rngL_lenth] at hj
        obtain rfl := rngL_at hx
        have hj3 : j * bc d ≤ 3 * bc d := Nat.mul_le_mul_right _ (by omega)
        refine ⟨_, rfl, ?_⟩
        have tail : ∀ (T2 : Tys) (st2 : Sto) (xs2 : List D) (w2 : Nat), Loc dk rm st8.length T st T2 st2 (m + 30 + j * bc d) (d + 1) xs2 w2 → w2 ≤ w + 1 → xs2.length ≤ xs.length + 1 →
            WS (evSs P (callN P (n + 2)) [.expr (.mth .append (.var 4) [(.call 18 [(.var 0), (.var 1), (.bin .Sub (.var 2) (.int 1))])])] [some (D.obj dk), some (D.obj rm), some (D.int ((d + 1 : Nat) : Int)), some (D.int 7), some (D.obj st8.length), some (D.int (j : Int))] st2)
            (fun fl st2 => match fl with
              | .nx env2 => ∃ T' xs w e, env2 = [some (D.obj dk), some (D.obj rm), some (D.int ((d + 1 : Nat) : Int)), some (D.int 7), some (D.obj st8.length), e] ∧ Loc dk rm st8.length T st T' st2 (m + 30 + (j + 1) * bc d) (d + 1) xs w ∧ w ≤ 2 + (j + 1) * (1 + wt d) ∧ xs.length ≤ 2 + 2 * (j + 1)
              | .ct env2 => ∃ T' xs w e, env2 = [some (D.obj dk), some (D.obj rm), some (D.int ((d + 1 : Nat) : Int)), some (D.int 7), some (D.obj st8.length), e] ∧ Loc dk rm st8.length T st T' st2 (m + 30 + (j + 1) * bc d) (d + 1) xs w ∧ w ≤ 2 + (j + 1) * (1 + wt d) ∧ xs.length ≤ 2 + 2 * (j + 1)
              | .rt d => QC P (callN P (n + 2)) [(.ret (.tup [(.sub (.lst [(.str [114, 111, 119]), (.str [99, 97, 108, 108])]) (.blt .int [(.cmp .Eq (.var 3) (.int 6))])), (.bin .Add (.var 4) (.lst [(.call 16 [(.sub (.lst [(.str [93]), (.str [41])]) (.blt .int [(.cmp .Eq (.var 3) (.int 6))]))])]))]))] (QR Q) (.rt d) st2
              | _ => False) := by
          intro T2 st2 xs2 w2 L2 hw2 hl2
          simp_arith only [L2.at_, W_call _ _ H.h18, hd1]
          refine IH hd dk rm T2 st2 _ L2.gs L2.rm (by omega) _ ?_
          intro s3 i3 T3 st3 q3 g3 go3
          have L3 := L2.step g3 go3
          have hlt : xs2.length < LN := by unfold LN; omega
          simp_arith only [L3.at_, hlt]
          refine ⟨_, _, _, _, rfl, (L3.push (.cons (.nd q3) .nil)).le (by rw [Nat.succ_mul]; omega), by rw [Nat.succ_mul]; omega, by simp; omega⟩
        simp_arith []
        by_cases hj0 : (0 : Int) < (j : Int)
        · simp_arith [hj0, QI_ap, L.at_, W_call _ _ H.h16]
          refine key_spec H.h16 (n + 1) L.gs [44] (by simp) (by simp) _ ?_
          intro i2 T2 st2 q2 g2 go2 _
          have L2 := L.step g2 go2
          have hlt : xs.length < LN := by unfold LN; omega
          simp_arith [L2.at_, hlt]
          exact tail _ _ _ _ (L2.push (.cons (.word q2) .nil)) (by omega) (by simp)
        · simp_arith [hj0, QI_ap]
          exact tail _ _ _ _ L (by omega) (by omega)
      · rintro env st' ⟨T', xs, w, e, rfl, L, hw, hl⟩
        rw [rngL_lenth] at L hw hl
        have hj3 : r9 * bc d ≤ 3 * bc d := Nat.mul_le_mul_right _ (by omega)
        have hw3 : r9 * (1 + wt d) ≤ 3 * (1 + wt d) := Nat.mul_le_mul_right _ (by omega)
        simp_arith only []
        refine klst L.gs (by unfold LN; simp) _ ?_
        intro ia Ta sta qa ea _ ga goa
        have La := L.step ga goa
        simp_arith only [ea, i0, i1, W_call _ _ H.h16]
        refine klst La.gs (by unfold LN; simp) _ ?_
        intro ib Tb stb qb eb _ gb gob
        have Lb := La.step gb gob
        simp_arith only [eb, i0, i1, W_call _ _ H.h16]
        refine key_spec H.h16 (n + 1) Lb.gs _ (by simp) (by simp) _ ?_
        intro ic Tc stc qc gc goc _
        have Lc := Lb.step gc goc
        simp_arith only []
        refine klst Lc.gs (by unfold LN; simp) _ ?_
        intro id Td std qd ed _ gd god
        have Ld := Lc.step gd god
        have hlt : xs.length + 1 ≤ LN := by unfold LN; omega
        simp_arith only [Ld.at_, ed, hlt]
        refine wnew_prt Ld.gs (d + 1) _ (Ld.pv.app (.cons (.word (god.pre _ _ qc)) .nil)) (by omega) (by simp; omega) _ ?_
        intro ie Te ste qe ge goe
        simp_arith only []
        exact k _ _ _ _ qe (ge.le (by omega)) (Ld.go.trans goe)
  simp only [f20, List.drop_succ_cons, List.drop_zero] at main
  simp_arith []
  rw [QC_nx]
  simp_arith [hz1, i0]
  have hr4 : (r : Int) % 4 = 0 ∨ (r : Int) % 4 = 1 ∨ (r : Int) % 4 = 2 ∨ (r : Int) % 4 = 3 := by omega
  refine ⟨fun h => ?_, fun h => ?_⟩
  · simp_arith [QI_ap]
    exact main ((r : Int) % 4) (by omega)
  · refine ⟨fun h2 => ?_, fun h2 => ?_⟩
    · simp_arith [QI_ap]
      exact main ((r : Int) % 4) (by omega)
    · simp_arith [QI_ap]
      exact main (r : Int) (by omega)
end Mini

set_option Elab.async false
set_option linter.all false
set_option maxRecDepth 100000
set_option maxHeartbeats 4000000
namespace Mini
def Sp (P : Pg) (g L d c : Nat) (more : List D) : Prop := ∀ n, L ≤ n → PSpec P g n d c more
theorem plain_sp {P : Pg} (H : HasG P) (d : Nat) (IH : 1 ≤ d → Sp P 18 (8 * d + 3) d (bc d) []) : Sp P 20 (8 * d + 4) (d + 1) (4 * bc d + 100) [] := by
  intro n hn
  obtain ⟨n', rfl⟩ : ∃ n', n = n' + 3 := ⟨n - 3, by omega⟩
  exact plain_spec H n' d (fun h => IH h (n' + 2) (by omega))
theorem natAbs_small (q : Nat) (h : q < 1000) : (q : Int).natAbs < 18446744073709551616 := by omega
theorem isSome_at {st : Sto} {i : Nat} {xs : List D} (h : st[i]? = some (.lst xs)) : litems st i = some xs := by
  unfold litems
  rw [h]
theorem chained4 {P : Pg} (H : HasG P) (d : Nat) (IHw : 1 ≤ d → Sp P 18 (8 * d + 3) d (bc d) []) (IHc : 1 ≤ d → ∀ r : Nat, r ≤ 5 → Sp P 19 (8 * d + 2) d (bc d) [.int (r : Nat)]) (NX : Sp P 19 (8 * d + 5) (d + 1) (4 * bc d + 100) [.int (5 : Nat)]) : Sp P 19 (8 * d + 6) (d + 1) (4 * bc d + 101) [.int (4 : Nat)] := by
  intro n hn dk rm T st m g hrm hm Q k
  obtain ⟨n, rfl⟩ : ∃ n', n = n' + 3 := ⟨n - 3, by omega⟩
  have hwt : wt (d + 1) = 4 * wt d + 10 := rfl
  have hd1 : ((d + 1 : Nat) : Int) - 1 = (d : Int) := by omega
  have i0 : ∀ xs : List D, L2.atI xs 0 = xs[0]? := fun xs => atI_nat xs 0
  have i1 : ∀ xs : List D, L2.atI xs 1 = xs[1]? := fun xs => atI_nat xs 1
  have i2 : ∀ xs : List D, L2.atI xs 2 = xs[2]? := fun xs => atI_nat xs 2
  have x0 : L2.ixN 1 0 = some 0 := by decide
  have c0 : ((4 : Nat) : Int) = 4 := rfl
  obtain ⟨z, hz⟩ := g.wt.ok rm _ hrm
  rw [callN, H.h19]
  simp_arith [f19, c0, hz, i0]
  simp_arith [QI_ap]
  rw [QC_nx]
  simp_arith [hz, i0]
  have nx : ∀ (st1 : Sto) (m1 : Nat), m1 ≤ m + 1 → GS dk T st1 m1 → Go T st T st1 → WS (evSs P (callN P (n + 2)) [(.ret (.call 19 [(.var 0), (.var 1), (.var 2), (.bin .Add (.var 3) (.int 1))]))] [some (D.obj dk), some (D.obj rm), some (D.int ((d + 1 : Nat) : Int)), some (D.int 4), none, none, none, none] st1) (QC P (callN P (n + 2)) (f19.body.drop 2) (QR Q)) := by
    intro st1 m1 hm1 g1 go1
    simp_arith only [W_call _ _ H.h19]
    refine NX (n + 2) (by omega) dk rm T st1 m1 g1 hrm (by omega) _ ?_
    intro s i T2 st2 q2 g2 go2
    simp_arith only []
    exact k s i T2 st2 q2 (g2.le (by omega)) (go1.trans go2)
  simp only [f19, List.drop_succ_cons, List.drop_zero] at nx
  refine ⟨fun h => ?_, fun hdeep => ⟨fun h => ?_, fun hroom => ?_⟩⟩
  · rw [QI_ap]
    exact ⟨fun _ => nx st m (by omega) g Go.rfl, fun h => absurd rfl h⟩
  · rw [QI_ap]
    exact ⟨fun _ => nx st m (by omega) g Go.rfl, fun h => absurd rfl h⟩
  have hd : 1 ≤ d := by omega
  simp_arith [W_call _ _ H.h13]
  refine draw_spec H.h13 (n + 1) g 4 (by omega) (by decide) (by decide) _ ?_
  intro r1 st1 hr1 g1 go1
  simp_arith []
  by_cases hgo : (0 : Int) < (r1 : Int)
  · simp_arith [hgo]
    rw [QI_ap]
    exact ⟨fun _ => nx st1 (m + 1) (by omega) g1 go1, fun h => absurd rfl h⟩
  clear nx
  obtain ⟨z1, hz1⟩ := g1.wt.ok rm _ hrm
  simp_arith [hgo, QI_ap]
  rw [QC_nx]
  simp_arith [hz1, i0, x0]
  have g2 := g1.put hrm (.lst [.int (z1 - 1)]) (fun z => by cases z) ⟨_, List.getElem?_set_self (lt_of_get hz1)⟩
  have go2 : Go T st T (st1.set rm (.lst [.int (z1 - 1)])) := go1.putt hrm (fun z => by cases z) _
  generalize hst2 : st1.set rm (.lst [.int (z1 - 1)]) = st2 at g2 go2
  rw [QC_nx]
  simp_arith []
  simp_arith [QI_ap]
  rw [QC_nx]
  simp_arith [W_call _ _ H.h19, hd1]
  refine IHc hd 5 (by decide) (n + 2) (by omega) dk rm T st2 _ g2 hrm (by omega) _ ?_
  intro s3 i3 T3 st3 q3 g3 go3
  have goA := go2.trans go3
  simp_arith []
  rw [KLst_ap]
  refine ⟨by unfold LN; simp, ?_⟩
  have L0 := Loc.new (d := d + 1) g3 goA (goA.len g3) (goA.pre _ _ hrm) (xs := [.tup [.str s3, .obj i3]]) (.cons (.nd q3) .nil)
  simp_arith []
  rw [QC_nx]
  simp_arith []
  simp_arith [QI_ap, W_call _ _ H.h13]
  refine draw_spec H.h13 (n + 1) L0.gs 2 (by omega) (by decide) (by decide) _ ?_
  intro r9 st9 hr9 g9 go9
  have L9 := L0.step g9 go9
  have e19 : (1 : Int) + (r9 : Int) = ((1 + r9 : Nat) : Int) := by omega
  simp_arith only [e19]
  refine kfor (rngL 0 (1 + r9)) (fun j env st' => ∃ T' xs w e, env = [some (D.obj dk), some (D.obj rm), some (D.int ((d + 1 : Nat) : Int)), some (D.int 4), some (D.obj st3.length), none, e, none] ∧ Loc dk rm st3.length T st T' st' (m + 2 + (j + 1) * bc d) (d + 1) xs w ∧ w ≤ wt d + j * (2 + wt d) ∧ xs.length ≤ 1 + 3 * j) (by rw [rngL_lenth]; omega)
    (fun _ _ st' _ _ => walked_rng _ (by omega) st') ⟨_, _, _, _, rfl, L9.le (by omega), by simp, by simp⟩ ?_ ?_
  · rintro j x env st' hx hj ⟨T', xs, w, e, rfl, L, hw, hl⟩
    rw [rngL_lenth] at hj
    obtain rfl := rngL_at hx
    have hj3 : (j + 1) * bc d ≤ 2 * bc d := Nat.mul_le_mul_right _ (by omega)
    have hS : (j + 1 + 1) * bc d = (j + 1) * bc d + bc d := Nat.succ_mul _ _
    have hS2 : (j + 1) * (2 + wt d) = j * (2 + wt d) + (2 + wt d) := Nat.succ_mul _ _
    refine ⟨_, rfl, ?_⟩
    simp_arith only [L.at_, W_call _ _ H.h16]
    refine key_spec H.h16 (n + 1) L.gs [91] (by simp) (by simp) _ ?_
    intro ia Ta sta qa ga goa _
    have La := L.step ga goa
    simp_arith only [W_call _ _ H.h18, hd1]
    refine IHw hd (n + 2) (by omega) dk rm Ta sta _ ga La.rm (by omega) _ ?_
    intro sb ib Tb stb qb gb gob
    have Lb := La.step gb gob
    simp_arith only [W_call _ _ H.h16]
    refine key_spec H.h16 (n + 1) gb [93] (by simp) (by simp) _ ?_
    intro ic Tc stc qc gc goc _
    have Lc := Lb.step gc goc
    simp_arith only []
    refine klst Lc.gs (by unfold LN; simp) _ ?_
    intro id Td std qd ed _ gd god
    have Ld := Lc.step gd god
    have hlt : xs.length + 3 ≤ LN := by unfold LN; omega
    simp_arith only [Ld.at_, ed, hlt]
    refine ⟨_, _, _, _, rfl, (Ld.push (.cons (.word (god.pre _ _ (goc.pre _ _ (gob.pre _ _ qa)))) (.cons (.nd (god.pre _ _ (goc.pre _ _ qb))) (.cons (.word (god.pre _ _ qc)) .nil)))).le (by omega), by omega, by simp; omega⟩
  · rintro env st' ⟨T', xs, w, e, rfl, L, hw, hl⟩
    rw [rngL_lenth] at L hw hl
    have hj3 : (1 + r9 + 1) * bc d ≤ 3 * bc d := Nat.mul_le_mul_right _ (by omega)
    have hw3 : (1 + r9) * (2 + wt d) ≤ 2 * (2 + wt d) := Nat.mul_le_mul_right _ (by omega)
    obtain ⟨f1, f2, f3⟩ := L.fin (by omega) (by omega)
    simp_arith only []
    exact k _ _ _ _ f1 (f2.le (by omega)) f3
theorem chained3 {P : Pg} (H : HasG P) (d : Nat) (IHw : 1 ≤ d → Sp P 18 (8 * d + 3) d (bc d) []) (IHc : 1 ≤ d → ∀ r : Nat, r ≤ 5 → Sp P 19 (8 * d + 2) d (bc d) [.int (r : Nat)]) (NX : Sp P 19 (8 * d + 6) (d + 1) (4 * bc d + 101) [.int (4 : Nat)]) : Sp P 19 (8 * d + 7) (d + 1) (4 * bc d + 102) [.int (3 : Nat)] := by
  intro n hn dk rm T st m g hrm hm Q k
  obtain ⟨n, rfl⟩ : ∃ n', n = n' + 3 := ⟨n - 3, by omega⟩
  have hwt : wt (d + 1) = 4 * wt d + 10 := rfl
  have hd1 : ((d + 1 : Nat) : Int) - 1 = (d : Int) := by omega
  have i0 : ∀ xs : List D, L2.atI xs 0 = xs[0]? := fun xs => atI_nat xs 0
  have i1 : ∀ xs : List D, L2.atI xs 1 = xs[1]? := fun xs => atI_nat xs 1
  have i2 : ∀ xs : List D, L2.atI xs 2 = xs[2]? := fun xs => atI_nat xs 2
  have x0 : L2.ixN 1 0 = some 0 := by decide
  have c0 : ((3 : Nat) : Int) = 3 := rfl
  obtain ⟨z, hz⟩ := g.wt.ok rm _ hrm
  rw [callN, H.h19]
  simp_arith [f19, c0, hz, i0]
  simp_arith [QI_ap]
  rw [QC_nx]
  simp_arith [hz, i0]
  have nx : ∀ (st1 : Sto) (m1 : Nat), m1 ≤ m + 1 → GS dk T st1 m1 → Go T st T st1 → WS (evSs P (callN P (n + 2)) [(.ret (.call 19 [(.var 0), (.var 1), (.var 2), (.bin .Add (.var 3) (.int 1))]))] [some (D.obj dk), some (D.obj rm), some (D.int ((d + 1 : Nat) : Int)), some (D.int 3), none, none, none, none] st1) (QC P (callN P (n + 2)) (f19.body.drop 2) (QR Q)) := by
    intro st1 m1 hm1 g1 go1
    simp_arith only [W_call _ _ H.h19]
    refine NX (n + 2) (by omega) dk rm T st1 m1 g1 hrm (by omega) _ ?_
    intro s i T2 st2 q2 g2 go2
    simp_arith only []
    exact k s i T2 st2 q2 (g2.le (by omega)) (go1.trans go2)
  simp only [f19, List.drop_succ_cons, List.drop_zero] at nx
  refine ⟨fun h => ?_, fun hdeep => ⟨fun h => ?_, fun hroom => ?_⟩⟩
  · rw [QI_ap]
    exact ⟨fun _ => nx st m (by omega) g Go.rfl, fun h => absurd rfl h⟩
  · rw [QI_ap]
    exact ⟨fun _ => nx st m (by omega) g Go.rfl, fun h => absurd rfl h⟩
  have hd : 1 ≤ d := by omega
  simp_arith [W_call _ _ H.h13]
  refine draw_spec H.h13 (n + 1) g 4 (by omega) (by decide) (by decide) _ ?_
  intro r1 st1 hr1 g1 go1
  simp_arith []
  by_cases hgo : (0 : Int) < (r1 : Int)
  · simp_arith [hgo]
    rw [QI_ap]
    exact ⟨fun _ => nx st1 (m + 1) (by omega) g1 go1, fun h => absurd rfl h⟩
  clear nx
  obtain ⟨z1, hz1⟩ := g1.wt.ok rm _ hrm
  simp_arith [hgo, QI_ap]
  rw [QC_nx]
  simp_arith [hz1, i0, x0]
  have g2 := g1.put hrm (.lst [.int (z1 - 1)]) (fun z => by cases z) ⟨_, List.getElem?_set_self (lt_of_get hz1)⟩
  have go2 : Go T st T (st1.set rm (.lst [.int (z1 - 1)])) := go1.putt hrm (fun z => by cases z) _
  generalize hst2 : st1.set rm (.lst [.int (z1 - 1)]) = st2 at g2 go2
  rw [QC_nx]
  simp_arith []
  simp_arith [QI_ap]
  refine klst g2 (by unfold LN; simp) _ ?_
  intro ia Ta sta qa ea _ ga goa
  simp_arith [ea, W_call _ _ H.h13]
  refine draw_spec H.h13 (n + 1) ga 2 (by omega) (by decide) (by decide) _ ?_
  intro rb stb hrb gb gob
  have eb := gob.fr _ qa
  rw [ea] at eb
  obtain ⟨x, hx, s, rfl, hs1, hs2⟩ := pick_at eb rb hrb (fun x => ∃ s, x = .str s ∧ s ≠ [] ∧ s.length ≤ 42) (by simp)
  simp_arith only [eb, hx, W_call _ _ H.h16]
  refine key_spec H.h16 (n + 1) gb s hs1 (by omega) _ ?_
  intro ic Tc stc qc gc goc _
  simp_arith only [W_call _ _ H.h19, hd1]
  have goA := go2.trans (goa.trans (gob.trans goc))
  refine IHc hd 3 (by decide) (n + 2) (by omega) dk rm Tc stc _ gc (goA.pre _ _ hrm) (by omega) _ ?_
  intro s4 i4 T4 st4 q4 g4 go4
  simp_arith only []
  refine klst_prt g4 (d + 1) _ (.cons (.word (go4.pre _ _ qc)) (.cons (.nd q4) .nil)) (by omega) (by simp) _ ?_
  intro i5 T5 st5 q5 g5 go5
  simp_arith only []
  exact k _ _ _ _ q5 (g5.le (by omega)) (goA.trans (go4.trans go5))
theorem chained2 {P : Pg} (H : HasG P) (d : Nat) (IHw : 1 ≤ d → Sp P 18 (8 * d + 3) d (bc d) []) (IHc : 1 ≤ d → ∀ r : Nat, r ≤ 5 → Sp P 19 (8 * d + 2) d (bc d) [.int (r : Nat)]) (NX : Sp P 19 (8 * d + 7) (d + 1) (4 * bc d + 102) [.int (3 : Nat)]) : Sp P 19 (8 * d + 8) (d + 1) (4 * bc d + 103) [.int (2 : Nat)] := by
  intro n hn dk rm T st m g hrm hm Q k
  obtain ⟨n, rfl⟩ : ∃ n', n = n' + 3 := ⟨n - 3, by omega⟩
  have hwt : wt (d + 1) = 4 * wt d + 10 := rfl
  have hd1 : ((d + 1 : Nat) : Int) - 1 = (d : Int) := by omega
  have i0 : ∀ xs : List D, L2.atI xs 0 = xs[0]? := fun xs => atI_nat xs 0
  have i1 : ∀ xs : List D, L2.atI xs 1 = xs[1]? := fun xs => atI_nat xs 1
  have i2 : ∀ xs : List D, L2.atI xs 2 = xs[2]? := fun xs => atI_nat xs 2
  have x0 : L2.ixN 1 0 = some 0 := by decide
  have c0 : ((2 : Nat) : Int) = 2 := rfl
  obtain ⟨z, hz⟩ := g.wt.ok rm _ hrm
  rw [callN, H.h19]
  simp_arith [f19, c0, hz, i0]
  simp_arith [QI_ap]
  rw [QC_nx]
  simp_arith [hz, i0]
  have nx : ∀ (st1 : Sto) (m1 : Nat), m1 ≤ m + 1 → GS dk T st1 m1 → Go T st T st1 → WS (evSs P (callN P (n + 2)) [(.ret (.call 19 [(.var 0), (.var 1), (.var 2), (.bin .Add (.var 3) (.int 1))]))] [some (D.obj dk), some (D.obj rm), some (D.int ((d + 1 : Nat) : Int)), some (D.int 2), none, none, none, none] st1) (QC P (callN P (n + 2)) (f19.body.drop 2) (QR Q)) := by
    intro st1 m1 hm1 g1 go1
    simp_arith only [W_call _ _ H.h19]
    refine NX (n + 2) (by omega) dk rm T st1 m1 g1 hrm (by omega) _ ?_
    intro s i T2 st2 q2 g2 go2
    simp_arith only []
    exact k s i T2 st2 q2 (g2.le (by omega)) (go1.trans go2)
  simp only [f19, List.drop_succ_cons, List.drop_zero] at nx
  refine ⟨fun h => ?_, fun hdeep => ⟨fun h => ?_, fun hroom => ?_⟩⟩
  · rw [QI_ap]
    exact ⟨fun _ => nx st m (by omega) g Go.rfl, fun h => absurd rfl h⟩
  · rw [QI_ap]
    exact ⟨fun _ => nx st m (by omega) g Go.rfl, fun h => absurd rfl h⟩
  have hd : 1 ≤ d := by omega
  simp_arith [W_call _ _ H.h13]
  refine draw_spec H.h13 (n + 1) g 4 (by omega) (by decide) (by decide) _ ?_
  intro r1 st1 hr1 g1 go1
  simp_arith []
  by_cases hgo : (0 : Int) < (r1 : Int)
  · simp_arith [hgo]
    rw [QI_ap]
    exact ⟨fun _ => nx st1 (m + 1) (by omega) g1 go1, fun h => absurd rfl h⟩
  clear nx
  obtain ⟨z1, hz1⟩ := g1.wt.ok rm _ hrm
  simp_arith [hgo, QI_ap]
  rw [QC_nx]
  simp_arith [hz1, i0, x0]
  have g2 := g1.put hrm (.lst [.int (z1 - 1)]) (fun z => by cases z) ⟨_, List.getElem?_set_self (lt_of_get hz1)⟩
  have go2 : Go T st T (st1.set rm (.lst [.int (z1 - 1)])) := go1.putt hrm (fun z => by cases z) _
  generalize hst2 : st1.set rm (.lst [.int (z1 - 1)]) = st2 at g2 go2
  rw [QC_nx]
  simp_arith []
  simp_arith [QI_ap]
  rw [QC_nx]
  simp_arith [W_call _ _ H.h19, hd1]
  refine IHc hd 3 (by decide) (n + 2) (by omega) dk rm T st2 _ g2 hrm (by omega) _ ?_
  intro s3 i3 T3 st3 q3 g3 go3
  have goA := go2.trans go3
  simp_arith []
  rw [KLst_ap]
  refine ⟨by unfold LN; simp, ?_⟩
  have L0 := Loc.new (d := d + 1) g3 goA (goA.len g3) (goA.pre _ _ hrm) (xs := [.tup [.str s3, .obj i3]]) (.cons (.nd q3) .nil)
  simp_arith []
  rw [QC_nx]
  simp_arith []
  simp_arith [QI_ap]
  rw [QC_nx]
  simp_arith []
  refine klst L0.gs (by unfold LN; simp) _ ?_
  intro ia Ta sta qa ea _ ga goa
  have La := L0.step ga goa
  simp_arith [ea, i0, i1, i2, W_call _ _ H.h13]
  refine draw_spec H.h13 (n + 1) ga 2 (by omega) (by decide) (by decide) _ ?_
  intro rb stb hrb gb gob
  have Lb := La.step gb gob
  obtain ⟨sg, hsg, _⟩ := pickS_spec [42, 42] rb hrb
  simp_arith [hsg]
  rw [QC_nx]
  simp_arith [W_call _ _ H.h13]
  refine draw_spec H.h13 (n + 1) gb 2 (by omega) (by decide) (by decide) _ ?_
  intro r9 st9 hr9 g9 go9
  have L9 := Lb.step g9 go9
  have e19 : (1 : Int) + (r9 : Int) = ((1 + r9 : Nat) : Int) := by omega
  have e20 := natAbs_small r9 (by omega)
  simp_arith only [e20, true_or, Int.mul_one, Int.mul_zero, e19]
  refine kfor (rngL 0 (1 + r9)) (fun j env st' => ∃ T' xs w c e, env = [some (D.obj dk), some (D.obj rm), some (D.int ((d + 1 : Nat) : Int)), some (D.int 2), some (D.obj st3.length), some (D.str [c]), e, none] ∧ Loc dk rm st3.length T st T' st' (m + 3 + j + (j + 1) * bc d) (d + 1) xs w ∧ w ≤ wt d + j * (1 + wt d) ∧ xs.length = 1 + 2 * j ∧ (∀ y, xs[1]? = some y → ∃ iw, y = .obj iw ∧ T'[iw]? = some .word)) (by rw [rngL_lenth]; omega)
    (fun _ _ st' _ _ => walked_rng (1 + r9) (by omega) st') ⟨_, _, _, _, _, rfl, L9.le (by omega), by simp, by simp, by simp⟩ ?_ ?_
  · rintro j x env st' hx hj ⟨T', xs, w, c, e, rfl, L, hw, hl, hx1⟩
    rw [rngL_lenth] at hj
    obtain rfl := rngL_at hx
    have hj3 : (j + 1) * bc d ≤ 2 * bc d := Nat.mul_le_mul_right _ (by omega)
    have hS : (j + 1 + 1) * bc d = (j + 1) * bc d + bc d := Nat.succ_mul _ _
    have hS2 : (j + 1) * (1 + wt d) = j * (1 + wt d) + (1 + wt d) := Nat.succ_mul _ _
    refine ⟨_, rfl, ?_⟩
    simp_arith only [L.at_, W_call _ _ H.h16]
    refine key_spec H.h16 (n + 1) L.gs [c] (by simp) (by simp) _ ?_
    intro ia Ta sta qa ga goa _
    have La := L.step ga goa
    simp_arith only [W_call _ _ H.h19, hd1]
    refine IHc hd 3 (by decide) (n + 2) (by omega) dk rm Ta sta _ ga La.rm (by omega) _ ?_
    intro sb ib Tb stb qb gb gob
    have Lb := La.step gb gob
    simp_arith only []
    refine klst Lb.gs (by unfold LN; simp) _ ?_
    intro id Td std qd ed _ gd god
    have Ld := Lb.step gd god
    have hlt : xs.length + 2 ≤ LN := by unfold LN; omega
    simp_arith [Ld.at_, ed, hlt]
    have Le := Ld.push (.cons (.word (god.pre _ _ (gob.pre _ _ qa))) (.cons (.nd (s := sb) (god.pre _ _ qb)) .nil))
    rw [QC_nx]
    simp_arith []
    refine klst Le.gs (by unfold LN; simp) _ ?_
    intro if_ Tf stf qf ef _ gf gof
    have Lf := Le.step gf gof
    simp_arith [ef, i0, i1, i2, W_call _ _ H.h13]
    refine draw_spec H.h13 (n + 1) gf 2 (by omega) (by decide) (by decide) _ ?_
    intro rg stg hrg gg gog
    have Lg := Lf.step gg gog
    obtain ⟨sg, hsg, _⟩ := pickS_spec [42, 42] rg hrg
    simp_arith only [hsg]
    refine ⟨_, _, _, _, _, rfl, Lg.le (by omega), by omega, by simp; omega, ?_⟩
    intro y hy
    cases xs with
    | nil =>
      rw [List.length_nil] at hl
      omega
    | cons x1 xs =>
      cases xs with
      | nil =>
        simp at hy
        exact ⟨_, hy.symm, gog.pre _ _ (gof.pre _ _ (god.pre _ _ (gob.pre _ _ qa)))⟩
      | cons x2 xs =>
        simp at hy
        obtain ⟨iw, e1, e2⟩ := hx1 x2 (by simp)
        exact ⟨iw, by rw [← hy, e1], gog.pre _ _ (gof.pre _ _ (god.pre _ _ (gob.pre _ _ (goa.pre _ _ e2))))⟩
  · rintro env st' ⟨T', xs, w, c, e, rfl, L, hw, hl, hx1⟩
    rw [rngL_lenth] at L hw hl
    have hj3 : ((1 + r9) + 1) * bc d ≤ 3 * bc d := Nat.mul_le_mul_right _ (by omega)
    have hw3 : (1 + r9) * (1 + wt d) ≤ 2 * (1 + wt d) := Nat.mul_le_mul_right _ (by omega)
    rw [QC_nx]
    simp_arith []
    simp_arith [QI_ap]
    rw [QC_nx]
    simp_arith only []
    refine klst L.gs (by unfold LN; simp) _ ?_
    intro ia Ta sta qa ea _ ga goa
    have La := L.step ga goa
    obtain ⟨f1, f2, f3⟩ := La.fin (by omega) (by omega)
    simp_arith only [i0, i1, ea]
    exact k _ _ _ _ f1 (f2.le (by omega)) f3
theorem chained1 {P : Pg} (H : HasG P) (d : Nat) (IHw : 1 ≤ d → Sp P 18 (8 * d + 3) d (bc d) []) (IHc : 1 ≤ d → ∀ r : Nat, r ≤ 5 → Sp P 19 (8 * d + 2) d (bc d) [.int (r : Nat)]) (NX : Sp P 19 (8 * d + 8) (d + 1) (4 * bc d + 103) [.int (2 : Nat)]) : Sp P 19 (8 * d + 9) (d + 1) (4 * bc d + 104) [.int (1 : Nat)] := by
  intro n hn dk rm T st m g hrm hm Q k
  obtain ⟨n, rfl⟩ : ∃ n', n = n' + 3 := ⟨n - 3, by omega⟩
  have hwt : wt (d + 1) = 4 * wt d + 10 := rfl
  have hd1 : ((d + 1 : Nat) : Int) - 1 = (d : Int) := by omega
  have i0 : ∀ xs : List D, L2.atI xs 0 = xs[0]? := fun xs => atI_nat xs 0
  have i1 : ∀ xs : List D, L2.atI xs 1 = xs[1]? := fun xs => atI_nat xs 1
  have i2 : ∀ xs : List D, L2.atI xs 2 = xs[2]? := fun xs => atI_nat xs 2
  have x0 : L2.ixN 1 0 = some 0 := by decide
  have c0 : ((1 : Nat) : Int) = 1 := rfl
  obtain ⟨z, hz⟩ := g.wt.ok rm _ hrm
  rw [callN, H.h19]
  simp_arith [f19, c0, hz, i0]
  simp_arith [QI_ap]
  rw [QC_nx]
  simp_arith [hz, i0]
  have nx : ∀ (st1 : Sto) (m1 : Nat), m1 ≤ m + 1 → GS dk T st1 m1 → Go T st T st1 → WS (evSs P (callN P (n + 2)) [(.ret (.call 19 [(.var 0), (.var 1), (.var 2), (.bin .Add (.var 3) (.int 1))]))] [some (D.obj dk), some (D.obj rm), some (D.int ((d + 1 : Nat) : Int)), some (D.int 1), none, none, none, none] st1) (QC P (callN P (n + 2)) (f19.body.drop 2) (QR Q)) := by
    intro st1 m1 hm1 g1 go1
    simp_arith only [W_call _ _ H.h19]
    refine NX (n + 2) (by omega) dk rm T st1 m1 g1 hrm (by omega) _ ?_
    intro s i T2 st2 q2 g2 go2
    simp_arith only []
    exact k s i T2 st2 q2 (g2.le (by omega)) (go1.trans go2)
  simp only [f19, List.drop_succ_cons, List.drop_zero] at nx
  refine ⟨fun h => ?_, fun hdeep => ⟨fun h => ?_, fun hroom => ?_⟩⟩
  · rw [QI_ap]
    exact ⟨fun _ => nx st m (by omega) g Go.rfl, fun h => absurd rfl h⟩
  · rw [QI_ap]
    exact ⟨fun _ => nx st m (by omega) g Go.rfl, fun h => absurd rfl h⟩
  have hd : 1 ≤ d := by omega
  simp_arith [W_call _ _ H.h13]
  refine draw_spec H.h13 (n + 1) g 4 (by omega) (by decide) (by decide) _ ?_
  intro r1 st1 hr1 g1 go1
  simp_arith []
  by_cases hgo : (0 : Int) < (r1 : Int)
  · simp_arith [hgo]
    rw [QI_ap]
    exact ⟨fun _ => nx st1 (m + 1) (by omega) g1 go1, fun h => absurd rfl h⟩
  clear nx
  obtain ⟨z1, hz1⟩ := g1.wt.ok rm _ hrm
  simp_arith [hgo, QI_ap]
  rw [QC_nx]
  simp_arith [hz1, i0, x0]
  have g2 := g1.put hrm (.lst [.int (z1 - 1)]) (fun z => by cases z) ⟨_, List.getElem?_set_self (lt_of_get hz1)⟩
  have go2 : Go T st T (st1.set rm (.lst [.int (z1 - 1)])) := go1.putt hrm (fun z => by cases z) _
  generalize hst2 : st1.set rm (.lst [.int (z1 - 1)]) = st2 at g2 go2
  rw [QC_nx]
  simp_arith []
  simp_arith [QI_ap]
  rw [QC_nx]
  simp_arith [W_call _ _ H.h19, hd1]
  refine IHc hd 2 (by decide) (n + 2) (by omega) dk rm T st2 _ g2 hrm (by omega) _ ?_
  intro s3 i3 T3 st3 q3 g3 go3
  have goA := go2.trans go3
  simp_arith []
  rw [KLst_ap]
  refine ⟨by unfold LN; simp, ?_⟩
  have L0 := Loc.new (d := d + 1) g3 goA (goA.len g3) (goA.pre _ _ hrm) (xs := [.tup [.str s3, .obj i3]]) (.cons (.nd q3) .nil)
  simp_arith []
  rw [QC_nx]
  simp_arith []
  simp_arith [QI_ap]
  rw [QC_nx]
  simp_arith []
  refine klst L0.gs (by unfold LN; simp) _ ?_
  intro ia Ta sta qa ea _ ga goa
  have La := L0.step ga goa
  simp_arith [ea, i0, i1, i2, W_call _ _ H.h13]
  refine draw_spec H.h13 (n + 1) ga 2 (by omega) (by decide) (by decide) _ ?_
  intro rb stb hrb gb gob
  have Lb := La.step gb gob
  obtain ⟨sg, hsg, _⟩ := pickS_spec [43, 45] rb hrb
  simp_arith [hsg]
  rw [QC_nx]
  simp_arith [W_call _ _ H.h13]
  refine draw_spec H.h13 (n + 1) gb 2 (by omega) (by decide) (by decide) _ ?_
  intro r9 st9 hr9 g9 go9
  have L9 := Lb.step g9 go9
  have e19 : (1 : Int) + (r9 : Int) = ((1 + r9 : Nat) : Int) := by omega
  have e20 := natAbs_small r9 (by omega)
  simp_arith only [e20, true_or, Int.mul_one, Int.mul_zero, e19]
  refine kfor (rngL 0 (1 + r9)) (fun j env st' => ∃ T' xs w c e, env = [some (D.obj dk), some (D.obj rm), some (D.int ((d + 1 : Nat) : Int)), some (D.int 1), some (D.obj st3.length), some (D.str [c]), e, none] ∧ Loc dk rm st3.length T st T' st' (m + 3 + j + (j + 1) * bc d) (d + 1) xs w ∧ w ≤ wt d + j * (1 + wt d) ∧ xs.length = 1 + 2 * j ∧ (∀ y, xs[1]? = some y → ∃ iw, y = .obj iw ∧ T'[iw]? = some .word)) (by rw [rngL_lenth]; omega)
    (fun _ _ st' _ _ => walked_rng (1 + r9) (by omega) st') ⟨_, _, _, _, _, rfl, L9.le (by omega), by simp, by simp, by simp⟩ ?_ ?_
  · rintro j x env st' hx hj ⟨T', xs, w, c, e, rfl, L, hw, hl, hx1⟩
    rw [rngL_lenth] at hj
    obtain rfl := rngL_at hx
    have hj3 : (j + 1) * bc d ≤ 2 * bc d := Nat.mul_le_mul_right _ (by omega)
    have hS : (j + 1 + 1) * bc d = (j + 1) * bc d + bc d := Nat.succ_mul _ _
    have hS2 : (j + 1) * (1 + wt d) = j * (1 + wt d) + (1 + wt d) := Nat.succ_mul _ _
    refine ⟨_, rfl, ?_⟩
    simp_arith only [L.at_, W_call _ _ H.h16]
    refine key_spec H.h16 (n + 1) L.gs [c] (by simp) (by simp) _ ?_
    intro ia Ta sta qa ga goa _
    have La := L.step ga goa
    simp_arith only [W_call _ _ H.h19, hd1]
    refine IHc hd 2 (by decide) (n + 2) (by omega) dk rm Ta sta _ ga La.rm (by omega) _ ?_
    intro sb ib Tb stb qb gb gob
    have Lb := La.step gb gob
    simp_arith only []
    refine klst Lb.gs (by unfold LN; simp) _ ?_
    intro id Td std qd ed _ gd god
    have Ld := Lb.step gd god
    have hlt : xs.length + 2 ≤ LN := by unfold LN; omega
    simp_arith [Ld.at_, ed, hlt]
    have Le := Ld.push (.cons (.word (god.pre _ _ (gob.pre _ _ qa))) (.cons (.nd (s := sb) (god.pre _ _ qb)) .nil))
    rw [QC_nx]
    simp_arith []
    refine klst Le.gs (by unfold LN; simp) _ ?_
    intro if_ Tf stf qf ef _ gf gof
    have Lf := Le.step gf gof
    simp_arith [ef, i0, i1, i2, W_call _ _ H.h13]
    refine draw_spec H.h13 (n + 1) gf 2 (by omega) (by decide) (by decide) _ ?_
    intro rg stg hrg gg gog
    have Lg := Lf.step gg gog
    obtain ⟨sg, hsg, _⟩ := pickS_spec [43, 45] rg hrg
    simp_arith only [hsg]
    refine ⟨_, _, _, _, _, rfl, Lg.le (by omega), by omega, by simp; omega, ?_⟩
    intro y hy
    cases xs with
    | nil =>
      rw [List.length_nil] at hl
      omega
    | cons x1 xs =>
      cases xs with
      | nil =>
        simp at hy
        exact ⟨_, hy.symm, gog.pre _ _ (gof.pre _ _ (god.pre _ _ (gob.pre _ _ qa)))⟩
      | cons x2 xs =>
        simp at hy
        obtain ⟨iw, e1, e2⟩ := hx1 x2 (by simp)
        exact ⟨iw, by rw [← hy, e1], gog.pre _ _ (gof.pre _ _ (god.pre _ _ (gob.pre _ _ (goa.pre _ _ e2))))⟩
  · rintro env st' ⟨T', xs, w, c, e, rfl, L, hw, hl, hx1⟩
    rw [rngL_lenth] at L hw hl
    have hj3 : ((1 + r9) + 1) * bc d ≤ 3 * bc d := Nat.mul_le_mul_right _ (by omega)
    have hw3 : (1 + r9) * (1 + wt d) ≤ 2 * (1 + wt d) := Nat.mul_le_mul_right _ (by omega)
    rw [QC_nx]
    simp_arith []
    simp_arith [QI_ap]
    rw [QC_nx]
    simp_arith only []
    refine klst L.gs (by unfold LN; simp) _ ?_
    intro ia Ta sta qa ea _ ga goa
    have La := L.step ga goa
    obtain ⟨f1, f2, f3⟩ := La.fin (by omega) (by omega)
    simp_arith only [i0, i1, ea]
    exact k _ _ _ _ f1 (f2.le (by omega)) f3
theorem chained0 {P : Pg} (H : HasG P) (d : Nat) (IHw : 1 ≤ d → Sp P 18 (8 * d + 3) d (bc d) []) (IHc : 1 ≤ d → ∀ r : Nat, r ≤ 5 → Sp P 19 (8 * d + 2) d (bc d) [.int (r : Nat)]) (NX : Sp P 19 (8 * d + 9) (d + 1) (4 * bc d + 104) [.int (1 : Nat)]) : Sp P 19 (8 * d + 10) (d + 1) (4 * bc d + 105) [.int (0 : Nat)] := by
  intro n hn dk rm T st m g hrm hm Q k
  obtain ⟨n, rfl⟩ : ∃ n', n = n' + 3 := ⟨n - 3, by omega⟩
  have hwt : wt (d + 1) = 4 * wt d + 10 := rfl
  have hd1 : ((d + 1 : Nat) : Int) - 1 = (d : Int) := by omega
  have i0 : ∀ xs : List D, L2.atI xs 0 = xs[0]? := fun xs => atI_nat xs 0
  have i1 : ∀ xs : List D, L2.atI xs 1 = xs[1]? := fun xs => atI_nat xs 1
  have i2 : ∀ xs : List D, L2.atI xs 2 = xs[2]? := fun xs => atI_nat xs 2
  have x0 : L2.ixN 1 0 = some 0 := by decide
  have c0 : ((0 : Nat) : Int) = 0 := rfl
  obtain ⟨z, hz⟩ := g.wt.ok rm _ hrm
  rw [callN, H.h19]
  simp_arith [f19, c0, hz, i0]
  simp_arith [QI_ap]
  rw [QC_nx]
  simp_arith [hz, i0]
  have nx : ∀ (st1 : Sto) (m1 : Nat), m1 ≤ m + 1 → GS dk T st1 m1 → Go T st T st1 → WS (evSs P (callN P (n + 2)) [(.ret (.call 19 [(.var 0), (.var 1), (.var 2), (.bin .Add (.var 3) (.int 1))]))] [some (D.obj dk), some (D.obj rm), some (D.int ((d + 1 : Nat) : Int)), some (D.int 0), none, none, none, none] st1) (QC P (callN P (n + 2)) (f19.body.drop 2) (QR Q)) := by
    intro st1 m1 hm1 g1 go1
    simp_arith only [W_call _ _ H.h19]
    refine NX (n + 2) (by omega) dk rm T st1 m1 g1 hrm (by omega) _ ?_
    intro s i T2 st2 q2 g2 go2
    simp_arith only []
    exact k s i T2 st2 q2 (g2.le (by omega)) (go1.trans go2)
  simp only [f19, List.drop_succ_cons, List.drop_zero] at nx
  refine ⟨fun h => ?_, fun hdeep => ⟨fun h => ?_, fun hroom => ?_⟩⟩
  · rw [QI_ap]
    exact ⟨fun _ => nx st m (by omega) g Go.rfl, fun h => absurd rfl h⟩
  · rw [QI_ap]
    exact ⟨fun _ => nx st m (by omega) g Go.rfl, fun h => absurd rfl h⟩
  have hd : 1 ≤ d := by omega
  simp_arith [W_call _ _ H.h13]
  refine draw_spec H.h13 (n + 1) g 4 (by omega) (by decide) (by decide) _ ?_
  intro r1 st1 hr1 g1 go1
  simp_arith []
  by_cases hgo : (0 : Int) < (r1 : Int)
  · simp_arith [hgo]
    rw [QI_ap]
    exact ⟨fun _ => nx st1 (m + 1) (by omega) g1 go1, fun h => absurd rfl h⟩
  clear nx
  obtain ⟨z1, hz1⟩ := g1.wt.ok rm _ hrm
  simp_arith [hgo, QI_ap]
  rw [QC_nx]
  simp_arith [hz1, i0, x0]
  have g2 := g1.put hrm (.lst [.int (z1 - 1)]) (fun z => by cases z) ⟨_, List.getElem?_set_self (lt_of_get hz1)⟩
  have go2 : Go T st T (st1.set rm (.lst [.int (z1 - 1)])) := go1.putt hrm (fun z => by cases z) _
  generalize hst2 : st1.set rm (.lst [.int (z1 - 1)]) = st2 at g2 go2
  rw [QC_nx]
  simp_arith []
  simp_arith [QI_ap]
  rw [QC_nx]
  simp_arith [W_call _ _ H.h19, hd1]
  refine IHc hd 1 (by decide) (n + 2) (by omega) dk rm T st2 _ g2 hrm (by omega) _ ?_
  intro s3 i3 T3 st3 q3 g3 go3
  have goA := go2.trans go3
  simp_arith []
  rw [KLst_ap]
  refine ⟨by unfold LN; simp, ?_⟩
  have L0 := Loc.new (d := d + 1) g3 goA (goA.len g3) (goA.pre _ _ hrm) (xs := [.tup [.str s3, .obj i3]]) (.cons (.nd q3) .nil)
  simp_arith []
  rw [QC_nx]
  simp_arith []
  simp_arith [QI_ap]
  rw [QC_nx]
  simp_arith []
  refine klst L0.gs (by unfold LN; simp) _ ?_
  intro ia Ta sta qa ea _ ga goa
  have La := L0.step ga goa
  simp_arith [ea, i0, i1, i2, W_call _ _ H.h13]
  refine draw_spec H.h13 (n + 1) ga 2 (by omega) (by decide) (by decide) _ ?_
  intro rb stb hrb gb gob
  have Lb := La.step gb gob
  obtain ⟨sg, hsg, _⟩ := pickS_spec [60, 61] rb hrb
  simp_arith [hsg]
  rw [QC_nx]
  simp_arith [W_call _ _ H.h13]
  refine draw_spec H.h13 (n + 1) gb 2 (by omega) (by decide) (by decide) _ ?_
  intro r9 st9 hr9 g9 go9
  have L9 := Lb.step g9 go9
  have e19 : (1 : Int) + (r9 : Int) = ((1 + r9 : Nat) : Int) := by omega
  have e20 := natAbs_small r9 (by omega)
  simp_arith only [e20, true_or, Int.mul_one, Int.mul_zero, e19]
  refine kfor (rngL 0 1) (fun j env st' => ∃ T' xs w c e, env = [some (D.obj dk), some (D.obj rm), some (D.int ((d + 1 : Nat) : Int)), some (D.int 0), some (D.obj st3.length), some (D.str [c]), e, none] ∧ Loc dk rm st3.length T st T' st' (m + 3 + j + (j + 1) * bc d) (d + 1) xs w ∧ w ≤ wt d + j * (1 + wt d) ∧ xs.length = 1 + 2 * j ∧ (∀ y, xs[1]? = some y → ∃ iw, y = .obj iw ∧ T'[iw]? = some .word)) (by rw [rngL_lenth]; omega)
    (fun _ _ st' _ _ => walked_rng 1 (by omega) st') ⟨_, _, _, _, _, rfl, L9.le (by omega), by simp, by simp, by simp⟩ ?_ ?_
  · rintro j x env st' hx hj ⟨T', xs, w, c, e, rfl, L, hw, hl, hx1⟩
    rw [rngL_lenth] at hj
    obtain rfl := rngL_at hx
    have hj3 : (j + 1) * bc d ≤ 2 * bc d := Nat.mul_le_mul_right _ (by omega)
    have hS : (j + 1 + 1) * bc d = (j + 1) * bc d + bc d := Nat.succ_mul _ _
    have hS2 : (j + 1) * (1 + wt d) = j * (1 + wt d) + (1 + wt d) := Nat.succ_mul _ _
    refine ⟨_, rfl, ?_⟩
    simp_arith only [L.at_, W_call _ _ H.h16]
    refine key_spec H.h16 (n + 1) L.gs [c] (by simp) (by simp) _ ?_
    intro ia Ta sta qa ga goa _
    have La := L.step ga goa
    simp_arith only [W_call _ _ H.h19, hd1]
    refine IHc hd 1 (by decide) (n + 2) (by omega) dk rm Ta sta _ ga La.rm (by omega) _ ?_
    intro sb ib Tb stb qb gb gob
    have Lb := La.step gb gob
    simp_arith only []
    refine klst Lb.gs (by unfold LN; simp) _ ?_
    intro id Td std qd ed _ gd god
    have Ld := Lb.step gd god
    have hlt : xs.length + 2 ≤ LN := by unfold LN; omega
    simp_arith [Ld.at_, ed, hlt]
    have Le := Ld.push (.cons (.word (god.pre _ _ (gob.pre _ _ qa))) (.cons (.nd (s := sb) (god.pre _ _ qb)) .nil))
    rw [QC_nx]
    simp_arith []
    refine klst Le.gs (by unfold LN; simp) _ ?_
    intro if_ Tf stf qf ef _ gf gof
    have Lf := Le.step gf gof
    simp_arith [ef, i0, i1, i2, W_call _ _ H.h13]
    refine draw_spec H.h13 (n + 1) gf 2 (by omega) (by decide) (by decide) _ ?_
    intro rg stg hrg gg gog
    have Lg := Lf.step gg gog
    obtain ⟨sg, hsg, _⟩ := pickS_spec [60, 61] rg hrg
    simp_arith only [hsg]
    refine ⟨_, _, _, _, _, rfl, Lg.le (by omega), by omega, by simp; omega, ?_⟩
    intro y hy
    cases xs with
    | nil =>
      rw [List.length_nil] at hl
      omega
    | cons x1 xs =>
      cases xs with
      | nil =>
        simp at hy
        exact ⟨_, hy.symm, gog.pre _ _ (gof.pre _ _ (god.pre _ _ (gob.pre _ _ qa)))⟩
      | cons x2 xs =>
        simp at hy
        obtain ⟨iw, e1, e2⟩ := hx1 x2 (by simp)
        exact ⟨iw, by rw [← hy, e1], gog.pre _ _ (gof.pre _ _ (god.pre _ _ (gob.pre _ _ (goa.pre _ _ e2))))⟩
  · rintro env st' ⟨T', xs, w, c, e, rfl, L, hw, hl, hx1⟩
    rw [rngL_lenth] at L hw hl
    have hj3 : (1 + 1) * bc d ≤ 3 * bc d := Nat.mul_le_mul_right _ (by omega)
    have hw3 : 1 * (1 + wt d) ≤ 2 * (1 + wt d) := Nat.mul_le_mul_right _ (by omega)
    rw [QC_nx]
    simp_arith []
    simp_arith [QI_ap]
    obtain ⟨a1, a2⟩ : ∃ iw, xs[1]? = some (.obj iw) ∧ T'[iw]? = some .word := by
      have e : xs[1]? = some (xs[1]'(by omega)) := List.getElem?_eq_getElem (by omega)
      obtain ⟨iw, e2, e3⟩ := hx1 _ e
      exact ⟨iw, by rw [e, e2], e3⟩
    obtain ⟨a2, a3⟩ := a2
    refine klst L.gs (by unfold LN; simp) _ ?_
    intro ia Ta sta qa ea _ ga goa
    have La := L.step ga goa
    obtain ⟨wa, wb, wc, hwd, _⟩ := ga.wt.ok a1 _ (goa.pre _ _ a3)
    obtain ⟨f1, f2, f3⟩ := La.fin (by omega) (by omega)
    by_cases hsame : wc = [61]
    · simp_arith only [La.at_, i1, i2, a2, hwd, hsame, ea]
      exact k _ _ _ _ f1 (f2.le (by omega)) f3
    · simp_arith only [La.at_, i0, i1, i2, a2, hwd, hsame, ea]
      exact k _ _ _ _ f1 (f2.le (by omega)) f3
theorem chained5 {P : Pg} (H : HasG P) (d : Nat) (PL : Sp P 20 (8 * d + 4) (d + 1) (4 * bc d + 100) []) : Sp P 19 (8 * d + 5) (d + 1) (4 * bc d + 100) [.int (5 : Nat)] := by
  intro n hn dk rm T st m g hrm hm Q k
  obtain ⟨n, rfl⟩ : ∃ n', n = n' + 1 := ⟨n - 1, by omega⟩
  have c0 : ((5 : Nat) : Int) = 5 := rfl
  rw [callN, H.h19]
  simp_arith [f19, c0]
  simp_arith [QI_ap, W_call _ _ H.h20]
  refine PL n (by omega) dk rm T st m g hrm hm _ ?_
  intro s i T2 st2 q2 g2 go2
  simp_arith only []
  exact k s i T2 st2 q2 g2 go2
end Mini

set_option Elab.async false
set_option linter.all false
set_option maxRecDepth 100000
set_option maxHeartbeats 4000000
namespace Mini
theorem let_spec {P : Pg} (H : HasG P) (d : Nat) (hd : 1 ≤ d) (IHw : Sp P 18 (8 * d + 3) d (bc d) []) : Sp P 17 (8 * d + 4) (d + 1) (4 * bc d + 90) [] := by
  intro n hn dk rm T st m g hrm hm Q k
  obtain ⟨n, rfl⟩ : ∃ n', n = n' + 3 := ⟨n - 3, by omega⟩
  have hwt : wt (d + 1) = 4 * wt d + 10 := rfl
  have hd1 : ((d + 1 : Nat) : Int) - 1 = (d : Int) := by omega
  have i0 : ∀ xs : List D, L2.atI xs 0 = xs[0]? := fun xs => atI_nat xs 0
  have i1 : ∀ xs : List D, L2.atI xs 1 = xs[1]? := fun xs => atI_nat xs 1
  rw [callN, H.h17]
  simp_arith [f17]
  rw [KLst_ap]
  refine ⟨by unfold LN; simp, ?_⟩
  have L0 := Loc.new (d := d + 1) g Go.rfl (Go.rfl.len g) hrm (xs := []) .nil
  simp_arith []
  rw [QC_nx]
  simp_arith [W_call _ _ H.h13]
  refine draw_spec H.h13 (n + 1) L0.gs 3 (by omega) (by decide) (by decide) _ ?_
  intro r9 st9 hr9 g9 go9
  have L9 := L0.step g9 go9
  have e19 : (1 : Int) + (r9 : Int) = ((1 + r9 : Nat) : Int) := by omega
  simp_arith only [e19]
  refine kfor (rngL 0 (1 + r9)) (fun j env st' => ∃ T' xs w e, env = [some (D.obj dk), some (D.obj rm), some (D.int ((d + 1 : Nat) : Int)), some (D.obj st.length), e] ∧ Loc dk rm st.length T st T' st' (m + 1 + j * (bc d + 20)) (d + 1) xs w ∧ w ≤ j * (3 + wt d) ∧ xs.length ≤ 4 * j) (by rw [rngL_lenth]; omega)
    (fun _ _ st' _ _ => walked_rng _ (by omega) st') ⟨_, _, _, _, rfl, L9.le (by omega), by simp, by simp⟩ ?_ ?_
  · rintro j x env st' hx hj ⟨T', xs, w, e, rfl, L, hw, hl⟩
    rw [rngL_lenth] at hj
    obtain rfl := rngL_at hx
    have hj3 : j * (bc d + 20) ≤ 2 * (bc d + 20) := Nat.mul_le_mul_right _ (by omega)
    have hS : (j + 1) * (bc d + 20) = j * (bc d + 20) + (bc d + 20) := Nat.succ_mul _ _
    have hS2 : (j + 1) * (3 + wt d) = j * (3 + wt d) + (3 + wt d) := Nat.succ_mul _ _
    refine ⟨_, rfl, ?_⟩
    simp_arith only [L.at_, W_call _ _ H.h16]
    refine klst L.gs (by unfold LN; simp) _ ?_
    intro iz Tz stz qz ez _ gz goz
    have Lz := L.step gz goz
    obtain ⟨x, hx, s, rfl, hs1, hs2⟩ : ∃ x, L2.atI [D.str [44], D.str [108, 101, 116]] (if (j : Int) = 0 then 1 else 0) = some x ∧ ∃ s, x = D.str s ∧ s ≠ [] ∧ s.length ≤ 42 := by
      by_cases hj0 : (j : Int) = 0
      · rw [if_pos hj0, i1]
        exact ⟨_, rfl, _, rfl, by simp, by simp⟩
      · rw [if_neg hj0, i0]
        exact ⟨_, rfl, _, rfl, by simp, by simp⟩
    simp_arith only [ez, hx]
    refine key_spec H.h16 (n + 1) gz s hs1 hs2 _ ?_
    intro ia Ta sta qa ga goa _
    have La := Lz.step ga goa
    simp_arith only [W_call _ _ H.h14]
    refine name_spec H n ga (by omega) _ ?_
    intro sb Tb stb hsb1 hsb2 gb gob
    have Lb := La.step gb gob
    simp_arith only []
    refine klst_word gb hsb1 (by omega) _ ?_
    intro ic Tc stc qc gc goc _
    have Lc := Lb.step gc goc
    simp_arith only [W_call _ _ H.h16]
    refine key_spec H.h16 (n + 1) gc [105, 115] (by simp) (by simp) _ ?_
    intro id Td std qd gd god _
    have Ld := Lc.step gd god
    simp_arith only []
    refine klst Ld.gs (by unfold LN; simp) _ ?_
    intro ie Te ste qe ee _ ge goe
    have Le := Ld.step ge goe
    have hlt : xs.length + 3 ≤ LN := by unfold LN; omega
    simp_arith [Le.at_, ee, hlt]
    have Lf := Le.push (.cons (.word (goe.pre _ _ (god.pre _ _ (goc.pre _ _ (gob.pre _ _ qa))))) (.cons (.word (goe.pre _ _ (god.pre _ _ qc))) (.cons (.word (goe.pre _ _ qd)) .nil)))
    rw [QC_nx]
    simp_arith [Lf.at_, W_call _ _ H.h18, hd1]
    refine IHw (n + 2) (by omega) dk rm _ _ _ Lf.gs Lf.rm (by omega) _ ?_
    intro sg ig Tg stg qg gg gog
    have Lg := Lf.step gg gog
    have hlt2 : (xs ++ [D.obj ia, D.obj ic, D.obj id]).length < LN := by unfold LN; simp; omega
    simp_arith only [Lg.at_, hlt2]
    refine ⟨_, _, _, _, rfl, (Lg.push (.cons (.nd qg) .nil)).le (by omega), by omega, by simp; omega⟩
  · rintro env st' ⟨T', xs, w, e, rfl, L, hw, hl⟩
    rw [rngL_lenth] at L hw hl
    have hj3 : (1 + r9) * (bc d + 20) ≤ 3 * (bc d + 20) := Nat.mul_le_mul_right _ (by omega)
    have hw3 : (1 + r9) * (3 + wt d) ≤ 3 * (3 + wt d) := Nat.mul_le_mul_right _ (by omega)
    simp_arith only [W_call _ _ H.h16]
    refine key_spec H.h16 (n + 1) L.gs [105, 110] (by simp) (by simp) _ ?_
    intro ia Ta sta qa ga goa _
    have La := L.step ga goa
    simp_arith only [W_call _ _ H.h18, hd1]
    refine IHw (n + 2) (by omega) dk rm _ _ _ La.gs La.rm (by omega) _ ?_
    intro sg ig Tg stg qg gg gog
    have Lg := La.step gg gog
    simp_arith only []
    refine klst Lg.gs (by unfold LN; simp) _ ?_
    intro ie Te ste qe ee _ ge goe
    have Le := Lg.step ge goe
    have hlt : xs.length + 2 ≤ LN := by unfold LN; omega
    simp_arith only [Le.at_, ee, hlt]
    refine wnew_prt Le.gs (d + 1) _ (Le.pv.app (.cons (.word (goe.pre _ _ (gog.pre _ _ qa))) (.cons (.nd (s := sg) (goe.pre _ _ qg)) .nil))) (by omega) (by simp; omega) _ ?_
    intro if_ Tf stf qf gf gof
    simp_arith only []
    exact k _ _ _ _ qf (gf.le (by omega)) (Le.go.trans gof)
/-- if and for -/
theorem whole_spec {P : Pg} (H : HasG P) (d : Nat) (IHw : 1 ≤ d → Sp P 18 (8 * d + 3) d (bc d) []) (CH : Sp P 19 (8 * d + 10) (d + 1) (4 * bc d + 105) [.int (0 : Nat)]) : Sp P 18 (8 * (d + 1) + 3) (d + 1) (bc (d + 1)) [] := by
  intro n hn dk rm T st m g hrm hm Q k
  obtain ⟨n, rfl⟩ : ∃ n', n = n' + 3 := ⟨n - 3, by omega⟩
  have hbc : bc (d + 1) = 4 * bc d + 110 := rfl
  rw [hbc] at hm
  have hwt : wt (d + 1) = 4 * wt d + 10 := rfl
  have hd1 : ((d + 1 : Nat) : Int) - 1 = (d : Int) := by omega
  have i0 : ∀ xs : List D, L2.atI xs 0 = xs[0]? := fun xs => atI_nat xs 0
  have i1 : ∀ xs : List D, L2.atI xs 1 = xs[1]? := fun xs => atI_nat xs 1
  have x0 : L2.ixN 1 0 = some 0 := by decide
  obtain ⟨z, hz⟩ := g.wt.ok rm _ hrm
  rw [callN, H.h18]
  simp_arith [f18, hz, i0, x0]
  have g2 := g.put hrm (.lst [.int (z - 1)]) (fun z => by cases z) ⟨_, List.getElem?_set_self (lt_of_get hz)⟩
  have go2 : Go T st T (st.set rm (.lst [.int (z - 1)])) := Go.rfl.putt hrm (fun z => z) _
  generalize hst2 : st.set rm (.lst [.int (z - 1)]) = st2 at g2 go2
  rw [QC_nx]
  simp_arith [W_call _ _ H.h13]
  refine draw_spec H.h13 (n + 1) g2 9 (by omega) (by decide) (by decide) _ ?_
  intro r st3 hr g3 go3
  have goA := go2.trans go3
  obtain ⟨z3, hz3⟩ := g3.wt.ok rm _ hrm
  simp_arith []
  rw [QC_nx]
  simp_arith [hz3, i0]
  have ch : ∀ R : List CS, WS (evSs P (callN P (n + 2)) [(.ret (.call 19 [(.var 0), (.var 1), (.var 2), (.int 0)]))] [some (D.obj dk), some (D.obj rm), some (D.int ((d + 1 : Nat) : Int)), some (D.int (r : Int)), none, none, none] st3) (QC P (callN P (n + 2)) R (QR Q)) := by
    intro R
    simp_arith only [W_call _ _ H.h19]
    refine CH (n + 2) (by omega) dk rm T st3 _ g3 hrm (by omega) _ ?_
    intro s i T4 st4 q4 g4 go4
    simp_arith only []
    exact k s i T4 st4 q4 (g4.le (by omega)) (goA.trans go4)
  refine ⟨fun h => ?_, fun hdeep => ⟨fun h => ?_, fun hroom => ?_⟩⟩
  · rw [QI_ap]
    exact ⟨fun _ => ch _, fun h => absurd rfl h⟩
  · rw [QI_ap]
    exact ⟨fun _ => ch _, fun h => absurd rfl h⟩
  by_cases hp : (3 : Int) < (r : Int)
  · simp_arith [hp]
    rw [QI_ap]
    exact ⟨fun _ => ch _, fun h => absurd rfl h⟩
  clear ch
  have hd : 1 ≤ d := by omega
  have IH := IHw hd
  simp_arith [hp, QI_ap]
  rw [QC_nx]
  simp_arith []
  by_cases h0 : (r : Int) = 0
  · simp_arith [h0, QI_ap, W_call _ _ H.h17]
    refine let_spec H d hd IH (n + 2) (by omega) dk rm T st3 _ g3 hrm (by omega) _ ?_
    intro s i T4 st4 q4 g4 go4
    simp_arith only []
    exact k s i T4 st4 q4 (g4.le (by omega)) (goA.trans go4)
  simp_arith [h0, QI_ap]
  rw [QC_nx]
  simp_arith []
  refine klst g3 (by unfold LN; simp) _ ?_
  intro ia Ta sta qa ea _ ga goa
  simp_arith []
  refine klst ga (by unfold LN; simp) _ ?_
  intro ib Tb stb qb eb _ gb gob
  simp_arith []
  refine klst gb (by unfold LN; simp) _ ?_
  intro ic Tc stc qc ec _ gc goc
  have ea' := goc.fr _ (gob.pre _ _ qa)
  rw [gob.fr _ qa, ea] at ea'
  have eb' := goc.fr _ qb
  rw [eb] at eb'
  have go1 := goA.trans (goa.trans (gob.trans goc))
  obtain ⟨is_, ss, hx, his, hraw, hss, hlen⟩ : ∃ (is_ : Nat) (ss : List S), L2.atI [D.obj ia, D.obj ib] ((r : Int) % 2) = some (.obj is_) ∧ stc[is_]? = some (.lst (ss.map .str)) ∧ Tc[is_]? = some .raw ∧ (∀ s ∈ ss, s ≠ [] ∧ s.length ≤ 42) ∧ ss.length = 3 := by
    have : (r : Int) % 2 = 0 ∨ (r : Int) % 2 = 1 := by omega
    rcases this with h | h
    · rw [h, i0]
      exact ⟨ia, [[105, 102], [116, 104, 101, 110], [101, 108, 115, 101]], rfl, ea', goc.pre _ _ (gob.pre _ _ qa), by simp, rfl⟩
    · rw [h, i1]
      exact ⟨ib, [[102, 111, 114], [98, 101, 108, 111, 119], [103, 105, 118, 101]], rfl, eb', goc.pre _ _ qb, by simp, rfl⟩
  have q2 : (0 : Int) < 2 := by decide
  simp_arith [ec, hx, q2]
  rw [QC_nx]
  simp_arith []
  rw [KLst_ap]
  refine ⟨by unfold LN; simp, ?_⟩
  have L0 := Loc.new (d := d + 1) gc go1 (go1.len gc) (go1.pre _ _ hrm) (xs := []) .nil
  have hraw0 : (Tc ++ [Ty.raw])[is_]? = some .raw := get_app hraw
  have his0 : (stc ++ [O.lst []])[is_]? = some (.lst (ss.map .str)) := get_app his
  have hne0 : is_ ≠ stc.length := by
    have := lt_of_get his
    omega
  simp_arith []
  rw [QC_nx]
  simp_arith []
  refine kfor (ss.map .str) (fun j env st' => ∃ T' xs w e, env = [some (D.obj dk), some (D.obj rm), some (D.int ((d + 1 : Nat) : Int)), some (D.int (r : Int)), some (D.obj is_), some (D.obj stc.length), e] ∧ Loc dk rm stc.length T st T' st' (m + 2 + j * (bc d + 20)) (d + 1) xs w ∧ w ≤ j * (2 + wt d) ∧ xs.length = 2 * j ∧ T'[is_]? = some .raw ∧ st'[is_]? = some (.lst (ss.map .str))) (by rw [List.length_map]; omega) ?_ ⟨_, _, _, _, rfl, L0.le (by omega), by simp, by simp, hraw0, his0⟩ ?_ ?_
  · rintro i env st' hi ⟨T', xs, w, e, rfl, L, hw, hl, hr1, hr2⟩
    show items st' (.obj is_) = _
    exact isSome_at hr2
  · rintro j x env st' hx hj ⟨T', xs, w, e, rfl, L, hw, hl, hr1, hr2⟩
    rw [List.length_map] at hj
    obtain ⟨s, rfl, hs1, hs2⟩ : ∃ s, x = .str s ∧ s ≠ [] ∧ s.length ≤ 42 := by
      rw [List.getElem?_map, List.getElem?_eq_getElem hj] at hx
      simp at hx
      have := hss _ (List.getElem_mem hj)
      exact ⟨_, hx.symm, this⟩
    have hj3 : j * (bc d + 20) ≤ 2 * (bc d + 20) := Nat.mul_le_mul_right _ (by omega)
    have hS : (j + 1) * (bc d + 20) = j * (bc d + 20) + (bc d + 20) := Nat.succ_mul _ _
    have hS2 : (j + 1) * (2 + wt d) = j * (2 + wt d) + (2 + wt d) := Nat.succ_mul _ _
    refine ⟨_, rfl, ?_⟩
    simp_arith [L.at_, W_call _ _ H.h16]
    refine key_spec H.h16 (n + 1) L.gs s hs1 hs2 _ ?_
    intro i2 T2 st2 q2 g2 go2 _
    have L2 := L.step g2 go2
    have hlt : xs.length < LN := by unfold LN; omega
    simp_arith [L2.at_, hlt]
    have L3 := L2.push (.cons (.word q2) .nil)
    have hlt3 : (xs ++ [D.obj i2]).length < LN := by unfold LN; simp; omega
    have hr3 : (st2.set stc.length (O.lst (xs ++ [D.obj i2])))[is_]? = some (.lst (ss.map .str)) := by
      rw [List.getElem?_set_ne (Ne.symm hne0), go2.fr _ hr1]
      exact hr2
    rw [QC_nx]
    simp_arith []
    by_cases hf : s = [102, 111, 114]
    · simp_arith [hf, QI_ap, L3.at_, W_call _ _ H.h14]
      refine name_spec H n L3.gs (by omega) _ ?_
      intro sb Tb stb hsb1 hsb2 gb gob
      have Lb := L3.step gb gob
      simp_arith only []
      refine klst_word gb hsb1 (by omega) _ ?_
      intro ic Tc stc2 qc gc goc _
      have Lc := Lb.step gc goc
      simp_arith only [Lc.at_, hlt3]
      refine ⟨_, _, _, _, rfl, (Lc.push (.cons (.word qc) .nil)).le (by omega), by omega, by simp; omega, goc.pre _ _ (gob.pre _ _ (go2.pre _ _ hr1)), ?_⟩
      rw [List.getElem?_set_ne (Ne.symm hne0), goc.fr _ (gob.pre _ _ (go2.pre _ _ hr1)), gob.fr _ (go2.pre _ _ hr1)]
      exact hr3
    · simp_arith [hf, QI_ap, L3.at_, W_call _ _ H.h18, hd1]
      refine IH (n + 2) (by omega) dk rm _ _ _ L3.gs L3.rm (by omega) _ ?_
      intro sb ib Tb stb qb gb gob
      have Lb := L3.step gb gob
      simp_arith only [Lb.at_, hlt3]
      refine ⟨_, _, _, _, rfl, (Lb.push (.cons (.nd qb) .nil)).le (by omega), by omega, by simp; omega, gob.pre _ _ (go2.pre _ _ hr1), ?_⟩
      rw [List.getElem?_set_ne (Ne.symm hne0), gob.fr _ (go2.pre _ _ hr1)]
      exact hr3
  · rintro env st' ⟨T', xs, w, e, rfl, L, hw, hl, hr1, hr2⟩
    rw [List.length_map, hlen] at L hw hl
    obtain ⟨f1, f2, f3⟩ := L.fin (by omega) (by omega)
    have e0 : L2.atI (ss.map D.str) 0 = some (.str (ss[0]'(by omega))) := by
      rw [i0, List.getElem?_map, List.getElem?_eq_getElem (by omega)]
      rfl
    simp_arith only [hr2, e0]
    exact k _ _ _ _ f1 (f2.le (by omega)) f3
theorem Sp.le {P : Pg} {g L d c L' c' : Nat} {more : List D} (h : Sp P g L d c more) (hL : L ≤ L') (hc : c ≤ c') : Sp P g L' d c' more := by
  intro n hn dk rm T st m gs hrm hm Q k
  exact h n (by omega) dk rm T st m gs hrm (by omega) Q (fun s i T' st' q g' go => k s i T' st' q (g'.le (by omega)) go)
theorem parts_step {P : Pg} (H : HasG P) (d : Nat) (w : 1 ≤ d → Sp P 18 (8 * d + 3) d (bc d) []) (c : 1 ≤ d → ∀ r : Nat, r ≤ 5 → Sp P 19 (8 * d + 2) d (bc d) [.int (r : Nat)]) :
    Sp P 18 (8 * (d + 1) + 3) (d + 1) (bc (d + 1)) [] ∧ ∀ r : Nat, r ≤ 5 → Sp P 19 (8 * (d + 1) + 2) (d + 1) (bc (d + 1)) [.int (r : Nat)] := by
  have hbc : bc (d + 1) = 4 * bc d + 110 := rfl
  have PL := plain_sp H d w
  have c5 := chained5 H d PL
  have c4 := chained4 H d w c c5
  have c3 := chained3 H d w c c4
  have c2 := chained2 H d w c c3
  have c1 := chained1 H d w c c2
  have c0 := chained0 H d w c c1
  refine ⟨whole_spec H d w c0, fun r hr => ?_⟩
  have : r = 0 ∨ r = 1 ∨ r = 2 ∨ r = 3 ∨ r = 4 ∨ r = 5 := by omega
  rcases this with rfl | rfl | rfl | rfl | rfl | rfl
  · exact c0.le (by omega) (by omega)
  · exact c1.le (by omega) (by omega)
  · exact c2.le (by omega) (by omega)
  · exact c3.le (by omega) (by omega)
  · exact c4.le (by omega) (by omega)
  · exact c5.le (by omega) (by omega)
theorem parts {P : Pg} (H : HasG P) : ∀ d : Nat, Sp P 18 (8 * (d + 1) + 3) (d + 1) (bc (d + 1)) [] ∧ ∀ r : Nat, r ≤ 5 → Sp P 19 (8 * (d + 1) + 2) (d + 1) (bc (d + 1)) [.int (r : Nat)] := by
  intro d
  induction d with
  | zero => exact parts_step H 0 (fun h => absurd h (by omega)) (fun h => absurd h (by omega))
  | succ d ih => exact parts_step H (d + 1) (fun _ => ih.1) (fun _ => ih.2)
end Mini

set_option Elab.async false
set_option linter.all false
set_option maxRecDepth 100000
set_option maxHeartbeats 4000000
namespace Mini
theorem listed_spec {P : Pg} (H : HasG P) (n : Nat) {dk rm i : Nat} {T0 : Tys} {st0 : Sto} {T : Tys} {st : Sto} {m d : Nat} {xs : List D} {w : Nat} (L : Loc dk rm i T0 st0 T st m d xs w) (many : Nat) (hmany : many ≤ 3) (hm : m + 100 ≤ 100000000) (hx : xs.length ≤ 100) (Q : D → Sto → Prop)
    (k : ∀ (T' : Tys) (st' : Sto) (xs' : List D) (w' : Nat), Loc dk rm i T0 st0 T' st' (m + 60) d xs' w' → w' ≤ w + 6 → xs'.length ≤ xs.length + 6 → Q .non st') :
    W (callN P (n + 3) 21 [.obj dk, .obj i, .int (many : Nat)] st) Q := by
  rw [callN, H.h21]
  simp_arith [f21]
  refine kfor (rngL 0 many) (fun j env st' => ∃ T' xs' w' e, env = [some (D.obj dk), some (D.obj i), some (D.int (many : Int)), e] ∧ Loc dk rm i T0 st0 T' st' (m + 20 * j) d xs' w' ∧ w' ≤ w + 2 * j ∧ xs'.length ≤ xs.length + 2 * j) (by rw [rngL_lenth]; omega)
    (fun _ _ st' _ _ => walked_rng many (by omega) st') ⟨_, _, _, _, rfl, L.le (by omega), by simp, by simp⟩ ?_ ?_
  · rintro j x env st' hx hj ⟨T', xs', w', e, rfl, L, hw, hl⟩
    rw [rngL_lenth] at hj
    obtain rfl := rngL_at hx
    refine ⟨_, rfl, ?_⟩
    have tail : ∀ (T2 : Tys) (st2 : Sto) (xs2 : List D) (w2 : Nat), Loc dk rm i T0 st0 T2 st2 (m + 20 * j) d xs2 w2 → w2 ≤ w' + 1 → xs2.length ≤ xs'.length + 1 →
        WS (evSs P (callN P (n + 2)) [(.expr (.mth .append (.var 1) [(.lst [(.str [110, 97, 109, 101]), (.str []), (.call 14 [(.var 0)])])]))] [some (D.obj dk), some (D.obj i), some (D.int (many : Int)), some (D.int (j : Int))] st2)
        (fun fl st2 => match fl with
          | .nx env2 => ∃ T' xs' w' e, env2 = [some (D.obj dk), some (D.obj i), some (D.int (many : Int)), e] ∧ Loc dk rm i T0 st0 T' st2 (m + 20 * (j + 1)) d xs' w' ∧ w' ≤ w + 2 * (j + 1) ∧ xs'.length ≤ xs.length + 2 * (j + 1)
          | .ct env2 => ∃ T' xs' w' e, env2 = [some (D.obj dk), some (D.obj i), some (D.int (many : Int)), e] ∧ Loc dk rm i T0 st0 T' st2 (m + 20 * (j + 1)) d xs' w' ∧ w' ≤ w + 2 * (j + 1) ∧ xs'.length ≤ xs.length + 2 * (j + 1)
          | .rt d => QC P (callN P (n + 2)) [] (QR Q) (.rt d) st2
          | _ => False) := by
      intro T2 st2 xs2 w2 L2 hw2 hl2
      simp_arith only [L2.at_, W_call _ _ H.h14]
      refine name_spec H n L2.gs (by omega) _ ?_
      intro s T3 st3 hs1 hs2 g3 go3
      have L3 := L2.step g3 go3
      simp_arith only []
      refine klst_word g3 hs1 (by omega) _ ?_
      intro i4 T4 st4 q4 g4 go4 _
      have L4 := L3.step g4 go4
      have hlt : xs2.length < LN := by unfold LN; omega
      simp_arith only [L4.at_, hlt]
      refine ⟨_, _, _, _, rfl, (L4.push (.cons (.word q4) .nil)).le (by omega), by omega, by simp; omega⟩
    simp_arith []
    by_cases hj0 : (0 : Int) < (j : Int)
    · simp_arith [hj0, QI_ap, L.at_, W_call _ _ H.h16]
      refine key_spec H.h16 (n + 1) L.gs [44] (by simp) (by simp) _ ?_
      intro i2 T2 st2 q2 g2 go2 _
      have L2 := L.step g2 go2
      have hlt : xs'.length < LN := by unfold LN; omega
      simp_arith [L2.at_, hlt]
      exact tail _ _ _ _ (L2.push (.cons (.word q2) .nil)) (by omega) (by simp)
    · simp_arith [hj0, QI_ap]
      exact tail _ _ _ _ L (by omega) (by omega)
  · rintro env st' ⟨T', xs', w', e, rfl, L, hw, hl⟩
    rw [rngL_lenth] at L hw hl
    simp_arith only []
    exact k T' st' xs' w' (L.le (by omega)) (by omega) (by omega)
theorem wt5 : wt 5 = 3410 := rfl
theorem wt6 : wt 6 = 13650 := rfl
theorem bc5 : bc 5 = 37510 := rfl
theorem bc_le {a b : Nat} (h : a ≤ b) : bc a ≤ bc b := by
  induction h with
  | refl => exact Nat.le_refl _
  | step _ ih =>
    refine Nat.le_trans ih ?_
    rw [bc]
    omega
theorem item_spec {P : Pg} (H : HasG P) (n : Nat) (hn : 41 ≤ n) {dk rm : Nat} {T : Tys} {st : Sto} {m : Nat} (g : GS dk T st m) (hrm : T[rm]? = some .room) (hm : m + 40000 ≤ 100000000) (Q : D → Sto → Prop)
    (k : ∀ (s : S) (i : Nat) (T' : Tys) (st' : Sto), T'[i]? = some (.prt 6) → GS dk T' st' (m + 40000) → Go T st T' st' → Q (.tup [.str s, .obj i]) st') :
    W (callN P (n + 4) 22 [.obj dk, .obj rm] st) Q := by
  rw [callN, H.h22]
  simp_arith [f22, W_call _ _ H.h13]
  refine draw_spec H.h13 (n + 2) g 5 (by omega) (by decide) (by decide) _ ?_
  intro r st1 hr g1 go1
  simp_arith []
  by_cases h0 : (r : Int) = 0
  · simp_arith [h0, QI_ap, W_call _ _ H.h16]
    refine key_spec H.h16 (n + 2) g1 [100, 114, 97, 119] (by simp) (by simp) _ ?_
    intro i2 T2 st2 q2 g2 go2 _
    simp_arith []
    rw [KLst_ap]
    refine ⟨by unfold LN; simp, ?_⟩
    have goA := go1.trans go2
    have L0 := Loc.new (d := 6) g2 goA (goA.len g2) (goA.pre _ _ hrm) (xs := [.obj i2]) (.cons (.word q2) .nil)
    simp_arith []
    rw [QC_nx]
    simp_arith [W_call _ _ H.h13, W_call _ _ H.h21]
    refine draw_spec H.h13 (n + 2) L0.gs 3 (by omega) (by decide) (by decide) _ ?_
    intro r9 st9 hr9 g9 go9
    have L9 := L0.step g9 go9
    have e19 : (1 : Int) + (r9 : Int) = ((1 + r9 : Nat) : Int) := by omega
    simp_arith [e19]
    refine listed_spec H n L9 (1 + r9) (by omega) (by omega) (by simp) _ ?_
    intro T3 st3 xs3 w3 L3 hw3 hl3
    simp at hl3
    simp_arith []
    rw [QC_nx]
    simp_arith only [W_call _ _ H.h16]
    refine key_spec H.h16 (n + 2) L3.gs [102, 114, 111, 109] (by simp) (by simp) _ ?_
    intro i4 T4 st4 q4 g4 go4 _
    have L4 := L3.step g4 go4
    simp_arith only [W_call _ _ H.h14]
    refine name_spec H (n + 1) g4 (by omega) _ ?_
    intro s5 T5 st5 hs1 hs2 g5 go5
    have L5 := L4.step g5 go5
    simp_arith only []
    refine klst_word g5 hs1 (by omega) _ ?_
    intro i6 T6 st6 q6 g6 go6 _
    have L6 := L5.step g6 go6
    simp_arith only [W_call _ _ H.h16]
    refine key_spec H.h16 (n + 2) g6 [59] (by simp) (by simp) _ ?_
    intro i7 T7 st7 q7 g7 go7 _
    have L7 := L6.step g7 go7
    simp_arith only []
    refine klst g7 (by unfold LN; simp) _ ?_
    intro i8 T8 st8 q8 e8 _ g8 go8
    have L8 := L7.step g8 go8
    have hlt : xs3.length + 3 ≤ LN := by unfold LN; omega
    simp_arith only [L8.at_, e8, hlt]
    refine wnew_prt g8 6 _ (L8.pv.app (.cons (.word (go8.pre _ _ (go7.pre _ _ (go6.pre _ _ (go5.pre _ _ q4))))) (.cons (.word (go8.pre _ _ (go7.pre _ _ q6))) (.cons (.word (go8.pre _ _ q7)) .nil)))) (by rw [wt6]; omega) (by simp; omega) _ ?_
    intro i9 T9 st10 q9 g10 go10
    simp_arith only []
    exact k _ _ _ _ q9 (g10.le (by omega)) (L8.go.trans go10)
  · simp_arith [h0, QI_ap]
    rw [QC_nx]
    simp_arith [W_call _ _ H.h16]
    refine key_spec H.h16 (n + 2) g1 [100, 101, 102] (by simp) (by simp) _ ?_
    intro i2 T2 st2 q2 g2 go2 _
    simp_arith [W_call _ _ H.h14]
    refine name_spec H (n + 1) g2 (by omega) _ ?_
    intro s3 T3 st3 hs1 hs2 g3 go3
    simp_arith []
    refine klst_word g3 hs1 (by omega) _ ?_
    intro i4 T4 st4 q4 g4 go4 _
    simp_arith [W_call _ _ H.h16]
    refine key_spec H.h16 (n + 2) g4 [40] (by simp) (by simp) _ ?_
    intro i5 T5 st5 q5 g5 go5 _
    simp_arith []
    rw [KLst_ap]
    refine ⟨by unfold LN; simp, ?_⟩
    have goA := go1.trans (go2.trans (go3.trans (go4.trans go5)))
    have L0 := Loc.new (d := 6) g5 goA (goA.len g5) (goA.pre _ _ hrm) (xs := [.obj i2, .obj i4, .obj i5]) (.cons (.word (go5.pre _ _ (go4.pre _ _ (go3.pre _ _ q2)))) (.cons (.word (go5.pre _ _ q4)) (.cons (.word q5) .nil)))
    simp_arith []
    rw [QC_nx]
    simp_arith [W_call _ _ H.h13, W_call _ _ H.h21]
    refine draw_spec H.h13 (n + 2) L0.gs 4 (by omega) (by decide) (by decide) _ ?_
    intro r9 st9 hr9 g9 go9
    have L9 := L0.step g9 go9
    simp_arith []
    refine listed_spec H n L9 r9 (by omega) (by omega) (by simp) _ ?_
    intro T6 st6 xs6 w6 L6 hw6 hl6
    simp at hl6
    simp_arith []
    rw [QC_nx]
    simp_arith [L6.at_, W_call _ _ H.h16]
    refine key_spec H.h16 (n + 2) L6.gs [41] (by simp) (by simp) _ ?_
    intro i7 T7 st7 q7 g7 go7 _
    have L7 := L6.step g7 go7
    simp_arith [W_call _ _ H.h16]
    refine key_spec H.h16 (n + 2) g7 [105, 115] (by simp) (by simp) _ ?_
    intro i8 T8 st8 q8 g8 go8 _
    have L8 := L7.step g8 go8
    simp_arith [W_call _ _ H.h18, W_call _ _ H.h13]
    refine draw_spec H.h13 (n + 2) g8 4 (by omega) (by decide) (by decide) _ ?_
    intro ra sta hra ga goa
    have La := L8.step ga goa
    have e2 : (2 : Int) + (ra : Int) = ((ra + 1 + 1 : Nat) : Int) := by omega
    have hbc := bc_le (show ra + 1 + 1 ≤ 5 by omega)
    have hwt := wt_le (show ra + 1 + 1 ≤ 5 by omega)
    rw [bc5] at hbc
    rw [wt5] at hwt
    simp_arith [e2]
    refine (parts H (ra + 1)).1 (n + 3) (by omega) dk rm T8 sta _ ga La.rm (by omega) _ ?_
    intro sb ib Tb stb qb gb gob
    have Lb := La.step gb gob
    simp_arith []
    refine klst gb (by unfold LN; simp) _ ?_
    intro ic Tc stc qc ec _ gc goc
    have Lc := Lb.step gc goc
    have hlt : xs6.length + 3 ≤ LN := by unfold LN; omega
    simp_arith [Lc.at_, ec, hlt]
    have Ld := Lc.push (.cons (.word (goc.pre _ _ (gob.pre _ _ (goa.pre _ _ (go8.pre _ _ q7))))) (.cons (.word (goc.pre _ _ (gob.pre _ _ (goa.pre _ _ q8)))) (.cons (.node (s := sb) (goc.pre _ _ qb) (by omega)) .nil)))
    rw [QC_nx]
    simp_arith [W_call _ _ H.h16]
    refine key_spec H.h16 (n + 2) Ld.gs [59] (by simp) (by simp) _ ?_
    intro ie Te ste qe ge goe _
    have Le := Ld.step ge goe
    simp_arith []
    refine klst ge (by unfold LN; simp) _ ?_
    intro if_ Tf stf qf ef _ gf gof
    have Lf := Le.step gf gof
    have hlt : (xs6 ++ [D.obj i7, D.obj i8, D.tup [D.str sb, D.obj ib]]).length + 1 ≤ LN := by unfold LN; simp; omega
    simp_arith only [Lf.at_, ef, hlt]
    refine wnew_prt gf 6 _ (Lf.pv.app (.cons (.word (gof.pre _ _ qe)) .nil)) (by rw [wt6]; omega) (by simp; omega) _ ?_
    intro ig Tg stg qg gg gog
    simp_arith only []
    exact k _ _ _ _ qg (gg.le (by omega)) (Lf.go.trans gog)
end Mini

set_option Elab.async false
set_option linter.all false
set_option maxRecDepth 100000
set_option maxHeartbeats 4000000
namespace Mini
/-! ### texts of strings -/
theorem strs_all : ∀ l : List S, strsD (l.map .str) = some l
  | [] => rfl
  | s :: l => by rw [List.map_cons, strsD, strs_all l]
theorem join_all : ∀ l : List S, joinS [] l = l.flatten
  | [] => rfl
  | [s] => by rw [joinS]; simp
  | s :: t :: l => by
    rw [joinS, join_all (t :: l)]
    · simp
    · simp
theorem sum_all : ∀ l : List S, sumLen 0 l = l.flatten.length
  | [] => rfl
  | s :: l => by
    rw [sumLen, sum_all l]
    simp
/-! ### a part's words -/
def fl (st : Sto) : Nat → D → List Nat
  | 0, _ => []
  | _ + 1, .obj i => [i]
  | d + 1, .tup [.str _, .obj i] => match st[i]? with
    | some (.lst xs) => (xs.map (fl st d)).flatten
    | _ => []
  | _ + 1, _ => []
theorem fl_obj (st : Sto) (N i : Nat) : fl st (N + 1) (.obj i) = [i] := by rw [fl]
theorem fl_node {st : Sto} {N i : Nat} {s : S} {xs : List D} (h : st[i]? = some (.lst xs)) : fl st (N + 1) (.tup [.str s, .obj i]) = (xs.map (fl st N)).flatten := by
  rw [fl, h]
theorem Wt.grow {T : Tys} {st : Sto} (h : Wt T st) (g : Sto) : Wt (T ++ List.replicate g.length .raw) (st ++ g) := by
  refine ⟨by simp [h.len], fun i t hi => ?_⟩
  by_cases hl : i < T.length
  · rw [List.getElem?_append_left hl] at hi
    refine (h.ok i t hi).keep (Gr.app _ _) (fun _ => ?_)
    rw [List.getElem?_append_left (by rw [← h.len]; exact hl)]
  · rw [List.getElem?_append_right (by omega)] at hi
    rw [List.getElem?_replicate] at hi
    split at hi
    · cases hi
      trivial
    · cases hi
theorem GS.grow {dk : Nat} {T : Tys} {st : Sto} {m : Nat} (h : GS dk T st m) (g : Sto) : GS dk (T ++ List.replicate g.length .raw) (st ++ g) m := by
  obtain ⟨cl, a, b, c, h1, h2⟩ := h.cnt
  exact ⟨h.wt.grow g, get_app h.hdk, cl, a, b, c, get_app h1, h2⟩
theorem Go.grow {T : Tys} {st : Sto} (h : T.length = st.length) (g : Sto) : Go T st (T ++ List.replicate g.length .raw) (st ++ g) :=
  ⟨fun i t q => get_app q, fun i t q z => List.getElem?_append_left (by rw [← h]; exact lt_of_get q)⟩
/-- all words of a part are words; there are not more than its weight -/
theorem fl_words {T : Tys} {st : Sto} (h : Wt T st) : ∀ (N d : Nat) (x : D) (a : Nat), PV T d x a → d < N → (∀ j ∈ fl st N x, T[j]? = some .word) ∧ (fl st N x).length ≤ a := by
  intro N
  induction N with
  | zero => intro d x a _ hd; omega
  | succ N ih =>
    intro d x a p hd
    cases p with
    | word q =>
      rw [fl_obj]
      exact ⟨fun j hj => by simp at hj; rw [hj]; exact q, by simp⟩
    | node q he =>
      rename_i s i e
      obtain ⟨xs, w, h1, h2, h3, _⟩ := h.ok i _ q
      rw [fl_node h1]
      have : ∀ (ys : List D) (v : Nat), PVs T e ys v → (∀ j ∈ (ys.map (fl st N)).flatten, T[j]? = some .word) ∧ ((ys.map (fl st N)).flatten).length ≤ v := by
        intro ys v pv
        induction pv with
        | nil => simp
        | cons p1 _ ih2 =>
          have := ih e _ _ p1 (by omega)
          rw [List.map_cons, List.flatten_cons]
          refine ⟨fun j hj => ?_, by rw [List.length_append]; omega⟩
          rw [List.mem_append] at hj
          rcases hj with hj | hj
          · exact this.1 j hj
          · exact ih2.1 j hj
      have := this xs w h2
      exact ⟨this.1, by omega⟩
/-- where the fixed things stay a part's words stay -/
theorem fl_same {T : Tys} {st st' : Sto} (h : Wt T st) (hs : ∀ (i d : Nat), T[i]? = some (.prt d) → st'[i]? = st[i]?) : ∀ (N d : Nat) (x : D) (a : Nat), PV T d x a → d < N → fl st' N x = fl st N x := by
  intro N
  induction N with
  | zero => intro d x a _ hd; omega
  | succ N ih =>
    intro d x a p hd
    cases p with
    | word q => rw [fl_obj, fl_obj]
    | node q he =>
      rename_i s i e
      obtain ⟨xs, w, h1, h2, h3, _⟩ := h.ok i _ q
      rw [fl_node h1, fl_node (by rw [hs i e q]; exact h1)]
      have : ∀ (ys : List D) (v : Nat), PVs T e ys v → ys.map (fl st' N) = ys.map (fl st N) := by
        intro ys v pv
        induction pv with
        | nil => rfl
        | cons p1 _ ih2 => rw [List.map_cons, List.map_cons, ih2, ih e _ _ p1 (by omega)]
      rw [this xs w h2]
theorem fl_app {T : Tys} {st : Sto} (h : Wt T st) (g : Sto) {N d : Nat} {x : D} {a : Nat} (p : PV T d x a) (hd : d < N) : fl (st ++ g) N x = fl st N x :=
  fl_same h (fun i d q => List.getElem?_append_left (by rw [← h.len]; exact lt_of_get q)) N d x a p hd
theorem PVs.get {T : Tys} {d : Nat} : ∀ {xs : List D} {w : Nat}, PVs T d xs w → ∀ {j : Nat} {x : D}, xs[j]? = some x → ∃ a, PV T d x a := by
  intro xs w h
  induction h with
  | nil => intro j x h; simp at h
  | cons p _ ih =>
    intro j x h
    cases j with
    | zero =>
      simp at h
      subst h
      exact ⟨_, p⟩
    | succ j => exact ih (by simpa using h)
theorem fl_take {st : Sto} {N : Nat} : ∀ (xs : List D) (j : Nat) (x : D), xs[j]? = some x → ((xs.take (j + 1)).map (fl st N)).flatten = ((xs.take j).map (fl st N)).flatten ++ fl st N x := by
  intro xs j x h
  rw [List.take_add_one, h, List.map_append, List.flatten_append]
  simp
theorem fl_take_le {st : Sto} {N : Nat} : ∀ (xs : List D) (j : Nat), ((xs.take j).map (fl st N)).flatten.length ≤ ((xs).map (fl st N)).flatten.length := by
  intro xs j
  conv => rhs; rw [← List.take_append_drop j xs, List.map_append, List.flatten_append, List.length_append]
  omega
theorem isi_list : isiD "list" ["list"] = some true := by decide
theorem isi_tuple : isiD "tuple" ["list"] = some false := by decide
theorem flat_spec {P : Pg} (h23 : P.fn 23 = some f23) : ∀ (N d : Nat) (x : D) (a : Nat) (T : Tys) (st : Sto), Wt T st → PV T d x a → d < N → a ≤ 20000 → ∀ n, N ≤ n → ∀ Q : D → Sto → Prop,
    (∀ (i : Nat) (g : Sto), st.length ≤ i → (st ++ g)[i]? = some (.lst ((fl st N x).map .obj)) → Q (.obj i) (st ++ g)) → W (callN P n 23 [x] st) Q := by
  intro N
  induction N with
  | zero => intro d x a T st _ _ hd; omega
  | succ N ih =>
    intro d x a T st h p hd ha n hn Q k
    obtain ⟨n, rfl⟩ : ∃ n', n = n' + 1 := ⟨n - 1, by omega⟩
    have i1 : ∀ xs : List D, L2.atI xs 1 = xs[1]? := fun xs => atI_nat xs 1
    cases p with
    | word q =>
      obtain ⟨wa, wb, wc, hw, _⟩ := h.ok _ _ q
      rw [callN, h23]
      simp_arith! only [f23, hw, isi_list]
      refine k _ _ (Nat.le_refl _) ?_
      rw [fl_obj, last_at]
      rfl
    | node q he =>
      rename_i s i e
      obtain ⟨xs, w, h1, h2, h3, _⟩ := h.ok i _ q
      have hfl : fl st (N + 1) (.tup [.str s, .obj i]) = (xs.map (fl st N)).flatten := fl_node h1
      have hlen := (fl_words h (N + 1) d _ _ (.node (s := s) q he) hd).2
      rw [hfl] at hlen
      rw [callN, h23]
      have h23n : ¬ ((2 : Nat) : Int) = 3 := by decide
      simp_arith! only [f23, isi_tuple, i1, h23n]
      refine kfor xs (fun j env st' => ∃ g i2 e2, st.length ≤ i2 ∧ st' = st ++ g ∧ env = [some (D.tup [.str s, .obj i]), some (D.obj i2), e2] ∧ st'[i2]? = some (.lst (((xs.take j).map (fl st N)).flatten.map .obj))) (by omega) ?_ ⟨[.lst []], st.length, _, Nat.le_refl _, rfl, rfl, by rw [last_at]; simp⟩ ?_ ?_
      · rintro j env st' hj ⟨g, i2, e2, hge, rfl, rfl, hi⟩
        show items _ (.obj i) = _
        exact isSome_at (get_app h1)
      · rintro j x env st' hx hj ⟨g, i2, e2, hge, rfl, rfl, hi⟩
        refine ⟨_, rfl, ?_⟩
        obtain ⟨b, pb⟩ := h2.get hx
        have hb : b ≤ 20000 := by
          cases pb with
          | word _ => omega
          | node _ hh =>
            have := wt_le (Nat.le_of_lt hh)
            omega
        simp_arith only [W_call _ _ h23, pb.nex]
        refine ih e x b _ (st ++ g) (h.grow g) (pb.gr (Gr.app _ _) (Nat.le_refl _)) (by omega) hb n (by omega) _ ?_
        intro i3 g3 _ hi3
        rw [fl_app h g pb (by omega)] at hi3
        have hi2 : ((st ++ g) ++ g3)[i2]? = some (.lst (((xs.take j).map (fl st N)).flatten.map .obj)) := get_app hi
        have htot : (((xs.take j).map (fl st N)).flatten.map D.obj).length + ((fl st N x).map D.obj).length ≤ LN := by
          have e1 := fl_take_le (st := st) (N := N) xs (j + 1)
          rw [fl_take xs j x hx, List.length_append] at e1
          rw [List.length_map, List.length_map]
          unfold LN
          omega
        simp_arith! only [hi2, hi3, htot]
        refine ⟨g ++ (g3 ++ [.lst (((xs.take j).map (fl st N)).flatten.map .obj ++ (fl st N x).map .obj)]), _, _, by simp, by simp, rfl, ?_⟩
        rw [last_at, fl_take xs j x hx, List.map_append]
      · rintro env st' ⟨g, i2, e2, hge, rfl, rfl, hi⟩
        simp_arith only []
        refine k i2 g hge ?_
        rw [hi, hfl, List.take_length]
/-- a word's gap and signs -/
def wd (st : Sto) (j : Nat) : S := match st[j]? with
  | some (.lst [_, .str b, .str c]) => b ++ c
  | _ => []
theorem wd_len {T : Tys} {st : Sto} (h : Wt T st) {j : Nat} (q : T[j]? = some .word) : (wd st j).length ≤ 52 := by
  obtain ⟨a, b, c, e, _, h1, h2⟩ := h.ok j _ q
  unfold wd
  rw [e]
  simp
  omega
theorem wd_app {T : Tys} {st : Sto} (h : Wt T st) (g : Sto) {j : Nat} (q : T[j]? = some .word) : wd (st ++ g) j = wd st j := by
  obtain ⟨a, b, c, e, _, h1, h2⟩ := h.ok j _ q
  unfold wd
  rw [e, get_app e]
theorem flat_len_le {α : Type} (f : α → S) (B : Nat) : ∀ (l : List α), (∀ x ∈ l, (f x).length ≤ B) → ((l.map f).flatten).length ≤ l.length * B
  | [], _ => by simp
  | x :: l, h => by
    rw [List.map_cons, List.flatten_cons, List.length_append, List.length_cons, Nat.succ_mul]
    have := flat_len_le f B l (fun y hy => h y (List.mem_cons_of_mem _ hy))
    have := h x (List.mem_cons_self)
    omega
theorem signs_spec {P : Pg} (h27 : P.fn 27 = some f27) (n : Nat) {T : Tys} {st : Sto} (h : Wt T st) (il : Nat) (ws : List Nat) (hil : st[il]? = some (.lst (ws.map .obj))) (hws : ∀ j ∈ ws, T[j]? = some .word) (hlen : ws.length ≤ 20000) (Q : D → Sto → Prop)
    (k : ∀ g : Sto, Q (.str ((ws.map (wd st)).flatten)) (st ++ g)) : W (callN P (n + 1) 27 [.obj il] st) Q := by
  have i1 : ∀ xs : List D, L2.atI xs 1 = xs[1]? := fun xs => atI_nat xs 1
  have i2 : ∀ xs : List D, L2.atI xs 2 = xs[2]? := fun xs => atI_nat xs 2
  rw [callN, h27]
  simp_arith only [f27]
  refine kcomp (ws.map .obj) (fun j acc st' => st' = st ∧ acc = (ws.take j).map (fun i => .str (wd st i))) (by rw [List.length_map]; omega) ?_ ⟨rfl, rfl⟩ ?_ ?_ ?_
  · rintro i acc st' hi ⟨rfl, _⟩
    show items _ (.obj il) = _
    exact isSome_at hil
  · rintro i acc st' ⟨rfl, rfl⟩ hi
    rw [List.length_map, List.length_take]
    omega
  · rintro i x acc st' hx hi ⟨rfl, rfl⟩
    rw [List.length_map] at hi
    rw [List.getElem?_map, List.getElem?_eq_getElem hi] at hx
    simp at hx
    subst hx
    obtain ⟨a, b, c, e, _, h1, h2⟩ := h.ok _ _ (hws _ (List.getElem_mem hi))
    have hbc : b.length + c.length ≤ LN := by unfold LN; omega
    refine ⟨_, rfl, ?_⟩
    simp_arith! only [e, i1, i2, hbc]
    rw [List.take_add_one, List.getElem?_eq_getElem hi, List.map_append]
    simp [wd, e]
  · rintro ys st' ⟨rfl, rfl⟩ hy
    rw [List.length_map, List.take_length]
    have e : (ws.map fun i => D.str (wd st' i)) = (ws.map (wd st')).map .str := by rw [List.map_map]; rfl
    have hs : ((ws.map (wd st')).flatten).length ≤ LN := by
      have := flat_len_le (wd st') 52 ws (fun j hj => wd_len h (hws j hj))
      unfold LN
      omega
    simp_arith! only [last_at, e, strs_all, sum_all, join_all, hs]
    exact k _
/-- an item's text; a file's -/
def itx (st : Sto) (x : D) : S := ((fl st 8 x).map (wd st)).flatten
def txt (st : Sto) (ps : List D) (ts : List S) (rest : S) : S := ((ps.zip ts).map fun p => itx st p.1 ++ p.2).flatten ++ rest
theorem itx_len {T : Tys} {st : Sto} (h : Wt T st) {x : D} {a : Nat} (p : PV T 7 x a) (ha : a ≤ 20000) : (itx st x).length ≤ 1040000 := by
  have := fl_words h 8 7 x a p (by omega)
  have e := flat_len_le (wd st) 52 (fl st 8 x) (fun j hj => wd_len h (this.1 j hj))
  unfold itx
  omega
theorem itx_app {T : Tys} {st : Sto} (h : Wt T st) (g : Sto) {x : D} {a : Nat} (p : PV T 7 x a) : itx (st ++ g) x = itx st x := by
  unfold itx
  rw [fl_app h g p (by omega)]
  congr 1
  refine List.map_congr_left fun j hj => ?_
  exact wd_app h g ((fl_words h 8 7 x a p (by omega)).1 j hj)
theorem txt_app {T : Tys} {st : Sto} (h : Wt T st) (g : Sto) (ps : List D) (ts : List S) (rest : S) (hp : ∀ x ∈ ps, ∃ a, PV T 7 x a) : txt (st ++ g) ps ts rest = txt st ps ts rest := by
  unfold txt
  congr 2
  refine List.map_congr_left fun p hpm => ?_
  obtain ⟨a, pv⟩ := hp p.1 (List.of_mem_zip hpm).1
  rw [itx_app h g pv]
theorem zipL_eq : ∀ (xs : List D) (ts : List S), zipL xs (ts.map .str) = (xs.zip ts).map fun p => .tup [p.1, .str p.2]
  | [], _ => by simp [zipL]
  | x :: xs, [] => by simp [zipL]
  | x :: xs, t :: ts => by
    rw [List.map_cons, zipL, zipL_eq xs ts]
    simp
theorem text_spec {P : Pg} (H : HasG P) (n : Nat) {T : Tys} {st : Sto} (h : Wt T st) (ip it : Nat) (ps : List D) (ts : List S) (rest : S) (hip : st[ip]? = some (.lst ps)) (hit : st[it]? = some (.lst (ts.map .str)))
    (hps : ∀ x ∈ ps, ∃ a, PV T 7 x a ∧ a ≤ 20000) (hpl : ps.length ≤ 10) (hts : ∀ t ∈ ts, t.length ≤ 100) (hr : rest.length ≤ 100) (Q : D → Sto → Prop)
    (k : ∀ g : Sto, Q (.str (txt st ps ts rest)) (st ++ g)) : W (callN P (n + 9) 28 [.tup [.obj ip, .obj it, .str rest]] st) Q := by
  rw [callN, H.h28]
  simp_arith only [f28]
  have hzl : (ps.zip ts).length ≤ 10 := by
    rw [List.length_zip]
    omega
  refine kcomp ((ps.zip ts).map fun p => .tup [p.1, .str p.2]) (fun j acc st' => ∃ g, st' = st ++ g ∧ acc = ((ps.zip ts).take j).map (fun p => .str (itx st p.1 ++ p.2))) (by rw [List.length_map]; omega) ?_ ⟨[], by simp, rfl⟩ ?_ ?_ ?_
  · rintro i acc st' hi ⟨g, rfl, _⟩
    show (match litems (st ++ g) ip, litems (st ++ g) it with
      | some xs, some ys => some (zipL xs ys)
      | _, _ => none) = _
    rw [isSome_at (get_app hip), isSome_at (get_app hit)]
    simp only [zipL_eq]
  · rintro i acc st' ⟨g, rfl, rfl⟩ hi
    rw [List.length_map, List.length_take]
    omega
  · rintro i x acc st' hx hi ⟨g, rfl, rfl⟩
    rw [List.length_map] at hi
    rw [List.getElem?_map, List.getElem?_eq_getElem hi] at hx
    simp only [Option.map_some, Option.some.injEq] at hx
    subst hx
    have hmem := List.getElem_mem hi
    generalize hp : (ps.zip ts)[i] = p at hmem
    obtain ⟨a, pv, ha⟩ := hps p.1 (List.of_mem_zip hmem).1
    have ht := hts p.2 (List.of_mem_zip hmem).2
    refine ⟨_, rfl, ?_⟩
    simp_arith only [W_call _ _ H.h27, W_call _ _ H.h23, pv.nex]
    refine flat_spec H.h23 8 7 p.1 a _ (st ++ g) (h.grow g) (pv.gr (Gr.app _ _) (Nat.le_refl _)) (by omega) ha (n + 8) (by omega) _ ?_
    intro i3 g3 _ hi3
    rw [fl_app h g pv (by omega)] at hi3
    have fw := fl_words h 8 7 p.1 a pv (by omega)
    simp_arith only []
    refine signs_spec H.h27 (n + 7) ((h.grow g).grow g3) i3 _ hi3 (fun j hj => get_app (get_app (fw.1 j hj))) (by omega) _ ?_
    intro g4
    have e1 : ((fl st 8 p.1).map (wd (st ++ g ++ g3))).flatten = itx st p.1 := by
      unfold itx
      congr 1
      refine List.map_congr_left fun j hj => ?_
      rw [List.append_assoc]
      exact wd_app h _ (fw.1 j hj)
    have hl := itx_len h pv ha
    have hl2 : (itx st p.1).length + p.2.length ≤ LN := by unfold LN; omega
    simp_arith only [e1, hl2]
    refine ⟨g ++ (g3 ++ g4), by simp, ?_⟩
    rw [List.take_add_one, List.getElem?_eq_getElem hi, List.map_append, hp]
    rfl
  · rintro ys st' ⟨g, rfl, rfl⟩ hy
    rw [List.length_map, List.take_length]
    have e : ((ps.zip ts).map fun p => D.str (itx st p.1 ++ p.2)) = ((ps.zip ts).map fun p => itx st p.1 ++ p.2).map .str := by rw [List.map_map]; rfl
    have hs0 : (((ps.zip ts).map fun p => itx st p.1 ++ p.2).flatten).length ≤ 10500000 := by
      have := flat_len_le (fun p : D × S => itx st p.1 ++ p.2) 1040100 (ps.zip ts) (fun p hp => by
        obtain ⟨a, pv, ha⟩ := hps p.1 (List.of_mem_zip hp).1
        have := itx_len h pv ha
        have := hts p.2 (List.of_mem_zip hp).2
        rw [List.length_append]
        omega)
      omega
    have hs : (((ps.zip ts).map fun p => itx st p.1 ++ p.2).flatten).length ≤ LN := by unfold LN; omega
    have hs2 : (((ps.zip ts).map fun p => itx st p.1 ++ p.2).flatten).length + rest.length ≤ LN := by unfold LN; omega
    simp_arith! only [last_at, e, strs_all, sum_all, join_all, hs, hs2]
    have := k (g ++ [.lst (((ps.zip ts).map fun p => itx st p.1 ++ p.2).map .str)])
    rw [← List.append_assoc] at this
    exact this
end Mini

set_option Elab.async false
set_option linter.all false
set_option maxRecDepth 100000
set_option maxHeartbeats 4000000
namespace Mini
theorem atI_last (c : Nat) (cs : S) : ∃ l, L2.atI (c :: cs) (-1) = some l := by
  refine ⟨(c :: cs)[cs.length]'(by simp), ?_⟩
  unfold L2.atI L2.ixN
  rw [if_neg (by omega), if_pos (by simp; omega)]
  have e : ((-1 : Int) + ((cs.length : Int) + 1)).toNat = cs.length := by omega
  simp only [List.length_cons, Int.natCast_add, Int.natCast_one, e, Option.bind_some]
  exact List.getElem?_eq_getElem (by simp)
theorem okRep1 (k : Int) (h : k < 1000) (h2 : -1000 < k) : okRep 1 k = true := by
  unfold okRep LN
  simp
  omega
theorem reps_len (c : Nat) (n : Nat) : (reps [c] n).length = n := by
  unfold reps
  simp
theorem reps_zero {α : Type} (xs : List α) : reps xs 0 = [] := rfl
theorem gap_spec {P : Pg} (H : HasG P) (n : Nat) {dk : Nat} {T : Tys} {st : Sto} {m : Nat} (g : GS dk T st m) (hm : m + 100 ≤ 100000000) (before after : S) (ha : after ≠ []) (Q : D → Sto → Prop)
    (k : ∀ (s : S) (T' : Tys) (st' : Sto), s.length ≤ 10 → GS dk T' st' (m + 10) → Go T st T' st' → Q (.str s) st') :
    W (callN P (n + 3) 25 [.obj dk, .str before, .str after] st) Q := by
  have i0 : ∀ xs : List D, L2.atI xs 0 = xs[0]? := fun xs => atI_nat xs 0
  have i1 : ∀ xs : List D, L2.atI xs 1 = xs[1]? := fun xs => atI_nat xs 1
  have j0 : ∀ xs : S, L2.atI xs 0 = xs[0]? := fun xs => atI_nat xs 0
  obtain ⟨a, as, rfl⟩ : ∃ a as, after = a :: as := by
    cases after with
    | nil => exact absurd rfl ha
    | cons a as => exact ⟨a, as, rfl⟩
  have cont2 : ∀ b : Bool, WS (evSs P (callN P (n + 2)) (f25.body.drop 3) [some (D.obj dk), some (D.str before), some (D.str (a :: as)), some (D.str [97, 98, 99, 100, 101, 102, 103, 104, 105, 106, 107, 108, 109, 110, 111, 112, 113, 114, 115, 116, 117, 118, 119, 120, 121, 122]), some (D.bl b), none] st) (QR Q) := by
    intro b
    simp_arith [f25, List.drop_succ_cons, List.drop_zero, W_call _ _ H.h13]
    refine draw_spec H.h13 (n + 1) g 8 (by omega) (by decide) (by decide) _ ?_
    intro r st1 hr g1 go1
    simp_arith []
    rw [QC_nx]
    simp_arith []
    by_cases h4 : (r : Int) < 4
    · simp_arith [h4, QI_ap]
      refine klst g1 (by unfold LN; simp) _ ?_
      intro i2 T2 st2 q2 e2 _ g2 go2
      have fin : ∀ s : S, s.length ≤ 10 → Q (.str s) st2 := fun s hs => k s T2 st2 hs (g2.le (by omega)) (go1.trans go2)
      cases b
      · by_cases h3 : (r : Int) = 3
        · simp_arith only [h3, e2, i1]
          exact fin _ (by simp)
        · simp_arith only [h3, e2, i0]
          exact fin _ (by simp)
      · simp_arith only [e2, i1]
        exact fin _ (by simp)
    · simp_arith [h4, QI_ap]
      rw [QC_nx]
      have hok := okRep1 ((r : Int) - 7) (by omega) (by omega)
      have ht : ((r : Int) - 7).toNat = 0 := by omega
      simp_arith [hok, ht, reps_zero, W_call _ _ H.h24]
      refine remark_spec H.h13 H.h24 n g1 (by omega) _ ?_
      intro s T2 st2 hs1 hs2 g2 go2
      have l1 : s.length + 1 ≤ LN := by unfold LN; omega
      have l2 : s.length + 1 + 1 ≤ LN := by unfold LN; omega
      simp_arith [l1, l2]
      refine klst g2 (by unfold LN; simp) _ ?_
      intro i3 T3 st3 q3 e3 _ g3 go3
      have e4 : (r : Int) - 4 = ((r - 4 : Nat) : Int) := by omega
      obtain ⟨x, hx, s', rfl, hs'⟩ := pick_at e3 (r - 4) (by simp; omega) (fun x => ∃ s, x = .str s ∧ s.length ≤ 10) (by
        intro x hx
        simp at hx
        rcases hx with rfl | rfl | rfl | rfl
        · exact ⟨_, rfl, by simp⟩
        · exact ⟨_, rfl, by simp⟩
        · exact ⟨_, rfl, by simp⟩
        · exact ⟨_, rfl, by simp; omega⟩)
      simp_arith only [e3, e4, hx]
      exact k s' T3 st3 hs' (g3.le (by omega)) (go1.trans (go2.trans go3))
  simp only [f25, List.drop_succ_cons, List.drop_zero] at cont2
  rw [callN, H.h25]
  simp_arith [f25]
  rw [QC_nx]
  cases before with
  | nil =>
    simp_arith []
    rw [QC_nx]
    simp_arith []
    exact cont2 _
  | cons c cs =>
    obtain ⟨l, hl⟩ := atI_last c cs
    have cont1 : ∀ b : Bool, WS (evSs P (callN P (n + 2)) (f25.body.drop 2) [some (D.obj dk), some (D.str (c :: cs)), some (D.str (a :: as)), some (D.str [97, 98, 99, 100, 101, 102, 103, 104, 105, 106, 107, 108, 109, 110, 111, 112, 113, 114, 115, 116, 117, 118, 119, 120, 121, 122]), some (D.bl b), none] st) (QR Q) := by
      intro b
      simp only [f25, List.drop_succ_cons, List.drop_zero]
      cases b
      · simp_arith [Int.reduceNeg, hl, j0]
        exact ⟨fun _ => cont2 _, fun _ => cont2 _⟩
      · simp_arith [Int.reduceNeg, hl, j0]
        exact cont2 _
    simp only [f25, List.drop_succ_cons, List.drop_zero] at cont1
    simp_arith [Int.reduceNeg, hl, j0]
    exact ⟨fun _ => cont1 _, fun _ => cont1 _⟩
end Mini

set_option Elab.async false
set_option linter.all false
set_option maxRecDepth 100000
set_option maxHeartbeats 4000000
namespace Mini
theorem enumL_at : ∀ (xs : List D) (k i : Nat), (enumL k xs)[i]? = xs[i]?.map fun x => .tup [.int ((k + i : Nat) : Int), x]
  | [], k, i => by simp [enumL]
  | x :: xs, k, 0 => by simp [enumL]
  | x :: xs, k, i + 1 => by
    rw [enumL, List.getElem?_cons_succ, List.getElem?_cons_succ, enumL_at xs (k + 1) i]
    rw [show k + 1 + i = k + (i + 1) by omega]
theorem enumL_len : ∀ (xs : List D) (k : Nat), (enumL k xs).length = xs.length
  | [], k => rfl
  | x :: xs, k => by rw [enumL, List.length_cons, List.length_cons, enumL_len xs (k + 1)]
theorem walked_enum {st : Sto} {i : Nat} {xs : List D} (h : st[i]? = some (.lst xs)) : walked .enum [.obj i] st = some (enumL 0 xs) := by
  show (litems st i).map (enumL 0) = _
  rw [isSome_at h]
  rfl
theorem cut_lenth {α : Type} (xs : List α) (lo hi : Option Int) : (cut xs lo hi).length ≤ xs.length := by
  unfold cut
  rw [List.length_take, List.length_drop]
  omega
abbrev fEnv (dk rm ip it : Nat) (sl : Bool) (e6 : Option D) (e7 e8 e9 e10 e11 e12 e13 e14 : Option D) : Env := [some (.obj dk), some (.int 4), some (.obj rm), some (.obj ip), some (.obj it), some (.bl sl), e6, e7, e8, e9, e10, e11, e12, e13, e14]
def fB1 : List CS := [(.stsub (.var 14) (.int 1) (.call 25 [(.var 0), (.var 9), (.sub (.var 14) (.int 2))])), (.ife (.and (.cmp .Eq (.var 13) (.int 0)) [(.var 5)]) [(.stsub (.var 14) (.int 1) (.bin .Mult (.str [32]) (.call 13 [(.var 0), (.int 3)])))] []), (.set 9 (.sub (.var 14) (.int 2)))]
theorem gaps_loop {P : Pg} (H : HasG P) (n : Nat) {dk : Nat} {T : Tys} {st : Sto} {m : Nat} (g : GS dk T st m) (hm : m + 300000 ≤ 100000000) (iw : Nat) (ws : List Nat) (hiw : st[iw]? = some (.lst (ws.map .obj))) (hraw : T[iw]? = some .raw) (hws : ∀ j ∈ ws, T[j]? = some .word) (hlen : ws.length ≤ 20000)
    (rm ip it : Nat) (sl : Bool) (e6 e7 e8 e10 e11 e12 e13 e14 : Option D) (b0 : S) (Q : Fl → Sto → Prop)
    (k : ∀ (T' : Tys) (st' : Sto) (b : S) (e13 e14 : Option D), GS dk T' st' (m + 220000) → Go T st T' st' → Q (.nx (fEnv dk rm ip it sl e6 e7 e8 (some (.str b)) e10 e11 e12 e13 e14)) st') :
    KFor P (callN P (n + 3)) .enum (.tp [(.nm 13), (.nm 14)]) fB1 (fEnv dk rm ip it sl e6 e7 e8 (some (.str b0)) e10 e11 e12 e13 e14) Q [.obj iw] st := by
  have i2 : ∀ xs : List D, L2.atI xs 2 = xs[2]? := fun xs => atI_nat xs 2
  have x1 : L2.ixN 3 1 = some 1 := by decide
  refine kfor (enumL 0 (ws.map .obj)) (fun j env st' => ∃ T' b e13 e14, env = fEnv dk rm ip it sl e6 e7 e8 (some (.str b)) e10 e11 e12 e13 e14 ∧ GS dk T' st' (m + 11 * j) ∧ Go T st T' st') (by rw [enumL_len, List.length_map]; omega) ?_ ⟨T, b0, e13, e14, rfl, g, Go.rfl⟩ ?_ ?_
  · rintro i env st' hi ⟨T', b, _, _, rfl, g', go'⟩
    exact walked_enum (by rw [go'.fr _ hraw]; exact hiw)
  · rintro j x env st' hx hj ⟨T', b, _, _, rfl, g', go'⟩
    rw [enumL_len, List.length_map] at hj
    rw [enumL_at, List.getElem?_map, List.getElem?_eq_getElem hj] at hx
    simp at hx
    subst hx
    have hw := go'.pre _ _ (hws _ (List.getElem_mem hj))
    generalize ws[j] = iwd at hw
    obtain ⟨a, bb, c, hst, hc1, hb1, hc2⟩ := g'.wt.ok iwd _ hw
    refine ⟨_, rfl, ?_⟩
    simp_arith [fB1, hst, i2, W_call _ _ H.h25]
    refine gap_spec H n g' (by omega) b c hc1 _ ?_
    intro s T2 st2 hs g2 go2
    have hw2 := go2.pre _ _ hw
    obtain ⟨a2, b2, c2, hst2, hc21, hb21, hc22⟩ := g2.wt.ok iwd _ hw2
    simp_arith [hst2, x1]
    have hq : (st2.set iwd (.lst [.str a2, .str s, .str c2]))[iwd]? = some (.lst [.str a2, .str s, .str c2]) := List.getElem?_set_self (lt_of_get hst2)
    have g3 := g2.put hw2 (.lst [.str a2, .str s, .str c2]) (fun z => by cases z) ⟨a2, s, c2, hq, hc21, hs, hc22⟩
    have go3 : Go T' st' T2 (st2.set iwd (.lst [.str a2, .str s, .str c2])) := go2.putt hw2 (fun z => z) _
    generalize st2.set iwd (.lst [.str a2, .str s, .str c2]) = st3 at g3 go3 hq
    rw [QC_nx]
    have fin : ∀ (st4 : Sto) (m4 : Nat) (s4 : S), m4 ≤ m + 11 * (j + 1) → GS dk T2 st4 m4 → Go T' st' T2 st4 → st4[iwd]? = some (.lst [.str a2, .str s4, .str c2]) → WS (evSs P (callN P (n + 3)) [(.set 9 (.sub (.var 14) (.int 2)))] (fEnv dk rm ip it sl e6 e7 e8 (some (.str b)) e10 e11 e12 (some (.int ((j : Nat) : Int))) (some (.obj iwd))) st4)
        (fun fl st2 => match fl with
        | .nx env2 => ∃ T' b e13 e14, env2 = fEnv dk rm ip it sl e6 e7 e8 (some (.str b)) e10 e11 e12 e13 e14 ∧ GS dk T' st2 (m + 11 * (j + 1)) ∧ Go T st T' st2
        | .ct env2 => ∃ T' b e13 e14, env2 = fEnv dk rm ip it sl e6 e7 e8 (some (.str b)) e10 e11 e12 e13 e14 ∧ GS dk T' st2 (m + 11 * (j + 1)) ∧ Go T st T' st2
        | .rt d => Q (.rt d) st2
        | _ => False) := by
      intro st4 m4 s4 hm4 g4 go4 hq4
      simp_arith only [fEnv, hq4, i2]
      exact ⟨T2, c2, _, _, rfl, g4.le hm4, go'.trans go4⟩
    simp only [fEnv] at fin
    by_cases hj0 : (j : Int) = 0
    · cases sl
      · simp_arith [hj0, QI_ap]
        rw [hj0] at fin
        exact fin st3 _ s (by omega) g3 go3 hq
      · simp_arith [hj0, QI_ap, W_call _ _ H.h13]
        refine draw_spec H.h13 (n + 2) g3 3 (by omega) (by decide) (by decide) _ ?_
        intro r st4 hr g4 go4
        obtain ⟨a4, b4, c4, hst4, hc41, hb41, hc42⟩ := g4.wt.ok iwd _ hw2
        have hok := okRep1 (r : Int) (by omega) (by omega)
        simp_arith [hok, Int.toNat_natCast, hst4, x1]
        have hq5 : (st4.set iwd (.lst [.str a4, .str (reps [32] r), .str c4]))[iwd]? = some (.lst [.str a4, .str (reps [32] r), .str c4]) := List.getElem?_set_self (lt_of_get hst4)
        have g5 := g4.put hw2 (.lst [.str a4, .str (reps [32] r), .str c4]) (fun z => by cases z) ⟨a4, reps [32] r, c4, hq5, hc41, by rw [reps_len]; omega, hc42⟩
        have go5 : Go T' st' T2 (st4.set iwd (.lst [.str a4, .str (reps [32] r), .str c4])) := (go3.trans go4).putt hw2 (fun z => z) _
        rw [QC_nx]
        simp_arith only [hq5, i2]
        exact ⟨T2, c4, _, _, rfl, g5.le (by omega), go'.trans go5⟩
    · simp_arith [hj0, QI_ap]
      exact fin st3 _ s (by omega) g3 go3 hq
  · rintro env st' ⟨T', b, e13', e14', rfl, g', go'⟩
    rw [enumL_len, List.length_map] at g'
    exact k T' st' b e13' e14' (g'.le (by omega)) go'
end Mini

set_option Elab.async false
set_option linter.all false
set_option maxRecDepth 100000
set_option maxHeartbeats 4000000
namespace Mini
theorem rep_raw {T : Tys} {st g : Sto} {i : Nat} {o : O} (h : T.length = st.length) (h1 : st.length ≤ i) (h2 : (st ++ g)[i]? = some o) : (T ++ List.replicate g.length Ty.raw)[i]? = some .raw := by
  have := lt_of_get h2
  rw [List.length_append] at this
  rw [List.getElem?_append_right (by omega), List.getElem?_replicate, if_pos (by omega)]
/-- blanks, perhaps a remark -/
theorem W_ten : ((10 : Nat) = 10) := rfl
/-- the list's strings -/
theorem map_str_app (ts : List S) (t : S) : (ts ++ [t]).map D.str = ts.map .str ++ [.str t] := by simp
structure Fls (dk ip it : Nat) (T0 : Tys) (st0 : Sto) (ps : List D) (T : Tys) (st : Sto) (m : Nat) (ts : List S) : Prop where
  gs : GS dk T st m
  go : Go T0 st0 T st
  lo : T0.length ≤ it
  ip0 : T0[ip]? = some .raw
  ip1 : st0[ip]? = some (.lst ps)
  itr : T[it]? = some .raw
  at_ : st[it]? = some (.lst (ts.map .str))
  pv : ∀ x ∈ ps, PV T0 7 x (wt 6)
  tl : ∀ t ∈ ts, t.length ≤ 100
theorem Fls.step {dk ip it : Nat} {T0 : Tys} {st0 : Sto} {ps : List D} {T T' : Tys} {st st' : Sto} {m m' : Nat} {ts : List S} (h : Fls dk ip it T0 st0 ps T st m ts) (g : GS dk T' st' m') (k : Go T st T' st') : Fls dk ip it T0 st0 ps T' st' m' ts :=
  ⟨g, h.go.trans k, h.lo, h.ip0, h.ip1, k.pre _ _ h.itr, by rw [k.fr _ h.itr]; exact h.at_, h.pv, h.tl⟩
theorem Fls.ipa {dk ip it : Nat} {T0 : Tys} {st0 : Sto} {ps : List D} {T : Tys} {st : Sto} {m : Nat} {ts : List S} (h : Fls dk ip it T0 st0 ps T st m ts) : st[ip]? = some (.lst ps) := by
  rw [h.go.fr _ h.ip0]
  exact h.ip1
theorem Fls.push {dk ip it : Nat} {T0 : Tys} {st0 : Sto} {ps : List D} {T : Tys} {st : Sto} {m : Nat} {ts : List S} (h : Fls dk ip it T0 st0 ps T st m ts) (t : S) (ht : t.length ≤ 100) : Fls dk ip it T0 st0 ps T (st.set it (.lst (ts.map .str ++ [.str t]))) m (ts ++ [t]) :=
  ⟨h.gs.putr h.itr _, h.go.put h.lo _, h.lo, h.ip0, h.ip1, h.itr, by rw [List.getElem?_set_self (lt_of_get h.at_), map_str_app], h.pv, fun u hu => by
    rw [List.mem_append] at hu
    rcases hu with hu | hu
    · exact h.tl u hu
    · rw [List.mem_singleton] at hu
      rw [hu]
      exact ht⟩
theorem Fls.le {dk ip it : Nat} {T0 : Tys} {st0 : Sto} {ps : List D} {T : Tys} {st : Sto} {m m' : Nat} {ts : List S} (h : Fls dk ip it T0 st0 ps T st m ts) (k : m ≤ m') : Fls dk ip it T0 st0 ps T st m' ts := ⟨h.gs.le k, h.go, h.lo, h.ip0, h.ip1, h.itr, h.at_, h.pv, h.tl⟩
/-- a tail is drawn -/
theorem tail_spec {P : Pg} (H : HasG P) (n : Nat) {dk ip it : Nat} {T0 : Tys} {st0 : Sto} {ps : List D} {T : Tys} {st : Sto} {m : Nat} {ts : List S} (F : Fls dk ip it T0 st0 ps T st m ts) (hm : m + 100 ≤ 100000000) (hts : ts.length ≤ 100) (rm at_ : Nat) (sl : Bool) (e6 e8 e9 e10 e11 e12 e13 e14 : Option D) (Q : Fl → Sto → Prop)
    (k : ∀ (T' : Tys) (st' : Sto) (t : S) (sl : Bool) (e10 e11 : Option D), Fls dk ip it T0 st0 ps T' st' (m + 20) (ts ++ [t]) → Q (.nx (fEnv dk rm ip it sl e6 (some (.int (at_ : Nat))) e8 e9 e10 e11 e12 e13 e14)) st') :
    WS (evSs P (callN P (n + 3)) [(.set 10 (.call 13 [(.var 0), (.int 4)])), (.set 11 (.bin .Add (.bin .Add (.bin .Mult (.str [32])
    (.call 13 [(.var 0), (.int 3)])) (.sub (.lst [(.str []), (.call 24 [(.var 0)])]) (.call 13 [(.var 0), (.int 2)]))) (.str [10]))), (.ife (.cmp .Eq (.var 10) (.int 0)) [(.set 11
    (.sub (.lst [(.str []), (.slc (.var 11) [] [(.neg (.int 1))])]) (.blt .int [(.cmp .Eq (.bin .Add (.var 7) (.int 1)) (.blt .len [(.var 3)]))])))] []), (.set 5 (.not (.mth
    .endswith (.var 11) [(.str [10])]))), (.expr (.mth .append (.var 4) [(.var 11)]))] (fEnv dk rm ip it sl e6 (some (.int (at_ : Nat))) e8 e9 e10 e11 e12 e13 e14) st) Q := by
  have i0 : ∀ xs : List D, L2.atI xs 0 = xs[0]? := fun xs => atI_nat xs 0
  have i1 : ∀ xs : List D, L2.atI xs 1 = xs[1]? := fun xs => atI_nat xs 1
  have end_ : ∀ (T' : Tys) (st' : Sto) (t : S) (e10 : Option D), t.length ≤ 100 → Fls dk ip it T0 st0 ps T' st' (m + 20) ts → WS (evSs P (callN P (n + 3)) [(.set 5 (.not (.mth
    .endswith (.var 11) [(.str [10])]))), (.expr (.mth .append (.var 4) [(.var 11)]))] (fEnv dk rm ip it sl e6 (some (.int (at_ : Nat))) e8 e9 e10 (some (.str t)) e12 e13 e14) st') Q := by
    intro T' st' t e10 ht F'
    have hlt : (ts.map D.str).length < LN := by rw [List.length_map]; unfold LN; omega
    simp_arith only [fEnv, F'.at_, hlt]
    exact k T' _ t _ _ _ (F'.push t ht)
  simp only [fEnv] at end_
  simp_arith [fEnv, W_call _ _ H.h13]
  refine draw_spec H.h13 (n + 2) F.gs 4 (by omega) (by decide) (by decide) _ ?_
  intro r st1 hr g1 go1
  have F1 := F.step g1 go1
  simp_arith []
  rw [QC_nx]
  simp_arith [W_call _ _ H.h13]
  refine draw_spec H.h13 (n + 2) g1 3 (by omega) (by decide) (by decide) _ ?_
  intro r2 st2 hr2 g2 go2
  have F2 := F1.step g2 go2
  have hok := okRep1 (r2 : Int) (by omega) (by omega)
  simp_arith [hok, Int.toNat_natCast, W_call _ _ H.h24]
  refine remark_spec H.h13 H.h24 (n + 1) g2 (by omega) _ ?_
  intro s T3 st3 hs1 hs2 g3 go3
  have F3 := F2.step g3 go3
  simp_arith []
  refine klst g3 (by unfold LN; simp) _ ?_
  intro i4 T4 st4 q4 e4 _ g4 go4
  have F4 := F3.step g4 go4
  simp_arith [W_call _ _ H.h13]
  refine draw_spec H.h13 (n + 2) g4 2 (by omega) (by decide) (by decide) _ ?_
  intro r5 st5 hr5 g5 go5
  have F5 := F4.step g5 go5
  have e5 := go5.fr _ q4
  rw [e4] at e5
  obtain ⟨x, hx, s', rfl, hs'⟩ := pick_at e5 r5 hr5 (fun x => ∃ s, x = .str s ∧ s.length ≤ 5) (by
    intro x hx
    simp at hx
    rcases hx with rfl | rfl
    · exact ⟨_, rfl, by simp⟩
    · exact ⟨_, rfl, by simp; omega⟩)
  have l1 : (reps [32] r2).length + s'.length ≤ LN := by rw [reps_len]; unfold LN; omega
  have l2 : (reps [32] r2 ++ s').length + 1 ≤ LN := by rw [List.length_append, reps_len]; unfold LN; omega
  simp_arith [e5, hx, l1, l2]
  have ht : ((reps [32] r2 ++ s') ++ [10]).length ≤ 100 := by
    rw [List.length_append, List.length_append, reps_len]
    simp
    omega
  generalize (reps [32] r2 ++ s') ++ [10] = t at ht
  rw [QC_nx]
  simp_arith []
  by_cases h0 : (r : Int) = 0
  · simp_arith [h0, QI_ap, Int.reduceNeg]
    refine klst g5 (by unfold LN; simp) _ ?_
    intro i6 T6 st6 q6 e6' _ g6 go6
    have F6 := F5.step g6 go6
    have hct := cut_lenth t none (some (-1 : Int))
    simp_arith [F6.ipa]
    by_cases hat : (at_ : Int) + 1 = (ps.length : Int)
    · simp_arith [hat, e6', i1]
      have := end_ T6 st6 (cut t none (some (-1 : Int))) (some (D.int 0)) (by omega) (F6.le (by omega))
      exact this
    · simp_arith [hat, e6', i0]
      have := end_ T6 st6 [] (some (D.int 0)) (by simp) (F6.le (by omega))
      exact this
  · simp_arith [h0, QI_ap]
    exact end_ T4 st5 t _ ht (F5.le (by omega))
end Mini

set_option Elab.async false
set_option linter.all false
set_option maxRecDepth 100000
set_option maxHeartbeats 4000000
namespace Mini
theorem GS.room {dk : Nat} {T : Tys} {st : Sto} {m : Nat} (h : GS dk T st m) (z : Int) : GS dk (T ++ [.room]) (st ++ [.lst [.int z]]) m := h.new _ .room ⟨z, last_at _ _⟩
theorem file_spec {P : Pg} (H : HasG P) (n : Nat) (hn : 45 ≤ n) {dk : Nat} {T : Tys} {st : Sto} {m : Nat} (g : GS dk T st m) (hm : m + 3000000 ≤ 100000000) (Q : D → Sto → Prop)
    (k : ∀ (ip it : Nat) (ps : List D) (ts : List S) (rest : S) (T' : Tys) (st' : Sto), st'[ip]? = some (.lst ps) → st'[it]? = some (.lst (ts.map .str)) → (∀ x ∈ ps, ∃ a, PV T' 7 x a ∧ a ≤ 20000) → ps.length ≤ 10 → (∀ t ∈ ts, t.length ≤ 100) → rest.length ≤ 100 → (txt st' ps ts rest).length ≤ 1900 →
      GS dk T' st' (m + 2000000) → Go T st T' st' → Q (.tup [.obj ip, .obj it, .str rest]) st') :
    W (callN P (n + 1) 26 [.obj dk, .int 4] st) Q := by
  obtain ⟨n, rfl⟩ : ∃ n', n = n' + 4 := ⟨n - 4, by omega⟩
  rw [callN, H.h26]
  simp_arith [f26]
  rw [KLst_ap]
  refine ⟨by unfold LN; simp, ?_⟩
  have gr := g.room 60
  have hrm : (T ++ [Ty.room])[st.length]? = some .room := g.wt.last _
  have gor : Go T st (T ++ [Ty.room]) (st ++ [O.lst [D.int 60]]) := Go.new g.wt.len _ _
  generalize hrmd : st.length = rm at hrm
  generalize st ++ [O.lst [D.int 60]] = st1 at gr gor
  generalize T ++ [Ty.room] = T1 at gr gor hrm
  simp_arith []
  rw [QC_nx]
  simp_arith [W_call _ _ H.h13]
  refine draw_spec H.h13 (n + 3) gr 5 (by omega) (by decide) (by decide) _ ?_
  intro r st2 hr g2 go2
  simp_arith []
  refine kcomp (rngL 0 r) (fun j acc st' => ∃ T', GS dk T' st' (m + 1 + j * 40000) ∧ Go T1 st2 T' st' ∧ acc.length = j ∧ ∀ x ∈ acc, PV T' 7 x (wt 6)) (by rw [rngL_lenth]; omega)
    (fun _ _ st' _ _ => walked_rng r (by omega) st') ⟨T1, g2.le (by omega), Go.rfl, rfl, by simp⟩ ?_ ?_ ?_
  · rintro j acc st' ⟨T', _, _, ha, _⟩ _
    omega
  · rintro j x acc st' hx hj ⟨T', g', go', ha, hp⟩
    rw [rngL_lenth] at hj
    have hj2 : j * 40000 ≤ 5 * 40000 := Nat.mul_le_mul_right _ (by omega)
    refine ⟨_, rfl, ?_⟩
    simp_arith only [W_call _ _ H.h22]
    refine item_spec H n (by omega) g' (go'.pre _ _ (go2.pre _ _ hrm)) (by omega) _ ?_
    intro s i T3 st3 q3 g3 go3
    refine ⟨T3, g3.le (by omega), go'.trans go3, by rw [List.length_append, ha]; rfl, ?_⟩
    intro x hx
    rw [List.mem_append] at hx
    rcases hx with hx | hx
    · exact (hp x hx).gr go3.gr (Nat.le_refl _)
    · rw [List.mem_singleton] at hx
      rw [hx]
      exact .node q3 (by omega)
  rintro ps st3 ⟨T3, g3, go3, hpl, hpv⟩ _
  rw [rngL_lenth] at hpl g3
  have hr5 : r * 40000 ≤ 4 * 40000 := Nat.mul_le_mul_right _ (by omega)
  have g4 := g3.raw (.lst ps)
  have go4 : Go T3 st3 (T3 ++ [Ty.raw]) (st3 ++ [O.lst ps]) := Go.new g3.wt.len _ _
  have hip : (T3 ++ [Ty.raw])[st3.length]? = some .raw := g3.wt.last _
  have hips : (st3 ++ [O.lst ps])[st3.length]? = some (.lst ps) := last_at _ _
  have goA := gor.trans (go2.trans (go3.trans go4))
  have hpv4 : ∀ x ∈ ps, PV (T3 ++ [Ty.raw]) 7 x (wt 6) := fun x hx => (hpv x hx).gr go4.gr (Nat.le_refl _)
  generalize hipd : st3.length = ip at hip hips
  generalize st3 ++ [O.lst ps] = st4 at g4 goA hips
  generalize T3 ++ [Ty.raw] = T4 at g4 goA hip hpv4
  simp_arith []
  rw [QC_nx]
  simp_arith []
  rw [KLst_ap]
  refine ⟨by unfold LN; simp, ?_⟩
  have F0 : Fls dk ip st4.length T4 st4 ps (T4 ++ [Ty.raw]) (st4 ++ [O.lst []]) (m + 1 + r * 40000) [] :=
    ⟨g4.raw _, Go.new g4.wt.len _ _, by rw [g4.wt.len]; exact Nat.le_refl _, hip, hips, g4.wt.last _, last_at _ _, hpv4, by simp⟩
  generalize hitd : st4.length = it at F0
  generalize st4 ++ [O.lst []] = st5 at F0
  generalize T4 ++ [Ty.raw] = T5 at F0
  simp_arith []
  rw [QC_nx]
  simp_arith []
  rw [QC_nx]
  simp_arith []
  have hrest : ∀ (T' : Tys) (st' : Sto) (ts : List S) (m' : Nat) (rest : S) (sl : Bool) (e7 e8 e9 e10 e11 e12 e13 e14 : Option D), m' ≤ m + 1900000 → rest.length ≤ 100 → Fls dk ip it T4 st4 ps T' st' m' ts →
      WS (evSs P (callN P (n + 4)) (f26.body.drop 7) (fEnv dk rm ip it sl (some (.str rest)) e7 e8 e9 e10 e11 e12 e13 e14) st') (QR Q) := by
    intro T' st' ts m' rest sl e7 e8 e9 e10 e11 e12 e13 e14 hm' hrl F
    obtain ⟨nn, rfl⟩ : ∃ n', n = n' + 5 := ⟨n - 5, by omega⟩
    simp_arith [f26, List.drop_succ_cons, List.drop_zero, fEnv, W_call _ _ H.h28]
    refine text_spec H nn F.gs.wt ip it ps ts rest F.ipa F.at_ (fun x hx => ⟨_, (F.pv x hx).gr F.go.gr (Nat.le_refl _), by rw [wt6]; decide⟩) (by omega) F.tl hrl _ ?_
    intro gg
    simp_arith []
    have gz := F.gs.grow gg
    have goz := goA.trans (F.go.trans (Go.grow F.gs.wt.len gg))
    by_cases hbig : (1900 : Int) < ((txt st' ps ts rest).length : Int)
    · simp_arith [hbig, QI_ap]
      refine klst gz (by unfold LN; simp) _ ?_
      intro ia Ta sta qa ea _ ga goa
      simp_arith []
      refine klst ga (by unfold LN; simp) _ ?_
      intro ib Tb stb qb eb _ gb gob
      simp_arith only []
      have ea' : stb[ia]? = some (.lst []) := by rw [gob.fr _ qa]; exact ea
      exact k ia ib [] [] [10] Tb stb ea' eb (by simp) (by simp) (by simp) (by simp) (by simp [txt]) (gb.le (by omega)) (goz.trans (goa.trans gob))
    · simp_arith [hbig, QI_ap]
      simp_arith only []
      refine k ip it ps ts rest _ _ (get_app F.ipa) (get_app F.at_) (fun x hx => ⟨_, (F.pv x hx).gr (F.go.gr.trans (Gr.app _ _)) (Nat.le_refl _), by rw [wt6]; decide⟩) (by omega) F.tl hrl ?_ (gz.le (by omega)) goz
      rw [txt_app F.gs.wt gg ps ts rest (fun x hx => ⟨_, (F.pv x hx).gr F.go.gr (Nat.le_refl _)⟩)]
      omega
  simp only [f26, List.drop_succ_cons, List.drop_zero, fEnv] at hrest
  have i0 : ∀ xs : List D, L2.atI xs 0 = xs[0]? := fun xs => atI_nat xs 0
  refine kfor (enumL 0 ps) (fun j env st' => ∃ T' ts sl e7 e8 e9 e10 e11 e12 e13 e14, env = fEnv dk rm ip it sl none e7 e8 e9 e10 e11 e12 e13 e14 ∧ ts.length = j ∧ Fls dk ip it T4 st4 ps T' st' (m + 1 + r * 40000 + j * 230000) ts) (by rw [enumL_len]; omega) ?_ ⟨T5, [], false, _, _, _, _, _, _, _, _, rfl, rfl, F0.le (by omega)⟩ ?_ ?_
  · rintro i env st' hi ⟨T', ts, sl, e7, e8, e9, e10, e11, e12, e13, e14, rfl, hts, F⟩
    exact walked_enum F.ipa
  · rintro j x env st' hx hj ⟨T', ts, sl, e7, e8, e9, e10, e11, e12, e13, e14, rfl, hts, F⟩
    rw [enumL_len] at hj
    rw [enumL_at, List.getElem?_eq_getElem hj] at hx
    simp at hx
    subst hx
    have hj2 : j * 230000 ≤ 4 * 230000 := Nat.mul_le_mul_right _ (by omega)
    have pv0 := F.pv _ (List.getElem_mem hj)
    generalize ps[j] = part at pv0
    have pv := pv0.gr F.go.gr (Nat.le_refl _)
    have h6 : wt 6 ≤ 20000 := by rw [wt6]; decide
    refine ⟨_, rfl, ?_⟩
    simp_arith [fEnv]
    rw [QC_nx]
    simp_arith [W_call _ _ H.h23, pv.nex]
    refine flat_spec H.h23 8 7 part _ T' st' F.gs.wt pv (by omega) h6 (n + 4) (by omega) _ ?_
    intro iw gw hge hiw
    have fw := fl_words F.gs.wt 8 7 part _ pv (by omega)
    have Fg := F.step (F.gs.grow gw) (Go.grow F.gs.wt.len gw)
    have hraw : (T' ++ List.replicate gw.length Ty.raw)[iw]? = some .raw := rep_raw F.gs.wt.len hge hiw
    simp_arith []
    refine gaps_loop H (n + 1) Fg.gs (by omega) iw _ hiw hraw (fun q hq => get_app (fw.1 q hq)) (by omega) rm ip it sl _ _ _ _ _ _ _ _ [] _ ?_
    intro T6 st6 b e13' e14' g6 go6
    have F6 := Fg.step g6 go6
    rw [QC_nx]
    refine tail_spec H (n + 1) F6 (by omega) (by omega) rm j sl _ _ _ _ _ _ _ _ _ ?_
    intro T7 st7 t sl' e10' e11' F7
    refine ⟨T7, _, sl', _, _, _, _, _, _, _, _, rfl, ?_, F7.le (by omega)⟩
    rw [List.length_append, hts]
    rfl
  · rintro env st' ⟨T', ts, sl, e7, e8, e9, e10, e11, e12, e13, e14, rfl, hts, F⟩
    rw [enumL_len] at F
    have hj2 : ps.length * 230000 ≤ 4 * 230000 := Nat.mul_le_mul_right _ (by omega)
    rw [QC_nx]
    simp_arith [fEnv]
    rw [QC_nx]
    simp_arith []
    cases sl with
    | true =>
      simp_arith [QI_ap]
      exact hrest T' st' ts _ [] true e7 e8 e9 e10 e11 e12 e13 e14 (by omega) (by simp) F
    | false =>
      simp_arith [QI_ap, W_call _ _ H.h13]
      refine draw_spec H.h13 (n + 3) F.gs 3 (by omega) (by decide) (by decide) _ ?_
      intro r8 st8 hr8 g8 go8
      have F8 := F.step g8 go8
      simp_arith []
      refine kfor (rngL 0 r8) (fun j env st' => ∃ T' rest e12, env = fEnv dk rm ip it false (some (.str rest)) e7 e8 e9 e10 e11 e12 e13 e14 ∧ rest.length ≤ 6 * j ∧ Fls dk ip it T4 st4 ps T' st' (m + 2 + r * 40000 + ps.length * 230000 + j * 10) ts) (by rw [rngL_lenth]; omega)
        (fun _ _ st' _ _ => walked_rng r8 (by omega) st') ⟨T', [], e12, rfl, by simp, F8.le (by omega)⟩ ?_ ?_
      · rintro j x env st9 hx hj ⟨T9, rest, e12', rfl, hrl, F9⟩
        rw [rngL_lenth] at hj
        obtain rfl := rngL_at hx
        refine ⟨_, rfl, ?_⟩
        simp_arith [fEnv, W_call _ _ H.h24]
        refine remark_spec H.h13 H.h24 (n + 2) F9.gs (by omega) _ ?_
        intro s Ta sta hs1 hs2 ga goa
        have Fa := F9.step ga goa
        have l1 : s.length + 1 + 1 ≤ LN := by unfold LN; omega
        simp_arith [l1]
        refine klst ga (by unfold LN; simp) _ ?_
        intro ib Tb stb qb eb _ gb gob
        have Fb := Fa.step gb gob
        simp_arith [W_call _ _ H.h13]
        refine draw_spec H.h13 (n + 3) gb 3 (by omega) (by decide) (by decide) _ ?_
        intro rc stc hrc gc goc
        have Fc := Fb.step gc goc
        have ec := goc.fr _ qb
        rw [eb] at ec
        obtain ⟨x, hx, s', rfl, hs'⟩ := pick_at ec rc hrc (fun x => ∃ s, x = .str s ∧ s.length ≤ 6) (by
          intro x hx
          simp at hx
          rcases hx with rfl | rfl | rfl
          · exact ⟨_, rfl, by simp⟩
          · exact ⟨_, rfl, by simp⟩
          · exact ⟨_, rfl, by simp; omega⟩)
        have l2 : rest.length + s'.length ≤ LN := by unfold LN; omega
        simp_arith only [ec, hx, l2]
        exact ⟨Tb, _, _, rfl, by rw [List.length_append]; omega, Fc.le (by omega)⟩
      · rintro env st9 ⟨T9, rest, e12', rfl, hrl, F9⟩
        rw [rngL_lenth] at hrl F9
        rw [QC_nx]
        simp_arith [fEnv, W_call _ _ H.h24]
        refine remark_spec H.h13 H.h24 (n + 2) F9.gs (by omega) _ ?_
        intro s Ta sta hs1 hs2 ga goa
        have Fa := F9.step ga goa
        simp_arith []
        refine klst ga (by unfold LN; simp) _ ?_
        intro ib Tb stb qb eb _ gb gob
        have Fb := Fa.step gb gob
        simp_arith [W_call _ _ H.h13]
        refine draw_spec H.h13 (n + 3) gb 2 (by omega) (by decide) (by decide) _ ?_
        intro rc stc hrc gc goc
        have Fc := Fb.step gc goc
        have ec := goc.fr _ qb
        rw [eb] at ec
        obtain ⟨x, hx, s', rfl, hs'⟩ := pick_at ec rc hrc (fun x => ∃ s, x = .str s ∧ s.length ≤ 6) (by
          intro x hx
          simp at hx
          rcases hx with rfl | rfl
          · exact ⟨_, rfl, by simp⟩
          · exact ⟨_, rfl, by simp; omega⟩)
        have l2 : rest.length + s'.length ≤ LN := by unfold LN; omega
        simp_arith [ec, hx, l2]
        exact hrest Tb stc ts _ (rest ++ s') false e7 e8 e9 e10 e11 e12' e13 e14 (by omega) (by rw [List.length_append]; omega) Fc
end Mini

set_option Elab.async false
set_option linter.all false
set_option maxRecDepth 100000
set_option maxHeartbeats 4000000
namespace Mini
theorem cut_from_len {α : Type} (xs : List α) (i : Nat) : (cut xs (some (i : Int)) none).length = xs.length - i := by
  unfold cut
  rw [HT.sIx_nat, HT.sIx_none, List.length_take, List.length_drop]
  omega
theorem cut_to_len {α : Type} (xs : List α) (i : Nat) : (cut xs none (some (i : Int))).length = min i xs.length := by
  unfold cut
  rw [HT.sIx_nat, HT.sIx_none, List.length_take, List.length_drop]
  omega
theorem cut_mid_len {α : Type} (xs : List α) (i k : Nat) : (cut xs (some (i : Int)) (some ((i + k : Nat) : Int))).length ≤ k := by
  unfold cut
  rw [HT.sIx_nat, HT.sIx_nat, List.length_take]
  omega
theorem okRep01 (n : Nat) (hn : n ≤ 100) : okRep n 0 = true ∧ okRep n 1 = true := by
  unfold okRep LN
  simp
  omega
theorem reps_one {α : Type} (xs : List α) : reps xs 1 = xs := by
  unfold reps
  simp
theorem spoilt_spec {P : Pg} (H : HasG P) (n : Nat) {dk : Nat} {T : Tys} {st : Sto} {m : Nat} (g : GS dk T st m) (hm : m + 1000 ≤ 100000000) (t : S) (ht : t.length ≤ 1900) (Q : D → Sto → Prop)
    (k : ∀ (t' : S) (T' : Tys) (st' : Sto), t'.length ≤ 1950 → GS dk T' st' (m + 100) → Go T st T' st' → Q (.str t') st') :
    W (callN P (n + 2) 29 [.obj dk, .str t] st) Q := by
  rw [callN, H.h29]
  simp_arith [f29]
  refine klst g (by unfold LN; simp) _ ?_
  intro iz Tz stz qz ez _ gz goz
  simp_arith []
  rw [QC_nx]
  simp_arith [W_call _ _ H.h13]
  refine draw_spec H.h13 n gz 5 (by omega) (by decide) (by decide) _ ?_
  intro r st1 hr g1 go1
  simp_arith []
  refine kfor (rngL 0 r) (fun j env st' => ∃ T' t' e3 e4 e5 e6, env = [some (.obj dk), some (.str t'), some (.obj iz), e3, e4, e5, e6] ∧ t'.length ≤ 1900 + 10 * j ∧ GS dk T' st' (m + 1 + 4 * j) ∧ Go Tz stz T' st') (by rw [rngL_lenth]; omega)
    (fun _ _ st' _ _ => walked_rng r (by omega) st') ⟨Tz, t, _, _, _, _, rfl, by omega, g1.le (by omega), go1⟩ ?_ ?_
  · rintro j x env st' hx hj ⟨T', t', e3, e4, e5, e6, rfl, ht', g', go'⟩
    rw [rngL_lenth] at hj
    obtain rfl := rngL_at hx
    refine ⟨_, rfl, ?_⟩
    have e1 : (t'.length : Int) + 1 = ((t'.length + 1 : Nat) : Int) := by omega
    simp_arith [e1, W_call _ _ H.h13]
    refine draw_spec H.h13 n g' (t'.length + 1) (by omega) (by omega) (by omega) _ ?_
    intro ra sta hra ga goa
    simp_arith []
    rw [QC_nx]
    simp_arith []
    refine klst ga (by unfold LN; simp) _ ?_
    intro ib Tb stb qb eb _ gb gob
    simp_arith [W_call _ _ H.h13]
    refine draw_spec H.h13 n gb 5 (by omega) (by decide) (by decide) _ ?_
    intro rc stc hrc gc goc
    have ec := goc.fr _ qb
    rw [eb] at ec
    obtain ⟨x, hx, q, rfl, hq⟩ := pick_at ec rc hrc (fun x => ∃ q : Nat, x = .int (q : Int) ∧ q ≤ 9) (by
      intro x hx
      simp at hx
      rcases hx with rfl | rfl | rfl | rfl
      · exact ⟨0, rfl, by decide⟩
      · exact ⟨1, rfl, by decide⟩
      · exact ⟨2, rfl, by decide⟩
      · exact ⟨9, rfl, by decide⟩)
    have e2 : (ra : Int) + (q : Int) = ((ra + q : Nat) : Int) := by omega
    simp_arith [ec, hx, e2]
    rw [QC_nx]
    simp_arith [W_call _ _ H.h13]
    refine draw_spec H.h13 n gc 20 (by omega) (by decide) (by decide) _ ?_
    intro rd std hrd gd god
    have hz : std[iz]? = stz[iz]? := by
      have h1 := go'.pre _ _ qz
      rw [god.fr _ (goc.pre _ _ (gob.pre _ _ (goa.pre _ _ h1))), goc.fr _ (gob.pre _ _ (goa.pre _ _ h1)), gob.fr _ (goa.pre _ _ h1), goa.fr _ h1, go'.fr _ qz]
    rw [ez] at hz
    obtain ⟨x2, hx2, s, rfl, hs⟩ := pick_at hz rd hrd (fun x => ∃ s : S, x = .str s ∧ s.length ≤ 4) (by simp)
    have e3 : (ra : Int) + 6 = ((ra + 6 : Nat) : Int) := by omega
    simp_arith [hz, hx2, e3, W_call _ _ H.h13]
    refine draw_spec H.h13 n gd 6 (by omega) (by decide) (by decide) _ ?_
    intro re ste hre ge goe
    have hmid := cut_mid_len t' ra 6
    have hok := okRep01 (cut t' (some (ra : Int)) (some ((ra + 6 : Nat) : Int))).length (by omega)
    have fin : ∀ more : S, more.length ≤ 10 → WS (evSs P (callN P (n + 1)) [(.set 1 (.bin .Add (.bin .Add (.slc (.var 1) [] [(.var 4)]) (.var 6)) (.slc (.var 1) [(.var 5)] [])))] [some (.obj dk), some (.str t'), some (.obj iz), some (.int (j : Int)), some (.int (ra : Int)), some (.int ((ra + q : Nat) : Int)), some (.str more)] ste)
        (fun fl st2 => match fl with
        | .nx env2 => ∃ T' t' e3 e4 e5 e6, env2 = [some (.obj dk), some (.str t'), some (.obj iz), e3, e4, e5, e6] ∧ t'.length ≤ 1900 + 10 * (j + 1) ∧ GS dk T' st2 (m + 1 + 4 * (j + 1)) ∧ Go Tz stz T' st2
        | .ct env2 => ∃ T' t' e3 e4 e5 e6, env2 = [some (.obj dk), some (.str t'), some (.obj iz), e3, e4, e5, e6] ∧ t'.length ≤ 1900 + 10 * (j + 1) ∧ GS dk T' st2 (m + 1 + 4 * (j + 1)) ∧ Go Tz stz T' st2
        | .rt d => QC P (callN P (n + 1)) [.ret (.var 1)] (QR Q) (.rt d) st2
        | _ => False) := by
      intro more hmore
      have h1 := cut_to_len t' ra
      have h2 := cut_from_len t' (ra + q)
      have l1 : (cut t' none (some (ra : Int))).length + more.length ≤ LN := by unfold LN; omega
      have l2 : (cut t' none (some (ra : Int)) ++ more).length + (cut t' (some ((ra + q : Nat) : Int)) none).length ≤ LN := by rw [List.length_append]; unfold LN; omega
      simp_arith only [l1, l2]
      exact ⟨_, _, _, _, _, _, rfl, by rw [List.length_append, List.length_append]; omega, ge.le (by omega), go'.trans (goa.trans (gob.trans (goc.trans (god.trans goe))))⟩
    by_cases h0 : (re : Int) = 0
    · have l3 : s.length + (cut t' (some (ra : Int)) (some ((ra + 6 : Nat) : Int))).length ≤ LN := by unfold LN; omega
      simp_arith [h0, hok.2, Int.toNat_one, reps_one, l3]
      exact fin _ (by rw [List.length_append]; omega)
    · have l3 : s.length ≤ LN := by unfold LN; omega
      simp_arith [h0, hok.1, Int.toNat_zero, reps_zero, l3]
      exact fin _ (by rw [List.length_append]; simp; omega)
  · rintro env st' ⟨T', t', e3, e4, e5, e6, rfl, ht', g', go'⟩
    rw [rngL_lenth] at ht' g'
    simp_arith only []
    exact k t' T' st' (by omega) (g'.le (by omega)) (goz.trans go')
theorem any_spec {P : Pg} (H : HasG P) (n : Nat) (hn : 45 ≤ n) {dk : Nat} {T : Tys} {st : Sto} {m : Nat} (g : GS dk T st m) (hm : m + 3100000 ≤ 100000000) (Q : D → Sto → Prop)
    (k : ∀ (t : S) (T' : Tys) (st' : Sto), t.length ≤ 1950 → GS dk T' st' (m + 2100000) → Go T st T' st' → Q (.str t) st') :
    W (callN P (n + 2) 30 [.obj dk] st) Q := by
  rw [callN, H.h30]
  simp_arith [f30, W_call _ _ H.h13]
  refine draw_spec H.h13 n g 4 (by omega) (by decide) (by decide) _ ?_
  intro r st1 hr g1 go1
  simp_arith []
  by_cases h0 : (r : Int) = 0
  · have l29 : (29 : Nat) ≤ LN := by unfold LN; decide
    simp_arith [h0, QI_ap, l29]
    rw [QC_nx]
    simp_arith [W_call _ _ H.h13]
    refine draw_spec H.h13 n g1 90 (by omega) (by decide) (by decide) _ ?_
    intro r2 st2 hr2 g2 go2
    simp_arith []
    refine kcomp_signs (M := 29) H.h13 n g2 [32, 10, 35, 34, 59, 40, 41, 91, 93, 44, 43, 45, 42, 60, 61, 97, 98, 48, 49, 57, 105, 115, 100, 101, 102, 90, 95, 64, 39] r2 90 (by omega) (by decide) (by omega) rfl (by decide) (by decide) (fun x st => by simp_arith! only []) (fun x => by simp_arith! only []) _ ?_
    intro cs st3 hin hcs g3 go3
    have hs : cs.length ≤ LN := by unfold LN; omega
    simp_arith! only [last_at, strs_signs, sum_signs, join_signs, hs]
    exact k cs _ _ (by omega) ((g3.raw _).le (by omega)) (go1.trans (go2.trans (go3.trans (Go.new g3.wt.len _ _))))
  · simp_arith [h0, QI_ap]
    rw [QC_nx]
    simp_arith [W_call _ _ H.h29, W_call _ _ H.h28, W_call _ _ H.h26]
    refine file_spec H n hn g1 (by omega) _ ?_
    intro ip it ps ts rest T2 st2 hip hit hps hpl hts hrl htx g2 go2
    obtain ⟨nn, rfl⟩ : ∃ n', n = n' + 8 := ⟨n - 8, by omega⟩
    simp_arith []
    refine text_spec H nn g2.wt ip it ps ts rest hip hit hps hpl hts hrl _ ?_
    intro gg
    simp_arith []
    refine spoilt_spec H (nn + 7) (g2.grow gg) (by omega) _ htx _ ?_
    intro t' T3 st3 ht' g3 go3
    simp_arith only []
    exact k t' T3 st3 ht' (g3.le (by omega)) (go1.trans (go2.trans ((Go.grow g2.wt.len gg).trans go3)))
theorem deck_spec {P : Pg} (h12 : P.fn 12 = some f12) (n : Nat) (ns : List Int) (Q : D → Sto → Prop)
    (k : ∀ (dk : Nat) (T : Tys) (st : Sto), GS dk T st 0 → Q (.obj dk) st) : W (callN P (n + 1) 12 [.rol (ns.map .int)] []) Q := by
  rw [callN, h12]
  have h63 : (63 : Int) = ((63 : Nat) : Int) := rfl
  have hcut : cut (ns.map D.int) none (some (63 : Int)) = (ns.take 63).map .int := by
    unfold cut
    rw [h63, HT.sIx_nat, HT.sIx_none, List.drop_zero, List.length_map, ← List.map_take]
    congr 1
    rw [Nat.sub_zero]
    rw [List.take_eq_take_iff]
    omega
  have hms : (ns.take 63).length ≤ 63 := by rw [List.length_take]; omega
  generalize ns.take 63 = ms at hcut hms
  simp_arith! only [f12, hcut]
  refine kcomp (ms.map .int) (fun j acc st' => st' = [.lst (ms.map .int)] ∧ acc = (ms.take j).map (fun z => .int (if z < 0 then -z else z))) (by rw [List.length_map]; omega) ?_ ⟨rfl, rfl⟩ ?_ ?_ ?_
  · rintro i acc st' hi ⟨rfl, _⟩
    rfl
  · rintro i acc st' ⟨rfl, rfl⟩ hi
    rw [List.length_map, List.length_take]
    omega
  · rintro i x acc st' hx hi ⟨rfl, rfl⟩
    rw [List.length_map] at hi
    rw [List.getElem?_map, List.getElem?_eq_getElem hi] at hx
    simp only [Option.map_some, Option.some.injEq] at hx
    subst hx
    refine ⟨_, rfl, ?_⟩
    simp_arith! only []
    rw [List.take_add_one, List.getElem?_eq_getElem hi, List.map_append]
    rfl
  · rintro ys st' ⟨rfl, rfl⟩ hy
    rw [List.length_map, List.take_length]
    simp_arith! only []
    refine k 2 [.raw, .cells, .deck] _ ⟨⟨rfl, ?_⟩, rfl, 1, 0, 0, 0, rfl, Nat.le_refl _⟩
    intro i t hi
    match i, hi with
    | 0, hi =>
      cases hi
      trivial
    | 1, hi =>
      cases hi
      refine ⟨ms.map (fun z => if z < 0 then -z else z), ?_, ?_⟩
      · simp [List.map_map]
      · intro z hz
        rw [List.mem_map] at hz
        obtain ⟨y, _, rfl⟩ := hz
        split <;> omega
    | 2, hi =>
      cases hi
      exact ⟨1, 0, 0, 0, rfl, rfl⟩
    | i + 3, hi => cases hi
end Mini

set_option Elab.async false
set_option linter.all false
set_option maxRecDepth 100000
set_option maxHeartbeats 4000000
namespace Mini
theorem kwhl {P : Pg} {call : Nat → List D → Sto → Mx D} {c : CE} {body : List CS} (I : Nat → Env → Sto → Prop) {env : Env} {st : Sto} {Q : Fl → Sto → Prop} (m : Nat) (hm : m < 1000000) (h0 : I m env st)
    (step : ∀ m env st, I m env st → W (evE P call c env st) (KT fun b st1 => (b = true → WS (evSs P call body env st1) (fun fl st2 => match fl with
        | .nx env2 => ∃ m', m' < m ∧ I m' env2 st2
        | .ct env2 => ∃ m', m' < m ∧ I m' env2 st2
        | .rt d => Q (.rt d) st2
        | _ => False)) ∧ (¬ b = true → Q (.nx env) st1))) :
    WS (evS P call (.whl c body) env st) Q := by
  have := wh_ind (T := fun env st => evT P call c env st) (B := fun env st => evSs P call body env st) I (fun fl st => okFl fl ∧ Q fl st) (fun m env st hI => by
    have h := step m env st hI
    rw [← W_T] at h
    obtain ⟨b, st1, h1, h2⟩ := h
    cases b with
    | false => exact .inl ⟨st1, h1, trivial, h2.2 (by simp)⟩
    | true =>
      obtain ⟨fl, st2, h3, h4, h5⟩ := h2.1 rfl
      cases fl with
      | nx env2 =>
        obtain ⟨m', h6, h7⟩ := h5
        exact .inr (.inl ⟨st1, env2, st2, m', h1, .inl h3, h6, h7⟩)
      | ct env2 =>
        obtain ⟨m', h6, h7⟩ := h5
        exact .inr (.inl ⟨st1, env2, st2, m', h1, .inr h3, h6, h7⟩)
      | rt d => exact .inr (.inr ⟨st1, d, st2, h1, h3, trivial, h5⟩)
      | bk e => exact absurd h5 (fun z => z)
      | exc e c fs => exact absurd h4 (by simp [okFl])) m env st FU h0 (by rw [FU_eq]; omega)
  obtain ⟨fl, st', h1, h2, h3⟩ := this
  exact ⟨fl, st', by rw [evS]; exact h1, h2, h3⟩
theorem set_last (st : Sto) (o o' : O) : (st ++ [o]).set st.length o' = st ++ [o'] := by
  rw [List.set_append_right _ _ (Nat.le_refl _), Nat.sub_self]
  rfl
theorem W_eq {α : Type} {m : Mx α} {a : α} {st : Sto} (h : m = some (.ok a, st)) (Q : α → Sto → Prop) (q : Q a st) : W m Q := ⟨a, st, h, q⟩
/-! ### alike -/
inductive Pur : Nat → D → Prop
  | str {N : Nat} (s : S) : Pur N (.str s)
  | int {N : Nat} (i : Int) : Pur N (.int i)
  | tup {N : Nat} {xs : List D} : (∀ x ∈ xs, Pur N x) → xs.length ≤ 100000 → Pur (N + 1) (.tup xs)
theorem eqD_nil {st : Sto} {a b : Nat} (h1 : st[a]? = some (.lst [])) (h2 : st[b]? = some (.lst [])) : eqD st (.obj a) (.obj b) = some true := by
  unfold eqD
  simp only [toPy, isSome_at h1, isSome_at h2, mapO, Option.map_some]
  unfold PySem.PyData.eqv
  rfl
theorem kb1 : isiD "tuple" ["tuple", "list"] = some true := by decide
theorem kb2 : isiD "tuple" ["list"] = some false := by decide
theorem kb3 : isiD "tuple" ["tuple"] = some true := by decide
theorem kb4 : isiD "str" ["tuple", "list"] = some false := by decide
theorem kb5 : isiD "int" ["tuple", "list"] = some false := by decide
theorem kb6 : isiD "str" ["bool"] = some false := by decide
theorem kb7 : isiD "int" ["bool"] = some false := by decide
theorem kb8 : isiD "str" ["str"] = some true := by decide
theorem kb9 : isiD "int" ["str"] = some false := by decide
theorem same_refl {P : Pg} (h31 : P.fn 31 = some f31) : ∀ (N : Nat) (d : D), Pur N d → ∀ (n : Nat) (st : Sto), N + 1 ≤ n → ∀ Q : D → Sto → Prop, (∀ g : Sto, Q (.bl true) (st ++ g)) → W (callN P n 31 [d, d] st) Q := by
  intro N
  induction N with
  | zero =>
    intro d p n st hn Q k
    obtain ⟨n, rfl⟩ : ∃ n', n = n' + 1 := ⟨n - 1, by omega⟩
    rw [callN, h31]
    have k0 := k []
    rw [List.append_nil] at k0
    cases p with
    | str s =>
      simp_arith! only [f31, kb4, kb6, kb8]
      exact k0
    | int i =>
      simp_arith! only [f31, kb5, kb7, kb9]
      exact k0
  | succ N ih =>
    intro d p n st hn Q k
    obtain ⟨n, rfl⟩ : ∃ n', n = n' + 1 := ⟨n - 1, by omega⟩
    have k0 := k []
    rw [List.append_nil] at k0
    rw [callN, h31]
    cases p with
    | str s =>
      simp_arith! only [f31, kb4, kb6, kb8]
      exact k0
    | int i =>
      simp_arith! only [f31, kb5, kb7, kb9]
      exact k0
    | tup hp hl =>
      rename_i xs
      simp_arith! only [f31, kb1, kb2, kb3]
      refine kcomp (rngL 0 xs.length) (fun j acc st' => acc = [] ∧ ∃ g, st' = st ++ g) (by rw [rngL_lenth]; omega) (fun _ _ st' _ _ => walked_rng xs.length (by omega) st') ⟨rfl, [], by simp⟩ (fun j acc st' ⟨h, _⟩ _ => by rw [h]; simp) ?_ ?_
      · rintro j x acc st' hx hj ⟨rfl, g, rfl⟩
        rw [rngL_lenth] at hj
        obtain rfl := rngL_at hx
        refine ⟨_, rfl, ?_⟩
        have e : L2.atI xs (j : Int) = some xs[j] := by rw [atI_nat]; exact List.getElem?_eq_getElem hj
        simp_arith! only [e, W_call _ _ h31]
        refine ih _ (hp _ (List.getElem_mem hj)) n _ (by omega) _ ?_
        intro g2
        simp_arith! only []
        exact ⟨g ++ g2, by simp⟩
      · rintro ys st' ⟨rfl, g, rfl⟩ _
        simp_arith []
        rw [KLst_ap]
        refine ⟨by unfold LN; simp, ?_⟩
        have e := eqD_nil (st := ((st ++ g) ++ [O.lst []]) ++ [O.lst []]) (a := (st ++ g).length) (b := ((st ++ g) ++ [O.lst []]).length) (get_app (last_at _ _)) (last_at _ _)
        simp_arith! only [e]
        have := k (g ++ ([O.lst []] ++ [O.lst []]))
        simp only [← List.append_assoc] at this
        exact this
/-! ### words_of -/
theorem wordW_pos : ∀ (l : S), l ≠ [] → 1 ≤ (wordW l).2 ∧ (wordW l).2 ≤ l.length := by
  intro l hl
  cases l with
  | nil => exact absurd rfl hl
  | cons c r =>
    have hrun : ∀ cs : S, c ∈ cs → 1 ≤ runLen cs (c :: r) := by
      intro cs hc
      unfold runLen
      rw [List.takeWhile_cons, if_pos (by simpa using hc)]
      simp
    unfold wordW
    by_cases h1 : c ∈ smallL
    · simp only [h1, if_true, lettersW]
      exact ⟨hrun _ h1, runLen_le _ _⟩
    · by_cases h2 : c ∈ figL
      · simp only [h1, h2, if_true, if_false, figuresW]
        exact ⟨hrun _ h2, runLen_le _ _⟩
      · by_cases h3 : c = 34
        · simp only [h1, h2, h3, if_true, if_false]
          simp only [h3] at h1 h2
          simp only [h1, h2, if_false, quoteW]
          split
          · rename_i h
            have := lt_of_get (toC_get h.1)
            simp at this ⊢
            omega
          · simp
        · simp only [h1, h2, h3, if_false]
          simp
/-- the words of a text, and the rest -/
def wl (l : S) : List (S × S × S) × S :=
  if h : gm false l < l.length then
    (((wordW (l.drop (gm false l))).1, l.take (gm false l), (l.drop (gm false l)).take (wordW (l.drop (gm false l))).2) :: (wl ((l.drop (gm false l)).drop (wordW (l.drop (gm false l))).2)).1, (wl ((l.drop (gm false l)).drop (wordW (l.drop (gm false l))).2)).2)
  else ([], l)
termination_by l.length
decreasing_by
  all_goals
    have hne : l.drop (gm false l) ≠ [] := by
      intro e
      have := congrArg List.length e
      rw [List.length_drop] at this
      simp at this
      omega
    have := (wordW_pos _ hne).1
    rw [List.length_drop, List.length_drop]
    omega
def wdD (w : S × S × S) : D := .tup [.str w.1, .str w.2.1, .str w.2.2]
theorem look_spec {P : Pg} (H : HasW P) (n : Nat) (t : S) (st : Sto) (hl : t.length ≤ 2000) (Q : D → Sto → Prop) (k : Q .non st) : W (callN P (n + 2) 2 [.str t] st) Q := by
  rw [callN, H.h2]
  simp_arith! only [f2, W_call _ _ H.h1]
  rw [callN, H.h1]
  have h : ¬ (2000 : Int) < (t.length : Int) := by omega
  simp_arith! only [f1, kb8, H.h35, e35, h]
  exact k
theorem words_of_spec {P : Pg} (H : HasW P) (n : Nat) (t : S) (st : Sto) (hl : t.length ≤ 2000) (Q : D → Sto → Prop)
    (k : ∀ g : Sto, Q (.tup [.tup ((wl t).1.map wdD), .str (wl t).2]) (st ++ g)) : W (callN P (n + 4) 10 [.str t] st) Q := by
  rw [callN, H.h10]
  simp_arith! only [f10, W_call _ _ H.h2, W_call _ _ H.h5]
  refine look_spec H (n + 1) t st hl _ ?_
  simp_arith []
  rw [QC_nx]
  simp_arith! only [W_call _ _ H.h5]
  refine W_eq (gap_end_spec H.h4 H.h5 (n + 1) t 0 _ (by omega) hl) _ ?_
  simp_arith []
  rw [QC_nx]
  simp_arith []
  refine kwhl (fun m env st' => ∃ (a : Nat) (acc : List (S × S × S)) (e4 e5 : Option D), a ≤ t.length ∧ m = t.length - a ∧ env = [some (.str t), some (.obj st.length), some (.int (a : Int)), some (.int ((gapEnd t a : Nat) : Int)), e4, e5] ∧ st' = st ++ [.lst (acc.map wdD)] ∧ acc.length ≤ a ∧ acc ++ (wl (t.drop a)).1 = (wl t).1 ∧ (wl (t.drop a)).2 = (wl t).2) t.length (by omega) ⟨0, [], none, none, by omega, by omega, rfl, rfl, by simp, by simp, by simp⟩ ?_
  rintro m env st' ⟨a, acc, e4, e5, ha, rfl, rfl, rfl, hacc, hw1, hw2⟩
  have hge := gapEnd_le ha
  simp_arith []
  by_cases hlt : ((gapEnd t a : Nat) : Int) < (t.length : Int)
  · simp_arith [hlt]
    have hlt' : gapEnd t a < t.length := by omega
    have hgm : gm false (t.drop a) < (t.drop a).length := by
      rw [List.length_drop]
      unfold gapEnd at hlt'
      omega
    have hdr : (t.drop a).drop (gm false (t.drop a)) = t.drop (gapEnd t a) := by
      rw [List.drop_drop]
      rfl
    have hne : t.drop (gapEnd t a) ≠ [] := by
      intro e
      have := congrArg List.length e
      rw [List.length_drop] at this
      simp at this
      omega
    have hpos := wordW_pos _ hne
    rw [List.length_drop] at hpos
    have hwl := wl.eq_1 (t.drop a)
    rw [dif_pos hgm, hdr, List.drop_drop] at hwl
    simp_arith [W_call _ _ H.h9]
    refine W_eq (word_at_spec H n t (gapEnd t a) _ hlt' hl) _ ?_
    generalize hwd : wordW (t.drop (gapEnd t a)) = w at hpos hwl
    have hcut1 := cut_nat t a (gapEnd t a) ha hge
    have hcut2 := cut_nat t (gapEnd t a) (gapEnd t a + w.2) hge (by omega)
    have hln : (acc.map wdD).length < LN := by rw [List.length_map]; unfold LN; omega
    simp_arith [toW]
    rw [QC_nx]
    simp_arith [last_at, hcut1, hcut2, hln, set_last]
    rw [QC_nx]
    simp_arith []
    rw [QC_nx]
    simp_arith [W_call _ _ H.h5]
    refine W_eq (gap_end_spec H.h4 H.h5 (n + 1) t (gapEnd t a + w.2) _ (by omega) hl) _ ?_
    simp_arith only []
    have hga : a ≤ gapEnd t a := by unfold gapEnd; omega
    refine ⟨t.length - (gapEnd t a + w.2), by omega, gapEnd t a + w.2, acc ++ [(w.1, (t.drop a).take (gapEnd t a - a), (t.drop (gapEnd t a)).take (gapEnd t a + w.2 - gapEnd t a))], _, _, by omega, rfl, rfl, ?_, ?_, ?_, ?_⟩
    · rw [List.map_append]
      rfl
    · rw [List.length_append]
      simp
      omega
    · rw [← hw1, hwl]
      have e1 : gapEnd t a - a = gm false (t.drop a) := by unfold gapEnd; omega
      have e2 : gapEnd t a + w.2 - gapEnd t a = w.2 := by omega
      rw [e1, e2, List.append_assoc]
      rfl
    · rw [← hw2, hwl]
  · simp_arith [hlt]
    rw [QC_nx]
    have hgm : ¬ gm false (t.drop a) < (t.drop a).length := by
      rw [List.length_drop]
      unfold gapEnd at hlt
      omega
    have hwl := wl.eq_1 (t.drop a)
    rw [dif_neg hgm] at hwl
    have hcut := cut_from t a ha
    simp_arith only [last_at, hcut]
    have := k [.lst (acc.map wdD)]
    rw [← hw1, ← hw2, hwl, List.append_nil] at this
    exact this
end Mini

set_option Elab.async false
set_option linter.all false
set_option maxRecDepth 100000
set_option maxHeartbeats 4000000
namespace Mini
/-! ### remarks -/
mutual
def rmA : S → List S
  | [] => []
  | c :: r => if c = 35 then rmB [35] r else rmA r
def rmB : S → S → List S
  | acc, [] => [acc]
  | acc, c :: r => if c = 10 then acc :: rmA r else rmB (acc ++ [c]) r
end
theorem rmA_nil : rmA [] = [] := by rw [rmA]
theorem rmA_c {c : Nat} (r : S) (h : c ≠ 35) : rmA (c :: r) = rmA r := by rw [rmA, if_neg h]
theorem rmB_eq : ∀ (r acc : S), rmB acc r = (acc ++ r.take (toC 10 r)) :: rmA (r.drop (toC 10 r))
  | [], acc => by
    rw [rmB]
    simp [rmA]
  | c :: r, acc => by
    rw [rmB]
    by_cases h : c = 10
    · rw [if_pos h, toC_cons_eq h]
      simp
      rw [rmA_c r (by omega)]
    · rw [if_neg h, rmB_eq r, toC_cons_ne h]
      simp
theorem rmA_skip : ∀ l : S, rmA l = rmA (l.drop (toC 35 l))
  | [] => by simp
  | c :: r => by
    by_cases h : c = 35
    · rw [toC_cons_eq h]
      rfl
    · rw [toC_cons_ne h, rmA_c r h, rmA_skip r]
      rfl
theorem rmA_none : ∀ {l : S}, 35 ∉ l → rmA l = []
  | [], _ => rmA_nil
  | c :: r, h => by
    simp at h
    rw [rmA_c r (by omega), rmA_none h.2]
/-- at a remark's begin -/
theorem rmA_at {l r : S} (h : l = 35 :: r) : rmA l = l.take (toC 10 l) :: rmA (l.drop (toC 10 l)) := by
  subst h
  rw [rmA, if_pos rfl, rmB_eq, toC_cons_ne (by decide)]
  simp
theorem remarks_spec {P : Pg} (h4 : P.fn 4 = some f4) (h11 : P.fn 11 = some f11) (n : Nat) (t : S) (st : Sto) (hl : t.length ≤ 100000) (Q : D → Sto → Prop)
    (k : ∀ g : Sto, Q (.tup ((rmA t).map .str)) (st ++ g)) : W (callN P (n + 2) 11 [.str t] st) Q := by
  rw [callN, h11]
  simp_arith [f11]
  rw [KLst_ap]
  refine ⟨by unfold LN; simp, ?_⟩
  simp_arith []
  rw [QC_nx]
  simp_arith [findS_eq]
  rw [QC_nx]
  simp_arith []
  refine kwhl (fun m env st' => ∃ (z : Int) (acc : List S) (e3 : Option D), env = [some (.str t), some (.obj st.length), some (.int z), e3] ∧ st' = st ++ [.lst (acc.map .str)] ∧ ((z < 0 ∧ m = 0 ∧ acc = rmA t) ∨ (∃ a : Nat, z = (a : Int) ∧ m = t.length - a ∧ acc.length ≤ a ∧ a < t.length ∧ t[a]? = some 35 ∧ acc ++ rmA (t.drop a) = rmA t))) (if 35 ∈ t then t.length - toC 35 t else 0) (by split <;> omega) ⟨_, [], none, rfl, rfl, ?_⟩ ?_
  · by_cases h : 35 ∈ t
    · rw [if_pos h, if_pos h]
      refine .inr ⟨toC 35 t, by simp, rfl, by simp, lt_of_get (toC_get h), toC_get h, ?_⟩
      rw [← rmA_skip]
      rfl
    · rw [if_neg h, if_neg h]
      exact .inl ⟨by decide, rfl, (rmA_none h).symm⟩
  · rintro m env st' ⟨z, acc, e3, rfl, rfl, hz⟩
    rcases hz with ⟨hz, _, rfl⟩ | ⟨a, rfl, rfl, hacc, ha, hget, hr⟩
    · have hn : ¬ (0 : Int) ≤ z := by omega
      simp_arith [hn]
      rw [QC_nx]
      simp_arith! only [last_at]
      exact k _
    · have hp : (0 : Int) ≤ (a : Int) := by omega
      have hd : t.drop a = 35 :: t.drop (a + 1) := by
        rw [List.getElem?_eq_getElem ha] at hget
        have e35 : t[a] = 35 := Option.some.inj hget
        rw [List.drop_eq_getElem_cons ha, e35]
      have hle := lineEnd_le (t := t) (a := a) (by omega)
      have hgt : a < lineEnd t a := by
        unfold lineEnd
        rw [hd, toC_cons_ne (by omega)]
        omega
      simp_arith [hp, W_call _ _ h4]
      refine W_eq (line_end_spec h4 n t a _ (by omega)) _ ?_
      simp_arith []
      rw [QC_nx]
      have hcut := cut_nat t a (lineEnd t a) (by omega) hle
      have hln : (acc.map D.str).length < LN := by rw [List.length_map]; unfold LN; omega
      simp_arith [last_at, hcut, hln, set_last]
      rw [QC_nx]
      have hrng : (0 : Int) ≤ ((lineEnd t a : Nat) : Int) ∧ ((lineEnd t a : Nat) : Int) ≤ (t.length : Int) := by omega
      simp_arith only [hrng, Int.toNat_natCast, findS_eq]
      have hrm := rmA_at hd
      have e1 : lineEnd t a - a = toC 10 (t.drop a) := by unfold lineEnd; omega
      rw [List.drop_drop] at hrm
      have e2 : a + toC 10 (t.drop a) = lineEnd t a := rfl
      rw [e2] at hrm
      rw [e1]
      by_cases h : 35 ∈ t.drop (lineEnd t a)
      · rw [if_pos h]
        have hg := toC_get h
        have hlt := lt_of_get hg
        rw [List.getElem?_drop] at hg
        rw [List.length_drop] at hlt
        refine ⟨t.length - (lineEnd t a + toC 35 (t.drop (lineEnd t a))), by omega, _, acc ++ [(t.drop a).take (toC 10 (t.drop a))], _, rfl, by simp, .inr ⟨lineEnd t a + toC 35 (t.drop (lineEnd t a)), rfl, rfl, ?_, by omega, hg, ?_⟩⟩
        · rw [List.length_append]
          simp
          omega
        · rw [← hr, hrm, rmA_skip (t.drop (lineEnd t a)), List.drop_drop, List.append_assoc]
          rfl
      · rw [if_neg h]
        refine ⟨0, by omega, _, acc ++ [(t.drop a).take (toC 10 (t.drop a))], _, rfl, by simp, .inl ⟨by decide, rfl, ?_⟩⟩
        rw [← hr, hrm, rmA_none h]
/-- by lines -/
def lnF (l : S) : List S := if 35 ∈ l then [l.drop (toC 35 l)] else []
theorem toC_app {c : Nat} : ∀ {l : S} (r : S), c ∈ l → toC c (l ++ r) = toC c l
  | [], r, h => by simp at h
  | x :: l, r, h => by
    by_cases e : x = c
    · rw [List.cons_append, toC_cons_eq e, toC_cons_eq e]
    · simp at h
      rcases h with h | h
      · exact absurd h.symm e
      · rw [List.cons_append, toC_cons_ne e, toC_cons_ne e, toC_app r h]
theorem toC_end {c : Nat} : ∀ {l : S} (r : S), c ∉ l → toC c (l ++ r) = l.length + toC c r
  | [], r, h => by simp
  | x :: l, r, h => by
    simp at h
    rw [List.cons_append, toC_cons_ne (Ne.symm h.1), toC_end r h.2, List.length_cons]
    omega
theorem split_due : ∀ (l acc : S), ((splitS 10 acc l).map lnF).flatten = if 35 ∈ acc then rmB (acc.drop (toC 35 acc)) l else rmA l
  | [], acc => by
    rw [splitS]
    by_cases h : 35 ∈ acc
    · simp [h, lnF, rmB]
    · simp [h, lnF, rmA]
  | c :: r, acc => by
    rw [splitS]
    by_cases hc : c = 10
    · rw [if_pos hc, List.map_cons, List.flatten_cons, split_due r []]
      by_cases h : 35 ∈ acc
      · simp [h, lnF, rmB, hc]
      · simp [h, lnF, hc, rmA]
    · rw [if_neg hc, split_due r (acc ++ [c])]
      by_cases h : 35 ∈ acc
      · rw [if_pos (by simp [h]), if_pos h, rmB, if_neg hc, toC_app _ h]
        have := lt_of_get (toC_get h)
        rw [List.drop_append_of_le_length (by omega)]
      · by_cases h2 : c = 35
        · rw [if_pos (by simp [h2]), if_neg h, rmA, if_pos h2, toC_end _ h, h2]
          simp [toC]
        · rw [if_neg (by simp [h, Ne.symm h2]), if_neg h, rmA_c r h2]
theorem due_eq (t : S) : ((splitS 10 [] t).map lnF).flatten = rmA t := by
  rw [split_due]
  simp
theorem split_len : ∀ (l acc : S), (splitS 10 acc l).length ≤ l.length + 1
  | [], acc => by simp [splitS]
  | c :: r, acc => by
    rw [splitS]
    have h1 := split_len r []
    have h2 := split_len r (acc ++ [c])
    split <;> simp <;> omega
theorem due_spec {P : Pg} (h33 : P.fn 33 = some f33) (n : Nat) (t : S) (st : Sto) (hl : t.length ≤ 100000) (Q : D → Sto → Prop)
    (k : ∀ g : Sto, Q (.tup ((rmA t).map .str)) (st ++ g)) : W (callN P (n + 1) 33 [.str t] st) Q := by
  rw [callN, h33]
  simp_arith [f33]
  rw [KLst_ap]
  refine ⟨by unfold LN; simp, ?_⟩
  have hs : t.length + 2 ≤ LN ∧ (10 : Nat) < 256 := by unfold LN; omega
  have hsl := split_len t []
  simp_arith []
  rw [QC_nx]
  simp_arith! only [hs]
  have h10 : (10 : Nat) < 256 := by decide
  refine kfor ((splitS 10 [] t).map .str) (fun j env st' => ∃ e2, env = [some (.str t), some (.obj st.length), e2] ∧ st' = (st ++ [.lst (((((splitS 10 [] t).take j).map lnF).flatten).map .str)]) ++ [.lst ((splitS 10 [] t).map .str)]) (by rw [List.length_map]; omega) ?_ ⟨none, rfl, by simp⟩ ?_ ?_
  · rintro i env st' hi ⟨e2, rfl, rfl⟩
    show items _ (.obj _) = _
    refine isSome_at ?_
    have : (st ++ [O.lst []]).length = (st ++ [O.lst (((((splitS 10 [] t).take i).map lnF).flatten).map D.str)]).length := by simp
    rw [this]
    exact last_at _ _
  · rintro j x env st' hx hj ⟨e2, rfl, rfl⟩
    rw [List.length_map] at hj
    rw [List.getElem?_map, List.getElem?_eq_getElem hj] at hx
    simp only [Option.map_some, Option.some.injEq] at hx
    subst hx
    have htk : (splitS 10 [] t).take (j + 1) = (splitS 10 [] t).take j ++ [(splitS 10 [] t)[j]] := by
      rw [List.take_add_one, List.getElem?_eq_getElem hj]
      rfl
    generalize (splitS 10 [] t)[j] = line at htk
    have hacc : ((((splitS 10 [] t).take j).map lnF).flatten).length ≤ j * 1 := by
      have : ∀ ls : List S, ((ls.map lnF).flatten).length ≤ ls.length := by
        intro ls
        induction ls with
        | nil => simp
        | cons l ls ih =>
          rw [List.map_cons, List.flatten_cons, List.length_append, List.length_cons]
          have : (lnF l).length ≤ 1 := by unfold lnF; split <;> simp
          omega
      have h1 := this ((splitS 10 [] t).take j)
      rw [List.length_take] at h1
      omega
    refine ⟨_, rfl, ?_⟩
    rw [htk, List.map_append, List.flatten_append, List.map_append]
    generalize hA : (((splitS 10 [] t).take j).map lnF).flatten = A at hacc
    have hat : ((st ++ [O.lst (A.map D.str)]) ++ [O.lst ((splitS 10 [] t).map D.str)])[st.length]? = some (.lst (A.map .str)) := get_app (last_at _ _)
    have hln : (A.map D.str).length < LN := by rw [List.length_map]; unfold LN; omega
    simp_arith []
    by_cases h : 35 ∈ line
    · have hf : ¬ ((toC 35 line : Nat) : Int) < 0 := by omega
      have hcut : cut line (some ((toC 35 line : Nat) : Int)) none = line.drop (toC 35 line) := cut_from line _ (toC_le 35 line)
      have hset : ∀ B : O, ((st ++ [O.lst (A.map D.str)]) ++ [O.lst ((splitS 10 [] t).map D.str)]).set st.length B = (st ++ [B]) ++ [O.lst ((splitS 10 [] t).map D.str)] := by
        intro B
        rw [List.set_append_left _ _ (by simp), set_last]
      simp_arith [h, QI_ap, hat, findS_eq, hf, hcut, hln, hset]
      exact ⟨_, rfl, by simp [lnF, h]⟩
    · simp_arith [h, QI_ap]
      exact ⟨_, rfl, by simp [lnF, h]⟩
  · rintro env st' ⟨e2, rfl, rfl⟩
    rw [List.length_map, List.take_length, due_eq]
    have hat : ((st ++ [O.lst ((rmA t).map D.str)]) ++ [O.lst ((splitS 10 [] t).map D.str)])[st.length]? = some (.lst ((rmA t).map .str)) := get_app (last_at _ _)
    rw [QC_nx]
    simp_arith only [hat]
    rw [List.append_assoc]
    exact k _
end Mini

set_option Elab.async false
set_option linter.all false
set_option maxRecDepth 100000
set_option maxHeartbeats 4000000
namespace Mini
structure Lcl (dk i : Nat) (T0 : Tys) (st0 : Sto) (T : Tys) (st : Sto) (m : Nat) (xs : List D) : Prop where
  gs : GS dk T st m
  go : Go T0 st0 T st
  lo : T0.length ≤ i
  ra : T[i]? = some .raw
  at_ : st[i]? = some (.lst xs)
theorem Lcl.step {dk i : Nat} {T0 : Tys} {st0 : Sto} {T T' : Tys} {st st' : Sto} {m m' : Nat} {xs : List D} (h : Lcl dk i T0 st0 T st m xs) (g : GS dk T' st' m') (k : Go T st T' st') : Lcl dk i T0 st0 T' st' m' xs :=
  ⟨g, h.go.trans k, h.lo, k.pre _ _ h.ra, by rw [k.fr _ h.ra]; exact h.at_⟩
theorem Lcl.le {dk i : Nat} {T0 : Tys} {st0 : Sto} {T : Tys} {st : Sto} {m m' : Nat} {xs : List D} (h : Lcl dk i T0 st0 T st m xs) (k : m ≤ m') : Lcl dk i T0 st0 T st m' xs := ⟨h.gs.le k, h.go, h.lo, h.ra, h.at_⟩
theorem Lcl.put {dk i : Nat} {T0 : Tys} {st0 : Sto} {T : Tys} {st : Sto} {m : Nat} {xs : List D} (h : Lcl dk i T0 st0 T st m xs) (ys : List D) : Lcl dk i T0 st0 T (st.set i (.lst ys)) m ys :=
  ⟨h.gs.putr h.ra _, h.go.put h.lo _, h.lo, h.ra, List.getElem?_set_self (lt_of_get h.at_)⟩
theorem Lcl.new {dk : Nat} {T0 : Tys} {st0 : Sto} {T : Tys} {st : Sto} {m : Nat} {xs : List D} (g : GS dk T st m) (go : Go T0 st0 T st) : Lcl dk st.length T0 st0 (T ++ [.raw]) (st ++ [.lst xs]) m xs :=
  ⟨g.raw _, go.trans (Go.new g.wt.len _ _), go.len g, g.wt.last _, last_at _ _⟩
theorem atI_neg1 (xs : List D) (x : D) : L2.atI (xs ++ [x]) (-1) = some x := by
  unfold L2.atI L2.ixN
  rw [if_neg (by omega), if_pos (by simp; omega)]
  have e : ((-1 : Int) + (((xs ++ [x]).length : Nat) : Int)).toNat = xs.length := by
    rw [List.length_append]
    simp
    omega
  simp only [e, Option.bind_some]
  exact last_at _ _
theorem rmB_line : ∀ (s acc l : S), 10 ∉ s → rmB acc (s ++ 10 :: l) = (acc ++ s) :: rmA l
  | [], acc, l, _ => by
    rw [List.nil_append, rmB, if_pos rfl, List.append_nil]
  | c :: s, acc, l, h => by
    simp at h
    rw [List.cons_append, rmB, if_neg (by omega), rmB_line s _ l h.2]
    simp
theorem rmB_all : ∀ (s acc : S), 10 ∉ s → rmB acc s = [acc ++ s]
  | [], acc, _ => by rw [rmB, List.append_nil]
  | c :: s, acc, h => by
    simp at h
    rw [rmB, if_neg (by omega), rmB_all s _ h.2]
    simp
theorem made_spec {P : Pg} (h13 : P.fn 13 = some f13) (h24 : P.fn 24 = some f24) (h32 : P.fn 32 = some f32) (n : Nat) {dk : Nat} {T : Tys} {st : Sto} {m : Nat} (g : GS dk T st m) (hm : m + 1000 ≤ 100000000) (Q : D → Sto → Prop)
    (k : ∀ (gap : S) (T' : Tys) (st' : Sto), gap.length ≤ 100 → GS dk T' st' (m + 100) → Go T st T' st' → Q (.tup [.str gap, .tup ((rmA gap).map .str)]) st') :
    W (callN P (n + 3) 32 [.obj dk] st) Q := by
  have i0 : ∀ xs : List D, L2.atI xs 0 = xs[0]? := fun xs => atI_nat xs 0
  have i1 : ∀ xs : List D, L2.atI xs 1 = xs[1]? := fun xs => atI_nat xs 1
  rw [callN, h32]
  simp_arith [f32]
  rw [QC_nx]
  simp_arith []
  rw [KLst_ap]
  refine ⟨by unfold LN; simp, ?_⟩
  have L0 := Lcl.new (xs := []) g Go.rfl
  generalize st.length = i at L0
  simp_arith []
  rw [QC_nx]
  simp_arith [W_call _ _ h13]
  refine draw_spec h13 (n + 1) L0.gs 6 (by omega) (by decide) (by decide) _ ?_
  intro r st1 hr g1 go1
  have L1 := L0.step g1 go1
  simp_arith []
  refine kfor (rngL 0 r) (fun j env st' => ∃ (T' : Tys) (gap : S) (fs : List S) (e3 e4 : Option D), env = [some (.obj dk), some (.str gap), some (.obj i), e3, e4] ∧ gap.length ≤ 6 * j ∧ fs.length ≤ j ∧ (∀ l, rmA (gap ++ l) = fs ++ rmA l) ∧ Lcl dk i T st T' st' (m + 1 + 8 * j) (fs.map .str)) (by rw [rngL_lenth]; omega)
    (fun _ _ st' _ _ => walked_rng r (by omega) st') ⟨_, [], [], none, none, rfl, by simp, by simp, fun l => rfl, L1.le (by omega)⟩ ?_ ?_
  · rintro j x env st' hx hj ⟨T', gap, fs, e3, e4, rfl, hgl, hfl, hrm, L⟩
    rw [rngL_lenth] at hj
    obtain rfl := rngL_at hx
    refine ⟨_, rfl, ?_⟩
    simp_arith [W_call _ _ h13]
    refine draw_spec h13 (n + 1) L.gs 4 (by omega) (by decide) (by decide) _ ?_
    intro r2 st2 hr2 g2 go2
    have L2' := L.step g2 go2
    simp_arith []
    rw [QC_nx]
    simp_arith []
    by_cases h2 : (r2 : Int) < 2
    · simp_arith [h2, QI_ap]
      refine klst g2 (by unfold LN; simp) _ ?_
      intro ia Ta sta qa ea _ ga goa
      have La := L2'.step ga goa
      obtain ⟨x, hx, c, rfl, hc⟩ := pick_at ea r2 (by simp; omega) (fun x => ∃ c : Nat, x = .str [c] ∧ c ≠ 35) (by
        intro x hx
        simp at hx
        rcases hx with rfl | rfl
        · exact ⟨32, rfl, by decide⟩
        · exact ⟨10, rfl, by decide⟩)
      have hl : gap.length + 1 ≤ LN := by unfold LN; omega
      simp_arith only [ea, hx, hl]
      refine ⟨Ta, gap ++ [c], fs, _, _, rfl, by simp; omega, by omega, fun l => ?_, La.le (by omega)⟩
      rw [List.append_assoc, hrm]
      show fs ++ rmA (c :: l) = _
      rw [rmA_c l hc]
    · simp_arith [h2, QI_ap, L2'.at_, W_call _ _ h24]
      refine remark_spec h13 h24 n g2 (by omega) _ ?_
      intro s Ta sta hs1 hs2 ga goa
      have La := L2'.step ga goa
      have hln : (fs.map D.str).length < LN := by rw [List.length_map]; unfold LN; omega
      simp_arith [La.at_, hln]
      have Lb := La.put (fs.map .str ++ [.str (35 :: s)])
      rw [QC_nx]
      have hl1 : gap.length + (s.length + 1) ≤ LN := by unfold LN; omega
      have hl2 : (gap ++ 35 :: s).length + 1 ≤ LN := by rw [List.length_append]; unfold LN; simp; omega
      simp_arith only [Lb.at_, Int.reduceNeg, atI_neg1, hl1, hl2]
      refine ⟨Ta, (gap ++ 35 :: s) ++ [10], fs ++ [35 :: s], _, _, rfl, by simp; omega, by simp; omega, fun l => ?_, ?_⟩
      · have := hrm ((35 :: s) ++ 10 :: l)
        have e : gap ++ 35 :: s ++ [10] ++ l = gap ++ ((35 :: s) ++ 10 :: l) := by simp
        rw [e, this, List.cons_append, rmA, if_pos rfl, rmB_line _ _ _ hs2]
        simp
      · rw [map_str_app]
        exact Lb.le (by omega)
  · rintro env st' ⟨T', gap, fs, e3, e4, rfl, hgl, hfl, hrm, L⟩
    rw [rngL_lenth] at hgl hfl L
    rw [QC_nx]
    simp_arith [W_call _ _ h13]
    refine draw_spec h13 (n + 1) L.gs 3 (by omega) (by decide) (by decide) _ ?_
    intro r2 st2 hr2 g2 go2
    have L2' := L.step g2 go2
    simp_arith []
    by_cases h0 : (r2 : Int) = 0
    · simp_arith [h0, QI_ap, L2'.at_, W_call _ _ h24]
      refine remark_spec h13 h24 n g2 (by omega) _ ?_
      intro s Ta sta hs1 hs2 ga goa
      have La := L2'.step ga goa
      have hln : (fs.map D.str).length < LN := by rw [List.length_map]; unfold LN; omega
      simp_arith [La.at_, hln]
      have Lb := La.put (fs.map .str ++ [.str (35 :: s)])
      rw [QC_nx]
      have hl1 : gap.length + (s.length + 1) ≤ LN := by unfold LN; omega
      simp_arith [Lb.at_, Int.reduceNeg, atI_neg1, hl1]
      rw [QC_nx]
      simp_arith only [Lb.at_]
      have e : rmA (gap ++ 35 :: s) = fs ++ [35 :: s] := by
        rw [hrm, rmA, if_pos rfl, rmB_all _ _ hs2]
        rfl
      have := k (gap ++ 35 :: s) Ta _ (by simp; omega) (Lb.gs.le (by omega)) Lb.go
      rw [e, map_str_app] at this
      exact this
    · simp_arith [h0, QI_ap]
      rw [QC_nx]
      simp_arith only [L2'.at_]
      have e : rmA gap = fs := by
        have := hrm []
        rw [List.append_nil, rmA_nil, List.append_nil] at this
        exact this
      have := k gap T' st2 (by omega) (L2'.gs.le (by omega)) L2'.go
      rw [e] at this
      exact this
theorem pur_strs (l : List S) (h : l.length ≤ 100000) : Pur 1 (.tup (l.map .str)) := by
  refine .tup (fun x hx => ?_) (by rw [List.length_map]; exact h)
  rw [List.mem_map] at hx
  obtain ⟨s, _, rfl⟩ := hx
  exact .str s
theorem rmB_len : ∀ (l acc : S), (rmA l).length ≤ l.length ∧ (rmB acc l).length ≤ l.length + 1
  | [], acc => by simp [rmA, rmB]
  | c :: r, acc => by
    have h1 := rmB_len r [35]
    have h2 := rmB_len r (acc ++ [c])
    constructor
    · rw [rmA]
      split <;> simp <;> omega
    · rw [rmB]
      split <;> simp <;> omega
theorem rmA_len (l : S) : (rmA l).length ≤ l.length := (rmB_len l []).1
theorem wl_gaps : ∀ (k : Nat) (l : S), l.length ≤ k → (∀ w ∈ (wl l).1, w.2.1.length ≤ k) ∧ (wl l).2.length ≤ k ∧ (wl l).1.length ≤ k := by
  intro k
  induction k with
  | zero =>
    intro l hl
    have : l = [] := by
      cases l with
      | nil => rfl
      | cons _ _ => simp at hl
    subst this
    rw [wl.eq_1]
    simp [gm]
  | succ k ih =>
    intro l hl
    rw [wl.eq_1]
    split
    · rename_i h
      have hne : l.drop (gm false l) ≠ [] := by
        intro e
        have := congrArg List.length e
        rw [List.length_drop] at this
        simp at this
        omega
      have hp := (wordW_pos _ hne).1
      have := ih ((l.drop (gm false l)).drop (wordW (l.drop (gm false l))).2) (by rw [List.length_drop, List.length_drop]; omega)
      refine ⟨fun w hw => ?_, Nat.le_succ_of_le this.2.1, Nat.succ_le_succ this.2.2⟩
      simp only [List.mem_cons] at hw
      rcases hw with rfl | hw
      · simp only [List.length_take]
        omega
      · have := this.1 w hw
        omega
    · simp
      exact hl
end Mini

set_option Elab.async false
set_option linter.all false
set_option maxRecDepth 100000
set_option maxHeartbeats 4000000
namespace Mini
/-- where the words stand -/
def plc : Nat → List (S × S × S) → List Nat
  | _, [] => []
  | a, w :: ws => (a + w.2.1.length) :: plc (a + w.2.1.length + w.2.2.length) ws
def inD' (l : List Nat) : List D := l.map fun (p : Nat) => .int (p : Int)
theorem plc_len : ∀ (a : Nat) (ws : List (S × S × S)), (plc a ws).length = ws.length
  | _, [] => rfl
  | a, w :: ws => by rw [plc, List.length_cons, plc_len, List.length_cons]
theorem places_spec {P : Pg} (h52 : P.fn 52 = some f52) (n : Nat) (ws : List (S × S × S)) (hl : ws.length ≤ 100000) (st : Sto) (Q : D → Sto → Prop)
    (k : ∀ g : Sto, Q (.tup (inD' (plc 0 ws))) (st ++ g)) : W (callN P (n + 1) 52 [.tup (ws.map wdD)] st) Q := by
  rw [callN, h52]
  simp_arith [f52]
  rw [KLst_ap]
  refine ⟨by unfold LN; simp, ?_⟩
  simp_arith []
  rw [QC_nx]
  simp_arith []
  rw [QC_nx]
  simp_arith []
  refine kfor (ws.map wdD) (fun j env st' => ∃ (a : Nat) (acc : List Nat) (e3 e4 e5 : Option D), env = [some (.tup (ws.map wdD)), some (.obj st.length), some (.int (a : Int)), e3, e4, e5] ∧ acc.length = j ∧ acc ++ plc a (ws.drop j) = plc 0 ws ∧ st' = st ++ [.lst (inD' acc)]) (by rw [List.length_map]; omega) (fun _ _ _ _ _ => rfl) ⟨0, [], none, none, none, rfl, rfl, rfl, rfl⟩ ?_ ?_
  · rintro j x env st' hx hj ⟨a, acc, e3, e4, e5, rfl, hacc, hp, rfl⟩
    rw [List.length_map] at hj
    rw [List.getElem?_map, List.getElem?_eq_getElem hj] at hx
    simp only [Option.map_some, Option.some.injEq] at hx
    subst hx
    rw [List.drop_eq_getElem_cons hj, plc] at hp
    generalize ws[j] = w at hp
    have hln : (inD' acc).length < LN := by unfold inD'; rw [List.length_map]; unfold LN; omega
    have e1 : (a : Int) + (w.2.1.length : Int) = ((a + w.2.1.length : Nat) : Int) := by omega
    have e2 : (a : Int) + ((w.2.1.length : Int) + (w.2.2.length : Int)) = ((a + w.2.1.length + w.2.2.length : Nat) : Int) := by omega
    refine ⟨_, rfl, ?_⟩
    simp_arith [last_at, e1, hln, set_last]
    rw [QC_nx, WS_cons, WS_aug P _ 2 .Add _ _ _ _ rfl]
    simp_arith only [e2]
    refine ⟨_, acc ++ [a + w.2.1.length], _, _, _, rfl, by rw [List.length_append, hacc]; rfl, by rw [List.append_assoc]; exact hp, ?_⟩
    unfold inD'
    rw [List.map_append]
    rfl
  · rintro env st' ⟨a, acc, e3, e4, e5, rfl, hacc, hp, rfl⟩
    rw [List.length_map] at hp
    rw [List.drop_length, plc, List.append_nil] at hp
    rw [QC_nx]
    simp_arith only [last_at]
    rw [hp]
    exact k _
theorem due2_spec {P : Pg} (h53 : P.fn 53 = some f53) (n : Nat) (d : D) (ws : List (S × S × S)) (hl : ws.length ≤ 100000) (st : Sto) (hd : ∀ g, items (st ++ g) d = some (ws.map wdD)) (hs : ∀ s, d ≠ .str s) (Q : D → Sto → Prop)
    (k : ∀ g : Sto, Q (.tup (inD' (plc 0 ws))) (st ++ g)) : W (callN P (n + 1) 53 [d] st) Q := by
  rw [callN, h53]
  simp_arith [f53]
  rw [QC_nx]
  simp_arith []
  rw [KLst_ap]
  refine ⟨by unfold LN; simp, ?_⟩
  simp_arith []
  rw [QC_nx]
  simp_arith []
  have hwk : ∀ g, walked .seq [d] (st ++ g) = some (ws.map wdD) := by
    intro g
    rw [← hd g]
    cases d <;> first | rfl | exact absurd rfl (hs _)
  simp_arith [nex_walked (hwk [])]
  refine kfor (ws.map wdD) (fun j env st' => ∃ (a : Nat) (acc : List Nat) (e3 e4 e5 : Option D), env = [some d, some (.int (a : Int)), some (.obj st.length), e3, e4, e5] ∧ acc.length = j ∧ acc ++ plc a (ws.drop j) = plc 0 ws ∧ st' = st ++ [.lst (inD' acc)]) (by rw [List.length_map]; omega) (fun i env st' hi ⟨_, _, _, _, _, _, _, _, e⟩ => by rw [e]; exact hwk _) ⟨0, [], none, none, none, rfl, rfl, rfl, rfl⟩ ?_ ?_
  · rintro j x env st' hx hj ⟨a, acc, e3, e4, e5, rfl, hacc, hp, rfl⟩
    rw [List.length_map] at hj
    rw [List.getElem?_map, List.getElem?_eq_getElem hj] at hx
    simp only [Option.map_some, Option.some.injEq] at hx
    subst hx
    rw [List.drop_eq_getElem_cons hj, plc] at hp
    generalize ws[j] = w at hp
    have hln : (inD' acc).length < LN := by unfold inD'; rw [List.length_map]; unfold LN; omega
    have e1 : (a : Int) + (w.2.1.length : Int) = ((a + w.2.1.length : Nat) : Int) := by omega
    have e2 : ((a + w.2.1.length : Nat) : Int) + (w.2.2.length : Int) = ((a + w.2.1.length + w.2.2.length : Nat) : Int) := by omega
    refine ⟨_, rfl, ?_⟩
    simp_arith [last_at, e1, hln, set_last]
    rw [QC_nx]
    simp_arith only [e1, e2]
    refine ⟨_, acc ++ [a + w.2.1.length], _, _, _, rfl, by rw [List.length_append, hacc]; rfl, by rw [List.append_assoc]; exact hp, ?_⟩
    unfold inD'
    rw [List.map_append]
    rfl
  · rintro env st' ⟨a, acc, e3, e4, e5, rfl, hacc, hp, rfl⟩
    rw [List.length_map] at hp
    rw [List.drop_length, plc, List.append_nil] at hp
    rw [QC_nx]
    simp_arith only [last_at]
    rw [hp]
    exact k _
/-- the words and the rest are the text -/
def cat (w : S × S × S) : S := w.2.1 ++ w.2.2
theorem wl_join : ∀ (k : Nat) (l : S), l.length ≤ k → ((wl l).1.map cat).flatten ++ (wl l).2 = l := by
  intro k
  induction k with
  | zero =>
    intro l hl
    have : l = [] := by
      cases l with
      | nil => rfl
      | cons _ _ => simp at hl
    subst this
    rw [wl.eq_1]
    simp [gm]
  | succ k ih =>
    intro l hl
    rw [wl.eq_1]
    split
    · rename_i h
      have hne : l.drop (gm false l) ≠ [] := by
        intro e
        have := congrArg List.length e
        rw [List.length_drop] at this
        simp at this
        omega
      have hp := (wordW_pos _ hne).1
      have := ih ((l.drop (gm false l)).drop (wordW (l.drop (gm false l))).2) (by rw [List.length_drop, List.length_drop]; omega)
      rw [List.map_cons, List.flatten_cons, List.append_assoc, this]
      unfold cat
      rw [List.append_assoc, List.take_append_drop, List.take_append_drop]
    · simp
theorem plc_at : ∀ (ws : List (S × S × S)) (a k p : Nat) (w : S × S × S) (pre suf : S), (plc a ws)[k]? = some p → ws[k]? = some w → pre.length = a → ((pre ++ ((ws.map cat).flatten ++ suf)).drop p).take w.2.2.length = w.2.2
  | [], a, k, p, w, pre, suf, h, _, _ => by simp [plc] at h
  | v :: ws, a, 0, p, w, pre, suf, h, hw, hpre => by
    simp [plc] at h hw
    subst h hw
    rw [List.map_cons, List.flatten_cons]
    unfold cat
    have e : pre ++ ((v.2.1 ++ v.2.2 ++ (List.map (fun w => w.2.1 ++ w.2.2) ws).flatten) ++ suf) = (pre ++ v.2.1) ++ (v.2.2 ++ ((List.map (fun w => w.2.1 ++ w.2.2) ws).flatten ++ suf)) := by simp
    rw [e, List.drop_left' (by rw [List.length_append]; omega), List.take_left' rfl]
  | v :: ws, a, k + 1, p, w, pre, suf, h, hw, hpre => by
    rw [plc, List.getElem?_cons_succ] at h
    rw [List.getElem?_cons_succ] at hw
    have := plc_at ws (a + v.2.1.length + v.2.2.length) k p w (pre ++ cat v) suf h hw (by unfold cat; rw [List.length_append, List.length_append]; omega)
    rw [List.map_cons, List.flatten_cons, List.append_assoc]
    rw [List.append_assoc] at this
    exact this
theorem pur_ints (l : List Nat) (h : l.length ≤ 100000) : Pur 1 (.tup (inD' l)) := by
  refine .tup (fun x hx => ?_) (by unfold inD'; rw [List.length_map]; exact h)
  unfold inD' at hx
  rw [List.mem_map] at hx
  obtain ⟨s, _, rfl⟩ := hx
  exact .int s
theorem plc_le : ∀ (ws : List (S × S × S)) (a k p : Nat) (w : S × S × S), (plc a ws)[k]? = some p → ws[k]? = some w → p + w.2.2.length ≤ a + ((ws.map cat).flatten).length
  | [], a, k, p, w, h, _ => by simp [plc] at h
  | v :: ws, a, 0, p, w, h, hw => by
    simp [plc] at h hw
    subst h hw
    rw [List.map_cons, List.flatten_cons, List.length_append]
    unfold cat
    rw [List.length_append]
    omega
  | v :: ws, a, k + 1, p, w, h, hw => by
    rw [plc, List.getElem?_cons_succ] at h
    rw [List.getElem?_cons_succ] at hw
    have := plc_le ws _ k p w h hw
    rw [List.map_cons, List.flatten_cons, List.length_append]
    have e : (cat v).length = v.2.1.length + v.2.2.length := by unfold cat; rw [List.length_append]
    omega
end Mini

set_option Elab.async false
set_option linter.all false
set_option maxRecDepth 100000
set_option maxHeartbeats 4000000
namespace Mini
/-! ### looking back in the store -/
theorem lb1 {α : Type} (xs : List α) (a b : α) : ((xs ++ [a]) ++ [b])[xs.length]? = some a := by simp only [List.append_assoc]; rw [List.getElem?_append_right (Nat.le_refl _), Nat.sub_self]; rfl
theorem sb1 {α : Type} (xs : List α) (a b z : α) : ((xs ++ [a]) ++ [b]).set xs.length z = (xs ++ [z]) ++ [b] := by simp only [List.append_assoc]; rw [List.set_append_right _ _ (Nat.le_refl _), Nat.sub_self]; rfl
theorem lb2 {α : Type} (xs : List α) (a b c : α) : (((xs ++ [a]) ++ [b]) ++ [c])[xs.length]? = some a := by simp only [List.append_assoc]; rw [List.getElem?_append_right (Nat.le_refl _), Nat.sub_self]; rfl
theorem sb2 {α : Type} (xs : List α) (a b c z : α) : (((xs ++ [a]) ++ [b]) ++ [c]).set xs.length z = ((xs ++ [z]) ++ [b]) ++ [c] := by simp only [List.append_assoc]; rw [List.set_append_right _ _ (Nat.le_refl _), Nat.sub_self]; rfl
theorem lb3 {α : Type} (xs : List α) (a b c d : α) : ((((xs ++ [a]) ++ [b]) ++ [c]) ++ [d])[xs.length]? = some a := by simp only [List.append_assoc]; rw [List.getElem?_append_right (Nat.le_refl _), Nat.sub_self]; rfl
theorem sb3 {α : Type} (xs : List α) (a b c d z : α) : ((((xs ++ [a]) ++ [b]) ++ [c]) ++ [d]).set xs.length z = (((xs ++ [z]) ++ [b]) ++ [c]) ++ [d] := by simp only [List.append_assoc]; rw [List.set_append_right _ _ (Nat.le_refl _), Nat.sub_self]; rfl
theorem lb4 {α : Type} (xs : List α) (a b c d e : α) : (((((xs ++ [a]) ++ [b]) ++ [c]) ++ [d]) ++ [e])[xs.length]? = some a := by simp only [List.append_assoc]; rw [List.getElem?_append_right (Nat.le_refl _), Nat.sub_self]; rfl
theorem sb4 {α : Type} (xs : List α) (a b c d e z : α) : (((((xs ++ [a]) ++ [b]) ++ [c]) ++ [d]) ++ [e]).set xs.length z = ((((xs ++ [z]) ++ [b]) ++ [c]) ++ [d]) ++ [e] := by simp only [List.append_assoc]; rw [List.set_append_right _ _ (Nat.le_refl _), Nat.sub_self]; rfl
theorem lb5 {α : Type} (xs : List α) (a b c d e f : α) : ((((((xs ++ [a]) ++ [b]) ++ [c]) ++ [d]) ++ [e]) ++ [f])[xs.length]? = some a := by simp only [List.append_assoc]; rw [List.getElem?_append_right (Nat.le_refl _), Nat.sub_self]; rfl
theorem sb5 {α : Type} (xs : List α) (a b c d e f z : α) : ((((((xs ++ [a]) ++ [b]) ++ [c]) ++ [d]) ++ [e]) ++ [f]).set xs.length z = (((((xs ++ [z]) ++ [b]) ++ [c]) ++ [d]) ++ [e]) ++ [f] := by simp only [List.append_assoc]; rw [List.set_append_right _ _ (Nat.le_refl _), Nat.sub_self]; rfl
theorem lb6 {α : Type} (xs : List α) (a b c d e f g : α) : (((((((xs ++ [a]) ++ [b]) ++ [c]) ++ [d]) ++ [e]) ++ [f]) ++ [g])[xs.length]? = some a := by simp only [List.append_assoc]; rw [List.getElem?_append_right (Nat.le_refl _), Nat.sub_self]; rfl
theorem sb6 {α : Type} (xs : List α) (a b c d e f g z : α) : (((((((xs ++ [a]) ++ [b]) ++ [c]) ++ [d]) ++ [e]) ++ [f]) ++ [g]).set xs.length z = ((((((xs ++ [z]) ++ [b]) ++ [c]) ++ [d]) ++ [e]) ++ [f]) ++ [g] := by simp only [List.append_assoc]; rw [List.set_append_right _ _ (Nat.le_refl _), Nat.sub_self]; rfl
theorem lb7 {α : Type} (xs : List α) (a b c d e f g h : α) : ((((((((xs ++ [a]) ++ [b]) ++ [c]) ++ [d]) ++ [e]) ++ [f]) ++ [g]) ++ [h])[xs.length]? = some a := by simp only [List.append_assoc]; rw [List.getElem?_append_right (Nat.le_refl _), Nat.sub_self]; rfl
theorem sb7 {α : Type} (xs : List α) (a b c d e f g h z : α) : ((((((((xs ++ [a]) ++ [b]) ++ [c]) ++ [d]) ++ [e]) ++ [f]) ++ [g]) ++ [h]).set xs.length z = (((((((xs ++ [z]) ++ [b]) ++ [c]) ++ [d]) ++ [e]) ++ [f]) ++ [g]) ++ [h] := by simp only [List.append_assoc]; rw [List.set_append_right _ _ (Nat.le_refl _), Nat.sub_self]; rfl
theorem lb8 {α : Type} (xs : List α) (a b c d e f g h i : α) : (((((((((xs ++ [a]) ++ [b]) ++ [c]) ++ [d]) ++ [e]) ++ [f]) ++ [g]) ++ [h]) ++ [i])[xs.length]? = some a := by simp only [List.append_assoc]; rw [List.getElem?_append_right (Nat.le_refl _), Nat.sub_self]; rfl
theorem sb8 {α : Type} (xs : List α) (a b c d e f g h i z : α) : (((((((((xs ++ [a]) ++ [b]) ++ [c]) ++ [d]) ++ [e]) ++ [f]) ++ [g]) ++ [h]) ++ [i]).set xs.length z = ((((((((xs ++ [z]) ++ [b]) ++ [c]) ++ [d]) ++ [e]) ++ [f]) ++ [g]) ++ [h]) ++ [i] := by simp only [List.append_assoc]; rw [List.set_append_right _ _ (Nat.le_refl _), Nat.sub_self]; rfl
/-! ### the law's own words -/
theorem splitS_eq (c : Nat) : ∀ (s acc : S), splitS c acc s = if c ∈ s then (acc ++ s.take (toC c s)) :: splitS c [] (s.drop (toC c s + 1)) else [acc ++ s]
  | [], acc => by simp [splitS]
  | x :: r, acc => by
    rw [splitS]
    by_cases h : x = c
    · rw [if_pos h, if_pos (by simp [h]), toC_cons_eq h]
      simp
    · rw [if_neg h, splitS_eq c r (acc ++ [x]), toC_cons_ne h]
      by_cases hm : c ∈ r
      · rw [if_pos hm, if_pos (by simp [hm])]
        simp
      · rw [if_neg hm, if_neg (by simp [hm, Ne.symm h])]
        simp
theorem take_toC_none {c : Nat} {l : S} (h : c ∉ l) : l.take (toC c l) = l := by
  rw [toC_none h, List.take_length]
/-- the first piece -/
theorem split_first (c : Nat) (s : S) : ∃ r, splitS c [] s = s.take (toC c s) :: r := by
  rw [splitS_eq]
  by_cases h : c ∈ s
  · rw [if_pos h]
    exact ⟨_, rfl⟩
  · rw [if_neg h, take_toC_none h]
    exact ⟨[], rfl⟩
theorem runLen_drop (cs l : S) : l.length - (l.dropWhile fun x => cs.contains x).length = runLen cs l := by
  have : ∀ m : S, m.length = runLen cs m + (m.dropWhile fun x => cs.contains x).length := by
    intro m
    induction m with
    | nil => rfl
    | cons c r ih =>
      unfold runLen
      by_cases h : c ∈ cs
      · rw [List.takeWhile_cons, if_pos (by simpa using h), List.dropWhile_cons, if_pos (by simpa using h), List.length_cons, List.length_cons]
        unfold runLen at ih
        omega
      · rw [List.takeWhile_cons, if_neg (by simpa using h), List.dropWhile_cons, if_neg (by simpa using h)]
        simp
  have := this l
  omega
theorem cut_to {α : Type} (xs : List α) (i : Nat) (hi : i ≤ xs.length) : cut xs none (some (i : Int)) = xs.take i := by
  unfold cut
  rw [HT.sIx_nat, HT.sIx_none, Nat.min_eq_left hi, List.drop_zero, Nat.sub_zero]
theorem inD_list (st : Sto) (i : Nat) (x : S) (ks : List S) (h : st[i]? = some (.lst (ks.map .str))) : inD st (.str x) (.obj i) = some (decide (x ∈ ks)) := by
  have e : inD st (.str x) (.obj i) = (match items st (.obj i) with
    | some xs => if flatD (.str x) && xs.all flatD then some (xs.any fun y => eqF y (.str x)) else none
    | none => none) := by
    unfold inD
    split
    · rename_i h; cases h
    · rfl
  rw [e]
  simp only [items, litems, h, all_flat_strs, flatD, Bool.and_self, if_true, any_strs]
theorem split_keys : (splitS 32 [] [100, 101, 102, 32, 105, 115, 32, 100, 114, 97, 119, 32, 102, 114, 111, 109, 32, 108, 101, 116, 32, 105, 110, 32, 105, 102, 32, 116, 104, 101, 110, 32,
    101, 108, 115, 101, 32, 102, 111, 114, 32, 98, 101, 108, 111, 119, 32, 103, 105, 118, 101, 32, 110, 111, 116, 32, 115, 105, 122, 101, 32, 121, 101, 115, 32, 110, 111]) = keyL := by decide
theorem key_head : ∀ k ∈ keyL, ∃ c r, k = c :: r ∧ c ∈ smallL := by
  have : ∀ k ∈ keyL, k.head?.any (fun c => decide (c ∈ smallL)) = true := by decide +kernel
  intro k hk
  have q := this k hk
  cases k with
  | nil => simp at q
  | cons c r => exact ⟨c, r, rfl, by simpa using q⟩
/-- what the own word is -/
def ownD (l : S) : D := .tup [.str (wordW l).1, .str (l.take (wordW l).2)]
theorem runLen_zero {cs : S} {c : Nat} {r : S} (h : c ∉ cs) : runLen cs (c :: r) = 0 := by
  unfold runLen
  rw [List.takeWhile_cons, if_neg (by simpa using h)]
  rfl
theorem runLen_pos {cs : S} {c : Nat} {r : S} (h : c ∈ cs) : 1 ≤ runLen cs (c :: r) := by
  unfold runLen
  rw [List.takeWhile_cons, if_pos (by simpa using h)]
  simp
theorem toC_lt_mem {a b : Nat} {r : S} (hab : a ≠ b) : (a ∈ r.take (toC b r)) ↔ (a ∈ r ∧ toC a r ≤ toC b r) := by
  induction r with
  | nil => simp
  | cons c r ih =>
    by_cases h : c = b
    · rw [toC_cons_eq h]
      have : c ≠ a := by omega
      rw [toC_cons_ne this]
      simp
    · rw [toC_cons_ne h]
      by_cases h2 : c = a
      · rw [toC_cons_eq h2]
        simp [h2]
      · rw [toC_cons_ne h2]
        have h3 : ¬ a = c := by omega
        simp only [List.take_succ_cons, List.mem_cons, h3, false_or, ih]
        constructor
        · rintro ⟨q1, q2⟩
          exact ⟨q1, by omega⟩
        · rintro ⟨q1, q2⟩
          exact ⟨q1, by omega⟩
theorem toC_take {a b : Nat} {r : S} (h : a ∈ r.take (toC b r)) : toC a (r.take (toC b r)) = toC a r := by
  induction r with
  | nil => simp at h
  | cons c r ih =>
    by_cases h1 : c = b
    · rw [toC_cons_eq h1] at h
      simp at h
    · rw [toC_cons_ne h1] at h ⊢
      rw [List.take_succ_cons] at h ⊢
      by_cases h2 : c = a
      · rw [toC_cons_eq h2, toC_cons_eq h2]
      · rw [toC_cons_ne h2, toC_cons_ne h2]
        simp only [List.mem_cons] at h
        rcases h with h | h
        · exact absurd h.symm h2
        · rw [ih h]
theorem int_len (a : Nat) : (a : Int).toNat = a := Int.toNat_natCast a
theorem own_word_spec {P : Pg} (h56 : P.fn 56 = some f56) (n : Nat) (c : Nat) (r : S) (st : Sto) (hl : (c :: r).length ≤ 2000) (Q : D → Sto → Prop)
    (k : ∀ g : Sto, Q (ownD (c :: r)) (st ++ g)) : W (callN P (n + 1) 56 [.str (c :: r)] st) Q := by
  have i0 : ∀ xs : List D, L2.atI xs 0 = xs[0]? := fun xs => atI_nat xs 0
  have i1 : ∀ xs : List D, L2.atI xs 1 = xs[1]? := fun xs => atI_nat xs 1
  have j0 : ∀ xs : S, L2.atI xs 0 = xs[0]? := fun xs => atI_nat xs 0
  rw [callN, h56]
  have s1 : (67 : Nat) + 2 ≤ LN ∧ 32 < 256 := by unfold LN; decide
  have s2 : r.length + 1 + 2 ≤ LN ∧ 10 < 256 := by rw [List.length_cons] at hl; unfold LN; omega
  simp_arith [f56, s1, split_keys, W_newL]
  rw [QC_nx]
  by_cases hq : c = 34
  · subst hq
    obtain ⟨r1, e1⟩ := split_first 10 (34 :: r)
    have hL : (34 :: r).take (toC 10 (34 :: r)) = 34 :: r.take (toC 10 r) := by
      rw [toC_cons_ne (by decide)]
      rfl
    rw [hL] at e1
    have s3 : (r.take (toC 10 r)).length + 1 + 2 ≤ LN ∧ 34 < 256 := by rw [List.length_take]; rw [List.length_cons] at hl; unfold LN; omega
    have hS : splitS 34 [] (34 :: r.take (toC 10 r)) = [] :: splitS 34 [] (r.take (toC 10 r)) := by
      rw [splitS, if_pos rfl]
    have hw : wordW (34 :: r) = quoteW (34 :: r) := by
      have a1 : ¬ (34 : Nat) ∈ smallL := by decide
      have a2 : ¬ (34 : Nat) ∈ figL := by decide
      unfold wordW
      simp only [a1, a2, if_false, if_true]
    have hq2 : quoteW (34 :: r) = if 34 ∈ r.take (toC 10 r) then (if toC 34 r ≤ 40 then sText else sStray, toC 34 r + 2) else (sStray, 1) := by
      unfold quoteW
      have : ((34 ∈ (34 :: r).drop 1 ∧ toC 34 ((34 :: r).drop 1) + 1 ≤ toC 10 (34 :: r)) ↔ (34 ∈ r.take (toC 10 r))) := by
        rw [toC_lt_mem (by decide), toC_cons_ne (by decide), List.drop_succ_cons, List.drop_zero]
        constructor
        · rintro ⟨q1, q2⟩
          exact ⟨q1, by omega⟩
        · rintro ⟨q1, q2⟩
          exact ⟨q1, by omega⟩
      simp only [this]
      rfl
    simp_arith! only [s2, i0, j0, e1, last_at, s3, hS]
    by_cases hm : 34 ∈ r.take (toC 10 r)
    · have e3 : splitS 34 [] (r.take (toC 10 r)) = r.take (toC 34 r) :: splitS 34 [] ((r.take (toC 10 r)).drop (toC 34 r + 1)) := by
        rw [splitS_eq, if_pos hm, toC_take hm, List.nil_append, List.take_take, Nat.min_eq_left ((toC_lt_mem (by decide)).mp hm).2]
      obtain ⟨p2, e4⟩ := split_first 34 ((r.take (toC 10 r)).drop (toC 34 r + 1))
      have lr : ¬ ((p2.length + 1 + 1 + 1 : Nat) : Int) < 3 := by omega
      have tl : (r.take (toC 34 r)).length = toC 34 r := by
        rw [List.length_take]
        have := toC_le 34 r
        omega
      have l0 : toC 34 r ≤ 2000 := by have := toC_le 34 r; rw [List.length_cons] at hl; omega
      have l1 : 1 + toC 34 r ≤ LN := by unfold LN; omega
      have l2 : toC 34 r + 1 + 1 ≤ LN := by unfold LN; omega
      have hfin : ownD (34 :: r) = .tup [.str (if toC 34 r ≤ 40 then sText else sStray), .str (34 :: (r.take (toC 34 r) ++ [34]))] := by
        unfold ownD
        rw [hw, hq2, if_pos hm]
        have hmr := ((toC_lt_mem (by decide)).mp hm).1
        have hg := toC_get hmr
        simp only [List.take_succ_cons, List.cons_append, List.nil_append]
        rw [List.take_add_one, hg]
        rfl
      rw [hfin] at k
      by_cases h40 : ((toC 34 r : Nat) : Int) < 41
      · have h40' : toC 34 r ≤ 40 := by omega
        simp_arith! only [e3, e4, List.length_map, lr, last_at, lb1, lb2, lb3, lb4, lb5, lb6, lb7, lb8, i1, tl, h40, l1, l2]
        simp only [List.append_assoc]
        rw [if_pos h40'] at k
        exact k _
      · have h40' : ¬ toC 34 r ≤ 40 := by omega
        simp_arith! only [e3, e4, List.length_map, lr, last_at, lb1, lb2, lb3, lb4, lb5, lb6, lb7, lb8, i0, i1, tl, h40, l1, l2]
        simp only [List.append_assoc]
        rw [if_neg h40'] at k
        exact k _
    · have e3 : splitS 34 [] (r.take (toC 10 r)) = [r.take (toC 10 r)] := by
        rw [splitS_eq, if_neg hm, List.nil_append]
      have lr : ((2 : Nat) : Int) < 3 := by decide
      simp_arith! only [e3, last_at, lb1, lb2, lb3, lb4, lb5, lb6, lb7, lb8, lr]
      simp only [List.append_assoc]
      have hfin : ownD (34 :: r) = .tup [.str sStray, .str [34]] := by
        unfold ownD
        rw [hw, hq2, if_neg hm]
        rfl
      rw [hfin] at k
      exact k _
  · have hq' : ¬ ([c] : S) = [34] := by simpa using hq
    have hcs : ∀ cs : S, ((c :: r).length : Int) - (((c :: r).dropWhile fun x => cs.contains x).length : Int) = ((runLen cs (c :: r) : Nat) : Int) := by
      intro cs
      have h1 := runLen_drop cs (c :: r)
      have h2 : ((c :: r).dropWhile fun x => cs.contains x).length ≤ (c :: r).length := List.Sublist.length_le (List.dropWhile_sublist _)
      omega
    simp_arith [j0, hq', QI_ap]
    rw [QC_nx]
    simp_arith! only []
    have hst : ∀ g : Sto, ((st ++ [O.lst (keyL.map D.str)]) ++ g)[st.length]? = some (.lst (keyL.map .str)) := fun g => get_app (last_at _ _)
    have hgx := last_at (st ++ [O.lst (keyL.map D.str)]) (O.lst [D.str smallL, D.str figL])
    generalize hix : (st ++ [O.lst (keyL.map D.str)]).length = ix at hgx
    generalize hs2 : (st ++ [O.lst (keyL.map D.str)]) ++ [O.lst [D.str [97, 98, 99, 100, 101, 102, 103, 104, 105, 106, 107, 108, 109, 110, 111, 112, 113, 114, 115, 116, 117, 118, 119, 120, 121, 122], D.str [48, 49, 50, 51, 52, 53, 54, 55, 56, 57]]] = st2
    have hgx2 : st2[ix]? = some (O.lst [D.str smallL, D.str figL]) := by
      rw [← hs2]
      exact hgx
    have hst2 : ∀ g : Sto, (st2 ++ g)[st.length]? = some (.lst (keyL.map .str)) := by
      intro g
      rw [← hs2, List.append_assoc]
      exact hst _
    have k2 : ∀ g, Q (ownD (c :: r)) (st2 ++ g) := by
      intro g
      rw [← hs2]
      simp only [List.append_assoc]
      exact k _
    have hst20 := hst2 []
    have k20 := k2 []
    rw [List.append_nil] at hst20 k20
    have hsm : smallL[0]? = some 97 := rfl
    have hfi : figL[0]? = some 48 := rfl
    have hin : ∀ x : S, inD st2 (.str x) (.obj st.length) = some (decide (x ∈ keyL)) := fun x => inD_list st2 st.length x keyL hst20
    have h97 : ([48] : S) = [97] ↔ False := by decide
    have hne : ([] : S) ∉ keyL := by decide
    refine kfor [.str smallL, .str figL] (fun j env st' => ∃ e2 e4, env = [some (.str (c :: r)), some (.obj st.length), e2, none, e4] ∧ st' = st2 ∧ (1 ≤ j → c ∉ smallL) ∧ (2 ≤ j → c ∉ figL)) (by decide) ?_ ⟨_, _, rfl, rfl, by omega, by omega⟩ ?_ ?_
    · rintro i env st' hi ⟨e2, e4, rfl, rfl, _, _⟩
      exact isSome_at hgx2
    · rintro j x env st' hx hj ⟨e2, e4, rfl, rfl, hn1, hn2⟩
      refine ⟨_, rfl, ?_⟩
      have hj2 : j = 0 ∨ j = 1 := by simp at hj; omega
      rcases hj2 with rfl | rfl
      · cases hx
        have hcut := cut_to (c :: r) (runLen smallL (c :: r)) (runLen_le _ _)
        have hlen : ((c :: r).take (runLen smallL (c :: r))).length = runLen smallL (c :: r) := by rw [List.length_take]; have := runLen_le smallL (c :: r); omega
        have hc1 := hcs smallL
        rw [List.length_cons] at hc1
        by_cases hc : c ∈ smallL
        · have hp := runLen_pos (r := r) hc
          have hw : ownD (c :: r) = .tup [.str (lettersW (c :: r)).1, .str ((c :: r).take (runLen smallL (c :: r)))] := by
            unfold ownD wordW
            simp only [hc, if_true]
            rfl
          have hnn : ((c :: r).take (runLen smallL (c :: r))) ≠ [] := by
            intro e
            rw [e] at hlen
            simp at hlen
            omega
          unfold lettersW at hw
          generalize (c :: r).take (runLen smallL (c :: r)) = own at hcut hlen hw hnn
          generalize runLen smallL (c :: r) = L at hcut hlen hw hp hc1
          by_cases hk : own ∈ keyL
          · simp_arith! only [hc1, hcut, hin, hk]
            rw [hw, if_pos hk] at k20
            exact k20
          · rw [if_neg hk] at hw
            by_cases h13 : ((own.length : Nat) : Int) < 13
            · simp_arith! only [hc1, hcut, hin, hk, hnn, j0, hsm, h13, last_at, lb1, lb2, lb3, lb4, lb5, lb6, lb7, lb8, i1]
              rw [hw, if_pos (by omega)] at k2
              exact k2 _
            · simp_arith! only [hc1, hcut, hin, hk, hnn, j0, hsm, h13, last_at, lb1, lb2, lb3, lb4, lb5, lb6, lb7, lb8, i0]
              rw [hw, if_neg (by omega)] at k2
              exact k2 _
        · rw [runLen_zero hc] at hcut hc1
          simp_arith! only [hc1, hcut, List.take_zero, hin, hne]
          exact ⟨_, _, rfl, fun _ => hc, by omega⟩
      · cases hx
        have hc := hn1 (by omega)
        have hcut := cut_to (c :: r) (runLen figL (c :: r)) (runLen_le _ _)
        have hlen : ((c :: r).take (runLen figL (c :: r))).length = runLen figL (c :: r) := by rw [List.length_take]; have := runLen_le figL (c :: r); omega
        have hc1 := hcs figL
        rw [List.length_cons] at hc1
        by_cases hf : c ∈ figL
        · have hp := runLen_pos (r := r) hf
          have hw : ownD (c :: r) = .tup [.str (figuresW (c :: r)).1, .str ((c :: r).take (runLen figL (c :: r)))] := by
            unfold ownD wordW
            simp only [hc, hf, if_true, if_false]
            rfl
          have hcons : ∃ r', (c :: r).take (runLen figL (c :: r)) = c :: r' := by
            obtain ⟨m, hm⟩ : ∃ m, runLen figL (c :: r) = m + 1 := ⟨runLen figL (c :: r) - 1, by omega⟩
            rw [hm]
            exact ⟨_, rfl⟩
          unfold figuresW at hw
          rw [List.head?_cons] at hw
          obtain ⟨r', hr'⟩ := hcons
          rw [hr'] at hcut hlen hw
          generalize runLen figL (c :: r) = L at hcut hlen hw hp hc1
          have hk : (c :: r') ∉ keyL := by
            intro h
            obtain ⟨c', r'', e, hs⟩ := key_head _ h
            cases e
            exact hc hs
          rw [List.length_cons] at hlen
          have hnn : ¬ (c :: r') = ([] : S) := by simp
          by_cases h7 : ((r'.length + 1 : Nat) : Int) < 7
          · by_cases h0 : (c :: r' : S) = [48]
            · have : c = 48 ∧ r' = [] := by simpa using h0
              obtain ⟨rfl, rfl⟩ := this
              have h71 : ((1 : Nat) : Int) < 7 := by decide
              simp_arith! only [hc1, hcut, hin, hk, hnn, j0, hfi, h97, h71, last_at, lb1, lb2, lb3, lb4, lb5, lb6, lb7, lb8, i1]
              rw [hw, if_pos ⟨by omega, .inr (by simp at hlen; omega)⟩] at k2
              exact k2 _
            · by_cases h1 : ([c] : S) = [48]
              · have : c = 48 := by simpa using h1
                subst this
                have : ¬ r' = [] := by simpa using h0
                have hl2 : r'.length ≠ 0 := by
                  intro z
                  exact this (List.length_eq_zero_iff.mp z)
                simp_arith! only [hc1, hcut, hin, hk, hnn, j0, hfi, h97, h7, h0, h1, last_at, lb1, lb2, lb3, lb4, lb5, lb6, lb7, lb8, i0]
                rw [hw, if_neg (by simp; omega)] at k2
                exact k2 _
              · have : ¬ c = 48 := by simpa using h1
                simp_arith! only [hc1, hcut, hin, hk, hnn, j0, hfi, h97, h7, h0, h1, last_at, lb1, lb2, lb3, lb4, lb5, lb6, lb7, lb8, i1]
                rw [hw, if_pos ⟨by omega, .inl (by simpa using this)⟩] at k2
                exact k2 _
          · simp_arith! only [hc1, hcut, hin, hk, hnn, j0, hfi, h97, h7, last_at, lb1, lb2, lb3, lb4, lb5, lb6, lb7, lb8, i0]
            rw [hw, if_neg (by omega)] at k2
            exact k2 _
        · rw [runLen_zero hf] at hcut hc1
          simp_arith! only [hc1, hcut, List.take_zero, hin, hne]
          exact ⟨_, _, rfl, fun _ => hc, fun _ => hf⟩
    · rintro env st' ⟨e2, e4, rfl, rfl, hn1, hn2⟩
      have hc := hn1 (by decide)
      have hf := hn2 (by decide)
      have hw : ownD (c :: r) = .tup [.str (if c ∈ markL then sSign else sStray), .str [c]] := by
        unfold ownD wordW
        simp only [hc, hf, hq, if_true, if_false]
        rfl
      rw [hw] at k2
      by_cases hm : c ∈ markL
      · have hm' : c ∈ [40, 41, 91, 93, 44, 59, 43, 45, 42, 60, 61] := hm
        simp_arith! only [j0, hm', last_at, lb1, lb2, lb3, lb4, lb5, lb6, lb7, lb8, i1]
        rw [if_pos hm] at k2
        exact k2 _
      · have hm' : ¬ c ∈ [40, 41, 91, 93, 44, 59, 43, 45, 42, 60, 61] := hm
        simp_arith! only [j0, hm', last_at, lb1, lb2, lb3, lb4, lb5, lb6, lb7, lb8, i0]
        rw [if_neg hm] at k2
        exact k2 _
end Mini

set_option Elab.async false
set_option linter.all false
set_option maxRecDepth 100000
set_option maxHeartbeats 4000000
namespace Mini
/-- words of a text behind a gap that was read -/
def wlg (g l : S) : List (S × S × S) × S := match wl l with
  | (w :: ws, r) => ((w.1, g ++ w.2.1, w.2.2) :: ws, r)
  | ([], r) => ([], g ++ r)
theorem wl_nil : wl [] = ([], []) := by
  rw [wl.eq_1, dif_neg (by simp [gm])]
theorem wlg_nil (l : S) : wlg [] l = wl l := by
  unfold wlg
  cases h : wl l with
  | mk ws r =>
    cases ws with
    | nil => rfl
    | cons w ws => rfl
/-- a gap's beginning -/
theorem wlg_app (g a l : S) (h : gm false (a ++ l) = a.length + gm false l) : wlg g (a ++ l) = wlg (g ++ a) l := by
  unfold wlg
  have hd : (a ++ l).drop (a.length + gm false l) = l.drop (gm false l) := by
    rw [← List.drop_drop, List.drop_left]
  have ht : (a ++ l).take (a.length + gm false l) = a ++ l.take (gm false l) := by
    rw [List.take_append, List.take_of_length_le (by omega), Nat.add_sub_cancel_left]
  rw [wl.eq_1 (a ++ l), wl.eq_1 l, h, hd, ht]
  by_cases hlt : gm false l < l.length
  · rw [dif_pos hlt, dif_pos (by rw [List.length_append]; omega)]
    simp only [List.append_assoc]
  · rw [dif_neg hlt, dif_neg (by rw [List.length_append]; omega)]
    simp only [List.append_assoc]
theorem wlg_blank (g : S) (c : Nat) (r : S) (h : c = 32 ∨ c = 10) : wlg g (c :: r) = wlg (g ++ [c]) r := by
  refine wlg_app g [c] r ?_
  show gm false (c :: r) = 1 + gm false r
  conv => lhs; unfold gm
  rw [if_pos h]
  omega
theorem wlg_remark (g : S) (r : S) : wlg g (35 :: r) = wlg (g ++ (35 :: r).take (toC 10 (35 :: r))) ((35 :: r).drop (toC 10 (35 :: r))) := by
  have h := wlg_app g ((35 :: r).take (toC 10 (35 :: r))) ((35 :: r).drop (toC 10 (35 :: r)))
  rw [List.take_append_drop] at h
  refine h ?_
  have hl : ((35 :: r).take (toC 10 (35 :: r))).length = toC 10 (35 :: r) := by
    rw [List.length_take]
    have := toC_le 10 (35 :: r)
    omega
  rw [hl, toC_cons_ne (by decide), List.drop_succ_cons]
  conv => lhs; unfold gm
  rw [if_neg (by decide), if_pos rfl, gm_true]
  omega
theorem wlg_word (g : S) (c : Nat) (r : S) (h1 : ¬ (c = 32 ∨ c = 10)) (h2 : c ≠ 35) :
    wlg g (c :: r) = (((wordW (c :: r)).1, g, (c :: r).take (wordW (c :: r)).2) :: (wl ((c :: r).drop (wordW (c :: r)).2)).1, (wl ((c :: r).drop (wordW (c :: r)).2)).2) := by
  have hg : gm false (c :: r) = 0 := by
    unfold gm
    rw [if_neg h1, if_neg h2]
  unfold wlg
  rw [wl.eq_1 (c :: r), hg, dif_pos (by simp)]
  simp only [List.drop_zero, List.take_zero, List.append_nil]
theorem ownD_eq (l : S) : ownD l = .tup [.str (wordW l).1, .str (l.take (wordW l).2)] := rfl
theorem own_words_spec {P : Pg} (h55 : P.fn 55 = some f55) (h56 : P.fn 56 = some f56) (n : Nat) (t : S) (st : Sto) (hl : t.length ≤ 2000) (Q : D → Sto → Prop)
    (k : ∀ (g : Sto) (i : Nat), st.length ≤ i → (st ++ g)[i]? = some (.lst ((wl t).1.map wdD)) → Q (.tup [.obj i, .str (wl t).2]) (st ++ g)) : W (callN P (n + 2) 55 [.str t] st) Q := by
  have i0 : ∀ xs : List D, L2.atI xs 0 = xs[0]? := fun xs => atI_nat xs 0
  rw [callN, h55]
  simp_arith! only [f55]
  refine kwhl (fun m env st' => ∃ (a : Nat) (gp : S) (acc : List (S × S × S)) (gg : Sto) (e4 e5 e6 e7 : Option D), a ≤ t.length ∧ m = t.length - a ∧ env = [some (.str t), some (.obj st.length), some (.str gp), some (.int (a : Int)), e4, e5, e6, e7] ∧ st' = (st ++ [.lst (acc.map wdD)]) ++ gg ∧ gp.length ≤ a ∧ acc.length ≤ a ∧ acc ++ (wlg gp (t.drop a)).1 = (wl t).1 ∧ (wlg gp (t.drop a)).2 = (wl t).2) t.length (by omega) ⟨0, [], [], [], none, none, none, none, by omega, by omega, rfl, by simp, by simp, by simp, by rw [wlg_nil]; rfl, by rw [wlg_nil]; rfl⟩ ?_
  rintro m env st' ⟨a, gp, acc, gg, e4, e5, e6, e7, ha, rfl, rfl, rfl, hgp, hacc, hw1, hw2⟩
  simp_arith []
  by_cases hlt : ((a : Nat) : Int) < (t.length : Int)
  · have hlt' : a < t.length := by omega
    have hd : t.drop a = t[a] :: t.drop (a + 1) := List.drop_eq_getElem_cons hlt'
    have hget : L2.atI t (a : Int) = some t[a] := by rw [atI_nat, List.getElem?_eq_getElem hlt']
    have hcut := cut_from t a ha
    have hdl : (t.drop a).length = t.length - a := List.length_drop
    simp_arith [hlt, hget]
    rw [QC_nx]
    rw [hd] at hw1 hw2 hcut hdl
    generalize t[a] = c at hd hw1 hw2 hcut hdl
    generalize hr : t.drop (a + 1) = r at hd hw1 hw2 hcut hdl
    by_cases hb : c ∈ ([32, 10] : S)
    · have hb' : c = 32 ∨ c = 10 := by simpa using hb
      have l1 : gp.length + 1 ≤ LN := by unfold LN; omega
      have e1 : (a : Int) + 1 = ((a + 1 : Nat) : Int) := by omega
      simp_arith only [hb, l1, e1]
      rw [wlg_blank _ _ _ hb'] at hw1 hw2
      rw [← hr] at hw1 hw2
      exact ⟨t.length - (a + 1), by omega, a + 1, gp ++ [c], acc, gg, _, _, _, _, by omega, rfl, rfl, rfl, by simp; omega, by omega, hw1, hw2⟩
    · have hb' : ¬ (c = 32 ∨ c = 10) := by simpa using hb
      by_cases h35 : c = 35
      · subst h35
        have s2 : r.length + 1 + 2 ≤ LN ∧ 10 < 256 := by rw [List.length_cons] at hdl; unfold LN; omega
        obtain ⟨r1, e1⟩ := split_first 10 (35 :: r)
        rw [wlg_remark] at hw1 hw2
        have hle := toC_le 10 (35 :: r)
        have hpos : 1 ≤ toC 10 (35 :: r) := by rw [toC_cons_ne (by decide)]; omega
        have htl : ((35 :: r).take (toC 10 (35 :: r))).length = toC 10 (35 :: r) := by rw [List.length_take]; omega
        have hdd : (35 :: r).drop (toC 10 (35 :: r)) = t.drop (a + toC 10 (35 :: r)) := by rw [← hd, List.drop_drop]
        rw [hdd] at hw1 hw2
        generalize (35 :: r).take (toC 10 (35 :: r)) = line at e1 htl hw1 hw2
        generalize toC 10 (35 :: r) = L at htl hw1 hw2 hle hpos
        have l1 : gp.length + line.length ≤ LN := by unfold LN; rw [List.length_cons] at hle hdl; omega
        have e2 : (a : Int) + (line.length : Int) = ((a + L : Nat) : Int) := by omega
        simp_arith! only [hb, hcut, s2, e1, i0, last_at, lb1, lb2, lb3, lb4, lb5, lb6, lb7, lb8, l1, e2]
        rw [List.length_cons] at hle hdl
        exact ⟨t.length - (a + L), by omega, a + L, gp ++ line, acc, gg ++ [.lst (.str line :: r1.map .str)], _, _, _, _, by omega, rfl, rfl, by simp, by simp; omega, by omega, hw1, hw2⟩
      · have h35' : ¬ ([c] : S) = [35] := by simpa using h35
        rw [wlg_word _ _ _ hb' h35] at hw1 hw2
        have hp := wordW_pos (c :: r) (by simp)
        have htl : ((c :: r).take (wordW (c :: r)).2).length = (wordW (c :: r)).2 := by rw [List.length_take]; omega
        have hdd : (c :: r).drop (wordW (c :: r)).2 = t.drop (a + (wordW (c :: r)).2) := by rw [← hd, List.drop_drop]
        rw [hdd] at hw1 hw2
        rw [List.length_cons] at hp hdl
        simp_arith [QI_ap, hb, h35', hcut, W_call _ _ h56]
        refine own_word_spec h56 n c r _ (by rw [List.length_cons]; omega) _ ?_
        intro g2
        rw [ownD_eq]
        generalize (c :: r).take (wordW (c :: r)).2 = own at htl hw1 hw2
        generalize wordW (c :: r) = w at htl hw1 hw2 hp
        have hln : (acc.map wdD).length < LN := by rw [List.length_map]; unfold LN; omega
        have hat : (((st ++ [O.lst (acc.map wdD)]) ++ gg) ++ g2)[st.length]? = some (.lst (acc.map wdD)) := get_app (get_app (last_at _ _))
        have hset : ∀ o, (((st ++ [O.lst (acc.map wdD)]) ++ gg) ++ g2).set st.length o = ((st ++ [o]) ++ (gg ++ g2)) := by
          intro o
          rw [List.append_assoc, List.set_append_left _ _ (by simp), set_last]
        have e2 : (a : Int) + (own.length : Int) = ((a + w.2 : Nat) : Int) := by omega
        simp_arith only [hat, hln, hset, e2]
        refine ⟨t.length - (a + w.2), by omega, a + w.2, [], acc ++ [(w.1, gp, own)], gg ++ g2, _, _, _, _, by omega, rfl, rfl, by rw [List.map_append]; rfl, by simp, by simp; omega, ?_, ?_⟩
        · rw [wlg_nil, List.append_assoc]
          exact hw1
        · rw [wlg_nil]
          exact hw2
  · have hz : t.drop a = [] := List.drop_eq_nil_of_le (by omega)
    rw [hz] at hw1 hw2
    unfold wlg at hw1 hw2
    rw [wl_nil] at hw1 hw2
    simp only [List.append_nil] at hw1 hw2
    simp_arith only [hlt]
    rw [hw2, List.append_assoc]
    refine k ([.lst (acc.map wdD)] ++ gg) st.length (Nat.le_refl _) ?_
    rw [← List.append_assoc, ← hw1]
    exact get_app (last_at _ _)
end Mini

set_option Elab.async false
set_option linter.all false
set_option maxRecDepth 100000
set_option maxHeartbeats 4000000
namespace Mini
abbrev Wd := S × S × S
/-! ### words read from a text, one by one -/
theorem wl_cons {l : S} {w : Wd} {ws : List Wd} {r : S} (h : wl l = (w :: ws, r)) :
    ∃ l', l = w.2.1 ++ (w.2.2 ++ l') ∧ gm false l = w.2.1.length ∧ w.2.2 ≠ [] ∧ wordW (w.2.2 ++ l') = (w.1, w.2.2.length) ∧ wl l' = (ws, r) := by
  rw [wl.eq_1] at h
  split at h
  · rename_i hlt
    have hne : l.drop (gm false l) ≠ [] := by
      intro e
      have := congrArg List.length e
      rw [List.length_drop] at this
      simp at this
      omega
    have hp := wordW_pos _ hne
    simp only [Prod.mk.injEq, List.cons.injEq] at h
    obtain ⟨⟨rfl, h2⟩, h3⟩ := h
    have hlen : ((l.drop (gm false l)).take (wordW (l.drop (gm false l))).2).length = (wordW (l.drop (gm false l))).2 := by
      rw [List.length_take]
      omega
    refine ⟨(l.drop (gm false l)).drop (wordW (l.drop (gm false l))).2, ?_, ?_, ?_, ?_, Prod.ext h2 h3⟩
    · rw [List.take_append_drop, List.take_append_drop]
    · rw [List.length_take]
      have := gm_le false l
      omega
    · intro e
      have := congrArg List.length e
      rw [hlen] at this
      simp at this
      omega
    · rw [List.take_append_drop, hlen]
  · simp at h
theorem wl_mk {g s l' k : S} {ws : List Wd} {r : S} (h1 : gm false (g ++ (s ++ l')) = g.length) (h2 : s ≠ []) (h3 : wordW (s ++ l') = (k, s.length)) (h4 : wl l' = (ws, r)) : wl (g ++ (s ++ l')) = ((k, g, s) :: ws, r) := by
  have hs : 0 < s.length := by
    cases s with
    | nil => exact absurd rfl h2
    | cons _ _ => simp
  rw [wl.eq_1, dif_pos (by rw [h1]; simp; omega), h1, List.drop_left, h3]
  simp [h4]
theorem wl_stop {l r : S} (h : wl l = ([], r)) : r = l ∧ gm false l = l.length := by
  rw [wl.eq_1] at h
  split at h
  · simp at h
  · simp only [Prod.mk.injEq, true_and] at h
    have := gm_le false l
    exact ⟨h.symm, by omega⟩
theorem wl_all {l : S} (h : gm false l = l.length) : wl l = ([], l) := by
  rw [wl.eq_1, dif_neg (by omega)]
theorem gm_pre : ∀ (b : Bool) (x y : S), gm b (x ++ y) ≤ x.length → gm b x = gm b (x ++ y)
  | b, [], y, h => by
    simp at h
    cases b <;> simp [gm, h]
  | false, c :: x, y, h => by
    rw [List.cons_append] at h ⊢
    unfold gm at h ⊢
    split
    · rename_i hc
      rw [if_pos hc] at h
      rw [gm_pre false x y (by simp at h; omega)]
    · rename_i hc
      rw [if_neg hc] at h
      split
      · rename_i hd
        rw [if_pos hd] at h
        rw [gm_pre true x y (by simp at h; omega)]
      · rfl
  | true, c :: x, y, h => by
    rw [List.cons_append] at h ⊢
    unfold gm at h ⊢
    split
    · rename_i hc
      rw [if_pos hc] at h
      rw [gm_pre false x y (by simp at h; omega)]
    · rename_i hc
      rw [if_neg hc] at h
      rw [gm_pre true x y (by simp at h; omega)]
theorem runLen_pre (cs : S) : ∀ (x y : S), runLen cs (x ++ y) ≤ x.length → runLen cs x = runLen cs (x ++ y)
  | [], y, h => by
    simp at h
    rw [List.nil_append, h]
    rfl
  | c :: x, y, h => by
    unfold runLen at h ⊢
    rw [List.cons_append, List.takeWhile_cons, List.takeWhile_cons] at *
    by_cases hc : c ∈ cs
    · simp only [hc, decide_true, if_true, List.length_cons] at h ⊢
      have := runLen_pre cs x y (by unfold runLen; omega)
      unfold runLen at this
      rw [this]
    · simp [hc]
theorem toC_pre {c : Nat} {x y : S} (h : c ∈ x) : toC c (x ++ y) = toC c x := toC_app y h
theorem wordW_pre (x y : S) (hx : x ≠ []) (h : (wordW (x ++ y)).2 ≤ x.length) : wordW x = wordW (x ++ y) := by
  cases x with
  | nil => exact absurd rfl hx
  | cons c x =>
    rw [List.cons_append] at h ⊢
    unfold wordW at h ⊢
    by_cases h1 : c ∈ smallL
    · simp only [h1, if_true, lettersW] at h ⊢
      have e := runLen_pre smallL (c :: x) y h
      rw [List.cons_append] at e
      rw [← e] at h
      rw [← e]
      have e2 : (c :: (x ++ y)).take (runLen smallL (c :: x)) = (c :: x).take (runLen smallL (c :: x)) := by
        rw [← List.cons_append, List.take_append_of_le_length h]
      rw [e2]
    · by_cases h2 : c ∈ figL
      · simp only [h1, h2, if_true, if_false, figuresW] at h ⊢
        have e := runLen_pre figL (c :: x) y h
        rw [List.cons_append] at e
        rw [← e]
        rfl
      · by_cases h3 : c = 34
        · subst h3
          simp only [h1, h2, if_true, if_false, quoteW, List.drop_succ_cons, List.drop_zero] at h ⊢
          by_cases hq : 34 ∈ x
          · have e1 : toC 34 (x ++ y) = toC 34 x := toC_app y hq
            have m1 : (34 ∈ x ++ y) = True := by simp [hq]
            have m2 : (34 ∈ x) = True := by simp [hq]
            simp only [e1, m1, m2, true_and] at h ⊢
            by_cases hn : 10 ∈ (34 :: x)
            · have e2 : toC 10 (34 :: x ++ y) = toC 10 (34 :: x) := toC_app y hn
              rw [List.cons_append] at e2
              rw [e2]
            · have e2 : toC 10 (34 :: x) = (34 :: x).length := toC_none hn
              have e3 := toC_end (c := 10) y hn
              rw [List.cons_append] at e3
              have hlt := lt_of_get (toC_get hq)
              have k1 : toC 34 x + 1 ≤ toC 10 (34 :: x) := by rw [e2, List.length_cons]; omega
              have k2 : toC 34 x + 1 ≤ toC 10 (34 :: (x ++ y)) := by rw [e3, List.length_cons]; omega
              simp only [k1, k2, if_true]
          · have m2 : (34 ∈ x) = False := by simp [hq]
            simp only [m2, false_and, if_false]
            split at h
            · rename_i hc
              rw [if_pos hc]
              exfalso
              have e1 := toC_end (c := 34) y hq
              simp only [List.length_cons] at h
              omega
            · rename_i hc
              rw [if_neg hc]
        · simp only [h1, h2, h3, if_false]
theorem wl_suf : ∀ (us : List Wd) {l : S} {vs : List Wd} {r : S}, wl l = (us ++ vs, r) → ∃ z, l = (us.map cat).flatten ++ z ∧ wl z = (vs, r)
  | [], l, vs, r, h => ⟨l, by simp, by simpa using h⟩
  | w :: us, l, vs, r, h => by
    rw [List.cons_append] at h
    obtain ⟨l', e, _, _, _, h5⟩ := wl_cons h
    obtain ⟨z, e2, h6⟩ := wl_suf us h5
    refine ⟨z, ?_, h6⟩
    rw [e, e2]
    simp [cat]
theorem wl_pre : ∀ (us : List Wd) {z y : S} {vs : List Wd} {r : S}, wl (((us.map cat).flatten ++ z) ++ y) = (us ++ vs, r) → wl ((us.map cat).flatten ++ z) = (us ++ (wl z).1, (wl z).2)
  | [], z, y, vs, r, h => by simp
  | w :: us, z, y, vs, r, h => by
    rw [List.cons_append] at h
    obtain ⟨l', e, h1, h2, h3, h5⟩ := wl_cons h
    have e0 : ((w :: us).map cat).flatten ++ z = w.2.1 ++ (w.2.2 ++ ((us.map cat).flatten ++ z)) := by simp [cat]
    rw [e0] at h1 e
    rw [e0]
    have e1 : l' = ((us.map cat).flatten ++ z) ++ y := by
      rw [List.append_assoc, List.append_assoc] at e
      have := List.append_cancel_left e
      rw [List.append_assoc] at this
      rw [List.append_assoc]
      exact (List.append_cancel_left this).symm
    subst e1
    have ih := wl_pre us h5
    have hg : gm false (w.2.1 ++ (w.2.2 ++ ((us.map cat).flatten ++ z))) = w.2.1.length := by
      rw [gm_pre false _ y (by rw [h1]; simp), h1]
    have hw : wordW (w.2.2 ++ ((us.map cat).flatten ++ z)) = (w.1, w.2.2.length) := by
      rw [wordW_pre _ y (by simp [h2]) (by rw [List.append_assoc, h3]; simp), List.append_assoc, h3]
    exact wl_mk hg h2 hw ih
/-! ### tails -/
def tb : S → Bool
  | [] => true
  | c :: r => if c = 10 then true else if c = 32 then tb r else decide (c = 35)
def tailLen (l : S) : Nat := if tb l = true then min (toC 10 l + 1) l.length else 0
theorem tailLen_le (l : S) : tailLen l ≤ l.length := by
  unfold tailLen
  split <;> omega
theorem tb_match (l : S) : tb l = match (l.take (toC 10 l)).dropWhile (fun x => [32].contains x) with
    | [] => true
    | c :: _ => decide (c = 35) := by
  induction l with
  | nil => rfl
  | cons c r ih =>
    unfold tb
    by_cases h : c = 10
    · rw [if_pos h, toC_cons_eq h]
      rfl
    · rw [if_neg h, toC_cons_ne h, List.take_succ_cons, List.dropWhile_cons]
      by_cases h2 : c = 32
      · rw [if_pos h2, if_pos (by simp [h2])]
        exact ih
      · rw [if_neg h2, if_neg (by simp [h2])]
theorem drop_toC {c : Nat} {l : S} (h : c ∈ l) : l.drop (toC c l) = c :: l.drop (toC c l + 1) := by
  have h1 := toC_get h
  have h2 := lt_of_get h1
  rw [List.drop_eq_getElem_cons h2]
  rw [List.getElem?_eq_getElem h2] at h1
  rw [Option.some.inj h1]
theorem mn_cons {c : Nat} {r : S} (h : c ≠ 10) : min (toC 10 (c :: r) + 1) (c :: r).length = min (toC 10 r + 1) r.length + 1 := by
  rw [toC_cons_ne h, List.length_cons]
  omega
theorem tail_gm : ∀ l : S, tb l = true → gm false l = min (toC 10 l + 1) l.length + gm false (l.drop (min (toC 10 l + 1) l.length))
  | [], _ => by simp [gm]
  | c :: r, h => by
    unfold tb at h
    by_cases h1 : c = 10
    · rw [toC_cons_eq h1]
      have : min (0 + 1) (c :: r).length = 1 := by simp
      rw [this]
      simp [gm, h1]
      omega
    · rw [mn_cons h1, List.drop_succ_cons]
      rw [if_neg h1] at h
      by_cases h2 : c = 32
      · rw [if_pos h2] at h
        have := tail_gm r h
        conv => lhs; unfold gm
        rw [if_pos (.inl h2), this]
        omega
      · rw [if_neg h2] at h
        have h3 : c = 35 := by simpa using h
        conv => lhs; unfold gm
        rw [if_neg (by omega), if_pos h3, gm_true]
        by_cases hm : 10 ∈ r
        · have := lt_of_get (toC_get hm)
          rw [Nat.min_eq_left (by omega), drop_toC hm]
          conv => lhs; unfold gm
          simp
          omega
        · rw [toC_none hm, Nat.min_eq_right (by omega)]
          omega
theorem tail_take : ∀ l : S, tb l = true → gm false (l.take (min (toC 10 l + 1) l.length)) = min (toC 10 l + 1) l.length ∧ tb (l.take (min (toC 10 l + 1) l.length)) = true ∧
    min (toC 10 (l.take (min (toC 10 l + 1) l.length)) + 1) (min (toC 10 l + 1) l.length) = min (toC 10 l + 1) l.length
  | [], _ => by simp [gm, tb]
  | c :: r, h => by
    unfold tb at h
    by_cases h1 : c = 10
    · rw [toC_cons_eq h1]
      have : min (0 + 1) (c :: r).length = 1 := by simp
      rw [this]
      simp [gm, h1, tb]
    · rw [mn_cons h1, List.take_succ_cons]
      rw [if_neg h1] at h
      by_cases h2 : c = 32
      · rw [if_pos h2] at h
        obtain ⟨i1, i2, i3⟩ := tail_take r h
        refine ⟨?_, ?_, ?_⟩
        · unfold gm
          rw [if_pos (.inl h2), i1]
        · unfold tb
          rw [if_neg h1, if_pos h2, i2]
        · rw [toC_cons_ne h1]
          omega
      · rw [if_neg h2] at h
        have h3 : c = 35 := by simpa using h
        have key : gm true (r.take (min (toC 10 r + 1) r.length)) = min (toC 10 r + 1) r.length ∧ min (toC 10 (r.take (min (toC 10 r + 1) r.length)) + 1) (min (toC 10 r + 1) r.length) = min (toC 10 r + 1) r.length := by
          by_cases hm : 10 ∈ r
          · have hl := lt_of_get (toC_get hm)
            have hmn : min (toC 10 r + 1) r.length = toC 10 r + 1 := by omega
            rw [hmn]
            have ha : toC 10 (r.take (toC 10 r + 1)) = toC 10 r := by
              have hmem : 10 ∈ r.take (toC 10 r + 1) := by
                refine List.mem_of_getElem? (i := toC 10 r) ?_
                rw [List.getElem?_take, if_pos (by omega)]
                exact toC_get hm
              have := toC_app (r.drop (toC 10 r + 1)) hmem
              rw [List.take_append_drop] at this
              exact this.symm
            rw [gm_true, ha]
            have hd : (r.take (toC 10 r + 1)).drop (toC 10 r) = [10] := by
              rw [List.drop_take, drop_toC hm]
              have : toC 10 r + 1 - toC 10 r = 1 := by omega
              rw [this]
              rfl
            rw [hd]
            simp [gm]
          · have hmn : min (toC 10 r + 1) r.length = r.length := by rw [toC_none hm]; omega
            rw [hmn, List.take_length, gm_true, toC_none hm]
            simp [gm]
        refine ⟨?_, ?_, ?_⟩
        · unfold gm
          rw [if_neg (by omega), if_pos h3, key.1]
        · unfold tb
          rw [if_neg h1, if_neg h2]
          simp [h3]
        · rw [toC_cons_ne h1]
          have := key.2
          omega
theorem tailLen_gm (l : S) : gm false l = tailLen l + gm false (l.drop (tailLen l)) := by
  unfold tailLen
  split
  · rename_i h
    exact tail_gm l h
  · simp
theorem tailLen_take (l : S) : gm false (l.take (tailLen l)) = tailLen l ∧ tailLen (l.take (tailLen l)) = tailLen l := by
  by_cases h : tb l = true
  · have e : tailLen l = min (toC 10 l + 1) l.length := by unfold tailLen; rw [if_pos h]
    obtain ⟨i1, i2, i3⟩ := tail_take l h
    rw [e]
    refine ⟨i1, ?_⟩
    conv => lhs; unfold tailLen
    rw [if_pos i2, List.length_take]
    have : min (min (toC 10 l + 1) l.length) l.length = min (toC 10 l + 1) l.length := by omega
    rw [this]
    exact i3
  · have e : tailLen l = 0 := by unfold tailLen; rw [if_neg h]
    rw [e]
    simp [gm, tailLen]
theorem tb_app : ∀ (x y : S), 10 ∈ x → tb (x ++ y) = tb x
  | [], y, h => by simp at h
  | c :: x, y, h => by
    rw [List.cons_append]
    unfold tb
    by_cases h1 : c = 10
    · rw [if_pos h1, if_pos h1]
    · rw [if_neg h1, if_neg h1]
      by_cases h2 : c = 32
      · rw [if_pos h2, if_pos h2]
        refine tb_app x y ?_
        simp at h
        rcases h with h | h
        · exact absurd h.symm h1
        · exact h
      · rw [if_neg h2, if_neg h2]
theorem tb_gap : ∀ (g : S) (c : Nat) (s y : S), 10 ∉ g → gm false (g ++ (c :: s ++ y)) = g.length → 10 ∉ c :: s → tb (g ++ (c :: s ++ y)) = false
  | [], c, s, y, _, h, hc => by
    rw [List.nil_append, List.cons_append] at h ⊢
    unfold gm at h
    unfold tb
    split at h
    · simp at h
    · rename_i h1
      split at h
      · simp at h
      · rename_i h2
        rw [if_neg (by omega), if_neg (by omega)]
        simp [h2]
  | d :: g, c, s, y, hg, h, hc => by
    rw [List.cons_append] at h ⊢
    have hd : d ≠ 10 := fun e => hg (by simp [e])
    have hg' : 10 ∉ g := fun e => hg (by simp [e])
    unfold gm at h
    unfold tb
    rw [if_neg hd]
    split at h
    · rename_i h1
      rw [if_pos (by omega)]
      exact tb_gap g c s y hg' (by simp at h; simpa using h) hc
    · split at h
      · exfalso
        rw [gm_true, ← List.append_assoc] at h
        rw [toC_end (c := 10) (l := g ++ c :: s) y (by
          intro e
          rw [List.mem_append] at e
          rcases e with e | e
          · exact hg' e
          · exact hc e)] at h
        simp at h
        omega
      · simp at h
theorem tailLen_pre {g s y : S} (h1 : gm false (g ++ (s ++ y)) = g.length) (h2 : s = [] → y = []) : tailLen (g ++ s) = tailLen (g ++ (s ++ y)) := by
  rw [← List.append_assoc] at h1 ⊢
  by_cases hn : 10 ∈ g ++ s
  · unfold tailLen
    rw [tb_app _ y hn, toC_app y hn]
    have := lt_of_get (toC_get hn)
    rw [List.length_append (as := g ++ s)]
    split <;> omega
  · cases s with
    | nil => rw [h2 rfl]; simp
    | cons c s =>
      rw [List.mem_append, not_or] at hn
      have a := tb_gap g c s y hn.1 (by rw [← List.append_assoc]; exact h1) hn.2
      have b := tb_gap g c s [] hn.1 (by
        rw [List.append_nil]
        rw [gm_pre false _ y (by rw [h1]; simp), h1]) hn.2
      rw [List.append_nil] at b
      rw [← List.append_assoc] at a
      unfold tailLen
      rw [a, b]
      simp
end Mini

set_option Elab.async false
set_option linter.all false
set_option maxRecDepth 100000
set_option maxHeartbeats 4000000
namespace Mini
/-! ### items -/
def isEnd (w : Wd) : Bool := decide (w.1 = sSign) && decide (w.2.2 = [59])
def prtG : List Wd → List Wd → List (List Wd)
  | [], [] => []
  | a :: row, [] => [a :: row]
  | row, w :: ws => if isEnd w = true then (row ++ [w]) :: prtG [] ws else prtG (row ++ [w]) ws
theorem prtG_cons (row : List Wd) (w : Wd) (ws : List Wd) : prtG row (w :: ws) = if isEnd w = true then (row ++ [w]) :: prtG [] ws else prtG (row ++ [w]) ws := by
  cases row <;> rw [prtG]
theorem prtG_end {row : List Wd} (h : row ≠ []) : prtG row [] = [row] := by
  cases row with
  | nil => exact absurd rfl h
  | cons a r => rw [prtG]
def wout (w : Wd) (m : Nat) : Wd := (w.1, w.2.1.drop m, w.2.2)
def hdW (m : Nat) : List Wd → List Wd
  | [] => []
  | w :: ws => wout w m :: ws
def lastEnd (row : List Wd) : Bool := match row.getLast? with
  | some w => isEnd w
  | none => false
def bhd (rest : S) : List (List Wd) → Wd
  | (w :: _) :: _ => w
  | _ => ([], rest, [])
def mOf (rest : S) (row : List Wd) (rows : List (List Wd)) : Nat := if lastEnd row = true then tailLen ((bhd rest rows).2.1 ++ (bhd rest rows).2.2) else 0
def tOf (rest : S) (row : List Wd) (rows : List (List Wd)) : S := if lastEnd row = true then (bhd rest rows).2.1.take (mOf rest row rows) else []
def itG (rest : S) : Nat → List (List Wd) → List (List Wd × S) × S
  | m, [] => ([], rest.drop m)
  | m, row :: rows => ((hdW m row, tOf rest (hdW m row) rows) :: (itG rest (mOf rest (hdW m row) rows) rows).1, (itG rest (mOf rest (hdW m row) rows) rows).2)
def itemsW (t : S) : List (List Wd × S) × S := itG (wl t).2 0 (prtG [] (wl t).1)
def itTx (it : List Wd × S) : S := (it.1.map cat).flatten ++ it.2
def ksW (w : Wd) : S × S := (w.1, w.2.2)
theorem isEnd_wout (w : Wd) (m : Nat) : isEnd (wout w m) = isEnd w := rfl
theorem wout0 (w : Wd) : wout w 0 = w := rfl
theorem hdW0 (u : List Wd) : hdW 0 u = u := by cases u <;> rfl
theorem prt_step : ∀ (ws row : List Wd), (∀ w ∈ row, isEnd w = false) → row ++ ws ≠ [] → ∃ u vs, ws = u ++ vs ∧ prtG row ws = (row ++ u) :: prtG [] vs ∧
    ((∃ u0 e, row ++ u = u0 ++ [e] ∧ isEnd e = true ∧ ∀ w ∈ u0, isEnd w = false) ∨ (vs = [] ∧ ∀ w ∈ row ++ u, isEnd w = false))
  | [], row, h, hne => by
    rw [List.append_nil] at hne
    refine ⟨[], [], rfl, by rw [prtG_end hne, List.append_nil, prtG], .inr ⟨rfl, by simpa using h⟩⟩
  | w :: ws, row, h, _ => by
    by_cases hw : isEnd w = true
    · exact ⟨[w], ws, rfl, by rw [prtG_cons, if_pos hw], .inl ⟨row, w, rfl, hw, h⟩⟩
    · obtain ⟨u, vs, e1, e2, e3⟩ := prt_step ws (row ++ [w]) (fun x hx => by
        rw [List.mem_append] at hx
        rcases hx with hx | hx
        · exact h x hx
        · simp at hx
          subst hx
          simpa using hw) (by simp)
      refine ⟨w :: u, vs, by rw [e1, List.cons_append], ?_, ?_⟩
      · rw [prtG_cons, if_neg hw, e2, List.append_assoc]
        rfl
      · rw [List.append_assoc] at e3
        exact e3
theorem prt_one_end : ∀ (u0 row : List Wd) (e : Wd), (∀ w ∈ u0, isEnd w = false) → isEnd e = true → prtG row (u0 ++ [e]) = [row ++ (u0 ++ [e])]
  | [], row, e, _, he => by
    rw [List.nil_append, prtG_cons, if_pos he, prtG]
  | w :: u0, row, e, h, he => by
    rw [List.cons_append, prtG_cons, if_neg (by rw [h w (by simp)]; simp), prt_one_end u0 _ e (fun x hx => h x (by simp [hx])) he]
    simp
theorem prt_one_no : ∀ (u row : List Wd), (∀ w ∈ u, isEnd w = false) → row ++ u ≠ [] → prtG row u = [row ++ u]
  | [], row, _, hne => by
    rw [List.append_nil] at hne ⊢
    exact prtG_end hne
  | w :: u, row, h, _ => by
    rw [prtG_cons, if_neg (by rw [h w (by simp)]; simp), prt_one_no u _ (fun x hx => h x (by simp [hx])) (by simp)]
    simp
theorem bhd_prt {r : S} {b : Wd} {vs : List Wd} : bhd r (prtG [] (b :: vs)) = b := by
  obtain ⟨u, vs', e1, e2, e3⟩ := prt_step (b :: vs) [] (by simp) (by simp)
  rw [e2, List.nil_append]
  cases u with
  | nil =>
    rw [List.nil_append] at e1
    rcases e3 with ⟨u0, e, h, _⟩ | ⟨h, _⟩
    · simp at h
    · rw [← e1] at h
      cases h
  | cons a u =>
    rw [List.cons_append] at e1
    cases e1
    rfl
theorem wl_drop {l0 r : S} {w : Wd} {ws : List Wd} {m : Nat} (h : wl l0 = (w :: ws, r)) (hm : gm false l0 = m + gm false (l0.drop m)) : wl (l0.drop m) = (wout w m :: ws, r) := by
  obtain ⟨l', e, h1, h2, h3, h5⟩ := wl_cons h
  have hle : m ≤ w.2.1.length := by omega
  have e1 : l0.drop m = w.2.1.drop m ++ (w.2.2 ++ l') := by
    rw [e, List.drop_append_of_le_length hle]
  rw [e1] at hm ⊢
  exact wl_mk (by rw [List.length_drop]; omega) h2 h3 h5
theorem lastEnd_hd (m : Nat) (u : List Wd) : lastEnd (hdW m u) = lastEnd u := by
  cases u with
  | nil => rfl
  | cons w u =>
    cases u with
    | nil => rfl
    | cons v u =>
      unfold lastEnd hdW
      rw [List.getLast?_cons_cons, List.getLast?_cons_cons]
theorem map_hd {β : Type} (f : Wd → β) (m : Nat) (hf : ∀ w, f (wout w m) = f w) (u : List Wd) : (hdW m u).map f = u.map f := by
  cases u with
  | nil => rfl
  | cons w u => unfold hdW; rw [List.map_cons, List.map_cons, hf]
theorem hd_ends (m : Nat) (u : List Wd) : (∀ w ∈ u, isEnd w = false) → ∀ w ∈ hdW m u, isEnd w = false := by
  intro h w hw
  cases u with
  | nil => simp [hdW] at hw
  | cons a u =>
    unfold hdW at hw
    rw [List.mem_cons] at hw
    rcases hw with rfl | hw
    · exact h a (by simp)
    · exact h w (by simp [hw])
theorem it_main : ∀ (n : Nat) (ws : List Wd) (l0 r : S) (m : Nat), ws.length ≤ n → wl l0 = (ws, r) → gm false l0 = m + gm false (l0.drop m) →
    ((itG r m (prtG [] ws)).1.map itTx).flatten ++ (itG r m (prtG [] ws)).2 = l0.drop m ∧ (∀ it ∈ (itG r m (prtG [] ws)).1, it.1 ≠ [] ∧ itemsW (itTx it) = ([it], [])) ∧
      ((itG r m (prtG [] ws)).1.map fun it => it.1.map ksW).flatten = ws.map ksW
  | n, [], l0, r, m, _, h, hm => by
    obtain ⟨rfl, _⟩ := wl_stop h
    rw [prtG, itG]
    simp
  | 0, w :: ws, l0, r, m, hn, h, hm => by simp at hn
  | n + 1, w :: ws, l0, r, m, hn, h, hm => by
    obtain ⟨u, vs, e1, e2, e3⟩ := prt_step (w :: ws) [] (by simp) (by simp)
    rw [List.nil_append] at e2 e3
    have hu : u ≠ [] := by
      intro e
      subst e
      rcases e3 with ⟨u0, e, h, _⟩ | ⟨h, _⟩
      · simp at h
      · rw [h] at e1
        cases e1
    have hvl : vs.length ≤ n := by
      have := congrArg List.length e1
      rw [List.length_append] at this
      have : 0 < u.length := List.length_pos_iff.2 hu
      simp at hn
      simp at *
      omega
    have hl1 : wl (l0.drop m) = (hdW m u ++ vs, r) := by
      have := wl_drop h hm
      cases u with
      | nil => exact absurd rfl hu
      | cons a u =>
        rw [List.cons_append] at e1
        cases e1
        exact this
    have hu' : hdW m u ≠ [] := by
      cases u with
      | nil => exact absurd rfl hu
      | cons a u => simp [hdW]
    obtain ⟨z, z1, z2⟩ := wl_suf (hdW m u) hl1
    rw [e2, itG]
    dsimp only
    have hks : (hdW m u).map ksW = u.map ksW := map_hd ksW m (fun _ => rfl) u
    rcases e3 with ⟨u0, e, h1, h2, h3⟩ | ⟨h1, h2⟩
    · have hle : lastEnd (hdW m u) = true := by
        rw [lastEnd_hd, h1]
        unfold lastEnd
        rw [List.getLast?_concat]
        exact h2
      -- the tail
      have hmt : mOf r (hdW m u) (prtG [] vs) = tailLen z ∧ tOf r (hdW m u) (prtG [] vs) = z.take (tailLen z) := by
        unfold tOf mOf
        rw [if_pos hle, if_pos hle]
        cases vs with
        | nil =>
          obtain ⟨rfl, _⟩ := wl_stop z2
          rw [prtG]
          simp [bhd]
        | cons b vs =>
          rw [bhd_prt]
          obtain ⟨l', y1, y2, y3, y4, y5⟩ := wl_cons z2
          have k1 := tailLen_pre (g := b.2.1) (s := b.2.2) (y := l') (by rw [← y1]; exact y2) (fun e => absurd e y3)
          rw [← y1] at k1
          rw [k1]
          have k2 := tailLen_gm z
          refine ⟨rfl, ?_⟩
          generalize tailLen z = q at k2
          rw [y1, List.take_append_of_le_length (by omega)]
      rw [hmt.1, hmt.2]
      obtain ⟨i1, i2, i3⟩ := it_main n vs z r (tailLen z) hvl z2 (tailLen_gm z)
      have htk := tailLen_take z
      have hlen : (z.take (tailLen z)).length = tailLen z := by
        rw [List.length_take]
        have := tailLen_le z
        omega
      refine ⟨?_, ?_, ?_⟩
      · rw [List.map_cons, List.flatten_cons, List.append_assoc, i1, z1]
        unfold itTx
        dsimp only
        rw [List.append_assoc, List.take_append_drop]
      · intro it hit
        rw [List.mem_cons] at hit
        rcases hit with rfl | hit
        · refine ⟨hu', ?_⟩
          have hx : wl (itTx (hdW m u, z.take (tailLen z))) = (hdW m u, z.take (tailLen z)) := by
            have := wl_pre (hdW m u) (z := z.take (tailLen z)) (y := z.drop (tailLen z)) (vs := vs) (r := r) (by rw [List.append_assoc, List.take_append_drop, ← z1]; exact hl1)
            rw [wl_all (l := z.take (tailLen z)) (by rw [hlen]; exact htk.1), List.append_nil] at this
            exact this
          unfold itemsW
          rw [hx]
          dsimp only
          have hp : prtG [] (hdW m u) = [hdW m u] := by
            rw [h1]
            cases u0 with
            | nil =>
              exact prt_one_end [] [] (wout e m) (by simp) h2
            | cons a u0 =>
              exact prt_one_end (wout a m :: u0) [] e (hd_ends m (a :: u0) h3) h2
          rw [hp, itG, itG, hdW0]
          have q1 : mOf (z.take (tailLen z)) (hdW m u) [] = tailLen z := by
            unfold mOf
            rw [if_pos hle]
            simp only [bhd, List.append_nil]
            exact htk.2
          have q2 : tOf (z.take (tailLen z)) (hdW m u) [] = z.take (tailLen z) := by
            unfold tOf
            rw [if_pos hle, q1]
            simp only [bhd]
            rw [List.take_take, Nat.min_self]
          rw [q1, q2, List.drop_eq_nil_of_le (by rw [hlen]; exact Nat.le_refl _)]
        · exact i2 it hit
      · rw [List.map_cons, List.flatten_cons, i3, e1, List.map_append]
        dsimp only
        rw [hks]
    · subst h1
      rw [List.append_nil] at e1
      have hne : ∀ x ∈ hdW m u, isEnd x = false := hd_ends m u h2
      have hle : lastEnd (hdW m u) = false := by
        unfold lastEnd
        split
        · rename_i x hx
          exact hne x (List.mem_of_getLast? hx)
        · rfl
      obtain ⟨rfl, _⟩ := wl_stop z2
      have hm0 : mOf r (hdW m u) [] = 0 := by unfold mOf; rw [hle]; rfl
      have ht0 : tOf r (hdW m u) [] = [] := by unfold tOf; rw [hle]; rfl
      rw [prtG, hm0, ht0, itG]
      refine ⟨?_, ?_, ?_⟩
      · rw [z1]
        simp [itTx]
      · intro it hit
        simp only [List.mem_singleton] at hit
        subst hit
        refine ⟨hu', ?_⟩
        have hx : wl (itTx (hdW m u, [])) = (hdW m u, []) := by
          have := wl_pre (hdW m u) (z := []) (y := r) (vs := []) (r := r) (by rw [List.append_nil, List.append_nil, ← z1]; rw [List.append_nil] at hl1; exact hl1)
          rw [wl_nil] at this
          simp only [List.append_nil] at this
          unfold itTx
          simp only [List.append_nil]
          exact this
        unfold itemsW
        rw [hx]
        dsimp only
        rw [prt_one_no (hdW m u) [] hne (by simpa using hu'), List.nil_append, itG, itG, hdW0]
        have q1 : mOf [] (hdW m u) [] = 0 := by unfold mOf; rw [hle]; rfl
        have q2 : tOf [] (hdW m u) [] = [] := by unfold tOf; rw [hle]; rfl
        rw [q1, q2]
        rfl
      · simp [hks, e1]
/-- what the law asks of a text's items -/
theorem items_all (t : S) : ((itemsW t).1.map itTx).flatten ++ (itemsW t).2 = t ∧ (∀ it ∈ (itemsW t).1, it.1 ≠ [] ∧ itemsW (itTx it) = ([it], [])) ∧ ((itemsW t).1.map fun it => it.1.map ksW).flatten = (wl t).1.map ksW :=
  it_main (wl t).1.length (wl t).1 t (wl t).2 0 (Nat.le_refl _) rfl (by simp)
end Mini

set_option Elab.async false
set_option linter.all false
set_option maxRecDepth 100000
set_option maxHeartbeats 4000000
namespace Mini
/-! ### items, one by one -/
theorem items_nil {l r : S} (h : wl l = ([], r)) : itemsW l = ([], l) := by
  obtain ⟨rfl, _⟩ := wl_stop h
  unfold itemsW
  rw [h]
  dsimp only
  rw [prtG, itG, List.drop_zero]
theorem lastEnd_no {u : List Wd} (h : ∀ w ∈ u, isEnd w = false) : lastEnd u = false := by
  unfold lastEnd
  split
  · rename_i x hx
    exact h x (List.mem_of_getLast? hx)
  · rfl
theorem items_no {l r : S} {ws : List Wd} (h : wl l = (ws, r)) (hne : ws ≠ []) (hno : ∀ w ∈ ws, isEnd w = false) : itemsW l = ([(ws, [])], r) := by
  unfold itemsW
  rw [h]
  dsimp only
  rw [prt_one_no ws [] hno (by simpa using hne), List.nil_append, itG, itG, hdW0]
  have hle := lastEnd_no hno
  have q1 : mOf r ws [] = 0 := by unfold mOf; rw [hle]; rfl
  have q2 : tOf r ws [] = [] := by unfold tOf; rw [hle]; rfl
  rw [q1, q2, List.drop_zero]
theorem prtG_pre : ∀ (u0 row : List Wd) (e : Wd) (vs : List Wd), (∀ w ∈ u0, isEnd w = false) → isEnd e = true → prtG row (u0 ++ e :: vs) = (row ++ (u0 ++ [e])) :: prtG [] vs
  | [], row, e, vs, _, he => by
    rw [List.nil_append, prtG_cons, if_pos he, List.nil_append]
  | w :: u0, row, e, vs, h, he => by
    rw [List.cons_append, prtG_cons, if_neg (by rw [h w (by simp)]; simp), prtG_pre u0 _ e vs (fun x hx => h x (by simp [hx])) he]
    simp
theorem prtG_hd (m : Nat) (b : Wd) (vs : List Wd) : ∃ row rows, prtG [] (b :: vs) = row :: rows ∧ prtG [] (wout b m :: vs) = hdW m row :: rows := by
  have key : ∀ (vs row : List Wd) (b : Wd), ∃ row' rows, prtG (b :: row) vs = (b :: row') :: rows ∧ prtG (wout b m :: row) vs = (wout b m :: row') :: rows := by
    intro vs
    induction vs with
    | nil => intro row b; exact ⟨row, [], by rw [prtG], by rw [prtG]⟩
    | cons v vs ih =>
      intro row b
      rw [prtG_cons, prtG_cons]
      by_cases hv : isEnd v = true
      · rw [if_pos hv, if_pos hv]
        exact ⟨row ++ [v], prtG [] vs, rfl, rfl⟩
      · rw [if_neg hv, if_neg hv]
        exact ih (row ++ [v]) b
  rw [prtG_cons, prtG_cons, isEnd_wout]
  by_cases hb : isEnd b = true
  · rw [if_pos hb, if_pos hb]
    exact ⟨[b], prtG [] vs, rfl, rfl⟩
  · rw [if_neg hb, if_neg hb]
    obtain ⟨row', rows, h1, h2⟩ := key vs [] b
    exact ⟨b :: row', rows, h1, h2⟩
theorem hdW_hd (m : Nat) (u : List Wd) : hdW 0 (hdW m u) = hdW m u := hdW0 _
theorem itG_drop {z r : S} {vs : List Wd} {m : Nat} (h : wl z = (vs, r)) (hm : gm false z = m + gm false (z.drop m)) : itG r m (prtG [] vs) = itemsW (z.drop m) := by
  cases vs with
  | nil =>
    obtain ⟨rfl, h2⟩ := wl_stop h
    have : wl (r.drop m) = ([], r.drop m) := wl_all (by rw [List.length_drop]; omega)
    rw [items_nil this, prtG, itG]
  | cons b vs =>
    have hw := wl_drop h hm
    obtain ⟨row, rows, h1, h2⟩ := prtG_hd m b vs
    unfold itemsW
    rw [hw]
    dsimp only
    rw [h1, h2, itG, itG, hdW_hd]
theorem items_step {l r : S} {u0 vs : List Wd} {e : Wd} (h : wl l = (u0 ++ e :: vs, r)) (he : isEnd e = true) (hno : ∀ w ∈ u0, isEnd w = false) :
    ∃ z, l = ((u0 ++ [e]).map cat).flatten ++ z ∧ itemsW l = ((u0 ++ [e], z.take (tailLen z)) :: (itemsW (z.drop (tailLen z))).1, (itemsW (z.drop (tailLen z))).2) := by
  have h' : wl l = ((u0 ++ [e]) ++ vs, r) := by rw [h]; simp
  obtain ⟨z, z1, z2⟩ := wl_suf (u0 ++ [e]) h'
  refine ⟨z, z1, ?_⟩
  have hle : lastEnd (u0 ++ [e]) = true := by
    unfold lastEnd
    rw [List.getLast?_concat]
    exact he
  have hmt : mOf r (u0 ++ [e]) (prtG [] vs) = tailLen z ∧ tOf r (u0 ++ [e]) (prtG [] vs) = z.take (tailLen z) := by
    unfold tOf mOf
    rw [if_pos hle, if_pos hle]
    cases vs with
    | nil =>
      obtain ⟨rfl, _⟩ := wl_stop z2
      rw [prtG]
      simp [bhd]
    | cons b vs =>
      rw [bhd_prt]
      obtain ⟨l', y1, y2, y3, y4, y5⟩ := wl_cons z2
      have k1 := tailLen_pre (g := b.2.1) (s := b.2.2) (y := l') (by rw [← y1]; exact y2) (fun e => absurd e y3)
      rw [← y1] at k1
      rw [k1]
      have k2 := tailLen_gm z
      refine ⟨rfl, ?_⟩
      generalize tailLen z = q at k2
      rw [y1, List.take_append_of_le_length (by omega)]
  rw [← itG_drop z2 (tailLen_gm z)]
  unfold itemsW
  rw [h]
  dsimp only
  rw [prtG_pre u0 [] e vs hno he, List.nil_append, itG, hdW0, hmt.1, hmt.2]
/-- the law's own look at a line -/
theorem strip_tb (l : S) : ((stripS [32] (l.take (toC 10 l))).take 1 = [] ∨ (stripS [32] (l.take (toC 10 l))).take 1 = [35]) ↔ tb l = true := by
  rw [tb_match]
  have e : ∀ x : S, (stripS [32] x).head? = (x.dropWhile fun y => [32].contains y).head? := by
    intro x
    have dw : x.drop (x.takeWhile (fun y => [32].contains y)).length = x.dropWhile (fun y => [32].contains y) := by
      have := List.takeWhile_append_dropWhile (p := fun y => [32].contains y) (l := x)
      conv => lhs; rw [← this]
      rw [List.drop_left']
      simp
    unfold stripS
    rw [dw]
    cases hd : x.dropWhile (fun y => [32].contains y) with
    | nil => simp
    | cons c r =>
      have hc : ([32].contains c) = false := by
        have := List.head?_dropWhile_not (fun y => [32].contains y) x
        rw [hd] at this
        simpa using this
      have hlen : (x.takeWhile (fun y => [32].contains y)).length + (c :: r).length = x.length := by
        have := congrArg List.length (List.takeWhile_append_dropWhile (p := fun y => [32].contains y) (l := x))
        rw [List.length_append, hd] at this
        exact this
      have hlt : ((c :: r).reverse.takeWhile fun y => [32].contains y).length ≤ r.length := by
        rw [List.reverse_cons, List.takeWhile_append]
        split
        · rw [List.takeWhile_cons, hc]
          simp
        · rename_i hne
          have := (List.takeWhile_sublist (fun y => [32].contains y) (l := r.reverse)).length_le
          simpa using this
      rw [List.length_cons] at hlen
      have hn : ∃ q, x.length - ((c :: r).reverse.takeWhile fun y => [32].contains y).length - (x.takeWhile fun y => [32].contains y).length = q + 1 := ⟨x.length - ((c :: r).reverse.takeWhile fun y => [32].contains y).length - (x.takeWhile fun y => [32].contains y).length - 1, by omega⟩
      obtain ⟨q, hq⟩ := hn
      rw [hq]
      simp
  have e1 := e (l.take (toC 10 l))
  cases hs : stripS [32] (l.take (toC 10 l)) with
  | nil =>
    rw [hs] at e1
    cases hd : (l.take (toC 10 l)).dropWhile (fun y => [32].contains y) with
    | nil => simp
    | cons c r => rw [hd] at e1; cases e1
  | cons c r =>
    rw [hs] at e1
    cases hd : (l.take (toC 10 l)).dropWhile (fun y => [32].contains y) with
    | nil => rw [hd] at e1; cases e1
    | cons c' r' =>
      rw [hd] at e1
      cases e1
      simp
end Mini

set_option Elab.async false
set_option linter.all false
set_option maxRecDepth 100000
set_option maxHeartbeats 4000000
namespace Mini
/-! ### items_of and what it calls -/
structure HasI (P : Pg) : Prop where
  h59 : P.fn 59 = some f59
  h60 : P.fn 60 = some f60
  h61 : P.fn 61 = some f61
  h62 : P.fn 62 = some f62
  h63 : P.fn 63 = some f63
  h64 : P.fn 64 = some f64
  h65 : P.fn 65 = some f65
  h66 : P.fn 66 = some f66
  h69 : P.gl 69 = some c69
theorem e69 : c69 = .str [59] := rfl
theorem cut_toA {α : Type} (xs : List α) (i : Nat) : cut xs none (some (i : Int)) = xs.take i := by
  unfold cut
  rw [HT.sIx_nat, HT.sIx_none, List.drop_zero, Nat.sub_zero]
  rcases Nat.le_total i xs.length with h | h
  · rw [Nat.min_eq_left h]
  · rw [Nat.min_eq_right h, List.take_length, List.take_of_length_le h]
theorem cut_fromA {α : Type} (xs : List α) (i : Nat) : cut xs (some (i : Int)) none = xs.drop i := by
  rcases Nat.le_total i xs.length with h | h
  · exact cut_from xs i h
  · unfold cut
    rw [HT.sIx_nat, HT.sIx_none, Nat.min_eq_right h, List.drop_length, List.drop_eq_nil_of_le h]
    simp
theorem wd0 (w : Wd) : L2.atI [D.str w.1, D.str w.2.1, D.str w.2.2] 0 = some (.str w.1) := rfl
theorem wd1 (w : Wd) : L2.atI [D.str w.1, D.str w.2.1, D.str w.2.2] 1 = some (.str w.2.1) := rfl
theorem wd2 (w : Wd) : L2.atI [D.str w.1, D.str w.2.1, D.str w.2.2] 2 = some (.str w.2.2) := rfl
theorem is_end_spec {P : Pg} (H : HasI P) (n : Nat) (w : Wd) (st : Sto) (Q : D → Sto → Prop) (k : Q (.bl (isEnd w)) st) : W (callN P (n + 1) 60 [wdD w] st) Q := by
  rw [callN, H.h60]
  simp_arith! only [f60, wdD, wd0, wd2, H.h69, e69]
  unfold isEnd sSign at k
  refine ⟨fun h => ?_, fun h => ?_⟩
  · rw [h] at k
    simpa using k
  · simp only [h, decide_false, Bool.false_and] at k
    exact k
theorem tail_length_spec {P : Pg} (H : HasI P) (h4 : P.fn 4 = some f4) (n : Nat) (x : S) (st : Sto) (Q : D → Sto → Prop) (k : Q (.int (tailLen x : Nat)) st) : W (callN P (n + 2) 61 [.str x] st) Q := by
  have hle := lineEnd_le (t := x) (a := 0) (Nat.zero_le _)
  have hz : lineEnd x 0 = toC 10 x := by unfold lineEnd; simp
  have hc : cut x none (some ((toC 10 x : Nat) : Int)) = x.take (toC 10 x) := cut_toA _ _
  rw [callN, H.h61]
  simp_arith [f61, W_call _ _ h4]
  refine W_eq (line_end_spec h4 n x 0 _ (by omega)) _ ?_
  rw [hz]
  simp_arith []
  rw [QC_nx]
  simp_arith [hc]
  rw [QC_nx]
  have hb := tb_match x
  unfold tailLen at k
  generalize (x.take (toC 10 x)).dropWhile (fun x => [32].contains x) = own at hb
  simp_arith! only []
  cases own with
  | nil =>
    simp only at hb
    rw [if_pos hb] at k
    simp_arith! only []
    have e : (if (x.length : Int) < ((toC 10 x : Nat) : Int) + 1 then (x.length : Int) else ((toC 10 x : Nat) : Int) + 1) = ((min (toC 10 x + 1) x.length : Nat) : Int) := by
      split <;> omega
    simp [e]
    exact k
  | cons c r =>
    have i0 : L2.atI (c :: r) 0 = some c := atI_nat (c :: r) 0
    simp_arith! only [i0]
    have e : (if (x.length : Int) < ((toC 10 x : Nat) : Int) + 1 then (x.length : Int) else ((toC 10 x : Nat) : Int) + 1) = ((min (toC 10 x + 1) x.length : Nat) : Int) := by
      split <;> omega
    by_cases h : c = 35
    · subst h
      simp only [decide_true] at hb
      rw [if_pos hb] at k
      simp [e]
      exact k
    · simp only [h, decide_false] at hb
      rw [if_neg (by rw [hb]; simp)] at k
      simp [h]
      exact k
theorem without_spec {P : Pg} (H : HasI P) (n : Nat) (w : Wd) (m : Nat) (st : Sto) (Q : D → Sto → Prop) (k : Q (wdD (wout w m)) st) : W (callN P (n + 1) 63 [wdD w, .int (m : Nat)] st) Q := by
  rw [callN, H.h63]
  simp_arith! only [f63, wdD, wd0, wd1, wd2, cut_fromA]
  exact k
/-! ### parted -/
def rowO (r : List Wd) : O := .lst (r.map wdD)
def idsR (b n : Nat) : List D := (List.range n).map fun i => .obj (b + i)
theorem idsR_succ (b n : Nat) : idsR b (n + 1) = idsR b n ++ [.obj (b + n)] := by
  unfold idsR
  rw [List.range_succ, List.map_append]
  rfl
theorem idsR_len (b n : Nat) : (idsR b n).length = n := by
  unfold idsR
  simp
def pSt (st : Sto) (done : List (List Wd)) (row : List Wd) : Sto := (st ++ .lst (idsR (st.length + 1) done.length) :: done.map rowO) ++ [rowO row]
theorem pSt_len (st : Sto) (done : List (List Wd)) (row : List Wd) : (st ++ .lst (idsR (st.length + 1) done.length) :: done.map rowO).length = st.length + 1 + done.length := by
  simp
  omega
theorem pSt_row (st : Sto) (done : List (List Wd)) (row : List Wd) : (pSt st done row)[st.length + 1 + done.length]? = some (rowO row) := by
  unfold pSt
  rw [← pSt_len st done row]
  exact last_at _ _
theorem pSt_found (st : Sto) (done : List (List Wd)) (row : List Wd) : (pSt st done row)[st.length]? = some (.lst (idsR (st.length + 1) done.length)) := by
  unfold pSt
  refine get_app ?_
  rw [List.getElem?_append_right (Nat.le_refl _), Nat.sub_self]
  rfl
theorem pSt_set (st : Sto) (done : List (List Wd)) (row row' : List Wd) : (pSt st done row).set (st.length + 1 + done.length) (rowO row') = pSt st done row' := by
  unfold pSt
  rw [← pSt_len st done row]
  exact set_last _ _ _
theorem pSt_done (st : Sto) (done : List (List Wd)) (row : List Wd) : ((pSt st done row).set st.length (.lst (idsR (st.length + 1) done.length ++ [.obj (st.length + 1 + done.length)]))) ++ [.lst []] = pSt st (done ++ [row]) [] := by
  unfold pSt
  rw [List.append_assoc, List.set_append_right _ _ (Nat.le_refl _), Nat.sub_self]
  rw [List.length_append, List.length_singleton, idsR_succ]
  simp [rowO]
theorem parted_spec {P : Pg} (H : HasI P) (n : Nat) (ws : List Wd) (hl : ws.length ≤ 100000) (st : Sto) (Q : D → Sto → Prop)
    (k : ∀ (g : Sto) (i : Nat) (js : List Nat), (st ++ g)[i]? = some (.lst (js.map .obj)) → js.map (fun j => (st ++ g)[j]?) = (prtG [] ws).map (fun r => some (rowO r)) → Q (.obj i) (st ++ g)) : W (callN P (n + 2) 62 [.tup (ws.map wdD)] st) Q := by
  rw [callN, H.h62]
  simp_arith [f62]
  rw [KLst_ap]
  refine ⟨by unfold LN; simp, ?_⟩
  simp_arith []
  rw [QC_nx]
  simp_arith []
  rw [KLst_ap]
  refine ⟨by unfold LN; simp, ?_⟩
  simp_arith []
  rw [QC_nx]
  simp_arith []
  refine kfor (ws.map wdD) (fun j env st' => ∃ (done : List (List Wd)) (row : List Wd) (e3 : Option D), env = [some (.tup (ws.map wdD)), some (.obj st.length), some (.obj (st.length + 1 + done.length)), e3] ∧ st' = pSt st done row ∧ done ++ prtG row (ws.drop j) = prtG [] ws ∧ row.length ≤ j ∧ done.length ≤ j) (by rw [List.length_map]; omega) (fun _ _ _ _ _ => rfl) ⟨[], [], none, by simp, by simp [pSt, idsR, rowO], by simp, by simp, by simp⟩ ?_ ?_
  · rintro j x env st' hx hj ⟨done, row, e3, rfl, rfl, hp, hr, hd⟩
    rw [List.length_map] at hj
    rw [List.getElem?_map, List.getElem?_eq_getElem hj] at hx
    simp only [Option.map_some, Option.some.injEq] at hx
    subst hx
    rw [List.drop_eq_getElem_cons hj, prtG_cons] at hp
    generalize ws[j] = w at hp
    refine ⟨_, rfl, ?_⟩
    have hln : (row.map wdD).length < LN := by rw [List.length_map]; unfold LN; omega
    have hr1 : (pSt st done row)[st.length + 1 + done.length]? = some (.lst (row.map wdD)) := pSt_row st done row
    have hs1 : (pSt st done row).set (st.length + 1 + done.length) (.lst (row.map wdD ++ [wdD w])) = pSt st done (row ++ [w]) := by
      have := pSt_set st done row (row ++ [w])
      unfold rowO at this
      rw [List.map_append] at this
      exact this
    have hnx : ∀ s, nex (wdD w) s = some (.ok (wdD w), s) := fun _ => rfl
    simp_arith [hr1, hnx, hln, hs1]
    rw [QC_nx]
    simp_arith [W_call _ _ H.h60, hnx]
    refine is_end_spec H n w _ _ ?_
    simp_arith []
    rw [QI_ap]
    refine ⟨fun he => ?_, fun he => ?_⟩
    · rw [if_pos he] at hp
      have hf := pSt_found st done (row ++ [w])
      have hln2 : (idsR (st.length + 1) done.length).length < LN := by rw [idsR_len]; unfold LN; omega
      simp_arith [hf, hln2]
      rw [QC_nx]
      simp_arith []
      rw [KLst_ap]
      refine ⟨by unfold LN; simp, ?_⟩
      rw [pSt_done]
      have hlen : ((pSt st done (row ++ [w])).set st.length (.lst (idsR (st.length + 1) done.length ++ [.obj (st.length + 1 + done.length)]))).length = st.length + 1 + (done ++ [row ++ [w]]).length := by
        rw [List.length_set]
        unfold pSt
        simp
        omega
      rw [hlen]
      simp_arith []
      exact ⟨_, [], _, rfl, rfl, by rw [List.append_assoc]; exact hp, by simp, by simp; omega⟩
    · rw [if_neg he] at hp
      simp_arith []
      exact ⟨_, _, _, rfl, rfl, hp, by simp; omega, by omega⟩
  · rintro env st' ⟨done, row, e3, rfl, rfl, hp, hr, hd⟩
    rw [List.length_map] at hr hd
    rw [List.length_map, List.drop_length] at hp
    rw [QC_nx]
    have hr1 : (pSt st done row)[st.length + 1 + done.length]? = some (.lst (row.map wdD)) := pSt_row st done row
    have hf := pSt_found st done row
    have hln2 : (idsR (st.length + 1) done.length).length + 1 ≤ LN := by rw [idsR_len]; unfold LN; omega
    have hids : ∀ n, (List.range n).map (fun i => D.obj (st.length + 1 + i)) = ((List.range n).map (fun i => st.length + 1 + i)).map .obj := by
      intro n
      rw [List.map_map]
      rfl
    have hdn : ∀ (g : Sto), ((List.range done.length).map (fun i => st.length + 1 + i)).map (fun j => (pSt st done row ++ g)[j]?) = done.map (fun r => some (rowO r)) := by
      intro g
      rw [List.map_map]
      refine List.ext_getElem (by simp) ?_
      intro i h1 h2
      simp only [List.length_map, List.length_range] at h1
      simp only [List.getElem_map, List.getElem_range, Function.comp_apply]
      unfold pSt
      rw [List.append_assoc, List.append_assoc, List.getElem?_append_right (by omega)]
      have : st.length + 1 + i - st.length = i + 1 := by omega
      rw [this, List.cons_append, List.getElem?_cons_succ, List.getElem?_append_left (by simp; omega)]
      simp
      exact ⟨_, List.getElem?_eq_getElem h1, rfl⟩
    have hst : pSt st done row = st ++ (.lst (idsR (st.length + 1) done.length) :: (done.map rowO ++ [rowO row])) := by
      unfold pSt
      simp
    cases row with
    | nil =>
      rw [prtG, List.append_nil] at hp
      simp_arith only [hr1]
      refine ⟨fun h => absurd h (by simp), fun _ => ?_⟩
      have hres := k (.lst (idsR (st.length + 1) done.length) :: (done.map rowO ++ [rowO []])) st.length ((List.range done.length).map (fun i => st.length + 1 + i))
      rw [← hst] at hres
      refine hres (by rw [hf, ← hids]; rfl) ?_
      have := hdn []
      rw [List.append_nil] at this
      rw [this, hp]
    | cons a row =>
      rw [prtG_end (by simp)] at hp
      have hbl : (!(List.map wdD (a :: row)).isEmpty) = true := by simp
      have hf2 : (pSt st done (a :: row) ++ [.lst [.obj (st.length + 1 + done.length)]])[st.length]? = some (.lst (idsR (st.length + 1) done.length)) := get_app hf
      simp_arith! only [hr1, hbl, hf2, last_at, hln2]
      refine ⟨fun _ => ?_, fun h => absurd rfl h⟩
      have hres := k ((O.lst (idsR (st.length + 1) done.length) :: (done.map rowO ++ [rowO (a :: row)])) ++ [O.lst [.obj (st.length + 1 + done.length)]] ++ [O.lst (idsR (st.length + 1) done.length ++ [.obj (st.length + 1 + done.length)])]) (pSt st done (a :: row) ++ [O.lst [.obj (st.length + 1 + done.length)]]).length ((List.range (done.length + 1)).map (fun i => st.length + 1 + i))
      rw [← List.append_assoc, ← List.append_assoc, ← hst] at hres
      refine hres ?_ ?_
      · rw [last_at, ← hids]
        have := idsR_succ (st.length + 1) done.length
        unfold idsR at this ⊢
        rw [this]
      · rw [List.range_succ, List.map_append, List.map_append]
        have := hdn ([O.lst [.obj (st.length + 1 + done.length)]] ++ [O.lst (idsR (st.length + 1) done.length ++ [.obj (st.length + 1 + done.length)])])
        rw [← List.append_assoc] at this
        rw [this, ← hp, List.map_append]
        congr 1
        have := pSt_row st done (a :: row)
        simp only [List.map_cons, List.map_nil]
        rw [get_app (get_app this)]
end Mini

set_option Elab.async false
set_option linter.all false
set_option maxRecDepth 100000
set_option maxHeartbeats 4000000
namespace Mini
def itD (it : List Wd × S) : D := .tup [.tup (it.1.map wdD), .str it.2]
theorem mid_at {α : Type} (xs g : List α) (o : α) : (xs ++ (o :: g))[xs.length]? = some o := by
  rw [List.getElem?_append_right (Nat.le_refl _), Nat.sub_self]
  rfl
theorem mid_set {α : Type} (xs g : List α) (o o' : α) : (xs ++ (o :: g)).set xs.length o' = xs ++ (o' :: g) := by
  rw [List.set_append_right _ _ (Nat.le_refl _), Nat.sub_self]
  rfl
theorem prt_ne : ∀ (ws row r : List Wd), r ∈ prtG row ws → r ≠ []
  | [], [], r, h => by rw [prtG] at h; simp at h
  | [], a :: row, r, h => by
    rw [prtG] at h
    simp at h
    rw [h]
    simp
  | w :: ws, row, r, h => by
    rw [prtG_cons] at h
    split at h
    · rw [List.mem_cons] at h
      rcases h with rfl | h
      · simp
      · exact prt_ne ws [] r h
    · exact prt_ne ws _ r h
theorem prt_mem : ∀ (ws row : List Wd) (r : List Wd) (w : Wd), r ∈ prtG row ws → w ∈ r → w ∈ row ∨ w ∈ ws
  | [], [], r, w, h, _ => by rw [prtG] at h; simp at h
  | [], a :: row, r, w, h, hw => by
    rw [prtG] at h
    simp at h
    rw [h] at hw
    exact .inl hw
  | x :: ws, row, r, w, h, hw => by
    have key : r = row ++ [x] → w ∈ row ∨ w ∈ x :: ws := by
      intro e
      rw [e, List.mem_append, List.mem_singleton] at hw
      rcases hw with hw | hw
      · exact .inl hw
      · exact .inr (by simp [hw])
    rw [prtG_cons] at h
    split at h
    · rw [List.mem_cons] at h
      rcases h with h | h
      · exact key h
      · rcases prt_mem ws [] r w h hw with q | q
        · simp at q
        · exact .inr (by simp [q])
    · rcases prt_mem ws (row ++ [x]) r w h hw with q | q
      · rw [List.mem_append, List.mem_singleton] at q
        rcases q with q | q
        · exact .inl q
        · exact .inr (by simp [q])
      · exact .inr (by simp [q])
theorem prt_len : ∀ (ws row : List Wd), (prtG row ws).length ≤ row.length + ws.length ∧ ∀ r ∈ prtG row ws, r.length ≤ row.length + ws.length
  | [], [] => by rw [prtG]; simp
  | [], a :: row => by rw [prtG]; simp
  | w :: ws, row => by
    rw [prtG_cons]
    split
    · obtain ⟨i1, i2⟩ := prt_len ws []
      simp only [List.length_cons, List.mem_cons, List.length_nil, Nat.zero_add] at *
      refine ⟨by omega, ?_⟩
      rintro r (rfl | h)
      · simp
      · have := i2 r h
        omega
    · obtain ⟨i1, i2⟩ := prt_len ws (row ++ [w])
      simp only [List.length_append, List.length_cons, List.length_nil] at *
      refine ⟨by omega, fun r h => ?_⟩
      have := i2 r h
      omega
theorem cat_le : ∀ (ws : List Wd) (w : Wd), w ∈ ws → (cat w).length ≤ (ws.map cat).flatten.length
  | a :: ws, w, h => by
    rw [List.map_cons, List.flatten_cons, List.length_append]
    rw [List.mem_cons] at h
    rcases h with rfl | h
    · omega
    · have := cat_le ws w h
      omega
theorem wl_cat_le (t : S) (w : Wd) (h : w ∈ (wl t).1) : w.2.1.length + w.2.2.length ≤ t.length := by
  have h1 := cat_le _ w h
  have h2 := wl_join t.length t (Nat.le_refl _)
  have h3 := congrArg List.length h2
  rw [List.length_append] at h3
  unfold cat at h1
  rw [List.length_append] at h1
  unfold cat at h3
  omega
theorem items_of_spec {P : Pg} (HW : HasW P) (H : HasI P) (n : Nat) (t : S) (st : Sto) (hl : t.length ≤ 2000) (Q : D → Sto → Prop)
    (k : ∀ g : Sto, Q (.tup [.tup ((itemsW t).1.map itD), .str (itemsW t).2]) (st ++ g)) : W (callN P (n + 5) 64 [.str t] st) Q := by
  have hcat := wl_cat_le t
  have hgaps := wl_gaps 2000 t hl
  unfold itemsW at k
  rw [callN, H.h64]
  simp_arith [f64, W_call _ _ HW.h10]
  refine words_of_spec HW n t st hl _ ?_
  intro g0
  generalize hws : (wl t).1 = ws at *
  generalize hr : (wl t).2 = r at *
  simp_arith []
  rw [QC_nx]
  simp_arith [W_call _ _ H.h62]
  refine parted_spec H (n + 2) ws (by omega) (st ++ g0) _ ?_
  intro g1 i js hi hjs
  have hex : ∃ g, st ++ g0 ++ g1 = st ++ g := ⟨g0 ++ g1, by rw [List.append_assoc]⟩
  generalize st ++ g0 ++ g1 = st1 at *
  obtain ⟨gx, hex⟩ := hex
  obtain ⟨p1, p2⟩ := prt_len ws []
  have pne := prt_ne ws []
  have pmem := prt_mem ws []
  generalize hrows : prtG [] ws = rows at *
  simp only [List.length_nil, Nat.zero_add] at p1 p2
  have hjl : js.length = rows.length := by
    have := congrArg List.length hjs
    rw [List.length_map, List.length_map] at this
    exact this
  have hat : ∀ (a : Nat) (h : a < rows.length) (h' : a < js.length), st1[js[a]]? = some (rowO rows[a]) := by
    intro a h h'
    have := congrArg (fun l => l[a]?) hjs
    simp only [List.getElem?_map, List.getElem?_eq_getElem h, List.getElem?_eq_getElem h', Option.map_some, Option.some.injEq] at this
    exact this
  simp_arith []
  rw [QC_nx]
  simp_arith []
  rw [KLst_ap]
  refine ⟨by unfold LN; simp, ?_⟩
  simp_arith []
  rw [QC_nx]
  simp_arith []
  rw [QC_nx]
  simp_arith []
  refine kfor (enumL 0 (js.map .obj)) (fun a env st' => ∃ (m : Nat) (acc : List (List Wd × S)) (g : Sto) (e6 e7 e8 e9 : Option D), env = [some (.str t), some (.obj i), some (.obj st1.length), some (.int (m : Nat)), some (.tup (ws.map wdD)), some (.str r), e6, e7, e8, e9] ∧ st' = st1 ++ (.lst (acc.map itD) :: g) ∧ acc ++ (itG r m (rows.drop a)).1 = (itG r 0 rows).1 ∧ (itG r m (rows.drop a)).2 = (itG r 0 rows).2 ∧ acc.length = a)
    (by rw [enumL_len, List.length_map]; omega) ?_ ⟨0, [], [], _, _, _, _, rfl, rfl, by simp, by simp, rfl⟩ ?_ ?_
  · rintro a env st' ha ⟨m, acc, g, e6, e7, e8, e9, rfl, rfl, h1, h2, h3⟩
    exact walked_enum (get_app hi)
  · rintro a x env st' hx ha ⟨m, acc, g, e6, e7, e8, e9, rfl, rfl, h1, h2, h3⟩
    rw [enumL_len, List.length_map] at ha
    rw [enumL_at, List.getElem?_map, List.getElem?_eq_getElem ha] at hx
    simp only [Option.map_some, Option.some.injEq, Nat.zero_add] at hx
    subst hx
    have ha' : a < rows.length := by omega
    have hj := hat a ha' ha
    rw [List.drop_eq_getElem_cons ha', itG] at h1 h2
    have hmem := List.getElem_mem ha'
    have hne := pne _ hmem
    have hlen := p2 _ hmem
    have hmw := pmem rows[a]
    have hnext : ∀ (s : Sto), a + 1 < rows.length → ∃ j' u, js[a + 1]? = some j' ∧ (st1 ++ s)[j']? = some (.lst (wdD (bhd r (rows.drop (a + 1))) :: u)) ∧ bhd r (rows.drop (a + 1)) ∈ ws := by
      intro s h
      have h' : a + 1 < js.length := by omega
      refine ⟨js[a + 1], ?_⟩
      have q := hat (a + 1) h h'
      have hm2 := List.getElem_mem h
      have q2 := pne _ hm2
      have q3 := pmem rows[a + 1]
      rw [List.drop_eq_getElem_cons h]
      generalize rows[a + 1] = row' at q q2 q3 hm2
      cases row' with
      | nil => exact absurd rfl q2
      | cons b u =>
        refine ⟨u.map wdD, List.getElem?_eq_getElem h', get_app q, ?_⟩
        rcases q3 b hm2 (by simp [bhd]) with z | z
        · simp at z
        · exact z
    have hlast : ¬ a + 1 < rows.length → rows.drop (a + 1) = [] := fun h => List.drop_eq_nil_of_le (by omega)
    generalize js[a] = j at hj
    generalize rows[a] = row at hj h1 h2 hne hmem hlen hmw
    cases row with
    | nil => exact absurd rfl hne
    | cons w0 u1 =>
      have hj1 : (st1 ++ (O.lst (acc.map itD) :: g))[j]? = some (.lst (wdD w0 :: u1.map wdD)) := get_app hj
      have i0 : L2.atI (wdD w0 :: u1.map wdD) 0 = some (wdD w0) := atI_nat _ 0
      have hnx : ∀ (w : Wd) s, nex (wdD w) s = some (.ok (wdD w), s) := fun _ _ => rfl
      refine ⟨_, rfl, ?_⟩
      simp_arith [hj1, i0, W_call _ _ H.h63, hnx]
      refine without_spec H (n + 3) w0 m _ _ ?_
      simp_arith []
      rw [KLst_ap]
      refine ⟨by unfold LN; simp, ?_⟩
      have hj2 : ((st1 ++ (O.lst (acc.map itD) :: g)) ++ [.lst [wdD (wout w0 m)]])[j]? = some (.lst (wdD w0 :: u1.map wdD)) := get_app hj1
      have hc1 : cut (wdD w0 :: u1.map wdD) (some 1) none = u1.map wdD := cut_fromA _ 1
      have hln : 1 + (u1.map wdD).length ≤ LN := by
        rw [List.length_map]
        simp at hlen
        unfold LN
        omega
      simp_arith! only [hj2, hc1, last_at, lb1, lb2, lb3, lb4, lb5, lb6, lb7, lb8, hln]
      have hC := last_at ((st1 ++ (O.lst (acc.map itD) :: g)) ++ [O.lst [wdD (wout w0 m)]] ++ [O.lst (u1.map wdD)]) (O.lst (wdD (wout w0 m) :: u1.map wdD))
      generalize List.length ((st1 ++ (O.lst (acc.map itD) :: g)) ++ [O.lst [wdD (wout w0 m)]] ++ [O.lst (u1.map wdD)]) = iC at hC
      have hS : (st1 ++ (O.lst (acc.map itD) :: g)) ++ [O.lst [wdD (wout w0 m)]] ++ [O.lst (u1.map wdD)] ++ [O.lst (wdD (wout w0 m) :: u1.map wdD)] = st1 ++ (O.lst (acc.map itD) :: (g ++ [O.lst [wdD (wout w0 m)]] ++ [O.lst (u1.map wdD)] ++ [O.lst (wdD (wout w0 m) :: u1.map wdD)])) := by simp
      rw [hS] at hC ⊢
      generalize g ++ [O.lst [wdD (wout w0 m)]] ++ [O.lst (u1.map wdD)] ++ [O.lst (wdD (wout w0 m) :: u1.map wdD)] = g2 at hC
      obtain ⟨u0, e, hu⟩ : ∃ u0 e, wout w0 m :: u1 = u0 ++ [e] := ⟨(wout w0 m :: u1).dropLast, (wout w0 m :: u1).getLast (by simp), (List.dropLast_concat_getLast _).symm⟩
      have hu' : wdD (wout w0 m) :: u1.map wdD = u0.map wdD ++ [wdD e] := by
        have := congrArg (List.map wdD) hu
        rw [List.map_cons, List.map_append] at this
        exact this
      have hle : lastEnd (hdW m (w0 :: u1)) = isEnd e := by
        show lastEnd (wout w0 m :: u1) = isEnd e
        rw [hu]
        unfold lastEnd
        rw [List.getLast?_concat]
      have hhd : hdW m (w0 :: u1) = u0 ++ [e] := hu
      rw [hu'] at hC
      have hneg : L2.atI (u0.map wdD ++ [wdD e]) (-1) = some (wdD e) := atI_neg1 _ _
      have hacc := mid_at st1 g2 (O.lst (acc.map itD))
      have hset : ∀ T : S, (st1 ++ (O.lst (acc.map itD) :: g2)).set st1.length (.lst (acc.map itD ++ [.tup [.tup (u0.map wdD ++ [wdD e]), .str T]])) = st1 ++ (.lst ((acc ++ [(u0 ++ [e], T)]).map itD) :: g2) := by
        intro T
        rw [mid_set]
        simp [itD]
      have hla : (acc.map itD).length < LN := by
        rw [List.length_map]
        unfold LN
        omega
      rw [hhd] at h1 h2 hle
      simp_arith [W_call _ _ H.h60, hC, hneg, hnx]
      refine is_end_spec H (n + 3) e _ _ ?_
      simp_arith []
      rw [QI_ap]
      refine ⟨fun he => ?_, fun he => ?_⟩
      · rw [he] at hle
        have hb : (bhd r (rows.drop (a + 1))).2.1.length + (bhd r (rows.drop (a + 1))).2.2.length ≤ LN := by
          by_cases h : a + 1 < rows.length
          · obtain ⟨_, _, _, _, q⟩ := hnext [] h
            have := hcat _ q
            unfold LN
            omega
          · rw [hlast h]
            simp only [bhd]
            have := hgaps.2.1
            simp
            unfold LN
            omega
        rw [WS_cons, WS_set]
        refine W_mono (Q := fun d s => d = wdD (bhd r (rows.drop (a + 1))) ∧ s = st1 ++ (O.lst (acc.map itD) :: g2)) ?_ ?_
        · have hi2 : (st1 ++ (O.lst (acc.map itD) :: g2))[i]? = some (.lst (js.map .obj)) := get_app hi
          have e1 : (a : Int) + 1 = ((a + 1 : Nat) : Int) := by omega
          simp_arith! only [hi2, e1]
          refine ⟨fun h => ?_, fun h => ?_⟩
          · have h' : a + 1 < rows.length := by
              rw [List.length_map] at h
              omega
            obtain ⟨j', u, q1, q2, _⟩ := hnext (O.lst (acc.map itD) :: g2) h'
            have i1 : L2.atI (js.map D.obj) ((a + 1 : Nat) : Int) = some (.obj j') := by
              rw [atI_nat, List.getElem?_map, q1]
              rfl
            have i2 : L2.atI (wdD (bhd r (rows.drop (a + 1))) :: u) 0 = some (wdD (bhd r (rows.drop (a + 1)))) := atI_nat _ 0
            simp_arith! only [i1, q2, i2]
          · have h' : ¬ a + 1 < rows.length := by
              rw [List.length_map] at h
              omega
            rw [hlast h']
            rfl
        · rintro d s ⟨rfl, rfl⟩
          generalize hbd : bhd r (rows.drop (a + 1)) = b at *
          have hm : mOf r (u0 ++ [e]) (rows.drop (a + 1)) = tailLen (b.2.1 ++ b.2.2) := by
            unfold mOf
            rw [if_pos hle, hbd]
          have ht : tOf r (u0 ++ [e]) (rows.drop (a + 1)) = b.2.1.take (tailLen (b.2.1 ++ b.2.2)) := by
            unfold tOf
            rw [if_pos hle, hm, hbd]
          rw [hm, ht] at h1
          rw [hm] at h2
          simp_arith []
          rw [QC_nx]
          simp_arith [W_call _ _ H.h61, wdD, wd1, wd2, hb]
          refine tail_length_spec H HW.h4 (n + 2) _ _ _ ?_
          simp_arith []
          rw [QC_nx]
          simp_arith [wd1, cut_toA]
          rw [QC_nx]
          simp_arith [hC, hacc, hla, hset]
          exact ⟨_, _, _, _, _, _, _, rfl, rfl, by rw [List.append_assoc]; exact h1, h2, by simp [h3]⟩
      · have hle' : ¬ lastEnd (u0 ++ [e]) = true := by
          rw [hle]
          exact he
        have hm : mOf r (u0 ++ [e]) (rows.drop (a + 1)) = 0 := by
          unfold mOf
          rw [if_neg hle']
        have ht : tOf r (u0 ++ [e]) (rows.drop (a + 1)) = [] := by
          unfold tOf
          rw [if_neg hle']
        rw [hm, ht] at h1
        rw [hm] at h2
        simp_arith []
        rw [QC_nx]
        simp_arith [hC, hacc, hla, hset]
        exact ⟨0, _, _, _, _, _, _, rfl, rfl, by rw [List.append_assoc]; exact h1, h2, by simp [h3]⟩
  · rintro env st' ⟨m, acc, g, e6, e7, e8, e9, rfl, rfl, h1, h2, h3⟩
    rw [enumL_len, List.length_map] at h1 h2
    rw [hjl, List.drop_length, itG] at h1 h2
    rw [List.append_nil] at h1
    rw [QC_nx]
    have hfin := mid_at st1 g (O.lst (acc.map itD))
    simp_arith! only [hfin, cut_fromA]
    have := k (gx ++ (.lst (acc.map itD) :: g))
    rw [← List.append_assoc, ← hex, ← h1, ← h2] at this
    exact this
end Mini

set_option Elab.async false
set_option linter.all false
set_option maxRecDepth 100000
set_option maxHeartbeats 4000000
namespace Mini
/-! ### signs of words, items' texts -/
theorem flat_le3 (l : List S) (h : ∀ x ∈ l, x.length ≤ 3) : l.flatten.length ≤ l.length * 3 := by
  have := flat_len_le (fun x : S => x) 3 l h
  simpa using this
theorem fcat_le (ws : List Wd) (w : Wd) (h : w ∈ ws) (hl : (ws.map cat).flatten.length ≤ LN) : w.2.1.length + w.2.2.length ≤ LN := by
  have h1 := cat_le _ w h
  unfold cat at h1
  rw [List.length_append] at h1
  unfold cat at hl
  omega
theorem signs_of_words_spec {P : Pg} (H : HasI P) (n : Nat) (ws : List Wd) (st : Sto) (hn : ws.length ≤ 100000) (hl : (ws.map cat).flatten.length ≤ LN) (Q : D → Sto → Prop)
    (k : ∀ g : Sto, Q (.str (ws.map cat).flatten) (st ++ g)) : W (callN P (n + 1) 59 [.tup (ws.map wdD)] st) Q := by
  rw [callN, H.h59]
  simp_arith only [f59]
  refine kcomp (ws.map wdD) (fun j acc st' => st' = st ∧ acc = ((ws.map cat).take j).map .str) (by rw [List.length_map]; omega) (fun _ _ _ _ _ => rfl) ⟨rfl, by simp⟩ ?_ ?_ ?_
  · rintro i acc st' ⟨rfl, rfl⟩ hi
    rw [List.length_map, List.length_take]
    omega
  · rintro i x acc st' hx hi ⟨rfl, rfl⟩
    rw [List.length_map] at hi
    rw [List.getElem?_map, List.getElem?_eq_getElem hi] at hx
    simp only [Option.map_some, Option.some.injEq] at hx
    subst hx
    have hb := fcat_le ws ws[i] (List.getElem_mem hi) hl
    refine ⟨_, rfl, ?_⟩
    simp_arith! only [hb]
    rw [List.take_add_one, List.getElem?_map, List.getElem?_eq_getElem hi, List.map_append]
    simp [cat]
  · rintro ys st' ⟨rfl, rfl⟩ hy
    rw [List.length_map, ← List.length_map (f := cat), List.take_length]
    simp_arith! only [last_at, strs_all, sum_all, join_all, hl]
    exact k _
theorem signsT_spec {P : Pg} (h27 : P.fn 27 = some f27) (n : Nat) (ws : List Wd) (st : Sto) (hn : ws.length ≤ 100000) (hl : (ws.map cat).flatten.length ≤ LN) (Q : D → Sto → Prop)
    (k : ∀ g : Sto, Q (.str (ws.map cat).flatten) (st ++ g)) : W (callN P (n + 1) 27 [.tup (ws.map wdD)] st) Q := by
  rw [callN, h27]
  simp_arith only [f27]
  refine kcomp (ws.map wdD) (fun j acc st' => st' = st ∧ acc = ((ws.map cat).take j).map .str) (by rw [List.length_map]; omega) (fun _ _ _ _ _ => rfl) ⟨rfl, by simp⟩ ?_ ?_ ?_
  · rintro i acc st' ⟨rfl, rfl⟩ hi
    rw [List.length_map, List.length_take]
    omega
  · rintro i x acc st' hx hi ⟨rfl, rfl⟩
    rw [List.length_map] at hi
    rw [List.getElem?_map, List.getElem?_eq_getElem hi] at hx
    simp only [Option.map_some, Option.some.injEq] at hx
    subst hx
    have hb := fcat_le ws ws[i] (List.getElem_mem hi) hl
    refine ⟨_, rfl, ?_⟩
    simp_arith! only [hb, wdD, wd1, wd2]
    rw [List.take_add_one, List.getElem?_map, List.getElem?_eq_getElem hi, List.map_append]
    simp [cat]
  · rintro ys st' ⟨rfl, rfl⟩ hy
    rw [List.length_map, ← List.length_map (f := cat), List.take_length]
    simp_arith! only [last_at, strs_all, sum_all, join_all, hl]
    exact k _
theorem item_text_spec {P : Pg} (H : HasI P) (n : Nat) (it : List Wd × S) (st : Sto) (hn : it.1.length ≤ 100000) (hl : (itTx it).length ≤ LN) (Q : D → Sto → Prop)
    (k : ∀ g : Sto, Q (.str (itTx it)) (st ++ g)) : W (callN P (n + 2) 65 [itD it] st) Q := by
  have i0 : L2.atI [D.tup (it.1.map wdD), D.str it.2] 0 = some (D.tup (it.1.map wdD)) := rfl
  have i1 : L2.atI [D.tup (it.1.map wdD), D.str it.2] 1 = some (D.str it.2) := rfl
  have h1 : (it.1.map cat).flatten.length + it.2.length ≤ LN := by
    unfold itTx at hl
    rw [List.length_append] at hl
    exact hl
  rw [callN, H.h65]
  simp_arith! only [f65, itD, i0, W_call _ _ H.h59]
  refine signs_of_words_spec H n it.1 st hn (by omega) _ ?_
  intro g
  simp_arith! only [i1, h1]
  exact k g
theorem itx_le (its : List (List Wd × S)) (it : List Wd × S) (h : it ∈ its) : (itTx it).length ≤ ((its.map itTx).flatten).length := by
  induction its with
  | nil => simp at h
  | cons a its ih =>
    rw [List.map_cons, List.flatten_cons, List.length_append]
    rw [List.mem_cons] at h
    rcases h with rfl | h
    · omega
    · have := ih h
      omega
theorem items_len (t : S) : ∀ it ∈ (itemsW t).1, (itTx it).length ≤ t.length := by
  intro it h
  have h1 := itx_le _ it h
  have h2 := congrArg List.length (items_all t).1
  rw [List.length_append] at h2
  omega
theorem itG_len (r : S) : ∀ (rows : List (List Wd)) (m : Nat), (itG r m rows).1.length = rows.length ∧ ∀ it ∈ (itG r m rows).1, ∃ row ∈ rows, it.1.length = row.length
  | [], m => by rw [itG]; simp
  | row :: rows, m => by
    obtain ⟨i1, i2⟩ := itG_len r rows (mOf r (hdW m row) rows)
    rw [itG]
    refine ⟨by simp [i1], ?_⟩
    intro it h
    rw [List.mem_cons] at h
    rcases h with rfl | h
    · refine ⟨row, by simp, ?_⟩
      cases row <;> rfl
    · obtain ⟨q, q1, q2⟩ := i2 it h
      exact ⟨q, by simp [q1], q2⟩
theorem items_many (t : S) : (itemsW t).1.length ≤ t.length ∧ ∀ it ∈ (itemsW t).1, it.1.length ≤ t.length := by
  obtain ⟨i1, i2⟩ := itG_len (wl t).2 (prtG [] (wl t).1) 0
  obtain ⟨p1, p2⟩ := prt_len (wl t).1 []
  have hg := (wl_gaps t.length t (Nat.le_refl _)).2.2
  simp at p1 p2
  unfold itemsW
  refine ⟨by omega, fun it h => ?_⟩
  obtain ⟨row, h1, h2⟩ := i2 it h
  have := p2 row h1
  omega
theorem item_texts_spec {P : Pg} (HW : HasW P) (H : HasI P) (n : Nat) (t : S) (st : Sto) (hl : t.length ≤ 2000) (Q : D → Sto → Prop)
    (k : ∀ g : Sto, Q (.tup (((itemsW t).1.map itTx).map .str)) (st ++ g)) : W (callN P (n + 6) 66 [.str t] st) Q := by
  have hm := items_many t
  have hb := items_len t
  rw [callN, H.h66]
  simp_arith only [f66, W_call _ _ H.h64]
  refine items_of_spec HW H n t st hl _ ?_
  intro g0
  generalize (itemsW t).2 = r at *
  generalize (itemsW t).1 = its at *
  have i0 : L2.atI [D.tup (its.map itD), D.str r] 0 = some (D.tup (its.map itD)) := rfl
  simp_arith only [i0]
  refine kcomp (its.map itD) (fun j acc st' => ∃ g, st' = st ++ g ∧ acc = ((its.map itTx).take j).map .str) (by rw [List.length_map]; omega) (fun _ _ _ _ _ => rfl) ⟨g0, rfl, by simp⟩ ?_ ?_ ?_
  · rintro i acc st' ⟨g, rfl, rfl⟩ hi
    rw [List.length_map, List.length_take]
    omega
  · rintro i x acc st' hx hi ⟨g, rfl, rfl⟩
    rw [List.length_map] at hi
    rw [List.getElem?_map, List.getElem?_eq_getElem hi] at hx
    simp only [Option.map_some, Option.some.injEq] at hx
    subst hx
    have hnx : ∀ s, nex (itD its[i]) s = some (.ok (itD its[i]), s) := fun _ => rfl
    have b1 := hb _ (List.getElem_mem hi)
    have b2 := hm.2 _ (List.getElem_mem hi)
    refine ⟨_, rfl, ?_⟩
    simp_arith only [W_call _ _ H.h65, hnx]
    refine item_text_spec H (n + 3) its[i] _ (by omega) (by unfold LN; omega) _ ?_
    intro g2
    refine ⟨g ++ g2, by rw [List.append_assoc], ?_⟩
    rw [List.take_add_one, List.getElem?_map, List.getElem?_eq_getElem hi, List.map_append]
    simp
  · rintro ys st' ⟨g, rfl, rfl⟩ hy
    rw [List.length_map, ← List.length_map (f := itTx), List.take_length]
    simp_arith! only [last_at]
    have := k (g ++ [O.lst ((its.map itTx).map .str)])
    rw [← List.append_assoc] at this
    exact this
/-! ### long texts -/
theorem long_spec {P : Pg} (h13 : P.fn 13 = some f13) (h70 : P.fn 70 = some f70) (n : Nat) {dk : Nat} {T : Tys} {st : Sto} {m : Nat} (g : GS dk T st m) (hm : m + 1000 ≤ 100000000) (Q : D → Sto → Prop)
    (k : ∀ (t : S) (T' : Tys) (st' : Sto), t.length ≤ 2000 → GS dk T' st' (m + 100) → Go T st T' st' → Q (.str t) st') :
    W (callN P (n + 2) 70 [.obj dk] st) Q := by
  rw [callN, h70]
  simp_arith [f70]
  refine klst g (by unfold LN; simp) _ ?_
  intro ia Ta sta qa ea _ ga goa
  simp_arith []
  rw [QC_nx]
  simp_arith [W_call _ _ h13]
  refine draw_spec h13 n ga 6 (by omega) (by decide) (by decide) _ ?_
  intro r1 st1 hr1 g1 go1
  have ea1 := go1.fr _ qa
  rw [ea] at ea1
  have e1 : (1 : Int) + (r1 : Int) = ((1 + r1 : Nat) : Int) := by omega
  simp_arith [e1]
  refine kcomp (rngL 0 (1 + r1)) (fun j acc st' => ∃ (ss : List S) (T' : Tys), acc = ss.map .str ∧ ss.length = j ∧ (∀ s ∈ ss, s.length ≤ 3) ∧ GS dk T' st' (m + 1 + j) ∧ Go Ta st1 T' st') (by rw [rngL_lenth]; omega)
    (fun _ _ st' _ _ => walked_rng (1 + r1) (by omega) st') ⟨[], Ta, rfl, rfl, by simp, g1.le (by omega), Go.rfl⟩ (fun j acc st' ⟨ss, T', e, h, _⟩ _ => by rw [e, List.length_map]; omega) ?_ ?_
  · rintro j x acc st' hx hj ⟨ss, T', rfl, hss, hin, g', go'⟩
    rw [rngL_lenth] at hj
    refine ⟨_, rfl, ?_⟩
    simp_arith [if_true, W_call _ _ h13]
    refine draw_spec h13 n g' 12 (by omega) (by decide) (by decide) _ ?_
    intro q st5 hq g5 go5
    have e5 := go5.fr _ (go'.pre _ _ qa)
    rw [go'.fr _ qa, ea1] at e5
    obtain ⟨y, hy, s, rfl, hs⟩ := pick_at e5 q hq (fun x => ∃ s : S, x = .str s ∧ s.length ≤ 3) (by simp)
    simp_arith [e5, hy]
    refine ⟨ss ++ [s], T', by rw [List.map_append]; rfl, by rw [List.length_append, hss]; rfl, ?_, g5.le (by omega), go'.trans go5⟩
    intro z hz
    rw [List.mem_append] at hz
    rcases hz with hz | hz
    · exact hin z hz
    · rw [List.mem_singleton] at hz
      rw [hz]
      exact hs
  · rintro ys st' ⟨ss, T', rfl, hss, hin, g', go'⟩ _
    rw [rngL_lenth] at hss g'
    have hfl := flat_le3 ss hin
    have hs : ss.flatten.length ≤ LN := by unfold LN; rw [hss] at hfl; omega
    have hb : ss.flatten.length ≤ 18 := by rw [hss] at hfl; omega
    simp_arith only [last_at, strs_all, sum_all, join_all, hs, W_call _ _ h13]
    refine draw_spec h13 n (g'.raw _) 100 (by omega) (by decide) (by decide) _ ?_
    intro r2 st2 hr2 g2 go2
    generalize ss.flatten = z at hb
    have hok : okRep z.length (1 + (r2 : Int)) = true := by
      have h1 : z.length * (1 + r2) ≤ 18 * 100 := Nat.mul_le_mul hb (by omega)
      have h2 : (1 + (r2 : Int)).toNat = 1 + r2 := by omega
      unfold okRep LN
      simp only [h2, Bool.and_eq_true, decide_eq_true_eq]
      refine ⟨⟨?_, ?_⟩, ?_⟩ <;> omega
    have hrl : (reps z (1 + (r2 : Int)).toNat).length ≤ 2000 := by
      have h1 : z.length * (1 + r2) ≤ 18 * 100 := Nat.mul_le_mul hb (by omega)
      have h2 : (1 + (r2 : Int)).toNat = 1 + r2 := by omega
      unfold reps
      rw [List.length_flatten, List.map_replicate, List.sum_replicate_nat, h2, Nat.mul_comm]
      omega
    simp_arith only [hok]
    exact k _ _ _ hrl (g2.le (by omega)) (goa.trans (go1.trans (go'.trans ((Go.new g'.wt.len _ _).trans go2))))
end Mini

set_option Elab.async false
set_option linter.all false
set_option maxRecDepth 100000
set_option maxHeartbeats 4000000
namespace Mini
/-! ### word[0:3:2], rows of such -/
def kD (k : S × S) : D := .tup [.str k.1, .str k.2]
theorem ev_ks (P : Pg) (call : Nat → List D → Sto → Mx D) (i : Nat) (w : Wd) (env : Env) (st : Sto) (h : env[i]? = some (some (wdD w))) : evE P call (.slc3 (.var i) [.int 0] [.int 3] (.int 2)) env st = some (.ok (kD (ksW w)), st) := by
  have e1 : stepT 3 (some 0) (some 3) 2 = [0, 2] := by decide +kernel
  have e2 : slc3D (wdD w) (some 0) (some 3) 2 st = some (.ok (kD (ksW w)), st) := by
    unfold slc3D wdD
    simp only [List.length_cons, List.length_nil, Nat.zero_add, Nat.reduceAdd, e1]
    simp [takeIx, kD, ksW, LN]
  rw [evE, evE, h]
  dsimp only
  show bd (nex (wdD w) st) _ = _
  rw [show nex (wdD w) st = some (.ok (wdD w), st) from rfl]
  simp only [bd_ok, evL, evE, optI]
  exact e2
theorem ks_comp {P : Pg} {call : Nat → List D → Sto → Mx D} (i : Nat) {env : Env} (hi : i < env.length) (ws : List Wd) (hl : ws.length < 1000000) (st : Sto) (Q : D → Sto → Prop) (k : Q (.obj st.length) (st ++ [.lst ((ws.map ksW).map kD)])) :
    KComp P call [i] .seq (.nm i) [] (.slc3 (.var i) [.int 0] [.int 3] (.int 2)) env Q [.tup (ws.map wdD)] st := by
  refine kcomp (ws.map wdD) (fun j acc st' => st' = st ∧ acc = ((ws.map ksW).take j).map kD) (by rw [List.length_map]; exact hl) (fun _ _ _ _ _ => rfl) ⟨rfl, by simp⟩ ?_ ?_ ?_
  · rintro a acc st' ⟨rfl, rfl⟩ ha
    rw [List.length_map, List.length_take]
    omega
  · rintro a x acc st' hx ha ⟨rfl, rfl⟩
    rw [List.length_map] at ha
    rw [List.getElem?_map, List.getElem?_eq_getElem ha] at hx
    simp only [Option.map_some, Option.some.injEq] at hx
    subst hx
    refine ⟨_, rfl, ?_⟩
    rw [W_Ts0]
    rw [ev_ks P call i ws[a] _ st' (by
      unfold wipeE wipeE
      rw [List.getElem?_set_self (by rw [List.length_set]; exact hi)])]
    simp only [if_true, W_ok]
    refine ⟨trivial, ?_⟩
    rw [List.take_add_one, List.getElem?_map, List.getElem?_eq_getElem ha, List.map_append]
    simp
  · rintro ys st' ⟨rfl, rfl⟩ hy
    rw [List.length_map, ← List.length_map (f := ksW), List.take_length]
    exact k
def kP (k : S × S) : PySem.PyData := .tuple [.str ⟨k.1.toArray⟩, .str ⟨k.2.toArray⟩]
theorem kP_all (st : Sto) (n : Nat) : ∀ ks : List (S × S), mapO (toPy st (n + 2)) (ks.map kD) = some (ks.map kP)
  | [] => rfl
  | k :: ks => by
    rw [List.map_cons, mapO, kP_all st n ks]
    rfl
theorem kP_eqv : ∀ ks : List (S × S), PySem.PyData.eqvAll (ks.map kP) (ks.map kP) = true
  | [] => by rw [List.map_nil, PySem.PyData.eqvAll]
  | k :: ks => by
    rw [List.map_cons, PySem.PyData.eqvAll, kP_eqv ks]
    unfold kP
    simp [PySem.PyData.eqv, PySem.PyData.eqvAll, str_beq]
theorem eqD_ks {st : Sto} {a b : Nat} {ks : List (S × S)} (h1 : st[a]? = some (.lst (ks.map kD))) (h2 : st[b]? = some (.lst (ks.map kD))) : eqD st (.obj a) (.obj b) = some true := by
  have e : ∀ i, st[i]? = some (.lst (ks.map kD)) → toPy st 60 (.obj i) = some (.list (ks.map kP)) := by
    intro i h
    show (match litems st i with
      | some xs => (mapO (toPy st 59) xs).map PySem.PyData.list
      | none => none) = _
    rw [isSome_at h]
    dsimp only
    rw [kP_all st 57 ks]
    rfl
  unfold eqD
  rw [e a h1, e b h2]
  simp only [PySem.PyData.eqv, kP_eqv]
theorem wdP (st : Sto) (w : Wd) : toPy st 59 (wdD w) = some (.tuple [.str ⟨w.1.toArray⟩, .str ⟨w.2.1.toArray⟩, .str ⟨w.2.2.toArray⟩]) := rfl
theorem wdP_all (st : Sto) : ∀ ws : List Wd, ∃ ps, mapO (toPy st 59) (ws.map wdD) = some ps ∧ ps.length = ws.length
  | [] => ⟨[], rfl, rfl⟩
  | w :: ws => by
    obtain ⟨ps, h1, h2⟩ := wdP_all st ws
    refine ⟨.tuple [.str ⟨w.1.toArray⟩, .str ⟨w.2.1.toArray⟩, .str ⟨w.2.2.toArray⟩] :: ps, ?_, by rw [List.length_cons, List.length_cons, h2]⟩
    rw [List.map_cons, mapO, h1, wdP]
theorem eqD_own (st : Sto) {ws : List Wd} (h : ws ≠ []) : eqD st (.tup (ws.map wdD)) (.tup []) = some false := by
  obtain ⟨ps, h1, h2⟩ := wdP_all st ws
  unfold eqD
  have e1 : toPy st 60 (.tup (ws.map wdD)) = some (.tuple ps) := by
    show (mapO (toPy st 59) (ws.map wdD)).map PySem.PyData.tuple = _
    rw [h1]
    rfl
  have e2 : toPy st 60 (.tup []) = some (.tuple []) := rfl
  rw [e1, e2]
  cases ps with
  | nil =>
    have : ws = [] := List.eq_nil_of_length_eq_zero h2.symm
    exact absurd this h
  | cons p ps => simp [PySem.PyData.eqv, PySem.PyData.eqvAll]
theorem pur_wd1 (w : Wd) : Pur 1 (wdD w) := .tup (fun x hx => by
  simp only [List.mem_cons, List.not_mem_nil, or_false] at hx
  rcases hx with rfl | rfl | rfl <;> exact .str _) (by simp)
theorem pur_it (it : List Wd × S) (h : it.1.length ≤ 100000) : Pur 3 (itD it) := .tup (fun x hx => by
  simp only [List.mem_cons, List.not_mem_nil, or_false] at hx
  rcases hx with rfl | rfl
  · refine .tup (fun y hy => ?_) (by rw [List.length_map]; exact h)
    rw [List.mem_map] at hy
    obtain ⟨w, _, rfl⟩ := hy
    exact pur_wd1 w
  · exact .str _) (by simp)
theorem pur_its (its : List (List Wd × S)) (r : S) (hn : its.length ≤ 100000) (h : ∀ it ∈ its, it.1.length ≤ 100000) : Pur 5 (.tup [.tup (its.map itD), .str r]) := .tup (fun x hx => by
  simp only [List.mem_cons, List.not_mem_nil, or_false] at hx
  rcases hx with rfl | rfl
  · refine .tup (fun y hy => ?_) (by rw [List.length_map]; exact hn)
    rw [List.mem_map] at hy
    obtain ⟨w, hw, rfl⟩ := hy
    exact pur_it w (h w hw)
  · exact .str _) (by simp)
end Mini

set_option Elab.async false
set_option linter.all false
set_option maxRecDepth 100000
set_option maxHeartbeats 4000000
namespace Mini
/-! ### the law's own look at items (k04) -/
theorem mid_get {α : Type} {xs g : List α} {o : α} {i : Nat} (h : xs.length < i) : (xs ++ (o :: g))[i]? = g[i - xs.length - 1]? := by
  rw [List.getElem?_append_right (by omega)]
  have : i - xs.length = (i - xs.length - 1) + 1 := by omega
  rw [this, List.getElem?_cons_succ]
  rfl
theorem signsX_spec {P : Pg} (h27 : P.fn 27 = some f27) (n : Nat) (d : D) (ws : List Wd) (st : Sto) (hd : ∀ g, walked .seq [d] (st ++ g) = some (ws.map wdD)) (hn : ws.length ≤ 100000) (hl : (ws.map cat).flatten.length ≤ LN) (Q : D → Sto → Prop)
    (k : ∀ g : Sto, Q (.str (ws.map cat).flatten) (st ++ g)) : W (callN P (n + 1) 27 [d] st) Q := by
  rw [callN, h27]
  simp_arith only [f27, nex_walked (hd [])]
  refine kcomp (ws.map wdD) (fun j acc st' => st' = st ∧ acc = ((ws.map cat).take j).map .str) (by rw [List.length_map]; omega) (fun _ _ st' _ h => by rw [h.1]; have := hd []; rw [List.append_nil] at this; exact this) ⟨rfl, by simp⟩ ?_ ?_ ?_
  · rintro i acc st' ⟨rfl, rfl⟩ hi
    rw [List.length_map, List.length_take]
    omega
  · rintro i x acc st' hx hi ⟨rfl, rfl⟩
    rw [List.length_map] at hi
    rw [List.getElem?_map, List.getElem?_eq_getElem hi] at hx
    simp only [Option.map_some, Option.some.injEq] at hx
    subst hx
    have hb := fcat_le ws ws[i] (List.getElem_mem hi) hl
    refine ⟨_, rfl, ?_⟩
    simp_arith! only [hb, wdD, wd1, wd2]
    rw [List.take_add_one, List.getElem?_map, List.getElem?_eq_getElem hi, List.map_append]
    simp [cat]
  · rintro ys st' ⟨rfl, rfl⟩ hy
    rw [List.length_map, ← List.length_map (f := cat), List.take_length]
    simp_arith! only [last_at, strs_all, sum_all, join_all, hl]
    exact k _
def endsL : Nat → List Wd → List Nat
  | _, [] => []
  | k, w :: ws => if isEnd w = true then k :: endsL (k + 1) ws else endsL (k + 1) ws
theorem endsL_nil : ∀ (ws : List Wd) (k : Nat), endsL k ws = [] → ∀ w ∈ ws, isEnd w = false
  | [], _, _, w, h => by simp at h
  | a :: ws, k, e, w, h => by
    rw [endsL] at e
    split at e
    · cases e
    · rename_i ha
      rw [List.mem_cons] at h
      rcases h with rfl | h
      · simpa using ha
      · exact endsL_nil ws (k + 1) e w h
theorem endsL_cons : ∀ (ws : List Wd) (k a : Nat) (r : List Nat), endsL k ws = a :: r → ∃ u0 e vs, ws = u0 ++ e :: vs ∧ isEnd e = true ∧ (∀ w ∈ u0, isEnd w = false) ∧ a = k + u0.length
  | [], _, _, _, e => by cases e
  | w :: ws, k, a, r, e => by
    rw [endsL] at e
    split at e
    · rename_i hw
      cases e
      exact ⟨[], w, ws, rfl, hw, by simp, by simp⟩
    · rename_i hw
      obtain ⟨u0, x, vs, h1, h2, h3, h4⟩ := endsL_cons ws (k + 1) a r e
      refine ⟨w :: u0, x, vs, by rw [h1]; rfl, h2, ?_, by rw [h4, List.length_cons]; omega⟩
      intro y hy
      rw [List.mem_cons] at hy
      rcases hy with rfl | hy
      · simpa using hw
      · exact h3 y hy
theorem endsL_len : ∀ (ws : List Wd) (k : Nat), (endsL k ws).length ≤ ws.length
  | [], _ => by simp [endsL]
  | w :: ws, k => by
    have := endsL_len ws (k + 1)
    rw [endsL]
    split <;> simp <;> omega
theorem eqD_nils {st : Sto} {a b : Nat} {xs : List D} {ps : List PySem.PyData} (h1 : st[a]? = some (.lst xs)) (h2 : st[b]? = some (.lst [])) (hp : mapO (toPy st 59) xs = some ps) : eqD st (.obj a) (.obj b) = some (xs.isEmpty) := by
  have e1 : toPy st 60 (.obj a) = some (.list ps) := by
    show (match litems st a with
      | some xs => (mapO (toPy st 59) xs).map PySem.PyData.list
      | none => none) = _
    rw [isSome_at h1]
    dsimp only
    rw [hp]
    rfl
  have e2 : toPy st 60 (.obj b) = some (.list []) := by
    show (match litems st b with
      | some xs => (mapO (toPy st 59) xs).map PySem.PyData.list
      | none => none) = _
    rw [isSome_at h2]
    rfl
  unfold eqD
  rw [e1, e2]
  cases xs with
  | nil =>
    cases hp
    simp [PySem.PyData.eqv, PySem.PyData.eqvAll]
  | cons x xs =>
    cases ps with
    | nil =>
      rw [mapO] at hp
      split at hp <;> cases hp
    | cons p ps => simp [PySem.PyData.eqv, PySem.PyData.eqvAll]
theorem ints_py (st : Sto) : ∀ l : List Nat, ∃ ps, mapO (toPy st 59) (l.map fun n => D.int (n : Nat)) = some ps
  | [] => ⟨[], rfl⟩
  | n :: l => by
    obtain ⟨ps, h⟩ := ints_py st l
    refine ⟨.int (n : Nat) :: ps, ?_⟩
    rw [List.map_cons, mapO, h]
    rfl
end Mini

set_option Elab.async false
set_option linter.all false
set_option maxRecDepth 100000
set_option maxHeartbeats 4000000
namespace Mini
/-! ### evaluations that may end with an error -/
abbrev XE := Nat → List D → Sto → Prop
def Y {α : Type} (E : XE) (m : Mx α) (Q : α → Sto → Prop) : Prop := ∃ r st', m = some (r, st') ∧ match r with
  | .ok a => Q a st'
  | .exc c fs => E c fs st'
theorem Y_ok {α : Type} (E : XE) (a : α) (st : Sto) (Q : α → Sto → Prop) : Y E (some (.ok a, st)) Q ↔ Q a st := by
  constructor
  · rintro ⟨r, st', h, q⟩
    cases h
    exact q
  · intro q
    exact ⟨_, st, rfl, q⟩
theorem Y_exc {α : Type} (E : XE) (c : Nat) (fs : List D) (st : Sto) (Q : α → Sto → Prop) : Y E (some (.exc c fs, st)) Q ↔ E c fs st := by
  constructor
  · rintro ⟨r, st', h, q⟩
    cases h
    exact q
  · intro q
    exact ⟨_, st, rfl, q⟩
theorem Y_none {α : Type} (E : XE) (Q : α → Sto → Prop) : Y E (none : Mx α) Q ↔ False := by
  constructor
  · rintro ⟨_, _, h, _⟩
    cases h
  · exact False.elim
theorem Y_bd {α β : Type} (E : XE) (m : Mx α) (f : α → Sto → Mx β) (Q : β → Sto → Prop) : Y E (bd m f) Q ↔ Y E m (fun a st => Y E (f a st) Q) := by
  constructor
  · rintro ⟨r, st', h, q⟩
    cases m with
    | none => cases h
    | some p =>
      obtain ⟨r1, s⟩ := p
      cases r1 with
      | ok a => exact ⟨.ok a, s, rfl, r, st', h, q⟩
      | exc c fs =>
        cases h
        exact ⟨.exc c fs, _, rfl, q⟩
  · rintro ⟨r, s1, h, q⟩
    rw [h]
    cases r with
    | ok a =>
      obtain ⟨r2, st2, h2, q2⟩ := q
      exact ⟨r2, st2, h2, q2⟩
    | exc c fs => exact ⟨.exc c fs, s1, rfl, q⟩
theorem Y_opt {α : Type} (E : XE) (a : α) (st : Sto) (Q : α → Sto → Prop) : Y E (opt (some a) st) Q ↔ Q a st := Y_ok E a st Q
theorem Y_newL (E : XE) (xs : List D) (st : Sto) (Q : D → Sto → Prop) : Y E (newL xs st) Q ↔ Q (.obj st.length) (st ++ [.lst xs]) := Y_ok _ _ _ Q
theorem Y_newD (E : XE) (xs : List (DKey × D)) (st : Sto) (Q : D → Sto → Prop) : Y E (newD xs st) Q ↔ Q (.obj st.length) (st ++ [.dct xs]) := Y_ok _ _ _ Q
theorem Y_ite {α : Type} (E : XE) (c : Prop) [Decidable c] (a b : Mx α) (Q : α → Sto → Prop) : Y E (if c then a else b) Q ↔ (c → Y E a Q) ∧ (¬ c → Y E b Q) := by
  by_cases h : c
  · rw [if_pos h]
    exact ⟨fun q => ⟨fun _ => q, fun n => absurd h n⟩, fun q => q.1 h⟩
  · rw [if_neg h]
    exact ⟨fun q => ⟨fun n => absurd n h, fun _ => q⟩, fun q => q.2 h⟩
/-- one that ends without an error -/
theorem Y.of {α : Type} {E : XE} {m : Mx α} {Q : α → Sto → Prop} (h : W m Q) : Y E m Q := by
  obtain ⟨a, st, h1, h2⟩ := h
  exact ⟨.ok a, st, h1, h2⟩
theorem Y.mono {α : Type} {E E' : XE} {m : Mx α} {Q Q' : α → Sto → Prop} (h : Y E m Q) (k : ∀ a st, Q a st → Q' a st) (k' : ∀ c fs st, E c fs st → E' c fs st) : Y E' m Q' := by
  obtain ⟨r, st, h1, h2⟩ := h
  refine ⟨r, st, h1, ?_⟩
  cases r with
  | ok a => exact k a st h2
  | exc c fs => exact k' c fs st h2
theorem Y.w {α : Type} {m : Mx α} {Q : α → Sto → Prop} (h : Y (fun _ _ _ => False) m Q) : W m Q := by
  obtain ⟨r, st, h1, h2⟩ := h
  cases r with
  | ok a => exact ⟨a, st, h1, h2⟩
  | exc c fs => exact h2.elim
theorem Y_eq {α : Type} {E : XE} {m : Mx α} {a : α} {st : Sto} (h : m = some (.ok a, st)) (Q : α → Sto → Prop) (q : Q a st) : Y E m Q := ⟨_, st, h, q⟩
def YS (m : Sx) (Q : Fl → Sto → Prop) : Prop := ∃ fl st', m = some (fl, st') ∧ Q fl st'
theorem YS_some (fl : Fl) (st : Sto) (Q : Fl → Sto → Prop) : YS (some (fl, st)) Q ↔ Q fl st := by
  constructor
  · rintro ⟨_, _, h, q⟩
    cases h
    exact q
  · intro q
    exact ⟨_, _, rfl, q⟩
theorem YS_none (Q : Fl → Sto → Prop) : YS none Q ↔ False := by
  constructor
  · rintro ⟨_, _, h, _⟩
    cases h
  · exact False.elim
theorem YS.mono {m : Sx} {Q Q' : Fl → Sto → Prop} (h : YS m Q) (k : ∀ fl st, Q fl st → Q' fl st) : YS m Q' := by
  obtain ⟨fl, st, h1, h2⟩ := h
  exact ⟨fl, st, h1, k fl st h2⟩
/-- a statement's end by an error of its expression -/
def QX (env : Env) (Q : Fl → Sto → Prop) : XE := fun c fs st => Q (.exc env c fs) st
theorem QX_ap (env : Env) (Q : Fl → Sto → Prop) (c : Nat) (fs : List D) (st : Sto) : QX env Q c fs st ↔ Q (.exc env c fs) st := Iff.rfl
theorem YS_be {α : Type} (env : Env) (m : Mx α) (f : α → Sto → Sx) (Q : Fl → Sto → Prop) : YS (be env m f) Q ↔ Y (QX env Q) m (fun a st => YS (f a st) Q) := by
  constructor
  · rintro ⟨b, st', h, q⟩
    cases m with
    | none => cases h
    | some p =>
      obtain ⟨r, s⟩ := p
      cases r with
      | ok a => exact ⟨.ok a, s, rfl, b, st', h, q⟩
      | exc c fs =>
        cases h
        exact ⟨.exc c fs, _, rfl, q⟩
  · rintro ⟨r, s1, h, q⟩
    rw [h]
    cases r with
    | ok a =>
      obtain ⟨b, st', h2, q2⟩ := q
      exact ⟨b, st', h2, q2⟩
    | exc c fs => exact ⟨_, s1, rfl, q⟩
def RBs (f : Env → Sto → Sx) (Q : Fl → Sto → Prop) : Fl → Sto → Prop
  | .nx env, st => YS (f env st) Q
  | fl, st => Q fl st
theorem YS_bs (m : Sx) (f : Env → Sto → Sx) (Q : Fl → Sto → Prop) : YS (bs m f) Q ↔ YS m (RBs f Q) := by
  constructor
  · rintro ⟨fl, st', h, q⟩
    cases m with
    | none => cases h
    | some p =>
      obtain ⟨r, s⟩ := p
      cases r with
      | nx env => exact ⟨_, s, rfl, fl, st', h, q⟩
      | rt d =>
        cases h
        exact ⟨_, _, rfl, q⟩
      | bk d =>
        cases h
        exact ⟨_, _, rfl, q⟩
      | ct d =>
        cases h
        exact ⟨_, _, rfl, q⟩
      | exc e c fs =>
        cases h
        exact ⟨_, _, rfl, q⟩
  · rintro ⟨fl, st', h, q⟩
    subst h
    cases fl with
    | nx env =>
      obtain ⟨fl2, st2, h2, q2⟩ := q
      exact ⟨fl2, st2, h2, q2⟩
    | rt d => exact ⟨_, _, rfl, q⟩
    | bk d => exact ⟨_, _, rfl, q⟩
    | ct d => exact ⟨_, _, rfl, q⟩
    | exc e c fs => exact ⟨_, _, rfl, q⟩
/-- what follows a statement -/
def RC (P : Pg) (call : Nat → List D → Sto → Mx D) (ss : List CS) (Q : Fl → Sto → Prop) : Fl → Sto → Prop := RBs (fun env st => evSs P call ss env st) Q
section
variable (P : Pg) (call : Nat → List D → Sto → Mx D) (ss : List CS) (Q : Fl → Sto → Prop)
theorem RC_nx (env : Env) (st : Sto) : RC P call ss Q (.nx env) st ↔ YS (evSs P call ss env st) Q := Iff.rfl
theorem RC_rt (d : D) (st : Sto) : RC P call ss Q (.rt d) st ↔ Q (.rt d) st := Iff.rfl
theorem RC_bk (d : Env) (st : Sto) : RC P call ss Q (.bk d) st ↔ Q (.bk d) st := Iff.rfl
theorem RC_ct (d : Env) (st : Sto) : RC P call ss Q (.ct d) st ↔ Q (.ct d) st := Iff.rfl
theorem RC_exc (env : Env) (c : Nat) (fs : List D) (st : Sto) : RC P call ss Q (.exc env c fs) st ↔ Q (.exc env c fs) st := Iff.rfl
theorem YS_nil (env : Env) (st : Sto) : YS (evSs P call [] env st) Q ↔ Q (.nx env) st := by rw [evSs, YS_some]
theorem YS_cons (s : CS) (env : Env) (st : Sto) : YS (evSs P call (s :: ss) env st) Q ↔ YS (evS P call s env st) (RC P call ss Q) := by rw [evSs, YS_bs]; rfl
theorem RC_nil (env : Env) (st : Sto) : RC P call [] Q (.nx env) st ↔ Q (.nx env) st := by
  rw [RC_nx, YS_nil]
end
def RI (P : Pg) (call : Nat → List D → Sto → Mx D) (a b : List CS) (env : Env) (Q : Fl → Sto → Prop) (k : Bool) (st : Sto) : Prop := (k = true → YS (evSs P call a env st) Q) ∧ (¬ k = true → YS (evSs P call b env st) Q)
theorem RI_ap (P : Pg) (call : Nat → List D → Sto → Mx D) (a b : List CS) (env : Env) (Q : Fl → Sto → Prop) (k : Bool) (st : Sto) : RI P call a b env Q k st ↔ (k = true → YS (evSs P call a env st) Q) ∧ (¬ k = true → YS (evSs P call b env st) Q) := Iff.rfl
theorem YS_ite (c : Prop) [Decidable c] (a b : Sx) (Q : Fl → Sto → Prop) : YS (if c then a else b) Q ↔ (c → YS a Q) ∧ (¬ c → YS b Q) := by
  by_cases h : c
  · rw [if_pos h]
    exact ⟨fun q => ⟨fun _ => q, fun n => absurd h n⟩, fun q => q.1 h⟩
  · rw [if_neg h]
    exact ⟨fun q => ⟨fun n => absurd n h, fun _ => q⟩, fun q => q.2 h⟩
def RR (E : XE) (Q : D → Sto → Prop) : Fl → Sto → Prop
  | .nx _, st => Q .non st
  | .rt d, st => Q d st
  | .exc _ c fs, st => E c fs st
  | _, _ => False
theorem RR_nx (E : XE) (Q : D → Sto → Prop) (env : Env) (st : Sto) : RR E Q (.nx env) st ↔ Q .non st := Iff.rfl
theorem RR_rt (E : XE) (Q : D → Sto → Prop) (d : D) (st : Sto) : RR E Q (.rt d) st ↔ Q d st := Iff.rfl
theorem RR_exc (E : XE) (Q : D → Sto → Prop) (env : Env) (c : Nat) (fs : List D) (st : Sto) : RR E Q (.exc env c fs) st ↔ E c fs st := Iff.rfl
theorem Y_ret (E : XE) (m : Sx) (Q : D → Sto → Prop) : Y E (retOf m) Q ↔ YS m (RR E Q) := by
  constructor
  · rintro ⟨r, st', h, q⟩
    cases m with
    | none => cases h
    | some p =>
      obtain ⟨fl, s⟩ := p
      cases fl <;> first
        | (cases h; exact ⟨_, _, rfl, q⟩)
        | cases h
  · rintro ⟨fl, st', h, q⟩
    subst h
    cases fl with
    | nx env => exact ⟨.ok _, _, rfl, q⟩
    | rt d => exact ⟨.ok _, _, rfl, q⟩
    | bk d => exact q.elim
    | ct d => exact q.elim
    | exc e c fs => exact ⟨.exc _ _, _, rfl, q⟩
theorem Y_bdk {α β : Type} {E : XE} {m : Mx α} {f : α → Sto → Mx β} {Q : β → Sto → Prop} {K : α → Sto → Prop} (h : ∀ a st, Y E (f a st) Q ↔ K a st) : Y E (bd m f) Q ↔ Y E m K := by
  rw [Y_bd]
  have : (fun a st => Y E (f a st) Q) = K := by
    funext a st
    exact propext (h a st)
  rw [this]
theorem YS_bek {α : Type} {env : Env} {m : Mx α} {f : α → Sto → Sx} {Q : Fl → Sto → Prop} {K : α → Sto → Prop} (h : ∀ a st, YS (f a st) Q ↔ K a st) : YS (be env m f) Q ↔ Y (QX env Q) m K := by
  rw [YS_be]
  have : (fun a st => YS (f a st) Q) = K := by
    funext a st
    exact propext (h a st)
  rw [this]
section
variable (E : XE) (P : Pg) (call : Nat → List D → Sto → Mx D)
def LBin2 (op : PySem.Operator) (x : D) (Q : D → Sto → Prop) (y : D) (st : Sto) : Prop := Y E (binD op x y st) Q
def LBin1 (op : PySem.Operator) (b : CE) (env : Env) (Q : D → Sto → Prop) (x : D) (st : Sto) : Prop := Y E (evE P call b env st) (LBin2 E op x Q)
theorem Y_bin (op : PySem.Operator) (a b : CE) (env : Env) (st : Sto) (Q : D → Sto → Prop) : Y E (evE P call (.bin op a b) env st) Q ↔ Y E (evE P call a env st) (LBin1 E P call op b env Q) := by
  rw [evE]
  exact Y_bdk fun x st => Y_bdk fun y st => Iff.rfl
theorem LBin1_ap (op : PySem.Operator) (b : CE) (env : Env) (Q : D → Sto → Prop) (x : D) (st : Sto) : LBin1 E P call op b env Q x st ↔ Y E (evE P call b env st) (LBin2 E op x Q) := Iff.rfl
theorem LBin2_ap (op : PySem.Operator) (x : D) (Q : D → Sto → Prop) (y : D) (st : Sto) : LBin2 E op x Q y st ↔ Y E (binD op x y st) Q := Iff.rfl
def LCmp2 (op : PySem.CmpOp) (x : D) (Q : D → Sto → Prop) (y : D) (st : Sto) : Prop := Y E (opt ((cmpD op st x y).map D.bl) st) Q
def LCmp1 (op : PySem.CmpOp) (b : CE) (env : Env) (Q : D → Sto → Prop) (x : D) (st : Sto) : Prop := Y E (evE P call b env st) (LCmp2 E op x Q)
theorem Y_cmp (op : PySem.CmpOp) (a b : CE) (env : Env) (st : Sto) (Q : D → Sto → Prop) : Y E (evE P call (.cmp op a b) env st) Q ↔ Y E (evE P call a env st) (LCmp1 E P call op b env Q) := by
  rw [evE]
  exact Y_bdk fun x st => Y_bdk fun y st => Iff.rfl
theorem LCmp1_ap (op : PySem.CmpOp) (b : CE) (env : Env) (Q : D → Sto → Prop) (x : D) (st : Sto) : LCmp1 E P call op b env Q x st ↔ Y E (evE P call b env st) (LCmp2 E op x Q) := Iff.rfl
theorem LCmp2_ap (op : PySem.CmpOp) (x : D) (Q : D → Sto → Prop) (y : D) (st : Sto) : LCmp2 E op x Q y st ↔ Y E (opt ((cmpD op st x y).map D.bl) st) Q := Iff.rfl
def LNot (Q : D → Sto → Prop) (d : D) (st : Sto) : Prop := Y E (opt ((truD st d).map fun b => D.bl (!b)) st) Q
theorem Y_not (a : CE) (env : Env) (st : Sto) (Q : D → Sto → Prop) : Y E (evE P call (.not a) env st) Q ↔ Y E (evE P call a env st) (LNot E Q) := by
  rw [evE]
  exact Y_bdk fun x st => Iff.rfl
theorem LNot_ap (Q : D → Sto → Prop) (d : D) (st : Sto) : LNot E Q d st ↔ Y E (opt ((truD st d).map fun b => D.bl (!b)) st) Q := Iff.rfl
def LNeg (Q : D → Sto → Prop) (d : D) (st : Sto) : Prop := Y E (negD d st) Q
theorem Y_neg (a : CE) (env : Env) (st : Sto) (Q : D → Sto → Prop) : Y E (evE P call (.neg a) env st) Q ↔ Y E (evE P call a env st) (LNeg E Q) := by
  rw [evE]
  exact Y_bdk fun x st => by cases x <;> exact Iff.rfl
theorem LNeg_ap (Q : D → Sto → Prop) (d : D) (st : Sto) : LNeg E Q d st ↔ Y E (negD d st) Q := Iff.rfl
def LAnd (es : List CE) (env : Env) (Q : D → Sto → Prop) (d : D) (st : Sto) : Prop := Y E (evAnd P call es d env st) Q
theorem Y_and (a : CE) (es : List CE) (env : Env) (st : Sto) (Q : D → Sto → Prop) : Y E (evE P call (.and a es) env st) Q ↔ Y E (evE P call a env st) (LAnd E P call es env Q) := by
  rw [evE]
  exact Y_bdk fun x st => Iff.rfl
theorem LAnd_nil (env : Env) (Q : D → Sto → Prop) (d : D) (st : Sto) : LAnd E P call [] env Q d st ↔ Q d st := by
  unfold LAnd
  rw [evAnd_nil, Y_ok]
theorem LAnd_bl (e : CE) (es : List CE) (env : Env) (Q : D → Sto → Prop) (b : Bool) (st : Sto) : LAnd E P call (e :: es) env Q (.bl b) st ↔ (b = true → Y E (evE P call e env st) (LAnd E P call es env Q)) ∧ (¬ b = true → Q (.bl false) st) := by
  unfold LAnd
  rw [evAnd_bl]
  cases b
  · simp [Y_ok]
  · simp only [if_true, true_imp_iff, not_true_eq_false, false_imp_iff, and_true]
    exact Y_bdk fun x st => Iff.rfl
def LOr (es : List CE) (env : Env) (Q : D → Sto → Prop) (d : D) (st : Sto) : Prop := Y E (evOr P call es d env st) Q
theorem Y_or (a : CE) (es : List CE) (env : Env) (st : Sto) (Q : D → Sto → Prop) : Y E (evE P call (.or a es) env st) Q ↔ Y E (evE P call a env st) (LOr E P call es env Q) := by
  rw [evE]
  exact Y_bdk fun x st => Iff.rfl
theorem LOr_nil (env : Env) (Q : D → Sto → Prop) (d : D) (st : Sto) : LOr E P call [] env Q d st ↔ Q d st := by
  unfold LOr
  rw [evOr_nil, Y_ok]
theorem LOr_bl (e : CE) (es : List CE) (env : Env) (Q : D → Sto → Prop) (b : Bool) (st : Sto) : LOr E P call (e :: es) env Q (.bl b) st ↔ (b = true → Q (.bl true) st) ∧ (¬ b = true → Y E (evE P call e env st) (LOr E P call es env Q)) := by
  unfold LOr
  rw [evOr_bl]
  cases b
  · simp only [Bool.false_eq_true, if_false, not_false_eq_true, true_imp_iff, false_imp_iff, true_and]
    exact Y_bdk fun x st => Iff.rfl
  · simp [Y_ok]
def LT (Q : Bool → Sto → Prop) (d : D) (st : Sto) : Prop := Y E (opt (truD st d) st) Q
theorem Y_T (c : CE) (env : Env) (st : Sto) (Q : Bool → Sto → Prop) : Y E (evT P call c env st) Q ↔ Y E (evE P call c env st) (LT E Q) := by
  unfold evT bT
  exact Y_bdk fun x st => Iff.rfl
theorem LT_ap (Q : Bool → Sto → Prop) (d : D) (st : Sto) : LT E Q d st ↔ Y E (opt (truD st d) st) Q := Iff.rfl
def LIte (a b : CE) (env : Env) (Q : D → Sto → Prop) (k : Bool) (st : Sto) : Prop := (k = true → Y E (evE P call a env st) Q) ∧ (¬ k = true → Y E (evE P call b env st) Q)
theorem Y_iteE (c a b : CE) (env : Env) (st : Sto) (Q : D → Sto → Prop) : Y E (evE P call (.ite c a b) env st) Q ↔ Y E (evE P call c env st) (LT E (LIte E P call a b env Q)) := by
  rw [evE, ← Y_T]
  unfold evT
  exact Y_bdk fun x st => Y_ite _ _ _ _ _
theorem LIte_ap (a b : CE) (env : Env) (Q : D → Sto → Prop) (k : Bool) (st : Sto) : LIte E P call a b env Q k st ↔ (k = true → Y E (evE P call a env st) Q) ∧ (¬ k = true → Y E (evE P call b env st) Q) := Iff.rfl
def LL (es : List CE) (env : Env) (Q : List D → Sto → Prop) (d : D) (st : Sto) : Prop := Y E (evL P call es env st) (KC d Q)
theorem Y_L0 (env : Env) (st : Sto) (Q : List D → Sto → Prop) : Y E (evL P call [] env st) Q ↔ Q [] st := by rw [evL, Y_ok]
theorem Y_L (e : CE) (es : List CE) (env : Env) (st : Sto) (Q : List D → Sto → Prop) : Y E (evL P call (e :: es) env st) Q ↔ Y E (evE P call e env st) (LL E P call es env Q) := by
  rw [evL]
  exact Y_bdk fun x st => Y_bdk fun y st => Y_ok _ _ _ _
theorem LL_ap (es : List CE) (env : Env) (Q : List D → Sto → Prop) (d : D) (st : Sto) : LL E P call es env Q d st ↔ Y E (evL P call es env st) (KC d Q) := Iff.rfl
theorem Y_tup (es : List CE) (env : Env) (st : Sto) (Q : D → Sto → Prop) : Y E (evE P call (.tup es) env st) Q ↔ Y E (evL P call es env st) (KTup Q) := by
  rw [evE]
  refine Y_bdk fun x st => ?_
  rw [Y_ite, Y_ok, Y_none]
  unfold KTup
  by_cases h : x.length ≤ LN <;> simp [h]
theorem Y_lst (es : List CE) (env : Env) (st : Sto) (Q : D → Sto → Prop) : Y E (evE P call (.lst es) env st) Q ↔ Y E (evL P call es env st) (KLst Q) := by
  rw [evE]
  refine Y_bdk fun x st => ?_
  rw [Y_ite, Y_newL, Y_none]
  unfold KLst
  by_cases h : x.length ≤ LN <;> simp [h]
def LSub2 (x : D) (Q : D → Sto → Prop) (y : D) (st : Sto) : Prop := Y E (opt (subD st x y) st) Q
def LSub1 (b : CE) (env : Env) (Q : D → Sto → Prop) (x : D) (st : Sto) : Prop := Y E (evE P call b env st) (LSub2 E x Q)
theorem Y_sub (a b : CE) (env : Env) (st : Sto) (Q : D → Sto → Prop) : Y E (evE P call (.sub a b) env st) Q ↔ Y E (evE P call a env st) (LSub1 E P call b env Q) := by
  rw [evE]
  exact Y_bdk fun x st => Y_bdk fun y st => Iff.rfl
theorem LSub1_ap (b : CE) (env : Env) (Q : D → Sto → Prop) (x : D) (st : Sto) : LSub1 E P call b env Q x st ↔ Y E (evE P call b env st) (LSub2 E x Q) := Iff.rfl
theorem LSub2_ap (x : D) (Q : D → Sto → Prop) (y : D) (st : Sto) : LSub2 E x Q y st ↔ Y E (opt (subD st x y) st) Q := Iff.rfl
def LSlc3 (x : D) (l : List D) (Q : D → Sto → Prop) (h : List D) (st : Sto) : Prop := Y E (slcW x l h st) Q
def LSlc2 (x : D) (hi : List CE) (env : Env) (Q : D → Sto → Prop) (l : List D) (st : Sto) : Prop := (optI l).isSome = true ∧ Y E (evL P call hi env st) (LSlc3 E x l Q)
def LSlc1 (lo hi : List CE) (env : Env) (Q : D → Sto → Prop) (x : D) (st : Sto) : Prop := Y E (evL P call lo env st) (LSlc2 E P call x hi env Q)
theorem Y_slc (a : CE) (lo hi : List CE) (env : Env) (st : Sto) (Q : D → Sto → Prop) : Y E (evE P call (.slc a lo hi) env st) Q ↔ Y E (evE P call a env st) (LSlc1 E P call lo hi env Q) := by
  rw [evE]
  refine Y_bdk fun x st => Y_bdk fun l st => ?_
  unfold LSlc2
  cases hl : optI l with
  | none => simp [Y_none]
  | some l' =>
    simp only [Option.isSome_some, true_and]
    refine Y_bdk fun h st => ?_
    unfold LSlc3 slcW
    rw [hl] <;> exact Iff.rfl
theorem LSlc1_ap (lo hi : List CE) (env : Env) (Q : D → Sto → Prop) (x : D) (st : Sto) : LSlc1 E P call lo hi env Q x st ↔ Y E (evL P call lo env st) (LSlc2 E P call x hi env Q) := Iff.rfl
theorem LSlc2_ap (x : D) (hi : List CE) (env : Env) (Q : D → Sto → Prop) (l : List D) (st : Sto) : LSlc2 E P call x hi env Q l st ↔ (optI l).isSome = true ∧ Y E (evL P call hi env st) (LSlc3 E x l Q) := Iff.rfl
theorem LSlc3_ap (x : D) (l : List D) (Q : D → Sto → Prop) (h : List D) (st : Sto) : LSlc3 E x l Q h st ↔ Y E (slcW x l h st) Q := Iff.rfl
def LCall (g : Nat) (Q : D → Sto → Prop) (ds : List D) (st : Sto) : Prop := Y E (call g ds st) Q
theorem Y_call {g : Nat} {f : Fn} (h : P.fn g = some f) (es : List CE) (env : Env) (st : Sto) (Q : D → Sto → Prop) : Y E (evE P call (.call g es) env st) Q ↔ Y E (evL P call es env st) (LCall E call g Q) := by
  rw [evE, h]
  exact Y_bdk fun x st => Iff.rfl
theorem LCall_ap (g : Nat) (Q : D → Sto → Prop) (ds : List D) (st : Sto) : LCall E call g Q ds st ↔ Y E (call g ds st) Q := Iff.rfl
def LBlt (b : Bt) (Q : D → Sto → Prop) (ds : List D) (st : Sto) : Prop := Y E (bltD b ds st) Q
theorem Y_blt (b : Bt) (es : List CE) (env : Env) (st : Sto) (Q : D → Sto → Prop) : Y E (evE P call (.blt b es) env st) Q ↔ Y E (evL P call es env st) (LBlt E b Q) := by
  rw [evE]
  exact Y_bdk fun x st => Iff.rfl
theorem LBlt_ap (b : Bt) (Q : D → Sto → Prop) (ds : List D) (st : Sto) : LBlt E b Q ds st ↔ Y E (bltD b ds st) Q := Iff.rfl
def LIsi (ts : List String) (Q : D → Sto → Prop) (d : D) (st : Sto) : Prop := Y E (opt (((typD st d).bind fun t => isiD t ts).map D.bl) st) Q
theorem Y_isi (e : CE) (ts : List String) (env : Env) (st : Sto) (Q : D → Sto → Prop) : Y E (evE P call (.isi e ts) env st) Q ↔ Y E (evE P call e env st) (LIsi E ts Q) := by
  rw [evE]
  exact Y_bdk fun x st => Iff.rfl
theorem LIsi_ap (ts : List String) (Q : D → Sto → Prop) (d : D) (st : Sto) : LIsi E ts Q d st ↔ Y E (opt (((typD st d).bind fun t => isiD t ts).map D.bl) st) Q := Iff.rfl
def LMth2 (m : Mt) (x : D) (Q : D → Sto → Prop) (ds : List D) (st : Sto) : Prop := Y E (mthD m x ds st) Q
def LMth1 (m : Mt) (es : List CE) (env : Env) (Q : D → Sto → Prop) (x : D) (st : Sto) : Prop := preM st m x = true ∧ Y E (evL P call es env st) (LMth2 E m x Q)
theorem Y_mth (m : Mt) (o : CE) (es : List CE) (env : Env) (st : Sto) (Q : D → Sto → Prop) : Y E (evE P call (.mth m o es) env st) Q ↔ Y E (evE P call o env st) (LMth1 E P call m es env Q) := by
  rw [evE]
  refine Y_bdk fun x st => ?_
  rw [Y_ite, Y_none]
  unfold LMth1
  by_cases h : preM st m x = true
  · simp only [h, true_imp_iff, not_true_eq_false, false_imp_iff, and_true, true_and]
    exact Y_bdk fun x st => Iff.rfl
  · simp [h]
theorem LMth1_ap (m : Mt) (es : List CE) (env : Env) (Q : D → Sto → Prop) (x : D) (st : Sto) : LMth1 E P call m es env Q x st ↔ preM st m x = true ∧ Y E (evL P call es env st) (LMth2 E m x Q) := Iff.rfl
theorem LMth2_ap (m : Mt) (x : D) (Q : D → Sto → Prop) (ds : List D) (st : Sto) : LMth2 E m x Q ds st ↔ Y E (mthD m x ds st) Q := Iff.rfl
theorem Y_Ts0 (env : Env) (st : Sto) (Q : Bool → Sto → Prop) : Y E (evTs P call [] env st) Q ↔ Q true st := by rw [evTs, Y_ok]
theorem Y_Ts1 (e : CE) (env : Env) (st : Sto) (Q : Bool → Sto → Prop) : Y E (evTs P call [e] env st) Q ↔ Y E (evE P call e env st) (LT E Q) := by
  rw [evTs]
  exact Y_T E P call e env st Q

/-! further expressions -/
def LFld (f : Nat) (Q : D → Sto → Prop) (x : D) (st : Sto) : Prop := Y E (opt (fldD P st x f) st) Q
theorem Y_fld (o : CE) (f : Nat) (env : Env) (st : Sto) (Q : D → Sto → Prop) : Y E (evE P call (.fld o f) env st) Q ↔ Y E (evE P call o env st) (LFld E P f Q) := by
  rw [evE]
  exact Y_bdk fun x st => Iff.rfl
theorem LFld_ap (f : Nat) (Q : D → Sto → Prop) (x : D) (st : Sto) : LFld E P f Q x st ↔ Y E (opt (fldD P st x f) st) Q := Iff.rfl
def dctW (ds : List D) (st : Sto) : Mx D := match pairsD ds with
  | some kvs => newD (mergeD [] kvs) st
  | none => none
def LDct (Q : D → Sto → Prop) (ds : List D) (st : Sto) : Prop := Y E (dctW ds st) Q
theorem Y_dct (es : List CE) (env : Env) (st : Sto) (Q : D → Sto → Prop) : Y E (evE P call (.dct es) env st) Q ↔ Y E (evL P call es env st) (LDct E Q) := by
  rw [evE]
  exact Y_bdk fun x st => Iff.rfl
theorem LDct_ap (Q : D → Sto → Prop) (ds : List D) (st : Sto) : LDct E Q ds st ↔ Y E (dctW ds st) Q := Iff.rfl
def tixW (ss : List S) (d : D) (st : Sto) : Mx D := match d with
  | .str s => opt ((idxS s ss).map fun k => .int (k : Nat)) st
  | _ => none
def LTix (ss : List S) (Q : D → Sto → Prop) (d : D) (st : Sto) : Prop := Y E (tixW ss d st) Q
theorem Y_tix {g : Nat} {xs : List D} {ss : List S} (h : P.gl g = some (.tup xs)) (h2 : strsD xs = some ss) (e : CE) (env : Env) (st : Sto) (Q : D → Sto → Prop) : Y E (evE P call (.tix g e) env st) Q ↔ Y E (evE P call e env st) (LTix E ss Q) := by
  rw [evE, h]
  dsimp only
  rw [h2]
  dsimp only
  refine Y_bdk fun x st => ?_
  unfold LTix tixW
  cases x <;> exact Iff.rfl
theorem LTix_ap (ss : List S) (Q : D → Sto → Prop) (d : D) (st : Sto) : LTix E ss Q d st ↔ Y E (tixW ss d st) Q := Iff.rfl
def LMcl (x : D) (g : Nat) (Q : D → Sto → Prop) (ds : List D) (st : Sto) : Prop := Y E (call g (x :: ds) st) Q
def LMc0 (m : Nat) (es : List CE) (env : Env) (Q : D → Sto → Prop) (x : D) (st : Sto) : Prop := ∃ i c fs k g f, insD st x = some (i, c, fs) ∧ P.cl c = some k ∧ fs.lookup m = none ∧ k.ms.lookup m = some g ∧ P.fn g = some f ∧ Y E (evL P call es env st) (LMcl E call x g Q)
theorem Y_mcl (o : CE) (m : Nat) (es : List CE) (env : Env) (st : Sto) (Q : D → Sto → Prop) (h : Y E (evE P call o env st) (LMc0 E P call m es env Q)) : Y E (evE P call (.mcl o m es) env st) Q := by
  rw [evE, Y_bd]
  refine h.mono (fun x st q => ?_) fun _ _ _ z => z
  obtain ⟨i, c, fs, k, g, f, h1, h2, h3, h4, h5, h6⟩ := q
  rw [h1]
  dsimp only
  rw [h2, h3]
  dsimp only
  rw [h4]
  dsimp only
  rw [h5]
  exact (Y_bdk fun x st => Iff.rfl).2 h6
theorem Y_cav {i g : Nat} {f : Fn} (es : List CE) (env : Env) (st : Sto) (Q : D → Sto → Prop) (h1 : env[i]? = some (some (.glo g))) (h2 : P.fn g = some f) : Y E (evE P call (.cav i es) env st) Q ↔ Y E (evL P call es env st) (LCall E call g Q) := by
  rw [evE, h1]
  dsimp only
  rw [h2]
  exact Y_bdk fun x st => Iff.rfl
theorem E_xis {i c : Nat} {env : Env} {st : Sto} {c' : Nat} {fs : List D} (h : exnAt env i = some (c', fs)) : evE P call (.xis i c) env st = opt ((P.sub c' c).map .bl) st := by
  rw [evE, h]
theorem E_xfl {i f : Nat} {env : Env} {st : Sto} {c' : Nat} {fs : List D} {ns : List Nat} (h : exnAt env i = some (c', fs)) (h2 : P.xf c' = some ns) : evE P call (.xfl i f) env st = opt ((ns.zip fs).lookup f) st := by
  rw [evE, h]
  dsimp only
  rw [h2]
end
/-! ### statements -/
section
variable (P : Pg) (call : Nat → List D → Sto → Mx D)
theorem YS_expr (e : CE) (env : Env) (st : Sto) (Q : Fl → Sto → Prop) : YS (evS P call (.expr e) env st) Q ↔ Y (QX env Q) (evE P call e env st) (KExpr env Q) := by
  rw [evS]
  exact YS_bek fun x st => YS_some _ _ _
theorem YS_set (i : Nat) (e : CE) (env : Env) (st : Sto) (Q : Fl → Sto → Prop) : YS (evS P call (.set i e) env st) Q ↔ Y (QX env Q) (evE P call e env st) (KSet i env Q) := by
  rw [evS]
  exact YS_bek fun x st => YS_some _ _ _
theorem YS_tgt (t : Tg) (e : CE) (env : Env) (st : Sto) (Q : Fl → Sto → Prop) : YS (evS P call (.tgt t e) env st) Q ↔ Y (QX env Q) (evE P call e env st) (KTgt t env Q) := by
  rw [evS]
  refine YS_bek fun x st => ?_
  unfold KTgt QE
  cases asgT t x env with
  | some e => exact YS_some _ _ _
  | none => exact YS_none _
def LPar2 (i j : Nat) (x : D) (env : Env) (Q : Fl → Sto → Prop) (y : D) (st : Sto) : Prop := Q (.nx ((env.set i (some x)).set j (some y))) st
def LPar1 (i j : Nat) (b : CE) (env : Env) (Q : Fl → Sto → Prop) (x : D) (st : Sto) : Prop := Y (QX env Q) (evE P call b env st) (LPar2 i j x env Q)
theorem YS_par (i j : Nat) (a b : CE) (env : Env) (st : Sto) (Q : Fl → Sto → Prop) : YS (evS P call (.par i j a b) env st) Q ↔ Y (QX env Q) (evE P call a env st) (LPar1 P call i j b env Q) := by
  rw [evS]
  exact YS_bek fun x st => YS_bek fun y st => YS_some _ _ _
theorem LPar1_ap (i j : Nat) (b : CE) (env : Env) (Q : Fl → Sto → Prop) (x : D) (st : Sto) : LPar1 P call i j b env Q x st ↔ Y (QX env Q) (evE P call b env st) (LPar2 i j x env Q) := Iff.rfl
theorem LPar2_ap (i j : Nat) (x : D) (env : Env) (Q : Fl → Sto → Prop) (y : D) (st : Sto) : LPar2 i j x env Q y st ↔ Q (.nx ((env.set i (some x)).set j (some y))) st := Iff.rfl
def LSt2 (v : D) (ie : CE) (env : Env) (Q : Fl → Sto → Prop) (o : D) (st : Sto) : Prop := Y (QX env Q) (evE P call ie env st) (KSt3 v o env Q)
def LSt1 (oe ie : CE) (env : Env) (Q : Fl → Sto → Prop) (v : D) (st : Sto) : Prop := Y (QX env Q) (evE P call oe env st) (LSt2 P call v ie env Q)
theorem YS_stsub (oe ie e : CE) (env : Env) (st : Sto) (Q : Fl → Sto → Prop) : YS (evS P call (.stsub oe ie e) env st) Q ↔ Y (QX env Q) (evE P call e env st) (LSt1 P call oe ie env Q) := by
  rw [evS]
  refine YS_bek fun x st => YS_bek fun o st => YS_bek fun i st => ?_
  unfold KSt3 QO
  cases stsubD o i x st with
  | some e => exact YS_some _ _ _
  | none => exact YS_none _
theorem LSt1_ap (oe ie : CE) (env : Env) (Q : Fl → Sto → Prop) (v : D) (st : Sto) : LSt1 P call oe ie env Q v st ↔ Y (QX env Q) (evE P call oe env st) (LSt2 P call v ie env Q) := Iff.rfl
theorem LSt2_ap (v : D) (ie : CE) (env : Env) (Q : Fl → Sto → Prop) (o : D) (st : Sto) : LSt2 P call v ie env Q o st ↔ Y (QX env Q) (evE P call ie env st) (KSt3 v o env Q) := Iff.rfl
def LAug (i : Nat) (op : PySem.Operator) (env : Env) (x : D) (Q : Fl → Sto → Prop) (y : D) (st : Sto) : Prop := Y (QX env Q) (augD op x y st) (KSet i env Q)
theorem YS_aug {x : D} (i : Nat) (op : PySem.Operator) (e : CE) (env : Env) (st : Sto) (Q : Fl → Sto → Prop) (h : env[i]? = some (some x)) (hx : isX x = false := by rfl) : YS (evS P call (.aug i op e) env st) Q ↔ Y (QX env Q) (evE P call e env st) (LAug i op env x Q) := by
  rw [evS, h]
  simp only [hx, Bool.false_eq_true, if_false]
  exact YS_bek fun x st => YS_bek fun y st => YS_some _ _ _
theorem LAug_ap (i : Nat) (op : PySem.Operator) (env : Env) (x : D) (Q : Fl → Sto → Prop) (y : D) (st : Sto) : LAug i op env x Q y st ↔ Y (QX env Q) (augD op x y st) (KSet i env Q) := Iff.rfl
theorem YS_ret (e : CE) (env : Env) (st : Sto) (Q : Fl → Sto → Prop) : YS (evS P call (.ret e) env st) Q ↔ Y (QX env Q) (evE P call e env st) (KRet Q) := by
  rw [evS]
  exact YS_bek fun x st => YS_some _ _ _
theorem YS_retN (env : Env) (st : Sto) (Q : Fl → Sto → Prop) : YS (evS P call .retN env st) Q ↔ Q (.rt .non) st := by rw [evS, YS_some]
theorem YS_pass (env : Env) (st : Sto) (Q : Fl → Sto → Prop) : YS (evS P call .pass env st) Q ↔ Q (.nx env) st := by rw [evS, YS_some]
theorem YS_brk (env : Env) (st : Sto) (Q : Fl → Sto → Prop) : YS (evS P call .brk env st) Q ↔ Q (.bk env) st := by rw [evS, YS_some]
theorem YS_cont (env : Env) (st : Sto) (Q : Fl → Sto → Prop) : YS (evS P call .cont env st) Q ↔ Q (.ct env) st := by rw [evS, YS_some]
def LFor (k : Sk) (tg : Tg) (b : List CS) (env : Env) (Q : Fl → Sto → Prop) (ds : List D) (st : Sto) : Prop := YS (forG (walked k ds) (fun x env => asgT tg x env) (fun env st => evSs P call b env st) FU 0 env st) Q
theorem YS_forr (k : Sk) (srcs : List CE) (tg : Tg) (b : List CS) (env : Env) (st : Sto) (Q : Fl → Sto → Prop) : YS (evS P call (.forr k srcs tg b) env st) Q ↔ Y (QX env Q) (evL P call srcs env st) (LFor P call k tg b env Q) := by
  rw [evS]
  exact YS_bek fun x st => Iff.rfl
theorem YS_ifeT (c : CE) (a b : List CS) (Q : Fl → Sto → Prop) (env : Env) (st : Sto) : YS (evS P call (.ife c a b) env st) Q ↔ Y (QX env Q) (evE P call c env st) (LT (QX env Q) (RI P call a b env Q)) := by
  rw [evS, ← Y_T]
  refine YS_bek fun k st => ?_
  cases k
  · simp [RI]
  · simp [RI]
def LRs (c : Nat) (env : Env) (Q : Fl → Sto → Prop) (ds : List D) (st : Sto) : Prop := Q (.exc env c ds) st
theorem YS_raise {c : Nat} {ns : List Nat} (h : P.xf c = some ns) (es : List CE) (env : Env) (st : Sto) (Q : Fl → Sto → Prop) (hl : es.length = ns.length) : YS (evS P call (.raise c es) env st) Q ↔ Y (QX env Q) (evL P call es env st) (LRs c env Q) := by
  rw [evS, h]
  dsimp only
  rw [if_pos hl]
  exact YS_bek fun x st => YS_some _ _ _
theorem LRs_ap (c : Nat) (env : Env) (Q : Fl → Sto → Prop) (ds : List D) (st : Sto) : LRs c env Q ds st ↔ Q (.exc env c ds) st := Iff.rfl
def LFs2 (f : Nat) (v : D) (env : Env) (Q : Fl → Sto → Prop) (x : D) (st : Sto) : Prop := QO env Q (fsetD P x f v st)
def LFs1 (o : CE) (f : Nat) (env : Env) (Q : Fl → Sto → Prop) (v : D) (st : Sto) : Prop := Y (QX env Q) (evE P call o env st) (LFs2 P f v env Q)
theorem YS_fset (o : CE) (f : Nat) (e : CE) (env : Env) (st : Sto) (Q : Fl → Sto → Prop) : YS (evS P call (.fset o f e) env st) Q ↔ Y (QX env Q) (evE P call e env st) (LFs1 P call o f env Q) := by
  rw [evS]
  refine YS_bek fun x st => YS_bek fun o st => ?_
  unfold LFs2 QO
  cases fsetD P o f x st with
  | some e => exact YS_some _ _ _
  | none => exact YS_none _
theorem LFs1_ap (o : CE) (f : Nat) (env : Env) (Q : Fl → Sto → Prop) (v : D) (st : Sto) : LFs1 P call o f env Q v st ↔ Y (QX env Q) (evE P call o env st) (LFs2 P f v env Q) := Iff.rfl
theorem LFs2_ap (f : Nat) (v : D) (env : Env) (Q : Fl → Sto → Prop) (x : D) (st : Sto) : LFs2 P f v env Q x st ↔ QO env Q (fsetD P x f v st) := Iff.rfl
def LSa3 (o i : D) (env : Env) (Q : Fl → Sto → Prop) (z : D) (st : Sto) : Prop := QO env Q (stsubD o i z st)
def LSa2 (o i x : D) (op : PySem.Operator) (env : Env) (Q : Fl → Sto → Prop) (y : D) (st : Sto) : Prop := Y (QX env Q) (augD op x y st) (LSa3 o i env Q)
def LSa1 (o : D) (op : PySem.Operator) (e : CE) (env : Env) (Q : Fl → Sto → Prop) (i : D) (st : Sto) : Prop := ∃ x, getL st o i = some x ∧ Y (QX env Q) (evE P call e env st) (LSa2 o i x op env Q)
def LSa0 (ie : CE) (op : PySem.Operator) (e : CE) (env : Env) (Q : Fl → Sto → Prop) (o : D) (st : Sto) : Prop := Y (QX env Q) (evE P call ie env st) (LSa1 P call o op e env Q)
theorem YS_sau (o i : CE) (op : PySem.Operator) (e : CE) (env : Env) (st : Sto) (Q : Fl → Sto → Prop) : YS (evS P call (.sau o i op e) env st) Q ↔ Y (QX env Q) (evE P call o env st) (LSa0 P call i op e env Q) := by
  rw [evS]
  refine YS_bek fun o st => YS_bek fun i st => ?_
  unfold LSa1
  cases hg : getL st o i with
  | none =>
    constructor
    · intro h
      exact ((YS_none _).1 h).elim
    · rintro ⟨x, h, _⟩
      cases h
  | some x =>
    dsimp only
    rw [YS_bek (K := LSa2 o i x op env Q) fun y st => YS_bek fun z st => ?_]
    · constructor
      · intro h
        exact ⟨x, rfl, h⟩
      · rintro ⟨x', h, q⟩
        cases h
        exact q
    · unfold LSa3 QO
      cases stsubD o i z st with
      | some e => exact YS_some _ _ _
      | none => exact YS_none _
theorem LSa0_ap (ie : CE) (op : PySem.Operator) (e : CE) (env : Env) (Q : Fl → Sto → Prop) (o : D) (st : Sto) : LSa0 P call ie op e env Q o st ↔ Y (QX env Q) (evE P call ie env st) (LSa1 P call o op e env Q) := Iff.rfl
theorem LSa1_ap (o : D) (op : PySem.Operator) (e : CE) (env : Env) (Q : Fl → Sto → Prop) (i : D) (st : Sto) : LSa1 P call o op e env Q i st ↔ ∃ x, getL st o i = some x ∧ Y (QX env Q) (evE P call e env st) (LSa2 o i x op env Q) := Iff.rfl
theorem LSa2_ap (o i x : D) (op : PySem.Operator) (env : Env) (Q : Fl → Sto → Prop) (y : D) (st : Sto) : LSa2 o i x op env Q y st ↔ Y (QX env Q) (augD op x y st) (LSa3 o i env Q) := Iff.rfl
theorem LSa3_ap (o i : D) (env : Env) (Q : Fl → Sto → Prop) (z : D) (st : Sto) : LSa3 o i env Q z st ↔ QO env Q (stsubD o i z st) := Iff.rfl
/-- try -/
def RH (hs : List CS) (Q : Fl → Sto → Prop) : Fl → Sto → Prop
  | .exc env c fs, st => YS (evHs P call hs c fs env st) Q
  | fl, st => Q fl st
theorem YS_tri {b hs : List CS} (hh : hdsB P hs = true) (env : Env) (st : Sto) (Q : Fl → Sto → Prop) : YS (evS P call (.tri b hs) env st) Q ↔ YS (evSs P call b env st) (RH P call hs Q) := by
  rw [evS, if_pos hh]
  constructor
  · rintro ⟨fl, st', h, q⟩
    cases hv : evSs P call b env st with
    | none => rw [hv] at h; cases h
    | some p =>
      obtain ⟨fl1, st1⟩ := p
      rw [hv] at h
      cases fl1 with
      | exc e c fs => exact ⟨_, _, rfl, fl, st', h, q⟩
      | nx e => cases h; exact ⟨_, _, rfl, q⟩
      | rt e => cases h; exact ⟨_, _, rfl, q⟩
      | bk e => cases h; exact ⟨_, _, rfl, q⟩
      | ct e => cases h; exact ⟨_, _, rfl, q⟩
  · rintro ⟨fl, st', h, q⟩
    rw [h]
    cases fl with
    | exc e c fs =>
      obtain ⟨fl2, st2, h2, q2⟩ := q
      exact ⟨fl2, st2, h2, q2⟩
    | nx e => exact ⟨_, _, rfl, q⟩
    | rt e => exact ⟨_, _, rfl, q⟩
    | bk e => exact ⟨_, _, rfl, q⟩
    | ct e => exact ⟨_, _, rfl, q⟩
theorem RH_exc (hs : List CS) (Q : Fl → Sto → Prop) (env : Env) (c : Nat) (fs : List D) (st : Sto) : RH P call hs Q (.exc env c fs) st ↔ YS (evHs P call hs c fs env st) Q := Iff.rfl
theorem RH_nx (hs : List CS) (Q : Fl → Sto → Prop) (env : Env) (st : Sto) : RH P call hs Q (.nx env) st ↔ Q (.nx env) st := Iff.rfl
theorem RH_rt (hs : List CS) (Q : Fl → Sto → Prop) (d : D) (st : Sto) : RH P call hs Q (.rt d) st ↔ Q (.rt d) st := Iff.rfl
theorem YS_hs0 (c : Nat) (fs : List D) (env : Env) (st : Sto) (Q : Fl → Sto → Prop) : YS (evHs P call [] c fs env st) Q ↔ Q (.exc env c fs) st := by rw [evHs, YS_some]
/-- a clause that does not take it -/
theorem YS_hsN {c c' : Nat} (h : P.sub c c' = some false) (sl : Option Nat) (b hs : List CS) (fs : List D) (env : Env) (st : Sto) (Q : Fl → Sto → Prop) : YS (evHs P call (.hdl c' sl b :: hs) c fs env st) Q ↔ YS (evHs P call hs c fs env st) Q := by
  simp only [evHs, evH, h]
def RSn (Q : Fl → Sto → Prop) : Fl → Sto → Prop
  | .exc _ _ _, _ => False
  | .nx env, st => noExn env = true ∧ Q (.nx env) st
  | .bk env, st => noExn env = true ∧ Q (.bk env) st
  | .ct env, st => noExn env = true ∧ Q (.ct env) st
  | .rt d, st => Q (.rt d) st
def RSi (i : Nat) (Q : Fl → Sto → Prop) : Fl → Sto → Prop
  | .exc _ _ _, _ => False
  | .nx env, st => noExn (env.set i none) = true ∧ Q (.nx (env.set i none)) st
  | .bk env, st => noExn (env.set i none) = true ∧ Q (.bk (env.set i none)) st
  | .ct env, st => noExn (env.set i none) = true ∧ Q (.ct (env.set i none)) st
  | .rt d, st => Q (.rt d) st
theorem RSn_rt (Q : Fl → Sto → Prop) (d : D) (st : Sto) : RSn Q (.rt d) st ↔ Q (.rt d) st := Iff.rfl
theorem RSn_nx (Q : Fl → Sto → Prop) (env : Env) (st : Sto) : RSn Q (.nx env) st ↔ noExn env = true ∧ Q (.nx env) st := Iff.rfl
theorem RSi_rt (i : Nat) (Q : Fl → Sto → Prop) (d : D) (st : Sto) : RSi i Q (.rt d) st ↔ Q (.rt d) st := Iff.rfl
theorem RSi_nx (i : Nat) (Q : Fl → Sto → Prop) (env : Env) (st : Sto) : RSi i Q (.nx env) st ↔ noExn (env.set i none) = true ∧ Q (.nx (env.set i none)) st := Iff.rfl
theorem YS_suiteN (m : Sx) (Q : Fl → Sto → Prop) (h : YS m (RSn Q)) : YS (suiteN m) Q := by
  obtain ⟨fl, st, rfl, q⟩ := h
  cases fl with
  | exc e c fs => exact q.elim
  | rt d => exact ⟨_, _, rfl, q⟩
  | nx e =>
    obtain ⟨q1, q2⟩ := q
    exact ⟨.nx e, st, by simp [suiteN, q1], q2⟩
  | bk e =>
    obtain ⟨q1, q2⟩ := q
    exact ⟨.bk e, st, by simp [suiteN, q1], q2⟩
  | ct e =>
    obtain ⟨q1, q2⟩ := q
    exact ⟨.ct e, st, by simp [suiteN, q1], q2⟩
theorem YS_suiteI (i : Nat) (m : Sx) (Q : Fl → Sto → Prop) (h : YS m (RSi i Q)) : YS (suiteI i m) Q := by
  obtain ⟨fl, st, rfl, q⟩ := h
  cases fl with
  | exc e c fs => exact q.elim
  | rt d => exact ⟨_, _, rfl, q⟩
  | nx e =>
    obtain ⟨q1, q2⟩ := q
    exact ⟨.nx (e.set i none), st, by simp [suiteI, q1], q2⟩
  | bk e =>
    obtain ⟨q1, q2⟩ := q
    exact ⟨.bk (e.set i none), st, by simp [suiteI, q1], q2⟩
  | ct e =>
    obtain ⟨q1, q2⟩ := q
    exact ⟨.ct (e.set i none), st, by simp [suiteI, q1], q2⟩
theorem YS_hsT {c c' : Nat} (h : P.sub c c' = some true) (b hs : List CS) (fs : List D) (env : Env) (st : Sto) (Q : Fl → Sto → Prop) (k : YS (evSs P call b env st) (RSn Q)) : YS (evHs P call (.hdl c' none b :: hs) c fs env st) Q := by
  simp only [evHs, evH, h]
  exact YS_suiteN _ _ k
theorem YS_hsI {c c' : Nat} (h : P.sub c c' = some true) (i : Nat) (b hs : List CS) (fs : List D) (env : Env) (st : Sto) (Q : Fl → Sto → Prop) (k : YS (evSs P call b (env.set i (some (.exn c fs))) st) (RSi i Q)) : YS (evHs P call (.hdl c' (some i) b :: hs) c fs env st) Q := by
  simp only [evHs, evH, h]
  exact YS_suiteI i _ _ k
end
/-! ### loops -/
theorem lfor {k : Sk} {P : Pg} {call : Nat → List D → Sto → Mx D} {ds : List D} {tg : Tg} {body : List CS} (its : List D) (I : Nat → Env → Sto → Prop) {env : Env} {st : Sto} {Q : Fl → Sto → Prop}
    (hlen : its.length < 1000000)
    (hw : ∀ i env st, i ≤ its.length → I i env st → walked k ds st = some its)
    (h0 : I 0 env st)
    (step : ∀ i x env st, its[i]? = some x → i < its.length → I i env st → ∃ env1, asgT tg x env = some env1 ∧
      YS (evSs P call body env1 st) (fun fl st2 => match fl with
        | .nx env2 => I (i + 1) env2 st2
        | .ct env2 => I (i + 1) env2 st2
        | .rt d => Q (.rt d) st2
        | .exc e c fs => Q (.exc e c fs) st2
        | .bk e => Q (.nx e) st2))
    (done : ∀ env st, I its.length env st → Q (.nx env) st) :
    LFor P call k tg body env Q ds st := by
  have main : ∀ (n : Nat) (i : Nat) (env : Env) (st : Sto) (F : Nat), i + n = its.length → I i env st → n < F → YS (forG (walked k ds) (fun x env => asgT tg x env) (fun env st => evSs P call body env st) F i env st) Q := by
    intro n
    induction n with
    | zero =>
      intro i env st F hi hI hF
      cases F with
      | zero => omega
      | succ F =>
        rw [forG, hw i env st (by omega) hI]
        dsimp only
        rw [List.getElem?_eq_none (by omega)]
        have : i = its.length := by omega
        subst this
        exact (YS_some _ _ _).2 (done env st hI)
    | succ n ih =>
      intro i env st F hi hI hF
      cases F with
      | zero => omega
      | succ F =>
        rw [forG, hw i env st (by omega) hI]
        dsimp only
        have hlt : i < its.length := by omega
        rw [List.getElem?_eq_getElem hlt]
        dsimp only
        obtain ⟨env1, h1, fl, st2, h2, h3⟩ := step i its[i] env st (List.getElem?_eq_getElem hlt) hlt hI
        rw [h1]
        dsimp only
        rw [h2]
        cases fl with
        | nx env2 => exact ih (i + 1) env2 st2 F (by omega) h3 (by omega)
        | ct env2 => exact ih (i + 1) env2 st2 F (by omega) h3 (by omega)
        | rt d => exact (YS_some _ _ _).2 h3
        | exc e c fs => exact (YS_some _ _ _).2 h3
        | bk e => exact (YS_some _ _ _).2 h3
  exact main its.length 0 env st FU (by omega) h0 (by rw [FU_eq]; omega)
theorem lwhl {P : Pg} {call : Nat → List D → Sto → Mx D} {c : CE} {body : List CS} (I : Nat → Env → Sto → Prop) {env : Env} {st : Sto} {Q : Fl → Sto → Prop} (m : Nat) (hm : m < 1000000) (h0 : I m env st)
    (step : ∀ m env st, I m env st → Y (QX env Q) (evT P call c env st) (fun b st1 => if b = true then YS (evSs P call body env st1) (fun fl st2 => match fl with
        | .nx env2 => ∃ m2, m2 < m ∧ I m2 env2 st2
        | .ct env2 => ∃ m2, m2 < m ∧ I m2 env2 st2
        | .rt d => Q (.rt d) st2
        | .exc e c fs => Q (.exc e c fs) st2
        | .bk e => Q (.nx e) st2) else Q (.nx env) st1)) :
    YS (evS P call (.whl c body) env st) Q := by
  have main : ∀ (n m : Nat) (env : Env) (st : Sto) (F : Nat), m ≤ n → I m env st → n < F → YS (whG (fun env st => evT P call c env st) (fun env st => evSs P call body env st) F env st) Q := by
    intro n
    induction n with
    | zero =>
      intro m env st F hm hI hF
      cases F with
      | zero => omega
      | succ F =>
        rw [whG, YS_be]
        refine (step m env st hI).mono (fun b st1 q => ?_) fun _ _ _ z => z
        cases b with
        | false =>
          rw [if_neg (by decide)] at q ⊢
          exact (YS_some _ _ _).2 q
        | true =>
          rw [if_pos rfl] at q ⊢
          obtain ⟨fl, st2, h2, h3⟩ := q
          rw [h2]
          cases fl with
          | nx env2 =>
            obtain ⟨m2, hm2, _⟩ := h3
            omega
          | ct env2 =>
            obtain ⟨m2, hm2, _⟩ := h3
            omega
          | rt d => exact (YS_some _ _ _).2 h3
          | exc e c fs => exact (YS_some _ _ _).2 h3
          | bk e => exact (YS_some _ _ _).2 h3
    | succ n ih =>
      intro m env st F hm hI hF
      cases F with
      | zero => omega
      | succ F =>
        rw [whG, YS_be]
        refine (step m env st hI).mono (fun b st1 q => ?_) fun _ _ _ z => z
        cases b with
        | false =>
          rw [if_neg (by decide)] at q ⊢
          exact (YS_some _ _ _).2 q
        | true =>
          rw [if_pos rfl] at q ⊢
          obtain ⟨fl, st2, h2, h3⟩ := q
          rw [h2]
          cases fl with
          | nx env2 =>
            obtain ⟨m2, hm2, h4⟩ := h3
            exact ih m2 env2 st2 F (by omega) h4 (by omega)
          | ct env2 =>
            obtain ⟨m2, hm2, h4⟩ := h3
            exact ih m2 env2 st2 F (by omega) h4 (by omega)
          | rt d => exact (YS_some _ _ _).2 h3
          | exc e c fs => exact (YS_some _ _ _).2 h3
          | bk e => exact (YS_some _ _ _).2 h3
  rw [evS]
  exact main m m env st FU (Nat.le_refl _) h0 (by rw [FU_eq]; omega)
def LComp (E : XE) (P : Pg) (call : Nat → List D → Sto → Mx D) (own : List Nat) (k : Sk) (tg : Tg) (tst : List CE) (elt : CE) (env : Env) (Q : D → Sto → Prop) (ds : List D) (st : Sto) : Prop := KComp P call own k tg tst elt env Q ds st
theorem Y_comp (E : XE) (P : Pg) (call : Nat → List D → Sto → Mx D) (own : List Nat) (k : Sk) (srcs : List CE) (tg : Tg) (tst : List CE) (elt : CE) (env : Env) (st : Sto) (Q : D → Sto → Prop) :
    Y E (evE P call (.comp own k srcs tg tst elt) env st) Q ↔ Y E (evL P call srcs env st) (KComp P call own k tg tst elt env Q) := by
  rw [evE]
  refine Y_bdk fun ds st => ?_
  unfold KComp
  constructor
  · rintro ⟨r, st2, h, q⟩
    split at h
    · rename_i ys st3 hl
      cases h
      exact ⟨ys, st3, hl, q⟩
    · cases h
  · rintro ⟨ys, st', h, q⟩
    rw [h]
    exact (Y_newL _ _ _ _).2 q
end Mini

set_option Elab.async false
set_option linter.all false
set_option maxRecDepth 100000
set_option maxHeartbeats 4000000
namespace Mini
/-! ### streams of draws -/
def Sm (o : O) (m : Nat) : Prop := ∃ a b c : Nat, o = .lst [.int a, .int b, .int c] ∧ b < 2000000000000000000 ∧ c ≤ m
theorem Sm.le {o : O} {m m' : Nat} (h : Sm o m) (k : m ≤ m') : Sm o m' := by
  obtain ⟨a, b, c, h1, h2, h3⟩ := h
  exact ⟨a, b, c, h1, h2, by omega⟩
theorem take_fin (st : Sto) (j k : Nat) (x a : Int) (b c m : Nat) (hk : 1 ≤ k) (ha : 0 ≤ a) (hb : b < 2000000000000000000) (hc : c ≤ m) (Q : D → Sto → Prop) (kk : ∀ o' (r : Nat), Sm o' m → r < k → Q (.int r) (st.set j o')) : Q (.int (x % (k : Int))) (st.set j (.lst [.int a, .int b, .int c])) := by
  have e1 := Int.emod_nonneg x (b := (k : Int)) (by omega)
  have e2 := Int.emod_lt_of_pos x (b := (k : Int)) (by omega)
  have := kk (.lst [.int a, .int b, .int c]) (x % (k : Int)).toNat ⟨a.toNat, b, c, by rw [Int.toNat_of_nonneg ha], hb, hc⟩ (by omega)
  rw [Int.toNat_of_nonneg e1] at this
  exact this
theorem take_spec {P : Pg} (h74 : P.fn 74 = some f74) (n : Nat) {st : Sto} {j : Nat} {o : O} {m : Nat} (hj : st[j]? = some o) (ho : Sm o m) (hm : m < 1000000) (k : Nat) (h1 : 1 ≤ k) (h2 : k < 1073741824) (Q : D → Sto → Prop)
    (kk : ∀ o' (r : Nat), Sm o' (m + 1) → r < k → Q (.int r) (st.set j o')) : W (callN P (n + 1) 74 [.obj j, .int (k : Nat)] st) Q := by
  obtain ⟨a, b, c, rfl, hb, hc⟩ := ho
  have hlt : j < st.length := lt_of_get hj
  have g1 : ∀ o, (st.set j o)[j]? = some o := fun o => by rw [List.getElem?_set_self hlt]
  have i0 : ∀ xs : List D, L2.atI xs 0 = xs[0]? := fun xs => atI_nat xs 0
  have i1 : ∀ xs : List D, L2.atI xs 1 = xs[1]? := fun xs => atI_nat xs 1
  have i2 : ∀ xs : List D, L2.atI xs 2 = xs[2]? := fun xs => atI_nat xs 2
  have x0 : L2.ixN 3 0 = some 0 := by decide
  have x2 : L2.ixN 3 2 = some 2 := by decide
  have q1 : (0 : Int) < (k : Int) := by omega
  have q2 : (k : Int) < 1073741824 := by omega
  have q3 : ((b : Int)).natAbs < 18446744073709551616 := by omega
  have q4 : ∀ x : Int, (x % 2305843009213693951).natAbs < 18446744073709551616 := fun x => by omega
  have q5 : (0 : Int) < 2305843009213693951 := by decide
  have q6 : (0 : Int) < 2147483629 := by decide
  have q7 : (0 : Int) < 2147483587 := by decide
  have q8 : (69621 : Int).natAbs < 18446744073709551616 := by decide
  have q9 : (40692 : Int).natAbs < 18446744073709551616 := by decide
  have q10 : ∀ x : Int, (x % 2147483629 + ((c : Int) + 1)).natAbs < 18446744073709551616 := fun x => by omega
  rw [callN, h74]
  by_cases ha : (0 : Int) < (a : Int)
  · simp_arith! only [f74, hj, i0, i1, i2, x0, x2, g1, List.set_set, q1, q2, ha]
    exact take_fin st j k a _ b c (m + 1) h1 (Int.ediv_nonneg (by omega) (by omega)) hb (by omega) Q kk
  · simp_arith! only [f74, hj, i0, i1, i2, x0, x2, g1, List.set_set, q1, q2, q3, q4, q5, q6, q7, q8, q9, q10, true_or, or_true, ha]
    have e : (c : Int) + 1 = ((c + 1 : Nat) : Int) := by omega
    rw [e]
    exact take_fin st j k _ a b (c + 1) (m + 1) h1 (by omega) hb (by omega) Q kk
theorem stream_spec {P : Pg} (h73 : P.fn 73 = some f73) (n : Nat) (ns : List Int) (k : Nat) (hk : k < 100) (st : Sto) (Q : D → Sto → Prop) (kk : ∀ o, Sm o 0 → Q (.obj st.length) (st ++ [o])) : W (callN P (n + 1) 73 [.rol (ns.map .int), .int (k : Nat)] st) Q := by
  have q9 : (0 : Int) ≤ 18 ∧ (18 : Int) ≤ 1000000 ∧ (10 : Int).natAbs < 18446744073709551616 := by decide
  have q8 : (7 : Int).natAbs < 18446744073709551616 := by decide
  have q7 : (10 : Int) ^ (18 : Int).toNat = 1000000000000000000 := by decide
  have q6 : (0 : Int) < 1000000000000000000 := by decide
  have ln : (ns.map D.int).length = ns.length := List.length_map _
  have fin : ∀ z : Int, 0 ≤ z → ∀ y : Int, 0 ≤ y → Q (.obj st.length) (st ++ [.lst [.int y, .int (z % 1000000000000000000 + 7 * (k : Int) + 1), .int 0]]) := by
    intro z hz y hy
    refine kk _ ⟨y.toNat, (z % 1000000000000000000 + 7 * (k : Int) + 1).toNat, 0, ?_, by omega, Nat.le_refl _⟩
    rw [Int.toNat_of_nonneg hy, Int.toNat_of_nonneg (by omega)]
    rfl
  rw [callN, h73]
  by_cases hl : (k : Int) < ((ns.length : Nat) : Int)
  · have e3 : L2.atI (ns.map D.int) (k : Int) = some (.int (ns[k]'(by omega))) := by
      rw [atI_nat, List.getElem?_map, List.getElem?_eq_getElem (by omega)]
      rfl
    generalize ns[k]'(by omega) = z at e3
    have hz : 0 ≤ (if z < 0 then -z else z) := by split <;> omega
    generalize hza : (if z < 0 then -z else z) = za at hz
    by_cases hg : 1000000000000000000 ≤ za
    · simp_arith! only [f73, ln, hl, e3, q9, q8, q7, q6, true_or, or_true, hza, hg]
      exact fin za hz za hz
    · simp_arith! only [f73, ln, hl, e3, q9, q8, q7, q6, true_or, or_true, hza, hg]
      exact fin za hz 0 (by omega)
  · simp_arith! only [f73, ln, hl, q9, q8, q7, q6, true_or, or_true]
    exact fin 0 (by omega) 0 (by omega)
/-! ### the same -/
theorem kb11 : isiD "tuple" ["bool"] = some false := by decide
theorem kb12 : isiD "str" ["tuple"] = some false := by decide
theorem kb13 : isiD "str" ["list"] = some false := by decide
theorem kb14 : isiD "int" ["tuple"] = some false := by decide
theorem kb15 : isiD "int" ["list"] = some false := by decide
theorem kb16 : isiD "bool" ["bool"] = some true := by decide
theorem kb17 : isiD "bool" ["tuple"] = some false := by decide
theorem kb18 : isiD "bool" ["list"] = some false := by decide
theorem kb19 : isiD "bool" ["tuple", "list"] = some false := by decide
/-- data of tuples, texts, numbers, truths -/
inductive Pu : Nat → D → Prop
  | str (N : Nat) (s : S) : Pu (N + 1) (.str s)
  | int (N : Nat) (i : Int) : Pu (N + 1) (.int i)
  | bl (N : Nat) (b : Bool) : Pu (N + 1) (.bl b)
  | tup (N : Nat) (xs : List D) : xs.length ≤ 100000 → (∀ x ∈ xs, Pu N x) → Pu (N + 1) (.tup xs)
theorem bools_true : ∀ n : Nat, boolsD (List.replicate n (.bl true)) = some (List.replicate n true)
  | 0 => rfl
  | n + 1 => by
    rw [List.replicate_succ, boolsD, bools_true n]
    rfl
theorem same2_refl {P : Pg} (h75 : P.fn 75 = some f75) : ∀ (N : Nat) (d : D), Pu N d → ∀ (n : Nat) (st : Sto), N + 1 ≤ n → ∀ Q : D → Sto → Prop, (∀ g : Sto, Q (.bl true) (st ++ g)) → W (callN P n 75 [d, d] st) Q := by
  intro N
  induction N with
  | zero =>
    intro d h
    cases h
  | succ N ih =>
    intro d h n st hn Q k
    obtain ⟨n, rfl⟩ : ∃ m, n = m + 1 := ⟨n - 1, by omega⟩
    have k0 : Q (.bl true) st := by
      have := k []
      rwa [List.append_nil] at this
    cases h with
    | str N s =>
      rw [callN, h75]
      simp_arith! only [f75, kb12, kb13, kb4, kb6]
      exact k0
    | int N i =>
      rw [callN, h75]
      simp_arith! only [f75, kb14, kb15, kb5, kb7]
      exact k0
    | bl N b =>
      rw [callN, h75]
      simp_arith! only [f75, kb17, kb18, kb19, kb16]
      exact k0
    | tup N xs hl hx =>
      rw [callN, h75]
      simp_arith only [f75, kb1, kb2, kb3]
      refine kcomp (zipL xs xs) (fun j acc st' => ∃ g, st' = st ++ g ∧ acc = List.replicate j (.bl true)) ?_ ?_ ⟨[], by simp, rfl⟩ ?_ ?_ ?_
      · have : (zipL xs xs).length ≤ xs.length := by
          clear hl hx
          induction xs with
          | nil => simp [zipL]
          | cons x xs ih => simp [zipL]; exact ih
        omega
      · intro i acc st' _ _
        rfl
      · rintro i acc st' ⟨g, rfl, rfl⟩ _
        simp
      · rintro i x acc st' hx2 hi ⟨g, rfl, rfl⟩
        have hz : ∃ y, y ∈ xs ∧ x = .tup [y, y] := by
          have zz : ∀ (l : List D) (i : Nat), (zipL l l)[i]? = some x → ∃ y, y ∈ l ∧ x = .tup [y, y] := by
            intro l
            induction l with
            | nil => intro i h; simp [zipL] at h
            | cons a l ih =>
              intro i h
              cases i with
              | zero =>
                simp [zipL] at h
                exact ⟨a, by simp, h.symm⟩
              | succ i =>
                simp [zipL] at h
                obtain ⟨y, h1, h2⟩ := ih i h
                exact ⟨y, by simp [h1], h2⟩
          exact zz xs i hx2
        obtain ⟨y, hy, rfl⟩ := hz
        have hnex : ∀ st, nex y st = some (.ok y, st) := by
          intro st
          have := hx y hy
          cases this <;> rfl
        refine ⟨_, rfl, ?_⟩
        simp_arith! only [W_call _ _ h75, hnex]
        refine ih y (hx y hy) n _ (by omega) _ fun g2 => ⟨g ++ g2, by simp, ?_⟩
        exact (List.replicate_succ').symm
      · rintro ys st' ⟨g, rfl, rfl⟩ hy
        simp_arith! only [last_at, bools_true]
        have : (List.replicate (zipL xs xs).length true).all id = true := by simp
        rw [this]
        have := k (g ++ [.lst (List.replicate (zipL xs xs).length (.bl true))])
        rw [← List.append_assoc] at this
        exact this
end Mini

set_option Elab.async false
set_option linter.all false
set_option maxRecDepth 100000
set_option maxHeartbeats 4000000
namespace Mini
theorem sj_get {st : Sto} {j : Nat} (h : j < st.length) (o : O) (g : Sto) : (st.set j o ++ g)[j]? = some o := by
  rw [List.getElem?_append_left (by rw [List.length_set]; exact h), List.getElem?_set_self h]
theorem sj_set {st : Sto} {j : Nat} (h : j < st.length) (o o' : O) (g : Sto) : (st.set j o ++ g).set j o' = st.set j o' ++ g := by
  rw [List.set_append_left _ _ (by rw [List.length_set]; exact h), List.set_set]
theorem sl_get (st : Sto) (j : Nat) (o x : O) (g : Sto) : (st.set j o ++ (x :: g))[st.length]? = some x := by
  have := mid_at (st.set j o) g x
  rw [List.length_set] at this
  exact this
theorem sl_set (st : Sto) (j : Nat) (o x y : O) (g : Sto) : (st.set j o ++ (x :: g)).set st.length y = st.set j o ++ (y :: g) := by
  have := mid_set (st.set j o) g x y
  rw [List.length_set] at this
  exact this
theorem sl_new (st : Sto) (j : Nat) (o x y : O) (g : Sto) : st.set j o ++ (x :: g) ++ [y] = st.set j o ++ (x :: (g ++ [y])) := by simp
theorem sl_lst (st : Sto) (j : Nat) (o x y : O) (g : Sto) : (st.set j o ++ (x :: (g ++ [y])))[(st.set j o ++ (x :: g)).length]? = some y := by
  rw [← sl_new]
  exact last_at _ _
theorem pick {xs : List S} {r : Nat} (h : r < xs.length) : ∃ s, L2.atI (xs.map D.str) (r : Int) = some (.str s) ∧ s ∈ xs := by
  refine ⟨xs[r], ?_, List.getElem_mem h⟩
  rw [atI_nat, List.getElem?_map, List.getElem?_eq_getElem h]
  rfl
def lin9 : List S := [[120, 59], [], [35, 32, 114], [35, 60, 120], [32, 35, 60], [35, 61, 32], [35, 62, 35], [35, 35, 60], reps [114] 2001]
def lin3 : List S := [[35, 60], [35, 61], [35, 62]]
theorem sumLen_le (b B : Nat) : ∀ ls : List S, (∀ l ∈ ls, l.length ≤ B) → sumLen b ls ≤ ls.length * (B + b)
  | [], _ => by simp [sumLen]
  | l :: ls, h => by
    have := sumLen_le b B ls fun x hx => h x (by simp [hx])
    have := h l (by simp)
    rw [sumLen, List.length_cons, Nat.add_mul]
    omega
theorem joinS_le (sep : S) : ∀ ss : List S, (joinS sep ss).length ≤ sumLen sep.length ss := joinS_len sep
theorem text73_spec {P : Pg} (h74 : P.fn 74 = some f74) (h76 : P.fn 76 = some f76) (n : Nat) {st : Sto} {j : Nat} {o : O} {m : Nat} (hj : st[j]? = some o) (ho : Sm o m) (hm : m < 900000) (Q : D → Sto → Prop)
    (kk : ∀ o' g (t : S), Sm o' (m + 40) → t.length ≤ 100000 → Q (.str t) (st.set j o' ++ g)) : W (callN P (n + 2) 76 [.obj j] st) Q := by
  have hlt : j < st.length := lt_of_get hj
  have hst0 : st.set j o = st := by
    have e : st[j] = o := by
      have := List.getElem?_eq_getElem hlt
      rw [hj] at this
      exact (Option.some.inj this).symm
    rw [← e]
    exact List.set_getElem_self hlt
  rw [callN, h76]
  simp_arith [f76]
  rw [KLst_ap]
  refine ⟨by unfold LN; simp, ?_⟩
  simp_arith []
  rw [QC_nx]
  simp_arith []
  rw [QC_nx]
  simp_arith [W_call _ _ h74]
  have e0 : st ++ [O.lst []] = st.set j o ++ (O.lst (([] : List S).map D.str) :: []) := by rw [hst0]; rfl
  rw [e0]
  refine take_spec h74 n (sj_get hlt _ _) ho (by omega) 13 (by omega) (by omega) _ ?_
  intro o1 r1 ho1 hr1
  rw [sj_set hlt]
  simp_arith []
  have d9 : ∀ l ∈ lin9, l.length ≤ 2001 := by
    intro l hl
    unfold lin9 at hl
    simp only [List.mem_cons, List.not_mem_nil, or_false] at hl
    rcases hl with rfl | rfl | rfl | rfl | rfl | rfl | rfl | rfl | rfl <;> first | (rw [reps_len]; omega) | decide
  have d3 : ∀ l ∈ lin3, l.length ≤ 2001 := by
    intro l hl
    unfold lin3 at hl
    simp only [List.mem_cons, List.not_mem_nil, or_false] at hl
    rcases hl with rfl | rfl | rfl <;> decide
  refine kfor (rngL 0 r1) (fun i env st' => ∃ (o' : O) (ls : List S) (g : Sto) (s : Nat) (e3 e4 : Option D), st' = st.set j o' ++ (O.lst (ls.map D.str) :: g) ∧ Sm o' (m + 1 + 2 * i) ∧ (∀ l ∈ ls, l.length ≤ 2001) ∧ ls.length ≤ i ∧ s < 3 ∧ env = [some (.obj j), some (.obj st.length), some (.int (s : Nat)), e3, e4]) (by rw [rngL_lenth]; omega) (fun _ _ st' _ _ => walked_rng r1 (by omega) st') ⟨o1, [], [], 0, none, none, rfl, ho1, by simp, by simp, by omega, rfl⟩ ?_ ?_
  · rintro i x env st' hx hi ⟨o', ls, g, s, e3, e4, rfl, ho', hls, hln, hs, rfl⟩
    rw [rngL_lenth] at hi
    have := rngL_at hx
    subst this
    have hla : (ls.map D.str).length < LN := by
      rw [List.length_map]
      unfold LN
      omega
    refine ⟨_, rfl, ?_⟩
    simp_arith [W_call _ _ h74]
    refine take_spec h74 n (sj_get hlt _ _) ho' (by omega) 10 (by omega) (by omega) _ ?_
    intro o2 r2 ho2 hr2
    rw [sj_set hlt]
    simp_arith []
    rw [QC_nx]
    simp_arith []
    rw [QI_ap]
    have push : ∀ (o3 : O) (g3 : Sto) (l : S) (s' : Nat) (e4 : Option D), Sm o3 (m + 1 + 2 * i + 2) → l.length ≤ 2001 → s' < 3 → ∃ (o' : O) (ls' : List S) (g : Sto) (s : Nat) (e3 e5 : Option D), st.set j o3 ++ (O.lst (ls.map D.str ++ [.str l]) :: g3) = st.set j o' ++ (O.lst (ls'.map D.str) :: g) ∧ Sm o' (m + 1 + 2 * (i + 1)) ∧ (∀ l ∈ ls', l.length ≤ 2001) ∧ ls'.length ≤ i + 1 ∧ s < 3 ∧ [some (D.obj j), some (.obj st.length), some (.int (s' : Nat)), some (.int (i : Nat)), e4] = [some (.obj j), some (.obj st.length), some (.int (s : Nat)), e3, e5] := by
      intro o3 g3 l s' e4 h1 h2 h3
      refine ⟨o3, ls ++ [l], g3, s', _, _, by simp, h1.le (by omega), ?_, by simp; omega, h3, rfl⟩
      intro y hy
      rcases List.mem_append.mp hy with hy | hy
      · exact hls y hy
      · rw [List.mem_singleton.mp hy]
        exact h2
    refine ⟨fun _ => ?_, fun _ => ?_⟩
    · have hr1 : okRep 1 2001 = true := by decide
      simp_arith [sl_get, hr1]
      rw [KLst_ap]
      refine ⟨by unfold LN; simp, ?_⟩
      rw [sl_new]
      simp_arith [W_call _ _ h74]
      refine take_spec h74 n (sj_get hlt _ _) ho2 (by omega) 9 (by omega) (by omega) _ ?_
      intro o3 r3 ho3 hr3
      rw [sj_set hlt]
      obtain ⟨l, hl, hl2⟩ := pick (xs := lin9) (r := r3) hr3
      have hnew := sl_lst st j o3 (O.lst (ls.map D.str)) (O.lst (lin9.map D.str)) g
      have hlen : (st.set j o3 ++ (O.lst (ls.map D.str) :: g)).length = (st.set j o2 ++ (O.lst (ls.map D.str) :: g)).length := by simp
      rw [hlen] at hnew
      have hnew' : (st.set j o3 ++ O.lst (ls.map D.str) :: (g ++ [O.lst [D.str [120, 59], D.str [], D.str [35, 32, 114], D.str [35, 60, 120], D.str [32, 35, 60], D.str [35, 61, 32], D.str [35, 62, 35], D.str [35, 35, 60], D.str (reps [114] (2001 : Int).toNat)]]))[(st.set j o2 ++ O.lst (ls.map D.str) :: g).length]? = some (O.lst (lin9.map D.str)) := hnew
      generalize (g ++ [O.lst [D.str [120, 59], D.str [], D.str [35, 32, 114], D.str [35, 60, 120], D.str [32, 35, 60], D.str [35, 61, 32], D.str [35, 62, 35], D.str [35, 35, 60], D.str (reps [114] (2001 : Int).toNat)]]) = g3 at hnew' ⊢
      simp_arith! only [hnew', hl, sl_get, hla, sl_set]
      exact push o3 g3 l s _ (ho3.le (by omega)) (d9 l hl2) hs
    · simp_arith [sl_get]
      rw [QI_ap]
      refine ⟨fun _ => ?_, fun _ => ?_⟩
      · simp_arith [sl_get]
        rw [KLst_ap]
        refine ⟨by unfold LN; simp, ?_⟩
        rw [sl_new]
        obtain ⟨l, hl, hl2⟩ := pick (xs := lin3) (r := s) hs
        have hnew := sl_lst st j o2 (O.lst (ls.map D.str)) (O.lst (lin3.map D.str)) g
        have hnew' : (st.set j o2 ++ O.lst (ls.map D.str) :: (g ++ [O.lst [D.str [35, 60], D.str [35, 61], D.str [35, 62]]]))[(st.set j o2 ++ O.lst (ls.map D.str) :: g).length]? = some (O.lst (lin3.map D.str)) := hnew
        generalize (g ++ [O.lst [D.str [35, 60], D.str [35, 61], D.str [35, 62]]]) = g3 at hnew' ⊢
        have q1 : (0 : Int) < 3 := by decide
        simp_arith! only [hnew', hl, sl_get, hla, sl_set, q1]
        have e : ((s : Int) + 1) % 3 = (((s + 1) % 3 : Nat) : Int) := by omega
        rw [e]
        exact push o2 g3 l ((s + 1) % 3) _ (ho2.le (by omega)) (d3 l hl2) (by omega)
      · simp_arith [sl_get]
        rw [KLst_ap]
        refine ⟨by unfold LN; simp, ?_⟩
        rw [sl_new]
        simp_arith [W_call _ _ h74]
        refine take_spec h74 n (sj_get hlt _ _) ho2 (by omega) 3 (by omega) (by omega) _ ?_
        intro o3 r3 ho3 hr3
        rw [sj_set hlt]
        obtain ⟨l, hl, hl2⟩ := pick (xs := lin3) (r := r3) hr3
        have hnew := sl_lst st j o3 (O.lst (ls.map D.str)) (O.lst (lin3.map D.str)) g
        have hlen : (st.set j o3 ++ (O.lst (ls.map D.str) :: g)).length = (st.set j o2 ++ (O.lst (ls.map D.str) :: g)).length := by simp
        rw [hlen] at hnew
        have hnew' : (st.set j o3 ++ O.lst (ls.map D.str) :: (g ++ [O.lst [D.str [35, 60], D.str [35, 61], D.str [35, 62]]]))[(st.set j o2 ++ O.lst (ls.map D.str) :: g).length]? = some (O.lst (lin3.map D.str)) := hnew
        generalize (g ++ [O.lst [D.str [35, 60], D.str [35, 61], D.str [35, 62]]]) = g3 at hnew' ⊢
        simp_arith! only [hnew', hl, sl_get, hla, sl_set]
        exact push o3 g3 l s _ (ho3.le (by omega)) (d3 l hl2) hs
  · rintro env st' ⟨o', ls, g, s, e3, e4, rfl, ho', hls, hln, hs, rfl⟩
    rw [rngL_lenth] at ho' hln
    -- the end: the text
    have fin : ∀ (o4 : O) (ls4 : List S) (g4 : Sto) (e3 e4 : Option D), Sm o4 (m + 30) → (∀ l ∈ ls4, l.length ≤ 2001) → ls4.length ≤ 20 → WS (evSs P (callN P (n + 1)) [CS.ret (CE.bin PySem.Operator.Add (CE.mth .join (.str [10]) [.var 1]) (CE.bin PySem.Operator.Mult (.str [10]) (.call 74 [.var 0, .int 2])))] [some (D.obj j), some (D.obj st.length), some (D.int (s : Nat)), e3, e4] (st.set j o4 ++ (O.lst (ls4.map D.str) :: g4))) (QR Q) := by
      intro o4 ls4 g4 e3 e4 h1 h2 h3
      have hsum : sumLen 1 ls4 ≤ 50000 := by
        have := sumLen_le 1 2001 ls4 h2
        omega
      have hsum2 : sumLen 1 ls4 ≤ LN := by unfold LN; omega
      simp_arith [sl_get, strs_all, hsum2, W_call _ _ h74]
      refine take_spec h74 n (sj_get hlt _ _) h1 (by omega) 2 (by omega) (by omega) _ ?_
      intro o5 r5 ho5 hr5
      rw [sj_set hlt]
      have hr : okRep 1 (r5 : Int) = true := okRep1 _ (by omega) (by omega)
      have hj2 := joinS_le [10] ls4
      have hln2 : (joinS [10] ls4).length + (reps [10] ((r5 : Int)).toNat).length ≤ LN := by
        rw [reps_len]
        simp at hj2
        unfold LN
        omega
      simp_arith! only [hr, hln2]
      refine kk o5 _ _ (ho5.le (by omega)) ?_
      rw [List.length_append, reps_len]
      simp at hj2
      omega
    rw [QC_nx]
    simp_arith [W_call _ _ h74]
    refine ⟨fun hs0 => ?_, fun _ => ?_⟩
    · refine take_spec h74 n (sj_get hlt _ _) ho' (by omega) 4 (by omega) (by omega) _ ?_
      intro o2 r2 ho2 hr2
      rw [sj_set hlt]
      simp_arith []
      rw [QI_ap]
      refine ⟨fun _ => ?_, fun _ => ?_⟩
      · simp_arith [sl_get]
        rw [KLst_ap]
        refine ⟨by unfold LN; simp, ?_⟩
        rw [sl_new]
        have hnew := sl_lst st j o2 (O.lst (ls.map D.str)) (O.lst [D.str [35, 60], D.str [121, 59], D.str [35, 61], D.str [122, 59], D.str [35, 62]]) g
        generalize hg3 : (g ++ [O.lst [D.str [35, 60], D.str [121, 59], D.str [35, 61], D.str [122, 59], D.str [35, 62]]]) = g3 at hnew ⊢
        have q8 : (2 : Int).natAbs < 18446744073709551616 := by decide
        simp_arith [hnew, q8, true_or]
        rw [W_newL, sl_new]
        have hcut : ∃ l4 : List S, cut [D.str [35, 60], D.str [121, 59], D.str [35, 61], D.str [122, 59], D.str [35, 62]] (some (2 * (s : Int))) none = l4.map D.str ∧ (∀ l ∈ l4, l.length ≤ 2001) ∧ l4.length ≤ 5 := by
          have h3 : s = 0 ∨ s = 1 ∨ s = 2 := by omega
          rcases h3 with rfl | rfl | rfl
          · exact ⟨[[35, 60], [121, 59], [35, 61], [122, 59], [35, 62]], rfl, by decide, by decide⟩
          · exact ⟨[[35, 61], [122, 59], [35, 62]], rfl, by decide, by decide⟩
          · exact ⟨[[35, 62]], rfl, by decide, by decide⟩
        obtain ⟨l4, c1, c2, c3⟩ := hcut
        rw [c1]
        have hnew2 := sl_lst st j o2 (O.lst (ls.map D.str)) (O.lst (l4.map D.str)) g3
        generalize (g3 ++ [O.lst (l4.map D.str)]) = g4 at hnew2 ⊢
        have hle : (ls.map D.str).length + (l4.map D.str).length ≤ LN := by
          rw [List.length_map, List.length_map]
          unfold LN
          omega
        simp_arith [sl_get, hnew2, hle, sl_set]
        rw [QC_nx]
        have := fin o2 (ls ++ l4) g4 e3 e4 (ho2.le (by omega)) (fun l hl => (List.mem_append.mp hl).elim (hls l) (c2 l)) (by rw [List.length_append]; omega)
        rw [List.map_append] at this
        exact this
      · simp_arith []
        rw [QC_nx]
        exact fin _ _ _ _ _ (ho2.le (by omega)) hls (by omega)
    · rw [QI_ap]
      refine ⟨fun h => absurd h (by decide), fun _ => ?_⟩
      simp_arith []
      rw [QC_nx]
      exact fin _ _ _ _ _ (ho'.le (by omega)) hls (by omega)
end Mini

set_option Elab.async false
set_option linter.all false
set_option maxRecDepth 100000
set_option maxHeartbeats 4000000
local macro_rules | `(tactic| dsimp! [$xs:simpLemma,*] $[$l:location]?) => `(tactic| simp only [Mini.startE, Mini.asgT, Mini.asgTs, Mini.wipeE, Mini.preM, Mini.mthD, Mini.bltD, Mini.binD, Mini.augD, Mini.cmpD, Mini.subD, Mini.slcD, Mini.slcW, Mini.negD, Mini.stsubD, Mini.optI, Mini.truD, Mini.items, Mini.litems, Mini.inD_sign, Mini.inD_strs, Mini.typD, List.length_cons, List.length_nil, List.map_cons, List.map_nil, List.replicate_succ, List.replicate_zero, List.cons_append, List.nil_append, List.getElem?_cons_zero, List.getElem?_cons_succ, List.set_cons_zero, List.set_cons_succ, Nat.reduceAdd, Nat.reduceSub, Nat.zero_add, Nat.add_zero, Nat.sub_self, Option.map_some, Option.map_none, Option.bind_some, Option.bind_none, Option.isSome_some, if_true, if_false, ite_true, ite_false, and_self, and_true, true_and, Mini.eqD_str, Mini.eqD_int, Mini.eqD_bl, Bool.not_true, Bool.not_false, Bool.false_eq_true, decide_true, decide_false, reduceIte, reduceCtorEq, decide_eq_true_eq, Mini.Y_ok, Mini.Y_none, imp_false, Classical.not_not, Mini.Y_opt, Mini.Y_ite, Mini.YS_some, Mini.YS_nil, Mini.YS_cons, Mini.YS_ifeT, Mini.YS_ite, Mini.RC_nil, Mini.RC_rt, Mini.RC_bk, Mini.RC_ct, Mini.Y_ret, Mini.RR_nx, Mini.RR_rt, true_imp_iff, false_imp_iff, not_true_eq_false, not_false_eq_true, imp_self, forall_const, ne_eq, Mini.E_var, Mini.nex_non, Mini.nex_bl, Mini.nex_int, Mini.nex_str, Mini.nex_tup, Mini.nex_rol, Mini.nex_obj, Mini.nex_ty, Mini.nex_glo, Mini.nex_cdt, Mini.E_int, Mini.E_bl, Mini.E_str, Mini.E_non, Mini.E_glo, Mini.Y_bin, Mini.LBin1_ap, Mini.LBin2_ap, Mini.Y_cmp, Mini.LCmp1_ap, Mini.LCmp2_ap, Mini.Y_not, Mini.LNot_ap, Mini.Y_neg, Mini.LNeg_ap, Mini.Y_and, Mini.LAnd_nil, Mini.LAnd_bl, Mini.Y_or, Mini.LOr_nil, Mini.LOr_bl, Mini.Y_T, Mini.LT_ap, Mini.Y_iteE, Mini.LIte_ap, Mini.Y_L0, Mini.Y_L, Mini.LL_ap, Mini.KC_ap, Mini.Y_tup, Mini.KTup_ap, Mini.Y_lst, Mini.Y_sub, Mini.LSub1_ap, Mini.LSub2_ap, Mini.Y_slc, Mini.LSlc1_ap, Mini.LSlc2_ap, Mini.LSlc3_ap, Mini.LCall_ap, Mini.Y_blt, Mini.LBlt_ap, Mini.Y_isi, Mini.LIsi_ap, Mini.Y_mth, Mini.LMth1_ap, Mini.LMth2_ap, Mini.Y_Ts0, Mini.Y_Ts1, Mini.YS_expr, Mini.KExpr_ap, Mini.YS_set, Mini.KSet_ap, Mini.QE_some, Mini.YS_tgt, Mini.KTgt_ap, Mini.QO_some, Mini.YS_stsub, Mini.LSt1_ap, Mini.LSt2_ap, Mini.KSt3_ap, Mini.YS_aug, Mini.LAug_ap, Mini.YS_ret, Mini.KRet_ap, Mini.YS_retN, Mini.YS_pass, Mini.YS_brk, Mini.YS_cont, Mini.YS_forr, Mini.Y_comp, Mini.ln0, Mini.ln1, Mini.ln2, Mini.ln3, Mini.ln4, Mini.ln5, Mini.ln6, Mini.ln7, Mini.ln8, Mini.ln9, Mini.ln10, Mini.ln11, Mini.ln12, Mini.ln13, Mini.ln14, Mini.ln15, Mini.ln16, Mini.ln17, Mini.ln18, Mini.ln19, Mini.ln20, Mini.lm0, Mini.lm1, Mini.lm2, Mini.lm3, Mini.lm4, Mini.lm5, Mini.lm6, Mini.lm7, Mini.lm8, Mini.lm9, Mini.lm10, Mini.lm11, Mini.lm12, Mini.lm13, Mini.lm14, Mini.lm15, Mini.lm16, Mini.lm17, Mini.lm18, Mini.lm19, Mini.lm20, Int.reduceEq, Int.reduceLT, Int.reduceLE, Int.reduceMod, Int.reduceSub, Int.reduceAdd, Int.reduceMul, Mini.RC_exc, Mini.RR_exc, Mini.QX_ap, Mini.Y_fld, Mini.LFld_ap, Mini.Y_dct, Mini.LDct_ap, Mini.dctW, Mini.pairsD, Mini.keyD, Mini.LTix_ap, Mini.tixW, Mini.YS_par, Mini.LPar1_ap, Mini.LPar2_ap, Mini.YS_fset, Mini.LFs1_ap, Mini.LFs2_ap, Mini.YS_sau, Mini.LSa0_ap, Mini.LSa1_ap, Mini.LSa2_ap, Mini.LSa3_ap, Mini.RH_nx, Mini.RH_rt, Mini.RSn_rt, Mini.RSn_nx, Mini.RSi_rt, Mini.RSi_nx, Mini.YS_hs0, Mini.LRs_ap, Mini.getL, $xs,*] $[$l:location]?)
local macro_rules | `(tactic| simp! only [$xs:simpLemma,*] $[$l:location]?) => `(tactic| simp only [Mini.startE, Mini.asgT, Mini.asgTs, Mini.wipeE, Mini.preM, Mini.mthD, Mini.bltD, Mini.binD, Mini.augD, Mini.cmpD, Mini.subD, Mini.slcD, Mini.slcW, Mini.negD, Mini.stsubD, Mini.optI, Mini.truD, Mini.items, Mini.litems, Mini.inD_sign, Mini.inD_strs, Mini.typD, List.length_cons, List.length_nil, List.map_cons, List.map_nil, List.replicate_succ, List.replicate_zero, List.cons_append, List.nil_append, List.getElem?_cons_zero, List.getElem?_cons_succ, List.set_cons_zero, List.set_cons_succ, Nat.reduceAdd, Nat.reduceSub, Nat.zero_add, Nat.add_zero, Nat.sub_self, Option.map_some, Option.map_none, Option.bind_some, Option.bind_none, Option.isSome_some, if_true, if_false, ite_true, ite_false, and_self, and_true, true_and, Mini.eqD_str, Mini.eqD_int, Mini.eqD_bl, Bool.not_true, Bool.not_false, Bool.false_eq_true, decide_true, decide_false, reduceIte, reduceCtorEq, decide_eq_true_eq, Mini.Y_ok, Mini.Y_none, imp_false, Classical.not_not, Mini.Y_opt, Mini.Y_ite, Mini.Y_newL, Mini.YS_some, Mini.YS_nil, Mini.YS_cons, Mini.YS_ifeT, Mini.RI_ap, Mini.YS_ite, Mini.RC_nx, Mini.RC_nil, Mini.RC_rt, Mini.RC_bk, Mini.RC_ct, Mini.Y_ret, Mini.RR_nx, Mini.RR_rt, true_imp_iff, false_imp_iff, not_true_eq_false, not_false_eq_true, imp_self, forall_const, ne_eq, Mini.E_var, Mini.nex_non, Mini.nex_bl, Mini.nex_int, Mini.nex_str, Mini.nex_tup, Mini.nex_rol, Mini.nex_obj, Mini.nex_ty, Mini.nex_glo, Mini.nex_cdt, Mini.E_int, Mini.E_bl, Mini.E_str, Mini.E_non, Mini.E_glo, Mini.Y_bin, Mini.LBin1_ap, Mini.LBin2_ap, Mini.Y_cmp, Mini.LCmp1_ap, Mini.LCmp2_ap, Mini.Y_not, Mini.LNot_ap, Mini.Y_neg, Mini.LNeg_ap, Mini.Y_and, Mini.LAnd_nil, Mini.LAnd_bl, Mini.Y_or, Mini.LOr_nil, Mini.LOr_bl, Mini.Y_T, Mini.LT_ap, Mini.Y_iteE, Mini.LIte_ap, Mini.Y_L0, Mini.Y_L, Mini.LL_ap, Mini.KC_ap, Mini.Y_tup, Mini.KTup_ap, Mini.Y_lst, Mini.KLst_ap, Mini.Y_sub, Mini.LSub1_ap, Mini.LSub2_ap, Mini.Y_slc, Mini.LSlc1_ap, Mini.LSlc2_ap, Mini.LSlc3_ap, Mini.LCall_ap, Mini.Y_blt, Mini.LBlt_ap, Mini.Y_isi, Mini.LIsi_ap, Mini.Y_mth, Mini.LMth1_ap, Mini.LMth2_ap, Mini.Y_Ts0, Mini.Y_Ts1, Mini.YS_expr, Mini.KExpr_ap, Mini.YS_set, Mini.KSet_ap, Mini.QE_some, Mini.YS_tgt, Mini.KTgt_ap, Mini.QO_some, Mini.YS_stsub, Mini.LSt1_ap, Mini.LSt2_ap, Mini.KSt3_ap, Mini.YS_aug, Mini.LAug_ap, Mini.YS_ret, Mini.KRet_ap, Mini.YS_retN, Mini.YS_pass, Mini.YS_brk, Mini.YS_cont, Mini.YS_forr, Mini.Y_comp, Mini.ln0, Mini.ln1, Mini.ln2, Mini.ln3, Mini.ln4, Mini.ln5, Mini.ln6, Mini.ln7, Mini.ln8, Mini.ln9, Mini.ln10, Mini.ln11, Mini.ln12, Mini.ln13, Mini.ln14, Mini.ln15, Mini.ln16, Mini.ln17, Mini.ln18, Mini.ln19, Mini.ln20, Mini.lm0, Mini.lm1, Mini.lm2, Mini.lm3, Mini.lm4, Mini.lm5, Mini.lm6, Mini.lm7, Mini.lm8, Mini.lm9, Mini.lm10, Mini.lm11, Mini.lm12, Mini.lm13, Mini.lm14, Mini.lm15, Mini.lm16, Mini.lm17, Mini.lm18, Mini.lm19, Mini.lm20, Int.reduceEq, Int.reduceLT, Int.reduceLE, Int.reduceMod, Int.reduceSub, Int.reduceAdd, Int.reduceMul, Mini.RC_exc, Mini.RR_exc, Mini.QX_ap, Mini.Y_fld, Mini.LFld_ap, Mini.Y_dct, Mini.LDct_ap, Mini.dctW, Mini.pairsD, Mini.keyD, Mini.LTix_ap, Mini.tixW, Mini.YS_par, Mini.LPar1_ap, Mini.LPar2_ap, Mini.YS_fset, Mini.LFs1_ap, Mini.LFs2_ap, Mini.YS_sau, Mini.LSa0_ap, Mini.LSa1_ap, Mini.LSa2_ap, Mini.LSa3_ap, Mini.RH_nx, Mini.RH_rt, Mini.RSn_rt, Mini.RSn_nx, Mini.RSi_rt, Mini.RSi_nx, Mini.YS_hs0, Mini.LRs_ap, Mini.getL, $xs,*] $[$l:location]?)
namespace Mini
/-! ### marks (k73) -/
def sg (n i : Nat) (l : S) : S := l ++ reps [10] (if i + 1 < n then 1 else 0)
def resF (n : Nat) : Nat → Nat → S → S → List S → Sum Nat (S × S)
  | _, s, a, b, [] => if s = 0 then .inr (a, b) else .inl n
  | i, s, a, b, l :: r => match idxS l lin3 with
    | some k => if k = s then resF n (i + 1) ((s + 1) % 3) a b r else .inl i
    | none => resF n (i + 1) s (if s = 2 then a else a ++ sg n i l) (if s = 1 then b else b ++ sg n i l) r
def res73 (t : S) : Sum Nat (S × S) := resF (splitS 10 [] t).length 0 0 [] [] (splitS 10 [] t)
def resD : Sum Nat (S × S) → D
  | .inl k => .int (k : Nat)
  | .inr p => .tup [.str p.1, .str p.2]
theorem split_tot (c : Nat) : ∀ (l acc : S), ((splitS c acc l).map fun s => s.length + 1).sum = acc.length + l.length + 1
  | [], acc => by simp [splitS]
  | x :: r, acc => by
    rw [splitS]
    split
    · rw [List.map_cons, List.sum_cons, split_tot c r []]
      simp
      omega
    · rw [split_tot c r (acc ++ [x])]
      simp
      omega
theorem tot_len : ∀ (ls : List S), ls.length ≤ (ls.map fun s => s.length + 1).sum
  | [] => by simp
  | l :: ls => by
    have := tot_len ls
    simp
    omega
theorem idx_mem (l : S) : (l ∈ lin3) ↔ (idxS l lin3).isSome = true := by
  unfold lin3
  simp only [idxS, List.mem_cons, List.not_mem_nil, or_false]
  by_cases h1 : [35, 60] = l
  · subst h1; simp
  · by_cases h2 : [35, 61] = l
    · subst h2; simp
    · by_cases h3 : [35, 62] = l
      · subst h3; simp
      · simp [h1, h2, h3, Ne.symm h1, Ne.symm h2, Ne.symm h3]
theorem inD_i2 (st : Sto) (x a b : Int) : inD st (.int x) (.tup [.int a, .int b]) = some (a == x || b == x) := by simp [inD, items, flatD, eqF]
theorem sum_drop (ls : List S) (i : Nat) (l : S) (h : ls[i]? = some l) : ((ls.drop i).map fun s => s.length + 1).sum = l.length + 1 + ((ls.drop (i + 1)).map fun s => s.length + 1).sum := by
  have hi := lt_of_get h
  rw [List.drop_eq_getElem_cons hi, List.map_cons, List.sum_cons]
  rw [List.getElem?_eq_getElem hi] at h
  cases h
  rfl
structure HasM (P : Pg) : Prop where
  h1 : P.fn 1 = some f1
  h72 : P.fn 72 = some f72
  h77 : P.fn 77 = some f77
  h78 : P.fn 78 = some f78
  g80 : P.gl 80 = some (.tup (lin3.map .str))
  x50 : P.xf 50 = some []
  x81 : P.xf 81 = some [100000]
  s1 : P.sub 81 81 = some true
  s2 : P.sub 81 49 = some true
  s3 : P.sub 81 50 = some false
  hc : P.hcl 81 = true
theorem isText_spec {P : Pg} (h1 : P.fn 1 = some f1) (n : Nat) (t : S) (st : Sto) (E : XE) (Q : D → Sto → Prop) (k : Q (.bl true) st) : Y E (callN P (n + 1) 1 [.str t] st) Q := by
  rw [callN, h1]
  simp! only [f1, kb8]
  exact k
theorem sides_spec {P : Pg} (H : HasM P) (n : Nat) (t : S) (st : Sto) (hl : t.length ≤ 100000) (E : XE) (Q : D → Sto → Prop) (kok : ∀ a b g, res73 t = .inr (a, b) → Q (.tup [.str a, .str b]) (st ++ g)) (kex : ∀ (k : Nat) g, res73 t = .inl k → E 81 [.int (k : Nat)] (st ++ g)) :
    Y E (callN P (n + 2) 72 [.str t] st) Q := by
  have i0 : ∀ xs : List D, L2.atI xs 0 = xs[0]? := fun xs => atI_nat xs 0
  have i1 : ∀ xs : List D, L2.atI xs 1 = xs[1]? := fun xs => atI_nat xs 1
  have hsp : t.length + 2 ≤ LN ∧ 10 < 256 := by unfold LN; omega
  have htot := split_tot 10 t []
  have hlen := tot_len (splitS 10 [] t)
  simp at htot
  rw [callN, H.h72]
  dsimp! [f72, Y_call _ _ _ H.h1]
  refine isText_spec H.h1 n t st _ _ ?_
  dsimp! []
  rw [RI_ap]
  refine ⟨fun h => absurd h (by decide), fun _ => ?_⟩
  dsimp! []
  rw [RC_nx]
  dsimp! [hsp]
  rw [Y_newL]
  dsimp! []
  rw [RC_nx]
  dsimp! []
  rw [KLst_ap]
  refine ⟨by unfold LN; simp, ?_⟩
  dsimp! []
  rw [RC_nx]
  dsimp! []
  rw [RC_nx]
  dsimp! []
  generalize hls : splitS 10 [] t = ls at *
  have hS : st ++ [O.lst (ls.map D.str)] ++ [O.lst [D.str [], D.str []]] = st ++ [O.lst (ls.map D.str), O.lst [D.str [], D.str []]] := by simp
  have hL : (st ++ [O.lst (ls.map D.str)]).length = st.length + 1 := by simp
  rw [hS, hL]
  have gL : ∀ x y, (st ++ [x, y])[st.length]? = some x := fun x y => by rw [List.getElem?_append_right (Nat.le_refl _), Nat.sub_self]; rfl
  have gR : ∀ x y, (st ++ [x, y])[st.length + 1]? = some y := fun x y => by rw [List.getElem?_append_right (by omega)]; simp
  have sR : ∀ x y z : O, (st ++ [x, y]).set (st.length + 1) z = st ++ [x, z] := fun x y z => by rw [List.set_append_right _ _ (by omega)]; simp
  refine lfor (enumL 0 (ls.map D.str)) (fun i env st' => ∃ (s : Nat) (a b : S) (e4 e5 e6 e7 : Option D), st' = st ++ [O.lst (ls.map D.str), O.lst [D.str a, D.str b]] ∧ env = [some (.str t), some (.obj st.length), some (.obj (st.length + 1)), some (.int (s : Nat)), e4, e5, e6, e7] ∧ s < 3 ∧ a.length + ((ls.drop i).map fun s => s.length + 1).sum ≤ t.length + 1 ∧ b.length + ((ls.drop i).map fun s => s.length + 1).sum ≤ t.length + 1 ∧
      resF ls.length i s a b (ls.drop i) = res73 t) (by rw [enumL_len, List.length_map]; omega) ?_ ?_ ?_ ?_
  · rintro i env st' _ ⟨s, a, b, e4, e5, e6, e7, rfl, rfl, _⟩
    exact walked_enum (gL _ _)
  · refine ⟨0, [], [], none, none, none, none, rfl, rfl, by omega, by simp; omega, by simp; omega, ?_⟩
    unfold res73
    rw [hls]
    rfl
  · rintro i x env st' hx hi ⟨s, a, b, e4, e5, e6, e7, rfl, rfl, hs, hA, hB, hr⟩
    rw [enumL_len, List.length_map] at hi
    rw [enumL_at, List.getElem?_map, List.getElem?_eq_getElem hi] at hx
    simp only [Option.map_some, Option.some.injEq, Nat.zero_add] at hx
    subst hx
    have hd := sum_drop ls i ls[i] (List.getElem?_eq_getElem hi)
    rw [List.drop_eq_getElem_cons hi] at hr
    generalize hl : ls[i] = l at hr hd
    rw [resF] at hr
    refine ⟨_, rfl, ?_⟩
    have hrep : okRep 1 (if (i : Int) < (ls.length : Int) - 1 then (1 : Int) else 0) = true := by split <;> decide
    have hsg : reps [10] (if (i : Int) < (ls.length : Int) - 1 then (1 : Int) else 0).toNat = reps [10] (if i + 1 < ls.length then 1 else 0) := by
      by_cases h : i + 1 < ls.length
      · rw [if_pos h, if_pos (by omega)]; rfl
      · rw [if_neg h, if_neg (by omega)]; rfl
    have hlm : l.length + (reps [10] (if i + 1 < ls.length then 1 else 0)).length ≤ LN := by
      rw [reps_len]
      unfold LN
      split <;> omega
    have hmap : (ls.map D.str).length = ls.length := List.length_map _
    dsimp! [gL, hmap, hrep, hsg, hlm]
    rw [RC_nx]
    dsimp! [H.g80]
    rw [RI_ap]
    have hsgl : (sg ls.length i l).length ≤ l.length + 1 := by
      unfold sg
      rw [List.length_append, reps_len]
      split <;> omega
    rw [decide_eq_true_eq]
    refine ⟨fun hm => ?_, fun hm => ?_⟩
    · have hm2 := (idx_mem l).1 hm
      obtain ⟨k, hk⟩ := Option.isSome_iff_exists.mp hm2
      rw [hk] at hr
      dsimp only at hr
      dsimp! [Y_tix _ _ _ H.g80 (strs_all lin3), hk]
      rw [RI_ap]
      refine ⟨fun hne => ?_, fun hne => ?_⟩
      · have hne' : ¬ k = s := by
          intro z
          subst z
          simp at hne
        rw [if_neg hne'] at hr
        dsimp! [YS_raise _ _ H.x81]
        exact kex i _ hr.symm
      · have hne' : k = s := by
          simp at hne
          omega
        rw [if_pos hne'] at hr
        dsimp! []
        rw [RC_nx]
        have q1 : (0 : Int) < 3 := by decide
        dsimp! [q1]
        have e : ((s : Int) + 1) % 3 = (((s + 1) % 3 : Nat) : Int) := by omega
        rw [e]
        exact ⟨(s + 1) % 3, a, b, _, _, _, _, rfl, rfl, by omega, by omega, by omega, hr⟩
    · have hk : idxS l lin3 = none := by
        cases h : idxS l lin3 with
        | none => rfl
        | some k => exact absurd ((idx_mem l).2 (by rw [h]; rfl)) hm
      rw [hk] at hr
      dsimp only at hr
      dsimp! []
      refine lfor (rngL 0 2) (fun q env st' => ∃ (e7 : Option D), st' = st ++ [O.lst (ls.map D.str), O.lst [D.str (if q = 0 then a else if s = 2 then a else a ++ sg ls.length i l), D.str (if q ≤ 1 then b else if s = 1 then b else b ++ sg ls.length i l)]] ∧ env = [some (.str t), some (.obj st.length), some (.obj (st.length + 1)), some (.int (s : Nat)), some (.int (i : Nat)), some (.str l), some (.str (sg ls.length i l)), e7]) (by rw [rngL_lenth]; omega) (fun _ _ st' _ _ => walked_rng 2 (by omega) st') ⟨_, rfl, rfl⟩ ?_ ?_
      · rintro q x env st' hx hq ⟨e7, rfl, rfl⟩
        rw [rngL_lenth] at hq
        have := rngL_at hx
        subst this
        refine ⟨_, rfl, ?_⟩
        dsimp! [inD_i2]
        rw [RI_ap]
        have h2 : q = 0 ∨ q = 1 := by omega
        rcases h2 with rfl | rfl
        · refine ⟨fun hc => ?_, fun hc => ?_⟩
          · have hs2 : s ≠ 2 := by
              simp at hc
              omega
            have hle : a.length + (sg ls.length i l).length ≤ LN := by unfold LN; omega
            have x0 : L2.ixN 2 ((0 : Nat) : Int) = some 0 := by decide
            have x1 : ∀ xs : List D, L2.atI xs ((0 : Nat) : Int) = xs[0]? := fun xs => atI_nat xs 0
            dsimp! [gR, x1, x0]
            refine ⟨_, rfl, ?_⟩
            dsimp! [gR, x1, x0, hle, sR]
            refine ⟨_, ?_, rfl⟩
            simp [hs2]
          · have hs2 : s = 2 := by
              simp at hc
              omega
            dsimp! []
            refine ⟨_, ?_, rfl⟩
            simp [hs2]
        · refine ⟨fun hc => ?_, fun hc => ?_⟩
          · have hs2 : s ≠ 1 := by
              simp at hc
              omega
            have hle : b.length + (sg ls.length i l).length ≤ LN := by unfold LN; omega
            have x0 : L2.ixN 2 ((1 : Nat) : Int) = some 1 := by decide
            have x1 : ∀ xs : List D, L2.atI xs ((1 : Nat) : Int) = xs[1]? := fun xs => atI_nat xs 1
            rw [if_pos (Nat.le_refl 1)]
            dsimp! [gR, x1, x0]
            refine ⟨_, rfl, ?_⟩
            dsimp! [gR, x1, x0, hle, sR]
            refine ⟨_, ?_, rfl⟩
            simp [hs2]
          · have hs2 : s = 1 := by
              simp at hc
              omega
            dsimp! []
            refine ⟨_, ?_, rfl⟩
            simp [hs2]
      · rintro env st' ⟨e7, rfl, rfl⟩
        rw [rngL_lenth]
        dsimp! []
        refine ⟨s, _, _, _, _, _, _, rfl, rfl, hs, ?_, ?_, hr⟩
        · have e : (if s = 2 then a else a ++ sg ls.length i l).length ≤ a.length + (l.length + 1) := by
            split
            · omega
            · rw [List.length_append]; omega
          omega
        · have e : (if 2 ≤ 1 then b else if s = 1 then b else b ++ sg ls.length i l).length ≤ b.length + (l.length + 1) := by
            rw [if_neg (by decide)]
            split
            · omega
            · rw [List.length_append]; omega
          omega
  · rintro env st' ⟨s, a, b, e4, e5, e6, e7, rfl, rfl, hs, hA, hB, hr⟩
    rw [enumL_len, List.length_map, List.drop_length, resF] at hr
    rw [RC_nx]
    dsimp! []
    rw [RI_ap]
    refine ⟨fun hc => ?_, fun hc => ?_⟩
    · have hs0 : s ≠ 0 := by
        intro z
        subst z
        simp at hc
      rw [if_neg hs0] at hr
      have hmap : (ls.map D.str).length = ls.length := List.length_map _
      dsimp! [YS_raise _ _ H.x81, gL, hmap]
      exact kex _ _ hr.symm
    · have hs0 : s = 0 := by
        simp at hc
        exact hc
      rw [if_pos hs0] at hr
      dsimp! []
      rw [RC_nx]
      simp! only [gR, i0, i1]
      exact kok a b _ hr.symm
def wantS (s : Nat) : S := lin3.getD s []
theorem want_eq (l : S) (k s : Nat) (h : idxS l lin3 = some k) (hs : s < 3) : (l = wantS s) ↔ k = s := by
  have h3 : s = 0 ∨ s = 1 ∨ s = 2 := by omega
  unfold lin3 at h
  simp only [idxS] at h
  by_cases h1 : [35, 60] = l
  · subst h1
    simp at h
    subst h
    rcases h3 with rfl | rfl | rfl <;> decide
  · by_cases h2 : [35, 61] = l
    · subst h2
      simp at h
      subst h
      rcases h3 with rfl | rfl | rfl <;> decide
    · by_cases h4 : [35, 62] = l
      · subst h4
        simp at h
        subst h
        rcases h3 with rfl | rfl | rfl <;> decide
      · simp [h1, h2, h4] at h
theorem due73_spec {P : Pg} (H : HasM P) (n : Nat) (t : S) (st : Sto) (hl : t.length ≤ 100000) (Q : D → Sto → Prop) (kok : ∀ g, Q (resD (res73 t)) (st ++ g)) : W (callN P (n + 1) 77 [.str t] st) Q := by
  have i0 : ∀ xs : List D, L2.atI xs 0 = xs[0]? := fun xs => atI_nat xs 0
  have i1 : ∀ xs : List D, L2.atI xs 1 = xs[1]? := fun xs => atI_nat xs 1
  have x0 : L2.ixN 2 0 = some 0 := by decide
  have x1 : L2.ixN 2 1 = some 1 := by decide
  have hsp : t.length + 2 ≤ LN ∧ 10 < 256 := by unfold LN; omega
  have htot := split_tot 10 t []
  have hlen := tot_len (splitS 10 [] t)
  simp at htot
  refine Y.w ?_
  rw [callN, H.h77]
  dsimp! [f77]
  rw [KLst_ap]
  refine ⟨by unfold LN; simp, ?_⟩
  dsimp! []
  rw [RC_nx]
  dsimp! []
  rw [RC_nx]
  dsimp! [hsp]
  rw [Y_newL]
  dsimp! []
  rw [RC_nx]
  generalize hls : splitS 10 [] t = ls at *
  have hmap : (ls.map D.str).length = ls.length := List.length_map _
  have hL : (st ++ [O.lst [D.str [], D.str []]]).length = st.length + 1 := by simp
  have hS : st ++ [O.lst [D.str [], D.str []]] ++ [O.lst (ls.map D.str)] = st ++ (O.lst [D.str [], D.str []] :: O.lst (ls.map D.str) :: []) := by simp
  have gL : ∀ x y g, (st ++ (x :: y :: g))[st.length]? = some x := fun x y g => mid_at _ _ _
  have gR : ∀ (x y : O) (g : Sto), (st ++ (x :: y :: g))[st.length + 1]? = some y := fun x y g => by rw [List.getElem?_append_right (by omega)]; simp
  have sL : ∀ x y z g, (st ++ (x :: y :: g)).set st.length z = st ++ (z :: y :: g) := fun x y z g => mid_set _ _ _ _
  rw [hS, hL]
  dsimp! [gR, hmap]
  refine lfor (rngL 0 ls.length) (fun i env st' => ∃ (s : Nat) (a b : S) (g : Sto) (e4 e5 : Option D), st' = st ++ (O.lst [D.str a, D.str b] :: O.lst (ls.map D.str) :: g) ∧ env = [some (.str t), some (.obj st.length), some (.str (wantS s)), some (.obj (st.length + 1)), e4, e5] ∧ s < 3 ∧ a.length + ((ls.drop i).map fun s => s.length + 1).sum ≤ t.length + 1 ∧ b.length + ((ls.drop i).map fun s => s.length + 1).sum ≤ t.length + 1 ∧
      resF ls.length i s a b (ls.drop i) = res73 t) (by rw [rngL_lenth]; omega) (fun _ _ st' _ _ => walked_rng _ (by omega) st') ?_ ?_ ?_
  · refine ⟨0, [], [], [], none, none, rfl, rfl, by omega, by simp; omega, by simp; omega, ?_⟩
    unfold res73
    rw [hls]
    rfl
  · rintro i x env st' hx hi ⟨s, a, b, g, e4, e5, rfl, rfl, hs, hA, hB, hr⟩
    rw [rngL_lenth] at hi
    have := rngL_at hx
    subst this
    have hd := sum_drop ls i ls[i] (List.getElem?_eq_getElem hi)
    have hat : L2.atI (ls.map D.str) (i : Int) = some (.str ls[i]) := by
      rw [atI_nat, List.getElem?_map, List.getElem?_eq_getElem hi]
      rfl
    rw [List.drop_eq_getElem_cons hi] at hr
    generalize hl : ls[i] = l at hr hd hat
    rw [resF] at hr
    refine ⟨_, rfl, ?_⟩
    have hrep : okRep 1 (if (i : Int) + 1 < (ls.length : Int) then (1 : Int) else 0) = true := by split <;> decide
    have hsg : reps [10] (if (i : Int) + 1 < (ls.length : Int) then (1 : Int) else 0).toNat = reps [10] (if i + 1 < ls.length then 1 else 0) := by
      by_cases h : i + 1 < ls.length
      · rw [if_pos h, if_pos (by omega)]; rfl
      · rw [if_neg h, if_neg (by omega)]; rfl
    have hlm : l.length + (reps [10] (if i + 1 < ls.length then 1 else 0)).length ≤ LN := by
      rw [reps_len]
      unfold LN
      split <;> omega
    dsimp! [gR, hat, hmap, hrep, hsg, hlm]
    rw [RC_nx]
    have hsgl : (sg ls.length i l).length ≤ l.length + 1 := by
      unfold sg
      rw [List.length_append, reps_len]
      split <;> omega
    have hin : ∀ st', inD st' (.str l) (.tup [D.str [35, 60], D.str [35, 61], D.str [35, 62]]) = some (decide (l ∈ lin3)) := fun st' => inD_strs st' l lin3
    dsimp! [gR, hat, hin]
    rw [RI_ap, decide_eq_true_eq]
    refine ⟨fun hm => ?_, fun hm => ?_⟩
    · have hm2 := (idx_mem l).1 hm
      obtain ⟨k, hk⟩ := Option.isSome_iff_exists.mp hm2
      rw [hk] at hr
      dsimp only at hr
      have hw := want_eq l k s hk hs
      dsimp! [gR, hat]
      rw [RI_ap]
      refine ⟨fun hne => ?_, fun hne => ?_⟩
      · have hne' : ¬ k = s := by
          intro z
          rw [hw.2 z] at hne
          simp at hne
        rw [if_neg hne'] at hr
        dsimp! []
        have := kok (O.lst [D.str a, D.str b] :: O.lst (ls.map D.str) :: g)
        rw [← hr] at this
        exact this
      · have hne' : k = s := by
          simp at hne
          exact hw.1 hne
        rw [if_pos hne'] at hr
        dsimp! []
        rw [RC_nx]
        dsimp! []
        rw [Y_newD]
        have hmg : mergeD [] [(Sum.inr [35, 60], D.str [35, 61]), (Sum.inr [35, 61], D.str [35, 62]), (Sum.inr [35, 62], D.str [35, 60])] = [((Sum.inr [35, 60] : DKey), D.str [35, 61]), (Sum.inr [35, 61], D.str [35, 62]), (Sum.inr [35, 62], D.str [35, 60])] := by
          simp [mergeD, putD]
        rw [hmg]
        have hlk : lookD (Sum.inr (wantS s)) [((Sum.inr [35, 60] : DKey), D.str [35, 61]), (Sum.inr [35, 61], D.str [35, 62]), (Sum.inr [35, 62], D.str [35, 60])] = some (.str (wantS ((s + 1) % 3))) := by
          have h3 : s = 0 ∨ s = 1 ∨ s = 2 := by omega
          rcases h3 with rfl | rfl | rfl <;> simp [wantS, lin3, lookD]
        dsimp! [dctD, last_at, hlk]
        have hg2 : st ++ (O.lst [D.str a, D.str b] :: O.lst (ls.map D.str) :: g) ++ [O.dct [((Sum.inr [35, 60] : DKey), D.str [35, 61]), (Sum.inr [35, 61], D.str [35, 62]), (Sum.inr [35, 62], D.str [35, 60])]] = st ++ (O.lst [D.str a, D.str b] :: O.lst (ls.map D.str) :: (g ++ [O.dct [((Sum.inr [35, 60] : DKey), D.str [35, 61]), (Sum.inr [35, 61], D.str [35, 62]), (Sum.inr [35, 62], D.str [35, 60])]])) := by simp
        exact ⟨(s + 1) % 3, a, b, _, _, _, hg2, rfl, by omega, by omega, by omega, hr⟩
    · have hk : idxS l lin3 = none := by
        cases h : idxS l lin3 with
        | none => rfl
        | some k => exact absurd ((idx_mem l).2 (by rw [h]; rfl)) hm
      rw [hk] at hr
      dsimp only at hr
      dsimp! []
      rw [RI_ap]
      -- the second half
      have half : ∀ (a' : S), a'.length + ((ls.drop (i + 1)).map fun s => s.length + 1).sum ≤ t.length + 1 → resF ls.length (i + 1) s a' (if s = 1 then b else b ++ sg ls.length i l) (ls.drop (i + 1)) = res73 t →
          ∀ (Q' : Fl → Sto → Prop), (∀ env st', (∃ (s : Nat) (a b : S) (g : Sto) (e4 e5 : Option D), st' = st ++ (O.lst [D.str a, D.str b] :: O.lst (ls.map D.str) :: g) ∧ env = [some (.str t), some (.obj st.length), some (.str (wantS s)), some (.obj (st.length + 1)), e4, e5] ∧ s < 3 ∧ a.length + ((ls.drop (i + 1)).map fun s => s.length + 1).sum ≤ t.length + 1 ∧ b.length + ((ls.drop (i + 1)).map fun s => s.length + 1).sum ≤ t.length + 1 ∧ resF ls.length (i + 1) s a b (ls.drop (i + 1)) = res73 t) → Q' (.nx env) st') →
          YS (evSs P (callN P n) [CS.ife (CE.cmp PySem.CmpOp.NotEq (CE.var 2) (CE.str [35, 61])) [CS.stsub (CE.var 1) (CE.int 1) (CE.bin PySem.Operator.Add ((CE.var 1).sub (CE.int 1)) (CE.var 5))] []] [some (D.str t), some (D.obj st.length), some (D.str (wantS s)), some (D.obj (st.length + 1)), some (D.int (i : Nat)), some (D.str (sg ls.length i l))] (st ++ (O.lst [D.str a', D.str b] :: O.lst (ls.map D.str) :: g))) Q' := by
        intro a' ha' hr' Q' hQ
        have hle : b.length + (sg ls.length i l).length ≤ LN := by unfold LN; omega
        dsimp! []
        rw [RI_ap]
        refine ⟨fun hc => ?_, fun hc => ?_⟩
        · have hs1 : s ≠ 1 := by
            intro z
            subst z
            simp [wantS, lin3] at hc
          rw [if_neg hs1] at hr'
          dsimp! [gL, i1, hle, x1, sL]
          refine hQ _ _ ⟨s, _, _, _, _, _, rfl, rfl, hs, ha', ?_, hr'⟩
          rw [List.length_append]
          omega
        · have hs1 : s = 1 := by
            simp at hc
            have h3 : s = 0 ∨ s = 1 ∨ s = 2 := by omega
            rcases h3 with rfl | rfl | rfl
            · simp [wantS, lin3] at hc
            · rfl
            · simp [wantS, lin3] at hc
          rw [if_pos hs1] at hr'
          dsimp! []
          exact hQ _ _ ⟨s, _, _, _, _, _, rfl, rfl, hs, ha', by omega, hr'⟩
      have hfold : l ++ reps [10] (if i + 1 < ls.length then 1 else 0) = sg ls.length i l := rfl
      rw [hfold]
      refine ⟨fun hc => ?_, fun hc => ?_⟩
      · have hs2 : s ≠ 2 := by
          intro z
          subst z
          simp [wantS, lin3] at hc
        rw [if_neg hs2] at hr
        have hle : a.length + (sg ls.length i l).length ≤ LN := by unfold LN; omega
        dsimp! [gL, i0, hle, x0, sL]
        rw [RC_nx]
        refine half _ (by rw [List.length_append]; omega) hr _ ?_
        intro env st' h
        dsimp! []
        exact h
      · have hs2 : s = 2 := by
          simp at hc
          have h3 : s = 0 ∨ s = 1 ∨ s = 2 := by omega
          rcases h3 with rfl | rfl | rfl
          · simp [wantS, lin3] at hc
          · simp [wantS, lin3] at hc
          · rfl
        rw [if_pos hs2] at hr
        dsimp! []
        rw [RC_nx]
        refine half _ (by omega) hr _ ?_
        intro env st' h
        dsimp! []
        exact h
  · rintro env st' ⟨s, a, b, g, e4, e5, rfl, rfl, hs, hA, hB, hr⟩
    rw [rngL_lenth, List.drop_length, resF] at hr
    rw [RC_nx]
    dsimp! []
    rw [RI_ap]
    refine ⟨fun hc => ?_, fun hc => ?_⟩
    · have hs0 : s ≠ 0 := by
        intro z
        subst z
        simp [wantS, lin3] at hc
      rw [if_neg hs0] at hr
      dsimp! [gR, hmap]
      have := kok (O.lst [D.str a, D.str b] :: O.lst (ls.map D.str) :: g)
      rw [← hr] at this
      exact this
    · have hs0 : s = 0 := by
        simp at hc
        have h3 : s = 0 ∨ s = 1 ∨ s = 2 := by omega
        rcases h3 with rfl | rfl | rfl
        · rfl
        · simp [wantS, lin3] at hc
        · simp [wantS, lin3] at hc
      rw [if_pos hs0] at hr
      dsimp! []
      rw [RC_nx]
      simp! only [gL, i0, i1]
      have := kok (O.lst [D.str a, D.str b] :: O.lst (ls.map D.str) :: g)
      rw [← hr] at this
      exact this
theorem told73_spec {P : Pg} (H : HasM P) (n : Nat) (t : S) (st : Sto) (hl : t.length ≤ 100000) (Q : D → Sto → Prop) (kok : ∀ g, Q (resD (res73 t)) (st ++ g)) : W (callN P (n + 3) 78 [.str t] st) Q := by
  have hh : hdsB P [.hdl 81 (some 1) [CS.ife (.and (.xis 1 49) [.not (.xis 1 50)]) [.ret (.xfl 1 100000)] [], .ret (.str [111, 116, 104, 101, 114])]] = true := by
    simp [hdsB, H.hc]
  refine Y.w ?_
  rw [callN, H.h78]
  dsimp! [f78, YS_tri _ _ hh, Y_call _ _ _ H.h72]
  refine sides_spec H n t st hl _ _ (fun a b g hr => ?_) (fun k g hr => ?_)
  · simp! only []
    have := kok g
    rw [hr] at this
    exact this
  · rw [QX_ap, RC_exc, RH_exc]
    refine YS_hsI P _ H.s1 1 _ _ _ _ _ _ ?_
    have hx : exnAt [some (D.str t), some (D.exn 81 [D.int (k : Nat)])] 1 = some (81, [D.int (k : Nat)]) := rfl
    have hz : (List.zip [100000] [D.int (k : Nat)]).lookup 100000 = some (D.int (k : Nat)) := rfl
    dsimp! [E_xis _ _ hx, H.s2, H.s3]
    rw [RI_ap]
    refine ⟨fun _ => ?_, fun h => absurd rfl h⟩
    dsimp! [E_xfl _ _ hx H.x81, hz]
    have := kok g
    rw [hr] at this
    exact this
end Mini

set_option Elab.async false
set_option linter.all false
set_option maxRecDepth 100000
set_option maxHeartbeats 4000000
namespace Mini.K73
open Mini
theorem hasM : HasM P := ⟨rfl, rfl, rfl, rfl, rfl, rfl, rfl, rfl, rfl, rfl, rfl⟩
theorem pu_res (r : Sum Nat (S × S)) : Pu 2 (resD r) := by
  cases r with
  | inl k => exact .int 1 _
  | inr p =>
    refine .tup 1 _ (by simp) fun x hx => ?_
    simp only [List.mem_cons, List.not_mem_nil, or_false] at hx
    rcases hx with rfl | rfl
    · exact .str 0 _
    · exact .str 0 _
theorem nex_res (r : Sum Nat (S × S)) (st : Sto) : nex (resD r) st = some (.ok (resD r), st) := by
  cases r <;> rfl
theorem law_W (ns : List Int) (hn : ns.length ≤ 63) : W (callN P 60 79 [.rol (ns.map .int)] []) (fun d _ => d = .bl true) := by
  have h73 : P.fn 73 = some f73 := rfl
  have h74 : P.fn 74 = some f74 := rfl
  have h75 : P.fn 75 = some f75 := rfl
  have h76 : P.fn 76 = some f76 := rfl
  have h77 : P.fn 77 = some f77 := rfl
  have h78 : P.fn 78 = some f78 := rfl
  have h79 : P.fn 79 = some f79 := rfl
  have hmap : (ns.map D.int).length = ns.length := List.length_map _
  rw [show (60 : Nat) = 59 + 1 from rfl, callN, h79]
  simp_arith [f79, hmap]
  obtain ⟨c, hc, hc2⟩ : ∃ c : Nat, (if (if (ns.length : Int) < 4 then (ns.length : Int) else 4) > 2 then (if (ns.length : Int) < 4 then (ns.length : Int) else 4) else 2) = (c : Int) ∧ c < 10 := by
    by_cases h : (ns.length : Int) < 4
    · rw [if_pos h]
      by_cases h' : (ns.length : Int) > 2
      · rw [if_pos h']; exact ⟨ns.length, rfl, by omega⟩
      · rw [if_neg h']; exact ⟨2, rfl, by omega⟩
    · rw [if_neg h, if_pos (by decide)]
      exact ⟨4, rfl, by omega⟩
  rw [hc]
  refine kfor (rngL 0 c) (fun i env st' => ∃ (e1 e2 e3 e4 : Option D), env = [some (.rol (ns.map .int)), e1, e2, e3, e4]) (by rw [rngL_lenth]; omega) (fun _ _ st' _ _ => walked_rng _ (by omega) st') ⟨_, _, _, _, rfl⟩ ?_ ?_
  · rintro i x env st' hx hi ⟨e1, e2, e3, e4, rfl⟩
    rw [rngL_lenth] at hi
    have := rngL_at hx
    subst this
    refine ⟨_, rfl, ?_⟩
    simp_arith [W_call _ _ h73]
    refine stream_spec h73 58 ns i (by omega) st' _ ?_
    intro o ho
    simp_arith []
    rw [QC_nx]
    simp_arith []
    refine kfor (rngL 0 8) (fun q env st2 => ∃ (o' : O) (e3 e4 : Option D), st2[st'.length]? = some o' ∧ Sm o' (40 * q) ∧ env = [some (.rol (ns.map .int)), some (.int (i : Nat)), some (.obj st'.length), e3, e4]) (by rw [rngL_lenth]; omega) (fun _ _ st' _ _ => walked_rng 8 (by omega) st') ⟨o, _, _, last_at _ _, ho, rfl⟩ ?_ ?_
    · rintro q x env st2 hx hq ⟨o', e3, e4, hj, ho', rfl⟩
      rw [rngL_lenth] at hq
      have := rngL_at hx
      subst this
      refine ⟨_, rfl, ?_⟩
      simp_arith [W_call _ _ h76]
      refine text73_spec h74 h76 57 hj ho' (by omega) _ ?_
      intro o3 g3 t ho3 ht
      have hlt := lt_of_get hj
      have hj3 := sj_get hlt o3 g3
      generalize st2.set st'.length o3 ++ g3 = st3 at hj3 ⊢
      simp_arith []
      rw [QC_nx]
      simp_arith [W_call _ _ h75, W_call _ _ h78, W_call _ _ h77]
      refine told73_spec hasM 56 t st3 ht _ ?_
      intro g4
      simp_arith [W_call _ _ h77]
      refine due73_spec hasM 58 t _ ht _ ?_
      intro g5
      simp_arith []
      refine same2_refl h75 2 _ (pu_res _) 59 _ (by omega) _ ?_
      intro g6
      simp_arith []
      rw [QI_ap]
      refine ⟨fun h => absurd h (by decide), fun _ => ?_⟩
      simp_arith []
      exact ⟨o3, _, _, get_app (get_app (get_app hj3)), ho3.le (by omega), rfl⟩
    · rintro env st2 ⟨o', e3, e4, hj, ho', rfl⟩
      simp_arith []
      exact ⟨_, _, _, _, rfl⟩
  · rintro env st' ⟨e1, e2, e3, e4, rfl⟩
    rw [QC_nx]
    simp_arith! only []
theorem law_true : ∀ ns : List Int, ns.length ≤ 63 → ∃ st', callN P 60 79 [.rol (ns.map .int)] [] = some (.ok (.bl true), st') := by
  intro ns hn
  obtain ⟨d, st', h1, h2⟩ := law_W ns hn
  subst h2
  exact ⟨st', h1⟩
end Mini.K73

set_option Elab.async false
set_option linter.all false
set_option maxRecDepth 100000
set_option maxHeartbeats 0
namespace Mini.K73
open PySem L2
def top (i : Nat) : Stmt := PySem.Challenge.pw_keptsigns_k73_marks_read_back.main.body.getD i (.Pass ⟨0, 0, 0, 0⟩)
def nms : List (Nat × Str) := [(1, ("is_text" : Str)), (72, ("sides_of" : Str)), (73, ("_law_stream" : Str)), (74, ("_law_take" : Str)), (75, ("_law_same" : Str)), (76, ("_law_text" : Str)), (77, ("_law_due" : Str)), (78, ("_law_told" : Str)), (79, ("law" : Str)), (49, ("SignError" : Str)), (50, ("NoText" : Str)), (81, ("NoMarks" : Str)), (80, ("MARKS" : Str)), (100000, ("line" : Str))]
def nm : Nat → Str := fun g => (nms.lookup g).getD "?"
def bt : List (Nat × String) := []
abbrev s1 : Stmt := top 5
abbrev N1 : List Str := ["thing"]
abbrev p1 : List Str := ["thing"]
theorem ck1 : chkSs nm N1 ⟨defScope s1, fun _ => true, false⟩ f1.body (defBody s1) = true := by decide +kernel
theorem sc1 : C8.scC N1 p1 (defScope s1) = true := by decide +kernel
theorem bd1 (kV doc pm : Value) (an : Option Addr) (cdv ct : Value) : ∀ us : List Value, us.length = p1.length → bindArgs (PySem.W.fnOf (nm 1) (nm 1) (defArgs s1) (defBody s1) (defScope s1) .none kV doc pm an cdv ct) ⟨us, []⟩ = pure (p1.zip us) := fun us hl => match us, hl with | [_], _ => rfl
def d1 : He.DefD := ⟨(nm 1, none), nm 1, nm 1, defArgs s1, defBody s1, defScope s1, [], []⟩
abbrev s72 : Stmt := top 8
abbrev N72 : List Str := ["text", "lines", "sides", "state", "number", "line", "signs", "side"]
abbrev p72 : List Str := ["text"]
theorem ck72 : chkSs nm N72 ⟨defScope s72, fun _ => true, false⟩ f72.body (defBody s72) = true := by decide +kernel
theorem sc72 : C8.scC N72 p72 (defScope s72) = true := by decide +kernel
theorem bd72 (kV doc pm : Value) (an : Option Addr) (cdv ct : Value) : ∀ us : List Value, us.length = p72.length → bindArgs (PySem.W.fnOf (nm 72) (nm 72) (defArgs s72) (defBody s72) (defScope s72) .none kV doc pm an cdv ct) ⟨us, []⟩ = pure (p72.zip us) := fun us hl => match us, hl with | [_], _ => rfl
def d72 : He.DefD := ⟨(nm 72, none), nm 72, nm 72, defArgs s72, defBody s72, defScope s72, [], []⟩
abbrev s73 : Stmt := top 10
abbrev N73 : List Str := ["_law_script", "_law_k", "_law_cell", "_law_great"]
abbrev p73 : List Str := ["_law_script", "_law_k"]
theorem ck73 : chkSs nm N73 ⟨defScope s73, fun _ => true, false⟩ f73.body (defBody s73) = true := by decide +kernel
theorem sc73 : C8.scC N73 p73 (defScope s73) = true := by decide +kernel
theorem bd73 (kV doc pm : Value) (an : Option Addr) (cdv ct : Value) : ∀ us : List Value, us.length = p73.length → bindArgs (PySem.W.fnOf (nm 73) (nm 73) (defArgs s73) (defBody s73) (defScope s73) .none kV doc pm an cdv ct) ⟨us, []⟩ = pure (p73.zip us) := fun us hl => match us, hl with | [_, _], _ => rfl
def d73 : He.DefD := ⟨(nm 73, none), nm 73, nm 73, defArgs s73, defBody s73, defScope s73, [], []⟩
abbrev s74 : Stmt := top 11
abbrev N74 : List Str := ["_law_stream_here", "_law_most", "_law_mixed", "_law_digit"]
abbrev p74 : List Str := ["_law_stream_here", "_law_most"]
theorem ck74 : chkSs nm N74 ⟨defScope s74, fun _ => true, false⟩ f74.body (defBody s74) = true := by decide +kernel
theorem sc74 : C8.scC N74 p74 (defScope s74) = true := by decide +kernel
theorem bd74 (kV doc pm : Value) (an : Option Addr) (cdv ct : Value) : ∀ us : List Value, us.length = p74.length → bindArgs (PySem.W.fnOf (nm 74) (nm 74) (defArgs s74) (defBody s74) (defScope s74) .none kV doc pm an cdv ct) ⟨us, []⟩ = pure (p74.zip us) := fun us hl => match us, hl with | [_, _], _ => rfl
def d74 : He.DefD := ⟨(nm 74, none), nm 74, nm 74, defArgs s74, defBody s74, defScope s74, [], []⟩
abbrev s75 : Stmt := top 12
abbrev N75 : List Str := ["_law_one", "_law_other", "_law_here", "_law_there"]
abbrev p75 : List Str := ["_law_one", "_law_other"]
theorem ck75 : chkSs nm N75 ⟨defScope s75, fun _ => true, false⟩ f75.body (defBody s75) = true := by decide +kernel
theorem sc75 : C8.scC N75 p75 (defScope s75) = true := by decide +kernel
theorem bd75 (kV doc pm : Value) (an : Option Addr) (cdv ct : Value) : ∀ us : List Value, us.length = p75.length → bindArgs (PySem.W.fnOf (nm 75) (nm 75) (defArgs s75) (defBody s75) (defScope s75) .none kV doc pm an cdv ct) ⟨us, []⟩ = pure (p75.zip us) := fun us hl => match us, hl with | [_, _], _ => rfl
def d75 : He.DefD := ⟨(nm 75, none), nm 75, nm 75, defArgs s75, defBody s75, defScope s75, [], []⟩
abbrev s76 : Stmt := top 13
abbrev N76 : List Str := ["_law_stream_here", "_law_lines", "_law_state", "_law_turn", "_law_choice"]
abbrev p76 : List Str := ["_law_stream_here"]
theorem ck76 : chkSs nm N76 ⟨defScope s76, fun _ => true, false⟩ f76.body (defBody s76) = true := by decide +kernel
theorem sc76 : C8.scC N76 p76 (defScope s76) = true := by decide +kernel
theorem bd76 (kV doc pm : Value) (an : Option Addr) (cdv ct : Value) : ∀ us : List Value, us.length = p76.length → bindArgs (PySem.W.fnOf (nm 76) (nm 76) (defArgs s76) (defBody s76) (defScope s76) .none kV doc pm an cdv ct) ⟨us, []⟩ = pure (p76.zip us) := fun us hl => match us, hl with | [_], _ => rfl
def d76 : He.DefD := ⟨(nm 76, none), nm 76, nm 76, defArgs s76, defBody s76, defScope s76, [], []⟩
abbrev s77 : Stmt := top 14
abbrev N77 : List Str := ["_law_text_here", "_law_sides", "_law_wanted", "_law_lines", "_law_k", "_law_signs"]
abbrev p77 : List Str := ["_law_text_here"]
theorem ck77 : chkSs nm N77 ⟨defScope s77, fun _ => true, false⟩ f77.body (defBody s77) = true := by decide +kernel
theorem sc77 : C8.scC N77 p77 (defScope s77) = true := by decide +kernel
theorem bd77 (kV doc pm : Value) (an : Option Addr) (cdv ct : Value) : ∀ us : List Value, us.length = p77.length → bindArgs (PySem.W.fnOf (nm 77) (nm 77) (defArgs s77) (defBody s77) (defScope s77) .none kV doc pm an cdv ct) ⟨us, []⟩ = pure (p77.zip us) := fun us hl => match us, hl with | [_], _ => rfl
def d77 : He.DefD := ⟨(nm 77, none), nm 77, nm 77, defArgs s77, defBody s77, defScope s77, [], []⟩
abbrev s78 : Stmt := top 15
abbrev N78 : List Str := ["_law_text_here", "e"]
abbrev p78 : List Str := ["_law_text_here"]
theorem ck78 : chkSs nm N78 ⟨defScope s78, fun _ => true, false⟩ f78.body (defBody s78) = true := by decide +kernel
theorem sc78 : C8.scC N78 p78 (defScope s78) = true := by decide +kernel
theorem bd78 (kV doc pm : Value) (an : Option Addr) (cdv ct : Value) : ∀ us : List Value, us.length = p78.length → bindArgs (PySem.W.fnOf (nm 78) (nm 78) (defArgs s78) (defBody s78) (defScope s78) .none kV doc pm an cdv ct) ⟨us, []⟩ = pure (p78.zip us) := fun us hl => match us, hl with | [_], _ => rfl
def d78 : He.DefD := ⟨(nm 78, none), nm 78, nm 78, defArgs s78, defBody s78, defScope s78, [], []⟩
abbrev s79 : Stmt := top 16
abbrev N79 : List Str := ["_law_script", "_law_k", "_law_stream_here", "_law_turn", "_law_text_here"]
abbrev p79 : List Str := ["_law_script"]
theorem ck79 : chkSs nm N79 ⟨defScope s79, fun _ => true, false⟩ f79.body (defBody s79) = true := by decide +kernel
theorem sc79 : C8.scC N79 p79 (defScope s79) = true := by decide +kernel
theorem bd79 (kV doc pm : Value) (an : Option Addr) (cdv ct : Value) : ∀ us : List Value, us.length = p79.length → bindArgs (PySem.W.fnOf (nm 79) (nm 79) (defArgs s79) (defBody s79) (defScope s79) .none kV doc pm an cdv ct) ⟨us, []⟩ = pure (p79.zip us) := fun us hl => match us, hl with | [_], _ => rfl
def d79 : He.DefD := ⟨(nm 79, none), nm 79, nm 79, defArgs s79, defBody s79, defScope s79, [], []⟩
abbrev s81 : Stmt := (C8.clsBody (top 3)).getD 0 (.Pass ⟨0, 0, 0, 0⟩)
abbrev p81 : List Str := ("self" : Str) :: ([100000] : List Nat).map nm
theorem ck81 : initB (([100000] : List Nat).map nm) (defBody s81) = true := by decide +kernel
theorem sc81 : C8.scC p81 p81 (defScope s81) = true := by decide +kernel
theorem bd81 (kV doc pm : Value) (an : Option Addr) (cdv ct : Value) : ∀ us : List Value, us.length = p81.length → bindArgs (PySem.W.fnOf "__init__" ("NoMarks.__init__" : Str) (defArgs s81) (defBody s81) (defScope s81) .none kV doc pm an cdv ct) ⟨us, []⟩ = pure (p81.zip us) := fun us hl => match us, hl with | [_, _], _ => rfl
def d81 : He.DefD := ⟨(nm 81, some "__init__"), "__init__", ("NoMarks.__init__" : Str), defArgs s81, defBody s81, defScope s81, [], []⟩
def fn : List He.DefD := [d1, d72, d73, d74, d75, d76, d77, d78, d79, d81]
def fa : List He.Fa := bnames.map He.Fa.free ++ [.glo (nm 1), .glo (nm 72), .glo (nm 73), .glo (nm 74), .glo (nm 75), .glo (nm 76), .glo (nm 77), .glo (nm 78), .glo (nm 79)]
def cs : List (Str × D) := [(nm 80, c80)]
def ex (K : PySem.W.Frag) : Bool := exG cs nm xs sb bt hc K
abbrev R : PySem.W.OpenRow := PySem.W.OpenLaw.row PySem.Challenge.rw_keptsigns_k73_marks_read_back
abbrev hk : PySem.W.Hook := He.hookX 6 fa fn [] [] ex
def ob (s : PySem.W.SharedT) : He.AlX := He.obsX 6 fa fn [] [] ex (HandSHeadRun.getT s)
theorem ob_eq (s : PySem.W.SharedT) : ob s = hk.obs s.abs := He.obsX_eq (HandSHeadRun.getT_eq s)
def loose0 : List PySem.Str := ["is_text", "sides_of", "_law_stream", "_law_take", "_law_same", "_law_text", "_law_due", "_law_told", "SignError", "NoText", "NoMarks", "MARKS"]
abbrev loose : List PySem.Str := loose0
theorem run (w : World) : HandSHeadRun.RunEq R (PySem.W.view R.prog [16]) hk ob 4000 loose w := by
  intro os
  kernel_rfl
theorem defs_ok {K : PySem.W.Frag} {h : Heap} {mg : Str → Option Value} (X : K.In h) (G : h.Ns mainGlobals mg) (c : He.SaysD fa fn K) : ∀ g f, P.fn g = some f → (∃ st N ps fa fd, DefOk nm K f st N ps fa fd ∧ (g < 200000 → mg (nm g) = some (.ref fa) ∧ PySem.W.keepIn K (.ref fa) = true)) ∨
      (∃ c gi fi st N ps fa fd, f.body = [.newi c gi] ∧ f.slots = f.ps ∧ g < 200000 ∧ mg (nm g) = some (.ref (He.ga K (nm c))) ∧ c ∈ ([] : List Nat) ∧ P.fn gi = some fi ∧ Mk K (He.ga K (nm c)) fa ∧ DefOk nm K fi st N ps fa fd) := by
  intro g f hf
  have gl : ∀ x, He.Fa.glo x ∈ fa → mg x = some (.ref (He.ga K x)) := fun x hx => He.glo_ok X G (He.SaysD.facts' c hx)
  have hm : (g, f) ∈ fns := mem_of_lookup' hf
  unfold fns at hm
  simp only [List.mem_cons, List.not_mem_nil, or_false, Prod.mk.injEq] at hm
  rcases hm with ⟨rfl, rfl⟩ | ⟨rfl, rfl⟩ | ⟨rfl, rfl⟩ | ⟨rfl, rfl⟩ | ⟨rfl, rfl⟩ | ⟨rfl, rfl⟩ | ⟨rfl, rfl⟩ | ⟨rfl, rfl⟩ | ⟨rfl, rfl⟩
  · obtain ⟨fd, F⟩ := He.SaysD.defs' c (d := d1) (by unfold fn; simp)
    exact .inl ⟨s1, N1, p1, _, fd, ⟨⟨_, _, F⟩, F.bindsN (bd1), sc1, rfl, rfl, ck1⟩, fun _ => ⟨gl _ (by unfold fa; simp), F.kp⟩⟩
  · obtain ⟨fd, F⟩ := He.SaysD.defs' c (d := d72) (by unfold fn; simp)
    exact .inl ⟨s72, N72, p72, _, fd, ⟨⟨_, _, F⟩, F.bindsN (bd72), sc72, rfl, rfl, ck72⟩, fun _ => ⟨gl _ (by unfold fa; simp), F.kp⟩⟩
  · obtain ⟨fd, F⟩ := He.SaysD.defs' c (d := d73) (by unfold fn; simp)
    exact .inl ⟨s73, N73, p73, _, fd, ⟨⟨_, _, F⟩, F.bindsN (bd73), sc73, rfl, rfl, ck73⟩, fun _ => ⟨gl _ (by unfold fa; simp), F.kp⟩⟩
  · obtain ⟨fd, F⟩ := He.SaysD.defs' c (d := d74) (by unfold fn; simp)
    exact .inl ⟨s74, N74, p74, _, fd, ⟨⟨_, _, F⟩, F.bindsN (bd74), sc74, rfl, rfl, ck74⟩, fun _ => ⟨gl _ (by unfold fa; simp), F.kp⟩⟩
  · obtain ⟨fd, F⟩ := He.SaysD.defs' c (d := d75) (by unfold fn; simp)
    exact .inl ⟨s75, N75, p75, _, fd, ⟨⟨_, _, F⟩, F.bindsN (bd75), sc75, rfl, rfl, ck75⟩, fun _ => ⟨gl _ (by unfold fa; simp), F.kp⟩⟩
  · obtain ⟨fd, F⟩ := He.SaysD.defs' c (d := d76) (by unfold fn; simp)
    exact .inl ⟨s76, N76, p76, _, fd, ⟨⟨_, _, F⟩, F.bindsN (bd76), sc76, rfl, rfl, ck76⟩, fun _ => ⟨gl _ (by unfold fa; simp), F.kp⟩⟩
  · obtain ⟨fd, F⟩ := He.SaysD.defs' c (d := d77) (by unfold fn; simp)
    exact .inl ⟨s77, N77, p77, _, fd, ⟨⟨_, _, F⟩, F.bindsN (bd77), sc77, rfl, rfl, ck77⟩, fun _ => ⟨gl _ (by unfold fa; simp), F.kp⟩⟩
  · obtain ⟨fd, F⟩ := He.SaysD.defs' c (d := d78) (by unfold fn; simp)
    exact .inl ⟨s78, N78, p78, _, fd, ⟨⟨_, _, F⟩, F.bindsN (bd78), sc78, rfl, rfl, ck78⟩, fun _ => ⟨gl _ (by unfold fa; simp), F.kp⟩⟩
  · obtain ⟨fd, F⟩ := He.SaysD.defs' c (d := d79) (by unfold fn; simp)
    exact .inl ⟨s79, N79, p79, _, fd, ⟨⟨_, _, F⟩, F.bindsN (bd79), sc79, rfl, rfl, ck79⟩, fun _ => ⟨gl _ (by unfold fa; simp), F.kp⟩⟩
theorem gls_ok {K : PySem.W.Frag} {h : Heap} {mg : Str → Option Value} {G' : Nat → V → Prop} (X : K.In h) (G : h.Ns mainGlobals mg) (c : exB cs K = true) : ∀ g d, P.gl g = some d → ∃ v u, mg (nm g) = some u ∧ RelV v u ∧ ∀ μ H, Rep K G' μ H d v := by
  intro g d hd
  have hm : (g, d) ∈ gls := mem_of_lookup' hd
  unfold exB cs at c
  simp only [List.all_cons, List.all_nil, Bool.and_eq_true, Bool.and_true] at c
  unfold gls at hm
  simp only [List.mem_cons, List.not_mem_nil, or_false, Prod.mk.injEq] at hm
  rcases hm with ⟨rfl, rfl⟩
  · exact cstB_ok X G c
theorem glt_ok {K : PySem.W.Frag} {h : Heap} {mg : Str → Option Value} (X : K.In h) (G : h.Ns mainGlobals mg) (c : exB cs K = true) : ∀ g xs, P.gl g = some (.tup xs) → ∃ p o, mg (nm g) = some (.ref p) ∧ K.lookup p = some o ∧ o.cls = .type "tuple" ∧ o.dict = none := by
  intro g xs hd
  generalize hx : D.tup xs = d at hd
  have hm : (g, d) ∈ gls := mem_of_lookup' hd
  unfold exB cs at c
  simp only [List.all_cons, List.all_nil, Bool.and_eq_true, Bool.and_true] at c
  unfold gls at hm
  simp only [List.mem_cons, List.not_mem_nil, or_false, Prod.mk.injEq] at hm
  rcases hm with ⟨rfl, rfl⟩
  · exact cstB_tup X G c
theorem xs_ok {prog : Program} {w : World} {base : Heap} {K : PySem.W.Frag} {h : Heap} {mg : Str → Option Value} (X : K.In h) (G : h.Ns mainGlobals mg) (c : He.SaysD fa fn K) (b : ∀ p ∈ xs, xcB K nm p = true) : ∀ c fs, P.xf c = some fs → mg (nm c) = some (.ref (He.ga K (nm c))) ∧ (fs = [] ∨ fs.length ≤ 900) ∧ ExcI prog w K mg base (He.ga K (nm c)) (fs.map nm) ∧ XfC K (He.ga K (nm c)) ∧ ∀ f, f ∈ fs → PySem.W.findIn K (.ref (He.ga K (nm c))) (nm f) = some none := by
  intro e fs he
  have hm : (e, fs) ∈ xs := mem_of_lookup' he
  have hb := b _ hm
  unfold xs at hm
  simp only [List.mem_cons, List.not_mem_nil, or_false, Prod.mk.injEq] at hm
  rcases hm with ⟨rfl, rfl⟩ | ⟨rfl, rfl⟩
  · exact xc_bare X G hb
  · obtain ⟨fd, F⟩ := He.SaysD.defs' c (d := d81) (by unfold fn; simp)
    exact xc_init X G hb F (F.bindsN (bd81)) sc81 ck81 (by decide +kernel) (by decide)
end Mini.K73
open PySem PySem.W PySem.Calls in
theorem Mini.K73.holds (hlaw : ∀ ns : List Int, ns.length ≤ 63 → ∃ st', Mini.callN Mini.K73.P 60 79 [.rol (ns.map .int)] [] = some (.ok (.bl true), st')) : PySem.Challenge.rw_keptsigns_k73_marks_read_back.Holds := by
  w_on; o_law
  refine HandSHeadRun.head_any (r := OpenLaw.row PySem.Challenge.rw_keptsigns_k73_marks_read_back) (q := view (OpenLaw.row PySem.Challenge.rw_keptsigns_k73_marks_read_back).prog [16]) (H := Mini.K73.hk) (ob := Mini.K73.ob) (M := 4000) (loose := Mini.K73.loose) (d := HandSHeadRun.topDef (OpenLaw.row PySem.Challenge.rw_keptsigns_k73_marks_read_back).prog 16) (kwd := []) Mini.K73.ob_eq
    (by kernel_rfl) (fun s => by kernel_rfl) Mini.K73.run (by kernel_rfl) (by kernel_rfl) (by kernel_rfl) (by rfl) (by first | assumption | decide +kernel) (by decide +kernel) ⟨rfl, rfl, rfl, rfl, rfl, by decide +kernel⟩ ?hw ?hc
  case hw => w_witness2
  case hc =>
    refine L2.walk_ofE (l := PySem.Challenge.rw_keptsigns_k73_marks_read_back) (n := 63) (k := 62) (x := "_law_script") (CX := L2.CX0) rfl (by decide) (by kernel_rfl) ⟨rfl, by decide, by decide⟩ ?F (fun _ _ _ _ z => z)
    intro w mg fa h Y G hmg0
    obtain ⟨K, KX, cX⟩ := Y
    have c : He.SaysD Mini.K73.fa Mini.K73.fn K := cX.t.d
    obtain ⟨e1, e2, e3, e4⟩ := Mini.exG_ok (show Mini.exG Mini.K73.cs Mini.K73.nm Mini.K73.xs Mini.K73.sb Mini.K73.bt Mini.K73.hc K = true from cX.more)
    have hmg : mg ("law" : PySem.Str) = some (.ref fa) := by
      have e : (HandSHeadRun.topDef (OpenLaw.row PySem.Challenge.rw_keptsigns_k73_marks_read_back).prog 16).name = ("law" : PySem.Str) := by kernel_rfl
      rw [← e]
      exact hmg0
    obtain ⟨fd, F⟩ := He.SaysD.defs' c (d := Mini.K73.d79) (by unfold Mini.K73.fn; simp)
    have e := hmg.symm.trans (He.glo_ok KX G (x := Mini.K73.nm 79) (He.SaysD.facts' c (by unfold Mini.K73.fa; simp)))
    cases e
    have b := L2.FunD.bindsA (ps := Mini.K73.p79) F (Mini.K73.bd79)
    have pg : ∀ {base : Heap}, K.In base → base.Ns mainGlobals mg → Mini.Prg (OpenLaw.row PySem.Challenge.rw_keptsigns_k73_marks_read_back).prog w Mini.K73.P K mg base (Mini.GG K Mini.K73.nm [] []) (Mini.XX K Mini.K73.nm Mini.K73.P) Mini.K73.nm := fun {base} KB GB =>
      Mini.prg_gen (fun x hx => He.free_ok KB GB (He.SaysD.facts' c (by unfold Mini.K73.fa; exact List.mem_append_left _ (List.mem_map_of_mem hx)))) (Mini.K73.gls_ok KB GB e1) (Mini.K73.glt_ok KB GB e1) (Mini.K73.defs_ok KB GB c) (by decide) rfl (fun _ z => by simp at z) (fun _ z => by simp at z) (Mini.fld_inj (by decide +kernel)) (fun _ _ z => by cases z) (Mini.K73.xs_ok KB GB c e2) (Mini.hcl_all KB GB e4) (Mini.sub_all KB GB e3)
    refine ⟨K, fd, _, KX, fun s v => b s [v] rfl, fun H a ns hl hO hS => ?_, fun base KB GB => Mini.FnOk.calm (Mini.fn_all (pg KB GB) 60 79 Mini.f79 Mini.K73.s79 Mini.K73.N79 Mini.K73.p79 _ fd rfl ⟨⟨_, _, F⟩, F.bindsN (Mini.K73.bd79), Mini.K73.sc79, rfl, rfl, Mini.K73.ck79⟩)⟩
    obtain ⟨st', h⟩ := hlaw ns hl
    exact Mini.law_sp (F := Mini.Fx Mini.K73.P K (Mini.GG K Mini.K73.nm [] []) (Mini.XX K Mini.K73.nm Mini.K73.P) 60) hO hS h

theorem PySem.Challenge.cw_keptsigns_k73_marks_read_back_holds : PySem.Challenge.rw_keptsigns_k73_marks_read_back.Holds := by
  exact Mini.K73.holds Mini.K73.law_true
