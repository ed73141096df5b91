import PyProof.Rows.All
import Wide.All
import OpenK.AllK
import Wide.FinOn
import HandS.ForMost
import HandS.More
import HandS.StrMore
import HandS.Exc
import HandS.Star
import HandS.Defaults
import HandS.TupAny
import HandS.TupLe
import HandS.IsInst
import HandS.Property
import HandS.ExcSuper
import HandS.TryMany
import HandS.Style
import HandS.StrSplit
import HandS.Flow
import HandS.RaiseMore
import HandS.Codes
import HandS.Iter
import HandS.Small
import HandS.Ends
import HandS.HeadHook2
import HandS.Head2
import HandS.HeadEnd
import PySem.Challenge.RW_replinput_k02_texts_lines_words_names
set_option Elab.async false
set_option linter.all false
set_option maxRecDepth 100000
section
set_option maxHeartbeats 4000000
namespace PC
open PySem

/-- a key of a dict -/
inductive DK where
  | i (k : Int)
  | s (x : List Nat)
  deriving DecidableEq

/-- data: what a value of the program is, without addresses (ref: a cell of the evaluator's own heap) -/
inductive D where
  | non
  | bl (b : Bool)
  | int (i : Int)
  | str (s : List Nat)
  | tup (l : List D)
  | lst (l : List D)
  | dct (ks : List DK) (vs : List D)
  | obj (c : Nat) (ns : List Nat) (vs : List D)
  | ref (i : Nat)

/-- what a cell of the evaluator's heap holds; lck: a list that a loop walks -/
inductive Cell where
  | lst (l : List D)
  | lck (l : List D)
  | dct (ks : List DK) (vs : List D)
  | ins (c : Nat) (ns : List Nat) (vs : List D)
  | dead
abbrev G := List Cell
abbrev Env := List (Option D)

/-- an exception of one of the program's classes, its fields -/
structure Ex where
  c : Nat
  ns : List Nat
  vs : List D

inductive R (α : Type) where
  | ok (a : α) (g : G)
  | exc (x : Ex) (g : G)
  | stk
@[simp] def R.bind {α β : Type} (m : R α) (k : α → G → R β) : R β := match m with
  | .ok a g => k a g
  | .exc x g => .exc x g
  | .stk => .stk
/-- an answer that may lack -/
def opt {α : Type} (o : Option α) (g : G) : R α := match o with
  | some a => .ok a g
  | none => .stk
@[simp] theorem opt_some {α : Type} (a : α) (g : G) : opt (some a) g = .ok a g := rfl
@[simp] theorem opt_none {α : Type} (g : G) : opt (none : Option α) g = .stk := rfl

inductive Bop where | add | sub | mul | fdiv | mod | pow
  deriving DecidableEq
inductive Cop where | eq | ne | lt | le | gt | ge | is_ | isnot | in_ | notin
  deriving DecidableEq
/-- built-in functions -/
inductive Bi where | len | all | any | min2 | max2 | repr | tuple | list | str | int | sorted | bool
  deriving DecidableEq
/-- methods of built-in types -/
inductive Bm where | append | extend | pop | popi | insert | join | startswith | endswith | split | strip | lstrip | upper | replace | replaceN | find2 | rfind | rfind3 | count | index | index2 | partition | get | get2 | items | update
  deriving DecidableEq
/-- types that are asked for -/
inductive Ty where | str | int | bool | tuple | list | cls (c : Nat)
  deriving DecidableEq

/-- code of an expression. star: within an argument list or a display; nil: nothing (a bound of a slice, a test of a comprehension that lacks);
 range, enum, zip: what a loop walks, only there; frz: the list in a cell becomes a value -/
inductive E where
  | nil
  | loc (i : Nat)
  | con (d : D)
  | glo (g : Nat)
  | bin (o : Bop) (a b : E)
  | neg (a : E)
  | not_ (a : E)
  | and_ (a b : E)
  | or_ (a b : E)
  | cmp (o : Cop) (a b : E)
  | chain (o p : Cop) (a b c : E)
  | ite (c a b : E)
  | call (f : Nat) (as : List E)
  | callK (f : Nat) (as : List E) (es : List E)
  | meth (m : Nat) (o : E) (as : List E)
  | make (c : Nat) (as : List E)
  | fld (f : Nat) (o : E)
  | prop (m : Nat) (o : E)
  | bi (b : Bi) (as : List E)
  | isi (t : List Ty) (a : E)
  | bm (m : Bm) (o : E) (as : List E)
  | sub (o i : E)
  | slc (o lo hi : E)
  | rev (o : E)
  | tup (as : List E)
  | lst (h : Bool) (as : List E)
  | dct (h : Bool) (ks : List DK) (vs : List E)
  | star (a : E)
  | frz (a : E)
  | comp (h : Bool) (own : List Nat) (tg : List Nat) (one : Bool) (it cond elt : E)
  | range (as : List E)
  | enum (a : E)
  | zip (a b : E)

/-- code of a statement -/
inductive S where
  | pass | brk | cont
  | ex (e : E)
  | ret (e : E)
  | retN
  | set (i : Nat) (e : E)
  | unp (is : List Nat) (e : E)
  | par (is : List Nat) (es : List E)
  | setF (f : Nat) (o e : E)
  | setI (o i e : E)
  | aug (i : Nat) (o : Bop) (e : E)
  | augF (f : Nat) (o : E) (p : Bop) (e : E)
  | ite (c : E) (a b : List S)
  | while_ (c : E) (b : List S)
  | for_ (one : Bool) (tg : List Nat) (it : E) (b : List S)
  | mtch (e : E) (ks : List (List (List Nat))) (bs : List (List S))
  | raise (c : Nat) (as : List E)

/-! ### data -/
/-- most items that a list, a text may have here -/
def LIM : Nat := 1000000
/-- a list's cell as its value -/
def top (g : G) : D → D
  | .ref i => match g[i]? with
    | some (.lst l) => .lst l
    | some (.lck l) => .lst l
    | _ => .ref i
  | d => d
/-- the items of a sequence -/
def seqD (g : G) (d : D) : Option (List D) := match top g d with
  | .tup l => some l
  | .lst l => some l
  | _ => none
def dctD (g : G) : D → Option (List DK × List D)
  | .dct ks vs => some (ks, vs)
  | .ref i => match g[i]? with
    | some (.dct ks vs) => some (ks, vs)
    | _ => none
  | _ => none
def lookD : List DK → List D → DK → Option D
  | k :: ks, v :: vs, x => if k = x then some v else lookD ks vs x
  | _, _, _ => none
/-- d[k] = v -/
def putDk : List DK → DK → List DK
  | k :: ks, x => if k = x then k :: ks else k :: putDk ks x
  | [], x => [x]
def putDv : List DK → List D → DK → D → List D
  | k :: ks, v :: vs, x, y => if k = x then y :: vs else v :: putDv ks vs x y
  | _, _, _, y => [y]
def keyD : D → Option DK
  | .int i => some (.i i)
  | .str s => some (.s s)
  | _ => none
/-- an int is not looked for among texts -/
def kOk : DK → List DK → Bool
  | .i _, ks => ks.all fun k => match k with
    | .i _ => true
    | .s _ => false
  | .s _, _ => true
/-- truth -/
def tru (g : G) (d : D) : Option Bool := match top g d with
  | .non => some false
  | .bl b => some b
  | .int i => some (i != 0)
  | .str s => if decide (s.length ≤ LIM) then some (!s.isEmpty) else none
  | .tup l => some (!l.isEmpty)
  | .lst l => some (!l.isEmpty)
  | _ => none
/-- plain data of at most that depth: no objects, dicts, cells -/
def plN : Nat → D → Bool
  | 0, _ => false
  | n + 1, d => match d with
    | .non => true
    | .bl _ => true
    | .int _ => true
    | .str s => s.all fun c => decide (c < 1114112)
    | .tup l => l.all (plN n)
    | .lst l => l.all (plN n)
    | _ => false
/-- two rows of data, item by item -/
def eqL (f : D → D → Option Bool) (p : D → Bool) : List D → List D → Option Bool
  | [], [] => some true
  | a :: as, b :: bs => match f a b, eqL f p as bs with
    | some x, some y => some (x && y)
    | _, _ => none
  | as, bs => if as.all p && bs.all p then some false else none
/-- == of plain data -/
def eqN : Nat → D → D → Option Bool
  | 0, _, _ => none
  | n + 1, x, y => match x, y with
    | .non, .non => some true
    | .bl a, .bl b => some (a == b)
    | .int a, .int b => some (a == b)
    | .str a, .str b => if (plN (n + 1) (.str a) && plN (n + 1) (.str b)) = true then some (a == b) else none
    | .bl _, .int _ => none
    | .int _, .bl _ => none
    | .tup a, .tup b => eqL (eqN n) (plN n) a b
    | .lst a, .lst b => eqL (eqN n) (plN n) a b
    | x, y => if (plN (n + 1) x && plN (n + 1) y) = true then some false else none
/-- == of two scalars -/
def sclE : D → D → Option Bool
  | .non, .non => some true
  | .int a, .int b => some (decide (a = b))
  | .bl a, .bl b => some (decide (a = b))
  | .str a, .str b => some (decide (a = b))
  | .non, .int _ => some false
  | .int _, .non => some false
  | .non, .bl _ => some false
  | .bl _, .non => some false
  | .non, .str _ => some false
  | .str _, .non => some false
  | .int _, .str _ => some false
  | .str _, .int _ => some false
  | .bl _, .str _ => some false
  | .str _, .bl _ => some false
  | _, _ => none
def eqG (g : G) (x y : D) : Option Bool := match sclE x y with
  | some b => some b
  | none => eqN 50 (top g x) (top g y)

/-- a text of the program -/
def st (l : List Nat) : Str := ⟨l.toArray⟩
mutual
/-- plain data as the library tells them -/
def toP : D → PyData
  | .non => .none
  | .bl b => .bool b
  | .int i => .int i
  | .str s => .str (st s)
  | .tup l => .tuple (toPs l)
  | .lst l => .list (toPs l)
  | _ => .none
def toPs : List D → List PyData
  | [] => []
  | d :: ds => toP d :: toPs ds
end
/-- repr -/
def reprD (g : G) (x : D) : Option (List Nat) :=
  if plN 50 (top g x) && ((toP (top g x)).showable && decide ((toP (top g x)).shown.length ≤ LIM)) then some (toP (top g x)).shown.cps.toList else none
@[simp] theorem st_list (l : List Nat) : (st l).cps.toList = l := by simp [st]
@[simp] theorem st_length (l : List Nat) : (st l).length = l.length := by simp [st, Str.length]
theorem st_of (x : Str) : st x.cps.toList = x := by simp [st]
def inStr (x y : List Nat) : Bool := match x with
  | [c] => decide (c ∈ y)
  | _ => !(Builtin.Str.occurrences (st y) (st x) 0 (st y).length 1).isEmpty
def strL (l : List Str) : D := .lst (l.map fun x => .str x.cps.toList)
/-- a flat thing: what x in xs may ask for here -/
def fl : D → Bool
  | .non => false
  | .bl _ => false
  | .int _ => true
  | .str _ => true
  | _ => false
def flEq : D → D → Bool
  | .int a, .int b => decide (a = b)
  | .str a, .str b => decide (a = b)
  | _, _ => false
def inD (g : G) (x y : D) : Option Bool := match top g y with
  | .str s => match x with
    | .str r => some (inStr r s)
    | _ => none
  | .tup l => if fl x && l.all fl then some (l.any fun z => flEq z x) else none
  | .lst l => if fl x && l.all fl then some (l.any fun z => flEq z x) else none
  | y => match dctD g y, keyD x with
    | some (ks, _), some k => if kOk k ks then some (decide (k ∈ ks)) else none
    | _, _ => none
def isNon : D → Bool
  | .non => true
  | _ => false
def cmpD (g : G) : Cop → D → D → Option Bool
  | .eq, x, y => eqG g x y
  | .ne, x, y => (eqG g x y).map not
  | .lt, .int a, .int b => some (decide (a < b))
  | .le, .int a, .int b => some (decide (a ≤ b))
  | .gt, .int a, .int b => some (decide (b < a))
  | .ge, .int a, .int b => some (decide (b ≤ a))
  | .lt, .str a, .str b => some (decide (a < b))
  | .le, .str a, .str b => some (!decide (b < a))
  | .gt, .str a, .str b => some (decide (b < a))
  | .ge, .str a, .str b => some (!decide (a < b))
  | .is_, x, .non => some (isNon x)
  | .isnot, x, .non => some (!isNon x)
  | .is_, .bl a, .bl b => some (decide (a = b))
  | .isnot, .bl a, .bl b => some (!decide (a = b))
  | .in_, x, y => inD g x y
  | .notin, x, y => (inD g x y).map not
  | _, _, _ => none
def sml (i : Int) : Bool := decide (-(2 ^ 64) < i) && decide (i < 2 ^ 64)
def binD (g : G) (o : Bop) (x y : D) : Option D := match o, top g x, top g y with
  | .add, .int a, .int b => some (.int (a + b))
  | .sub, .int a, .int b => some (.int (a - b))
  | .mul, .int a, .int b => if sml a then some (.int (a * b)) else none
  | .fdiv, .int a, .int b => if decide (0 < b) && decide (b < 1073741824) then some (.int (a / b)) else none
  | .mod, .int a, .int b => if decide (0 < b) then some (.int (a % b)) else none
  | .pow, .int a, .int b => if decide (0 ≤ b) && (decide (b ≤ 1000000) && sml a) then some (.int (a ^ b.toNat)) else none
  | .add, .str a, .str b => if decide (a.length + b.length ≤ LIM) then some (.str (a ++ b)) else none
  | .add, .tup a, .tup b => if decide (a.length + b.length ≤ LIM) then some (.tup (a ++ b)) else none
  | .add, .lst a, .lst b => if decide (a.length + b.length ≤ LIM) then some (.lst (a ++ b)) else none
  | _, _, _ => none
def subD (g : G) (o i : D) : Option D := match top g o, i with
  | .tup l, .int k => (L2.ixN l.length k).bind fun j => l[j]?
  | .lst l, .int k => (L2.ixN l.length k).bind fun j => l[j]?
  | .str s, .int k => if decide (s.length ≤ LIM) then (L2.ixN s.length k).bind fun j => s[j]?.map fun c => .str [c] else none
  | o, i => match dctD g o, keyD i with
    | some (ks, vs), some k => if kOk k ks then lookD ks vs k else none
    | _, _ => none
/-- a bound of a slice -/
def bnd : D → Option (Option Int)
  | .non => some none
  | .int i => some (some i)
  | _ => none
def cutL {α : Type} (l : List α) (lo hi : Option Int) : List α := (l.drop (HT.sIx l.length 0 lo)).take (HT.sIx l.length l.length hi - HT.sIx l.length 0 lo)
def slcD (g : G) (o lo hi : D) : Option D := match bnd lo, bnd hi with
  | some a, some b => match top g o with
    | .tup l => some (.tup (cutL l a b))
    | .lst l => some (.lst (cutL l a b))
    | .str s => if decide (s.length ≤ LIM) then some (.str (cutL s a b)) else none
    | _ => none
  | _, _ => none
def bools : List D → Option (List Bool)
  | [] => some []
  | .bl b :: r => (bools r).map (b :: ·)
  | _ => none
def txts : List D → Option (List (List Nat))
  | [] => some []
  | .str b :: r => (txts r).map (b :: ·)
  | _ => none
def isTy (t : Ty) : D → Bool
  | .str _ => t == .str
  | .int _ => t == .int
  | .bl _ => t == .int || t == .bool
  | .tup _ => t == .tuple
  | .lst _ => t == .list
  | _ => false

/-! ### tables -/
/-- a def: how many parameters, the defaults of the last of them, how many names, whether the last parameter takes the rest,
 whether it runs on a heap of its own, its body -/
structure Fn where
  np : Nat
  dfl : List D
  nn : Nat
  va : Bool
  iso : Bool
  body : List S
/-- what the text has by numbers: defs, a class's methods, constants, classes whose instances are values (their fields, in the order of __init__'s parameters, and its defaults),
 classes whose instances are cells (the number of __init__), the field of an exception class, the classes that a class is one of -/
structure Tab where
  fn : Nat → Option Fn
  mt : Nat → Nat → Option Nat
  glo : Nat → Option D
  rcd : Nat → Option (List Nat × List D)
  ini : Nat → Option Nat
  exf : Nat → Option Nat
  sub : Nat → Nat → Bool
abbrev CF := Nat → List D → G → R D
/-- the class of an instance -/
def clsD (g : G) : D → Option Nat
  | .obj c _ _ => some c
  | .ref i => match g[i]? with
    | some (.ins c _ _) => some c
    | _ => none
  | _ => none
/-- the class of an instance that has no field m of its own -/
def metD (g : G) (m : Nat) : D → Option Nat
  | .obj c ns _ => if ns.contains m then none else some c
  | .ref i => match g[i]? with
    | some (.ins c ns _) => if ns.contains m then none else some c
    | _ => none
  | _ => none
def lookF : List Nat → List D → Nat → Option D
  | n :: ns, v :: vs, x => if n = x then some v else lookF ns vs x
  | _, _, _ => none
def putFn : List Nat → Nat → List Nat
  | n :: ns, x => if n = x then n :: ns else n :: putFn ns x
  | [], x => [x]
def putFv : List Nat → List D → Nat → D → List D
  | n :: ns, v :: vs, x, y => if n = x then y :: vs else v :: putFv ns vs x y
  | _, _, _, y => [y]
def fldD (g : G) (f : Nat) : D → Option D
  | .obj _ ns vs => lookF ns vs f
  | .ref i => match g[i]? with
    | some (.ins _ ns vs) => lookF ns vs f
    | _ => none
  | _ => none
/-- the arguments in the parameters' order, defaults among them -/
def bindA (F : Fn) (vs : List D) : Option (List D) :=
  if F.va then (if F.np ≤ vs.length + 1 then some (vs.take (F.np - 1) ++ [.tup (vs.drop (F.np - 1))]) else none)
  else if vs.length ≤ F.np ∧ F.np ≤ vs.length + F.dfl.length then some (vs ++ F.dfl.drop (F.dfl.length - (F.np - vs.length))) else none
def isTyG (T : Tab) (g : G) (t : Ty) (d : D) : Option Bool := match clsD g d with
  | some c => (match t with
    | .cls c' => some (T.sub c c')
    | _ => none)
  | none => (match top g d with
    | .obj _ _ _ => none
    | .ref i => (match g[i]? with
      | some (.dct _ _) => some false
      | _ => none)
    | d => some (isTy t d))
def anyTy (T : Tab) (g : G) (d : D) : List Ty → Option Bool
  | [] => some false
  | t :: ts => match isTyG T g t d, anyTy T g d ts with
    | some a, some b => some (a || b)
    | _, _ => none

/-! ### built-in functions and methods -/
def biD (g : G) : Bi → List D → R D
  | .len, [x] => (match top g x with
    | .str s => if decide (s.length ≤ LIM) then .ok (.int s.length) g else .stk
    | .tup l => .ok (.int l.length) g
    | .lst l => .ok (.int l.length) g
    | _ => .stk)
  | .all, [x] => (match top g x with
    | .lst l => opt ((bools l).map fun bs => .bl (bs.all id)) g
    | _ => .stk)
  | .any, [x] => (match top g x with
    | .lst l => opt ((bools l).map fun bs => .bl (bs.any id)) g
    | _ => .stk)
  | .min2, [.int i, .int j] => .ok (.int (if j < i then j else i)) g
  | .max2, [.int i, .int j] => .ok (.int (if j > i then j else i)) g
  | .tuple, [x] => (match top g x with
    | .tup l => .ok (.tup l) g
    | .lst l => .ok (.tup l) g
    | _ => .stk)
  | .repr, [x] => opt ((reprD g x).map .str) g
  | .list, [x] => (match top g x with
    | .tup l => .ok (.lst l) g
    | .lst l => .ok (.lst l) g
    | _ => .stk)
  | _, _ => .stk
def total (sep : Nat) (l : List (List Nat)) : Nat := (l.map fun x => x.length + sep).sum
def joinL (sep : List Nat) : List (List Nat) → List Nat
  | [] => []
  | [x] => x
  | x :: r => x ++ sep ++ joinL sep r
def isS : D → Bool
  | .str _ => true
  | _ => false
def isL (g : G) (x : D) : Bool := match top g x with
  | .lst _ => true
  | _ => false
/-- the receiver is of the type that has the method -/
def bmT (g : G) (m : Bm) (x : D) : Bool := match m with
  | .append => isL g x
  | .extend => isL g x
  | .pop => isL g x
  | .popi => isL g x
  | .insert => isL g x
  | .get => false
  | .get2 => false
  | .items => false
  | .update => false
  | _ => isS x
def bmD (g : G) : Bm → D → List D → R D
  | .append, .ref i, [x] => (match g[i]? with
    | some (.lst l) => if decide (l.length < LIM) then .ok .non (g.set i (.lst (l ++ [x]))) else .stk
    | _ => .stk)
  | .join, .str a, [x] => (match seqD g x with
    | some l => (match txts l with
      | some ts => if decide (total a.length ts ≤ LIM) then .ok (.str (joinL a ts)) g else .stk
      | none => .stk)
    | none => .stk)
  | .startswith, .str a, [.str b] => .ok (.bl (Txt.startswith (st a) (st b))) g
  | .endswith, .str a, [.str b] => .ok (.bl (Txt.endswith (st a) (st b))) g
  | .strip, .str a, [] => if decide (a.length ≤ LIM) then .ok (.str (Txt.strip (st a)).cps.toList) g else .stk
  | .lstrip, .str a, [] => if decide (a.length ≤ LIM) then .ok (.str (Txt.lstrip (st a)).cps.toList) g else .stk
  | .count, .str a, [.str b] => .ok (.int (Txt.count (st a) (st b))) g
  | .find2, .str a, [.str b] => .ok (.int (Txt.find (st a) (st b))) g
  | .upper, .str a, [] => if decide (a.length ≤ LIM) then .ok (.str (Txt.upper (st a)).cps.toList) g else .stk
  | _, _, _ => .stk

/-! ### the evaluator -/
/-- the items that a loop walks, and the cell that is locked meanwhile -/
def itemsD (g : G) (d : D) : Option (List D × Option Nat) := match d with
  | .tup l => some (l, none)
  | .lst l => some (l, none)
  | .str s => some (s.map fun c => .str [c], none)
  | .ref i => match g[i]? with
    | some (.lst l) => some (l, some i)
    | _ => none
  | _ => none
def lockG (g : G) : Option Nat → G
  | none => g
  | some i => match g[i]? with
    | some (.lst l) => g.set i (.lck l)
    | _ => g
def freeG (g : G) : Option Nat → Option G
  | none => some g
  | some i => match g[i]? with
    | some (.lck l) => some (g.set i (.lst l))
    | _ => none
/-- pairs (k, x) from k on -/
def enumL (k : Nat) : List D → List D
  | [] => []
  | x :: r => .tup [.int k, x] :: enumL (k + 1) r
def zipL : List D → List D → List D
  | a :: as, b :: bs => .tup [a, b] :: zipL as bs
  | _, _ => []
def rangeL (lo : Int) : Nat → List D
  | 0 => []
  | n + 1 => .int lo :: rangeL (lo + 1) n
/-- a value stored to names -/
def asgD (g : G) (one : Bool) (tg : List Nat) (d : D) (env : Env) : Option Env := match one, tg with
  | true, [i] => some (env.set i (some d))
  | false, is => match d with
    | .tup ds => if ds.length = is.length then some ((is.zip ds).foldl (fun e p => e.set p.1 (some p.2)) env) else none
    | _ => none
  | _, _ => none
def wipeD (env : Env) : List Nat → Env
  | [] => env
  | i :: is => (wipeD env is).set i none
/-- a comprehension's turns -/
def compL (f : D → G → R (Option D)) : List D → G → R (List D)
  | [], g => .ok [] g
  | x :: r, g => match f x g with
    | .ok (some y) g1 => (match compL f r g1 with
      | .ok ys g2 => .ok (y :: ys) g2
      | _ => .stk)
    | .ok none g1 => compL f r g1
    | _ => .stk
/-- a made list: a cell, or a value -/
def mkL (h : Bool) (l : List D) (g : G) : R D :=
  if decide (l.length ≤ LIM) then (if h then .ok (.ref g.length) (g ++ [.lst l]) else .ok (.lst l) g) else .stk
def frzD (d : D) (g : G) : R D := match d with
  | .ref i => match g[i]? with
    | some (.lst l) => .ok (.lst l) (g.set i .dead)
    | some (.dct ks vs) => .ok (.dct ks vs) (g.set i .dead)
    | _ => .stk
  | _ => .stk
/-- the ways in which code is run: as a value (st: to be spliced; nl: nothing), as a test, as what a loop walks -/
structure Md where
  st : Bool
  nl : Bool
  v : Env → G → R D
  t : Env → G → R Bool
  i : Env → G → R (List D × Option Nat)
def Md.of (v : Env → G → R D) : Md :=
  ⟨false, false, v, fun env g => (v env g).bind fun x g1 => opt (tru g1 x) g1, fun env g => (v env g).bind fun x g1 => opt (itemsD g1 x) g1⟩
def Md.it (i : Env → G → R (List D × Option Nat)) : Md := ⟨false, false, fun _ _ => .stk, fun _ _ => .stk, i⟩
/-- a bound that may lack -/
def Md.o (m : Md) (env : Env) (g : G) : R D := match m.nl with
  | true => .ok .non g
  | false => (m.v env g).bind fun x g1 => match x with
    | .int i => .ok (.int i) g1
    | _ => .stk
/-- a comprehension's test -/
def Md.c (m : Md) (env : Env) (g : G) : R Bool := match m.nl with
  | true => .ok true g
  | false => m.t env g
def meR (T : Tab) (cf : CF) (m : Nat) (x : D) (g1 : G) (vs : List D) (g2 : G) : R D := match metD g1 m x with
  | some c => (match T.mt c m with
    | some f => cf f (x :: vs) g2
    | none => .stk)
  | none => .stk
def mkR (T : Tab) (cf : CF) (c : Nat) (vs : List D) (g1 : G) : R D := match T.rcd c with
  | some (fs, ds) => if vs.length ≤ fs.length ∧ fs.length ≤ vs.length + ds.length then .ok (.obj c fs (vs ++ ds.drop (ds.length - (fs.length - vs.length)))) g1 else .stk
  | none => (match T.ini c with
    | some f => (match cf f (.ref g1.length :: vs) (g1 ++ [.ins c [] []]) with
      | .ok .non g2 => .ok (.ref g1.length) g2
      | .ok _ _ => .stk
      | .exc x g2 => .exc x g2
      | .stk => .stk)
    | none => .stk)
def rangeR (vs : List D) (g1 : G) : R (List D × Option Nat) := match vs with
  | [.int n] => if decide (-4611686018427387904 ≤ n ∧ n < 4611686018427387904) then .ok (rangeL 0 n.toNat, none) g1 else .stk
  | [.int a, .int b] => if decide (-4611686018427387904 ≤ a ∧ a < 4611686018427387904 ∧ -4611686018427387904 ≤ b ∧ b < 4611686018427387904) then .ok (rangeL a (b - a).toNat, none) g1 else .stk
  | _ => .stk
/-- a turn of a comprehension -/
def compF (own tg : List Nat) (one : Bool) (cond : Env → G → R Bool) (elt : Env → G → R D) (env : Env) (x : D) (g2 : G) : R (Option D) := match asgD g2 one tg x (wipeD env own) with
  | none => .stk
  | some env2 => (cond env2 g2).bind fun b g3 => match b with
    | true => (elt env2 g3).bind fun y g4 => .ok (some y) g4
    | false => .ok none g3
def compR (h : Bool) (own tg : List Nat) (one : Bool) (cond : Env → G → R Bool) (elt : Env → G → R D) (env : Env) (xs : List D × Option Nat) (g1 : G) : R D :=
  match compL (compF own tg one cond elt env) xs.1 (lockG g1 xs.2) with
  | .ok ys g2 => (match freeG g2 xs.2 with
    | some g3 => mkL h ys g3
    | none => .stk)
  | _ => .stk
mutual
def evM (T : Tab) (cf : CF) : E → Md
  | .nil => ⟨false, true, fun _ _ => .stk, fun _ _ => .stk, fun _ _ => .stk⟩
  | .loc i => .of fun env g => match env[i]? with
    | some (some d) => .ok d g
    | _ => .stk
  | .con d => .of fun _ g => .ok d g
  | .glo n => .of fun _ g => opt (T.glo n) g
  | .bin o a b => .of fun env g => ((evM T cf a).v env g).bind fun x g1 => ((evM T cf b).v env g1).bind fun y g2 => opt (binD g2 o x y) g2
  | .neg a => .of fun env g => ((evM T cf a).v env g).bind fun x g1 => match x with
    | .int i => .ok (.int (-i)) g1
    | _ => .stk
  | .not_ a => { Md.of fun env g => ((evM T cf a).v env g).bind fun x g1 => opt ((tru g1 x).map fun b => .bl (!b)) g1 with
      t := fun env g => ((evM T cf a).t env g).bind fun t g1 => .ok (!t) g1 }
  | .and_ a b => { Md.of fun env g => ((evM T cf a).v env g).bind fun x g1 => match tru g1 x with
      | some true => (evM T cf b).v env g1
      | some false => .ok x g1
      | none => .stk with
      t := fun env g => ((evM T cf a).t env g).bind fun t g1 => match t with
        | true => (evM T cf b).t env g1
        | false => .ok false g1 }
  | .or_ a b => { Md.of fun env g => ((evM T cf a).v env g).bind fun x g1 => match tru g1 x with
      | some true => .ok x g1
      | some false => (evM T cf b).v env g1
      | none => .stk with
      t := fun env g => ((evM T cf a).t env g).bind fun t g1 => match t with
        | true => .ok true g1
        | false => (evM T cf b).t env g1 }
  | .cmp o a b => .of fun env g => ((evM T cf a).v env g).bind fun x g1 => ((evM T cf b).v env g1).bind fun y g2 => opt ((cmpD g2 o x y).map .bl) g2
  | .chain o p a b c => .of fun env g => ((evM T cf a).v env g).bind fun x g1 => ((evM T cf b).v env g1).bind fun y g2 => match cmpD g2 o x y with
    | some true => ((evM T cf c).v env g2).bind fun z g3 => opt ((cmpD g3 p y z).map .bl) g3
    | some false => .ok (.bl false) g2
    | none => .stk
  | .ite c a b => .of fun env g => ((evM T cf c).t env g).bind fun t g1 => match t with
    | true => (evM T cf a).v env g1
    | false => (evM T cf b).v env g1
  | .call f as => .of fun env g => (evs T cf as env g).bind fun vs g1 => cf f vs g1
  | .callK f as es => .of fun env g => (evs T cf as env g).bind fun vs g1 => (evs T cf es env g1).bind fun ws g2 => cf f (vs ++ ws) g2
  | .meth m o as => .of fun env g => ((evM T cf o).v env g).bind fun x g1 => (evs T cf as env g1).bind fun vs g2 => meR T cf m x g1 vs g2
  | .make c as => .of fun env g => (evs T cf as env g).bind fun vs g1 => mkR T cf c vs g1
  | .fld f o => .of fun env g => ((evM T cf o).v env g).bind fun x g1 => opt (fldD g1 f x) g1
  | .prop m o => .of fun env g => ((evM T cf o).v env g).bind fun x g1 => meR T cf m x g1 [] g1
  | .bi b as => .of fun env g => (evs T cf as env g).bind fun vs g1 => biD g1 b vs
  | .isi t a => .of fun env g => ((evM T cf a).v env g).bind fun x g1 => opt ((anyTy T g1 x t).map .bl) g1
  | .bm m o as => .of fun env g => ((evM T cf o).v env g).bind fun x g1 => match bmT g1 m x with
    | true => (evs T cf as env g1).bind fun vs g2 => bmD g2 m x vs
    | false => .stk
  | .sub o i => .of fun env g => ((evM T cf o).v env g).bind fun x g1 => ((evM T cf i).v env g1).bind fun y g2 => opt (subD g2 x y) g2
  | .slc o lo hi => .of fun env g => ((evM T cf o).v env g).bind fun x g1 => ((evM T cf lo).o env g1).bind fun y g2 => ((evM T cf hi).o env g2).bind fun z g3 => opt (slcD g3 x y z) g3
  | .rev o => .of fun env g => ((evM T cf o).v env g).bind fun x g1 => match top g1 x with
    | .lst l => .ok (.lst l.reverse) g1
    | _ => .stk
  | .tup as => .of fun env g => (evs T cf as env g).bind fun vs g1 => if decide (vs.length ≤ LIM) then .ok (.tup vs) g1 else .stk
  | .lst h as => .of fun env g => (evs T cf as env g).bind fun vs g1 => mkL h vs g1
  | .dct h ks es => .of fun env g => (evs T cf es env g).bind fun vs g1 =>
    if decide (vs.length = ks.length ∧ ks.Nodup ∧ ks.length ≤ 15) then (if h then .ok (.ref g1.length) (g1 ++ [.dct ks vs]) else .ok (.dct ks vs) g1) else .stk
  | .star a => { evM T cf a with st := true, nl := false }
  | .frz a => .of fun env g => ((evM T cf a).v env g).bind fun x g1 => frzD x g1
  | .comp h own tg one it cond elt => .of fun env g => ((evM T cf it).i env g).bind fun xs g1 => compR h own tg one (evM T cf cond).c (evM T cf elt).v env xs g1
  | .range as => .it fun env g => (evs T cf as env g).bind fun vs g1 => rangeR vs g1
  | .enum a => .it fun env g => ((evM T cf a).v env g).bind fun x g1 => opt ((itemsD g1 x).map fun p => (enumL 0 p.1, p.2)) g1
  | .zip a b => .it fun env g => ((evM T cf a).v env g).bind fun x g1 => ((evM T cf b).v env g1).bind fun y g2 => match itemsD g2 x, itemsD g2 y with
    | some (xs, none), some (ys, none) => .ok (zipL xs ys, none) g2
    | _, _ => .stk
def evs (T : Tab) (cf : CF) : List E → Env → G → R (List D)
  | [], _, g => .ok [] g
  | a :: r, env, g => ((evM T cf a).v env g).bind fun x g1 => match (evM T cf a).st with
    | true => (match seqD g1 x with
      | some xs => (evs T cf r env g1).bind fun ys g2 => .ok (xs ++ ys) g2
      | none => .stk)
    | false => (evs T cf r env g1).bind fun ys g2 => .ok (x :: ys) g2
end
abbrev ev (T : Tab) (cf : CF) (c : E) : Env → G → R D := (evM T cf c).v
abbrev evT (T : Tab) (cf : CF) (c : E) : Env → G → R Bool := (evM T cf c).t
abbrev evI (T : Tab) (cf : CF) (c : E) : Env → G → R (List D × Option Nat) := (evM T cf c).i

/-! ### statements -/
/-- how a statement ends -/
inductive Fl where
  | nx (env : Env)
  | rt (d : D)
  | bk (env : Env)
  | ct (env : Env)
/-- a loop over items -/
def forL (f : D → Env → G → R Fl) : List D → Env → G → R Fl
  | [], env, g => .ok (.nx env) g
  | x :: r, env, g => (f x env g).bind fun fl g1 => match fl with
    | .nx env1 => forL f r env1 g1
    | .ct env1 => forL f r env1 g1
    | .bk env1 => .ok (.nx env1) g1
    | .rt d => .ok (.rt d) g1
/-- a loop by a test, so many turns at most -/
def whL (c : Env → G → R Bool) (f : Env → G → R Fl) : Nat → Env → G → R Fl
  | 0, _, _ => .stk
  | n + 1, env, g => (c env g).bind fun t g1 => match t with
    | false => .ok (.nx env) g1
    | true => (f env g1).bind fun fl g2 => match fl with
      | .nx env1 => whL c f n env1 g2
      | .ct env1 => whL c f n env1 g2
      | .bk env1 => .ok (.nx env1) g2
      | .rt d => .ok (.rt d) g2
/-- behind a loop the walked cell is free again -/
def freeR (r : R Fl) (k : Option Nat) : R Fl := match r with
  | .ok fl g => (match freeG g k with
    | some g' => .ok fl g'
    | none => .stk)
  | .exc x g => (match freeG g k with
    | some g' => .exc x g'
    | none => .stk)
  | .stk => .stk
def augD (g : G) (o : Bop) (x y : D) : Option D := match o, x, y with
  | .add, .int a, .int b => some (.int (a + b))
  | .sub, .int a, .int b => some (.int (a - b))
  | _, _, _ => none
def setFD (g : G) (f : Nat) (o y : D) : Option G := match o with
  | .ref i => match g[i]? with
    | some (.ins c ns vs) => if decide (ns.length < 900) then some (g.set i (.ins c (putFn ns f) (putFv ns vs f y))) else none
    | _ => none
  | _ => none
def setID (g : G) (o i y : D) : Option G := match o with
  | .ref k => match g[k]? with
    | some (.dct ks vs) => (match keyD i with
      | some x => if decide (ks.length < LIM) then some (g.set k (.dct (putDk ks x) (putDv ks vs x y))) else none
      | none => none)
    | some (.lst l) => (match i with
      | .int j => (match L2.ixN l.length j with
        | some n => some (g.set k (.lst (l.set n y)))
        | none => none)
      | _ => none)
    | _ => none
  | _ => none
/-- the turns of a while at most -/
def TURNS : Nat := 1000000
mutual
def exec (T : Tab) (cf : CF) : S → Env → G → R Fl
  | .pass, env, g => .ok (.nx env) g
  | .brk, env, g => .ok (.bk env) g
  | .cont, env, g => .ok (.ct env) g
  | .ex e, env, g => (ev T cf e env g).bind fun _ g1 => .ok (.nx env) g1
  | .ret e, env, g => (ev T cf e env g).bind fun d g1 => .ok (.rt d) g1
  | .retN, _, g => .ok (.rt .non) g
  | .set i e, env, g => (ev T cf e env g).bind fun d g1 => .ok (.nx (env.set i (some d))) g1
  | .unp is e, env, g => (ev T cf e env g).bind fun d g1 => match asgD g1 false is d env with
    | some env1 => .ok (.nx env1) g1
    | none => .stk
  | .par is es, env, g => (evs T cf es env g).bind fun ds g1 => if decide (ds.length = is.length) then .ok (.nx ((is.zip ds).foldl (fun e p => e.set p.1 (some p.2)) env)) g1 else .stk
  | .setF f o e, env, g => (ev T cf e env g).bind fun y g1 => (ev T cf o env g1).bind fun x g2 => match setFD g2 f x y with
    | some g3 => .ok (.nx env) g3
    | none => .stk
  | .setI o i e, env, g => (ev T cf e env g).bind fun y g1 => (ev T cf o env g1).bind fun x g2 => (ev T cf i env g2).bind fun z g3 => match setID g3 x z y with
    | some g4 => .ok (.nx env) g4
    | none => .stk
  | .aug i o e, env, g => match env[i]? with
    | some (some x) => (ev T cf e env g).bind fun y g1 => match augD g1 o x y with
      | some z => .ok (.nx (env.set i (some z))) g1
      | none => .stk
    | _ => .stk
  | .augF f o p e, env, g => (ev T cf o env g).bind fun x g1 => match fldD g1 f x with
    | some y => (ev T cf e env g1).bind fun z g2 => (match augD g2 p y z with
      | some u => (match setFD g2 f x u with
        | some g3 => .ok (.nx env) g3
        | none => .stk)
      | none => .stk)
    | none => .stk
  | .ite c a b, env, g => (evT T cf c env g).bind fun t g1 => match t with
    | true => execs T cf a env g1
    | false => execs T cf b env g1
  | .while_ c b, env, g => whL (fun env g => evT T cf c env g) (fun env g => execs T cf b env g) TURNS env g
  | .for_ one tg it b, env, g => (evI T cf it env g).bind fun xs g1 =>
    freeR (forL (fun x env g => match asgD g one tg x env with
      | some env1 => execs T cf b env1 g
      | none => .stk) xs.1 env (lockG g1 xs.2)) xs.2
  | .mtch e ks bs, env, g => (ev T cf e env g).bind fun x g1 => match x with
    | .str s => execM T cf bs (ks.findIdx fun k => k.contains s) env g1
    | _ => .stk
  | .raise c as, env, g => (evs T cf as env g).bind fun vs g1 => match T.exf c, vs with
    | some f, [d] => .exc ⟨c, [f], [d]⟩ g1
    | _, _ => .stk
/-- the branch of a match (the last one: of no pattern) -/
def execM (T : Tab) (cf : CF) : List (List S) → Nat → Env → G → R Fl
  | b :: _, 0, env, g => execs T cf b env g
  | _ :: bs, n + 1, env, g => execM T cf bs n env g
  | [], _, _, _ => .stk
def execs (T : Tab) (cf : CF) : List S → Env → G → R Fl
  | [], env, g => .ok (.nx env) g
  | s :: r, env, g => (exec T cf s env g).bind fun fl g1 => match fl with
    | .nx env1 => execs T cf r env1 g1
    | fl => .ok fl g1
end
/-! ### calls -/
/-- no cell within, to a depth -/
def cloN : Nat → D → Bool
  | 0, _ => false
  | n + 1, d => match d with
    | .tup l => l.all (cloN n)
    | .lst l => l.all (cloN n)
    | .dct _ vs => vs.all (cloN n)
    | .obj _ _ vs => vs.all (cloN n)
    | .ref _ => false
    | _ => true
def clo (d : D) : Bool := cloN 50 d
def endR (r : R Fl) : R D := match r with
  | .ok (.rt d) g => .ok d g
  | .ok (.nx _) g => .ok .non g
  | .ok _ _ => .stk
  | .exc x g => .exc x g
  | .stk => .stk
/-- a run on a heap of its own -/
def isoR (r : R D) (g : G) : R D := match r with
  | .ok d _ => if clo d then .ok d g else .stk
  | .exc x _ => if x.vs.all clo then .exc x g else .stk
  | .stk => .stk
def runF (T : Tab) (cf : CF) (F : Fn) (vs : List D) (g : G) : R D :=
  match bindA F vs with
  | some as => if F.iso then (if as.all clo then isoR (endR (execs T cf F.body (as.map some ++ List.replicate (F.nn - as.length) none) [])) g else .stk)
    else endR (execs T cf F.body (as.map some ++ List.replicate (F.nn - as.length) none) g)
  | none => .stk
/-- the def f called, so many calls deep at most -/
def call (T : Tab) : Nat → CF
  | 0 => fun _ _ _ => .stk
  | n + 1 => fun f vs g => match T.fn f with
    | some F => runF T (call T n) F vs g
    | none => .stk
end PC
end
section
set_option maxHeartbeats 4000000
namespace PC
open PySem L2

/-- the names: of attributes, constants, defs, a def's parameters, classes; fg, cg: which defs and classes are names of the module; bn: what is no name of the module -/
structure Nz where
  nm : Nat → Str
  gn : Nat → Str
  fnm : Nat → Str
  pn : Nat → List Str
  cn : Nat → Str
  fg : Nat → Bool
  cg : Nat → Bool
  bn : Str → Bool
/-- the names, what is written, where defs and classes stand -/
structure Nm extends Nz where
  K : PySem.W.Frag
  w : World
  mg : Str → Option Value
  fa : Nat → Addr
  ca : Nat → Addr
def key : DK → Key
  | .i k => .inl k
  | .s x => .inr (st x)
theorem st_inj {a b : List Nat} (h : st a = st b) : a = b := by
  have e := congrArg (fun z : Str => z.cps.toList) h
  simpa using e
theorem key_inj {a b : DK} (h : key a = key b) : a = b := by
  cases a <;> cases b <;> simp only [key] at h
  · injection h with h; rw [h]
  · cases h
  · cases h
  · injection h with h; rw [st_inj h]

/-- a list whose very object is known -/
def SqX (K : PySem.W.Frag) (H : Hp) (a : Addr) (xs : List V) : Prop :=
  Rd H a (.lst xs) ∨ ∃ (its : Array Value) (n : Nat), K.lookup a = some { cls := .type "list", data := .seq its n } ∧ its.size ≤ sizeLine ∧ Vals xs its.toList
theorem SqX.sq {K : PySem.W.Frag} {H : Hp} {a : Addr} {xs : List V} (h : SqX K H a xs) : SqL K H a xs := by
  rcases h with h | ⟨its, n, h1, h2, h3⟩
  · exact .inl h
  · exact .inr ⟨_, its, n, h1, rfl, rfl, rfl, h2, h3⟩
theorem SqX.of {K : PySem.W.Frag} {H : Hp} {a : Addr} {xs : List V} (h : H a = some (.lst xs)) : SqX K H a xs := .inl (.inl h)
theorem same_x {K : PySem.W.Frag} {I J : Hp} {a : Addr} {xs : List V} (e : Same I J) (h : SqX K I a xs) : SqX K J a xs := by
  rcases h with (h | ⟨o, h⟩) | h
  · exact .inl (.inl (e _ _ h))
  · exact .inl (.inr ⟨o, e _ _ h⟩)
  · exact .inr h
theorem inv_x {X : Cx} {pins : List (Addr × Obj)} {σ : L2.St} {H : Hp} {s : Shared} {a : Addr} {xs : List V} (I : Inv X pins σ H s) (h : SqX X.K H a xs) :
    xs.length ≤ sizeLine ∧ ∃ (its : List Value) (n : Nat), Vals xs its ∧ s.heap.get? a = some { cls := .type "list", data := .seq its.toArray n } := by
  rcases h with h | ⟨its, n, h1, h2, h3⟩
  · obtain ⟨z, its, n, r, e⟩ := h.ok I.hok
    exact ⟨z, its, n, r, e⟩
  · have e := h3.length
    simp only [Array.length_toList] at e
    exact ⟨by omega, its.toList, n, h3, by simpa using I.kIn a _ h1⟩
/-- what a dict of the module answers for a text -/
def KdAt (N : Nm) (a : Addr) (ks : List (List Nat)) (vs : List V) (x : List Nat) : Prop := match ks.findIdx? (· == x) with
  | some j => ∃ v u, vs[j]? = some v ∧ PySem.W.nsIn N.K a (st x) = some (some u) ∧ RelV v u
  | none => PySem.W.nsIn N.K a (st x) = some none
mutual
/-- data d is the value v: I what is never changed, rs where the cells stand -/
inductive VR (N : Nm) (I : Hp) (rs : List Addr) : D → V → Prop
  | non : VR N I rs .non .non
  | bl (b : Bool) : VR N I rs (.bl b) (.bl b)
  | int (i : Int) : VR N I rs (.int i) (.int i)
  | str (s : List Nat) : VR N I rs (.str s) (.str (st s))
  | tup {a : Addr} {vs : List V} {ds : List D} : SqT N.K I a vs → VRs N I rs ds vs → VR N I rs (.tup ds) (.ref a)
  | lst {a : Addr} {vs : List V} {ds : List D} : SqX N.K I a vs → VRs N I rs ds vs → VR N I rs (.lst ds) (.ref a)
  | dct {a : Addr} {kvs : List (Key × V)} {ks : List DK} {ds : List D} : I a = some (.dK kvs) → kvs.map (·.1) = ks.map key → ks.Nodup → VRs N I rs ds (kvs.map (·.2)) → VR N I rs (.dct ks ds) (.ref a)
  | kdc {a : Addr} {es : Array DictEntry} {n : Nat} {vs : List V} {ks : List (List Nat)} {ds : List D} : KDict N.K N.w a es n → ks ≠ [] → ks.length = vs.length → (∀ x, KdAt N a ks vs x) → VRs N I rs ds vs → VR N I rs (.dct (ks.map .s) ds) (.ref a)
  | obj {a dx : Addr} {c : Nat} {ns : List Nat} {fs : List (Str × V)} {ds : List D} : I a = some (.ins (N.ca c) dx fs) → fs.map (·.1) = ns.map N.nm → VRs N I rs ds (fs.map (·.2)) → VR N I rs (.obj c ns ds) (.ref a)
  | ref {i : Nat} {a : Addr} : rs[i]? = some a → VR N I rs (.ref i) (.ref a)
inductive VRs (N : Nm) (I : Hp) (rs : List Addr) : List D → List V → Prop
  | nil : VRs N I rs [] []
  | cons {d : D} {v : V} {ds : List D} {vs : List V} : VR N I rs d v → VRs N I rs ds vs → VRs N I rs (d :: ds) (v :: vs)
end
theorem same_t {K : PySem.W.Frag} {I J : Hp} {a : Addr} {xs : List V} (e : Same I J) (h : SqT K I a xs) : SqT K J a xs := by
  rcases h with (h | ⟨o, h⟩) | h
  · exact .inl (.inl (e _ _ h))
  · exact .inl (.inr ⟨o, e _ _ h⟩)
  · exact .inr h
section
variable {N : Nm} {I J : Hp} {rs ss : List Addr}
mutual
theorem VR.mono (e : Same I J) (p : rs <+: ss) : ∀ {d : D} {v : V}, VR N I rs d v → VR N J ss d v
  | _, _, .non => .non
  | _, _, .bl b => .bl b
  | _, _, .int i => .int i
  | _, _, .str s => .str s
  | _, _, .tup h k => .tup (same_t e h) (VRs.mono e p k)
  | _, _, .lst h k => .lst (same_x e h) (VRs.mono e p k)
  | _, _, .dct h1 h2 h3 k => .dct (e _ _ h1) h2 h3 (VRs.mono e p k)
  | _, _, .kdc h1 h0 h2 h3 k => .kdc h1 h0 h2 h3 (VRs.mono e p k)
  | _, _, .obj h1 h2 k => .obj (e _ _ h1) h2 (VRs.mono e p k)
  | _, _, .ref h => .ref (by
    obtain ⟨t, rfl⟩ := p
    rw [List.getElem?_append_left (List.getElem?_eq_some_iff.mp h).1]
    exact h)
theorem VRs.mono (e : Same I J) (p : rs <+: ss) : ∀ {ds : List D} {vs : List V}, VRs N I rs ds vs → VRs N J ss ds vs
  | _, _, .nil => .nil
  | _, _, .cons h k => .cons (VR.mono e p h) (VRs.mono e p k)
end
theorem VRs.length : ∀ {ds : List D} {vs : List V}, VRs N I rs ds vs → ds.length = vs.length
  | _, _, .nil => rfl
  | _, _, .cons _ k => by simp [VRs.length k]
theorem VRs.append : ∀ {ds es : List D} {vs ws : List V}, VRs N I rs ds vs → VRs N I rs es ws → VRs N I rs (ds ++ es) (vs ++ ws)
  | _, _, _, _, .nil, h => h
  | _, _, _, _, .cons h k, h2 => .cons h (VRs.append k h2)
theorem VRs.one {d : D} {v : V} (h : VR N I rs d v) : VRs N I rs [d] [v] := .cons h .nil
theorem VRs.get : ∀ {ds : List D} {vs : List V} {i : Nat} {d : D}, VRs N I rs ds vs → ds[i]? = some d → ∃ v, vs[i]? = some v ∧ VR N I rs d v
  | _, _, _, _, .nil, e => by simp at e
  | _, _, 0, _, .cons h _, e => by simp at e; subst e; exact ⟨_, rfl, h⟩
  | _, _, i + 1, _, .cons _ k, e => by
    obtain ⟨v, h1, h2⟩ := VRs.get (i := i) k (by simpa using e)
    exact ⟨v, by simpa using h1, h2⟩
theorem VRs.get' : ∀ {ds : List D} {vs : List V} {i : Nat} {v : V}, VRs N I rs ds vs → vs[i]? = some v → ∃ d, ds[i]? = some d ∧ VR N I rs d v
  | _, _, _, _, .nil, e => by simp at e
  | _, _, 0, _, .cons h _, e => by simp at e; subst e; exact ⟨_, rfl, h⟩
  | _, _, i + 1, _, .cons _ k, e => by
    obtain ⟨v, h1, h2⟩ := VRs.get' (i := i) k (by simpa using e)
    exact ⟨v, by simpa using h1, h2⟩
theorem VRs.take : ∀ (n : Nat) {ds : List D} {vs : List V}, VRs N I rs ds vs → VRs N I rs (ds.take n) (vs.take n)
  | 0, _, _, _ => .nil
  | _ + 1, _, _, .nil => .nil
  | n + 1, _, _, .cons h k => .cons h (VRs.take n k)
theorem VRs.drop : ∀ (n : Nat) {ds : List D} {vs : List V}, VRs N I rs ds vs → VRs N I rs (ds.drop n) (vs.drop n)
  | 0, _, _, h => h
  | _ + 1, _, _, .nil => .nil
  | n + 1, _, _, .cons _ k => VRs.drop n k
theorem VRs.reverse {ds : List D} {vs : List V} (h : VRs N I rs ds vs) : VRs N I rs ds.reverse vs.reverse := by
  induction h using VRs.rec (motive_1 := fun _ _ _ => True) with
  | nil => exact .nil
  | cons a b _ ih => rw [List.reverse_cons, List.reverse_cons]; exact ih.append (.one a)
  | _ => trivial
theorem VRs.set : ∀ {ds : List D} {vs : List V} (i : Nat) {d : D} {v : V}, VRs N I rs ds vs → VR N I rs d v → VRs N I rs (ds.set i d) (vs.set i v)
  | _, _, _, _, _, .nil, _ => .nil
  | _, _, 0, _, _, .cons _ k, h => .cons h k
  | _, _, i + 1, _, _, .cons h k, h2 => .cons h (VRs.set i k h2)
end

/-! ### the evaluator's heap and the abstract heap -/
/-- how a cell lies at its place; L: what is locked -/
def CR (N : Nm) (L I : Hp) (rs : List Addr) (H : Hp) (a : Addr) : Cell → Prop
  | .lst l => L a = none ∧ I a = none ∧ ∃ vs, H a = some (.lst vs) ∧ VRs N I rs l vs ∧ l.length ≤ LIM
  | .lck l => I a = none ∧ ∃ vs, L a = some (.lst vs) ∧ VRs N I rs l vs ∧ l.length ≤ LIM
  | .dct ks ds => L a = none ∧ I a = none ∧ ∃ kvs, H a = some (.dK kvs) ∧ kvs.map (·.1) = ks.map key ∧ ks.Nodup ∧ VRs N I rs ds (kvs.map (·.2)) ∧ ks.length ≤ LIM
  | .ins c ns ds => L a = none ∧ I a = none ∧ ∃ dx fs, H a = some (.ins (N.ca c) dx fs) ∧ fs.map (·.1) = ns.map N.nm ∧ VRs N I rs ds (fs.map (·.2))
  | .dead => True
structure Rel (N : Nm) (L I : Hp) (rs : List Addr) (g : G) (H : Hp) : Prop where
  sub : Same I H
  lsub : Same L H
  len : rs.length = g.length
  nd : rs.Nodup
  trk : ∀ a ∈ rs, ∃ o, H a = some o
  cell : ∀ (i : Nat) (a : Addr) (c : Cell), rs[i]? = some a → g[i]? = some c → CR N L I rs H a c
/-- from one state to a later one -/
structure Ext (I : Hp) (rs : List Addr) (H I' : Hp) (rs' : List Addr) (H' : Hp) : Prop where
  i : Same I I'
  r : rs <+: rs'
  fr : ∀ a o, H a = some o → a ∉ rs → H' a = some o
  new : ∀ a ∈ rs', a ∈ rs ∨ H a = none
  inew : ∀ a o, I' a = some o → I a = some o ∨ H a = none ∨ a ∈ rs
section
variable {N : Nm} {L I I1 I2 : Hp} {rs rs1 rs2 : List Addr} {g g1 g2 : G} {H H1 H2 : Hp}
theorem Ext.refl : Ext I rs H I rs H := ⟨Same.refl I, List.prefix_refl _, fun _ _ h _ => h, fun _ h => .inl h, fun _ _ h => .inl h⟩
/-- a place that the callee did not know is no new place of it -/
theorem Ext.trans (a : Ext I rs H I1 rs1 H1) (b : Ext I1 rs1 H1 I2 rs2 H2) : Ext I rs H I2 rs2 H2 := by
  refine ⟨a.i.trans b.i, a.r.trans b.r, fun x o h n => ?_, fun x hx => ?_, fun x o h => ?_⟩
  · have h1 := a.fr x o h n
    refine b.fr x o h1 fun hx => ?_
    rcases a.new x hx with z | z
    · exact n z
    · rw [h] at z; cases z
  · rcases b.new x hx with z | z
    · exact a.new x z
    · by_cases hr : x ∈ rs
      · exact .inl hr
      · refine .inr ?_
        cases q : H x with
        | none => rfl
        | some o => rw [a.fr x o q hr] at z; cases z
  · rcases b.inew x o h with z | z | z
    · exact a.inew x o z
    · by_cases hr : x ∈ rs
      · exact .inr (.inr hr)
      · refine .inr (.inl ?_)
        cases q : H x with
        | none => rfl
        | some u => rw [a.fr x u q hr] at z; cases z
    · rcases a.new x z with z | z
      · exact .inr (.inr z)
      · exact .inr (.inl z)
theorem Ext.vr (e : Ext I rs H I1 rs1 H1) {d : D} {v : V} (h : VR N I rs d v) : VR N I1 rs1 d v := h.mono e.i e.r
theorem Ext.vrs (e : Ext I rs H I1 rs1 H1) {d : List D} {v : List V} (h : VRs N I rs d v) : VRs N I1 rs1 d v := h.mono e.i e.r

theorem Rel.place (R : Rel N L I rs g H) {i : Nat} {c : Cell} (h : g[i]? = some c) : ∃ a, rs[i]? = some a := by
  have hi := (List.getElem?_eq_some_iff.mp h).1
  rw [← R.len] at hi
  exact ⟨_, List.getElem?_eq_getElem hi⟩
/-- a cell's place is tracked -/
theorem CR.tracked {a : Addr} {c : Cell} (R : Rel N L I rs g H) (h : CR N L I rs H a c) (n : c ≠ .dead) : ∃ o, H a = some o := by
  cases c with
  | lst l => obtain ⟨_, _, vs, h, _⟩ := h; exact ⟨_, h⟩
  | lck l => obtain ⟨_, vs, h, _⟩ := h; exact ⟨_, R.lsub _ _ h⟩
  | dct ks ds => obtain ⟨_, _, vs, h, _⟩ := h; exact ⟨_, h⟩
  | ins c ns ds => obtain ⟨_, _, dx, fs, h, _⟩ := h; exact ⟨_, h⟩
  | dead => exact absurd rfl n
/-- the same cell in a later state that kept its object -/
theorem CR.mono {a : Addr} {c : Cell} (h : CR N L I rs H a c) (e : Same I I1) (p : rs <+: rs1) (k : ∀ o, H a = some o → L a = none → H1 a = some o) (ni : I a = none → I1 a = none) : CR N L I1 rs1 H1 a c := by
  cases c with
  | lst l => obtain ⟨hl, hi, vs, h, r, z⟩ := h; exact ⟨hl, ni hi, vs, k _ h hl, r.mono e p, z⟩
  | lck l => obtain ⟨hi, vs, h, r, z⟩ := h; exact ⟨ni hi, vs, h, r.mono e p, z⟩
  | dct ks ds => obtain ⟨hl, hi, vs, h, h2, h3, r, z⟩ := h; exact ⟨hl, ni hi, vs, k _ h hl, h2, h3, r.mono e p, z⟩
  | ins c ns ds => obtain ⟨hl, hi, dx, fs, h, h2, r⟩ := h; exact ⟨hl, ni hi, dx, fs, k _ h hl, h2, r.mono e p⟩
  | dead => trivial

/-- a new thing that never changes -/
theorem Rel.imm (R : Rel N L I rs g H) {p : Addr} {o : HO} (hp : H p = none) : Rel N L (upd I p o) rs g (upd H p o) ∧ Ext I rs H (upd I p o) rs (upd H p o) := by
  have ip : I p = none := R.sub.free hp
  have lp : L p = none := R.lsub.free hp
  have si : Same I (upd I p o) := fun b u e => by rw [upd_ne (ne_of_none e ip)]; exact e
  have sh : Same H (upd H p o) := fun b u e => by rw [upd_ne (ne_of_none e hp)]; exact e
  refine ⟨⟨fun b u e => ?_, fun b u e => sh b u (R.lsub b u e), R.len, R.nd, fun a ha => let ⟨u, e⟩ := R.trk a ha; ⟨u, sh a u e⟩, fun i a c ha hc => ?_⟩, ⟨si, List.prefix_refl _, fun a u h _ => sh a u h, fun _ h => .inl h, fun a u h => ?_⟩⟩
  · by_cases hb : b = p
    · subst hb; rw [upd_same] at e ⊢; exact e
    · rw [upd_ne hb] at e ⊢; exact R.sub b u e
  · by_cases hd : c = .dead
    · subst hd; trivial
    · obtain ⟨u, hu⟩ := (R.cell i a c ha hc).tracked R hd
      have np : a ≠ p := ne_of_none hu hp
      exact (R.cell i a c ha hc).mono si (List.prefix_refl _) (fun q h _ => sh a q h) fun h => by rw [upd_ne np]; exact h
  · by_cases hb : a = p
    · subst hb; exact .inr (.inl hp)
    · rw [upd_ne hb] at h; exact .inl h
/-- a new cell -/
theorem Rel.new (R : Rel N L I rs g H) {p : Addr} {o : HO} {c : Cell} (hp : H p = none) (hc : CR N L I (rs ++ [p]) (upd H p o) p c) : Rel N L I (rs ++ [p]) (g ++ [c]) (upd H p o) ∧ Ext I rs H I (rs ++ [p]) (upd H p o) := by
  have sh : Same H (upd H p o) := fun b u e => by rw [upd_ne (ne_of_none e hp)]; exact e
  have pre : rs <+: rs ++ [p] := List.prefix_append _ _
  have old : ∀ (i : Nat) (a : Addr) (c : Cell), rs[i]? = some a → g[i]? = some c → CR N L I (rs ++ [p]) (upd H p o) a c := fun i a c ha hc => (R.cell i a c ha hc).mono (Same.refl I) pre (fun q h _ => sh a q h) fun h => h
  have np : p ∉ rs := fun hm => by
    obtain ⟨u, e⟩ := R.trk p hm
    rw [hp] at e; cases e
  refine ⟨⟨R.sub.trans sh, R.lsub.trans sh, by simp [R.len], ?_, fun a ha => ?_, fun i a d ha hd => ?_⟩, ⟨Same.refl I, pre, fun a u h _ => sh a u h, fun a h => ?_, fun _ _ h => .inl h⟩⟩
  · rw [List.nodup_append]
    exact ⟨R.nd, by simp, fun a ha b hb => by rintro rfl; simp at hb; subst hb; exact np ha⟩
  · rcases List.mem_append.mp ha with z | z
    · obtain ⟨u, e⟩ := R.trk a z
      exact ⟨u, sh a u e⟩
    · simp at z; subst z; exact ⟨o, upd_same⟩
  · by_cases hi : i < g.length
    · rw [List.getElem?_append_left hi] at hd
      rw [List.getElem?_append_left (by rw [R.len]; exact hi)] at ha
      exact old i a d ha hd
    · rw [List.getElem?_append_right (by omega)] at hd
      rw [List.getElem?_append_right (by rw [R.len]; omega)] at ha
      rw [R.len] at ha
      cases q : i - g.length with
      | zero =>
        rw [q] at ha hd
        simp at ha hd
        subst ha; subst hd
        exact hc
      | succ n =>
        rw [q] at hd
        simp at hd
  · rcases List.mem_append.mp h with z | z
    · exact .inl z
    · simp at z; subst z; exact .inr hp
/-- a cell is changed, its object with it -/
theorem Rel.put (R : Rel N L I rs g H) {i : Nat} {p : Addr} {o : HO} {c : Cell} (hi : rs[i]? = some p) (hL : L p = none) (hI : I p = none) (hc : ∀ H', H' p = some o → CR N L I rs H' p c) : Rel N L I rs (g.set i c) (upd H p o) ∧ Ext I rs H I rs (upd H p o) := by
  have hp : p ∈ rs := List.mem_of_getElem? hi
  refine ⟨⟨fun b u e => ?_, fun b u e => ?_, by simp [R.len], R.nd, fun a ha => ?_, fun j a d ha hd => ?_⟩, ⟨Same.refl I, List.prefix_refl _, fun a u h n => ?_, fun _ h => .inl h, fun _ _ h => .inl h⟩⟩
  · rw [upd_ne (fun z => by subst z; rw [hI] at e; cases e)]; exact R.sub b u e
  · rw [upd_ne (fun z => by subst z; rw [hL] at e; cases e)]; exact R.lsub b u e
  · by_cases z : a = p
    · subst z; exact ⟨o, upd_same⟩
    · obtain ⟨u, e⟩ := R.trk a ha
      exact ⟨u, by rw [upd_ne z]; exact e⟩
  · by_cases hj : i = j
    · subst hj
      rw [hi] at ha; cases ha
      have : d = c := by
        rw [List.getElem?_set] at hd
        split at hd
        · split at hd
          · exact (Option.some.inj hd).symm
          · cases hd
        · rename_i h; exact absurd rfl h
      subst this
      exact hc _ upd_same
    · rw [List.getElem?_set_ne hj] at hd
      have na : a ≠ p := fun z => by
        subst z
        have h1 := List.getElem?_eq_some_iff.mp hi
        have h2 := List.getElem?_eq_some_iff.mp ha
        obtain ⟨l1, e1⟩ := h1
        obtain ⟨l2, e2⟩ := h2
        exact hj ((List.getElem_inj R.nd).mp (e1.trans e2.symm))
      exact (R.cell j a d ha hd).mono (Same.refl I) (List.prefix_refl _) (fun q h _ => by rw [upd_ne na]; exact h) fun h => h
  · rw [upd_ne (fun z => n (by rw [z]; exact hp))]; exact h
/-- a cell is changed in the evaluator's heap alone -/
theorem Rel.turn (R : Rel N L I rs g H) {i : Nat} {p : Addr} {c : Cell} (hi : rs[i]? = some p) (hc : CR N L I rs H p c) : Rel N L I rs (g.set i c) H := by
  refine ⟨R.sub, R.lsub, by simp [R.len], R.nd, R.trk, fun j a d ha hd => ?_⟩
  by_cases hj : i = j
  · subst hj
    rw [hi] at ha; cases ha
    have : d = c := by
      rw [List.getElem?_set] at hd
      split at hd
      · split at hd
        · exact (Option.some.inj hd).symm
        · cases hd
      · rename_i h; exact absurd rfl h
    subst this
    exact hc
  · rw [List.getElem?_set_ne hj] at hd
    exact R.cell j a d ha hd
theorem nd_ne (nd : rs.Nodup) {i j : Nat} {a p : Addr} (hi : rs[i]? = some p) (hj : rs[j]? = some a) (h : i ≠ j) : a ≠ p := fun z => by
  subst z
  obtain ⟨l1, e1⟩ := List.getElem?_eq_some_iff.mp hi
  obtain ⟨l2, e2⟩ := List.getElem?_eq_some_iff.mp hj
  exact h ((List.getElem_inj nd).mp (e1.trans e2.symm))
theorem set_at {g : G} {i : Nat} {c d : Cell} (hd : (g.set i c)[i]? = some d) : d = c := by
  rw [List.getElem?_set] at hd
  split at hd
  · split at hd
    · exact (Option.some.inj hd).symm
    · cases hd
  · rename_i h; exact absurd rfl h
/-- a list's cell becomes a thing that never changes -/
theorem Rel.frz (R : Rel N L I rs g H) {i : Nat} {p : Addr} {o : HO} (hi : rs[i]? = some p) (hI : I p = none) (hL : L p = none) (ho : H p = some o) : Rel N L (upd I p o) rs (g.set i .dead) H ∧ Ext I rs H (upd I p o) rs H := by
  have si : Same I (upd I p o) := fun b u e => by rw [upd_ne (ne_of_none e hI)]; exact e
  refine ⟨⟨fun b u e => ?_, R.lsub, by simp [R.len], R.nd, R.trk, fun j a d ha hd => ?_⟩, ⟨si, List.prefix_refl _, fun a u h _ => h, fun _ h => .inl h, fun a u h => ?_⟩⟩
  · by_cases z : b = p
    · subst z; rw [upd_same] at e; cases e; exact ho
    · rw [upd_ne z] at e; exact R.sub b u e
  · by_cases hj : i = j
    · subst hj
      cases set_at hd
      trivial
    · rw [List.getElem?_set_ne hj] at hd
      have na := nd_ne R.nd hi ha hj
      exact (R.cell j a d ha hd).mono si (List.prefix_refl _) (fun q h _ => h) fun h => by rw [upd_ne na]; exact h
  · by_cases z : a = p
    · subst z; exact .inr (.inr (List.mem_of_getElem? hi))
    · rw [upd_ne z] at h; exact .inl h
theorem Rel.lock (R : Rel N L I rs g H) {i : Nat} {p : Addr} {l : List D} {vs : List V} (hi : rs[i]? = some p) (hI : I p = none) (hL : L p = none) (ho : H p = some (.lst vs)) (hv : VRs N I rs l vs) (hz : l.length ≤ LIM) : Rel N (upd L p (.lst vs)) I rs (g.set i (.lck l)) H := by
  refine ⟨R.sub, fun b u e => ?_, by simp [R.len], R.nd, R.trk, fun j a d ha hd => ?_⟩
  · by_cases z : b = p
    · subst z; rw [upd_same] at e; cases e; exact ho
    · rw [upd_ne z] at e; exact R.lsub b u e
  · by_cases hj : i = j
    · subst hj
      cases set_at hd
      rw [hi] at ha; cases ha
      exact ⟨hI, vs, upd_same, hv, hz⟩
    · rw [List.getElem?_set_ne hj] at hd
      have na := nd_ne R.nd hi ha hj
      have q := R.cell j a d ha hd
      cases d with
      | lst l => exact ⟨by rw [upd_ne na]; exact q.1, q.2⟩
      | lck l => exact ⟨q.1, by rw [upd_ne na]; exact q.2⟩
      | dct ks ds => exact ⟨by rw [upd_ne na]; exact q.1, q.2⟩
      | ins c ns ds => exact ⟨by rw [upd_ne na]; exact q.1, q.2⟩
      | dead => trivial
theorem Rel.free {p : Addr} {o : HO} (R : Rel N (upd L p o) I rs g H) {i : Nat} {l : List D} (hi : rs[i]? = some p) (hg : g[i]? = some (.lck l)) (hL : L p = none) : Rel N L I rs (g.set i (.lst l)) H := by
  refine ⟨R.sub, fun b u e => ?_, by simp [R.len], R.nd, R.trk, fun j a d ha hd => ?_⟩
  · have z : b ≠ p := fun z => by subst z; rw [hL] at e; cases e
    exact R.lsub b u (by rw [upd_ne z]; exact e)
  · by_cases hj : i = j
    · subst hj
      cases set_at hd
      rw [hi] at ha; cases ha
      obtain ⟨hI, vs, e, hv, hz⟩ := R.cell i _ _ hi hg
      exact ⟨hL, hI, vs, R.lsub _ _ e, hv, hz⟩
    · rw [List.getElem?_set_ne hj] at hd
      have na := nd_ne R.nd hi ha hj
      have q := R.cell j a d ha hd
      cases d with
      | lst l => exact ⟨by have := q.1; rw [upd_ne na] at this; exact this, q.2⟩
      | lck l => exact ⟨q.1, by obtain ⟨vs, h, r⟩ := q.2; exact ⟨vs, by rw [upd_ne na] at h; exact h, r⟩⟩
      | dct ks ds => exact ⟨by have := q.1; rw [upd_ne na] at this; exact this, q.2⟩
      | ins c ns ds => exact ⟨by have := q.1; rw [upd_ne na] at this; exact this, q.2⟩
      | dead => trivial

/-! ### what data say of the abstract heap -/
/-- a list is read -/
theorem Rel.lst (R : Rel N L I rs g H) {d : D} {v : V} {l : List D} (h : VR N I rs d v) (e : top g d = .lst l) : ∃ a vs, v = .ref a ∧ SqX N.K H a vs ∧ VRs N I rs l vs := by
  cases h with
  | lst h k => cases e; exact ⟨_, _, rfl, same_x R.sub h, k⟩
  | @ref i a h =>
    unfold top at e
    split at e
    · rename_i j hj
      cases hj
      split at e
      · rename_i q
        cases e
        obtain ⟨_, _, vs, hv, k, _⟩ := R.cell _ _ _ h q
        exact ⟨_, _, rfl, SqX.of hv, k⟩
      · rename_i q
        cases e
        obtain ⟨_, vs, hv, k, _⟩ := R.cell _ _ _ h q
        exact ⟨_, _, rfl, SqX.of (R.lsub _ _ hv), k⟩
      · cases e
    · rename_i q; exact absurd rfl (q i)
  | _ => cases e
theorem Rel.tup (R : Rel N L I rs g H) {d : D} {v : V} {l : List D} (h : VR N I rs d v) (e : top g d = .tup l) : ∃ a vs, v = .ref a ∧ SqT N.K H a vs ∧ VRs N I rs l vs := by
  cases h with
  | tup h k => cases e; exact ⟨_, _, rfl, same_t R.sub h, k⟩
  | @ref i a h =>
    unfold top at e
    split at e
    · rename_i j hj
      cases hj
      split at e <;> cases e
    · rename_i q; exact absurd rfl (q i)
  | _ => cases e
/-- what is no list's cell is itself -/
theorem top_ne {d e : D} (h : top g d = e) (h1 : ∀ l, e ≠ .lst l) : d = e := by
  unfold top at h
  split at h
  · split at h
    · exact absurd h.symm (h1 _)
    · exact absurd h.symm (h1 _)
    · exact h
  · exact h
theorem Rel.seq (R : Rel N L I rs g H) {d : D} {v : V} {l : List D} (h : VR N I rs d v) (e : seqD g d = some l) : ∃ a vs, v = .ref a ∧ (SqL N.K H a vs ∨ SqT N.K H a vs) ∧ VRs N I rs l vs := by
  unfold seqD at e
  split at e
  · rename_i q
    cases e
    obtain ⟨a, vs, h1, h2, h3⟩ := R.tup h q
    exact ⟨a, vs, h1, .inr h2, h3⟩
  · rename_i q
    cases e
    obtain ⟨a, vs, h1, h2, h3⟩ := R.lst h q
    exact ⟨a, vs, h1, .inl h2.sq, h3⟩
  · cases e
end
end PC
end
section
set_option maxHeartbeats 4000000
namespace PC
open PySem L2 PyProof.Rows

/-! ### the weakest readings -/
def WE (X : Cx) (e : Expr) : TE := fun σ H Q => ∀ (pins : List (Addr × Obj)) (s : Shared), Inv X pins σ H s → wpAny (model X.prog X.w) X.A (eval e X.env) (EP X pins σ Q) X.xe s
def WT (X : Cx) (e : Expr) : TT := fun σ H Q => ∀ (pins : List (Addr × Obj)) (s : Shared), Inv X pins σ H s → wpAny (model X.prog X.w) X.A (isTrue e X.env (eval e X.env)) (TP X pins σ Q) X.xe s
def WA (X : Cx) (es : List Expr) : TA := fun σ H Q => ∀ (pos : Pos) (pins : List (Addr × Obj)) (s : Shared), Inv X pins σ H s → wpAny (model X.prog X.w) X.A (spliced (backTo pos (starEach es X.env))) (AP X pins σ Q) X.xe s
def WS (X : Cx) (st : Stmt) : TS := fun D σ H => ∀ (pins : List (Addr × Obj)) (s : Shared), Inv X pins σ H s → wpAny (model X.prog X.w) X.A (PySem.exec st X.env) (SP X pins D) X.xe s
def WSs (X : Cx) (sts : List Stmt) : TS := fun D σ H => ∀ (pins : List (Addr × Obj)) (s : Shared), Inv X pins σ H s → wpAny (model X.prog X.w) X.A (PySem.execs sts X.env) (SP X pins D) X.xe s
section
variable {X : Cx} {e : Expr} {es : List Expr} {sm : Stmt} {sts : List Stmt}
theorem we : PE X e (WE X e) := ⟨fun pins s _ _ _ I h => h pins s I⟩
theorem wt : PT X e (WT X e) := ⟨fun pins s _ _ _ I h => h pins s I⟩
theorem wa : PA X es (WA X es) := ⟨fun pos pins s _ _ _ I h => h pos pins s I⟩
theorem ws : PS X sm (WS X sm) := ⟨fun pins s _ _ _ I h => h pins s I⟩
theorem wss : PSs X sts (WSs X sts) := ⟨fun pins s _ _ _ I h => h pins s I⟩
theorem we_of {t : TE} (h : PE X e t) {σ : L2.St} {H : Hp} {Q : VK} (q : t σ H Q) : WE X e σ H Q := fun pins s I => h.run pins s σ H Q I q
theorem wt_of {t : TT} (h : PT X e t) {σ : L2.St} {H : Hp} {Q : Bool → Hp → Prop} (q : t σ H Q) : WT X e σ H Q := fun pins s I => h.run pins s σ H Q I q
theorem wa_of {t : TA} (h : PA X es t) {σ : L2.St} {H : Hp} {Q : List V → Hp → Prop} (q : t σ H Q) : WA X es σ H Q := fun pos pins s I => h.run pos pins s σ H Q I q
theorem ws_of {t : TS} (h : PS X sm t) {D : Ends} {σ : L2.St} {H : Hp} (q : t D σ H) : WS X sm D σ H := fun pins s I => h.run pins s σ H D I q
theorem wss_of {t : TS} (h : PSs X sts t) {D : Ends} {σ : L2.St} {H : Hp} (q : t D σ H) : WSs X sts D σ H := fun pins s I => h.run pins s σ H D I q
theorem we_mono {σ : L2.St} {H : Hp} {Q Q' : VK} (h : WE X e σ H Q) (k : ∀ v H', Q v H' → Q' v H') : WE X e σ H Q' := fun pins s I => thn (h pins s I) fun _ _ ⟨v, H', I', r, q⟩ => ⟨v, H', I', r, k v H' q⟩
end
/-- an operation by values -/
def RW (X : Cx) (f : Value → Value → Sem Value) : R2 := fun x y H Q => ∀ (pins : List (Addr × Obj)) (s : Shared) (σ : L2.St) (v u : Value), Inv X pins σ H s → RelV x v → RelV y u → wpAny (model X.prog X.w) X.A (f v u) (EP X pins σ Q) X.xe s
theorem rw_op {X : Cx} {f : Value → Value → Sem Value} : OpR X f (RW X f) := fun pins s σ H x y v u Q I rx ry h => h pins s σ v u I rx ry
theorem rw_of {X : Cx} {f : Value → Value → Sem Value} {r : R2} (h : OpR X f r) {x y : V} {H : Hp} {Q : VK} (q : r x y H Q) : RW X f x y H Q := fun pins s σ v u I rx ry => h pins s σ H x y v u Q I rx ry q
def RIx (X : Cx) : R2 := fun x y H Q => ∀ (value slice : Expr) (pins : List (Addr × Obj)) (s : Shared) (σ : L2.St) (v u : Value), Inv X pins σ H s → RelV x v → RelV y u →
  subscripted slice false v u = operate [v, u] (getItem v u) → wpAny (model X.prog X.w) X.A (subscriptTail value slice v u) (EP X pins σ Q) X.xe s
theorem rix_op {X : Cx} : IxR X (RIx X) := fun value slice pins s σ H x y v u Q I rx ry h hs => h value slice pins s σ v u I rx ry hs
theorem rix_of {X : Cx} {r : R2} (h : IxR X r) {x y : V} {H : Hp} {Q : VK} (q : r x y H Q) : RIx X x y H Q := fun value slice pins s σ v u I rx ry hs => h value slice pins s σ H x y v u Q I rx ry q hs
def RC (X : Cx) (f : Value) : List V → Hp → VK → Prop := fun xs H Q => ∀ (pins : List (Addr × Obj)) (s : Shared) (σ : L2.St) (us : List Value), Inv X pins σ H s → Vals xs us → wpAny (model X.prog X.w) X.A (PySem.call f us) (EP X pins σ Q) X.xe s
theorem rc_op {X : Cx} {f : Value} : CallR X f (RC X f) := fun pins s σ H xs us Q I r h => h pins s σ us I r
theorem rc_of {X : Cx} {f : Value} {r : List V → Hp → VK → Prop} (h : CallR X f r) {xs : List V} {H : Hp} {Q : VK} (q : r xs H Q) : RC X f xs H Q := fun pins s σ us I rx => h pins s σ H xs us Q I rx q
def RM (X : Cx) (id : String) : V → List V → Hp → VK → Prop := fun x xs H Q => ∀ (pins : List (Addr × Obj)) (s : Shared) (σ : L2.St) (v : Value) (us : List Value), Inv X pins σ H s → RelV x v → Vals xs us → wpAny (model X.prog X.w) X.A (PySem.call (.builtin id) (v :: us)) (EP X pins σ Q) X.xe s
theorem rm_op {X : Cx} {id : String} : MtR X id (RM X id) := fun pins s σ H x xs v us Q I rx r h => h pins s σ v us I rx r
theorem rm_of {X : Cx} {id : String} {r : V → List V → Hp → VK → Prop} (h : MtR X id r) {x : V} {xs : List V} {H : Hp} {Q : VK} (q : r x xs H Q) : RM X id x xs H Q := fun pins s σ v us I rx rs => h pins s σ H x xs v us Q I rx rs q

/-! ### what an answer promises -/
/-- an exception's own dict holds its fields -/
def XR (N : Nm) (I : Hp) (rs : List Addr) (x : Ex) (cls : Value) (d : Option Addr) : Prop :=
  cls = .ref (N.ca x.c) ∧ ∃ a fs, d = some a ∧ I a = some (.xd fs) ∧ fs.map (·.1) = x.ns.map N.nm ∧ VRs N I rs x.vs (fs.map (·.2))
/-- Ok: from (I, rs, H) the answer r, whose data lie as V says, serves Q; an exception serves W -/
def Ok {α β : Type} (N : Nm) (L : Hp) (P : Hp → List Addr → α → β → Prop) (I : Hp) (rs : List Addr) (H : Hp) (W : XK) (Q : β → Hp → Prop) : R α → Prop
  | .ok a g => ∀ I' rs' H' b, Ext I rs H I' rs' H' → Rel N L I' rs' g H' → P I' rs' a b → Q b H'
  | .exc x g => ∀ I' rs' H' cls d, Ext I rs H I' rs' H' → Rel N L I' rs' g H' → XR N I' rs' x cls d → W cls d H'
  | .stk => False
abbrev OkV (N : Nm) (L I : Hp) (rs : List Addr) (H : Hp) (W : XK) (Q : VK) (r : R D) : Prop := Ok N L (fun I' rs' d v => VR N I' rs' d v) I rs H W Q r
abbrev OkVs (N : Nm) (L I : Hp) (rs : List Addr) (H : Hp) (W : XK) (Q : List V → Hp → Prop) (r : R (List D)) : Prop := Ok N L (fun I' rs' d v => VRs N I' rs' d v) I rs H W Q r
abbrev OkB (N : Nm) (L I : Hp) (rs : List Addr) (H : Hp) (W : XK) (Q : Bool → Hp → Prop) (r : R Bool) : Prop := Ok N L (fun _ _ d v => d = v) I rs H W Q r
theorem Ok.after {α β : Type} {N : Nm} {L : Hp} {P : Hp → List Addr → α → β → Prop} {I I1 : Hp} {rs rs1 : List Addr} {H H1 : Hp} {W : XK} {Q : β → Hp → Prop} {r : R α} (h : Ok N L P I rs H W Q r) (e : Ext I rs H I1 rs1 H1) : Ok N L P I1 rs1 H1 W Q r := by
  cases r with
  | ok a g => exact fun I' rs' H' b e' R p => h I' rs' H' b (e.trans e') R p
  | exc x g => exact fun I' rs' H' c d e' R p => h I' rs' H' c d (e.trans e') R p
  | stk => exact h
/-- the names' values -/
def ER (N : Nm) (I : Hp) (rs : List Addr) (env : Env) (σ : L2.St) : Prop := env.length = σ.length ∧ ∀ (i : Nat) (d : D), env[i]? = some (some d) → ∃ v, σ[i]? = some (some v) ∧ VR N I rs d v
theorem ER.after {N : Nm} {I I1 : Hp} {rs rs1 : List Addr} {H H1 : Hp} {env : Env} {σ : L2.St} (h : ER N I rs env σ) (e : Ext I rs H I1 rs1 H1) : ER N I1 rs1 env σ := ⟨h.1, fun i d q => let ⟨v, a, b⟩ := h.2 i d q; ⟨v, a, e.vr b⟩⟩
theorem ER.set {N : Nm} {I : Hp} {rs : List Addr} {env : Env} {σ : L2.St} (h : ER N I rs env σ) {i : Nat} {d : D} {v : V} (r : VR N I rs d v) : ER N I rs (env.set i (some d)) (σ.set i (some v)) := by
  refine ⟨by simp [h.1], fun j y q => ?_⟩
  by_cases hj : i = j
  · subst hj
    have hi : i < env.length := by
      have := (List.getElem?_eq_some_iff.mp q).1
      simpa using this
    rw [List.getElem?_set_self hi] at q
    cases q
    exact ⟨v, List.getElem?_set_self (by rw [← h.1]; exact hi), r⟩
  · rw [List.getElem?_set_ne hj] at q
    obtain ⟨u, a, b⟩ := h.2 j y q
    exact ⟨u, by rw [List.getElem?_set_ne hj]; exact a, b⟩
theorem ER.wipe1 {N : Nm} {I : Hp} {rs : List Addr} {env : Env} {σ : L2.St} (h : ER N I rs env σ) (i : Nat) : ER N I rs (env.set i none) (σ.set i none) := by
  refine ⟨by simp [h.1], fun j y q => ?_⟩
  by_cases hj : i = j
  · subst hj
    have hi : i < env.length := by
      have := (List.getElem?_eq_some_iff.mp q).1
      simpa using this
    rw [List.getElem?_set_self hi] at q
    cases q
  · rw [List.getElem?_set_ne hj] at q
    obtain ⟨u, a, b⟩ := h.2 j y q
    exact ⟨u, by rw [List.getElem?_set_ne hj]; exact a, b⟩
theorem ER.wipe {N : Nm} {I : Hp} {rs : List Addr} {env : Env} {σ : L2.St} (h : ER N I rs env σ) : ∀ is : List Nat, ER N I rs (wipeD env is) (wipe σ is)
  | [] => h
  | i :: is => (ER.wipe h is).wipe1 i
end PC
end
section
set_option maxHeartbeats 4000000
namespace PC
open PySem L2 PyProof.Rows
def bopA : Bop → Operator
  | .add => .Add
  | .sub => .Sub
  | .mul => .Mult
  | .fdiv => .FloorDiv
  | .mod => .Mod
  | .pow => .Pow
def copA : Cop → CmpOp
  | .eq => .Eq
  | .ne => .NotEq
  | .lt => .Lt
  | .le => .LtE
  | .gt => .Gt
  | .ge => .GtE
  | .is_ => .Is
  | .isnot => .IsNot
  | .in_ => .In
  | .notin => .NotIn
theorem lim_line {n : Nat} (h : n ≤ LIM) : n ≤ sizeLine := Nat.le_trans h (by decide)
/-- the same cells: an answer by a value that needs nothing new -/
def Gd (N : Nm) (L I : Hp) (rs : List Addr) (g : G) (H : Hp) (z : D) (Q : VK) : Prop := ∀ I' H' b, Ext I rs H I' rs H' → Rel N L I' rs g H' → VR N I' rs z b → Q b H'
section
variable {N : Nm} {L I : Hp} {rs : List Addr} {g : G} {H : Hp} {Q : VK} {x y z : D} {u v : V} {X : Cx}
theorem Gd.now (R : Rel N L I rs g H) (q : Gd N L I rs g H z Q) {b : V} (h : VR N I rs z b) : Q b H := q I H b .refl R h
theorem Gd.tup (R : Rel N L I rs g H) {l : List D} {vs : List V} (q : Gd N L I rs g H (.tup l) Q) (h : VRs N I rs l vs) {p : Addr} (hp : H p = none) : Q (.ref p) (upd H p (.tup vs)) := by
  obtain ⟨R', E'⟩ := R.imm (o := .tup vs) hp
  exact q _ _ _ E' R' (.tup (.inl (.inl upd_same)) (E'.vrs h))
theorem Gd.lst (R : Rel N L I rs g H) {l : List D} {vs : List V} (q : Gd N L I rs g H (.lst l) Q) (h : VRs N I rs l vs) {p : Addr} (hp : H p = none) : Q (.ref p) (upd H p (.lst vs)) := by
  obtain ⟨R', E'⟩ := R.imm (o := .lst vs) hp
  exact q _ _ _ E' R' (.lst (.inl (.inl upd_same)) (E'.vrs h))
theorem top_int {d : D} {i : Int} (h : top g d = .int i) : d = .int i := top_ne h fun _ => by simp
theorem top_str {d : D} {i : List Nat} (h : top g d = .str i) : d = .str i := top_ne h fun _ => by simp
/-- list + list -/
theorem op_catX : OpR X (binaryOp .Add) (fun x y H Q => ∃ l b xs zs, x = .ref l ∧ y = .ref b ∧ SqX X.K H l xs ∧ SqX X.K H b zs ∧ xs.length + zs.length ≤ sizeLine ∧ ∀ p, H p = none → Q (.ref p) (upd H p (.lst (xs ++ zs)))) := by
  intro pins s σ H x y v u Q I rx ry ⟨l, b, xs, zs, hx, hy, h1, h2, hz, q⟩
  subst hx hy
  cases rx
  cases ry
  obtain ⟨_, its, n, r, e⟩ := inv_x I h1
  obtain ⟨_, its2, n2, r2, e2⟩ := inv_x I h2
  have e3 := r.length
  have e4 := r2.length
  refine PySem.P.add_list e e2 ?_ (by simp only [List.size_toArray]; omega)
  have ea : its.toArray ++ its2.toArray = (its ++ its2).toArray := by simp
  rw [ea]
  exact ⟨.ref _, _, I.lnew (t' := s.toks) (r.append r2) (by rw [List.length_append]; omega), rfl, q _ I.fresh⟩
theorem sml_ok {i : Int} (h : sml i = true) : -(2 ^ 64) < i ∧ i < 2 ^ 64 := by
  unfold sml at h
  simpa using h
theorem st_app (a b : List Nat) : st a ++ st b = st (a ++ b) := by
  show Str.append _ _ = _
  simp [Str.append, st]
theorem bin_ok (hK : X.K = N.K) {o : Bop} (h : binD g o x y = some z) (R : Rel N L I rs g H) (hu : VR N I rs x u) (hv : VR N I rs y v) (q : Gd N L I rs g H z Q) : RW X (binaryOp (bopA o)) u v H Q := by
  unfold binD at h
  split at h
  · rename_i a b h1 h2
    rw [top_int h1] at hu; rw [top_int h2] at hv; cases hu; cases hv; cases h
    exact rw_of op_add ⟨_, _, rfl, rfl, q.now R (.int _)⟩
  · rename_i a b h1 h2
    rw [top_int h1] at hu; rw [top_int h2] at hv; cases hu; cases hv; cases h
    exact rw_of op_sub ⟨_, _, rfl, rfl, q.now R (.int _)⟩
  · rename_i a b h1 h2
    rw [top_int h1] at hu; rw [top_int h2] at hv; cases hu; cases hv
    split at h <;> cases h
    rename_i hs
    exact rw_of op_mul ⟨_, _, rfl, rfl, .inl (sml_ok hs), q.now R (.int _)⟩
  · rename_i a b h1 h2
    rw [top_int h1] at hu; rw [top_int h2] at hv; cases hu; cases hv
    split at h <;> cases h
    rename_i hs
    have hs : 0 < b ∧ b < 1073741824 := by simpa using hs
    exact rw_of op_fdiv ⟨_, _, rfl, rfl, hs, q.now R (.int _)⟩
  · rename_i a b h1 h2
    rw [top_int h1] at hu; rw [top_int h2] at hv; cases hu; cases hv
    split at h <;> cases h
    rename_i hs
    have hs : 0 < b := by simpa using hs
    exact rw_of op_mod ⟨_, _, rfl, rfl, hs, q.now R (.int _)⟩
  · rename_i a b h1 h2
    rw [top_int h1] at hu; rw [top_int h2] at hv; cases hu; cases hv
    split at h <;> cases h
    rename_i hs
    have hs : 0 ≤ b ∧ b ≤ 1000000 ∧ sml a = true := by simpa using hs
    have h3 := sml_ok hs.2.2
    exact rw_of op_pow ⟨_, _, rfl, rfl, ⟨hs.1, hs.2.1, by omega⟩, q.now R (.int _)⟩
  · rename_i a b h1 h2
    rw [top_str h1] at hu; rw [top_str h2] at hv; cases hu; cases hv
    split at h <;> cases h
    rename_i hs
    have hs : a.length + b.length ≤ LIM := by simpa using hs
    refine rw_of op_add_str ⟨_, _, rfl, rfl, by rw [st_length, st_length]; exact lim_line hs, ?_⟩
    rw [st_app]
    exact q.now R (.str _)
  · rename_i a b h1 h2
    obtain ⟨p, xs, rfl, hx, kx⟩ := R.tup hu h1
    obtain ⟨p2, ys, rfl, hy, ky⟩ := R.tup hv h2
    split at h <;> cases h
    rename_i hs
    have hs : a.length + b.length ≤ LIM := by simpa using hs
    have e1 := kx.length
    have e2 := ky.length
    refine rw_of op_catA ⟨_, _, xs, ys, rfl, rfl, by rw [hK]; exact hx, by rw [hK]; exact hy, lim_line (by omega), fun e => ?_, fun e e' => ?_, fun _ _ p hp => q.tup R (kx.append ky) hp⟩
    · subst e
      have : a = [] := List.length_eq_zero_iff.mp e1
      subst this
      have h3 := top_ne h2 (fun l => by simp)
      subst h3
      exact q.now R hv
    · subst e'
      have : b = [] := List.length_eq_zero_iff.mp e2
      subst this
      have h3 := top_ne h1 (fun l => by simp)
      subst h3
      rw [List.append_nil] at q
      exact q.now R hu
  · rename_i a b h1 h2
    obtain ⟨p, xs, rfl, hx, kx⟩ := R.lst hu h1
    obtain ⟨p2, ys, rfl, hy, ky⟩ := R.lst hv h2
    split at h <;> cases h
    rename_i hs
    have hs : a.length + b.length ≤ LIM := by simpa using hs
    have e1 := kx.length
    have e2 := ky.length
    exact rw_of op_catX ⟨_, _, xs, ys, rfl, rfl, by rw [hK]; exact hx, by rw [hK]; exact hy, lim_line (by omega), fun p hp => q.lst R (kx.append ky) hp⟩
  · cases h
end
/-! ### == -/
theorem strOk_of {s : List Nat} (h : s.all (fun c => decide (c < 1114112)) = true) : PyData.strOk (st s) = true := by
  unfold PyData.strOk st
  rw [Array.all_eq_true]
  intro i hi
  have h2 := List.all_eq_true.mp h
  have h3 := h2 (s[i]'(by simpa using hi)) (List.getElem_mem _)
  simpa using h3
section
variable {N : Nm} {L I : Hp} {rs : List Addr} {g : G} {H : Hp} {X : Cx}
theorem plain_ok (hs : Same I H) : ∀ (n : Nat) (d : D) (v : V), plN n d = true → VR N I rs d v → Dp N.K H v (toP d) ∧ (toP d).canLay0 = true ∧ (toP d).depth ≤ n
  | 0, _, _, h, _ => by simp [plN] at h
  | n + 1, d, v, h, r => by
    have many : ∀ (l : List D) (vs : List V), l.all (plN n) = true → VRs N I rs l vs → DpAll N.K H vs (toPs l) ∧ PyData.canLayAll0 (toPs l) = true ∧ PyData.depthAll (toPs l) ≤ n := by
      intro l
      induction l with
      | nil =>
        intro vs _ k
        cases k
        exact ⟨.nil, rfl, Nat.zero_le _⟩
      | cons a l ih =>
        intro vs hl k
        cases k with
        | cons ka kl =>
          simp only [List.all_cons, Bool.and_eq_true] at hl
          obtain ⟨a1, a2, a3⟩ := plain_ok hs n a _ hl.1 ka
          obtain ⟨b1, b2, b3⟩ := ih _ hl.2 kl
          exact ⟨.cons a1 b1, by simp [toPs, PyData.canLayAll0, a2, b2], by simp only [toPs, PyData.depthAll]; omega⟩
    cases r with
    | non => exact ⟨.non, rfl, Nat.zero_le _⟩
    | bl b => exact ⟨.bl b, rfl, Nat.zero_le _⟩
    | int i => exact ⟨.int i, rfl, Nat.zero_le _⟩
    | str s => exact ⟨.str _, strOk_of (by simpa [plN] using h), Nat.zero_le _⟩
    | tup h1 k =>
      obtain ⟨a, b, c⟩ := many _ _ (by simpa [plN] using h) k
      exact ⟨.tup (same_t hs h1) a, by simpa [toP, PyData.canLay0] using b, by simp only [toP, PyData.depth]; omega⟩
    | lst h1 k =>
      obtain ⟨a, b, c⟩ := many _ _ (by simpa [plN] using h) k
      exact ⟨.lst (same_x hs h1).sq a, by simpa [toP, PyData.canLay0] using b, by simp only [toP, PyData.depth]; omega⟩
    | _ => simp [plN] at h
end
/-- what eqN says is what the model says -/
theorem eqN_ok : ∀ (n : Nat) (x y : D) (b : Bool), eqN n x y = some b → PyData.eqv (toP x) (toP y) = b ∧ plN n x = true ∧ plN n y = true
  | 0, _, _, _, h => by simp [eqN] at h
  | n + 1, x, y, b, h => by
    have many : ∀ (l k : List D) (b : Bool), eqL (eqN n) (plN n) l k = some b → PyData.eqvAll (toPs l) (toPs k) = b ∧ l.all (plN n) = true ∧ k.all (plN n) = true := by
      intro l
      induction l with
      | nil =>
        intro k b h
        cases k with
        | nil => simp [eqL] at h; subst h; exact ⟨rfl, rfl, rfl⟩
        | cons c k =>
          unfold eqL at h
          split at h
          · rename_i hc
            cases h
            simp only [Bool.and_eq_true] at hc
            exact ⟨rfl, rfl, hc.2⟩
          · cases h
      | cons a l ih =>
        intro k b h
        cases k with
        | nil =>
          unfold eqL at h
          split at h
          · rename_i hc
            cases h
            simp only [Bool.and_eq_true] at hc
            exact ⟨rfl, hc.1, rfl⟩
          · cases h
        | cons c k =>
          unfold eqL at h
          split at h
          · rename_i p q h1 h2
            cases h
            obtain ⟨a1, a2, a3⟩ := eqN_ok n a c _ h1
            obtain ⟨b1, b2, b3⟩ := ih k _ h2
            exact ⟨by simp only [toPs, PyData.eqvAll]; rw [a1, b1], by simp [a2, b2], by simp [a3, b3]⟩
          · cases h
    cases x <;> cases y <;> simp only [eqN] at h <;> first
      | (cases h; exact ⟨rfl, rfl, rfl⟩)
      | (split at h <;> cases h; rename_i hc; simp only [Bool.and_eq_true] at hc; exact ⟨by first | rfl | (simp only [toP, PyData.eqv, Bool.beq_eq_decide_eq, decide_eq_decide]; exact ⟨fun e => st_inj e, fun e => by rw [e]⟩), hc.1, hc.2⟩)
      | (obtain ⟨a, b, c⟩ := many _ _ _ h; exact ⟨by simpa [toP, PyData.eqv] using a, by simpa [plN] using b, by simpa [plN] using c⟩)
      | (simp [plN] at h)
      | cases h
end PC
end
section
set_option maxHeartbeats 4000000
namespace PC
open PySem L2 PyProof.Rows
section
variable {N : Nm} {L I : Hp} {rs : List Addr} {g : G} {H : Hp} {Q : VK} {x y z : D} {u v : V} {X : Cx}
theorem Gd.bl (R : Rel N L I rs g H) {b : Bool} (q : Gd N L I rs g H (.bl b) Q) : Q (.bl b) H := q.now R (.bl b)
/-- a list's cell and its value lie alike -/
theorem top_vr (R : Rel N L I rs g H) (h : VR N I rs x u) : (∃ l a vs, top g x = .lst l ∧ u = .ref a ∧ SqX N.K H a vs ∧ VRs N I rs l vs) ∨ top g x = x := by
  cases x with
  | ref i =>
    cases q : g[i]? with
    | none => exact .inr (by simp [top, q])
    | some c =>
      cases c with
      | lst l =>
        have e : top g (.ref i) = .lst l := by simp [top, q]
        obtain ⟨a, vs, h1, h2, h3⟩ := R.lst h e
        exact .inl ⟨_, a, vs, e, h1, h2, h3⟩
      | lck l =>
        have e : top g (.ref i) = .lst l := by simp [top, q]
        obtain ⟨a, vs, h1, h2, h3⟩ := R.lst h e
        exact .inl ⟨_, a, vs, e, h1, h2, h3⟩
      | _ => exact .inr (by simp [top, q])
  | _ => exact .inr rfl
theorem dp_top (R : Rel N L I rs g H) (h : VR N I rs x u) (p : plN 50 (top g x) = true) : Dp N.K H u (toP (top g x)) ∧ SeqAt.shaped (toP (top g x)) = true := by
  have sh : ∀ {d : PyData}, d.canLay0 = true → d.depth ≤ 50 → SeqAt.shaped d = true := fun {d} a b => by
    unfold SeqAt.shaped
    rw [a, decide_eq_true (Nat.le_trans b (by decide))]
    rfl
  rcases top_vr R h with ⟨l, a, vs, e, rfl, h2, h3⟩ | e
  · rw [e] at p ⊢
    have hl : l.all (plN 49) = true := by simpa [plN] using p
    have many : ∀ (l : List D) (vs : List V), l.all (plN 49) = true → VRs N I rs l vs → DpAll N.K H vs (toPs l) ∧ PyData.canLayAll0 (toPs l) = true ∧ PyData.depthAll (toPs l) ≤ 49 := by
      intro l
      induction l with
      | nil =>
        intro vs _ k
        cases k
        exact ⟨.nil, rfl, Nat.zero_le _⟩
      | cons a l ih =>
        intro vs hl k
        cases k with
        | cons ka kl =>
          simp only [List.all_cons, Bool.and_eq_true] at hl
          obtain ⟨a1, a2, a3⟩ := plain_ok R.sub 49 a _ hl.1 ka
          obtain ⟨b1, b2, b3⟩ := ih _ hl.2 kl
          exact ⟨.cons a1 b1, by simp [toPs, PyData.canLayAll0, a2, b2], by simp only [toPs, PyData.depthAll]; omega⟩
    obtain ⟨a1, a2, a3⟩ := many l vs hl h3
    exact ⟨.lst h2.sq a1, sh (by simpa [toP, PyData.canLay0] using a2) (by simp only [toP, PyData.depth]; omega)⟩
  · rw [e] at p ⊢
    obtain ⟨a, b, c⟩ := plain_ok R.sub 50 x u p h
    exact ⟨a, sh b c⟩
theorem st_eq {a b : List Nat} : decide (V.str (st a) = V.str (st b)) = decide (a = b) := by
  rw [decide_eq_decide]
  exact ⟨fun e => st_inj (by injection e), fun e => by rw [e]⟩
theorem scl_ok {b : Bool} (h : sclE x y = some b) (hu : VR N I rs x u) (hv : VR N I rs y v) : scal u v = true ∧ decide (u = v) = b := by
  cases x <;> cases y <;> simp only [sclE] at h <;> cases h <;> cases hu <;> cases hv <;> first
    | exact ⟨rfl, rfl⟩
    | exact ⟨rfl, st_eq⟩
    | exact ⟨rfl, by rw [decide_eq_decide]; exact ⟨fun e => by injection e, fun e => by rw [e]⟩⟩
    | exact ⟨rfl, decide_eq_false (fun e => by cases e)⟩
theorem eq_ok (hK : X.K = N.K) (hU : X.A.units + 64 < cLine) {b : Bool} (h : eqG g x y = some b) (R : Rel N L I rs g H) (hu : VR N I rs x u) (hv : VR N I rs y v) :
    (Q (.bl b) H → RW X (compareOp .Eq) u v H Q) ∧ (Q (.bl (!b)) H → RW X (compareOp .NotEq) u v H Q) := by
  unfold eqG at h
  split at h
  · rename_i c hc
    cases h
    obtain ⟨h1, h2⟩ := scl_ok hc hu hv
    exact ⟨fun q => rw_of op_eq ⟨h1, by rw [h2]; exact q⟩, fun q => rw_of op_ne ⟨h1, by rw [h2]; exact q⟩⟩
  · obtain ⟨h1, h2, h3⟩ := eqN_ok _ _ _ _ h
    obtain ⟨d1, s1⟩ := dp_top R hu h2
    obtain ⟨d2, s2⟩ := dp_top R hv h3
    rw [← hK] at d1 d2
    exact ⟨fun q => rw_of (op_eqD hU) ⟨_, _, d1, d2, s1, s2, by rw [h1]; exact q⟩, fun q => rw_of (op_neD hU) ⟨_, _, d1, d2, s1, s2, by rw [h1]; exact q⟩⟩
theorem fl_v {d : D} {w : V} (h : fl d = true) (r : VR N I rs d w) : flatV w = true := by
  cases d <;> simp only [fl] at h <;> first | exact Bool.noConfusion h | (cases r; rfl)
theorem fl_all : ∀ {l : List D} {vs : List V}, l.all fl = true → VRs N I rs l vs → vs.all flatV = true
  | [], _, _, k => by cases k; rfl
  | a :: l, _, h, k => by
    cases k with
    | cons ka kl =>
      simp only [List.all_cons, Bool.and_eq_true] at h
      simp [fl_v h.1 ka, fl_all h.2 kl]
theorem fl_eq {d e : D} {a b : V} (h1 : fl d = true) (h2 : fl e = true) (ra : VR N I rs d a) (rb : VR N I rs e b) : eqV a b = flEq d e := by
  cases d <;> simp only [fl] at h1 <;> cases e <;> simp only [fl] at h2 <;> first
    | exact Bool.noConfusion h1
    | exact Bool.noConfusion h2
    | (cases ra; cases rb; simp only [eqV, flEq, Bool.beq_eq_decide_eq] <;> first
        | rfl
        | (rw [decide_eq_decide]; exact ⟨fun e => st_inj e, fun e => by rw [e]⟩))
theorem fl_any {d : D} {a : V} (hd : fl d = true) (ra : VR N I rs d a) : ∀ {l : List D} {vs : List V}, l.all fl = true → VRs N I rs l vs → inV a vs = l.any fun z => flEq z d
  | [], _, _, k => by cases k; rfl
  | b :: l, _, h, k => by
    cases k with
    | cons kb kl =>
      simp only [List.all_cons, Bool.and_eq_true] at h
      have e1 := fl_eq h.1 hd kb ra
      have e2 := fl_any hd ra h.2 kl
      unfold inV at e2 ⊢
      rw [List.any_cons, List.any_cons, e1, e2]
theorem in_ok {b : Bool} (hK : X.K = N.K) (h : inD g x y = some b) (R : Rel N L I rs g H) (hu : VR N I rs x u) (hv : VR N I rs y v)
    (hd : ∀ ks ds k, dctD g y = some (ks, ds) → keyD x = some k → kOk k ks = true → b = decide (k ∈ ks) → (Q (.bl b) H → RW X (compareOp .In) u v H Q) ∧ (Q (.bl (!b)) H → RW X (compareOp .NotIn) u v H Q)) :
    (Q (.bl b) H → RW X (compareOp .In) u v H Q) ∧ (Q (.bl (!b)) H → RW X (compareOp .NotIn) u v H Q) := by
  unfold inD at h
  split at h
  · rename_i s e
    rw [top_str e] at hv
    cases hv
    split at h <;> cases h
    cases hu
    rename_i r
    unfold inStr
    split
    · rename_i c
      exact ⟨fun q => rw_of op_in_sign ⟨c, st s, rfl, rfl, by rw [st_list]; exact q⟩, fun q => rw_of op_notIn_sign ⟨c, st s, rfl, rfl, by rw [st_list]; exact q⟩⟩
    · exact ⟨fun q => rw_of op_in_str ⟨_, _, rfl, rfl, q⟩, fun q => rw_of op_notin_str ⟨_, _, rfl, rfl, q⟩⟩
  · rename_i l e
    split at h <;> cases h
    rename_i hf
    simp only [Bool.and_eq_true] at hf
    obtain ⟨a, vs, rfl, h2, h3⟩ := R.tup hv e
    rw [← hK] at h2
    have e2 := fl_any hf.1 hu hf.2 h3
    exact ⟨fun q => rw_of op_in_seq ⟨a, vs, rfl, .inr h2, fl_v hf.1 hu, fl_all hf.2 h3, by rw [e2]; exact q⟩, fun q => rw_of op_notIn_seq ⟨a, vs, rfl, .inr h2, fl_v hf.1 hu, fl_all hf.2 h3, by rw [e2]; exact q⟩⟩
  · rename_i l e
    split at h <;> cases h
    rename_i hf
    simp only [Bool.and_eq_true] at hf
    obtain ⟨a, vs, rfl, h2, h3⟩ := R.lst hv e
    rw [← hK] at h2
    have e2 := fl_any hf.1 hu hf.2 h3
    exact ⟨fun q => rw_of op_in_seq ⟨a, vs, rfl, .inl h2.sq, fl_v hf.1 hu, fl_all hf.2 h3, by rw [e2]; exact q⟩, fun q => rw_of op_notIn_seq ⟨a, vs, rfl, .inl h2.sq, fl_v hf.1 hu, fl_all hf.2 h3, by rw [e2]; exact q⟩⟩
  · rename_i e1 e2 e3
    have ey : top g y = y := by
      rcases top_vr R hv with ⟨l, a, vs, e, _⟩ | e
      · exact absurd e (e3 l)
      · exact e
    rw [ey] at h
    split at h
    · rename_i ks ds k h1 h2
      split at h <;> cases h
      rename_i hk
      exact hd ks ds k h1 h2 hk rfl
    · cases h
end
/-! ### dicts -/
theorem look_v {N : Nm} {I : Hp} {rs : List Addr} : ∀ {ks : List DK} {ds : List D} {kvs : List (Key × V)}, kvs.map (·.1) = ks.map key → VRs N I rs ds (kvs.map (·.2)) → ∀ k : DK,
    (∀ d, lookD ks ds k = some d → ∃ v, valV kvs (key k) = some v ∧ VR N I rs d v) ∧ (k ∉ ks → valV kvs (key k) = none) ∧ (k ∈ ks → (valV kvs (key k)).isSome = true)
  | [], ds, kvs, h, r, k => by
    have : kvs = [] := by simpa using h
    subst this
    refine ⟨fun d e => by simp [lookD] at e, fun _ => rfl, fun e => by simp at e⟩
  | a :: ks, ds, kvs, h, r, k => by
    cases kvs with
    | nil => simp at h
    | cons p kvs =>
      simp only [List.map_cons, List.cons.injEq] at h
      obtain ⟨h1, h2⟩ := h
      cases ds with
      | nil => cases r
      | cons d ds =>
        cases r with
        | cons rd rr =>
          obtain ⟨a1, a2, a3⟩ := look_v h2 rr k
          by_cases e : a = k
          · subst e
            have ev : valV (p :: kvs) (key a) = some p.2 := valV_pos h1
            refine ⟨fun y hy => ?_, fun hn => absurd List.mem_cons_self hn, fun _ => by rw [ev]; rfl⟩
            simp [lookD] at hy
            subst hy
            exact ⟨p.2, ev, rd⟩
          · have ne : p.1 ≠ key k := by rw [h1]; exact fun z => e (key_inj z)
            have ev : valV (p :: kvs) (key k) = valV kvs (key k) := by simp [valV, List.find?_cons, ne]
            refine ⟨fun y hy => ?_, fun hn => ?_, fun hm => ?_⟩
            · rw [ev]; exact a1 y (by simpa [lookD, e] using hy)
            · rw [ev]; exact a2 fun z => hn (List.mem_cons_of_mem _ z)
            · rw [ev]
              rcases List.mem_cons.mp hm with z | z
              · exact absurd z.symm e
              · exact a3 z
theorem putK_cons {p : Key × V} {r : List (Key × V)} {k : Key} {v : V} (nd : p.1 ∉ r.map (·.1)) : putK (p :: r) k v = if p.1 = k then (p.1, v) :: r else p :: putK r k v := by
  by_cases e : p.1 = k
  · rw [if_pos e]
    have hr : r.map (fun kv => if kv.1 = k then (kv.1, v) else kv) = r := by
      have h : ∀ q ∈ r, (if q.1 = k then (q.1, v) else q) = q := fun q hq => if_neg fun z => nd (by rw [e, ← z]; exact List.mem_map_of_mem hq)
      rw [List.map_congr_left h, List.map_id']
    unfold putK
    rw [if_pos (by simp [e])]
    rw [List.map_cons, if_pos e, hr]
  · rw [if_neg e]
    unfold putK
    have ea : ((p :: r).any fun kv => decide (kv.1 = k)) = r.any fun kv => decide (kv.1 = k) := by simp [e]
    rw [ea]
    split
    · rw [List.map_cons, if_neg e]
    · rfl
theorem put_v {N : Nm} {I : Hp} {rs : List Addr} {y : D} {v : V} (hy : VR N I rs y v) (k : DK) : ∀ {ks : List DK} {ds : List D} {kvs : List (Key × V)}, kvs.map (·.1) = ks.map key → ks.Nodup → VRs N I rs ds (kvs.map (·.2)) →
    (putK kvs (key k) v).map (·.1) = (putDk ks k).map key ∧ (putDk ks k).Nodup ∧ VRs N I rs (putDv ks ds k y) ((putK kvs (key k) v).map (·.2)) ∧ (∀ z, z ∈ putDk ks k → z ∈ ks ∨ z = k) ∧ (putDk ks k).length ≤ ks.length + 1
  | [], ds, kvs, h, nd, r => by
    have : kvs = [] := by simpa using h
    subst this
    cases r
    exact ⟨rfl, by simp [putDk], .cons hy .nil, fun z hz => by simp [putDk] at hz; exact .inr hz, by simp [putDk]⟩
  | a :: ks, ds, kvs, h, nd, r => by
    cases kvs with
    | nil => simp at h
    | cons p kvs =>
      simp only [List.map_cons, List.cons.injEq] at h
      obtain ⟨h1, h2⟩ := h
      rw [List.nodup_cons] at nd
      have np : p.1 ∉ kvs.map (·.1) := by
        rw [h1, h2]
        intro z
        obtain ⟨b, hb, e⟩ := List.mem_map.mp z
        exact nd.1 (key_inj e ▸ hb)
      cases ds with
      | nil => cases r
      | cons d ds =>
        cases r with
        | cons rd rr =>
          rw [putK_cons np]
          by_cases e : a = k
          · subst e
            rw [if_pos h1]
            refine ⟨by simp [putDk, h1, h2], by simp only [putDk, if_true]; exact List.nodup_cons.mpr nd, by simp only [putDv, if_true]; exact .cons hy rr, fun z hz => .inl (by simpa [putDk] using hz), by simp [putDk]⟩
          · have ne : p.1 ≠ key k := by rw [h1]; exact fun z => e (key_inj z)
            rw [if_neg ne]
            obtain ⟨b1, b2, b3, b4, b5⟩ := put_v hy k h2 nd.2 rr
            refine ⟨by simp [putDk, e, h1, b1], ?_, by simp only [putDv, if_neg e]; exact .cons rd b3, fun z hz => ?_, by simp [putDk, e]; exact b5⟩
            · simp only [putDk, if_neg e]
              refine List.nodup_cons.mpr ⟨fun z => ?_, b2⟩
              rcases b4 a z with q | q
              · exact nd.1 q
              · exact e q
            · simp only [putDk, if_neg e] at hz
              rcases List.mem_cons.mp hz with q | q
              · exact .inl (by rw [q]; exact List.mem_cons_self)
              · rcases b4 z q with q | q
                · exact .inl (List.mem_cons_of_mem _ q)
                · exact .inr q
end PC
end
section
set_option maxHeartbeats 4000000
namespace PC
open PySem L2 PyProof.Rows
section
variable {N : Nm} {L I : Hp} {rs : List Addr} {g : G} {H : Hp} {Q : VK} {x y z : D} {u v : V} {X : Cx}
/-- a dict is read: it is tracked, or one of the module -/
theorem dct_cases (R : Rel N L I rs g H) {ks : List DK} {ds : List D} (h : dctD g y = some (ks, ds)) (hv : VR N I rs y v) :
    (∃ a kvs, v = .ref a ∧ H a = some (.dK kvs) ∧ kvs.map (·.1) = ks.map key ∧ ks.Nodup ∧ VRs N I rs ds (kvs.map (·.2))) ∨
    ∃ a es n vs kk, v = .ref a ∧ KDict N.K N.w a es n ∧ ks = kk.map .s ∧ kk ≠ [] ∧ kk.length = vs.length ∧ (∀ x, KdAt N a kk vs x) ∧ VRs N I rs ds vs := by
  cases hv with
  | dct h1 h2 h3 k => cases h; exact .inl ⟨_, _, rfl, R.sub _ _ h1, h2, h3, k⟩
  | kdc h1 h0 h2 h3 k => cases h; exact .inr ⟨_, _, _, _, _, rfl, h1, rfl, h0, h2, h3, k⟩
  | @ref i a h1 =>
    cases q : g[i]? with
    | none => simp [dctD, q] at h
    | some c =>
      cases c with
      | dct ks' ds' =>
        simp only [dctD, q] at h
        cases h
        obtain ⟨_, _, kvs, h2, h3, h4, h5, _⟩ := R.cell _ _ _ h1 q
        exact .inl ⟨_, _, rfl, h2, h3, h4, h5⟩
      | _ => simp [dctD, q] at h
  | _ => simp [dctD] at h
theorem key_v {k : DK} (h : keyD x = some k) (hu : VR N I rs x u) : u = kV (key k) := by
  cases x <;> simp only [keyD] at h <;> cases h <;> cases hu <;> rfl
theorem s_mem {a : List Nat} : ∀ {kk : List (List Nat)}, DK.s a ∈ kk.map DK.s ↔ a ∈ kk
  | [] => by simp
  | b :: kk => by simp
theorem din_ok (hK : X.K = N.K) (hw : X.w = N.w) (hU : X.A.units + 64 < cLine) (R : Rel N L I rs g H) (hu : VR N I rs x u) (hv : VR N I rs y v) {ks : List DK} {ds : List D} {k : DK} {b : Bool} (h1 : dctD g y = some (ks, ds)) (h2 : keyD x = some k) (hk : kOk k ks = true) (hb : b = decide (k ∈ ks)) :
    (Q (.bl b) H → RW X (compareOp .In) u v H Q) ∧ (Q (.bl (!b)) H → RW X (compareOp .NotIn) u v H Q) := by
  have ek := key_v h2 hu
  rcases dct_cases R h1 hv with ⟨a, kvs, rfl, e, ea, nd, r⟩ | ⟨a, es, n, vs, kk, rfl, kd, rfl, ne, el, kat, r⟩
  · obtain ⟨a1, a2, a3⟩ := look_v ea r k
    have eb : (valV kvs (key k)).isSome = b := by
      rw [hb]
      by_cases hm : k ∈ ks
      · rw [a3 hm, decide_eq_true hm]
      · rw [a2 hm, decide_eq_false hm]; rfl
    have hU1 : X.A.units + 1 < cLine := by omega
    refine ⟨fun q pins s σ vv uu J rx ry => ?_, fun q pins s σ vv uu J rx ry => ?_⟩
    · obtain rfl : uu = Value.ref a := ry
      rw [ek] at rx
      exact d_in hU1 J (DGet.k (k := key k) e) rx fun s' J' => ⟨.bl _, H, J', rfl, by rw [eb]; exact q⟩
    · obtain rfl : uu = Value.ref a := ry
      rw [ek] at rx
      exact d_notIn hU1 J (DGet.k (k := key k) e) rx fun s' J' => ⟨.bl _, H, J', rfl, by rw [eb]; exact q⟩
  · cases k with
    | i j =>
      cases kk with
      | nil => exact absurd rfl ne
      | cons c kk => simp [kOk] at hk
    | s t =>
      have eu : u = .str (st t) := ek
      subst eu
      have h3 := kat t
      unfold KdAt at h3
      rw [← hK, ← hw] at kd
      rw [← hK] at h3
      have hm : b = decide (t ∈ kk) := by rw [hb]; simp only [decide_eq_decide]; exact s_mem
      split at h3
      · rename_i j hj
        obtain ⟨w, uw, e1, e2, e3⟩ := h3
        have hin : t ∈ kk := by
          have := List.findIdx?_eq_some_iff_getElem.mp hj
          obtain ⟨hl, p, _⟩ := this
          rw [← eq_of_beq p]
          exact List.getElem_mem _
        rw [decide_eq_true hin] at hm
        subst hm
        exact ⟨fun q => rw_of (op_in_kd kd) ⟨st t, some uw, rfl, rfl, e2, q⟩, fun q => rw_of (op_notIn_kd kd) ⟨st t, some uw, rfl, rfl, e2, q⟩⟩
      · rename_i hj
        have hin : t ∉ kk := fun hm => by
          have := List.findIdx?_eq_none_iff.mp hj t hm
          simp at this
        rw [decide_eq_false hin] at hm
        subst hm
        exact ⟨fun q => rw_of (op_in_kd kd) ⟨st t, none, rfl, rfl, h3, q⟩, fun q => rw_of (op_notIn_kd kd) ⟨st t, none, rfl, rfl, h3, q⟩⟩
theorem cmp_ok (hK : X.K = N.K) (hw : X.w = N.w) (hU : X.A.units + 64 < cLine) {o : Cop} {b : Bool} (h : cmpD g o x y = some b) (R : Rel N L I rs g H) (hu : VR N I rs x u) (hv : VR N I rs y v) (q : Q (.bl b) H) : RW X (compareOp (copA o)) u v H Q := by
  cases o with
  | eq => exact (eq_ok hK hU (by simpa [cmpD] using h) R hu hv).1 q
  | ne =>
    simp only [cmpD, Option.map_eq_some_iff] at h
    obtain ⟨c, h1, h2⟩ := h
    subst h2
    exact (eq_ok hK hU h1 R hu hv).2 q
  | in_ => exact (in_ok hK (by simpa [cmpD] using h) R hu hv fun ks ds k h1 h2 h4 h3 => din_ok hK hw hU R hu hv h1 h2 h4 h3).1 q
  | notin =>
    simp only [cmpD, Option.map_eq_some_iff] at h
    obtain ⟨c, h1, h2⟩ := h
    subst h2
    exact (in_ok hK h1 R hu hv fun ks ds k h1 h2 h4 h3 => din_ok hK hw hU R hu hv h1 h2 h4 h3).2 q
  | lt =>
    cases x <;> cases y <;> simp only [cmpD] at h <;> cases h <;> cases hu <;> cases hv
    · exact rw_of op_lt ⟨_, _, rfl, rfl, q⟩
    · exact rw_of op_lt_str ⟨_, _, rfl, rfl, by rw [st_list, st_list]; exact q⟩
  | le =>
    cases x <;> cases y <;> simp only [cmpD] at h <;> cases h <;> cases hu <;> cases hv
    · exact rw_of op_le ⟨_, _, rfl, rfl, q⟩
    · exact rw_of op_le_str ⟨_, _, rfl, rfl, by rw [st_list, st_list]; exact q⟩
  | gt =>
    cases x <;> cases y <;> simp only [cmpD] at h <;> cases h <;> cases hu <;> cases hv
    · exact rw_of op_gt ⟨_, _, rfl, rfl, q⟩
    · exact rw_of op_gt_str ⟨_, _, rfl, rfl, by rw [st_list, st_list]; exact q⟩
  | ge =>
    cases x <;> cases y <;> simp only [cmpD] at h <;> cases h <;> cases hu <;> cases hv
    · exact rw_of op_ge ⟨_, _, rfl, rfl, q⟩
    · exact rw_of op_ge_str ⟨_, _, rfl, rfl, by rw [st_list, st_list]; exact q⟩
  | is_ =>
    have hn : ∀ w, VR N I rs x w → decide (w = .non) = isNon x := fun w r => by cases r <;> simp [isNon]
    cases y <;> simp only [cmpD] at h
    · cases h
      cases hv
      exact rw_of op_isN ⟨rfl, by rw [hn _ hu]; exact q⟩
    · cases x <;> simp only [cmpD] at h <;> cases h
      cases hu; cases hv
      exact rw_of op_is_bl ⟨_, _, rfl, rfl, q⟩
    all_goals (first | cases h | (cases x <;> first | cases h | (simp only [cmpD] at h <;> cases h)))
  | isnot =>
    have hn : ∀ w, VR N I rs x w → decide (w = .non) = isNon x := fun w r => by cases r <;> simp [isNon]
    cases y <;> simp only [cmpD] at h
    · cases h
      cases hv
      exact rw_of op_notN ⟨rfl, by rw [hn _ hu]; exact q⟩
    · cases x <;> simp only [cmpD] at h <;> cases h
      cases hu; cases hv
      exact rw_of op_isnot_bl ⟨_, _, rfl, rfl, q⟩
    all_goals (first | cases h | (cases x <;> first | cases h | (simp only [cmpD] at h <;> cases h)))
end
end PC
end
section
set_option maxHeartbeats 4000000
namespace PC
open PySem L2 PyProof.Rows
section
variable {N : Nm} {L I : Hp} {rs : List Addr} {g : G} {H : Hp} {Q : VK} {x y z : D} {u v : V} {X : Cx}
theorem isE {α β : Type} {l : List α} {k : List β} (h : l.length = k.length) : l.isEmpty = k.isEmpty := by
  cases l <;> cases k <;> simp at h ⊢
theorem tru_ok (hK : X.K = N.K) {b : Bool} (h : tru g x = some b) (R : Rel N L I rs g H) (hu : VR N I rs x u) : TruV X.K u H b := by
  unfold tru at h
  split at h
  · rename_i e
    have := top_ne e (fun l => by simp); subst this
    cases hu; cases h; rfl
  · rename_i e
    have := top_ne e (fun l => by simp); subst this
    cases hu; cases h; rfl
  · rename_i e
    rw [top_int e] at hu
    cases hu; cases h; rfl
  · rename_i s e
    rw [top_str e] at hu
    cases hu
    split at h <;> cases h
    rename_i hl
    have hl : s.length ≤ LIM := by simpa using hl
    refine ⟨by rw [st_length]; exact lim_line hl, ?_⟩
    rw [st_length]
    cases s with
    | nil => rfl
    | cons c t => simp; omega
  · rename_i l e
    cases h
    obtain ⟨a, vs, rfl, h2, h3⟩ := R.tup hu e
    exact .inr (.inl ⟨vs, by rw [hK]; exact h2, by rw [isE h3.length]⟩)
  · rename_i l e
    cases h
    obtain ⟨a, vs, rfl, h2, h3⟩ := R.lst hu e
    exact .inl ⟨vs, by rw [hK]; exact h2.sq, by rw [isE h3.length]⟩
  · cases h
theorem ix_dct (hU : X.A.units + 1 < cLine) : IxR X (fun x y H Q => ∃ a v, x = .ref a ∧ DGet H a y (some v) ∧ Q v H) := by
  intro value slice pins s σ H x y v u Q J rx ry ⟨a, w, e, d, q⟩ hs
  subst e
  obtain rfl : v = Value.ref a := rx
  exact tail_any (dict_typeIs J d) PySem.F.slot_dict_getitem.lookup (d_getItem hU J d ry fun w' s' J' r' => ⟨w, H, J', r', q⟩) hs
theorem at_v {l : List D} {vs : List V} (k : VRs N I rs l vs) {i : Int} {d : D} (h : ((ixN l.length i).bind fun j => l[j]?) = some d) : ∃ w, atI vs i = some w ∧ VR N I rs d w := by
  rw [k.length] at h
  cases e : ixN vs.length i with
  | none => rw [e] at h; cases h
  | some j =>
    rw [e] at h
    obtain ⟨w, h1, h2⟩ := k.get h
    exact ⟨w, by unfold atI; rw [e]; exact h1, h2⟩
theorem sub_ok (hK : X.K = N.K) (hw : X.w = N.w) (hU : X.A.units + 64 < cLine) (h : subD g x y = some z) (R : Rel N L I rs g H) (hu : VR N I rs x u) (hv : VR N I rs y v) (q : Gd N L I rs g H z Q) : RIx X u v H Q := by
  unfold subD at h
  split at h
  · rename_i l k e
    cases hv
    obtain ⟨a, vs, rfl, h2, h3⟩ := R.tup hu e
    obtain ⟨w, h4, h5⟩ := at_v h3 h
    exact rix_of ix_tup ⟨a, vs, _, w, rfl, rfl, by rw [hK]; exact h2, h4, q.now R h5⟩
  · rename_i l k e
    cases hv
    obtain ⟨a, vs, rfl, h2, h3⟩ := R.lst hu e
    obtain ⟨w, h4, h5⟩ := at_v h3 h
    exact rix_of ix_list ⟨a, vs, _, w, rfl, rfl, by rw [hK]; exact h2.sq, h4, q.now R h5⟩
  · rename_i s k e
    rw [top_str e] at hu
    cases hu; cases hv
    split at h
    · rename_i hl
      have hl : s.length ≤ LIM := by simpa using hl
      cases ei : ixN s.length k with
      | none => rw [ei] at h; cases h
      | some j =>
        rw [ei] at h
        simp only [Option.bind_some, Option.map_eq_some_iff] at h
        obtain ⟨c, h1, h2⟩ := h
        subst h2
        exact rix_of ix_str ⟨_, _, c, rfl, rfl, by rw [st_length]; exact lim_line hl, by rw [st_list]; unfold atI; rw [ei]; exact h1, q.now R (.str [c])⟩
    · cases h
  · rename_i o' i' e1 e2 e3
    split at h
    · rename_i ks ds k h1 h2
      split at h
      · rename_i hk
        have ek := key_v h2 hv
        subst ek
        have e0 : top g x = x := by
          rcases top_vr R hu with ⟨l, a, vs, e, _⟩ | e
          · rw [e] at h1; simp [dctD] at h1
          · exact e
        rw [e0] at h1
        rcases dct_cases R h1 hu with ⟨a, kvs, rfl, e, ea, nd, r⟩ | ⟨a, es, n, vs, kk, rfl, kd, rfl, ne, el, kat, r⟩
        · obtain ⟨a1, a2, a3⟩ := look_v ea r k
          obtain ⟨w, b1, b2⟩ := a1 z h
          have dg := DGet.k (k := key k) e
          rw [b1] at dg
          exact rix_of (ix_dct (by omega)) ⟨a, w, rfl, dg, q.now R b2⟩
        · cases k with
          | i j =>
            cases kk with
            | nil => exact absurd rfl ne
            | cons c kk => simp [kOk] at hk
          | s t =>
            have h3 := kat t
            unfold KdAt at h3
            have lk : ∀ (kk : List (List Nat)) (ds : List D) (d : D), lookD (kk.map .s) ds (.s t) = some d → ∃ j, kk.findIdx? (· == t) = some j ∧ ds[j]? = some d := by
              intro kk
              induction kk with
              | nil => intro ds d h; simp [lookD] at h
              | cons c kk ih =>
                intro ds d h
                cases ds with
                | nil => simp [lookD] at h
                | cons d' ds =>
                  simp only [List.map_cons, lookD] at h
                  by_cases ec : c = t
                  · subst ec
                    simp at h
                    subst h
                    exact ⟨0, by simp [List.findIdx?_cons], rfl⟩
                  · rw [if_neg (by intro z; injection z with z; exact ec z)] at h
                    obtain ⟨j, j1, j2⟩ := ih ds d h
                    exact ⟨j + 1, by simp [List.findIdx?_cons, ec, j1], by simpa using j2⟩
            obtain ⟨j, j1, j2⟩ := lk kk ds z h
            rw [j1] at h3
            obtain ⟨w, uw, e1, e2, e3⟩ := h3
            obtain ⟨w', f1, f2⟩ := r.get j2
            rw [e1] at f1
            cases f1
            rw [← hK] at e2 kd
            rw [← hw] at kd
            exact rix_of ix_kdict ⟨a, st t, w, rfl, rfl, ⟨es, n, uw, kd.at_, kd.lit, e2, e3⟩, q.now R f2⟩
      · cases h
    · cases h
end
end PC
end
section
set_option maxHeartbeats 4000000
namespace PC
open PySem L2 PyProof.Rows
/-- what a context must be -/
structure XF (N : Nm) (X : Cx) : Prop where
  hK : X.K = N.K
  hw : X.w = N.w
  hV : X.A.units + 80 < cLine
  hc : X.calm = true
  hg : X.A.guards = some []
theorem XF.hU {N : Nm} {X : Cx} (F : XF N X) : X.A.units + 64 < cLine := by have := F.hV; omega
def RSl (X : Cx) : V → Option Int → Option Int → Hp → VK → Prop := fun x lo hi H Q => ∀ (pins : List (Addr × Obj)) (s : Shared) (σ : L2.St) (v vl vu : Value) (sl : Addr), Inv X pins σ H s → RelV x v → s.heap.IsSliceOf sl vl vu .none → IsPart vl lo → IsPart vu hi →
  ∃ T id, typeLookup (.type T) "__getitem__" = pure (some (.builtin id)) ∧ s.TypeIs v T ∧ wpAny (model X.prog X.w) X.A (getItem v (.ref sl)) (EP X pins σ Q) X.xe s
theorem rsl_op {X : Cx} : SlR X (RSl X) := fun pins s σ H x v vl vu lo hi sl Q I rx hs pl pu h => h pins s σ v vl vu sl I rx hs pl pu
theorem rsl_of {X : Cx} {r : V → Option Int → Option Int → Hp → VK → Prop} (h : SlR X r) {x : V} {lo hi : Option Int} {H : Hp} {Q : VK} (q : r x lo hi H Q) : RSl X x lo hi H Q := fun pins s σ v vl vu sl I rx hs pl pu => h pins s σ H x v vl vu lo hi sl Q I rx hs pl pu q
section
variable {N : Nm} {L I : Hp} {rs : List Addr} {g : G} {H : Hp} {Q : VK} {W : XK} {x y z : D} {u v : V} {X : Cx}
theorem cut_v {l : List D} {vs : List V} (k : VRs N I rs l vs) (lo hi : Option Int) : VRs N I rs (cutL l lo hi) (cutV vs lo hi) := by
  unfold cutL cutV
  rw [k.length]
  exact (k.drop _).take _
theorem slc_ok (F : XF N X) {lo hi : D} {a b : Option Int} (ha : bnd lo = some a) (hb : bnd hi = some b) (h : slcD g x lo hi = some z) (R : Rel N L I rs g H) (hu : VR N I rs x u) (q : Gd N L I rs g H z Q) : RSl X u a b H Q := by
  unfold slcD at h
  rw [ha, hb] at h
  simp only at h
  split at h
  · rename_i l e
    cases h
    obtain ⟨p, vs, rfl, h2, h3⟩ := R.tup hu e
    refine rsl_of sl_tupA ⟨p, vs, rfl, by rw [F.hK]; exact h2, fun hf => ?_, fun _ p hp => q.tup R (cut_v h3 a b) hp⟩
    have e1 : cutL l a b = l := by
      unfold cutL
      rw [h3.length, hf.1, hf.2]
      simp [← h3.length]
    rw [e1] at q
    have e2 := top_ne e (fun l => by simp)
    subst e2
    exact q.now R hu
  · rename_i l e
    cases h
    obtain ⟨p, vs, rfl, h2, h3⟩ := R.lst hu e
    exact rsl_of sl_list ⟨p, vs, rfl, by rw [F.hK]; exact h2.sq, fun p hp => q.lst R (cut_v h3 a b) hp⟩
  · rename_i s e
    rw [top_str e] at hu
    cases hu
    split at h <;> cases h
    rename_i hl
    have hl : s.length ≤ LIM := by simpa using hl
    refine rsl_of sl_str ⟨_, rfl, by rw [st_length]; exact lim_line hl, ?_⟩
    have e : cutS (st s) a b = st (cutL s a b) := by
      unfold cutS cutL
      rw [st_list, st_length]
      rfl
    rw [e]
    exact q.now R (.str _)
  · cases h
/-- an answer on the same heap -/
theorem Ok.gd (ok : OkV N L I rs H W Q (.ok z g)) : Gd N L I rs g H z Q := fun I' H' b e R' r => ok I' rs H' b e R' r
/-! ### built-in functions -/
def biV : Bi → Value
  | .len => .builtin "len"
  | .all => .builtin "all"
  | .any => .builtin "any"
  | .min2 => .builtin "min"
  | .max2 => .builtin "max"
  | .repr => .builtin "repr"
  | .tuple => .type "tuple"
  | .list => .type "list"
  | .str => .type "str"
  | .int => .type "int"
  | .sorted => .builtin "sorted"
  | .bool => .type "bool"
theorem bools_v : ∀ {l : List D} {vs : List V} {bs : List Bool}, bools l = some bs → VRs N I rs l vs → vs = bs.map V.bl
  | [], _, _, h, k => by cases k; cases h; rfl
  | d :: l, _, bs, h, k => by
    cases k with
    | cons ka kl =>
      cases d <;> simp only [bools] at h <;> first
        | (simp only [Option.map_eq_some_iff] at h
           obtain ⟨cs, h1, h2⟩ := h
           subst h2
           cases ka
           rw [bools_v h1 kl]
           rfl)
        | cases h
theorem txts_v : ∀ {l : List D} {vs : List V} {bs : List (List Nat)}, txts l = some bs → VRs N I rs l vs → vs = (bs.map st).map V.str
  | [], _, _, h, k => by cases k; cases h; rfl
  | d :: l, _, bs, h, k => by
    cases k with
    | cons ka kl =>
      cases d <;> simp only [txts] at h <;> first
        | (simp only [Option.map_eq_some_iff] at h
           obtain ⟨cs, h1, h2⟩ := h
           subst h2
           cases ka
           rw [txts_v h1 kl]
           rfl)
        | cases h
/-- repr of plain data -/
theorem call_reprD (hg : X.A.guards = some []) (hU : X.A.units + 80 < cLine) : CallR X (.builtin "repr") (fun xs H Q => ∃ x d, xs = [x] ∧ Dp X.K H x d ∧ d.showable = true ∧ d.canLay0 = true ∧ d.depth ≤ 64 ∧ d.shown.length ≤ sizeLine ∧ Q (.str d.shown) H) := by
  intro pins s σ H xs us Q I r h
  obtain ⟨x, d, rfl, dp, hs, hl, hd, hz, q⟩ := h
  obtain ⟨u, rfl, rx⟩ := vals1 r
  have fin : ∀ tk' tk'', EP X pins σ Q (.str d.shown tk') { s with toks := tk'' } := fun tk' tk'' => ⟨.str _, H, I.tok _, ⟨_, rfl⟩, q⟩
  obtain ⟨as, rd⟩ := Dp.reads I d x u dp rx
  have big : ∀ a, u = .ref a → wpAny (model X.prog X.w) X.A (PySem.call (.builtin "repr") [u]) (EP X pins σ Q) X.xe s := fun a e => by
    subst e
    refine repr_of_reads' rd hs (PyData.noDict_hsm (PyData.hasDict_of_canLay _ hl)) hg (by omega) (fun _ _ z => z) (fun h' u tk hk => ?_) hz
    exact ⟨.str _, H, I.kept hk, ⟨_, rfl⟩, q⟩
  cases rd with
  | none => exact PySem.P.repr_of_none (fin _ _)
  | bool b => exact PySem.P.repr_of_bool (fin _ _)
  | int i t => exact PySem.P.repr_of_int (by simpa [PyData.showable] using hs) (fin _ _)
  | str z t => exact PySem.P.repr_of_str (fin _ _) hz
  | _ => exact big _ rfl
end
end PC
end
section
set_option maxHeartbeats 4000000
namespace PC
open PySem L2 PyProof.Rows
section
variable {N : Nm} {L I : Hp} {rs : List Addr} {g g1 : G} {H : Hp} {Q : VK} {W : XK} {x y z : D} {u v : V} {X : Cx}
theorem v1 {x : D} {vs : List V} (h : VRs N I rs [x] vs) : ∃ u, vs = [u] ∧ VR N I rs x u := by
  cases h with
  | cons a b => cases b; exact ⟨_, rfl, a⟩
theorem v2 {x y : D} {vs : List V} (h : VRs N I rs [x, y] vs) : ∃ u v, vs = [u, v] ∧ VR N I rs x u ∧ VR N I rs y v := by
  cases h with
  | cons a b =>
    obtain ⟨v, rfl, r⟩ := v1 b
    exact ⟨_, _, rfl, a, r⟩
theorem bi_ok (F : XF N X) {b : Bi} {ds : List D} {vs : List V} (R : Rel N L I rs g H) (hv : VRs N I rs ds vs) (ok : OkV N L I rs H W Q (biD g b ds)) : RC X (biV b) vs H Q := by
  unfold biD at ok
  split at ok
  · -- len
    obtain ⟨u, rfl, hu⟩ := v1 hv
    split at ok
    · rename_i s e
      rw [top_str e] at hu
      cases hu
      split at ok
      · rename_i hl
        have hl : s.length ≤ LIM := by simpa using hl
        exact rc_of call_len_str ⟨_, rfl, by rw [st_length]; exact lim_line hl, by rw [st_length]; exact ok.gd.now R (.int _)⟩
      · exact ok.elim
    · rename_i l e
      obtain ⟨p, ws, rfl, h2, h3⟩ := R.tup hu e
      exact rc_of call_len_seq ⟨p, ws, rfl, .inr (by rw [F.hK]; exact h2), by rw [← h3.length]; exact ok.gd.now R (.int _)⟩
    · rename_i l e
      obtain ⟨p, ws, rfl, h2, h3⟩ := R.lst hu e
      exact rc_of call_len_seq ⟨p, ws, rfl, .inl (by rw [F.hK]; exact h2.sq), by rw [← h3.length]; exact ok.gd.now R (.int _)⟩
    · exact ok.elim
  · -- all
    obtain ⟨u, rfl, hu⟩ := v1 hv
    split at ok
    · rename_i l e
      obtain ⟨p, ws, rfl, h2, h3⟩ := R.lst hu e
      cases eb : bools l with
      | none => rw [eb] at ok; exact ok.elim
      | some bs =>
        rw [eb] at ok
        have := bools_v eb h3
        subst this
        exact rc_of (cr_all F.hc) ⟨p, bs, rfl, by rw [F.hK]; exact h2.sq, ok.gd.now R (.bl _)⟩
    · exact ok.elim
  · -- any
    obtain ⟨u, rfl, hu⟩ := v1 hv
    split at ok
    · rename_i l e
      obtain ⟨p, ws, rfl, h2, h3⟩ := R.lst hu e
      cases eb : bools l with
      | none => rw [eb] at ok; exact ok.elim
      | some bs =>
        rw [eb] at ok
        have := bools_v eb h3
        subst this
        exact rc_of (cr_any F.hc) ⟨p, bs, rfl, by rw [F.hK]; exact h2.sq, ok.gd.now R (.bl _)⟩
    · exact ok.elim
  · -- min
    obtain ⟨u, v, rfl, h1, h2⟩ := v2 hv
    cases h1; cases h2
    exact rc_of (call_min2 F.hc) ⟨_, _, rfl, ok.gd.now R (.int _)⟩
  · -- max
    obtain ⟨u, v, rfl, h1, h2⟩ := v2 hv
    cases h1; cases h2
    exact rc_of (call_max2 F.hc) ⟨_, _, rfl, ok.gd.now R (.int _)⟩
  · -- tuple
    obtain ⟨u, rfl, hu⟩ := v1 hv
    split at ok
    · rename_i l e
      obtain ⟨p, ws, rfl, h2, h3⟩ := R.tup hu e
      have e2 := top_ne e (fun l => by simp)
      subst e2
      exact rc_of call_tuple_of ⟨p, ws, rfl, .inr ⟨by rw [F.hK]; exact h2, ok.gd.now R hu⟩⟩
    · rename_i l e
      obtain ⟨p, ws, rfl, h2, h3⟩ := R.lst hu e
      exact rc_of call_tuple_of ⟨p, ws, rfl, .inl ⟨by rw [F.hK]; exact h2.sq, fun q hq => ok.gd.tup R h3 hq⟩⟩
    · exact ok.elim
  · -- repr
    rename_i d1
    obtain ⟨u, rfl, hu⟩ := v1 hv
    cases er : reprD g d1 with
    | none => rw [er] at ok; exact ok.elim
    | some t =>
      rw [er] at ok
      unfold reprD at er
      split at er <;> cases er
      rename_i hc
      simp only [Bool.and_eq_true, decide_eq_true_eq] at hc
      obtain ⟨h1, h2, h3⟩ := hc
      obtain ⟨dp, sh⟩ := dp_top R hu h1
      have h4 : (toP (top g d1)).canLay0 = true ∧ (toP (top g d1)).depth ≤ 64 := by
        have := sh
        unfold SeqAt.shaped at this
        simp only [Bool.and_eq_true, decide_eq_true_eq] at this
        exact ⟨this.1, Nat.le_trans this.2 (by decide)⟩
      refine rc_of (call_reprD F.hg F.hV) ⟨u, _, rfl, by rw [F.hK]; exact dp, h2, h4.1, h4.2, lim_line h3, ?_⟩
      have := ok.gd.now R (.str _)
      rw [st_of] at this
      exact this
  · -- list
    obtain ⟨u, rfl, hu⟩ := v1 hv
    split at ok
    · rename_i l e
      obtain ⟨p, ws, rfl, h2, h3⟩ := R.tup hu e
      exact rc_of call_list_of ⟨p, ws, rfl, .inr (by rw [F.hK]; exact h2), fun q hq => ok.gd.lst R h3 hq⟩
    · rename_i l e
      obtain ⟨p, ws, rfl, h2, h3⟩ := R.lst hu e
      exact rc_of call_list_of ⟨p, ws, rfl, .inl (by rw [F.hK]; exact h2.sq), fun q hq => ok.gd.lst R h3 hq⟩
    · exact ok.elim
  · exact ok.elim

/-! ### methods -/
/-- the type that has the method, the method -/
def bmTy : Bm → String
  | .append => "list"
  | .extend => "list"
  | .pop => "list"
  | .popi => "list"
  | .insert => "list"
  | .get => "dict"
  | .get2 => "dict"
  | .items => "dict"
  | .update => "dict"
  | _ => "str"
def bmN : Bm → String
  | .append => "append"
  | .extend => "extend"
  | .pop => "pop"
  | .popi => "pop"
  | .insert => "insert"
  | .join => "join"
  | .startswith => "startswith"
  | .endswith => "endswith"
  | .split => "split"
  | .strip => "strip"
  | .lstrip => "lstrip"
  | .upper => "upper"
  | .replace => "replace"
  | .replaceN => "replace"
  | .find2 => "find"
  | .rfind => "rfind"
  | .rfind3 => "rfind"
  | .count => "count"
  | .index => "index"
  | .index2 => "index"
  | .partition => "partition"
  | .get => "get"
  | .get2 => "get"
  | .items => "items"
  | .update => "update"
def bmId (m : Bm) : String := bmTy m ++ "." ++ bmN m
theorem bmT_ok (F : XF N X) {m : Bm} (h : bmT g m x = true) (R : Rel N L I rs g H) (hu : VR N I rs x u) : tyV X.K (bmTy m) u H := by
  have l : isL g x = true → tyV X.K "list" u H := fun h => by
    unfold isL at h
    split at h
    · rename_i l e
      obtain ⟨p, ws, rfl, h2, h3⟩ := R.lst hu e
      exact .inl ⟨rfl, ws, by rw [F.hK]; exact h2.sq⟩
    · cases h
  have s : isS x = true → tyV X.K "str" u H := fun h => by
    cases x <;> first
      | (cases hu; rfl)
      | exact Bool.noConfusion h
  cases m <;> first
    | exact l h
    | exact s h
    | exact Bool.noConfusion h
/-- a cell's list is changed -/
theorem lst_put (R : Rel N L I rs g H) {i : Nat} {a : Addr} {l l' : List D} {vs' : List V} (hi : rs[i]? = some a) (hg : g[i]? = some (.lst l)) (hv : VRs N I rs l' vs') (hz : l'.length ≤ LIM) :
    Rel N L I rs (g.set i (.lst l')) (upd H a (.lst vs')) ∧ Ext I rs H I rs (upd H a (.lst vs')) := by
  obtain ⟨hL, hI, _⟩ := R.cell i a _ hi hg
  exact R.put hi hL hI fun H' e => ⟨hL, hI, vs', e, hv, hz⟩
theorem bm_ok (F : XF N X) {m : Bm} {ds : List D} {vs : List V} (R : Rel N L I rs g H) (hu : VR N I rs x u) (hv : VRs N I rs ds vs) (ok : OkV N L I rs H W Q (bmD g m x ds)) : RM X (bmId m) u vs H Q := by
  unfold bmD at ok
  split at ok
  · -- append
    rename_i i d
    obtain ⟨w, rfl, hw⟩ := v1 hv
    cases hu with
    | @ref _ a hi =>
      split at ok
      · rename_i l e
        split at ok
        · rename_i hl
          have hl : l.length < LIM := by simpa using hl
          obtain ⟨hL, hI, ws, hH, hr, hz⟩ := R.cell _ _ _ hi e
          have el := hr.length
          obtain ⟨R', E'⟩ := lst_put R hi e (hr.append (.one hw)) (by simp; omega)
          exact rm_of (id := "list.append") mt_append ⟨a, ws, w, rfl, rfl, hH, by have := lim_line (n := l.length + 1) hl; omega, ok _ _ _ _ E' R' .non⟩
        · exact ok.elim
      · exact ok.elim
  · -- join
    rename_i a d
    obtain ⟨w, rfl, hw⟩ := v1 hv
    cases hu
    split at ok
    · rename_i l e
      split at ok
      · rename_i ts et
        split at ok
        · rename_i hl
          have hl : total a.length ts ≤ LIM := by simpa using hl
          obtain ⟨p, ws, rfl, h2, h3⟩ := R.seq hw e
          have := txts_v et h3
          subst this
          have hz : ∀ ts : List (List Nat), ((ts.map st).map (·.length)).sum + (ts.map st).length * (st a).length = total a.length ts := fun ts => by
            unfold total
            induction ts with
            | nil => simp
            | cons t ts ih =>
              simp only [List.map_cons, List.sum_cons, List.length_cons, st_length, List.length_map] at ih ⊢
              rw [Nat.add_mul, Nat.one_mul]
              omega
          refine rm_of (id := "str.join") mt_join ⟨_, p, ts.map st, rfl, rfl, by rw [F.hK]; exact h2, by rw [hz]; exact Nat.le_trans hl (by decide), ?_⟩
          have ej : Txt.join (st a) (ts.map st) = st (joinL a ts) := by
            have h1 := _root_.SX.join_S a ts
            have h2 : ∀ ts : List (List Nat), TL.joinL a ts = joinL a ts := fun ts => by
              induction ts with
              | nil => rfl
              | cons t ts ih =>
                cases ts with
                | nil => rfl
                | cons t2 ts => simp only [TL.joinL, joinL]; rw [ih, List.append_assoc]
            rw [← h2]
            exact h1
          rw [ej]
          exact ok.gd.now R (.str _)
        · exact ok.elim
      · exact ok.elim
    · exact ok.elim
  · obtain ⟨w, rfl, hw⟩ := v1 hv
    cases hu; cases hw
    exact rm_of (id := "str.startswith") mt_startswith ⟨_, _, rfl, rfl, ok.gd.now R (.bl _)⟩
  · obtain ⟨w, rfl, hw⟩ := v1 hv
    cases hu; cases hw
    exact rm_of (id := "str.endswith") mt_endswith ⟨_, _, rfl, rfl, ok.gd.now R (.bl _)⟩
  · cases hu; cases hv
    split at ok
    · rename_i s hl
      have hl : s.length ≤ LIM := by simpa using hl
      have := ok.gd.now R (.str _)
      rw [st_of] at this
      exact rm_of (id := "str.strip") mt_strip ⟨_, rfl, rfl, by rw [st_length]; exact lim_line hl, this⟩
    · exact ok.elim
  · cases hu; cases hv
    split at ok
    · rename_i s hl
      have hl : s.length ≤ LIM := by simpa using hl
      have := ok.gd.now R (.str _)
      rw [st_of] at this
      exact rm_of (id := "str.lstrip") mt_lstrip ⟨_, rfl, rfl, by rw [st_length]; exact lim_line hl, this⟩
    · exact ok.elim
  · obtain ⟨w, rfl, hw⟩ := v1 hv
    cases hu; cases hw
    exact rm_of (id := "str.count") mt_count ⟨_, _, rfl, rfl, ok.gd.now R (.int _)⟩
  · obtain ⟨w, rfl, hw⟩ := v1 hv
    cases hu; cases hw
    exact rm_of (id := "str.find") mt_find ⟨_, _, rfl, rfl, ok.gd.now R (.int _)⟩
  · cases hu; cases hv
    split at ok
    · rename_i s hl
      have hl : s.length ≤ LIM := by simpa using hl
      have := ok.gd.now R (.str _)
      rw [st_of] at this
      exact rm_of (id := "str.upper") mt_upper ⟨_, rfl, rfl, by rw [st_length]; exact Nat.le_trans hl (by decide), this⟩
    · exact ok.elim
  · exact ok.elim
end
end PC
end
section
set_option maxHeartbeats 4000000
namespace PC
open PySem L2 PyProof.Rows
abbrev lk (sc : Scope) (x : Str) : Option NameKind := sc.names.lookup x
def visB (sc : Scope) (x : Str) : Bool := (lk sc x == some .local || (lk sc x == some .cell || lk sc x == some .free)) && (!(x == ("__debug__" : Str)) && !(x == ("__classdict__" : Str)))
def glB (sc : Scope) (x : Str) : Bool := lk sc x == some .globalImplicit && !(x == ("__debug__" : Str))
/-- a name of the language -/
def blB (z : Nz) (sc : Scope) (x : Str) : Bool := glB sc x && (z.bn x && !(x == ("__name__" : Str)))
def conB : D → Const → Bool
  | .non, .none => true
  | .bl b, .bool c => b == c
  | .int i, .int j => i == j
  | .str s, .str x => s == x.cps.toList
  | _, _ => false
/-- no bare f() -/
def abB : Expr → Bool
  | .Call (.Name _ _) [] [] _ => false
  | _ => true
def nstB : Expr → Bool
  | .Starred _ _ => false
  | _ => true
def noSt (es : List Expr) : Bool := es.all nstB
/-- no slice -/
def ixB : Expr → Bool
  | .Slice _ _ _ _ => false
  | _ => true
/-- no set display -/
def nsB : Expr → Bool
  | .Set _ _ _ => false
  | _ => true
/-- the test of it is its value's truth -/
def ptB : Expr → Bool
  | .UnaryOp .Not _ _ => false
  | .BoolOp _ _ _ => false
  | .IfExp _ _ _ _ => false
  | .Compare _ _ _ _ => false
  | _ => true
def relS (sc scope : Scope) : Scope := relabel scope { scope := sc, locals := 0, globals := 0, cells := [], qual := "", func := none, code := .none, frame := none, builtins := 0 }
def biN : Bi → String
  | .len => "len"
  | .all => "all"
  | .any => "any"
  | .min2 => "min"
  | .max2 => "max"
  | .repr => "repr"
  | .tuple => "tuple"
  | .list => "list"
  | .str => "str"
  | .int => "int"
  | .sorted => "sorted"
  | .bool => "bool"
def biTy : Bi → Bool
  | .tuple => true
  | .list => true
  | .str => true
  | .int => true
  | .bool => true
  | _ => false
/-- methods that are known here -/
def bmHas : Bm → Bool
  | .get => false
  | .get2 => false
  | .items => false
  | .update => false
  | _ => true
def tyN : Ty → String
  | .str => "str"
  | .int => "int"
  | .bool => "bool"
  | .tuple => "tuple"
  | .list => "list"
  | .cls _ => ""
def tyB (z : Nz) (sc : Scope) : Ty → Expr → Bool
  | .cls _, .Name _ _ => false
  | t, .Name x _ => blB z sc x && Str.ofString (tyN t) == x
  | _, _ => false
def tysB (z : Nz) (sc : Scope) : List Ty → List Expr → Bool
  | [], [] => true
  | t :: ts, e :: es => tyB z sc t e && (nstB e && tysB z sc ts es)
  | _, _ => false
def isiB (z : Nz) (sc : Scope) : List Ty → Expr → Bool
  | [t], .Name x p => tyB z sc t (.Name x p)
  | _, _ => false
/-- a name that is stored -/
def nmB (ns : List Str) (sc0 sc : Scope) (i : Nat) (x : Str) : Bool := ns[i]? == some x && (lk sc x == some .local || (lk sc x == some .cell && lk sc0 x == some .cell))
def nmsB (ns : List Str) (sc0 sc : Scope) : List Nat → List Expr → Bool
  | [], [] => true
  | i :: is, .Name x _ :: es => nmB ns sc0 sc i x && nmsB ns sc0 sc is es
  | _, _ => false
def tgB (ns : List Str) (sc0 sc : Scope) (one : Bool) (tg : List Nat) (t : Expr) : Bool := match one, tg, t with
  | true, [i], .Name x _ => nmB ns sc0 sc i x
  | false, is, .Tuple es _ _ => nmsB ns sc0 sc is es
  | _, _, _ => false
def ownN (ns : List Str) (own : List Nat) : List (Str × Nat) := own.map fun i => (ns.getD i "", i)
def kcB : DK → Option Expr → Bool
  | .i k, some (.Constant (.int j) _ _) => k == j
  | .s x, some (.Constant (.str y) _ _) => x == y.cps.toList
  | _, _ => false
def dkB : List DK → List (Option Expr) → Bool
  | [], [] => true
  | k :: ks, o :: os => kcB k o && dkB ks os
  | _, _ => false
def kwB (ns : List Str) (kws : List Keyword) : Bool := decide (kws.map (·.arg) = ns.map some)
/-- the ways in which a text is looked at; v: as a value, t: as a test, i: as what a loop walks -/
structure Ck where
  st : Bool
  nl : Bool
  v : Scope → Scope → Expr → Bool
  t : Scope → Scope → Expr → Bool
  i : Scope → Scope → Expr → Bool
def Ck.of (v : Scope → Scope → Expr → Bool) : Ck := ⟨false, false, v, fun s0 sc e => ptB e && v s0 sc e, fun s0 sc e => nsB e && v s0 sc e⟩
def Ck.cmp (v : Scope → Scope → Expr → Bool) : Ck := ⟨false, false, v, v, fun s0 sc e => nsB e && v s0 sc e⟩
def Ck.it (i : Scope → Scope → Expr → Bool) : Ck := ⟨false, false, fun _ _ _ => false, fun _ _ _ => false, i⟩
def Ck.o (m : Ck) (s0 sc : Scope) (e : Option Expr) : Bool := match m.nl, e with
  | true, none => true
  | false, some e => m.v s0 sc e
  | _, _ => false
def Ck.c (m : Ck) (s0 sc : Scope) (es : List Expr) : Bool := match m.nl, es with
  | true, [] => true
  | false, [e] => m.t s0 sc e
  | _, _ => false
def conjB (op : PySem.BoolOp) (b : Scope → Scope → Expr → Bool) (s0 sc : Scope) (rest : List Expr) (pos : Pos) : Bool := match rest with
  | [] => false
  | [e] => b s0 sc e
  | rest => b s0 sc (.BoolOp op rest pos)
mutual
def chM (z : Nz) (ns : List Str) : E → Ck
  | .nil => ⟨false, true, fun _ _ _ => false, fun _ _ _ => false, fun _ _ _ => false⟩
  | .loc i => .of fun s0 sc e => match e with
    | .Name x _ => ns[i]? == some x && visB sc x
    | _ => false
  | .con d => .of fun s0 sc e => match e with
    | .Constant c _ _ => conB d c
    | _ => false
  | .glo n => .of fun s0 sc e => match e with
    | .Name x _ => z.gn n == x && glB sc x
    | _ => false
  | .bin o a b => .of fun s0 sc e => match e with
    | .BinOp a' p b' _ => bopA o == p && ((chM z ns a).v s0 sc a' && (chM z ns b).v s0 sc b')
    | _ => false
  | .neg a => .of fun s0 sc e => match e with
    | .UnaryOp .USub a' _ => (chM z ns a).v s0 sc a'
    | _ => false
  | .not_ a => { Ck.of fun s0 sc e => match e with
      | .UnaryOp .Not a' _ => (chM z ns a).v s0 sc a'
      | _ => false with
      t := fun s0 sc e => match e with
        | .UnaryOp .Not a' _ => (chM z ns a).t s0 sc a'
        | _ => false }
  | .and_ a b => { Ck.of fun s0 sc e => match e with
      | .BoolOp .And (a' :: rest) pos => (chM z ns a).v s0 sc a' && conjB .And (chM z ns b).v s0 sc rest pos
      | _ => false with
      t := fun s0 sc e => match e with
        | .BoolOp .And (a' :: rest) pos => (chM z ns a).t s0 sc a' && conjB .And (chM z ns b).t s0 sc rest pos
        | _ => false }
  | .or_ a b => { Ck.of fun s0 sc e => match e with
      | .BoolOp .Or (a' :: rest) pos => (chM z ns a).v s0 sc a' && conjB .Or (chM z ns b).v s0 sc rest pos
      | _ => false with
      t := fun s0 sc e => match e with
        | .BoolOp .Or (a' :: rest) pos => (chM z ns a).t s0 sc a' && conjB .Or (chM z ns b).t s0 sc rest pos
        | _ => false }
  | .cmp o a b => .cmp fun s0 sc e => match e with
    | .Compare a' [p] [b'] _ => copA o == p && (!behindInMarks p b' && ((chM z ns a).v s0 sc a' && (chM z ns b).v s0 sc b'))
    | _ => false
  | .chain o p a b c => .cmp fun s0 sc e => match e with
    | .Compare a' [o', p'] [b', c'] _ => (copA o == o' && copA p == p') && (!lastMarks [o', p'] [b', c'] && ((chM z ns a).v s0 sc a' && ((chM z ns b).v s0 sc b' && (chM z ns c).v s0 sc c')))
    | _ => false
  | .ite c a b => .of fun s0 sc e => match e with
    | .IfExp c' a' b' _ => (chM z ns c).t s0 sc c' && ((chM z ns a).v s0 sc a' && (chM z ns b).v s0 sc b')
    | _ => false
  | .call f as => .of fun s0 sc e => match e with
    | .Call (.Name x _) es [] _ => (z.fg f && (z.fnm f == x && glB sc x)) && (noSt es && chs z ns as s0 sc es)
    | _ => false
  | .callK f as ks => .of fun s0 sc e => match e with
    | .Call (.Name x _) es kws _ => (z.fg f && (z.fnm f == x && glB sc x)) && ((noSt es && chs z ns as s0 sc es) && (kwB (((z.pn f).drop es.length).take kws.length) kws && (noSt (kws.map (·.value)) && chs z ns ks s0 sc (kws.map (·.value)))))
    | _ => false
  | .meth m o as => .of fun _ _ _ => false
  | .make c as => .of fun _ _ _ => false
  | .fld f o => .of fun _ _ _ => false
  | .prop m o => .of fun _ _ _ => false
  | .bi b as => .of fun s0 sc e => match e with
    | .Call (.Name x _) (a :: es) [] _ => (Str.ofString (biN b) == x && blB z sc x) && (noSt (a :: es) && chs z ns as s0 sc (a :: es))
    | _ => false
  | .isi t a => .of fun s0 sc e => match e with
    | .Call (.Name x _) [a', c] [] _ => (Str.ofString "isinstance" == x && blB z sc x) && ((nstB a' && isiB z sc t c) && (chM z ns a).v s0 sc a')
    | _ => false
  | .bm m o as => .of fun s0 sc e => match e with
    | .Call (.Attribute o' x ap) es [] p => (bmHas m && (Str.ofString (bmN m) == x && (abB o' && ap.endLine == p.line))) && ((noSt es && decide (es.length < 29)) && ((chM z ns o).v s0 sc o' && chs z ns as s0 sc es))
    | _ => false
  | .sub o i => .of fun s0 sc e => match e with
    | .Subscript o' i' _ => ixB i' && ((chM z ns o).v s0 sc o' && (chM z ns i).v s0 sc i')
    | _ => false
  | .slc o lo hi => .of fun s0 sc e => match e with
    | .Subscript o' (.Slice lo' hi' none _) _ => (chM z ns o).v s0 sc o' && ((chM z ns lo).o s0 sc lo' && (chM z ns hi).o s0 sc hi')
    | _ => false
  | .rev o => .of fun s0 sc e => match e with
    | .Subscript o' (.Slice none none (some (.UnaryOp .USub (.Constant (.int i) _ _) _)) _) _ => i == 1 && (chM z ns o).v s0 sc o'
    | _ => false
  | .tup as => .of fun s0 sc e => match e with
    | .Tuple es _ _ => chs z ns as s0 sc es
    | _ => false
  | .lst h as => .of fun s0 sc e => match e with
    | .List es _ => chs z ns as s0 sc es
    | _ => false
  | .dct h ks as => .of fun s0 sc e => match e with
    | .Dict ks' es _ => (dkB ks ks' && decide (ks'.length = es.length ∧ ks'.length ≤ 15)) && (noSt es && chs z ns as s0 sc es)
    | _ => false
  | .star a => { chM z ns a with st := true, nl := false }
  | .frz a => .of fun s0 sc e => (chM z ns a).v s0 sc e
  | .comp h own tg one it cond elt => .of fun s0 sc e => match e with
    | .ListComp elt' [⟨tg', it', ifs, isa⟩] scope _ => (isa == 0 && (nsB it' && (blkC ns sc scope (ownN ns own) && tgB ns scope (relS sc scope) one tg tg'))) && (tg.all (fun i => own.contains i) &&
      ((chM z ns it).i s0 sc it' && ((chM z ns cond).c scope (relS sc scope) ifs && (chM z ns elt).v scope (relS sc scope) elt')))
    | _ => false
  | .range as => .it fun s0 sc e => match e with
    | .Call (.Name x _) es [] _ => (Str.ofString "range" == x && blB z sc x) && (noSt es && ((es.length == 1 || es.length == 2) && chs z ns as s0 sc es))
    | _ => false
  | .enum a => .it fun _ _ _ => false
  | .zip a b => .it fun _ _ _ => false
def chs (z : Nz) (ns : List Str) : List E → Scope → Scope → List Expr → Bool
  | [], _, _, es => es.isEmpty
  | a :: r, s0, sc, es => match es with
    | [] => false
    | e :: es => (match (chM z ns a).st, e with
      | true, .Starred e' _ => (chM z ns a).v s0 sc e'
      | false, e => nstB e && (chM z ns a).v s0 sc e
      | _, _ => false) && chs z ns r s0 sc es
end
end PC
end
section
set_option maxHeartbeats 4000000
namespace PC
open PySem L2 PyProof.Rows
/-- what the calls promise -/
def PR (N : Nm) (P : Program) (B : Heap) (k : Nat) (cf : CF) : Prop := ∀ (f : Nat) (ds : List D) (g : G) (ws : List V) (L I : Hp) (rs : List Addr) (H : Hp) (Q : VK) (E : XK), Rel N L I rs g H → VRs N I rs ds ws → OkV N L I rs H E Q (cf f ds g) →
  ∀ (j : Nat) (A : Around) (outer : List PySem.Env) (s : Shared) (us : List Value), Room k A → A.guards = some [] → Env0 P N.w N.K N.mg B A outer s H → Vals ws us →
    codeAny (model P N.w) A (.call (.ref (N.fa f)) ⟨us.take j, ((N.pn f).drop j).zip (us.drop j)⟩) (L2.CR (L2.CX P N.w) outer P N.w H s Q E) s
/-- what is true of the module -/
structure PFa (N : Nm) (T : Tab) : Prop where
  bn : ∀ x, N.bn x = true → N.mg x = none
  glo : ∀ i d, T.glo i = some d → ∃ v u, N.mg (N.gn i) = some u ∧ RelV v u ∧ VR N (fun _ => none) [] d v
  fn : ∀ f, N.fg f = true → N.mg (N.fnm f) = some (.ref (N.fa f)) ∧ PySem.W.keepIn N.K (.ref (N.fa f)) = true
structure XS (N : Nm) (P : Program) (B : Heap) (T : Tab) (cf : CF) (k : Nat) (ns : List Str) (s0 sc : Scope) (W : XK) (X : Cx) : Prop where
  F : XF N X
  prog : X.prog = P
  mg : X.mg = N.mg
  base : X.base = B
  hN : X.N = ns
  nd : ns.Nodup
  sc : X.env.scope = sc
  hf : ∀ x, lk s0 x = some .cell → X.fn x = true
  room : Room k X.A
  pr : PR N P B k cf
  hx : Passes (L2.CX P N.w) X W
  fa : PFa N T
section
variable {N : Nm} {P : Program} {B : Heap} {T : Tab} {cf : CF} {k : Nat} {ns : List Str} {s0 sc : Scope} {W : XK} {X : Cx}
/-- the callee runs -/
theorem XS.cp (S : XS N P B T cf k ns s0 sc W X) {f : Nat} {ds : List D} {g : G} {ws : List V} {L I : Hp} {rs : List Addr} {H : Hp} {Q : VK} (R : Rel N L I rs g H) (hv : VRs N I rs ds ws) (ok : OkV N L I rs H W Q (cf f ds g)) (j : Nat) :
    ∀ (pins : List (Addr × Obj)) (s : Shared) (σ : L2.St) (us : List Value), Inv X pins σ H s → Vals ws us → wpAny (model X.prog X.w) X.A (PySem.call (.ref (N.fa f)) (us.take j) (((N.pn f).drop j).zip (us.drop j))) (EP X pins σ Q) X.xe s := by
  intro pins s σ us J r
  have e0 := J.env0
  have h := S.pr f ds g ws L I rs H Q W R hv ok j X.A X.stack s us S.room S.F.hg
  have hx := S.hx
  have e1 := S.prog
  have e2 := S.mg
  have e3 := S.base
  have e4 := S.F.hK
  have e5 := S.F.hw
  subst e1 e3
  rw [← e5, ← e4, ← e2] at h
  rw [← e5] at hx
  refine wpAny_call (codeAny_mono (h e0 r) fun r s' hq => ?_)
  cases r with
  | error e => exact hx pins σ H s e s' J hq
  | ok fl =>
    cases fl with
    | ret u => exact J.after hq
    | next => exact False.elim hq
    | brk => exact False.elim hq
    | cont => exact False.elim hq
theorem XS.rc (S : XS N P B T cf k ns s0 sc W X) {f : Nat} {ds : List D} {g : G} {ws : List V} {L I : Hp} {rs : List Addr} {H : Hp} {Q : VK} (R : Rel N L I rs g H) (hv : VRs N I rs ds ws) (ok : OkV N L I rs H W Q (cf f ds g)) :
    RC X (.ref (N.fa f)) ws H Q := fun pins s σ us J r => by
  have h := S.cp R hv ok us.length pins s σ us J r
  rw [List.take_length, List.drop_length, List.zip_nil_right] at h
  exact h

/-! ### readings, weaker -/
theorem wt_mono {e : Expr} {σ : L2.St} {H : Hp} {Q Q' : Bool → Hp → Prop} (h : WT X e σ H Q) (k : ∀ v H', Q v H' → Q' v H') : WT X e σ H Q' := fun pins s I => thn (h pins s I) fun _ _ ⟨H', I', q⟩ => ⟨H', I', k _ H' q⟩
theorem wa_mono {es : List Expr} {σ : L2.St} {H : Hp} {Q Q' : List V → Hp → Prop} (h : WA X es σ H Q) (k : ∀ v H', Q v H' → Q' v H') : WA X es σ H Q' := fun pos pins s I => thn (h pos pins s I) fun _ _ ⟨v, H', I', r, q⟩ => ⟨v, H', I', r, k v H' q⟩
def WI (X : Cx) (tg iter : Expr) : TI := fun σ H R => ∀ (pins : List (Addr × Obj)) (s : Shared), Inv X pins σ H s →
  wpAny (model X.prog X.w) X.A (eval iter X.env) (fun v s1 => wpAny (model X.prog X.w) X.A (pyIter v) (PIE X pins σ tg R) X.xe s1) X.xe s
theorem wi {tg iter : Expr} : PI X tg iter (WI X tg iter) := ⟨fun pins s _ _ _ I h => h pins s I⟩
theorem wi_of {tg iter : Expr} {t : TI} (h : PI X tg iter t) {σ : L2.St} {H : Hp} {R : It → Hp → Prop} (q : t σ H R) : WI X tg iter σ H R := fun pins s I => h.run pins s σ H R I q
/-- a bound of a slice -/
def WO (X : Cx) (e : Option Expr) : TO := fun σ H Q => ∀ (pins : List (Addr × Obj)) (s : Shared), Inv X pins σ H s → wpAny (model X.prog X.w) X.A (evalPart e X.env) (fun v s' => ∃ o H', Inv X pins σ H' s' ∧ IsPart v o ∧ Q o H') X.xe s

/-- the first of two runs -/
theorem Ok.first {α β γ δ : Type} {N : Nm} {L : Hp} {P1 : Hp → List Addr → α → γ → Prop} {P2 : Hp → List Addr → β → δ → Prop} {I : Hp} {rs : List Addr} {H : Hp} {W : XK} {Q : δ → Hp → Prop} {r : R α} {k : α → G → R β}
    (ok : Ok N L P2 I rs H W Q (r.bind k)) : Ok N L P1 I rs H W (fun b H1 => ∃ a g1 I1 rs1, Ext I rs H I1 rs1 H1 ∧ Rel N L I1 rs1 g1 H1 ∧ P1 I1 rs1 a b ∧ Ok N L P2 I1 rs1 H1 W Q (k a g1)) r := by
  cases r with
  | ok a g => exact fun I' rs' H' b e R p => ⟨a, g, I', rs', e, R, p, ok.after e⟩
  | exc x g => exact ok
  | stk => exact ok
/-! ### texts -/
theorem star_eq {e : Expr} {es : List Expr} {env : PySem.Env} (h : nstB e = true) : starEach (e :: es) env = (false, eval e env) :: starEach es env := by
  cases e <;> first | rfl | cases h
theorem star_any {es : List Expr} {env : PySem.Env} {pos : Pos} (h : noSt es = true) : (backTo pos (starEach es env)).any (·.1) = false := by
  induction es with
  | nil => rfl
  | cons e es ih =>
    simp only [noSt, List.all_cons, Bool.and_eq_true] at h
    rw [star_eq h.1]
    simp only [backTo, List.map_cons, List.any_cons, Bool.false_or] at ih ⊢
    exact ih h.2
theorem star_all {es : List Expr} {env : PySem.Env} {pos : Pos} (h : noSt es = true) : (backTo pos (starEach es env)).all (fun x => !x.1) = true := by
  induction es with
  | nil => rfl
  | cons e es ih =>
    simp only [noSt, List.all_cons, Bool.and_eq_true] at h
    rw [star_eq h.1]
    simp only [backTo, List.map_cons, List.all_cons, Bool.not_false, Bool.true_and] at ih ⊢
    exact ih h.2
theorem ab_eq {o : Expr} {m : Str} {env : PySem.Env} {wh : Sem Value} (h : abB o = true) : attributeBase o m env wh = wh := by
  unfold abB at h
  split at h
  · cases h
  · rename_i n
    unfold attributeBase
    split
    · rename_i id p pos
      exact absurd rfl (n id p pos)
    · rfl
theorem ix_plain {b : Expr} (h : ixB b = true) : PlainIx b := by
  intro o i
  cases b <;> first | rfl | cases h
theorem ns_fold {e : Expr} {env : PySem.Env} (h : nsB e = true) : ∀ x, foldedSetIterable e env x = pure x := by
  intro x
  cases e <;> first | rfl | cases h
theorem pt_plain {e : Expr} {env : PySem.Env} (h : ptB e = true) : ∀ whole, isTrue e env whole = (do let v ← whole; standAt e.pos; holding [v] (truthy v)) := by
  intro wh
  cases e <;> first
    | rfl
    | cases h
    | (rename_i op _ _; cases op <;> first | rfl | cases h)
theorem lk_eq {sc : Scope} {x : Str} {k : NameKind} (h : (lk sc x == some k) = true) : sc.names.lookup x = some k := eq_of_beq h
theorem vis_of {sc : Scope} {x : Str} (h : visB sc x = true) : Vis sc x ∧ (x == ("__debug__" : Str)) = false ∧ (x == ("__classdict__" : Str)) = false := by
  unfold visB at h
  simp only [Bool.and_eq_true, Bool.or_eq_true, Bool.not_eq_true', beq_iff_eq] at h
  refine ⟨?_, h.2.1, h.2.2⟩
  rcases h.1 with z | z | z
  · exact .inl z
  · exact .inr (.inl z)
  · exact .inr (.inr z)
theorem gl_of {sc : Scope} {x : Str} (h : glB sc x = true) (hs : X.env.scope = sc) : Gl X x ∧ (x == ("__debug__" : Str)) = false := by
  unfold glB at h
  simp only [Bool.and_eq_true, Bool.not_eq_true', beq_iff_eq] at h
  refine ⟨?_, h.2⟩
  show X.env.scope.names.lookup x = _
  rw [hs]
  exact h.1
theorem bl_of (S : XS N P B T cf k ns s0 sc W X) {x : Str} (h : blB N.toNz sc x = true) : Gl X x ∧ X.mg x = none ∧ x ≠ ("__name__" : Str) ∧ (x == ("__debug__" : Str)) = false := by
  unfold blB at h
  simp only [Bool.and_eq_true, Bool.not_eq_true'] at h
  obtain ⟨h1, h2⟩ := gl_of (X := X) h.1 S.sc
  exact ⟨h1, by rw [S.mg]; exact S.fa.bn x h.2.1, fun e => by rw [e] at h; simp at h, h2⟩
end
end PC
end
section
set_option maxHeartbeats 4000000
namespace PC
open PySem L2 PyProof.Rows
section
variable {N : Nm} {P : Program} {B : Heap} {T : Tab} {cf : CF} {k : Nat} {ns : List Str} {s0 sc : Scope} {W : XK} {X : Cx} {L L1 I I1 : Hp} {rs rs1 : List Addr} {g g1 : G} {H H1 : Hp} {Q : VK} {x y z : D} {u v : V}
/-! ### isinstance -/
theorem ty_lst {a : Addr} {vs : List V} (h : SqX N.K H a vs) : TyX N.K H (.ref a) (.type "list") := by
  rcases h with (h | ⟨o, h⟩) | ⟨its, n, h, _⟩
  · exact .base (.lst h)
  · exact .base (.frz h)
  · exact .kList h rfl
theorem ty_tup {a : Addr} {vs : List V} (h : SqT N.K H a vs) : TyX N.K H (.ref a) (.type "tuple") := by
  rcases h with (h | ⟨o, h⟩) | ⟨o, its, n, h, c, _⟩
  · exact .base (.tup h)
  · exact .fTuple h
  · exact .kTuple h c
theorem is_ok {t : Ty} {b : Bool} (hc : ∀ c, t ≠ .cls c) (h : isTyG T g t x = some b) (R : Rel N L I rs g H) (hu : VR N I rs x u) : ∃ tv, TyX N.K H u tv ∧ PySem.W.kitOne N.K tv (.type (tyN t)) = some b := by
  unfold isTyG at h
  split at h
  · cases t <;> first | exact absurd rfl (hc _) | cases h
  · have base : ∀ (n : String) (d : D), TyX N.K H u (.type n) → (kitB n (tyN t) = some (isTy t d)) → some (isTy t d) = some b → ∃ tv, TyX N.K H u tv ∧ PySem.W.kitOne N.K tv (.type (tyN t)) = some b :=
      fun n d ty k e => ⟨_, ty, by rw [← e]; exact kit_ty k⟩
    split at h
    · cases h
    · rename_i i e
      have := top_ne e (fun l => by simp)
      subst this
      split at h
      · rename_i ks ds q
        cases h
        cases hu with
        | ref hi =>
          obtain ⟨_, _, kvs, h2, _⟩ := R.cell _ _ _ hi q
          refine ⟨_, .base (.dK h2), kit_ty ?_⟩
          cases t <;> first | exact absurd rfl (hc _) | decide +kernel
      · cases h
    · rename_i d n1 n2
      cases e : top g x with
      | lst l =>
        rw [e] at h
        obtain ⟨a, vs, rfl, h2, h3⟩ := R.lst hu e
        refine base "list" _ (ty_lst h2) ?_ h
        rw [show isTy t (.lst l) = (t == .list) from rfl]
        cases t <;> first | exact absurd rfl (hc _) | decide +kernel
      | tup l =>
        rw [e] at h
        obtain ⟨a, vs, rfl, h2, h3⟩ := R.tup hu e
        refine base "tuple" (.tup l) (ty_tup h2) ?_ h
        rw [show isTy t (.tup l) = (t == .tuple) from rfl]
        cases t <;> first | exact absurd rfl (hc _) | decide +kernel
      | ref i => exact absurd e (n2 i)
      | obj c ns vs => exact absurd e (n1 c ns vs)
      | non =>
        rw [e] at h
        have := top_ne e (fun l => by simp)
        subst this
        cases hu
        refine base "NoneType" .non (.base .non) ?_ h
        cases t <;> first | exact absurd rfl (hc _) | decide +kernel
      | bl c =>
        rw [e] at h
        have := top_ne e (fun l => by simp)
        subst this
        cases hu
        refine base "bool" (.bl c) (.base (.bl c)) ?_ h
        rw [show isTy t (.bl c) = (t == .int || t == .bool) from rfl]
        cases t <;> first | exact absurd rfl (hc _) | decide +kernel
      | int c =>
        rw [e] at h
        have := top_ne e (fun l => by simp)
        subst this
        cases hu
        refine base "int" (.int c) (.base (.int c)) ?_ h
        rw [show isTy t (.int c) = (t == .int) from rfl]
        cases t <;> first | exact absurd rfl (hc _) | decide +kernel
      | str c =>
        rw [e] at h
        have := top_ne e (fun l => by simp)
        subst this
        cases hu
        refine base "str" (.str c) (.base (.str _)) ?_ h
        rw [show isTy t (.str c) = (t == .str) from rfl]
        cases t <;> first | exact absurd rfl (hc _) | decide +kernel
      | dct ks vs =>
        rw [e] at h
        have := top_ne e (fun l => by simp)
        subst this
        have ty : TyX N.K H u (.type "dict") := by
          cases hu with
          | dct h1 _ _ _ => exact .base (.dK (R.sub _ _ h1))
          | kdc h1 _ _ _ _ => exact .kDict h1.at_ rfl
        refine base "dict" (.dct ks vs) ty ?_ h
        rw [show isTy t (.dct ks vs) = false from rfl]
        cases t <;> first | exact absurd rfl (hc _) | decide +kernel

/-! ### what a loop walks -/
/-- J walks xs, whatever comes -/
structure Wk (N : Nm) (L I : Hp) (rs : List Addr) (xs : List D) (J : It) : Prop where
  go : ∀ I' rs' g' H', Same I I' → rs <+: rs' → Rel N L I' rs' g' H' → ∀ i, i < xs.length → J.go i H'
  stop : ∀ I' rs' g' H', Same I I' → rs <+: rs' → Rel N L I' rs' g' H' → ∀ i, xs.length ≤ i → J.stop i H'
  yld : ∀ I' rs' g' H', Same I I' → rs <+: rs' → Rel N L I' rs' g' H' → ∀ i x H'', i < xs.length → J.yld i H' x H'' → ∃ I'', Ext I' rs' H' I'' rs' H'' ∧ Rel N L I'' rs' g' H'' ∧ ∃ d, xs[i]? = some d ∧ VR N I'' rs' d x
/-- what is locked meanwhile -/
def Lks (L : Hp) (rs : List Addr) (ko : Option Nat) (L1 : Hp) : Prop := (ko = none ∧ L1 = L) ∨ ∃ i a o, ko = some i ∧ rs[i]? = some a ∧ L a = none ∧ L1 = upd L a o
def OkI (N : Nm) (L I : Hp) (rs : List Addr) (H : Hp) (W : XK) (Q : It → Hp → Prop) : R (List D × Option Nat) → Prop
  | .ok p g1 => ∀ I1 rs1 H1 J L1, Ext I rs H I1 rs1 H1 → Rel N L1 I1 rs1 (lockG g1 p.2) H1 → Lks L rs1 p.2 L1 → Wk N L1 I1 rs1 p.1 J → Q J H1
  | .exc x g => ∀ I' rs' H' cls d, Ext I rs H I' rs' H' → Rel N L I' rs' g H' → XR N I' rs' x cls d → W cls d H'
  | .stk => False
theorem OkI.after {Q : It → Hp → Prop} {r : R (List D × Option Nat)} (h : OkI N L I rs H W Q r) (e : Ext I rs H I1 rs1 H1) : OkI N L I1 rs1 H1 W Q r := by
  cases r with
  | ok p g => exact fun I' rs' H' J L' e' R l w => h I' rs' H' J L' (e.trans e') R l w
  | exc x g => exact fun I' rs' H' c d e' R p => h I' rs' H' c d (e.trans e') R p
  | stk => exact h
theorem OkI.first {α γ : Type} {P1 : Hp → List Addr → α → γ → Prop} {Q : It → Hp → Prop} {r : R α} {k : α → G → R (List D × Option Nat)}
    (ok : OkI N L I rs H W Q (r.bind k)) : Ok N L P1 I rs H W (fun b H1 => ∃ a g1 I1 rs1, Ext I rs H I1 rs1 H1 ∧ Rel N L I1 rs1 g1 H1 ∧ P1 I1 rs1 a b ∧ OkI N L I1 rs1 H1 W Q (k a g1)) r := by
  cases r with
  | ok a g => exact fun I' rs' H' b e R p => ⟨a, g, I', rs', e, R, p, ok.after e⟩
  | exc x g => exact ok
  | stk => exact ok
/-- a list that stays -/
theorem wk_lst {a : Addr} {vs : List V} {xs : List D} (hs : ∀ I' rs' g' H', Same I I' → rs <+: rs' → Rel N L I' rs' g' H' → SqX N.K H' a vs) (hv : VRs N I rs xs vs) : Wk N L I rs xs (Itl N.K a) where
  go := fun I' rs' g' H' e p R i hi => by
    rw [hv.length] at hi
    exact ⟨vs, vs[i], (hs _ _ _ _ e p R).sq, List.getElem?_eq_getElem hi⟩
  stop := fun I' rs' g' H' e p R i hi => ⟨vs, (hs _ _ _ _ e p R).sq, by rw [← hv.length]; exact hi⟩
  yld := fun I' rs' g' H' e p R i x H'' hi h => by
    obtain ⟨rfl, h⟩ := h
    obtain ⟨d, h1, h2⟩ := (hv.mono e p).get' (h vs (hs _ _ _ _ e p R).sq)
    exact ⟨I', .refl, R, d, h1, h2⟩
theorem wk_tup {a : Addr} {vs : List V} {xs : List D} (hs : ∀ I' rs' g' H', Same I I' → rs <+: rs' → Rel N L I' rs' g' H' → SqT N.K H' a vs) (hv : VRs N I rs xs vs) : Wk N L I rs xs (Itt N.K a) where
  go := fun I' rs' g' H' e p R i hi => by
    rw [hv.length] at hi
    exact ⟨vs, vs[i], hs _ _ _ _ e p R, List.getElem?_eq_getElem hi⟩
  stop := fun I' rs' g' H' e p R i hi => ⟨vs, hs _ _ _ _ e p R, by rw [← hv.length]; exact hi⟩
  yld := fun I' rs' g' H' e p R i x H'' hi h => by
    obtain ⟨rfl, h⟩ := h
    obtain ⟨d, h1, h2⟩ := (hv.mono e p).get' (h vs (hs _ _ _ _ e p R))
    exact ⟨I', .refl, R, d, h1, h2⟩
theorem rangeL_len (lo : Int) (n : Nat) : (rangeL lo n).length = n := by
  induction n generalizing lo with
  | zero => rfl
  | succ n ih => simp [rangeL, ih]
theorem rangeL_get (lo : Int) (n i : Nat) (h : i < n) : (rangeL lo n)[i]? = some (.int (lo + i)) := by
  induction n generalizing lo i with
  | zero => omega
  | succ n ih =>
    cases i with
    | zero => simp [rangeL]
    | succ i =>
      simp only [rangeL, List.getElem?_cons_succ]
      rw [ih (lo + 1) i (by omega)]
      have : lo + 1 + (i : Int) = lo + ((i + 1 : Nat) : Int) := by omega
      rw [this]
theorem wk_range {lo : Int} {n : Nat} : Wk N L I rs (rangeL lo n) (Itr lo n) where
  go := fun _ _ _ _ _ _ _ i hi => by rw [rangeL_len] at hi; exact hi
  stop := fun _ _ _ _ _ _ _ i hi => by rw [rangeL_len] at hi; exact hi
  yld := fun I' rs' g' H' e p R i x H'' hi h => by
    obtain ⟨rfl, rfl⟩ := h
    rw [rangeL_len] at hi
    exact ⟨I', .refl, R, _, rangeL_get lo n i hi, .int _⟩
theorem wk_str {s : List Nat} : Wk N L I rs (s.map fun c => .str [c]) (Its (st s)) where
  go := fun _ _ _ _ _ _ _ i hi => by
    show i < (st s).cps.size
    simpa [st] using hi
  stop := fun _ _ _ _ _ _ _ i hi => by
    show (st s).cps.size ≤ i
    simpa [st] using hi
  yld := fun I' rs' g' H' e p R i x H'' hi h => by
    obtain ⟨rfl, c, h1, rfl⟩ := h
    have h2 : s[i]? = some c := by simpa [st] using h1
    exact ⟨I', .refl, R, .str [c], by simp [h2], .str [c]⟩
/-- what a value's walk is -/
theorem items_ok (S : XS N P B T cf k ns s0 sc W X) {p : List D × Option Nat} {R' : It → Hp → Prop} (h : itemsD g x = some p) (R : Rel N L I rs g H) (hu : VR N I rs x u) (ok : OkI N L I rs H W R' (.ok p g)) :
    (∃ a, u = .ref a ∧ (∃ xs, SqL X.K H a xs) ∧ R' (Itl X.K a) H) ∨ (∃ a, u = .ref a ∧ (∃ xs, SqT X.K H a xs) ∧ R' (Itt X.K a) H) ∨ ∃ z, u = .str z ∧ R' (Its z) H := by
  rw [S.F.hK]
  unfold itemsD at h
  split at h
  · cases h
    cases hu with
    | tup h2 h3 =>
      exact .inr (.inl ⟨_, rfl, ⟨_, same_t R.sub h2⟩, ok _ _ _ _ L .refl R (.inl ⟨rfl, rfl⟩) (wk_tup (fun I' rs' g' H' e p R' => same_t (e.trans R'.sub) h2) h3)⟩)
  · cases h
    cases hu with
    | lst h2 h3 =>
      exact .inl ⟨_, rfl, ⟨_, (same_x R.sub h2).sq⟩, ok _ _ _ _ L .refl R (.inl ⟨rfl, rfl⟩) (wk_lst (fun I' rs' g' H' e p R' => same_x (e.trans R'.sub) h2) h3)⟩
  · cases h
    cases hu
    exact .inr (.inr ⟨_, rfl, ok _ _ _ _ L .refl R (.inl ⟨rfl, rfl⟩) wk_str⟩)
  · rename_i i
    split at h
    · rename_i l q
      cases h
      cases hu with
      | ref hi =>
        obtain ⟨hL, hI, vs, h2, h3, hz⟩ := R.cell _ _ _ hi q
        have R1 := R.lock hi hI hL h2 h3 hz
        refine .inl ⟨_, rfl, ⟨vs, .of h2⟩, ok _ _ _ _ (upd L _ (.lst vs)) .refl (by simpa [lockG, q] using R1) (.inr ⟨i, _, _, rfl, hi, hL, rfl⟩) (wk_lst (fun I' rs' g' H' e p R' => .of (R'.lsub _ _ upd_same)) h3)⟩
    · cases h
  · cases h
end
end PC
end
section
set_option maxHeartbeats 4000000
namespace PC
open PySem L2 PyProof.Rows
section
variable {N : Nm} {P : Program} {B : Heap} {T : Tab} {cf : CF} {k : Nat} {ns : List Str} {s0 sc : Scope} {W : XK} {X : Cx} {L L1 I I1 I2 : Hp} {rs rs1 rs2 : List Addr} {g g1 : G} {H H1 H2 : Hp} {Q : VK} {x y z : D} {u v : V}
/-! ### a thing of ours that is not yet known to the data -/
theorem Rel.hid (R : Rel N L I rs g H) {p : Addr} {o : HO} (hn : p ∉ rs) (hI : I p = none) (hL : L p = none) : Rel N L I rs g (upd H p o) := by
  refine ⟨fun b u e => ?_, fun b u e => ?_, R.len, R.nd, fun a ha => ?_, fun i a c ha hc => ?_⟩
  · rw [upd_ne (ne_of_none e hI)]; exact R.sub b u e
  · rw [upd_ne (ne_of_none e hL)]; exact R.lsub b u e
  · rw [upd_ne (fun z => hn (by rw [← z]; exact ha))]; exact R.trk a ha
  · have ma : a ∈ rs := List.mem_of_getElem? ha
    exact (R.cell i a c ha hc).mono (Same.refl I) (List.prefix_refl _) (fun q h _ => by rw [upd_ne (fun z => hn (by rw [← z]; exact ma))]; exact h) fun h => h
theorem Ext.hid (E : Ext I rs H I1 rs1 H1) {p : Addr} {o : HO} (hp : H p = none) : Ext I rs H I1 rs1 (upd H1 p o) :=
  ⟨E.i, E.r, fun a u h n => by rw [upd_ne (ne_of_none h hp)]; exact E.fr a u h n, E.new, E.inew⟩
theorem Rel.adopt (R : Rel N L I rs g H) {p : Addr} {o : HO} (hn : p ∉ rs) (hI : I p = none) (ho : H p = some o) : Rel N L (upd I p o) rs g H := by
  have si : Same I (upd I p o) := fun b u e => by rw [upd_ne (ne_of_none e hI)]; exact e
  refine ⟨fun b u e => ?_, R.lsub, R.len, R.nd, R.trk, fun i a c ha hc => ?_⟩
  · by_cases z : b = p
    · subst z; rw [upd_same] at e; cases e; exact ho
    · rw [upd_ne z] at e; exact R.sub b u e
  · have ma : a ∈ rs := List.mem_of_getElem? ha
    exact (R.cell i a c ha hc).mono si (List.prefix_refl _) (fun q h _ => h) fun h => by rw [upd_ne (fun z => hn (by rw [← z]; exact ma))]; exact h
theorem Ext.adopt (E : Ext I rs H I1 rs1 H1) {p : Addr} {o : HO} (hp : H p = none) (hI : I1 p = none) : Ext I rs H (upd I1 p o) rs1 H1 :=
  ⟨E.i.trans fun b u e => by rw [upd_ne (ne_of_none e hI)]; exact e, E.r, E.fr, E.new, fun a u h => by
    by_cases z : a = p
    · subst z; exact .inr (.inl hp)
    · rw [upd_ne z] at h; exact E.inew a u h⟩
theorem Rel.cellNew (R : Rel N L I rs g H) {p : Addr} {o : HO} {c : Cell} (hn : p ∉ rs) (ho : H p = some o) (hc : CR N L I (rs ++ [p]) H p c) : Rel N L I (rs ++ [p]) (g ++ [c]) H := by
  have pre : rs <+: rs ++ [p] := List.prefix_append _ _
  refine ⟨R.sub, R.lsub, by simp [R.len], ?_, fun a ha => ?_, fun i a d ha hd => ?_⟩
  · rw [List.nodup_append]
    exact ⟨R.nd, by simp, fun a ha b hb => by rintro rfl; simp at hb; subst hb; exact hn ha⟩
  · rcases List.mem_append.mp ha with z | z
    · exact R.trk a z
    · simp at z; subst z; exact ⟨o, ho⟩
  · by_cases hi : i < g.length
    · rw [List.getElem?_append_left hi] at hd
      rw [List.getElem?_append_left (by rw [R.len]; exact hi)] at ha
      exact (R.cell i a d ha hd).mono (Same.refl I) pre (fun q h _ => h) fun h => h
    · rw [List.getElem?_append_right (by omega)] at hd
      rw [List.getElem?_append_right (by rw [R.len]; omega)] at ha
      rw [R.len] at ha
      cases q : i - g.length with
      | zero =>
        rw [q] at ha hd
        simp at ha hd
        subst ha; subst hd
        exact hc
      | succ n =>
        rw [q] at hd
        simp at hd
theorem Ext.cellNew (E : Ext I rs H I1 rs1 H1) {p : Addr} (hp : H p = none) : Ext I rs H I1 (rs1 ++ [p]) H1 :=
  ⟨E.i, E.r.trans (List.prefix_append _ _), E.fr, fun a h => by
    rcases List.mem_append.mp h with z | z
    · exact E.new a z
    · simp at z; subst z; exact .inr hp, E.inew⟩
/-- it stays unknown -/
theorem Ext.unk (E : Ext I rs H I1 rs1 H1) {p : Addr} {o : HO} (ho : H p = some o) (hn : p ∉ rs) (hI : I p = none) : H1 p = some o ∧ p ∉ rs1 ∧ I1 p = none := by
  refine ⟨E.fr p o ho hn, fun h => ?_, ?_⟩
  · rcases E.new p h with z | z
    · exact hn z
    · rw [ho] at z; cases z
  · cases q : I1 p with
    | none => rfl
    | some w =>
      rcases E.inew p w q with z | z | z
      · rw [hI] at z; cases z
      · rw [ho] at z; cases z
      · exact absurd z hn

/-! ### stores -/
theorem wipe_get : ∀ (vs : List Nat) (σ : L2.St) (j : Nat), (wipe σ vs)[j]? = if j ∈ vs then (σ[j]?).map (fun _ => none) else σ[j]?
  | [], σ, j => by simp [wipe]
  | v :: vs, σ, j => by
    unfold wipe
    have ih := wipe_get vs σ j
    by_cases h : v = j
    · subst h
      rw [if_pos List.mem_cons_self]
      by_cases hl : v < σ.length
      · rw [List.getElem?_set_self (by rw [wipe_length]; exact hl), List.getElem?_eq_getElem hl]
        rfl
      · rw [List.getElem?_eq_none (by simp [wipe_length]; omega), List.getElem?_eq_none (by omega)]
        rfl
    · rw [List.getElem?_set_ne h, ih]
      have : (j ∈ v :: vs) ↔ j ∈ vs := by simp [Ne.symm h]
      simp only [this]
/-- slots stored, of those that are to be forgotten -/
theorem wipe_of {σ σ2 : L2.St} {vs : List Nat} (hl : σ2.length = σ.length) (h : ∀ j, j ∉ vs → σ2[j]? = (wipe σ vs)[j]?) : wipe σ2 vs = wipe σ vs := by
  refine List.ext_getElem? fun j => ?_
  rw [wipe_get]
  by_cases hj : j ∈ vs
  · rw [if_pos hj, wipe_get, if_pos hj]
    by_cases hb : j < σ.length
    · rw [List.getElem?_eq_getElem hb, List.getElem?_eq_getElem (by rw [hl]; exact hb)]; rfl
    · rw [List.getElem?_eq_none (by omega), List.getElem?_eq_none (by omega)]
  · rw [if_neg hj, h j hj]
def WG (X : Cx) (t : Expr) : TG := fun v σ H Q => ∀ (pins : List (Addr × Obj)) (s : Shared) (u : Value), Inv X pins σ H s → RelV v u →
  wpAny (model X.prog X.w) X.A (assign t X.env u) (fun _ s' => ∃ σ' H', Inv X pins σ' H' s' ∧ Q σ' H') X.xe s
theorem wg {t : Expr} : PG X t (WG X t) := ⟨fun pins s _ _ _ u _ I r h => h pins s u I r⟩
theorem wg_of {t : Expr} {r : TG} (h : PG X t r) {v : V} {σ : L2.St} {H : Hp} {Q : L2.St → Hp → Prop} (q : r v σ H Q) : WG X t v σ H Q := fun pins s u I rv => h.run pins s σ H v u Q I rv q
/-- what changes of the slots -/
def Chg (is : List Nat) (σ σ2 : L2.St) : Prop := σ2.length = σ.length ∧ ∀ j, j ∉ is → σ2[j]? = σ[j]?
theorem nm_of (S : XS N P B T cf k ns s0 sc W X) {i : Nat} {y : Str} (h : nmB ns s0 sc i y = true) : X.N[i]? = some y ∧ Loc X.env.scope y ∧ (X.fn y = true ∨ X.env.scope.names.lookup y = some .local) := by
  unfold nmB at h
  simp only [Bool.and_eq_true, Bool.or_eq_true, beq_iff_eq] at h
  rw [S.hN, S.sc]
  refine ⟨h.1, ?_, ?_⟩
  · rcases h.2 with z | z
    · exact .inl z
    · exact .inr z.1
  · rcases h.2 with z | z
    · exact .inr z
    · exact .inl (S.hf y z.2)
theorem nms_ok (S : XS N P B T cf k ns s0 sc W X) : ∀ {is : List Nat} {es : List Expr}, nmsB ns s0 sc is es = true → (assignEach es X.env).length = is.length ∧ (assignEach es X.env).findIdx? (·.1) = none ∧
    ∃ r : TGs, PGs X es r ∧ ∀ {ds : List D} {vs : List V} {env : Env} {σ : L2.St} {Q : L2.St → Hp → Prop}, VRs N I rs ds vs → ds.length = is.length → ER N I rs env σ →
      (∀ σ2, ER N I rs ((is.zip ds).foldl (fun e p => e.set p.1 (some p.2)) env) σ2 → Chg is σ σ2 → Q σ2 H) → r vs σ H Q
  | [], [], _ => ⟨rfl, rfl, gNil, pgs_nil, fun {ds vs env σ Q} hv hl er q => by
    cases hv with
    | nil => exact ⟨rfl, q σ er ⟨rfl, fun _ _ => rfl⟩⟩
    | cons _ _ => simp at hl⟩
  | i :: is, .Name y p :: es, h => by
    simp only [nmsB, Bool.and_eq_true] at h
    obtain ⟨a1, a2, r, a3, a4⟩ := nms_ok S h.2
    obtain ⟨b1, b2, b3⟩ := nm_of S h.1
    refine ⟨by simp [assignEach, a1], ?_, gCons (gName i) r, pgs_cons (pg_name (by rw [S.hN]; exact S.nd) b1 b2 b3) a3 rfl, fun {ds vs env σ Q} hv hl er q => ?_⟩
    · simp only [assignEach, List.findIdx?_cons, Bool.false_eq_true, if_false, a2]
      rfl
    · cases hv with
      | nil => simp at hl
      | cons hd hr =>
        refine ⟨_, _, rfl, a4 hr (by simpa using hl) (er.set hd) fun σ2 e2 ch => q σ2 e2 ⟨by rw [ch.1, List.length_set], fun j hj => ?_⟩⟩
        simp only [List.mem_cons, not_or] at hj
        rw [ch.2 j hj.2, List.getElem?_set_ne (Ne.symm hj.1)]
  | [], .Name _ _ :: _, h => by simp [nmsB] at h
  | _ :: _, [], h => by simp [nmsB] at h
theorem tg_ok (S : XS N P B T cf k ns s0 sc W X) {one : Bool} {tg : List Nat} {t : Expr} (h : tgB ns s0 sc one tg t = true) {env env2 : Env} {σ : L2.St} {Q : L2.St → Hp → Prop} (R : Rel N L I rs g H) (hv : VR N I rs x v)
    (ha : asgD g one tg x env = some env2) (er : ER N I rs env σ) (q : ∀ σ2, ER N I rs env2 σ2 → Chg tg σ σ2 → Q σ2 H) : WG X t v σ H Q := by
  unfold tgB at h
  split at h
  · rename_i i y p
    obtain ⟨b1, b2, b3⟩ := nm_of S h
    simp only [asgD] at ha
    cases ha
    refine wg_of (pg_name (by rw [S.hN]; exact S.nd) b1 b2 b3) (q _ (er.set hv) ⟨by simp, fun j hj => ?_⟩)
    rw [List.getElem?_set_ne (by simpa using Ne.symm (by simpa using hj))]
  · rename_i es k' p
    obtain ⟨a1, a2, r, a3, a4⟩ := nms_ok (I := I) (rs := rs) (H := H) S h
    have h2 : ∃ ds, top g x = .tup ds ∧ ds.length = tg.length ∧ env2 = (tg.zip ds).foldl (fun e p => e.set p.1 (some p.2)) env := by
      cases x with
      | tup ds =>
        have ha' : (if ds.length = tg.length then some ((tg.zip ds).foldl (fun e p => e.set p.1 (some p.2)) env) else none) = some env2 := ha
        split at ha'
        · rename_i hl
          cases ha'
          exact ⟨ds, rfl, hl, rfl⟩
        · cases ha'
      | _ => cases (show none = some env2 from ha)
    obtain ⟨ds, e1, e2, rfl⟩ := h2
    obtain ⟨a, vs, rfl, h3, h4⟩ := R.tup hv e1
    exact wg_of (pg_tup S.F.hc a3 a1 a2) ⟨a, vs, rfl, by rw [S.F.hK]; exact h3, by rw [← h4.length]; exact e2, a4 h4 e2 er q⟩
  · cases h

/-! ### comprehensions -/
/-- the block's context -/
theorem XS.blk (S : XS N P B T cf k ns s0 sc W X) (s : Shared) (H0 : Hp) (scope : Scope) (C : Addr) (cl : List (Str × Addr)) (fp : List Addr) :
    XS N P B T cf k ns scope (relS sc scope) (fun _ _ _ => False) (X.blk s H0 scope (compEnvC scope cl C X.env) fp) := by
  obtain ⟨⟨a1, a2, a3, a4, a5⟩, b1, b2, b3, b4, b5, b6, b7, b8, b9, b10, b11⟩ := S
  refine ⟨⟨a1, a2, a3, a4, a5⟩, b1, b2, b3, b4, b5, ?_, fun x hx => ?_, b8, b9, ?_, b11⟩
  · subst b6
    rfl
  · show (scope.names.lookup x == some .cell) = true
    rw [show scope.names.lookup x = some .cell from hx]
    rfl
  · intro pins σ H s e s' _ h
    obtain ⟨_, _, _, _, _, _, _, _, _, _, _, _, h⟩ := h
    exact h.elim
def WTs (X : Cx) (ifs : List Expr) : TT := fun σ H Q => ∀ (pins : List (Addr × Obj)) (s : Shared), Inv X pins σ H s →
    wpAny (model X.prog X.w) X.A (forIn ifs true fun c r => if r = true then do let ok ← isTrue c X.env (eval c X.env); pure (ForInStep.yield ok) else pure (ForInStep.yield r)) (TP X pins σ Q) X.xe s
theorem wts {ifs : List Expr} : PTs X ifs (WTs X ifs) := ⟨fun pins s _ _ _ I h => h pins s I⟩
theorem wts_of {ifs : List Expr} {t : TT} (h : PTs X ifs t) {σ : L2.St} {H : Hp} {Q : Bool → Hp → Prop} (q : t σ H Q) : WTs X ifs σ H Q := fun pins s I => h.run pins s σ H Q I q
section
variable (X)
def WGb (scope : Scope) (t : Expr) : TG := fun v σ H Q => ∀ (s : Shared) (H0 : Hp) (C : Addr) (cl : List (Str × Addr)) (fp : List Addr), WG (X.blk s H0 scope (compEnvC scope cl C X.env) fp) t v σ H Q
def WEb (scope : Scope) (e : Expr) : TE := fun σ H Q => ∀ (s : Shared) (H0 : Hp) (C : Addr) (cl : List (Str × Addr)) (fp : List Addr), WE (X.blk s H0 scope (compEnvC scope cl C X.env) fp) e σ H Q
def WTb (scope : Scope) (es : List Expr) : TT := fun σ H Q => ∀ (s : Shared) (H0 : Hp) (C : Addr) (cl : List (Str × Addr)) (fp : List Addr), WTs (X.blk s H0 scope (compEnvC scope cl C X.env) fp) es σ H Q
end
theorem lock_fr {ko : Option Nat} {g' g2 : G} (hl : Lks L rs ko L1) (hr : rs <+: rs2) (h : freeG g' ko = some g2) (R : Rel N L1 I2 rs2 g' H2) : Rel N L I2 rs2 g2 H2 := by
  rcases hl with ⟨rfl, rfl⟩ | ⟨i, a, o, rfl, hi, hL, rfl⟩
  · simp [freeG] at h
    subst h
    exact R
  · have hi2 : rs2[i]? = some a := by
      obtain ⟨t, rfl⟩ := hr
      rw [List.getElem?_append_left (List.getElem?_eq_some_iff.mp hi).1]
      exact hi
    unfold freeG at h
    simp only at h
    split at h
    · rename_i l q
      cases h
      exact R.free hi2 q hL
    · cases h
/-- a comprehension, behind its iterator -/
theorem comp_ok (S : XS N P B T cf k ns s0 sc W X) {h one : Bool} {own tg : List Nat} {scope : Scope} {tg' elt' : Expr} {ifs : List Expr} {cond : Env → G → R Bool} {elt : Env → G → R D} {env : Env} {xs : List D × Option Nat} {σ : L2.St} {J : It}
    (htg : tgB ns scope (relS sc scope) one tg tg' = true) (hin : tg.all (fun i => own.contains i) = true)
    (hc : ∀ (s : Shared) (H0 : Hp) (C : Addr) (cl : List (Str × Addr)) (fp : List Addr) {env : Env} {g : G} {σ : L2.St} {L I : Hp} {rs : List Addr} {H : Hp} {Q : Bool → Hp → Prop}, Rel N L I rs g H → ER N I rs env σ → OkB N L I rs H (fun _ _ _ => False) Q (cond env g) → WTs (X.blk s H0 scope (compEnvC scope cl C X.env) fp) ifs σ H Q)
    (he : ∀ (s : Shared) (H0 : Hp) (C : Addr) (cl : List (Str × Addr)) (fp : List Addr) {env : Env} {g : G} {σ : L2.St} {L I : Hp} {rs : List Addr} {H : Hp} {Q : VK}, Rel N L I rs g H → ER N I rs env σ → OkV N L I rs H (fun _ _ _ => False) Q (elt env g) → WE (X.blk s H0 scope (compEnvC scope cl C X.env) fp) elt' σ H Q)
    (er : ER N I rs env σ) (R : Rel N L1 I rs (lockG g xs.2) H) (hl : Lks L rs xs.2 L1) (hw : Wk N L1 I rs xs.1 J) (ok : OkV N L I rs H W Q (compR h own tg one cond elt env xs g)) :
    ∀ D0, H D0 = none → ∃ W : Nat → Nat → Hp → Prop, (∃ m, W 0 m (upd H D0 (.lst []))) ∧ ∀ i m H, W i m H →
      (J.stop i H ∧ Q (.ref D0) H) ∨ (J.go i H ∧ ∃ Nx : Hp → Prop, (∀ H', Nx H' → ∃ m', m' < m ∧ W (i + 1) m' H') ∧ ∀ x H', J.yld i H x H' → WGb X scope tg' x (wipe σ own) H' fun σ2 H2 => wipe σ2 own = wipe σ own ∧ WTb X scope ifs σ2 H2 fun b H3 =>
        if b = true then WEb X scope elt' σ2 H3 fun y H4 => ∃ acc, H4 D0 = some (.lst acc) ∧ acc.length < sizeLine ∧ Nx (upd H4 D0 (.lst (acc ++ [y]))) else Nx H3) := by
  intro D0 hD
  have hID : I D0 = none := R.sub.free hD
  have hLD : L1 D0 = none := R.lsub.free hD
  have hnD : D0 ∉ rs := fun hm => by
    obtain ⟨u, e⟩ := R.trk D0 hm
    rw [hD] at e; cases e
  unfold compR at ok
  have hLL : L D0 = none := by
    rcases hl with ⟨_, rfl⟩ | ⟨i, a, o, _, _, _, rfl⟩
    · exact hLD
    · by_cases z : D0 = a
      · subst z; rw [upd_same] at hLD; cases hLD
      · rw [upd_ne z] at hLD; exact hLD
  generalize hf : compF own tg one cond elt env = f at ok
  cases hr : compL f xs.1 (lockG g xs.2) with
  | exc x g => rw [hr] at ok; exact ok.elim
  | stk => rw [hr] at ok; exact ok.elim
  | ok ys g2 =>
    rw [hr] at ok
    simp only at ok
    cases hfr : freeG g2 xs.2 with
    | none => rw [hfr] at ok; exact ok.elim
    | some g3 =>
      rw [hfr] at ok
      simp only [mkL] at ok
      split at ok
      · rename_i hz
        have hz : ys.length ≤ LIM := by simpa using hz
        refine ⟨fun i m Hc => i ≤ xs.1.length ∧ m = xs.1.length - i ∧ ∃ g' I' rs' acc vs yr, Rel N L1 I' rs' g' Hc ∧ Ext I rs H I' rs' Hc ∧ Hc D0 = some (.lst vs) ∧ D0 ∉ rs' ∧ I' D0 = none ∧ VRs N I' rs' acc vs ∧ compL f (xs.1.drop i) g' = .ok yr g2 ∧ ys = acc ++ yr, ?_, ?_⟩
        · exact ⟨_, Nat.zero_le _, rfl, _, I, rs, [], [], ys, R.hid hnD hID hLD, Ext.refl.hid hD, upd_same, hnD, hID, .nil, by simpa using hr, rfl⟩
        · rintro i m Hc ⟨hi, rfl, g', I', rs', acc, vs, yr, R', E', h1, h2, h3, h4, h5, h6⟩
          by_cases hii : i = xs.1.length
          · left
            refine ⟨hw.stop _ _ _ _ E'.i E'.r R' i (by omega), ?_⟩
            rw [hii, List.drop_length] at h5
            simp only [compL] at h5
            cases h5
            rw [List.append_nil] at h6
            subst h6
            have R2 : Rel N L I' rs' g3 Hc := lock_fr hl E'.r hfr R'
            cases h with
            | false =>
              exact ok _ _ _ _ (E'.adopt hD h3) (R2.adopt h2 h3 h1) (.lst (.inl (.inl upd_same)) (h4.mono (fun b u e => by rw [upd_ne (ne_of_none e h3)]; exact e) (List.prefix_refl _)))
            | true =>
              have hc : CR N L I' (rs' ++ [D0]) Hc D0 (.lst ys) := ⟨hLL, h3, vs, h1, h4.mono (Same.refl _) (List.prefix_append _ _), hz⟩
              refine ok _ _ _ _ (E'.cellNew hD) (R2.cellNew h2 h1 hc) (.ref ?_)
              rw [← R2.len, List.getElem?_append_right (Nat.le_refl _)]
              simp
          · right
            have hlt : i < xs.1.length := by omega
            refine ⟨hw.go _ _ _ _ E'.i E'.r R' i hlt, fun H' => ∃ g' I' rs' acc vs yr, Rel N L1 I' rs' g' H' ∧ Ext I rs H I' rs' H' ∧ H' D0 = some (.lst vs) ∧ D0 ∉ rs' ∧ I' D0 = none ∧ VRs N I' rs' acc vs ∧ compL f (xs.1.drop (i + 1)) g' = .ok yr g2 ∧ ys = acc ++ yr, fun H' hH => ⟨_, by omega, by omega, rfl, hH⟩, ?_⟩
            intro xv H' hy s H0 C cl fp
            obtain ⟨I2, E2, R2, d, hd, hv⟩ := hw.yld _ _ _ _ E'.i E'.r R' i xv H' hlt hy
            obtain ⟨h1', h2', h3'⟩ := E2.unk h1 h2 h3
            have E3 := E'.trans E2
            have hdr : xs.1.drop i = d :: xs.1.drop (i + 1) := by
              rw [← List.getElem_cons_drop (h := hlt)]
              rw [List.getElem?_eq_getElem hlt] at hd
              cases hd
              rfl
            rw [hdr] at h5
            simp only [compL] at h5
            have hfd : f d g' = compF own tg one cond elt env d g' := by rw [← hf]
            unfold compF at hfd
            cases ha : asgD g' one tg d (wipeD env own) with
            | none => rw [ha] at hfd; rw [hfd] at h5; cases h5
            | some env2 =>
              rw [ha] at hfd
              simp only at hfd
              refine tg_ok (S.blk s H0 scope C cl fp) htg R2 hv ha ((er.after E3).wipe own) fun σ2 er2 ch => ?_
              refine ⟨wipe_of (by rw [ch.1, wipe_length]) fun j hj => ch.2 j fun hm => hj (by simpa using List.all_eq_true.mp hin j hm), fun s H0 C cl fp => ?_⟩
              cases hcd : cond env2 g' with
              | exc x g => rw [hcd] at hfd; rw [hfd] at h5; cases h5
              | stk => rw [hcd] at hfd; rw [hfd] at h5; cases h5
              | ok b gb =>
                rw [hcd] at hfd
                refine hc s H0 C cl fp R2 er2 ?_
                rw [hcd]
                rintro I3 rs3 H3 b' E4 R3 rfl
                obtain ⟨k1, k2, k3⟩ := E4.unk h1' h2' h3'
                cases b with
                | false =>
                  simp only [PC.R.bind] at hfd
                  rw [hfd] at h5
                  simp only [Bool.false_eq_true, if_false]
                  exact ⟨_, _, _, acc, vs, yr, R3, E3.trans E4, k1, k2, k3, E4.vrs (E2.vrs h4), h5, h6⟩
                | true =>
                  simp only [PC.R.bind] at hfd
                  simp only [if_true]
                  intro s H0 C cl fp
                  cases hel : elt env2 gb with
                  | exc x g => rw [hel] at hfd; rw [hfd] at h5; cases h5
                  | stk => rw [hel] at hfd; rw [hfd] at h5; cases h5
                  | ok y gy =>
                    rw [hel] at hfd
                    simp only at hfd
                    rw [hfd] at h5
                    simp only at h5
                    refine he s H0 C cl fp R3 (er2.after E4) ?_
                    rw [hel]
                    intro I4 rs4 H4 yv E5 R4 hyv
                    obtain ⟨m1, m2, m3⟩ := E5.unk k1 k2 k3
                    have E6 := (E3.trans E4).trans E5
                    have v4 := E5.vrs (E4.vrs (E2.vrs h4))
                    cases hrest : compL f (xs.1.drop (i + 1)) gy with
                    | exc x g => rw [hrest] at h5; cases h5
                    | stk => rw [hrest] at h5; cases h5
                    | ok zs gz =>
                      rw [hrest] at h5
                      cases h5
                      have el := v4.length
                      refine ⟨vs, m1, ?_, gy, I4, rs4, acc ++ [y], vs ++ [yv], zs, R4.hid m2 m3 hLD, E6.hid hD, upd_same, m2, m3, v4.append (.one hyv), hrest, by rw [h6]; simp⟩
                      have : acc.length < ys.length := by rw [h6]; simp
                      have := lim_line hz
                      omega
      · exact ok.elim
end
end PC
end
section
set_option maxHeartbeats 4000000
namespace PC
open PySem L2 PyProof.Rows
@[simp] theorem R.bind_assoc {α β γ : Type} (r : R α) (k : α → G → R β) (l : β → G → R γ) : (r.bind k).bind l = r.bind fun a g => (k a g).bind l := by cases r <;> rfl
section
variable (N : Nm) (P : Program) (B : Heap) (T : Tab) (cf : CF) (k : Nat) (ns : List Str)
def SVp (c : E) : Prop := ∀ {s0 sc : Scope} {W : XK} {X : Cx}, XS N P B T cf k ns s0 sc W X → ∀ {e : Expr}, (chM N.toNz ns c).v s0 sc e = true → ∀ {env : Env} {g : G} {σ : L2.St} {L I : Hp} {rs : List Addr} {H : Hp} {Q : VK}, Rel N L I rs g H → ER N I rs env σ →
  OkV N L I rs H W Q ((evM T cf c).v env g) → WE X e σ H Q
def STp (c : E) : Prop := ∀ {s0 sc : Scope} {W : XK} {X : Cx}, XS N P B T cf k ns s0 sc W X → ∀ {e : Expr}, (chM N.toNz ns c).t s0 sc e = true → ∀ {env : Env} {g : G} {σ : L2.St} {L I : Hp} {rs : List Addr} {H : Hp} {Q : Bool → Hp → Prop}, Rel N L I rs g H → ER N I rs env σ →
  OkB N L I rs H W Q ((evM T cf c).t env g) → WT X e σ H Q
def SIp (c : E) : Prop := ∀ {s0 sc : Scope} {W : XK} {X : Cx}, XS N P B T cf k ns s0 sc W X → ∀ {e : Expr}, (chM N.toNz ns c).i s0 sc e = true → ∀ {tg : Expr} {env : Env} {g : G} {σ : L2.St} {L I : Hp} {rs : List Addr} {H : Hp} {Q : It → Hp → Prop}, Rel N L I rs g H → ER N I rs env σ →
  OkI N L I rs H W Q ((evM T cf c).i env g) → WI X tg e σ H Q ∧ ∀ x, foldedSetIterable e X.env x = pure x
def WK (X : Cx) (kws : List Keyword) : TA := fun σ H Q => ∀ (pos : Pos) (pins : List (Addr × Obj)) (s : Shared), Inv X pins σ H s → wpAny (model X.prog X.w) X.A (evalAll ((backToKw pos (keywordEach kws X.env)).map (·.2))) (AP X pins σ Q) X.xe s
def SAp (cs : List E) : Prop := ∀ {s0 sc : Scope} {W : XK} {X : Cx}, XS N P B T cf k ns s0 sc W X →
  (∀ {es : List Expr}, chs N.toNz ns cs s0 sc es = true → ∀ {env : Env} {g : G} {σ : L2.St} {L I : Hp} {rs : List Addr} {H : Hp} {Q : List V → Hp → Prop}, Rel N L I rs g H → ER N I rs env σ →
    OkVs N L I rs H W Q (evs T cf cs env g) → WA X es σ H Q) ∧
  (∀ {kws : List Keyword}, chs N.toNz ns cs s0 sc (kws.map (·.value)) = true → noSt (kws.map (·.value)) = true → ∀ {env : Env} {g : G} {σ : L2.St} {L I : Hp} {rs : List Addr} {H : Hp} {Q : List V → Hp → Prop}, Rel N L I rs g H → ER N I rs env σ →
    OkVs N L I rs H W Q (evs T cf cs env g) → WK X kws σ H Q)
end
section
variable {N : Nm} {P : Program} {B : Heap} {T : Tab} {cf : CF} {k : Nat} {ns : List Str}
variable {s0 sc : Scope} {W : XK} {X : Cx} {L L1 I I1 I2 : Hp} {rs rs1 rs2 : List Addr} {g g1 : G} {H H1 H2 : Hp} {Q : VK} {x y z : D} {u v : V} {env : Env} {σ : L2.St}
theorem wk' {kws : List Keyword} : PK X kws (WK X kws) := ⟨fun pos pins s _ _ _ I h => h pos pins s I⟩
theorem wk_of {kws : List Keyword} {t : TA} (h : PK X kws t) {σ : L2.St} {H : Hp} {Q : List V → Hp → Prop} (q : t σ H Q) : WK X kws σ H Q := fun pos pins s I => h.run pos pins s σ H Q I q
theorem wk_mono {kws : List Keyword} {σ : L2.St} {H : Hp} {Q Q' : List V → Hp → Prop} (h : WK X kws σ H Q) (k : ∀ v H', Q v H' → Q' v H') : WK X kws σ H Q' := fun pos pins s I => thn (h pos pins s I) fun _ _ ⟨v, H', I', r, q⟩ => ⟨v, H', I', r, k v H' q⟩
/-- the first value, then the rest -/
theorem SVp.go {a : E} (h : SVp N P B T cf k ns a) (S : XS N P B T cf k ns s0 sc W X) {e : Expr} (hc : (chM N.toNz ns a).v s0 sc e = true) (R : Rel N L I rs g H) (er : ER N I rs env σ) {β δ : Type} {P2 : Hp → List Addr → β → δ → Prop} {Q2 : δ → Hp → Prop} {kk : D → G → PC.R β}
    (ok : Ok N L P2 I rs H W Q2 (((evM T cf a).v env g).bind kk)) (q : ∀ v H1 d g1 I1 rs1, Rel N L I1 rs1 g1 H1 → ER N I1 rs1 env σ → Ext I rs H I1 rs1 H1 → VR N I1 rs1 d v → Ok N L P2 I1 rs1 H1 W Q2 (kk d g1) → Q v H1) : WE X e σ H Q :=
  we_mono (h S hc R er ok.first) fun v H1 ⟨d, g1, I1, rs1, e1, R1, v1, ok1⟩ => q v H1 d g1 I1 rs1 R1 (er.after e1) e1 v1 ok1
theorem STp.go {a : E} (h : STp N P B T cf k ns a) (S : XS N P B T cf k ns s0 sc W X) {e : Expr} (hc : (chM N.toNz ns a).t s0 sc e = true) (R : Rel N L I rs g H) (er : ER N I rs env σ) {β δ : Type} {P2 : Hp → List Addr → β → δ → Prop} {Q2 : δ → Hp → Prop} {Q1 : Bool → Hp → Prop} {kk : Bool → G → PC.R β}
    (ok : Ok N L P2 I rs H W Q2 (((evM T cf a).t env g).bind kk)) (q : ∀ b H1 g1 I1 rs1, Rel N L I1 rs1 g1 H1 → ER N I1 rs1 env σ → Ext I rs H I1 rs1 H1 → Ok N L P2 I1 rs1 H1 W Q2 (kk b g1) → Q1 b H1) : WT X e σ H Q1 :=
  wt_mono (h S hc R er ok.first) fun v H1 ⟨d, g1, I1, rs1, e1, R1, v1, ok1⟩ => q v H1 g1 I1 rs1 R1 (er.after e1) e1 (v1 ▸ ok1)
theorem SAp.go {as : List E} (h : SAp N P B T cf k ns as) (S : XS N P B T cf k ns s0 sc W X) {es : List Expr} (hc : chs N.toNz ns as s0 sc es = true) (R : Rel N L I rs g H) (er : ER N I rs env σ) {β δ : Type} {P2 : Hp → List Addr → β → δ → Prop} {Q2 : δ → Hp → Prop} {Q1 : List V → Hp → Prop} {kk : List D → G → PC.R β}
    (ok : Ok N L P2 I rs H W Q2 ((evs T cf as env g).bind kk)) (q : ∀ vs H1 ds g1 I1 rs1, Rel N L I1 rs1 g1 H1 → ER N I1 rs1 env σ → Ext I rs H I1 rs1 H1 → VRs N I1 rs1 ds vs → Ok N L P2 I1 rs1 H1 W Q2 (kk ds g1) → Q1 vs H1) : WA X es σ H Q1 :=
  wa_mono ((h S).1 hc R er ok.first) fun v H1 ⟨d, g1, I1, rs1, e1, R1, v1, ok1⟩ => q v H1 d g1 I1 rs1 R1 (er.after e1) e1 v1 ok1
theorem SAp.gk {as : List E} (h : SAp N P B T cf k ns as) (S : XS N P B T cf k ns s0 sc W X) {kws : List Keyword} (hc : chs N.toNz ns as s0 sc (kws.map (·.value)) = true) (hn : noSt (kws.map (·.value)) = true) (R : Rel N L I rs g H) (er : ER N I rs env σ) {β δ : Type} {P2 : Hp → List Addr → β → δ → Prop} {Q2 : δ → Hp → Prop} {Q1 : List V → Hp → Prop} {kk : List D → G → PC.R β}
    (ok : Ok N L P2 I rs H W Q2 ((evs T cf as env g).bind kk)) (q : ∀ vs H1 ds g1 I1 rs1, Rel N L I1 rs1 g1 H1 → ER N I1 rs1 env σ → Ext I rs H I1 rs1 H1 → VRs N I1 rs1 ds vs → Ok N L P2 I1 rs1 H1 W Q2 (kk ds g1) → Q1 vs H1) : WK X kws σ H Q1 :=
  wk_mono ((h S).2 hc hn R er ok.first) fun v H1 ⟨d, g1, I1, rs1, e1, R1, v1, ok1⟩ => q v H1 d g1 I1 rs1 R1 (er.after e1) e1 v1 ok1
theorem Ok.first' {α β γ δ : Type} {P1 : Hp → List Addr → α → γ → Prop} {P2 : Hp → List Addr → β → δ → Prop} {Q : δ → Hp → Prop} {r : PC.R α} {k : α → G → PC.R β}
    (ok : Ok N L P2 I rs H W Q (r.bind k)) : Ok N L P1 I rs H W (fun b H1 => ∃ a g1 I1 rs1, r = .ok a g1 ∧ Ext I rs H I1 rs1 H1 ∧ Rel N L I1 rs1 g1 H1 ∧ P1 I1 rs1 a b ∧ Ok N L P2 I1 rs1 H1 W Q (k a g1)) r := by
  cases r with
  | ok a g => exact fun I' rs' H' b e R p => ⟨a, g, I', rs', rfl, e, R, p, ok.after e⟩
  | exc x g => exact ok
  | stk => exact ok
/-- as many values as texts -/
theorem evs_len {z : Nz} : ∀ {as : List E} {es : List Expr} {env : Env} {g g1 : G} {ds : List D}, chs z ns as s0 sc es = true → noSt es = true → evs T cf as env g = .ok ds g1 → ds.length = es.length
  | [], es, env, g, g1, ds, h, hn, e => by
    simp only [chs, List.isEmpty_iff] at h
    subst h
    cases e
    rfl
  | a :: r, [], env, g, g1, ds, h, hn, e => by simp [chs] at h
  | a :: r, x :: es, env, g, g1, ds, h, hn, e => by
    simp only [noSt, List.all_cons, Bool.and_eq_true] at hn
    simp only [chs, Bool.and_eq_true] at h
    have hs : (evM T cf a).st = false := by
      have e1 : (chM z ns a).st = (evM T cf a).st := by cases a <;> rfl
      rw [← e1]
      cases q : (chM z ns a).st with
      | false => rfl
      | true =>
        rw [q] at h
        cases x <;> first | exact Bool.noConfusion h.1 | exact Bool.noConfusion hn.1
    have e : (((evM T cf a).v env g).bind fun x g1 => match (evM T cf a).st with
      | true => (match seqD g1 x with
        | some xs => (evs T cf r env g1).bind fun ys g2 => .ok (xs ++ ys) g2
        | none => .stk)
      | false => (evs T cf r env g1).bind fun ys g2 => .ok (x :: ys) g2) = .ok ds g1 := e
    rw [hs] at e
    cases q1 : (evM T cf a).v env g with
    | exc _ _ => rw [q1] at e; cases e
    | stk => rw [q1] at e; cases e
    | ok d gd =>
      rw [q1] at e
      simp only [PC.R.bind] at e
      cases q2 : evs T cf r env gd with
      | exc _ _ => rw [q2] at e; cases e
      | stk => rw [q2] at e; cases e
      | ok ys gy =>
        rw [q2] at e
        cases e
        simp [evs_len h.2 hn.2 q2]
/-- an answer that may lack -/
theorem Ok.opt' {α β : Type} {P1 : Hp → List Addr → α → β → Prop} {Q1 : β → Hp → Prop} {o : Option α} (ok : Ok N L P1 I rs H W Q1 (opt o g)) : ∃ a, o = some a ∧ Ok N L P1 I rs H W Q1 (.ok a g) := by
  cases o with
  | none => exact ok.elim
  | some a => exact ⟨a, rfl, ok⟩
theorem Ok.bl {Q1 : Bool → Hp → Prop} {b : Bool} (R : Rel N L I rs g H) (ok : OkB N L I rs H W Q1 (.ok b g)) : Q1 b H := ok I rs H b .refl R rfl
theorem Ok.now (R : Rel N L I rs g H) (ok : OkV N L I rs H W Q (.ok z g)) (h : VR N I rs z v) : Q v H := ok I rs H v .refl R h
/-- a test, a walk by a value -/
theorem t_of {a : E} (hv : SVp N P B T cf k ns a) (hm : (evM T cf a).t = fun env g => ((evM T cf a).v env g).bind fun x g1 => opt (tru g1 x) g1) (hc : (chM N.toNz ns a).t = fun s0 sc e => ptB e && (chM N.toNz ns a).v s0 sc e) : STp N P B T cf k ns a := by
  intro s0 sc W X S e h env g σ L I rs H Q R er ok
  rw [hc] at h
  rw [hm] at ok
  simp only [Bool.and_eq_true] at h
  refine wt_of (pt_truth we (pt_plain h.1)) (hv.go S h.2 R er ok fun v H1 d g1 I1 rs1 R1 er1 e1 v1 ok1 => ?_)
  obtain ⟨b, hb, ok2⟩ := ok1.opt'
  exact ⟨b, tru_ok S.F.hK hb R1 v1, ok2.bl R1⟩
theorem pi_any {e tg : Expr} : PI X tg e (fun σ H R => WE X e σ H fun u H => (∃ a, u = .ref a ∧ (∃ xs, SqL X.K H a xs) ∧ R (Itl X.K a) H) ∨ (∃ a, u = .ref a ∧ (∃ xs, SqT X.K H a xs) ∧ R (Itt X.K a) H) ∨ ∃ z, u = .str z ∧ R (Its z) H) := by
  refine ⟨fun pins s σ H R I h => ?_⟩
  refine thn (h pins s I) fun v s1 ⟨x, H1, I1, r1, q1⟩ => ?_
  rcases q1 with ⟨a, e, ⟨xs, hq⟩, q⟩ | ⟨a, e, ⟨xs, hq⟩, q⟩ | ⟨z, e, q⟩
  · subst e
    cases r1
    obtain ⟨its, rv, p, hz⟩ := I1.list hq
    refine wpAny_pyIter_list p.isList ?_
    refine ⟨s1.heap.objs.size, [s1.heap.objs.size], _, _, H1, rfl, I1.kept (t' := s1.toks) fun b o e => Heap.get?_push_of_some _ e, turn_list a _, ⟨_, Heap.get?_push_size _ rfl, rfl, rfl⟩, fun b hb => ?_, q⟩
    have e : b = s1.heap.objs.size := by simpa using hb
    subst e
    exact I1.fpOk (Nat.le_refl _) (I1.hok.fresh (Nat.le_refl _))
  · subst e
    cases r1
    obtain ⟨its, rv, p, hz⟩ := I1.tuple hq
    refine wpAny_pyIter_tuple (show s1.heap.IsTuple a its.toArray from p) ?_
    refine ⟨s1.heap.objs.size, [s1.heap.objs.size], _, _, H1, rfl, I1.kept (t' := s1.toks) fun b o e => Heap.get?_push_of_some _ e, turn_tuple a _, ⟨_, Heap.get?_push_size _ rfl, rfl, rfl⟩, fun b hb => ?_, q⟩
    have e : b = s1.heap.objs.size := by simpa using hb
    subst e
    exact I1.fpOk (Nat.le_refl _) (I1.hok.fresh (Nat.le_refl _))
  · subst e
    obtain ⟨t, rfl⟩ := r1
    cases ha : z.cps.all (· < 128)
    · exact wpAny_pyIter_wide ha (pi_one (tk := s1.toks) I1 _ (turn_str _ z t "str_iterator" (.inr rfl)) ⟨_, Heap.get?_push_size _ rfl, rfl, rfl⟩ q)
    · exact wpAny_pyIter_ascii ha (pi_one (tk := s1.toks) I1 _ (turn_str _ z t "str_ascii_iterator" (.inl rfl)) ⟨_, Heap.get?_push_size _ rfl, rfl, rfl⟩ q)
theorem i_of {a : E} (hv : SVp N P B T cf k ns a) (hm : (evM T cf a).i = fun env g => ((evM T cf a).v env g).bind fun x g1 => opt (itemsD g1 x) g1) (hc : (chM N.toNz ns a).i = fun s0 sc e => nsB e && (chM N.toNz ns a).v s0 sc e) : SIp N P B T cf k ns a := by
  intro s0 sc W X S e h tg env g σ L I rs H Q R er ok
  rw [hc] at h
  rw [hm] at ok
  simp only [Bool.and_eq_true] at h
  refine ⟨wi_of pi_any (we_mono (hv S h.2 R er ok.first) fun v H1 ⟨d, g1, I1, rs1, e1, R1, v1, ok1⟩ => ?_), ns_fold h.1⟩
  cases hi : itemsD g1 d with
  | none => rw [hi] at ok1; exact ok1.elim
  | some p => rw [hi] at ok1; exact items_ok S hi R1 v1 ok1
end
end PC
end
section
set_option maxHeartbeats 4000000
namespace PC
open PySem L2 PyProof.Rows
section
variable {N : Nm} {P : Program} {B : Heap} {T : Tab} {cf : CF} {k : Nat} {ns : List Str}
variable {s0 sc : Scope} {W : XK} {X : Cx} {L L1 I I1 I2 : Hp} {rs rs1 rs2 : List Addr} {g g1 : G} {H H1 H2 : Hp} {Q : VK} {x y z : D} {u v : V} {env : Env} {σ : L2.St}
theorem sv_loc (i : Nat) : SVp N P B T cf k ns (.loc i) := by
  intro s0 sc W X S e h env g σ L I rs H Q R er ok
  cases e <;> simp only [chM, Ck.of] at h <;> first | exact Bool.noConfusion h | skip
  simp only [Bool.and_eq_true, beq_iff_eq] at h
  obtain ⟨h1, h2, h3⟩ := vis_of h.2
  refine we_of (pe_var (by rw [S.hN]; exact h.1) (by rw [S.sc]; exact h1) h2 h3) ?_
  have ok : OkV N L I rs H W Q (match env[i]? with | some (some d) => .ok d g | _ => .stk) := ok
  split at ok
  · rename_i d q
    obtain ⟨v, e1, e2⟩ := er.2 _ _ q
    exact ⟨v, e1, ok.now R e2⟩
  · exact ok.elim
theorem sv_con (d : D) : SVp N P B T cf k ns (.con d) := by
  intro s0 sc W X S e h env g σ L I rs H Q R er ok
  have ok : OkV N L I rs H W Q (.ok d g) := ok
  cases e <;> simp only [chM, Ck.of] at h <;> first | exact Bool.noConfusion h | skip
  rename_i c j p
  unfold conB at h
  split at h
  · exact we_of pe_non (ok.now R .non)
  · have := eq_of_beq h; subst this
    exact we_of pe_bl (ok.now R (.bl _))
  · have := eq_of_beq h; subst this
    exact we_of pe_int (ok.now R (.int _))
  · rename_i s y
    have := eq_of_beq h
    subst this
    have q := ok.now R (.str _)
    rw [st_of] at q
    exact we_of pe_str q
  · exact Bool.noConfusion h
theorem sv_glo (n : Nat) : SVp N P B T cf k ns (.glo n) := by
  intro s0 sc W X S e h env g σ L I rs H Q R er ok
  have ok : OkV N L I rs H W Q (opt (T.glo n) g) := ok
  obtain ⟨d, hd, ok⟩ := ok.opt'
  cases e <;> simp only [chM, Ck.of] at h <;> first | exact Bool.noConfusion h | skip
  simp only [Bool.and_eq_true, beq_iff_eq] at h
  obtain ⟨h1, h2⟩ := gl_of (X := X) h.2 S.sc
  obtain ⟨v, u, e1, e2, e3⟩ := S.fa.glo n d hd
  exact we_of (pe_glob h1 (by rw [S.mg, ← h.1]; exact e1) e2 h2) (ok.now R (e3.mono (fun _ _ z => by cases z) (List.nil_prefix)))
theorem sv_bin {o : Bop} {a b : E} (ha : SVp N P B T cf k ns a) (hb : SVp N P B T cf k ns b) : SVp N P B T cf k ns (.bin o a b) := by
  intro s0 sc W X S e h env g σ L I rs H Q R er ok
  have ok : OkV N L I rs H W Q (((evM T cf a).v env g).bind fun x g1 => ((evM T cf b).v env g1).bind fun y g2 => opt (binD g2 o x y) g2) := ok
  cases e <;> simp only [chM, Ck.of] at h <;> first | exact Bool.noConfusion h | skip
  simp only [Bool.and_eq_true, beq_iff_eq] at h
  obtain ⟨rfl, h1, h2⟩ := h
  refine we_of (pe_op rw_op we we) (ha.go S h1 R er ok fun v1 H1 d1 g1 I1 rs1 R1 er1 e1 r1 ok1 => hb.go S h2 R1 er1 ok1 fun v2 H2 d2 g2 I2 rs2 R2 er2 e2 r2 ok2 => ?_)
  obtain ⟨z, hz, ok3⟩ := ok2.opt'
  exact bin_ok S.F.hK hz R2 (e2.vr r1) r2 ok3.gd
theorem sv_neg {a : E} (ha : SVp N P B T cf k ns a) : SVp N P B T cf k ns (.neg a) := by
  intro s0 sc W X S e h env g σ L I rs H Q R er ok
  have ok : OkV N L I rs H W Q (((evM T cf a).v env g).bind fun x g1 => match x with | .int i => .ok (.int (-i)) g1 | _ => .stk) := ok
  cases e <;> simp only [chM, Ck.of] at h <;> first | exact Bool.noConfusion h | skip
  rename_i op a' p
  cases op <;> first | exact Bool.noConfusion h | skip
  refine we_of (pe_un un_neg we) (ha.go S h R er ok fun v1 H1 d1 g1 I1 rs1 R1 er1 e1 r1 ok1 => ?_)
  split at ok1
  · cases r1
    exact ⟨_, rfl, ok1.now R1 (.int _)⟩
  · exact ok1.elim
theorem sv_not {a : E} (ha : SVp N P B T cf k ns a) : SVp N P B T cf k ns (.not_ a) := by
  intro s0 sc W X S e h env g σ L I rs H Q R er ok
  have ok : OkV N L I rs H W Q (((evM T cf a).v env g).bind fun x g1 => opt ((tru g1 x).map fun b => .bl (!b)) g1) := ok
  cases e <;> simp only [chM, Ck.of] at h <;> first | exact Bool.noConfusion h | skip
  rename_i op a' p
  cases op <;> first | exact Bool.noConfusion h | skip
  refine we_of (pe_notT we) (ha.go S h R er ok fun v1 H1 d1 g1 I1 rs1 R1 er1 e1 r1 ok1 => ?_)
  obtain ⟨z, hz, ok2⟩ := ok1.opt'
  simp only [Option.map_eq_some_iff] at hz
  obtain ⟨b, hb, rfl⟩ := hz
  exact ⟨b, tru_ok S.F.hK hb R1 r1, ok2.now R1 (.bl _)⟩
theorem sv_and {a b : E} (ha : SVp N P B T cf k ns a) (hb : SVp N P B T cf k ns b) : SVp N P B T cf k ns (.and_ a b) := by
  intro s0 sc W X S e h env g σ L I rs H Q R er ok
  have ok : OkV N L I rs H W Q (((evM T cf a).v env g).bind fun x g1 => match tru g1 x with | some true => (evM T cf b).v env g1 | some false => .ok x g1 | none => .stk) := ok
  cases e <;> simp only [chM, Ck.of] at h <;> first | exact Bool.noConfusion h | skip
  rename_i op es p
  cases op <;> first | exact Bool.noConfusion h | skip
  cases es with
  | nil => exact Bool.noConfusion h
  | cons a' rest =>
    simp only [Bool.and_eq_true] at h
    obtain ⟨h1, h2⟩ := h
    have key : ∀ v1 H1 d1 g1 I1 rs1, Rel N L I1 rs1 g1 H1 → ER N I1 rs1 env σ → Ext I rs H I1 rs1 H1 → VR N I1 rs1 d1 v1 → OkV N L I1 rs1 H1 W Q (match tru g1 d1 with | some true => (evM T cf b).v env g1 | some false => .ok d1 g1 | none => .stk) →
        ∀ {e2 : Expr}, (OkV N L I1 rs1 H1 W Q ((evM T cf b).v env g1) → WE X e2 σ H1 Q) → ∃ k, TruV X.K v1 H1 k ∧ if k = true then WE X e2 σ H1 Q else Q v1 H1 := by
      intro v1 H1 d1 g1 I1 rs1 R1 er1 e1 r1 ok1 e2 w
      split at ok1
      · rename_i q
        exact ⟨true, tru_ok S.F.hK q R1 r1, by simpa using w ok1⟩
      · rename_i q
        exact ⟨false, tru_ok S.F.hK q R1 r1, by simpa using ok1.now R1 r1⟩
      · exact ok1.elim
    cases rest with
    | nil => exact Bool.noConfusion h2
    | cons b' r =>
      cases r with
      | nil =>
        refine we_of (pe_andT we (pe_one we)) (ha.go S h1 R er ok fun v1 H1 d1 g1 I1 rs1 R1 er1 e1 r1 ok1 => key v1 H1 d1 g1 I1 rs1 R1 er1 e1 r1 ok1 fun ok2 => hb S h2 R1 er1 ok2)
      | cons c' r =>
        refine we_of (pe_andT we we) (ha.go S h1 R er ok fun v1 H1 d1 g1 I1 rs1 R1 er1 e1 r1 ok1 => key v1 H1 d1 g1 I1 rs1 R1 er1 e1 r1 ok1 fun ok2 => hb S h2 R1 er1 ok2)
theorem sv_or {a b : E} (ha : SVp N P B T cf k ns a) (hb : SVp N P B T cf k ns b) : SVp N P B T cf k ns (.or_ a b) := by
  intro s0 sc W X S e h env g σ L I rs H Q R er ok
  have ok : OkV N L I rs H W Q (((evM T cf a).v env g).bind fun x g1 => match tru g1 x with | some true => .ok x g1 | some false => (evM T cf b).v env g1 | none => .stk) := ok
  cases e <;> simp only [chM, Ck.of] at h <;> first | exact Bool.noConfusion h | skip
  rename_i op es p
  cases op <;> first | exact Bool.noConfusion h | skip
  cases es with
  | nil => exact Bool.noConfusion h
  | cons a' rest =>
    simp only [Bool.and_eq_true] at h
    obtain ⟨h1, h2⟩ := h
    have key : ∀ v1 H1 d1 g1 I1 rs1, Rel N L I1 rs1 g1 H1 → ER N I1 rs1 env σ → Ext I rs H I1 rs1 H1 → VR N I1 rs1 d1 v1 → OkV N L I1 rs1 H1 W Q (match tru g1 d1 with | some true => .ok d1 g1 | some false => (evM T cf b).v env g1 | none => .stk) →
        ∀ {e2 : Expr}, (OkV N L I1 rs1 H1 W Q ((evM T cf b).v env g1) → WE X e2 σ H1 Q) → ∃ k, TruV X.K v1 H1 k ∧ if k = true then Q v1 H1 else WE X e2 σ H1 Q := by
      intro v1 H1 d1 g1 I1 rs1 R1 er1 e1 r1 ok1 e2 w
      split at ok1
      · rename_i q
        exact ⟨true, tru_ok S.F.hK q R1 r1, by simpa using ok1.now R1 r1⟩
      · rename_i q
        exact ⟨false, tru_ok S.F.hK q R1 r1, by simpa using w ok1⟩
      · exact ok1.elim
    cases rest with
    | nil => exact Bool.noConfusion h2
    | cons b' r =>
      cases r with
      | nil =>
        refine we_of (pe_orT we (pe_one we)) (ha.go S h1 R er ok fun v1 H1 d1 g1 I1 rs1 R1 er1 e1 r1 ok1 => key v1 H1 d1 g1 I1 rs1 R1 er1 e1 r1 ok1 fun ok2 => hb S h2 R1 er1 ok2)
      | cons c' r =>
        refine we_of (pe_orT we we) (ha.go S h1 R er ok fun v1 H1 d1 g1 I1 rs1 R1 er1 e1 r1 ok1 => key v1 H1 d1 g1 I1 rs1 R1 er1 e1 r1 ok1 fun ok2 => hb S h2 R1 er1 ok2)
theorem cmp_bl (S : XS N P B T cf k ns s0 sc W X) {o : Cop} {b : Bool} (h : cmpD g o x y = some b) (R : Rel N L I rs g H) (hu : VR N I rs x u) (hv : VR N I rs y v) (q : Q (.bl b) H) : RW X (compareOp (copA o)) u v H Q := cmp_ok S.F.hK S.F.hw S.F.hU h R hu hv q
theorem sv_cmp {o : Cop} {a b : E} (ha : SVp N P B T cf k ns a) (hb : SVp N P B T cf k ns b) : SVp N P B T cf k ns (.cmp o a b) ∧ STp N P B T cf k ns (.cmp o a b) := by
  constructor
  · intro s0 sc W X S e h env g σ L I rs H Q R er ok
    have ok : OkV N L I rs H W Q (((evM T cf a).v env g).bind fun x g1 => ((evM T cf b).v env g1).bind fun y g2 => opt ((cmpD g2 o x y).map .bl) g2) := ok
    simp only [chM, Ck.cmp] at h
    split at h
    · simp only [Bool.and_eq_true, beq_iff_eq, Bool.not_eq_true'] at h
      obtain ⟨rfl, h0, h1, h2⟩ := h
      refine we_of (pe_cmpR rw_op we we h0) (ha.go S h1 R er ok fun v1 H1 d1 g1 I1 rs1 R1 er1 e1 r1 ok1 => hb.go S h2 R1 er1 ok1 fun v2 H2 d2 g2 I2 rs2 R2 er2 e2 r2 ok2 => ?_)
      obtain ⟨z, hz, ok3⟩ := ok2.opt'
      simp only [Option.map_eq_some_iff] at hz
      obtain ⟨c, hc, rfl⟩ := hz
      exact cmp_bl S hc R2 (e2.vr r1) r2 (ok3.now R2 (.bl _))
    · exact Bool.noConfusion h
  · intro s0 sc W X S e h env g σ L I rs H Q R er ok
    have ok : OkB N L I rs H W Q ((((evM T cf a).v env g).bind fun x g1 => ((evM T cf b).v env g1).bind fun y g2 => opt ((cmpD g2 o x y).map .bl) g2).bind fun x g1 => opt (tru g1 x) g1) := ok
    simp only [PC.R.bind_assoc] at ok
    simp only [chM, Ck.cmp] at h
    split at h
    · simp only [Bool.and_eq_true, beq_iff_eq, Bool.not_eq_true'] at h
      obtain ⟨rfl, h0, h1, h2⟩ := h
      refine wt_of (pt_cmpR rw_op we we h0) (ha.go S h1 R er ok fun v1 H1 d1 g1 I1 rs1 R1 er1 e1 r1 ok1 => hb.go S h2 R1 er1 ok1 fun v2 H2 d2 g2 I2 rs2 R2 er2 e2 r2 ok2 => ?_)
      cases hc : cmpD g2 o d1 d2 with
      | none => rw [hc] at ok2; exact ok2.elim
      | some c =>
        rw [hc] at ok2
        exact cmp_bl S hc R2 (e2.vr r1) r2 ⟨c, rfl, ok2.bl R2⟩
    · exact Bool.noConfusion h
theorem sv_chain {o p : Cop} {a b c : E} (ha : SVp N P B T cf k ns a) (hb : SVp N P B T cf k ns b) (hc : SVp N P B T cf k ns c) : SVp N P B T cf k ns (.chain o p a b c) ∧ STp N P B T cf k ns (.chain o p a b c) := by
  constructor
  · intro s0 sc W X S e h env g σ L I rs H Q R er ok
    have ok : OkV N L I rs H W Q (((evM T cf a).v env g).bind fun x g1 => ((evM T cf b).v env g1).bind fun y g2 => match cmpD g2 o x y with
      | some true => ((evM T cf c).v env g2).bind fun z g3 => opt ((cmpD g3 p y z).map .bl) g3
      | some false => .ok (.bl false) g2
      | none => .stk) := ok
    simp only [chM, Ck.cmp] at h
    split at h
    · simp only [Bool.and_eq_true, beq_iff_eq, Bool.not_eq_true'] at h
      obtain ⟨⟨rfl, rfl⟩, h0, h1, h2, h3⟩ := h
      refine we_of (pe_chain rw_op rw_op we we we h0) (ha.go S h1 R er ok fun v1 H1 d1 g1 I1 rs1 R1 er1 e1 r1 ok1 => hb.go S h2 R1 er1 ok1 fun v2 H2 d2 g2 I2 rs2 R2 er2 e2 r2 ok2 => ?_)
      split at ok2
      · rename_i q
        refine cmp_bl S q R2 (e2.vr r1) r2 ⟨true, rfl, ?_⟩
        rw [if_pos rfl]
        refine hc.go S h3 R2 er2 ok2 fun v3 H3 d3 g3 I3 rs3 R3 er3 e3 r3 ok3 => ?_
        obtain ⟨z, hz, ok4⟩ := ok3.opt'
        simp only [Option.map_eq_some_iff] at hz
        obtain ⟨c, hc, rfl⟩ := hz
        exact cmp_bl S hc R3 (e3.vr r2) r3 (ok4.now R3 (.bl _))
      · rename_i q
        refine cmp_bl S q R2 (e2.vr r1) r2 ⟨false, rfl, ?_⟩
        rw [if_neg Bool.false_ne_true]
        exact ok2.now R2 (.bl _)
      · exact ok2.elim
    · exact Bool.noConfusion h
  · intro s0 sc W X S e h env g σ L I rs H Q R er ok
    have ok : OkB N L I rs H W Q ((((evM T cf a).v env g).bind fun x g1 => ((evM T cf b).v env g1).bind fun y g2 => match cmpD g2 o x y with
      | some true => ((evM T cf c).v env g2).bind fun z g3 => opt ((cmpD g3 p y z).map .bl) g3
      | some false => .ok (.bl false) g2
      | none => .stk).bind fun x g1 => opt (tru g1 x) g1) := ok
    simp only [PC.R.bind_assoc] at ok
    simp only [chM, Ck.cmp] at h
    split at h
    · simp only [Bool.and_eq_true, beq_iff_eq, Bool.not_eq_true'] at h
      obtain ⟨⟨rfl, rfl⟩, h0, h1, h2, h3⟩ := h
      refine wt_of (pt_chain rw_op rw_op we we we h0) (ha.go S h1 R er ok fun v1 H1 d1 g1 I1 rs1 R1 er1 e1 r1 ok1 => hb.go S h2 R1 er1 ok1 fun v2 H2 d2 g2 I2 rs2 R2 er2 e2 r2 ok2 => ?_)
      cases q : cmpD g2 o d1 d2 with
      | none => rw [q] at ok2; exact ok2.elim
      | some bb =>
        rw [q] at ok2
        cases bb with
        | true =>
          simp only [PC.R.bind_assoc] at ok2
          refine cmp_bl S q R2 (e2.vr r1) r2 ⟨true, rfl, ?_⟩
          rw [if_pos rfl]
          refine hc.go S h3 R2 er2 ok2 fun v3 H3 d3 g3 I3 rs3 R3 er3 e3 r3 ok3 => ?_
          cases hd : cmpD g3 p d2 d3 with
          | none => rw [hd] at ok3; exact ok3.elim
          | some c =>
            rw [hd] at ok3
            exact cmp_bl S hd R3 (e3.vr r2) r3 ⟨c, rfl, ok3.bl R3⟩
        | false =>
          refine cmp_bl S q R2 (e2.vr r1) r2 ⟨false, rfl, ?_⟩
          rw [if_neg Bool.false_ne_true]
          exact ⟨false, rfl, ok2.bl R2⟩
    · exact Bool.noConfusion h
theorem sv_ite {a b c : E} (hc : STp N P B T cf k ns c) (ha : SVp N P B T cf k ns a) (hb : SVp N P B T cf k ns b) : SVp N P B T cf k ns (.ite c a b) := by
  intro s0 sc W X S e h env g σ L I rs H Q R er ok
  have ok : OkV N L I rs H W Q (((evM T cf c).t env g).bind fun t g1 => match t with | true => (evM T cf a).v env g1 | false => (evM T cf b).v env g1) := ok
  cases e <;> simp only [chM, Ck.of] at h <;> first | exact Bool.noConfusion h | skip
  simp only [Bool.and_eq_true] at h
  obtain ⟨h1, h2, h3⟩ := h
  refine we_of (pe_ifExp wt we we) (hc.go S h1 R er ok fun t H1 g1 I1 rs1 R1 er1 e1 ok1 => ?_)
  cases t with
  | true => exact ha S h2 R1 er1 ok1
  | false => exact hb S h3 R1 er1 ok1
end
end PC
end
section
set_option maxHeartbeats 4000000
namespace PC
open PySem L2 PyProof.Rows
section
variable {N : Nm} {P : Program} {B : Heap} {T : Tab} {cf : CF} {k : Nat} {ns : List Str}
variable {s0 sc : Scope} {W : XK} {X : Cx} {L L1 I I1 I2 : Hp} {rs rs1 rs2 : List Addr} {g g1 : G} {H H1 H2 : Hp} {Q : VK} {x y z : D} {u v : V} {env : Env} {σ : L2.St}
/-! ### calls -/
theorem chs_nil {z : Nz} {as : List E} (h : chs z ns as s0 sc [] = true) : as = [] := by
  cases as with
  | nil => rfl
  | cons a r => simp [chs] at h
/-- f(..), by values -/
theorem pe_callX0 {x : Str} {f : Addr} {p pos : Pos} (hg : Gl X x) (hd : (x == ("__debug__" : Str)) = false) (hm : X.mg x = some (.ref f)) (hk : PySem.W.keepIn X.K (.ref f) = true) :
    PE X (.Call (.Name x p) [] [] pos) (fun σ H Q => RC X (.ref f) [] H Q) :=
  ⟨fun pins s σ H Q I h => wpAny_Call_Name_kw (ld_glob I hg hm (PySem.W.callWith_K0 I.kIn hk (h pins s σ [] I .nil)) hd)⟩
theorem pe_callX {x : Str} {f : Addr} {p pos : Pos} {e : Expr} {es : List Expr} (hg : Gl X x) (hd : (x == ("__debug__" : Str)) = false) (hm : X.mg x = some (.ref f)) (hk : PySem.W.keepIn X.K (.ref f) = true) (hn : noSt (e :: es) = true) :
    PE X (.Call (.Name x p) (e :: es) [] pos) (tCB (RC X (.ref f)) (WA X (e :: es))) := by
  refine ⟨fun pins s σ H Q I h => ?_⟩
  refine wpAny_Call_Name_kw (ld_glob I hg hm ?_ hd)
  simp only [noSt, List.all_cons, Bool.and_eq_true] at hn
  exact PySem.W.callWith_K (h₀ := X.base) I.ok.mod.kin hk (thn (h pos pins s I) fun us s1 ⟨vs, H1, I1, r, q⟩ => ⟨I1.kIn, q pins s1 σ us I1 r⟩) (star_eq hn.1) (star_any hn.2)
theorem sv_call {f : Nat} {as : List E} (ha : SAp N P B T cf k ns as) : SVp N P B T cf k ns (.call f as) := by
  intro s0 sc W X S e h env g σ L I rs H Q R er ok
  have ok : OkV N L I rs H W Q ((evs T cf as env g).bind fun vs g1 => cf f vs g1) := ok
  simp only [chM, Ck.of] at h
  split at h
  · rename_i x p es q
    simp only [Bool.and_eq_true, beq_iff_eq] at h
    obtain ⟨⟨h1, rfl, h2⟩, h3, h4⟩ := h
    obtain ⟨b1, b2⟩ := gl_of (X := X) h2 S.sc
    obtain ⟨c1, c2⟩ := S.fa.fn f h1
    rw [← S.mg] at c1
    rw [← S.F.hK] at c2
    cases es with
    | nil =>
      have := chs_nil h4
      subst this
      exact we_of (pe_callX0 b1 b2 c1 c2) (S.rc R .nil ok)
    | cons e es => exact we_of (pe_callX b1 b2 c1 c2 h3) (ha.go S h4 R er ok fun vs H1 ds g1 I1 rs1 R1 er1 e1 r1 ok1 => S.rc R1 r1 ok1)
  · exact Bool.noConfusion h
/-! ### keywords -/
theorem kw_of {pos : Pos} {env : PySem.Env} : ∀ {kws : List Keyword} {xs : List Str}, kws.map (·.arg) = xs.map some → (backToKw pos (keywordEach kws env)).all (·.1.isSome) = true ∧ (backToKw pos (keywordEach kws env)).filterMap (·.1) = xs ∧ (backToKw pos (keywordEach kws env)).any (·.1.isNone) = false ∧ xs.length = kws.length
  | [], xs, h => by
    cases xs with
    | nil => exact ⟨rfl, rfl, rfl, rfl⟩
    | cons _ _ => simp at h
  | ⟨y, e, p⟩ :: r, xs, h => by
    cases xs with
    | nil => simp at h
    | cons n xs =>
      simp only [List.map_cons, List.cons.injEq] at h
      obtain ⟨rfl, h⟩ := h
      obtain ⟨a, b, c, d⟩ := kw_of h
      simp only [keywordEach, backToKw, List.map_cons, List.all_cons, List.filterMap_cons, List.any_cons, Option.isSome_some, Option.isNone_some, Bool.true_and, Bool.false_or, List.length_cons] at a b c d ⊢
      exact ⟨a, by rw [b], c, by rw [d]⟩
theorem sv_callK {f : Nat} {as ks : List E} (ha : SAp N P B T cf k ns as) (hk : SAp N P B T cf k ns ks) : SVp N P B T cf k ns (.callK f as ks) := by
  intro s0 sc W X S e h env g σ L I rs H Q R er ok
  have ok : OkV N L I rs H W Q ((evs T cf as env g).bind fun vs g1 => (evs T cf ks env g1).bind fun ws g2 => cf f (vs ++ ws) g2) := ok
  simp only [chM, Ck.of] at h
  split at h
  · rename_i x p es kws q
    simp only [Bool.and_eq_true, beq_iff_eq] at h
    obtain ⟨⟨h1, rfl, h2⟩, ⟨h3, h4⟩, h5, h6, h7⟩ := h
    obtain ⟨b1, b2⟩ := gl_of (X := X) h2 S.sc
    obtain ⟨c1, c2⟩ := S.fa.fn f h1
    rw [← S.mg] at c1
    rw [← S.F.hK] at c2
    obtain ⟨k1, k2, k3, k4⟩ := kw_of (pos := q) (env := X.env) (of_decide_eq_true (show decide (kws.map (·.arg) = _) = true from h5))
    have fin : ∀ (us ws : List Value), us.length = es.length → ws.length = kws.length → ∀ {u1 : List Value}, u1 = us ++ ws → u1.take us.length = us ∧ ((N.pn f).drop us.length).zip (u1.drop us.length) = ((backToKw q (keywordEach kws X.env)).filterMap (·.1)).zip ws := by
      intro us ws e1 e2 u1 e3
      subst e3
      refine ⟨by simp, ?_⟩
      rw [k2, e1, List.drop_append_of_le_length (by omega), ← e1, List.drop_length, List.nil_append]
      have h9 : ∀ (a : List Str) (b : List Value), (a.take b.length).zip b = a.zip b := by
        intro a
        induction a with
        | nil => intro b; simp
        | cons c a ih =>
          intro b
          cases b with
          | nil => simp
          | cons d b => simp [ih]
      rw [← e2, h9]
    have run : ∀ (vs : List V) (H1 : Hp) (ds : List D) (g1 : G) (I1 : Hp) (rs1 : List Addr), Rel N L I1 rs1 g1 H1 → ER N I1 rs1 env σ → VRs N I1 rs1 ds vs → ds.length = es.length → OkV N L I1 rs1 H1 W Q ((evs T cf ks env g1).bind fun ws g2 => cf f (ds ++ ws) g2) →
        ∀ (pins : List (Addr × Obj)) (s : Shared) (us : List Value), Inv X pins σ H1 s → Vals vs us →
        wpAny (model X.prog X.w) X.A (evalAll ((backToKw q (keywordEach kws X.env)).map (·.2))) (fun ws s2 => X.K.In s2.heap ∧ wpAny (model X.prog X.w) X.A (PySem.call (.ref (N.fa f)) ([] ++ us) (((backToKw q (keywordEach kws X.env)).filterMap (·.1)).zip ws)) (EP X pins σ Q) X.xe s2) X.xe s := by
      intro vs H1 ds g1 I1 rs1 R1 er1 r1 el ok1 pins s us J rv
      have w := wk_mono ((hk S).2 h7 h6 R1 er1 ok1.first') fun zs H2 ⟨ws, g2, I2, rs2, e0, e2, R2, r2, ok2⟩ => (show ∃ ws g2 I2 rs2, evs T cf ks env g1 = PC.R.ok ws g2 ∧ Ext I1 rs1 H1 I2 rs2 H2 ∧ Rel N L I2 rs2 g2 H2 ∧ VRs N I2 rs2 ws zs ∧ OkV N L I2 rs2 H2 W Q (cf f (ds ++ ws) g2) from ⟨ws, g2, I2, rs2, e0, e2, R2, r2, ok2⟩)
      refine thn (w q pins s J) fun us2 s2 ⟨zs, H2, J2, rz, ws, g2, I2, rs2, e0, e2, R2, r2, ok2⟩ => ⟨J2.kIn, ?_⟩
      have l1 := evs_len h7 h6 e0
      obtain ⟨f1, f2⟩ := fin us us2 (by rw [← rv.length, ← r1.length, el]) (by rw [← rz.length, ← r2.length, l1, List.length_map]) rfl
      have c := S.cp R2 ((e2.vrs r1).append r2) ok2 us.length pins s2 σ (us ++ us2) J2 (rv.append rz)
      rw [f1, f2] at c
      exact c
    cases es with
    | nil =>
      have := chs_nil h4
      subst this
      refine fun pins s J => wpAny_Call_Name_kw (ld_glob J b1 c1 ?_ b2)
      refine PySem.W.callWith_KW0 (h₀ := X.base) J.ok.mod.kin c2 k1 (run [] H [] g I rs R er .nil rfl ok pins s [] J .nil) ?_
      show (false || (backToKw q (keywordEach kws X.env)).any (·.1.isNone)) = false
      rw [k3]; rfl
    | cons e es =>
      have hn := h3
      simp only [noSt, List.all_cons, Bool.and_eq_true] at h3
      have w := wa_mono ((ha S).1 h4 R er ok.first') fun vs H1 ⟨ds, g1, I1, rs1, e0, e1, R1, r1, ok1⟩ => (show ∃ ds g1 I1 rs1, evs T cf as env g = PC.R.ok ds g1 ∧ Ext I rs H I1 rs1 H1 ∧ Rel N L I1 rs1 g1 H1 ∧ VRs N I1 rs1 ds vs ∧ OkV N L I1 rs1 H1 W Q ((evs T cf ks env g1).bind fun ws g2 => cf f (ds ++ ws) g2) from ⟨ds, g1, I1, rs1, e0, e1, R1, r1, ok1⟩)
      refine fun pins s J => wpAny_Call_Name_kw (ld_glob J b1 c1 ?_ b2)
      refine PySem.W.callWith_KW (h₀ := X.base) J.ok.mod.kin c2 k1 (thn (w q pins s J) fun us s1 ⟨vs, H1, J1, rv, ds, g1, I1, rs1, e0, e1, R1, r1, ok1⟩ => run vs H1 ds g1 I1 rs1 R1 (er.after e1) r1 (evs_len h4 hn e0) ok1 pins s1 us J1 rv) ?_ (star_eq h3.1)
      rw [star_any hn, k3]; rfl
  · exact Bool.noConfusion h
/-! ### built-in functions -/
theorem sv_bi {b : Bi} {as : List E} (ha : SAp N P B T cf k ns as) : SVp N P B T cf k ns (.bi b as) := by
  intro s0 sc W X S e h env g σ L I rs H Q R er ok
  have ok : OkV N L I rs H W Q ((evs T cf as env g).bind fun vs g1 => biD g1 b vs) := ok
  simp only [chM, Ck.of] at h
  split at h
  · rename_i x p a es q
    simp only [Bool.and_eq_true, beq_iff_eq] at h
    obtain ⟨⟨rfl, h2⟩, h3, h4⟩ := h
    obtain ⟨b1, b2, b3, b4⟩ := bl_of S h2
    simp only [noSt, List.all_cons, Bool.and_eq_true] at h3
    have key : WA X (a :: es) σ H (fun vs H1 => RC X (biV b) vs H1 Q) := ha.go S h4 R er ok fun vs H1 ds g1 I1 rs1 R1 er1 e1 r1 ok1 => bi_ok S.F R1 r1 ok1
    cases b <;> first
      | exact we_of (pe_callB rc_op b1 b2 (by decide +kernel) wa b3 b4 (star_eq h3.1) (star_any h3.2)) key
      | exact we_of (pe_callTy rc_op b1 b2 (by decide +kernel) wa b3 b4 (star_eq h3.1) (star_any h3.2)) key
  · exact Bool.noConfusion h
theorem boot_ty (t : Ty) (h : ∀ c, t ≠ .cls c) : bootBuiltins (Str.ofString (tyN t)) = some (.type (tyN t)) := by
  cases t <;> first | exact absurd rfl (h _) | decide +kernel
theorem tyB_of (S : XS N P B T cf k ns s0 sc W X) {t : Ty} {e : Expr} (h : tyB N.toNz sc t e = true) : (∀ c, t ≠ .cls c) ∧ PE X e (tC (.ty (tyN t))) := by
  unfold tyB at h
  split at h
  · exact Bool.noConfusion h
  · rename_i hn
    simp only [Bool.and_eq_true, beq_iff_eq] at h
    obtain ⟨h1, rfl⟩ := h
    obtain ⟨b1, b2, b3, b4⟩ := bl_of S h1
    have hc : ∀ c, t ≠ .cls c := fun c e => hn c e
    exact ⟨hc, pe_bltn b1 b2 (boot_ty t hc) rfl b3 b4⟩
  · exact Bool.noConfusion h
theorem sv_isi {ts : List Ty} {a : E} (ha : SVp N P B T cf k ns a) : SVp N P B T cf k ns (.isi ts a) := by
  intro s0 sc W X S e h env g σ L I rs H Q R er ok
  have ok : OkV N L I rs H W Q (((evM T cf a).v env g).bind fun x g1 => opt ((anyTy T g1 x ts).map .bl) g1) := ok
  simp only [chM, Ck.of] at h
  split at h
  · rename_i x p a' c q
    simp only [Bool.and_eq_true, beq_iff_eq] at h
    obtain ⟨⟨rfl, h2⟩, ⟨h3, h4⟩, h5⟩ := h
    obtain ⟨b1, b2, b3, b4⟩ := bl_of S h2
    cases c with
    | Name y p2 =>
      cases ts with
      | nil => exact Bool.noConfusion h4
      | cons t ts =>
        cases ts with
        | cons _ _ => exact Bool.noConfusion h4
        | nil =>
          obtain ⟨hc, pc⟩ := tyB_of S (show tyB N.toNz sc t (.Name y p2) = true from h4)
          refine we_of (pe_callB (call_isi) b1 b2 (by decide +kernel) (pa_cons we (pa_cons pc pa_nil rfl) (star_eq h3)) b3 b4 (star_eq h3) rfl) ?_
          refine ha.go S h5 R er ok fun v1 H1 d1 g1 I1 rs1 R1 er1 e1 r1 ok1 => ?_
          obtain ⟨z, hz, ok2⟩ := ok1.opt'
          simp only [Option.map_eq_some_iff] at hz
          obtain ⟨b, hb, rfl⟩ := hz
          have hb2 : isTyG T g1 t d1 = some b := by
            simp only [anyTy] at hb
            split at hb
            · rename_i p1 q1 e1 e2
              cases e2
              cases hb
              rw [Bool.or_false]; exact e1
            · cases hb
          obtain ⟨tv, k1, k2⟩ := is_ok hc hb2 R1 r1
          rw [← S.F.hK] at k1 k2
          exact ⟨v1, _, tv, _, b, rfl, .ty _, k1, k2, ok2.now R1 (.bl _)⟩
    | _ => exact Bool.noConfusion (show false = true by cases ts with | nil => exact h4 | cons t ts => cases ts <;> exact h4)
  · exact Bool.noConfusion h
/-! ### methods of built-in types -/
theorem few_of {es : List Expr} {pos : Pos} (h : noSt es = true) (hl : es.length < 29) : ((backTo pos (starEach es X.env)).all (fun x => !x.1) && (backToKw pos (keywordEach [] X.env)).all (fun x => x.1.isSome)
      && decide (es.length + ([] : List Keyword).length + (if ([] : List Keyword).isEmpty then 0 else 1) < 30)) = true := by
  rw [star_all h]
  simp [keywordEach, backToKw]
  omega
theorem bm_facts (m : Bm) (h : bmHas m = true) : PlainAttrs (bmTy m) ∧ Slot (bmTy m) (Str.ofString (bmN m)) (bmId m) ∧ typeOf (.builtin (bmId m)) = pure (.type "method_descriptor") := by
  cases m <;> first
    | exact ⟨PySem.F.plainAttrs_list, PySem.F.slot_list_append, PySem.F.type_list_append⟩
    | exact ⟨PySem.F.plainAttrs_list, PySem.F.slot_list_extend, PySem.F.type_list_extend⟩
    | exact ⟨PySem.F.plainAttrs_list, PySem.F.slot_list_pop, PySem.F.type_list_pop⟩
    | exact ⟨PySem.F.plainAttrs_list, PySem.F.slot_list_insert, PySem.F.type_list_insert⟩
    | exact ⟨PySem.F.plainAttrs_str, PySem.F.slot_str_join, PySem.F.type_str_join⟩
    | exact ⟨PySem.F.plainAttrs_str, PySem.F.slot_str_startswith, PySem.F.type_str_startswith⟩
    | exact ⟨PySem.F.plainAttrs_str, PySem.F.slot_str_endswith, PySem.F.type_str_endswith⟩
    | exact ⟨PySem.F.plainAttrs_str, PySem.F.slot_str_split, PySem.F.type_str_split⟩
    | exact ⟨PySem.F.plainAttrs_str, PySem.F.slot_str_strip, PySem.F.type_str_strip⟩
    | exact ⟨PySem.F.plainAttrs_str, PySem.F.slot_str_lstrip, PySem.F.type_str_lstrip⟩
    | exact ⟨PySem.F.plainAttrs_str, PySem.F.slot_str_upper, PySem.F.type_str_upper⟩
    | exact ⟨PySem.F.plainAttrs_str, PySem.F.slot_str_find, PySem.F.type_str_find⟩
    | exact ⟨PySem.F.plainAttrs_str, PySem.F.slot_str_rfind, PySem.F.type_str_rfind⟩
    | exact ⟨PySem.F.plainAttrs_str, PySem.F.slot_str_count, PySem.F.type_str_count⟩
    | exact ⟨PySem.F.plainAttrs_str, PySem.F.slot_str_index, PySem.F.type_str_index⟩
    | exact ⟨PySem.F.plainAttrs_str, PySem.F.slot_str_replace, PySem.F.type_str_replace⟩
    | exact ⟨PySem.F.plainAttrs_str, PySem.F.slot_str_partition, PySem.F.type_str_partition⟩
    | exact Bool.noConfusion h
theorem sv_bm {m : Bm} {o : E} {as : List E} (ho : SVp N P B T cf k ns o) (ha : SAp N P B T cf k ns as) : SVp N P B T cf k ns (.bm m o as) := by
  intro s0 sc W X S e h env g σ L I rs H Q R er ok
  have ok : OkV N L I rs H W Q (((evM T cf o).v env g).bind fun x g1 => match bmT g1 m x with
    | true => (evs T cf as env g1).bind fun vs g2 => bmD g2 m x vs
    | false => .stk) := ok
  simp only [chM, Ck.of] at h
  split at h
  · rename_i o' x ap es p
    simp only [Bool.and_eq_true, beq_iff_eq, decide_eq_true_eq] at h
    obtain ⟨⟨h0, rfl, h1, h2⟩, ⟨h3, h4⟩, h5, h6⟩ := h
    obtain ⟨f1, f2, f3⟩ := bm_facts m h0
    cases es with
    | nil =>
      have := chs_nil h6
      subst this
      refine we_of (pe_bm0 f1 f2 f3 rm_op we (ab_eq h1) (by rw [h2]; exact beq_self_eq_true _)) (ho.go S h5 R er ok fun v1 H1 d1 g1 I1 rs1 R1 er1 e1 r1 ok1 => ?_)
      cases ht : bmT g1 m d1 with
      | false => rw [ht] at ok1; exact ok1.elim
      | true =>
        rw [ht] at ok1
        exact ⟨bmT_ok S.F ht R1 r1, bm_ok S.F R1 r1 .nil ok1⟩
    | cons e es =>
      have hn := h3
      simp only [noSt, List.all_cons, Bool.and_eq_true] at h3
      refine we_of (pe_bm f1 f2 f3 rm_op we wa (ab_eq h1) (few_of hn h4) (by rw [h2]; exact beq_self_eq_true _) (star_eq h3.1) (star_any h3.2)) (ho.go S h5 R er ok fun v1 H1 d1 g1 I1 rs1 R1 er1 e1 r1 ok1 => ?_)
      cases ht : bmT g1 m d1 with
      | false => rw [ht] at ok1; exact ok1.elim
      | true =>
        rw [ht] at ok1
        exact ⟨bmT_ok S.F ht R1 r1, ha.go S h6 R1 er1 ok1 fun vs H2 ds g2 I2 rs2 R2 er2 e2 r2 ok2 => bm_ok S.F R2 (e2.vr r1) r2 ok2⟩
  · exact Bool.noConfusion h
/-! ### items, slices -/
theorem sv_sub {o i : E} (ho : SVp N P B T cf k ns o) (hi : SVp N P B T cf k ns i) : SVp N P B T cf k ns (.sub o i) := by
  intro s0 sc W X S e h env g σ L I rs H Q R er ok
  have ok : OkV N L I rs H W Q (((evM T cf o).v env g).bind fun x g1 => ((evM T cf i).v env g1).bind fun y g2 => opt (subD g2 x y) g2) := ok
  simp only [chM, Ck.of] at h
  split at h
  · simp only [Bool.and_eq_true] at h
    obtain ⟨h0, h1, h2⟩ := h
    refine we_of (pe_ix rix_op we we (ix_plain h0)) (ho.go S h1 R er ok fun v1 H1 d1 g1 I1 rs1 R1 er1 e1 r1 ok1 => hi.go S h2 R1 er1 ok1 fun v2 H2 d2 g2 I2 rs2 R2 er2 e2 r2 ok2 => ?_)
    obtain ⟨z, hz, ok3⟩ := ok2.opt'
    exact sub_ok S.F.hK S.F.hw S.F.hU hz R2 (e2.vr r1) r2 ok3.gd
  · exact Bool.noConfusion h
theorem wo : ∀ {e : Option Expr}, PO X e (WO X e) := ⟨fun pins s _ _ _ I h => h pins s I⟩
theorem wo_of {e : Option Expr} {t : TO} (h : PO X e t) {σ : L2.St} {H : Hp} {Q : Option Int → Hp → Prop} (q : t σ H Q) : WO X e σ H Q := fun pins s I => h.run pins s σ H Q I q
/-- a bound -/
theorem SVp.bnd {a : E} (h : SVp N P B T cf k ns a) (S : XS N P B T cf k ns s0 sc W X) {e : Option Expr} (hc : (chM N.toNz ns a).o s0 sc e = true) (R : Rel N L I rs g H) (er : ER N I rs env σ) {β δ : Type} {P2 : Hp → List Addr → β → δ → Prop} {Q2 : δ → Hp → Prop} {Q1 : Option Int → Hp → Prop} {kk : D → G → PC.R β}
    (ok : Ok N L P2 I rs H W Q2 (((evM T cf a).o env g).bind kk))
    (q : ∀ i H1 d g1 I1 rs1, bnd d = some i → Rel N L I1 rs1 g1 H1 → ER N I1 rs1 env σ → Ext I rs H I1 rs1 H1 → Ok N L P2 I1 rs1 H1 W Q2 (kk d g1) → Q1 i H1) : WO X e σ H Q1 := by
  have hn : (chM N.toNz ns a).nl = (evM T cf a).nl := by
    cases a <;> rfl
  unfold Ck.o at hc
  unfold Md.o at ok
  rw [← hn] at ok
  split at hc
  · rename_i e1
    rw [e1] at ok
    exact wo_of po_none (q none H .non g I rs rfl R er .refl ok)
  · rename_i e' e1
    rw [e1] at ok
    simp only [PC.R.bind_assoc] at ok
    refine wo_of (po_some we) (h.go S hc R er ok fun v1 H1 d1 g1 I1 rs1 R1 er1 e1 r1 ok1 => ?_)
    cases d1 with
    | int i =>
      cases r1
      exact ⟨i, rfl, q (some i) H1 (.int i) g1 I1 rs1 rfl R1 er1 e1 ok1⟩
    | _ => exact ok1.elim
  · exact Bool.noConfusion hc
theorem sv_slc {o lo hi : E} (ho : SVp N P B T cf k ns o) (hl : SVp N P B T cf k ns lo) (hh : SVp N P B T cf k ns hi) : SVp N P B T cf k ns (.slc o lo hi) := by
  intro s0 sc W X S e h env g σ L I rs H Q R er ok
  have ok : OkV N L I rs H W Q (((evM T cf o).v env g).bind fun x g1 => ((evM T cf lo).o env g1).bind fun y g2 => ((evM T cf hi).o env g2).bind fun z g3 => opt (slcD g3 x y z) g3) := ok
  simp only [chM, Ck.of] at h
  split at h
  · simp only [Bool.and_eq_true] at h
    obtain ⟨h0, h1, h2⟩ := h
    refine we_of (pe_slice rsl_op we wo wo) (ho.go S h0 R er ok fun v1 H1 d1 g1 I1 rs1 R1 er1 e1 r1 ok1 => hl.bnd S h1 R1 er1 ok1 fun i H2 d2 g2 I2 rs2 b2 R2 er2 e2 ok2 => hh.bnd S h2 R2 er2 ok2 fun j H3 d3 g3 I3 rs3 b3 R3 er3 e3 ok3 => ?_)
    obtain ⟨z, hz, ok4⟩ := ok3.opt'
    exact slc_ok S.F b2 b3 hz R3 (e3.vr (e2.vr r1)) ok4.gd
  · exact Bool.noConfusion h
theorem sv_rev {o : E} (ho : SVp N P B T cf k ns o) : SVp N P B T cf k ns (.rev o) := by
  intro s0 sc W X S e h env g σ L I rs H Q R er ok
  have ok : OkV N L I rs H W Q (((evM T cf o).v env g).bind fun x g1 => match top g1 x with | .lst l => .ok (.lst l.reverse) g1 | _ => .stk) := ok
  simp only [chM, Ck.of] at h
  split at h
  · simp only [Bool.and_eq_true, beq_iff_eq] at h
    obtain ⟨rfl, h1⟩ := h
    refine we_of (pe_revL we) (ho.go S h1 R er ok fun v1 H1 d1 g1 I1 rs1 R1 er1 e1 r1 ok1 => ?_)
    split at ok1
    · rename_i l q
      obtain ⟨a, vs, rfl, h2, h3⟩ := R1.lst r1 q
      exact ⟨a, vs, rfl, by rw [S.F.hK]; exact h2.sq, fun p hp => ok1.gd.lst R1 h3.reverse hp⟩
    · exact ok1.elim
  · exact Bool.noConfusion h
end
end PC
end
section
set_option maxHeartbeats 4000000
namespace PC
open PySem L2 PyProof.Rows
section
variable {N : Nm} {P : Program} {B : Heap} {T : Tab} {cf : CF} {k : Nat} {ns : List Str}
variable {s0 sc : Scope} {W : XK} {X : Cx} {L L1 I I1 I2 : Hp} {rs rs1 rs2 : List Addr} {g g1 : G} {H H1 H2 : Hp} {Q : VK} {x y z : D} {u v : V} {env : Env} {σ : L2.St}
theorem sv_tup {as : List E} (ha : SAp N P B T cf k ns as) : SVp N P B T cf k ns (.tup as) := by
  intro s0 sc W X S e h env g σ L I rs H Q R er ok
  have ok : OkV N L I rs H W Q ((evs T cf as env g).bind fun vs g1 => if decide (vs.length ≤ LIM) then .ok (.tup vs) g1 else .stk) := ok
  simp only [chM, Ck.of] at h
  split at h
  · refine we_of (pe_tup wa) (ha.go S h R er ok fun vs H1 ds g1 I1 rs1 R1 er1 e1 r1 ok1 => ?_)
    split at ok1
    · rename_i hl
      have hl : ds.length ≤ LIM := by simpa using hl
      exact ⟨by rw [← r1.length]; exact lim_line hl, fun p hp => ok1.gd.tup R1 r1 hp⟩
    · exact ok1.elim
  · exact Bool.noConfusion h
/-- a new list -/
theorem mk_ok {h : Bool} {l : List D} {vs : List V} (R : Rel N L I rs g H) (hv : VRs N I rs l vs) (ok : OkV N L I rs H W Q (mkL h l g)) : vs.length ≤ sizeLine ∧ ∀ p, H p = none → Q (.ref p) (upd H p (.lst vs)) := by
  unfold mkL at ok
  split at ok
  · rename_i hl
    have hl : l.length ≤ LIM := by simpa using hl
    refine ⟨by rw [← hv.length]; exact lim_line hl, fun p hp => ?_⟩
    cases h with
    | false => exact ok.gd.lst R hv hp
    | true =>
      have pre : rs <+: rs ++ [p] := List.prefix_append _ _
      obtain ⟨R1, E1⟩ := R.new (c := .lst l) hp ⟨R.lsub.free hp, R.sub.free hp, vs, upd_same, hv.mono (Same.refl _) pre, hl⟩
      exact ok _ _ _ _ E1 R1 (.ref (by rw [← R.len, List.getElem?_append_right (Nat.le_refl _)]; simp))
  · exact ok.elim
theorem sv_lst {h : Bool} {as : List E} (ha : SAp N P B T cf k ns as) : SVp N P B T cf k ns (.lst h as) := by
  intro s0 sc W X S e hh env g σ L I rs H Q R er ok
  have ok : OkV N L I rs H W Q ((evs T cf as env g).bind fun vs g1 => mkL h vs g1) := ok
  simp only [chM, Ck.of] at hh
  split at hh
  · exact we_of (pe_lst wa) (ha.go S hh R er ok fun vs H1 ds g1 I1 rs1 R1 er1 e1 r1 ok1 => mk_ok R1 r1 ok1)
  · exact Bool.noConfusion hh
theorem sv_frz {a : E} (ha : SVp N P B T cf k ns a) : SVp N P B T cf k ns (.frz a) := by
  intro s0 sc W X S e h env g σ L I rs H Q R er ok
  have ok : OkV N L I rs H W Q (((evM T cf a).v env g).bind fun x g1 => frzD x g1) := ok
  have h : (chM N.toNz ns a).v s0 sc e = true := h
  refine ha.go S h R er ok fun v1 H1 d1 g1 I1 rs1 R1 er1 e1 r1 ok1 => ?_
  unfold frzD at ok1
  split at ok1
  · rename_i i
    cases r1 with
    | @ref _ a hi =>
      split at ok1
      · rename_i l q
        obtain ⟨hL, hI, vs, h2, h3, hz⟩ := R1.cell _ _ _ hi q
        obtain ⟨R2, E2⟩ := R1.frz hi hI hL h2
        exact ok1 _ _ _ _ E2 R2 (.lst (.inl (.inl upd_same)) (E2.vrs h3))
      · rename_i ks ds q
        obtain ⟨hL, hI, kvs, h2, h3, h4, h5, hz⟩ := R1.cell _ _ _ hi q
        obtain ⟨R2, E2⟩ := R1.frz hi hI hL h2
        exact ok1 _ _ _ _ E2 R2 (.dct upd_same h3 h4 (E2.vrs h5))
      · exact ok1.elim
  · exact ok1.elim
/-! ### dict displays -/
theorem kc_of {o : Option Expr} {k0 : DK} (h : kcB k0 o = true) : ∃ kx, o = some kx ∧ PE X kx (tC (kV (key k0))) := by
  unfold kcB at h
  split at h
  · have := eq_of_beq h
    subst this
    exact ⟨_, rfl, pe_int⟩
  · rename_i x y _ _
    have := eq_of_beq h
    subst this
    refine ⟨_, rfl, ?_⟩
    show PE X _ (tC (.str (st y.cps.toList)))
    rw [st_of]
    exact pe_str
  · exact Bool.noConfusion h
theorem st_no {z : Nz} {a : E} {e : Expr} (h : (match (chM z ns a).st, e with
      | true, .Starred e' _ => (chM z ns a).v s0 sc e'
      | false, e => nstB e && (chM z ns a).v s0 sc e
      | _, _ => false) = true) (hn : nstB e = true) : (evM T cf a).st = false ∧ (chM z ns a).v s0 sc e = true := by
  have e1 : (chM z ns a).st = (evM T cf a).st := by cases a <;> rfl
  rw [← e1]
  cases q : (chM z ns a).st with
  | true =>
    rw [q] at h
    cases e <;> first | exact Bool.noConfusion h | exact Bool.noConfusion hn
  | false =>
    rw [q] at h
    refine ⟨rfl, ?_⟩
    have h : (nstB e && (chM z ns a).v s0 sc e) = true := by cases e <;> exact h
    rw [hn, Bool.true_and] at h
    exact h
/-- the pairs of a display -/
theorem pairs_ok (S : XS N P B T cf k ns s0 sc W X) {pos : Pos} : ∀ {ks : List DK} {as : List E} {ks' : List (Option Expr)} {es : List Expr}, (∀ a ∈ as, SVp N P B T cf k ns a) → dkB ks ks' = true → ks'.length = es.length → chs N.toNz ns as s0 sc es = true → noSt es = true →
    ∃ trs, PPs X pos ks' es trs ∧ ks'.all (·.isSome) = true ∧ ∀ {env : Env} {g : G} {σ : L2.St} {L I : Hp} {rs : List Addr} {H : Hp} {Q : List (V × V) → Hp → Prop}, Rel N L I rs g H → ER N I rs env σ →
      OkVs N L I rs H W (fun vs H1 => ∀ kvs : List (Key × V), kvs.map (·.1) = ks.map key → kvs.map (·.2) = vs → Q (kvs.map fun kv => (kV kv.1, kv.2)) H1) (evs T cf as env g) → tPairs trs σ H Q
  | [], as, [], es, ha, h1, h2, h3, h4 => by
    have : es = [] := by cases es with | nil => rfl | cons _ _ => simp at h2
    subst this
    have := chs_nil h3
    subst this
    exact ⟨[], pps_nil, rfl, fun R er ok => (show OkVs N _ _ _ _ W _ (.ok [] _) from ok) _ _ _ _ .refl R .nil [] rfl rfl⟩
  | [], as, _ :: _, es, ha, h1, h2, h3, h4 => by simp [dkB] at h1
  | k0 :: ks, as, [], es, ha, h1, h2, h3, h4 => by simp [dkB] at h1
  | k0 :: ks, as, o :: ks', [], ha, h1, h2, h3, h4 => by simp at h2
  | k0 :: ks, [], o :: ks', e :: es, ha, h1, h2, h3, h4 => by simp [chs] at h3
  | k0 :: ks, a :: as, o :: ks', e :: es, ha, h1, h2, h3, h4 => by
    simp only [noSt, List.all_cons, Bool.and_eq_true] at h4
    simp only [chs, Bool.and_eq_true] at h3
    simp only [dkB, Bool.and_eq_true] at h1
    obtain ⟨hs2, hv⟩ := st_no (T := T) (cf := cf) h3.1 h4.1
    obtain ⟨kx, rfl, pk⟩ := kc_of (X := X) h1.1
    obtain ⟨trs, p1, p2, p3⟩ := pairs_ok S (pos := pos) (fun b hb => ha b (List.mem_cons_of_mem _ hb)) h1.2 (by simpa using h2) h3.2 (by simpa [noSt] using h4.2)
    refine ⟨_, pps_cons pk we p1, by simpa using p2, fun {env g σ L I rs H Q} R er ok => ?_⟩
    have ok : OkVs N L I rs H W (fun vs H1 => ∀ kvs : List (Key × V), kvs.map (·.1) = (k0 :: ks).map key → kvs.map (·.2) = vs → Q (kvs.map fun kv => (kV kv.1, kv.2)) H1) (((evM T cf a).v env g).bind fun x g1 => match (evM T cf a).st with
      | true => (match seqD g1 x with
        | some xs => (evs T cf as env g1).bind fun ys g2 => .ok (xs ++ ys) g2
        | none => .stk)
      | false => (evs T cf as env g1).bind fun ys g2 => .ok (x :: ys) g2) := ok
    rw [hs2] at ok
    have hva : SVp N P B T cf k ns a := ha a List.mem_cons_self
    refine SVp.go hva S hv R er ok fun v1 H1 d1 g1 I1 rs1 R1 er1 e1 r1 ok1 => p3 R1 er1 ?_
    cases q : evs T cf as env g1 with
    | exc x g => rw [q] at ok1; exact ok1
    | stk => rw [q] at ok1; exact ok1
    | ok ds gd =>
      rw [q] at ok1
      exact fun I' rs' H' b E R' r' kvs q1 q2 => ok1 I' rs' H' (v1 :: b) E R' (.cons (E.vr r1) r') ((key k0, v1) :: kvs) (by simp [q1]) (by simp [q2])
theorem Ext.under {p : Addr} {o : HO} (E : Ext I rs (upd H p o) I1 rs1 H1) (hp : H p = none) : Ext I rs H I1 rs1 H1 := by
  have back : ∀ a, upd H p o a = none → H a = none := fun a z => by
    by_cases q : a = p
    · subst q; exact hp
    · rw [upd_ne q] at z; exact z
  refine ⟨E.i, E.r, fun a u h n => E.fr a u (by rw [upd_ne (ne_of_none h hp)]; exact h) n, fun a h => (E.new a h).imp id (back a), fun a u h => ?_⟩
  rcases E.inew a u h with z | z | z
  · exact .inl z
  · exact .inr (.inl (back a z))
  · exact .inr (.inr z)
theorem merge_nd : ∀ (kvs acc : List (Key × V)), ((acc ++ kvs).map (·.1)).Nodup → mergeK acc kvs = acc ++ kvs
  | [], acc, _ => by simp [mergeK]
  | p :: r, acc, h => by
    have hn : ¬ (acc.any fun kv => decide (kv.1 = p.1)) = true := by
      intro z
      rw [List.any_eq_true] at z
      obtain ⟨q, hq, e⟩ := z
      have e : q.1 = p.1 := by simpa using e
      rw [List.map_append, List.nodup_append] at h
      exact h.2.2 q.1 (List.mem_map_of_mem hq) p.1 (by simp) e
    have e : putK acc p.1 p.2 = acc ++ [p] := by
      unfold putK
      rw [if_neg hn]
    show mergeK (putK acc p.1 p.2) r = _
    rw [e, merge_nd r (acc ++ [p]) (by simpa using h)]
    simp
theorem key_nd : ∀ {ks : List DK}, ks.Nodup → (ks.map key).Nodup
  | [], _ => List.nodup_nil
  | a :: ks, h => by
    rw [List.nodup_cons] at h
    rw [List.map_cons, List.nodup_cons]
    refine ⟨fun z => ?_, key_nd h.2⟩
    obtain ⟨b, hb, e⟩ := List.mem_map.mp z
    exact h.1 (key_inj e ▸ hb)
theorem sv_dct {h : Bool} {ks : List DK} {as : List E} (ha : ∀ a ∈ as, SVp N P B T cf k ns a) : SVp N P B T cf k ns (.dct h ks as) := by
  intro s0 sc W X S e hh env g σ L I rs H Q R er ok
  have ok : OkV N L I rs H W Q ((evs T cf as env g).bind fun vs g1 =>
    if decide (vs.length = ks.length ∧ ks.Nodup ∧ ks.length ≤ 15) then (if h then .ok (.ref g1.length) (g1 ++ [.dct ks vs]) else .ok (.dct ks vs) g1) else .stk) := ok
  simp only [chM, Ck.of] at hh
  -- the end, by the pairs
  have fin : ∀ {p : Addr} {o : HO} {ds : List D} {g1 : G} {I1 : Hp} {rs1 : List Addr} {H1 : Hp} {kvs : List (Key × V)}, H p = none → Ext I rs H I1 rs1 H1 → Rel N L I1 rs1 g1 H1 → H1 p = some o → p ∉ rs1 → I1 p = none → VRs N I1 rs1 ds (kvs.map (·.2)) → kvs.map (·.1) = ks.map key → ks.Nodup → ks.length ≤ 15 →
      OkV N L I rs H W Q (if h then .ok (.ref g1.length) (g1 ++ [.dct ks ds]) else .ok (.dct ks ds) g1) → Q (.ref p) (upd H1 p (.dK kvs)) := by
    intro p o ds g1 I1 rs1 H1 kvs hp E1 R1 ho hn hI hv hk nd hl ok
    have hL : L p = none := R.lsub.free hp
    have R2 : Rel N L I1 rs1 g1 (upd H1 p (.dK kvs)) := R1.hid hn hI hL
    have E2 : Ext I rs H I1 rs1 (upd H1 p (.dK kvs)) := E1.hid hp
    cases h with
    | false =>
      exact ok _ _ _ _ (E2.adopt hp hI) (R2.adopt hn hI upd_same) (.dct upd_same hk nd (hv.mono (fun b u e => by rw [upd_ne (ne_of_none e hI)]; exact e) (List.prefix_refl _)))
    | true =>
      have hc : CR N L I1 (rs1 ++ [p]) (upd H1 p (.dK kvs)) p (.dct ks ds) := ⟨hL, hI, kvs, upd_same, hk, nd, hv.mono (Same.refl _) (List.prefix_append _ _), Nat.le_trans hl (by decide)⟩
      exact ok _ _ _ _ (E2.cellNew hp) (R2.cellNew hn upd_same hc) (.ref (by rw [← R2.len, List.getElem?_append_right (Nat.le_refl _)]; simp))
  have np : ∀ {p : Addr}, H p = none → p ∉ rs := fun {p} hp hm => by
    obtain ⟨u, e⟩ := R.trk p hm
    rw [hp] at e; cases e
  split at hh
  · rename_i ks' es q
    simp only [Bool.and_eq_true, decide_eq_true_eq] at hh
    obtain ⟨⟨h1, h2, h15'⟩, h3, h4⟩ := hh
    cases ks' with
    | nil =>
      have : es = [] := by cases es with | nil => rfl | cons _ _ => simp at h2
      subst this
      have := chs_nil h4
      subst this
      have hk : ks = [] := by cases ks with | nil => rfl | cons _ _ => simp [dkB] at h1
      subst hk
      have ok : OkV N L I rs H W Q (if h then .ok (.ref g.length) (g ++ [.dct [] []]) else .ok (.dct [] []) g) := ok
      refine we_of pe_dnewK fun p hp => ?_
      have R1 : Rel N L I rs g (upd H p (.dK [])) := R.hid (np hp) (R.sub.free hp) (R.lsub.free hp)
      have := fin (o := .dK []) (kvs := []) hp (Ext.refl.hid hp) R1 upd_same (np hp) (R.sub.free hp) .nil rfl List.nodup_nil (by simp) ok
      have e : upd (upd H p (.dK [])) p (.dK []) = upd H p (.dK []) := by
        funext b
        by_cases z : b = p
        · subst z; rw [upd_same, upd_same]
        · rw [upd_ne z]
      rw [e] at this
      exact this
    | cons o ks' =>
      obtain ⟨trs, p1, p2, p3⟩ := pairs_ok S (pos := q) ha h1 h2 h4 h3
      have hkl : (o :: ks').length = ks.length := by
        have : ∀ (a : List DK) (b : List (Option Expr)), dkB a b = true → b.length = a.length := by
          intro a
          induction a with
          | nil => intro b; cases b <;> simp [dkB]
          | cons c a ih =>
            intro b
            cases b with
            | nil => simp [dkB]
            | cons d b => intro z; simp only [dkB, Bool.and_eq_true] at z; simp [ih b z.2]
        exact this _ _ h1
      have h15 : ks.length ≤ 15 := by rw [← hkl]; exact h15'
      · refine we_of (pe_disp p1 p2 h2 (by simp) (by rw [hkl]; exact h15)) fun p hp => ?_
        have hI := R.sub.free hp
        have R1 : Rel N L I rs g (upd H p (.dK [])) := R.hid (np hp) hI (R.lsub.free hp)
        refine p3 R1 er ?_
        cases qe : evs T cf as env g with
        | stk => rw [qe] at ok; exact ok
        | exc x gx =>
          rw [qe] at ok
          exact fun I' rs' H' c d E R' x' => ok I' rs' H' c d (E.under hp) R' x'
        | ok ds gd =>
          rw [qe] at ok
          intro I' rs' H' vs E R' r' kvs q1 q2
          obtain ⟨u1, u2, u3⟩ := E.unk upd_same (np hp) hI
          refine ⟨u1, kvs, rfl, ?_, ?_⟩
          · have := congrArg List.length q1
            simp only [List.length_map] at this
            omega
          · simp only [PC.R.bind] at ok
            split at ok
            · rename_i hc
              have hc : ds.length = ks.length ∧ ks.Nodup ∧ ks.length ≤ 15 := by simpa using hc
              rw [merge_nd kvs [] (by rw [List.nil_append, q1]; exact key_nd hc.2.1), List.nil_append]
              exact fin hp (E.under hp) R' u1 u2 u3 (by rw [q2]; exact r') q1 hc.2.1 hc.2.2 ok
            · exact ok.elim
  · exact Bool.noConfusion hh
end
end PC
end
section
set_option maxHeartbeats 4000000
namespace PC
open PySem L2 PyProof.Rows
section
variable {N : Nm} {P : Program} {B : Heap} {T : Tab} {cf : CF} {k : Nat} {ns : List Str}
variable {s0 sc : Scope} {W : XK} {X : Cx} {L L1 I I1 I2 : Hp} {rs rs1 rs2 : List Addr} {g g1 : G} {H H1 H2 : Hp} {Q : VK} {x y z : D} {u v : V} {env : Env} {σ : L2.St}
theorem st_not {a : E} (ha : STp N P B T cf k ns a) : STp N P B T cf k ns (.not_ a) := by
  intro s0 sc W X S e h env g σ L I rs H Q R er ok
  have ok : OkB N L I rs H W Q (((evM T cf a).t env g).bind fun t g1 => .ok (!t) g1) := ok
  simp only [chM, Ck.of] at h
  split at h
  · exact wt_of (pt_not wt) (ha.go S h R er ok fun b H1 g1 I1 rs1 R1 er1 e1 ok1 => ok1.bl R1)
  · exact Bool.noConfusion h
theorem bool_whole {op : PySem.BoolOp} {es : List Expr} {pos : Pos} {env : PySem.Env} (w1 w2 : Sem Value) : isTrue (.BoolOp op es pos) env w1 = isTrue (.BoolOp op es pos) env w2 := rfl
theorem pw_of {op : PySem.BoolOp} {es : List Expr} {pos : Pos} {t : TT} (h : PT X (.BoolOp op es pos) t) : PW X (.BoolOp op es pos) t := ⟨fun wh pins s σ H Q I q => by
  rw [bool_whole wh (eval (.BoolOp op es pos) X.env)]
  exact h.run pins s σ H Q I q⟩
theorem st_and {a b : E} (ha : STp N P B T cf k ns a) (hb : STp N P B T cf k ns b) : STp N P B T cf k ns (.and_ a b) := by
  intro s0 sc W X S e h env g σ L I rs H Q R er ok
  have ok : OkB N L I rs H W Q (((evM T cf a).t env g).bind fun t g1 => match t with | true => (evM T cf b).t env g1 | false => .ok false g1) := ok
  simp only [chM, Ck.of] at h
  split at h
  · rename_i a' rest p
    simp only [Bool.and_eq_true] at h
    obtain ⟨h1, h2⟩ := h
    have key : ∀ {e2 : Expr}, (∀ {g1 : G} {I1 : Hp} {rs1 : List Addr} {H1 : Hp}, Rel N L I1 rs1 g1 H1 → ER N I1 rs1 env σ → OkB N L I1 rs1 H1 W Q ((evM T cf b).t env g1) → WT X e2 σ H1 Q) → tAnd (WT X a') (WT X e2) σ H Q := by
      intro e2 w
      refine ha.go S h1 R er ok fun t H1 g1 I1 rs1 R1 er1 e1 ok1 => ?_
      cases t with
      | true => rw [if_pos rfl]; exact w R1 er1 ok1
      | false => rw [if_neg Bool.false_ne_true]; exact ok1.bl R1
    cases rest with
    | nil => exact Bool.noConfusion h2
    | cons b' r =>
      cases r with
      | nil => exact wt_of (pw_and wt (pw_and1 wt)).pt (key fun R1 er1 ok1 => hb S h2 R1 er1 ok1)
      | cons c' r => exact wt_of (pw_and wt (pw_of wt)).pt (key fun R1 er1 ok1 => hb S h2 R1 er1 ok1)
  · exact Bool.noConfusion h
theorem st_or {a b : E} (ha : STp N P B T cf k ns a) (hb : STp N P B T cf k ns b) : STp N P B T cf k ns (.or_ a b) := by
  intro s0 sc W X S e h env g σ L I rs H Q R er ok
  have ok : OkB N L I rs H W Q (((evM T cf a).t env g).bind fun t g1 => match t with | true => .ok true g1 | false => (evM T cf b).t env g1) := ok
  simp only [chM, Ck.of] at h
  split at h
  · rename_i a' rest p
    simp only [Bool.and_eq_true] at h
    obtain ⟨h1, h2⟩ := h
    have key : ∀ {e2 : Expr}, (∀ {g1 : G} {I1 : Hp} {rs1 : List Addr} {H1 : Hp}, Rel N L I1 rs1 g1 H1 → ER N I1 rs1 env σ → OkB N L I1 rs1 H1 W Q ((evM T cf b).t env g1) → WT X e2 σ H1 Q) → tOr (WT X a') (WT X e2) σ H Q := by
      intro e2 w
      refine ha.go S h1 R er ok fun t H1 g1 I1 rs1 R1 er1 e1 ok1 => ?_
      cases t with
      | true => rw [if_pos rfl]; exact ok1.bl R1
      | false => rw [if_neg Bool.false_ne_true]; exact w R1 er1 ok1
    cases rest with
    | nil => exact Bool.noConfusion h2
    | cons b' r =>
      cases r with
      | nil => exact wt_of (pw_or wt (pw_or1 wt)).pt (key fun R1 er1 ok1 => hb S h2 R1 er1 ok1)
      | cons c' r => exact wt_of (pw_or wt (pw_of wt)).pt (key fun R1 er1 ok1 => hb S h2 R1 er1 ok1)
  · exact Bool.noConfusion h
/-! ### ranges -/
theorem OkI.first' {α γ : Type} {P1 : Hp → List Addr → α → γ → Prop} {Q : It → Hp → Prop} {r : PC.R α} {k : α → G → PC.R (List D × Option Nat)}
    (ok : OkI N L I rs H W Q (r.bind k)) : Ok N L P1 I rs H W (fun b H1 => ∃ a g1 I1 rs1, r = .ok a g1 ∧ Ext I rs H I1 rs1 H1 ∧ Rel N L I1 rs1 g1 H1 ∧ P1 I1 rs1 a b ∧ OkI N L I1 rs1 H1 W Q (k a g1)) r := by
  cases r with
  | ok a g => exact fun I' rs' H' b e R p => ⟨a, g, I', rs', rfl, e, R, p, ok.after e⟩
  | exc x g => exact ok
  | stk => exact ok
theorem si_range {as : List E} (ha : SAp N P B T cf k ns as) : SIp N P B T cf k ns (.range as) := by
  intro s0 sc W X S e h tg env g σ L I rs H Q R er ok
  have ok : OkI N L I rs H W Q ((evs T cf as env g).bind fun vs g1 => rangeR vs g1) := ok
  simp only [chM, Ck.it] at h
  split at h
  · rename_i x p es q
    simp only [Bool.and_eq_true, beq_iff_eq] at h
    obtain ⟨⟨rfl, h2⟩, h3, h4, h5⟩ := h
    obtain ⟨b1, b2, b3, b4⟩ := bl_of S h2
    refine ⟨?_, ns_fold rfl⟩
    cases es with
    | nil => simp at h4
    | cons a es =>
      have hn := h3
      simp only [noSt, List.all_cons, Bool.and_eq_true] at h3
      have w := wa_mono ((ha S).1 h5 R er (OkI.first' ok)) fun vs H1 ⟨ds, g1, I1, rs1, e0, e1, R1, r1, ok1⟩ => (show ∃ (ds : List D) (g1 : G) (I1 : Hp) (rs1 : List Addr), ds.length = (a :: es).length ∧ Rel N L I1 rs1 g1 H1 ∧ VRs N I1 rs1 ds vs ∧ OkI N L I1 rs1 H1 W Q (rangeR ds g1) from ⟨ds, g1, I1, rs1, evs_len h5 hn e0, R1, r1, ok1⟩)
      cases es with
      | nil =>
        refine wi_of (pi_range1 b1 b2 wa (star_eq h3.1)) (wa_mono w fun vs H1 ⟨ds, g1, I1, rs1, el, R1, r1, ok1⟩ => ?_)
        unfold rangeR at ok1
        split at ok1
        · split at ok1
          · rename_i n hc
            have hc : -4611686018427387904 ≤ n ∧ n < 4611686018427387904 := by simpa using hc
            obtain ⟨w, rfl, hw⟩ := v1 r1
            cases hw
            exact ⟨n, rfl, by omega, by omega, ok1 _ _ _ _ L .refl R1 (.inl ⟨rfl, rfl⟩) wk_range⟩
          · exact ok1.elim
        · simp at el
        · exact ok1.elim
      | cons b es =>
        cases es with
        | cons _ _ => simp at h4
        | nil =>
          have hb2 : nstB b = true := by simpa using h3.2
          refine wi_of (pi_range2 b1 b2 wa (by rw [star_eq h3.1, star_eq hb2]; rfl) (by rw [star_eq hb2]; rfl)) (wa_mono w fun vs H1 ⟨ds, g1, I1, rs1, el, R1, r1, ok1⟩ => ?_)
          unfold rangeR at ok1
          split at ok1
          · simp at el
          · split at ok1
            · rename_i a b hc
              have hc : -4611686018427387904 ≤ a ∧ a < 4611686018427387904 ∧ -4611686018427387904 ≤ b ∧ b < 4611686018427387904 := by simpa using hc
              obtain ⟨w, w2, rfl, hw, hw2⟩ := v2 r1
              cases hw; cases hw2
              exact ⟨a, b, rfl, by omega, ok1 _ _ _ _ L .refl R1 (.inl ⟨rfl, rfl⟩) wk_range⟩
            · exact ok1.elim
          · exact ok1.elim
  · exact Bool.noConfusion h
/-! ### comprehensions -/
theorem WTs.of (S : XS N P B T cf k ns s0 sc W X) {a : E} (ha : STp N P B T cf k ns a) {es : List Expr} (hc : (chM N.toNz ns a).c s0 sc es = true) (R : Rel N L I rs g H) (er : ER N I rs env σ) {Q : Bool → Hp → Prop}
    (ok : OkB N L I rs H W Q ((evM T cf a).c env g)) : WTs X es σ H Q := by
  have hn : (chM N.toNz ns a).nl = (evM T cf a).nl := by cases a <;> rfl
  unfold Ck.c at hc
  unfold Md.c at ok
  rw [← hn] at ok
  split at hc
  · rename_i e1
    rw [e1] at ok
    exact wts_of pts_nil (Ok.bl R ok)
  · rename_i e' e1
    rw [e1] at ok
    exact wts_of (pts_one wt) (ha S hc R er ok)
  · exact Bool.noConfusion hc
theorem own_ix {own : List Nat} : (ownN ns own).map (·.2) = own := by
  unfold ownN
  rw [List.map_map]
  exact (List.map_congr_left fun _ _ => rfl).trans (List.map_id _)
/-- what a comprehension is, behind its iterator -/
theorem lc_ok (S : XS N P B T cf k ns s0 sc W X) {h one : Bool} {own tg : List Nat} {it cond elt : E} (hi : SIp N P B T cf k ns it) (hc : STp N P B T cf k ns cond) (he : SVp N P B T cf k ns elt)
    {scope : Scope} {tg' it' elt' : Expr} {ifs : List Expr} (hb : blkC ns sc scope (ownN ns own) = true) (htg : tgB ns scope (relS sc scope) one tg tg' = true) (hin : tg.all (fun i => own.contains i) = true) (hi' : (chM N.toNz ns it).i s0 sc it' = true)
    (hc' : (chM N.toNz ns cond).c scope (relS sc scope) ifs = true) (he' : (chM N.toNz ns elt).v scope (relS sc scope) elt' = true) (R : Rel N L I rs g H) (er : ER N I rs env σ)
    (ok : OkV N L I rs H W Q ((evM T cf (.comp h own tg one it cond elt)).v env g)) :
    tLc (WI X tg' it') (WGb X scope tg') (WTb X scope ifs) (WEb X scope elt') ((ownN ns own).map (·.2)) σ H Q ∧ BlkOk X.N X.env.scope scope (ownN ns own) ∧ (∀ x, foldedSetIterable it' X.env x = pure x) := by
  have ok : OkV N L I rs H W Q (((evM T cf it).i env g).bind fun xs g1 => compR h own tg one (evM T cf cond).c (evM T cf elt).v env xs g1) := ok
  have fs := (hi S hi' (tg := tg') (Q := fun _ _ => True) R er (by
    revert ok
    cases (evM T cf it).i env g with
    | stk => exact fun h => h
    | exc x g => exact fun h => h
    | ok p g => exact fun _ _ _ _ _ _ _ _ _ _ => True.intro)).2
  refine ⟨?_, blkOk_by (by rw [S.hN, S.sc]; exact hb), fs⟩
  refine (hi S hi' R er (Q := fun J H1 => ∀ D, H1 D = none → ∃ W : Nat → Nat → Hp → Prop, (∃ m, W 0 m (upd H1 D (.lst []))) ∧ ∀ i m H, W i m H →
    (J.stop i H ∧ Q (.ref D) H) ∨ (J.go i H ∧ ∃ Nx : Hp → Prop, (∀ H', Nx H' → ∃ m', m' < m ∧ W (i + 1) m' H') ∧ ∀ x H', J.yld i H x H' → WGb X scope tg' x (wipe σ ((ownN ns own).map (·.2))) H' fun σ2 H2 => wipe σ2 ((ownN ns own).map (·.2)) = wipe σ ((ownN ns own).map (·.2)) ∧ WTb X scope ifs σ2 H2 fun b H3 =>
      if b = true then WEb X scope elt' σ2 H3 fun y H4 => ∃ acc, H4 D = some (.lst acc) ∧ acc.length < sizeLine ∧ Nx (upd H4 D (.lst (acc ++ [y]))) else Nx H3)) ?_).1
  rw [own_ix]
  revert ok
  cases (evM T cf it).i env g with
  | stk => exact fun h => h
  | exc x g => exact fun h => h
  | ok p g1 =>
    intro ok I1 rs1 H1 J L1 E1 R1 hl hw
    exact comp_ok S htg hin (fun s H0 C cl fp {env g σ L I rs H Q} R er ok => WTs.of (S.blk s H0 scope C cl fp) hc hc' R er ok) (fun s H0 C cl fp {env g σ L I rs H Q} R er ok => he (S.blk s H0 scope C cl fp) he' R er ok) (er.after E1) R1 hl hw (Ok.after (r := compR h own tg one (evM T cf cond).c (evM T cf elt).v env p g1) ok E1)
theorem sv_comp {h one : Bool} {own tg : List Nat} {it cond elt : E} (hi : SIp N P B T cf k ns it) (hc : STp N P B T cf k ns cond) (he : SVp N P B T cf k ns elt) : SVp N P B T cf k ns (.comp h own tg one it cond elt) := by
  intro s0 sc W X S e hh env g σ L I rs H Q R er ok
  simp only [chM, Ck.of] at hh
  split at hh
  · rename_i elt' tg' it' ifs isa scope p
    simp only [Bool.and_eq_true, beq_iff_eq] at hh
    obtain ⟨⟨rfl, h1, h2, h3⟩, h4, h5, h6, h7⟩ := hh
    obtain ⟨t, b, fs⟩ := lc_ok S hi hc he h2 h3 h4 h5 h6 h7 R er ok
    refine we_of (pe_lc S.F.hc (by rw [S.hN]; exact S.nd) wi b (fun s H C cl fp => ?_) (fun s H C cl fp => ?_) (fun s H C cl fp => ?_) fs) t
    · exact ⟨fun pins s' _ _ _ u _ I r h => h s H C cl fp pins s' u I r⟩
    · exact ⟨fun pins s' _ _ _ I h => h s H C cl fp pins s' I⟩
    · exact ⟨fun pins s' _ _ _ I h => h s H C cl fp pins s' I⟩
  · exact Bool.noConfusion hh
/-! ### rows of expressions -/
theorem sa_nil : SAp N P B T cf k ns [] := by
  intro s0 sc W X S
  refine ⟨fun {es} h env g σ L I rs H Q R er ok => ?_, fun {kws} h hn env g σ L I rs H Q R er ok => ?_⟩
  · have : es = [] := by simpa [chs] using h
    subst this
    exact wa_of pa_nil ((show OkVs N L I rs H W Q (.ok [] g) from ok) _ _ _ _ .refl R .nil)
  · have : kws = [] := by simpa [chs] using h
    subst this
    exact wk_of pk_nil ((show OkVs N L I rs H W Q (.ok [] g) from ok) _ _ _ _ .refl R .nil)
theorem sa_cons {a : E} {r : List E} (ha : SVp N P B T cf k ns a) (hr : SAp N P B T cf k ns r) : SAp N P B T cf k ns (a :: r) := by
  intro s0 sc W X S
  have un : ∀ {env : Env} {g : G} {L I : Hp} {rs : List Addr} {H : Hp} {Q : List V → Hp → Prop}, OkVs N L I rs H W Q (evs T cf (a :: r) env g) → OkVs N L I rs H W Q (((evM T cf a).v env g).bind fun x g1 => match (evM T cf a).st with
      | true => (match seqD g1 x with
        | some xs => (evs T cf r env g1).bind fun ys g2 => .ok (xs ++ ys) g2
        | none => .stk)
      | false => (evs T cf r env g1).bind fun ys g2 => .ok (x :: ys) g2) := fun ok => ok
  have fin : ∀ {Q : List V → Hp → Prop} {L I : Hp} {rs : List Addr} {H : Hp} {g1 : G} {xs : List D} {vs : List V} {env : Env}, VRs N I rs xs vs → OkVs N L I rs H W Q ((evs T cf r env g1).bind fun ys g2 => .ok (xs ++ ys) g2) → OkVs N L I rs H W (fun ws H2 => Q (vs ++ ws) H2) (evs T cf r env g1) := by
    intro Q L I rs H g1 xs vs env hv ok
    revert ok
    cases evs T cf r env g1 with
    | stk => exact fun h => h
    | exc x g => exact fun h => h
    | ok ys g2 => exact fun ok I' rs' H' b E R r => ok I' rs' H' (vs ++ b) E R ((E.vrs hv).append r)
  refine ⟨fun {es} h env g σ L I rs H Q R er ok => ?_, fun {kws} h hn env g σ L I rs H Q R er ok => ?_⟩
  · cases es with
    | nil => simp [chs] at h
    | cons e es =>
      simp only [chs, Bool.and_eq_true] at h
      have ok := un ok
      have e1 : (chM N.toNz ns a).st = (evM T cf a).st := by cases a <;> rfl
      cases q : (evM T cf a).st with
      | false =>
        rw [q] at ok
        rw [q] at e1
        have hh := h.1
        rw [e1] at hh
        have hh : (nstB e && (chM N.toNz ns a).v s0 sc e) = true := by cases e <;> exact hh
        simp only [Bool.and_eq_true] at hh
        refine wa_of (pa_cons we wa (star_eq hh.1)) (ha.go S hh.2 R er ok fun v1 H1 d1 g1 I1 rs1 R1 er1 e1 r1 ok1 => ?_)
        exact (hr S).1 h.2 R1 er1 (fin (vs := [v1]) (.one r1) ok1)
      | true =>
        rw [q] at ok
        rw [q] at e1
        have hh := h.1
        rw [e1] at hh
        cases e with
        | Starred e' p =>
          refine wa_of (StX.pa_star we wa rfl) (ha.go S hh R er ok fun v1 H1 d1 g1 I1 rs1 R1 er1 e1 r1 ok1 => ?_)
          cases hs : seqD g1 d1 with
          | none => rw [hs] at ok1; exact ok1.elim
          | some xs =>
            rw [hs] at ok1
            obtain ⟨p, vs, rfl, h2, h3⟩ := R1.seq r1 hs
            rw [← S.F.hK] at h2
            exact ⟨p, vs, rfl, h2.symm, (hr S).1 h.2 R1 er1 (fin h3 ok1)⟩
        | _ => exact Bool.noConfusion hh
  · cases kws with
    | nil => simp [chs] at h
    | cons kw kws =>
      obtain ⟨nm, e, p⟩ := kw
      simp only [List.map_cons, chs, Bool.and_eq_true] at h
      simp only [List.map_cons, noSt, List.all_cons, Bool.and_eq_true] at hn
      obtain ⟨hs, hv⟩ := st_no (T := T) (cf := cf) h.1 hn.1
      have ok := un ok
      rw [hs] at ok
      refine wk_of (pk_cons we wk') (ha.go S hv R er ok fun v1 H1 d1 g1 I1 rs1 R1 er1 e1 r1 ok1 => ?_)
      exact (hr S).2 h.2 hn.2 R1 er1 (fin (vs := [v1]) (.one r1) ok1)
/-! ### all -/
def SMp (N : Nm) (P : Program) (B : Heap) (T : Tab) (cf : CF) (k : Nat) (ns : List Str) (c : E) : Prop := SVp N P B T cf k ns c ∧ STp N P B T cf k ns c ∧ SIp N P B T cf k ns c
theorem sm_of {a : E} (hv : SVp N P B T cf k ns a) (h1 : (evM T cf a).t = fun env g => ((evM T cf a).v env g).bind fun x g1 => opt (tru g1 x) g1) (h2 : (chM N.toNz ns a).t = fun s0 sc e => ptB e && (chM N.toNz ns a).v s0 sc e)
    (h3 : (evM T cf a).i = fun env g => ((evM T cf a).v env g).bind fun x g1 => opt (itemsD g1 x) g1) (h4 : (chM N.toNz ns a).i = fun s0 sc e => nsB e && (chM N.toNz ns a).v s0 sc e) : SMp N P B T cf k ns a :=
  ⟨hv, t_of hv h1 h2, i_of hv h3 h4⟩
theorem sm_t {a : E} (hv : SVp N P B T cf k ns a) (ht : STp N P B T cf k ns a)
    (h3 : (evM T cf a).i = fun env g => ((evM T cf a).v env g).bind fun x g1 => opt (itemsD g1 x) g1) (h4 : (chM N.toNz ns a).i = fun s0 sc e => nsB e && (chM N.toNz ns a).v s0 sc e) : SMp N P B T cf k ns a :=
  ⟨hv, ht, i_of hv h3 h4⟩
theorem sv_no {a : E} (h : ∀ s0 sc e, (chM N.toNz ns a).v s0 sc e = false) : SVp N P B T cf k ns a := by
  intro s0 sc W X S e hc
  rw [h] at hc
  cases hc
theorem st_none {a : E} (h : ∀ s0 sc e, (chM N.toNz ns a).t s0 sc e = false) : STp N P B T cf k ns a := by
  intro s0 sc W X S e hc
  rw [h] at hc
  cases hc
theorem sm_no {a : E} (h1 : ∀ s0 sc e, (chM N.toNz ns a).v s0 sc e = false) (h2 : ∀ s0 sc e, (chM N.toNz ns a).t s0 sc e = false) (h3 : ∀ s0 sc e, (chM N.toNz ns a).i s0 sc e = false) : SMp N P B T cf k ns a := by
  refine ⟨sv_no h1, ?_, ?_⟩
  · intro s0 sc W X S e hc
    rw [h2] at hc
    cases hc
  · intro s0 sc W X S e hc
    rw [h3] at hc
    cases hc
mutual
theorem sm (N : Nm) (P : Program) (B : Heap) (T : Tab) (cf : CF) (k : Nat) (ns : List Str) : ∀ c : E, SMp N P B T cf k ns c
  | .nil => sm_no (fun _ _ _ => rfl) (fun _ _ _ => rfl) (fun _ _ _ => rfl)
  | .loc i => sm_of (sv_loc i) rfl rfl rfl rfl
  | .con d => sm_of (sv_con d) rfl rfl rfl rfl
  | .glo n => sm_of (sv_glo n) rfl rfl rfl rfl
  | .bin o a b => sm_of (sv_bin (sm N P B T cf k ns a).1 (sm N P B T cf k ns b).1) rfl rfl rfl rfl
  | .neg a => sm_of (sv_neg (sm N P B T cf k ns a).1) rfl rfl rfl rfl
  | .not_ a => sm_t (sv_not (sm N P B T cf k ns a).1) (st_not (sm N P B T cf k ns a).2.1) rfl rfl
  | .and_ a b => sm_t (sv_and (sm N P B T cf k ns a).1 (sm N P B T cf k ns b).1) (st_and (sm N P B T cf k ns a).2.1 (sm N P B T cf k ns b).2.1) rfl rfl
  | .or_ a b => sm_t (sv_or (sm N P B T cf k ns a).1 (sm N P B T cf k ns b).1) (st_or (sm N P B T cf k ns a).2.1 (sm N P B T cf k ns b).2.1) rfl rfl
  | .cmp o a b => sm_t (sv_cmp (sm N P B T cf k ns a).1 (sm N P B T cf k ns b).1).1 (sv_cmp (sm N P B T cf k ns a).1 (sm N P B T cf k ns b).1).2 rfl rfl
  | .chain o p a b c => sm_t (sv_chain (sm N P B T cf k ns a).1 (sm N P B T cf k ns b).1 (sm N P B T cf k ns c).1).1 (sv_chain (sm N P B T cf k ns a).1 (sm N P B T cf k ns b).1 (sm N P B T cf k ns c).1).2 rfl rfl
  | .ite c a b => sm_of (sv_ite (sm N P B T cf k ns c).2.1 (sm N P B T cf k ns a).1 (sm N P B T cf k ns b).1) rfl rfl rfl rfl
  | .call f as => sm_of (sv_call (sa N P B T cf k ns as)) rfl rfl rfl rfl
  | .callK f as es => sm_of (sv_callK (sa N P B T cf k ns as) (sa N P B T cf k ns es)) rfl rfl rfl rfl
  | .meth m o as => sm_of (sv_no fun _ _ _ => rfl) rfl rfl rfl rfl
  | .make c as => sm_of (sv_no fun _ _ _ => rfl) rfl rfl rfl rfl
  | .fld f o => sm_of (sv_no fun _ _ _ => rfl) rfl rfl rfl rfl
  | .prop m o => sm_of (sv_no fun _ _ _ => rfl) rfl rfl rfl rfl
  | .bi b as => sm_of (sv_bi (sa N P B T cf k ns as)) rfl rfl rfl rfl
  | .isi t a => sm_of (sv_isi (sm N P B T cf k ns a).1) rfl rfl rfl rfl
  | .bm m o as => sm_of (sv_bm (sm N P B T cf k ns o).1 (sa N P B T cf k ns as)) rfl rfl rfl rfl
  | .sub o i => sm_of (sv_sub (sm N P B T cf k ns o).1 (sm N P B T cf k ns i).1) rfl rfl rfl rfl
  | .slc o lo hi => sm_of (sv_slc (sm N P B T cf k ns o).1 (sm N P B T cf k ns lo).1 (sm N P B T cf k ns hi).1) rfl rfl rfl rfl
  | .rev o => sm_of (sv_rev (sm N P B T cf k ns o).1) rfl rfl rfl rfl
  | .tup as => sm_of (sv_tup (sa N P B T cf k ns as)) rfl rfl rfl rfl
  | .lst h as => sm_of (sv_lst (sa N P B T cf k ns as)) rfl rfl rfl rfl
  | .dct h ks as => sm_of (sv_dct (sd N P B T cf k ns as)) rfl rfl rfl rfl
  | .star a => ⟨(sm N P B T cf k ns a).1, (sm N P B T cf k ns a).2.1, (sm N P B T cf k ns a).2.2⟩
  | .frz a => sm_of (sv_frz (sm N P B T cf k ns a).1) rfl rfl rfl rfl
  | .comp h own tg one it cond elt => sm_of (sv_comp (sm N P B T cf k ns it).2.2 (sm N P B T cf k ns cond).2.1 (sm N P B T cf k ns elt).1) rfl rfl rfl rfl
  | .range as => ⟨sv_no fun _ _ _ => rfl, st_none fun _ _ _ => rfl, si_range (sa N P B T cf k ns as)⟩
  | .enum a => sm_no (fun _ _ _ => rfl) (fun _ _ _ => rfl) (fun _ _ _ => rfl)
  | .zip a b => sm_no (fun _ _ _ => rfl) (fun _ _ _ => rfl) (fun _ _ _ => rfl)
theorem sa (N : Nm) (P : Program) (B : Heap) (T : Tab) (cf : CF) (k : Nat) (ns : List Str) : ∀ cs : List E, SAp N P B T cf k ns cs
  | [] => sa_nil
  | a :: r => sa_cons (sm N P B T cf k ns a).1 (sa N P B T cf k ns r)
theorem sd (N : Nm) (P : Program) (B : Heap) (T : Tab) (cf : CF) (k : Nat) (ns : List Str) : ∀ (cs : List E), ∀ a ∈ cs, SVp N P B T cf k ns a
  | [] => fun a h => by cases h
  | a :: r => by
    intro b h
    rcases List.mem_cons.mp h with e | e
    · rw [e]
      exact (sm N P B T cf k ns a).1
    · exact sd N P B T cf k ns r b e
end
end
end PC
end
section
set_option maxHeartbeats 4000000
namespace PC
open PySem L2 PyProof.Rows
/-- no comprehension -/
def swB : Expr → Bool
  | .ListComp _ _ _ _ => false
  | .SetComp _ _ _ _ => false
  | .DictComp _ _ _ _ _ => false
  | _ => true
def tupB : Expr → Bool
  | .Tuple _ _ _ => false
  | _ => true
def swC (sc : Scope) (x : Str) (px p : Pos) (scope : Scope) : Bool := true && (lk sc x == some .local) && (px.line == p.line) && !(scope.names.any fun (n, k) => n == x && (k == .local || k == .cell))
def augB : Bop → Operator → Bool
  | .add, .Add => true
  | .sub, .Sub => true
  | _, _ => false
mutual
def chS (z : Nz) (ns : List Str) (sc : Scope) : S → Stmt → Bool
  | .pass, s => match s with
    | .Pass _ => true
    | _ => false
  | .brk, s => match s with
    | .Break _ => true
    | _ => false
  | .cont, s => match s with
    | .Continue _ => true
    | _ => false
  | .ex c, s => match s with
    | .Expr e _ => swB e && (chM z ns c).v sc sc e
    | _ => false
  | .ret c, s => match s with
    | .Return (some e) _ => (chM z ns c).v sc sc e
    | _ => false
  | .retN, s => match s with
    | .Return none _ => true
    | _ => false
  | .set i c, s => match s with
    | .Assign [.Name x px] e _ => nmB ns sc sc i x && ((chM z ns c).v sc sc e && (swB e || (match c, e with
      | .comp _ _ _ _ _ _ _, .ListComp _ _ _ _ => true
      | _, _ => false)))
    | _ => false
  | .unp is c, s => match s with
    | .Assign [.Tuple es k p] e _ => (swB e && tupB e) && (nmsB ns sc sc is es && (chM z ns c).v sc sc e)
    | _ => false
  | .par is es, s => false
  | .setF f o e, s => false
  | .setI o i c, s => match s with
    | .Assign [.Subscript o' i' _] e _ => (swB e && ixB i') && ((chM z ns c).v sc sc e && ((chM z ns o).v sc sc o' && (chM z ns i).v sc sc i'))
    | _ => false
  | .aug i o c, s => match s with
    | .AugAssign (.Name x _) p e _ => (nmB ns sc sc i x && augB o p) && (chM z ns c).v sc sc e
    | _ => false
  | .augF f o p e, s => false
  | .ite c a b, s => match s with
    | .If c' a' b' _ => (chM z ns c).t sc sc c' && (chSs z ns sc a a' && chSs z ns sc b b')
    | _ => false
  | .while_ c b, s => match s with
    | .While c' b' [] _ => (chM z ns c).t sc sc c' && chSs z ns sc b b'
    | _ => false
  | .for_ one tg it b, s => match s with
    | .For tg' it' b' [] _ => (tgB ns sc sc one tg tg' && (chM z ns it).i sc sc it') && chSs z ns sc b b'
    | _ => false
  | .mtch e ks bs, s => false
  | .raise c as, s => false
def chSs (z : Nz) (ns : List Str) (sc : Scope) : List S → List Stmt → Bool
  | [], ss => ss.isEmpty
  | c :: cs, ss => match ss with
    | [] => false
    | s :: ss => chS z ns sc c s && chSs z ns sc cs ss
end
/-- the context of a def's statements -/
structure XD (N : Nm) (P : Program) (B : Heap) (T : Tab) (cf : CF) (k : Nat) (ns : List Str) (sc : Scope) (W : XK) (X : Cx) : Prop where
  S : XS N P B T cf k ns sc sc W X
  hp : PassesOwn (model X.prog X.w) X.A X.env X.xe
/-- from (I, rs, H) the end of a statement serves D -/
def OkF (N : Nm) (L I : Hp) (rs : List Addr) (H : Hp) (W : XK) (D : Ends) : R Fl → Prop
  | .ok (.nx env) g => ∀ I' rs' H' σ, Ext I rs H I' rs' H' → Rel N L I' rs' g H' → ER N I' rs' env σ → D.nx σ H'
  | .ok (.ct env) g => ∀ I' rs' H' σ, Ext I rs H I' rs' H' → Rel N L I' rs' g H' → ER N I' rs' env σ → D.ct σ H'
  | .ok (.bk env) g => ∀ I' rs' H' σ, Ext I rs H I' rs' H' → Rel N L I' rs' g H' → ER N I' rs' env σ → D.bk σ H'
  | .ok (.rt d) g => ∀ I' rs' H' v, Ext I rs H I' rs' H' → Rel N L I' rs' g H' → VR N I' rs' d v → D.rt v H'
  | .exc x g => ∀ I' rs' H' cls d, Ext I rs H I' rs' H' → Rel N L I' rs' g H' → XR N I' rs' x cls d → W cls d H'
  | .stk => False
section
variable {N : Nm} {P : Program} {B : Heap} {T : Tab} {cf : CF} {k : Nat} {ns : List Str}
variable {s0 sc : Scope} {W : XK} {X : Cx} {L L1 I I1 I2 : Hp} {rs rs1 rs2 : List Addr} {g g1 : G} {H H1 H2 : Hp} {Q : VK} {x y z : D} {u v : V} {env : Env} {σ : L2.St} {D D' : Ends}
theorem OkF.after {r : R Fl} (h : OkF N L I rs H W D r) (e : Ext I rs H I1 rs1 H1) : OkF N L I1 rs1 H1 W D r := by
  cases r with
  | ok f g => cases f <;> exact fun I' rs' H' b e' R p => h I' rs' H' b (e.trans e') R p
  | exc x g => exact fun I' rs' H' c d e' R p => h I' rs' H' c d (e.trans e') R p
  | stk => exact h
/-- an expression, then the rest -/
theorem OkF.first {α γ : Type} {P1 : Hp → List Addr → α → γ → Prop} {r : R α} {kk : α → G → R Fl}
    (ok : OkF N L I rs H W D (r.bind kk)) : Ok N L P1 I rs H W (fun b H1 => ∃ a g1 I1 rs1, Ext I rs H I1 rs1 H1 ∧ Rel N L I1 rs1 g1 H1 ∧ P1 I1 rs1 a b ∧ OkF N L I1 rs1 H1 W D (kk a g1)) r := by
  cases r with
  | ok a g => exact fun I' rs' H' b e R p => ⟨a, g, I', rs', e, R, p, ok.after e⟩
  | exc x g => exact ok
  | stk => exact ok
theorem OkF.nx' (R : Rel N L I rs g H) (er : ER N I rs env σ) (ok : OkF N L I rs H W D (.ok (.nx env) g)) : D.nx σ H := ok I rs H σ .refl R er
/-- another end -/
theorem OkF.imp {r : R Fl} (h : OkF N L I rs H W D r) (h1 : ∀ σ H, D.nx σ H → D'.nx σ H) (h2 : ∀ v H, D.rt v H → D'.rt v H) (h3 : ∀ σ H, D.bk σ H → D'.bk σ H) (h4 : ∀ σ H, D.ct σ H → D'.ct σ H) : OkF N L I rs H W D' r := by
  cases r with
  | ok f g =>
    cases f with
    | nx _ => exact fun I' rs' H' b e' R p => h1 _ _ (h I' rs' H' b e' R p)
    | rt _ => exact fun I' rs' H' b e' R p => h2 _ _ (h I' rs' H' b e' R p)
    | bk _ => exact fun I' rs' H' b e' R p => h3 _ _ (h I' rs' H' b e' R p)
    | ct _ => exact fun I' rs' H' b e' R p => h4 _ _ (h I' rs' H' b e' R p)
  | exc x g => exact h
  | stk => exact h
theorem sw_no {e : Expr} {tg : Option Expr} {n : Nat} {en : PySem.Env} (h : swB e = true) : swapsWith e tg n en = pure false := by
  cases e <;> first | rfl | cases h
theorem ss_tup {es : List Expr} {kk : Nat} {p : Pos} {e : Expr} {en : PySem.Env} (h : tupB e = true) : swappedStores [.Tuple es kk p] e en = pure none := by
  cases e <;> first | rfl | cases h
theorem ss_sub {o i : Expr} {p : Pos} {e : Expr} {en : PySem.Env} : swappedStores [.Subscript o i p] e en = pure none := by
  cases e <;> rfl
theorem sw_comp {elt : Expr} {gs : List Comprehension} {scope : Scope} {p px : Pos} {x : Str} {n : Nat} {en : PySem.Env} (h : en.scope.kind = .function) : swapsWith (.ListComp elt gs scope p) (some (.Name x px)) n en = pure (swC en.scope x px p scope) := by
  have e : en.blockKind = .function := by
    unfold PySem.Env.blockKind
    rw [h]
    rfl
  show pure (en.blockKind == .function && en.kindOf x == some .local && px.line == (Expr.ListComp elt gs scope p).pos.line && !(scope.names.any fun (n, k) => n == x && (k == .local || k == .cell))) = _
  rw [e]
  rfl
/-! ### loops -/
theorem while_ok (S : XD N P B T cf k ns sc W X) {c' : Expr} {b' : List Stmt} {p : Pos} {c : Env → G → R Bool} {f : Env → G → R Fl} {n : Nat}
    (hc : ∀ {env : Env} {g : G} {σ : L2.St} {I : Hp} {rs : List Addr} {H : Hp} {Q : Bool → Hp → Prop}, Rel N L I rs g H → ER N I rs env σ → OkB N L I rs H W Q (c env g) → WT X c' σ H Q)
    (hb : ∀ {env : Env} {g : G} {σ : L2.St} {I : Hp} {rs : List Addr} {H : Hp} {D : Ends}, Rel N L I rs g H → ER N I rs env σ → OkF N L I rs H W D (f env g) → WSs X b' D σ H)
    (R : Rel N L I rs g H) (er : ER N I rs env σ) (ok : OkF N L I rs H W D (whL c f n env g)) : WS X (.While c' b' [] p) D σ H := by
  refine ws_of (ps_while S.hp wt wss) ⟨fun m σ H => ∃ env g I rs, Rel N L I rs g H ∧ ER N I rs env σ ∧ OkF N L I rs H W D (whL c f m env g), ⟨n, env, g, I, rs, R, er, ok⟩, ?_⟩
  rintro m σ H ⟨env, g, I, rs, R, er, ok⟩
  cases m with
  | zero => exact ok.elim
  | succ m =>
    refine wt_mono (hc R er ok.first) fun b H1 ⟨b1, g1, I1, rs1, e1, R1, eb, ok1⟩ => ?_
    subst eb
    cases b1 with
    | false =>
      rw [if_neg Bool.false_ne_true]
      exact ok1.nx' R1 (er.after e1)
    | true =>
      rw [if_pos rfl]
      refine ⟨fun σ' H' => ∃ env g I rs, Rel N L I rs g H' ∧ ER N I rs env σ' ∧ OkF N L I rs H' W D (whL c f m env g), fun σ' H' h => ⟨m, Nat.lt_succ_self m, h⟩, hb R1 (er.after e1) ?_⟩
      simp only at ok1
      revert ok1
      cases f env g1 with
      | stk => exact fun h => h
      | exc x gx => exact fun h => h
      | ok fl g2 =>
        intro ok1
        cases fl with
        | nx env1 => exact fun I' rs' H' σ' E R' er' => ⟨env1, g2, I', rs', R', er', OkF.after (r := whL c f m env1 g2) ok1 E⟩
        | ct env1 => exact fun I' rs' H' σ' E R' er' => ⟨env1, g2, I', rs', R', er', OkF.after (r := whL c f m env1 g2) ok1 E⟩
        | bk env1 => exact ok1
        | rt d => exact ok1
/-- a free heap -/
theorem freeR_ok {r : R Fl} {ko : Option Nat} (ok : OkF N L I rs H W D (freeR r ko)) (hl : Lks L rs1 ko L1) (hr : rs1 <+: rs) : OkF N L1 I rs H W D r := by
  cases r with
  | stk => exact ok
  | exc x g =>
    unfold freeR at ok
    simp only at ok
    split at ok
    · rename_i g' q
      exact fun I' rs' H' c d e R p => ok I' rs' H' c d e (lock_fr hl (hr.trans e.r) q R) p
    · exact ok.elim
  | ok f g =>
    unfold freeR at ok
    simp only at ok
    split at ok
    · rename_i g' q
      cases f <;> exact fun I' rs' H' b e R p => ok I' rs' H' b e (lock_fr hl (hr.trans e.r) q R) p
    · exact ok.elim
theorem for_ok (S : XD N P B T cf k ns sc W X) {tg' it' : Expr} {b' : List Stmt} {p : Pos} {one : Bool} {tg : List Nat} {f : Env → G → R Fl} {i : Env → G → R (List PC.D × Option Nat)} (htg : tgB ns sc sc one tg tg' = true)
    (hi : ∀ {Q : It → Hp → Prop}, OkI N L I rs H W Q (i env g) → WI X tg' it' σ H Q ∧ ∀ x, foldedSetIterable it' X.env x = pure x)
    (hb : ∀ {L : Hp} {env : Env} {g : G} {σ : L2.St} {I : Hp} {rs : List Addr} {H : Hp} {D : Ends}, Rel N L I rs g H → ER N I rs env σ → OkF N L I rs H W D (f env g) → WSs X b' D σ H)
    (er : ER N I rs env σ) (ok : OkF N L I rs H W D ((i env g).bind fun xs g1 => freeR (forL (fun x env g => match asgD g one tg x env with
      | some env1 => f env1 g
      | none => .stk) xs.1 env (lockG g1 xs.2)) xs.2)) : WS X (.For tg' it' b' [] p) D σ H := by
  generalize hF : (fun (x : PC.D) env g => match asgD g one tg x env with
      | some env1 => f env1 g
      | none => PC.R.stk) = F at ok
  have fs := (hi (Q := fun _ _ => True) (by
    revert ok
    cases i env g with
    | stk => exact fun h => h
    | exc x g => exact fun h => h
    | ok p g => exact fun _ _ _ _ _ _ _ _ _ _ => True.intro)).2
  refine ws_of (ps_for S.hp S.S.F.hc wi wg wss fs) ?_
  refine (hi (Q := fun J H1 => ∃ W : Nat → Nat → L2.St → Hp → Prop, (∃ m, W 0 m σ H1) ∧ ∀ i m σ H, W i m σ H →
    (J.stop i H ∧ D.nx σ H) ∨ (J.go i H ∧ ∃ N : L2.St → Hp → Prop, (∀ σ' H', N σ' H' → ∃ m', m' < m ∧ W (i + 1) m' σ' H') ∧ ∀ x H', J.yld i H x H' → WG X tg' x σ H' fun σ2 H2 => WSs X b' { D with nx := N, ct := N, bk := D.nx } σ2 H2)) ?_).1
  revert ok
  cases i env g with
  | stk => exact fun h => h
  | exc x g => exact fun h => h
  | ok xs g1 =>
    intro ok I1 rs1 H1 J L1 E1 R1 hl hw
    have ok : OkF N L I rs H W D (freeR (forL F xs.1 env (lockG g1 xs.2)) xs.2) := ok
    refine ⟨fun i m σ Hc => i ≤ xs.1.length ∧ m = xs.1.length - i ∧ ∃ env g' I' rs', Rel N L1 I' rs' g' Hc ∧ ER N I' rs' env σ ∧ Ext I1 rs1 H1 I' rs' Hc ∧ OkF N L I' rs' Hc W D (freeR (forL F (xs.1.drop i) env g') xs.2),
      ⟨_, Nat.zero_le _, rfl, env, _, I1, rs1, R1, er.after E1, .refl, by simpa using ok.after E1⟩, ?_⟩
    rintro i m σ Hc ⟨hii, rfl, env, g', I', rs', R', er', E', ok'⟩
    by_cases he : i = xs.1.length
    · left
      refine ⟨hw.stop _ _ _ _ E'.i E'.r R' i (by omega), ?_⟩
      rw [he, List.drop_length] at ok'
      exact (freeR_ok ok' hl E'.r).nx' R' er'
    · right
      have hlt : i < xs.1.length := by omega
      refine ⟨hw.go _ _ _ _ E'.i E'.r R' i hlt, fun σ' H' => ∃ env g' I' rs', Rel N L1 I' rs' g' H' ∧ ER N I' rs' env σ' ∧ Ext I1 rs1 H1 I' rs' H' ∧ OkF N L I' rs' H' W D (freeR (forL F (xs.1.drop (i + 1)) env g') xs.2), fun σ' H' h => ⟨_, by omega, by omega, rfl, h⟩, ?_⟩
      intro xv H' hy
      obtain ⟨I2, E2, R2, d, hd, hv⟩ := hw.yld _ _ _ _ E'.i E'.r R' i xv H' hlt hy
      have hdr : xs.1.drop i = d :: xs.1.drop (i + 1) := by
        rw [← List.getElem_cons_drop (h := hlt)]
        rw [List.getElem?_eq_getElem hlt] at hd
        cases hd
        rfl
      rw [hdr] at ok'
      have E3 := E'.trans E2
      have ok2 := OkF.after ok' E2
      have hFd : F d env g' = match asgD g' one tg d env with
        | some env1 => f env1 g'
        | none => .stk := by rw [← hF]
      cases ha : asgD g' one tg d env with
      | none =>
        rw [ha] at hFd
        simp only [forL, hFd] at ok2
        exact ok2.elim
      | some env1 =>
        rw [ha] at hFd
        simp only at hFd
        refine tg_ok S.S htg R2 hv ha (er'.after E2) fun σ2 er2 ch => hb R2 er2 ?_
        rw [← hFd]
        simp only [forL] at ok2
        revert ok2
        cases F d env g' with
        | stk => exact fun h => h
        | exc x gx =>
          intro h
          have h2 : OkF N L1 I2 rs' H' W D (.exc x gx) := freeR_ok (r := .exc x gx) h hl E3.r
          exact h2
        | ok fl g2 =>
          intro ok2
          cases fl with
          | nx env2 =>
            have ok2 : OkF N L I2 rs' H' W D (freeR (forL F (xs.1.drop (i + 1)) env2 g2) xs.2) := ok2
            exact fun I3 rs3 H3 σ3 E4 R3 er3 => ⟨env2, g2, I3, rs3, R3, er3, E3.trans E4, ok2.after E4⟩
          | ct env2 =>
            have ok2 : OkF N L I2 rs' H' W D (freeR (forL F (xs.1.drop (i + 1)) env2 g2) xs.2) := ok2
            exact fun I3 rs3 H3 σ3 E4 R3 er3 => ⟨env2, g2, I3, rs3, R3, er3, E3.trans E4, ok2.after E4⟩
          | bk env2 =>
            have ok3 := freeR_ok (r := .ok (.nx env2) g2) ok2 hl E3.r
            exact ok3
          | rt d =>
            have ok3 := freeR_ok (r := .ok (.rt d) g2) ok2 hl E3.r
            exact ok3
end
end PC
end
section
set_option maxHeartbeats 4000000
namespace PC
open PySem L2 PyProof.Rows
section
variable (N : Nm) (P : Program) (B : Heap) (T : Tab) (cf : CF) (k : Nat) (ns : List Str)
def SSp (c : S) : Prop := ∀ {sc : Scope} {W : XK} {X : Cx}, XD N P B T cf k ns sc W X → ∀ {s : Stmt}, chS N.toNz ns sc c s = true → ∀ {env : Env} {g : G} {σ : L2.St} {L I : Hp} {rs : List Addr} {H : Hp} {D : Ends}, Rel N L I rs g H → ER N I rs env σ →
  OkF N L I rs H W D (exec T cf c env g) → WS X s D σ H
def SSsp (cs : List S) : Prop := ∀ {sc : Scope} {W : XK} {X : Cx}, XD N P B T cf k ns sc W X → ∀ {ss : List Stmt}, chSs N.toNz ns sc cs ss = true → ∀ {env : Env} {g : G} {σ : L2.St} {L I : Hp} {rs : List Addr} {H : Hp} {D : Ends}, Rel N L I rs g H → ER N I rs env σ →
  OkF N L I rs H W D (execs T cf cs env g) → WSs X ss D σ H
end
section
variable {N : Nm} {P : Program} {B : Heap} {T : Tab} {cf : CF} {k : Nat} {ns : List Str}
variable {sc : Scope} {W : XK} {X : Cx} {L L1 I I1 I2 : Hp} {rs rs1 rs2 : List Addr} {g g1 : G} {H H1 H2 : Hp} {Q : VK} {x y z : D} {u v : V} {env : Env} {σ : L2.St} {D D' : Ends}
/-- the value, then the rest -/
theorem ev_go {c : E} (S : XD N P B T cf k ns sc W X) {e : Expr} (hc : (chM N.toNz ns c).v sc sc e = true) (R : Rel N L I rs g H) (er : ER N I rs env σ) {kk : PC.D → G → PC.R Fl} {Q : VK}
    (ok : OkF N L I rs H W D (((evM T cf c).v env g).bind kk)) (q : ∀ v H1 d g1 I1 rs1, Rel N L I1 rs1 g1 H1 → ER N I1 rs1 env σ → Ext I rs H I1 rs1 H1 → VR N I1 rs1 d v → OkF N L I1 rs1 H1 W D (kk d g1) → Q v H1) : WE X e σ H Q :=
  we_mono ((sm N P B T cf k ns c).1 S.S hc R er ok.first) fun v H1 ⟨d, g1, I1, rs1, e1, R1, v1, ok1⟩ => q v H1 d g1 I1 rs1 R1 (er.after e1) e1 v1 ok1
theorem cell_dct (R : Rel N L I rs g H) {i : Nat} {a : Addr} {ks : List DK} {ds : List PC.D} {ks' : List DK} {ds' : List PC.D} {kvs' : List (Key × V)} (hi : rs[i]? = some a) (hg : g[i]? = some (.dct ks ds)) (h1 : kvs'.map (·.1) = ks'.map key) (nd : ks'.Nodup) (hv : VRs N I rs ds' (kvs'.map (·.2))) (hz : ks'.length ≤ LIM) :
    Rel N L I rs (g.set i (.dct ks' ds')) (upd H a (.dK kvs')) ∧ Ext I rs H I rs (upd H a (.dK kvs')) := by
  obtain ⟨hL, hI, _⟩ := R.cell i a _ hi hg
  exact R.put hi hL hI fun H' e => ⟨hL, hI, kvs', e, h1, nd, hv, hz⟩
theorem pset_any {X : Cx} (hU : X.A.units + 1 < cLine) : PSet X (fun o i v H Q => rSetD o i v H Q ∨ rSetL o i v H Q) := by
  intro pins s σ H o i v ov iv u Q I r1 r2 r3 h
  rcases h with h | h
  · exact set_dict hU pins s σ H o i v ov iv u Q I r1 r2 r3 h
  · exact set_list pins s σ H o i v ov iv u Q I r1 r2 r3 h
theorem setI_ok {i' y' : PC.D} {uo ui uv : V} {o : PC.D} {g2 : G} (R : Rel N L I rs g H) (ho : VR N I rs o uo) (hi : VR N I rs i' ui) (hv : VR N I rs y' uv) (h : setID g o i' y' = some g2) {Q : Hp → Prop}
    (q : ∀ H', Ext I rs H I rs H' → Rel N L I rs g2 H' → Q H') : rSetD uo ui uv H Q ∨ rSetL uo ui uv H Q := by
  unfold setID at h
  split at h
  · rename_i n
    cases ho with
    | @ref _ a ha =>
      split at h
      · rename_i ks ds hg
        split at h
        · rename_i kx hk
          split at h
          · rename_i hl
            cases h
            have hl : ks.length < LIM := by simpa using hl
            obtain ⟨hL, hI, kvs, h1, h2, h3, h4, h5⟩ := R.cell _ _ _ ha hg
            have ek := key_v hk hi
            subst ek
            obtain ⟨p1, p2, p3, p4, p5⟩ := put_v hv kx h2 h3 h4
            obtain ⟨R', E'⟩ := cell_dct R ha hg p1 p2 p3 (by omega)
            have el : kvs.length = ks.length := by simpa using congrArg List.length h2
            exact .inl ⟨a, _, rfl, DPut.k h1 (by have := lim_line (n := ks.length + 1) hl; omega), q _ E' R'⟩
          · cases h
        · cases h
      · rename_i l hg
        split at h
        · rename_i j
          split at h
          · rename_i n2 hn
            cases h
            cases hi
            obtain ⟨hL, hI, vs, h1, h2, h3⟩ := R.cell _ _ _ ha hg
            have el := h2.length
            obtain ⟨R', E'⟩ := lst_put R ha hg (h2.set n2 hv) (by simpa using h3)
            exact .inr ⟨a, vs, _, n2, rfl, rfl, h1, by rw [← el]; exact hn, q _ E' R'⟩
          · cases h
        · cases h
      · cases h
  · cases h
theorem sws_no {e t : Expr} {n : Nat} {en : PySem.Env} (h : swB e = true) : swapsWithSole [t] e n en = pure false := by
  cases e <;> first | rfl | cases h
theorem ss_set {i : Nat} {c : E} : SSp N P B T cf k ns (.set i c) := by
  intro sc W X S s h env g σ L I rs H D R er ok
  have ok : OkF N L I rs H W D (((evM T cf c).v env g).bind fun d g1 => .ok (.nx (env.set i (some d))) g1) := ok
  simp only [chS] at h
  split at h
  · rename_i x px e p
    simp only [Bool.and_eq_true, Bool.or_eq_true] at h
    obtain ⟨h1, h2, h3⟩ := h
    obtain ⟨b1, b2, b3⟩ := nm_of S.S h1
    have nd : X.N.Nodup := by rw [S.S.hN]; exact S.S.nd
    have key : WE X e σ H fun v H1 => gName i v σ H1 D.nx := ev_go S h2 R er ok fun v1 H1 d1 g1 I1 rs1 R1 er1 e1 r1 ok1 => ok1.nx' R1 (er1.set r1)
    by_cases hsw : swB e = true
    · exact ws_of (ps_set nd b1 b2 we (sw_no hsw) b3) key
    · have h3 := h3.resolve_left hsw
      cases c with
      | comp hh own tg one it cond elt =>
        cases e with
        | ListComp elt' gs scope lp =>
          -- a comprehension stored to a name
          have kind : X.env.scope.kind = .function ∨ ¬ X.env.scope.kind = .function := Classical.em _
          intro pins st J
          have hk : X.env.scope.kind = .function := J.ok.kind
          have sw := sw_comp (elt := elt') (gs := gs) (scope := scope) (p := lp) (px := px) (x := x) (n := p.line) hk
          cases hc : swC X.env.scope x px lp scope with
          | false =>
            rw [hc] at sw
            exact ws_of (ps_set nd b1 b2 we sw b3) key pins st J
          | true =>
            rw [hc] at sw
            have hyl : X.env.scope.names.lookup x = some .local := by
              unfold swC at hc
              simp only [Bool.and_eq_true, beq_iff_eq] at hc
              exact hc.1.1.2
            have hv := h2
            simp only [chM, Ck.of] at hv
            split at hv
            · rename_i elt2 tg2 it2 ifs isa scope2 p2 q2
              cases q2
              simp only [Bool.and_eq_true, beq_iff_eq] at hv
              obtain ⟨⟨rfl, a1, a2, a3⟩, a4, a5, a6, a7⟩ := hv
              have ok' : OkV N L I rs H W (fun v H1 => gName i v σ H1 D.nx) ((evM T cf (.comp hh own tg one it cond elt)).v env g) := by
                revert ok
                cases (evM T cf (.comp hh own tg one it cond elt)).v env g with
                | stk => exact fun h => h
                | exc x g => exact fun h => h
                | ok d g1 => exact fun ok I' rs' H' v E R' r' => ok I' rs' H' _ E R' ((er.after E).set r')
              obtain ⟨t, bk, fs⟩ := lc_ok S.S (sm N P B T cf k ns it).2.2 (sm N P B T cf k ns cond).2.1 (sm N P B T cf k ns elt).1 a2 a3 a4 a5 a6 a7 R er ok'
              refine ws_of (ps_setLc S.S.F.hc nd b1 hyl sw wi bk (fun s H C cl fp => ?_) (fun s H C cl fp => ?_) (fun s H C cl fp => ?_) fs) t pins st J
              · exact ⟨fun pins s' _ _ _ u _ I r h => h s H C cl fp pins s' u I r⟩
              · exact ⟨fun pins s' _ _ _ I h => h s H C cl fp pins s' I⟩
              · exact ⟨fun pins s' _ _ _ I h => h s H C cl fp pins s' I⟩
            · exact Bool.noConfusion hv
        | _ => exact Bool.noConfusion h3
      | _ => exact Bool.noConfusion h3
  · exact Bool.noConfusion h
theorem ss_unp {is : List Nat} {c : E} : SSp N P B T cf k ns (.unp is c) := by
  intro sc W X S s h env g σ L I rs H D R er ok
  have ok : OkF N L I rs H W D (((evM T cf c).v env g).bind fun d g1 => match asgD g1 false is d env with | some env1 => .ok (.nx env1) g1 | none => .stk) := ok
  simp only [chS] at h
  split at h
  · rename_i es kk p e p2
    simp only [Bool.and_eq_true] at h
    obtain ⟨⟨h1, h2⟩, h3, h4⟩ := h
    refine ws_of (ps_asg we wg (sws_no h1) (ss_tup h2) rfl) (ev_go S h4 R er ok fun v1 H1 d1 g1 I1 rs1 R1 er1 e1 r1 ok1 => ?_)
    cases ha : asgD g1 false is d1 env with
    | none => rw [ha] at ok1; exact ok1.elim
    | some env1 =>
      rw [ha] at ok1
      exact tg_ok S.S (show tgB ns sc sc false is (.Tuple es kk p) = true from by unfold tgB; exact h3) R1 r1 ha er1 fun σ2 er2 ch => ok1.nx' R1 er2
  · exact Bool.noConfusion h
theorem ss_setI {o i c : E} : SSp N P B T cf k ns (.setI o i c) := by
  intro sc W X S s h env g σ L I rs H D R er ok
  have ok : OkF N L I rs H W D (((evM T cf c).v env g).bind fun y g1 => ((evM T cf o).v env g1).bind fun x g2 => ((evM T cf i).v env g2).bind fun z g3 => match setID g3 x z y with | some g4 => .ok (.nx env) g4 | none => .stk) := ok
  simp only [chS] at h
  split at h
  · rename_i o' i' p e p2
    simp only [Bool.and_eq_true] at h
    obtain ⟨⟨h1, h2⟩, h3, h4, h5⟩ := h
    have hset : ∀ v, assign (.Subscript o' i' p) X.env v = (do
      let ov ← holding [v] (eval o' X.env)
      let iv ← holding [v, ov] (eval i' X.env)
      standAt p
      holding [v, ov, iv] (setItem ov iv v)
      release [v, ov, iv] []) := by
      intro v
      cases i' <;> first | rfl | cases h2
    refine ws_of (ps_asg we (pg_sub we we (pset_any (by have := S.S.F.hV; omega)) hset) (sws_no h1) ss_sub rfl) (ev_go S h3 R er ok fun v1 H1 d1 g1 I1 rs1 R1 er1 e1 r1 ok1 => ev_go S h4 R1 er1 ok1 fun v2 H2 d2 g2 I2 rs2 R2 er2 e2 r2 ok2 => ev_go S h5 R2 er2 ok2 fun v3 H3 d3 g3 I3 rs3 R3 er3 e3 r3 ok3 => ?_)
    cases hs : setID g3 d2 d3 d1 with
    | none => rw [hs] at ok3; exact ok3.elim
    | some g4 =>
      rw [hs] at ok3
      exact setI_ok R3 (e3.vr r2) r3 (e3.vr (e2.vr r1)) hs fun H' E' R' => ok3 _ _ _ σ E' R' (er3.after E')
  · exact Bool.noConfusion h
theorem ss_aug {i : Nat} {o : Bop} {c : E} : SSp N P B T cf k ns (.aug i o c) := by
  intro sc W X S s h env g σ L I rs H D R er ok
  have ok : OkF N L I rs H W D (match env[i]? with
    | some (some x) => ((evM T cf c).v env g).bind fun y g1 => match augD g1 o x y with
      | some z => .ok (.nx (env.set i (some z))) g1
      | none => .stk
    | _ => .stk) := ok
  split at ok
  · rename_i x hx
    simp only [chS] at h
    split at h
    · rename_i y py p e p2
      simp only [Bool.and_eq_true] at h
      obtain ⟨⟨h1, h2⟩, h3⟩ := h
      obtain ⟨b1, b2, b3⟩ := nm_of S.S h1
      have nd : X.N.Nodup := by rw [S.S.hN]; exact S.S.nd
      obtain ⟨v0, q1, q2⟩ := er.2 _ _ hx
      have go : ∀ (ti : TIp), PIp X p ti → (∀ {g1 : G} {I1 : Hp} {rs1 : List Addr} {H1 : Hp} {d1 : PC.D} {v1 : V} {z : PC.D} {Q : VK}, Rel N L I1 rs1 g1 H1 → VR N I1 rs1 x v0 → VR N I1 rs1 d1 v1 → augD g1 o x d1 = some z → (∀ v, VR N I1 rs1 z v → Q v H1) → ti v0 v1 H1 Q) → WS X (.AugAssign (.Name y py) p e p2) D σ H := by
        intro ti hp ht
        refine ws_of (ps_aug nd b1 b2 we hp b3) ⟨v0, q1, ev_go S h3 R er ok fun v1 H1 d1 g1 I1 rs1 R1 er1 e1 r1 ok1 => ?_⟩
        cases ha : augD g1 o x d1 with
        | none => rw [ha] at ok1; exact ok1.elim
        | some z =>
          rw [ha] at ok1
          exact ht R1 (e1.vr q2) r1 ha fun v hv => ok1.nx' R1 (er1.set hv)
      unfold augB at h2
      split at h2
      · refine go _ ip_add fun {g1 I1 rs1 H1 d1 v1 z Q} R1 r0 r1 ha q => ?_
        cases x <;> cases d1 <;> simp only [augD] at ha <;> cases ha
        cases r0; cases r1
        exact ⟨_, _, rfl, rfl, q _ (.int _)⟩
      · refine go _ ip_sub fun {g1 I1 rs1 H1 d1 v1 z Q} R1 r0 r1 ha q => ?_
        cases x <;> cases d1 <;> simp only [augD] at ha <;> cases ha
        cases r0; cases r1
        exact ⟨_, _, rfl, rfl, q _ (.int _)⟩
      · exact Bool.noConfusion h2
    · exact Bool.noConfusion h
  · exact ok.elim
theorem ss_no {c : S} (h : ∀ sc s, chS N.toNz ns sc c s = false) : SSp N P B T cf k ns c := by
  intro sc W X S s hc
  rw [h] at hc
  cases hc
theorem ss_pass  : SSp N P B T cf k ns (.pass) := by
  intro sc W X S s h env g σ L I rs H D R er ok
  simp only [chS] at h
  split at h
  · exact ws_of ps_pass ((show OkF N L I rs H W D (.ok (.nx env) g) from ok).nx' R er)
  · exact Bool.noConfusion h

theorem ss_brk  : SSp N P B T cf k ns (.brk) := by
  intro sc W X S s h env g σ L I rs H D R er ok
  simp only [chS] at h
  split at h
  · exact ws_of ps_break ((show OkF N L I rs H W D (.ok (.bk env) g) from ok) I rs H σ .refl R er)
  · exact Bool.noConfusion h

theorem ss_cont  : SSp N P B T cf k ns (.cont) := by
  intro sc W X S s h env g σ L I rs H D R er ok
  simp only [chS] at h
  split at h
  · exact ws_of ps_continue ((show OkF N L I rs H W D (.ok (.ct env) g) from ok) I rs H σ .refl R er)
  · exact Bool.noConfusion h

theorem ss_ex {c : E} : SSp N P B T cf k ns (.ex c) := by
  intro sc W X S s h env g σ L I rs H D R er ok
  have ok : OkF N L I rs H W D (((evM T cf c).v env g).bind fun _ g1 => .ok (.nx env) g1) := ok
  simp only [chS] at h
  split at h
  · simp only [Bool.and_eq_true] at h
    exact ws_of (ps_expr we (sw_no h.1)) (ev_go S h.2 R er ok fun v1 H1 d1 g1 I1 rs1 R1 er1 e1 r1 ok1 => ok1.nx' R1 er1)
  · exact Bool.noConfusion h

theorem ss_ret {c : E} : SSp N P B T cf k ns (.ret c) := by
  intro sc W X S s h env g σ L I rs H D R er ok
  have ok : OkF N L I rs H W D (((evM T cf c).v env g).bind fun d g1 => .ok (.rt d) g1) := ok
  simp only [chS] at h
  split at h
  · exact ws_of (ps_ret we) (ev_go S h R er ok fun v1 H1 d1 g1 I1 rs1 R1 er1 e1 r1 ok1 => ok1 I1 rs1 H1 v1 .refl R1 r1)
  · exact Bool.noConfusion h

theorem ss_retN  : SSp N P B T cf k ns (.retN) := by
  intro sc W X S s h env g σ L I rs H D R er ok
  simp only [chS] at h
  split at h
  · exact ws_of ps_retN ((show OkF N L I rs H W D (.ok (.rt .non) g) from ok) I rs H .non .refl R .non)
  · exact Bool.noConfusion h

theorem ss_ite {c : E} {a : List S} {b : List S} (ha : SSsp N P B T cf k ns a) (hb : SSsp N P B T cf k ns b) : SSp N P B T cf k ns (.ite c a b) := by
  intro sc W X S s h env g σ L I rs H D R er ok
  have ok : OkF N L I rs H W D (((evM T cf c).t env g).bind fun t g1 => match t with | true => execs T cf a env g1 | false => execs T cf b env g1) := ok
  simp only [chS] at h
  split at h
  · simp only [Bool.and_eq_true] at h
    obtain ⟨h1, h2, h3⟩ := h
    refine ws_of (ps_if wt wss wss) (wt_mono ((sm N P B T cf k ns c).2.1 S.S h1 R er ok.first) fun t H1 ⟨t', g1, I1, rs1, e1, R1, et, ok1⟩ => ?_)
    subst et
    cases t' with
    | true => rw [if_pos rfl]; exact ha S h2 R1 (er.after e1) ok1
    | false => rw [if_neg Bool.false_ne_true]; exact hb S h3 R1 (er.after e1) ok1
  · exact Bool.noConfusion h

theorem ss_while_ {c : E} {b : List S} (hb : SSsp N P B T cf k ns b) : SSp N P B T cf k ns (.while_ c b) := by
  intro sc W X S s h env g σ L I rs H D R er ok
  have ok : OkF N L I rs H W D (whL (fun env g => (evM T cf c).t env g) (fun env g => execs T cf b env g) TURNS env g) := ok
  simp only [chS] at h
  split at h
  · simp only [Bool.and_eq_true] at h
    exact while_ok S (fun R er ok => (sm N P B T cf k ns c).2.1 S.S h.1 R er ok) (fun R er ok => hb S h.2 R er ok) R er ok
  · exact Bool.noConfusion h

theorem ss_for_ {one : Bool} {tg : List Nat} {it : E} {b : List S} (hb : SSsp N P B T cf k ns b) : SSp N P B T cf k ns (.for_ one tg it b) := by
  intro sc W X S s h env g σ L I rs H D R er ok
  have ok : OkF N L I rs H W D (((evM T cf it).i env g).bind fun xs g1 => freeR (forL (fun x env g => match asgD g one tg x env with
    | some env1 => execs T cf b env1 g
    | none => .stk) xs.1 env (lockG g1 xs.2)) xs.2) := ok
  simp only [chS] at h
  split at h
  · simp only [Bool.and_eq_true] at h
    exact for_ok S h.1.1 (fun ok => (sm N P B T cf k ns it).2.2 S.S h.1.2 R er ok) (fun R er ok => hb S h.2 R er ok) er ok
  · exact Bool.noConfusion h

theorem sss_nil : SSsp N P B T cf k ns [] := by
  intro sc W X S ss' h env g σ L I rs H D R er ok
  have : ss' = [] := by simpa [chSs] using h
  subst this
  exact wss_of pss_nil ((show OkF N L I rs H W D (.ok (.nx env) g) from ok).nx' R er)

theorem sss_cons {c : S} {cs : List S} (hc : SSp N P B T cf k ns c) (hr : SSsp N P B T cf k ns cs) : SSsp N P B T cf k ns (c :: cs) := by
  intro sc W X S ss' h env g σ L I rs H D R er ok
  cases ss' with
  | nil => simp [chSs] at h
  | cons s r =>
    simp only [chSs, Bool.and_eq_true] at h
    have ok : OkF N L I rs H W D ((exec T cf c env g).bind fun fl g1 => match fl with
      | .nx env1 => execs T cf cs env1 g1
      | fl => .ok fl g1) := ok
    refine wss_of (pss_cons ws wss) (hc S h.1 R er ?_)
    revert ok
    cases exec T cf c env g with
    | stk => exact fun h => h
    | exc x gx => exact fun h => h
    | ok fl g1 =>
      intro ok
      cases fl with
      | nx env1 => exact fun I' rs' H' σ' E R' er' => hr S h.2 R' er' (OkF.after (r := execs T cf cs env1 g1) ok E)
      | rt d => exact ok
      | bk env1 => exact ok
      | ct env1 => exact ok
mutual
theorem ss (N : Nm) (P : Program) (B : Heap) (T : Tab) (cf : CF) (k : Nat) (ns : List Str) : ∀ c : S, SSp N P B T cf k ns c
  | .pass => ss_pass
  | .brk => ss_brk
  | .cont => ss_cont
  | .ex c => ss_ex
  | .ret c => ss_ret
  | .retN => ss_retN
  | .set i e => ss_set
  | .unp is e => ss_unp
  | .par is es => ss_no fun _ _ => rfl
  | .setF f o e => ss_no fun _ _ => rfl
  | .setI o i e => ss_setI
  | .aug i o e => ss_aug
  | .augF f o p e => ss_no fun _ _ => rfl
  | .ite c a b => ss_ite (sss N P B T cf k ns a) (sss N P B T cf k ns b)
  | .while_ c b => ss_while_ (sss N P B T cf k ns b)
  | .for_ one tg it b => ss_for_ (sss N P B T cf k ns b)
  | .mtch e ks bs => ss_no fun _ _ => rfl
  | .raise c as => ss_no fun _ _ => rfl
theorem sss (N : Nm) (P : Program) (B : Heap) (T : Tab) (cf : CF) (k : Nat) (ns : List Str) : ∀ cs : List S, SSsp N P B T cf k ns cs
  | [] => sss_nil
  | c :: cs => sss_cons (ss N P B T cf k ns c) (sss N P B T cf k ns cs)
end
end
end PC
end
section
set_option maxHeartbeats 4000000
namespace PC
open PySem L2 PyProof.Rows
/-- a def's body run at a call, by its weakest reading; the guards around the call are none -/
theorem run_def {CX : CXT} {P : Program} {w : World} {K : PySem.W.Frag} {mg : Str → Option Value} {base : Heap} {k : Nat} {f : Addr} {name qual : Str} {params : Arguments} {body : List Stmt} {scope : Scope} {dV kV doc pm cdv ct oc : Value} {an od : Option Addr}
    {osl : Array (Option Value)} {N ps : List Str} (lk : K.lookup f = some ⟨oc, od, .func (PySem.W.fnOf name qual params body scope dV kV doc pm an cdv ct), osl⟩) (hcd : PySem.W.codeIn K cdv qual = true) (FS : FnScope N ps scope)
    {A : Around} {outer : List PySem.Env} {s : Shared} {H : Hp} {args : Args} {us : List Value} {vs : List V} {Q : VK} {E : XK} (room : Room (k + 1) A) (e0 : Env0 P w K mg base A outer s H)
    (bt : BindsTo s (PySem.W.fnOf name qual params body scope dV kV doc pm an cdv ct) args (ps.zip us)) (rv : Vals vs us) (len : vs.length = ps.length)
    (run : WSs (cxOf CX P w K mg base N qual scope f cdv A outer s H E) body { nx := fun _ H' => Q .non H', rt := Q } (L2.start N vs) H) :
    codeAny (model P w) A (.call (.ref f) args) (L2.CR CX outer P w H s Q E) s := by
  have inK : K.In s.heap := e0.mod.kin.keeps fun b o z => (e0.bs b o z).1
  have noLim : s.heap.NoLimit := e0.mod.nolimit.keeps fun b o z => (e0.bs b o z).1
  refine codeAny_call_function room.depth (inK _ _ lk) rfl FS.co FS.gen rfl (PySem.W.codeRec_of inK hcd) (bt _ _ _ _ ?_)
  have names : ∀ y ∈ ps.zip us, scope.names.lookup y.1 = some .local ∨ (scope.names.lookup y.1 = some .cell ∧ ((cellsFrom (s.heap.objs.size + 1) scope.names []).lookup y.1).isSome = true) := by
    rintro ⟨n, v⟩ hy
    rcases FS.par n (List.of_mem_zip hy).1 with z | z
    · exact .inl z
    · exact .inr ⟨z, PySem.W.cellsFrom_some _ _ _ (.inl z)⟩
  refine wpAny_newFunctionEnv_cells FS.kind names fun env he s1 x => ?_
  subst he
  refine ⟨noLim.keeps x.toInCall.keep, codeAny_func ?_⟩
  have J : Inv (cxOf CX P w K mg base N qual scope f cdv A outer s H E) [] (L2.start N vs) H s1 := inv_start FS room.hd e0 len rv x
  refine wpAny_mono (run [] s1 J) (fun fl s' hs => ?_) fun e s' hs => hs
  cases fl with
  | ret u =>
    obtain ⟨v, σ', H', J', r', q⟩ := hs
    exact ⟨v, H', J'.os, J'.bare, J'.base, J'.hok, r', q⟩
  | next =>
    obtain ⟨σ', H', J', q⟩ := hs
    exact ⟨.non, H', J'.os, J'.bare, J'.base, J'.hok, rfl, q⟩
  | brk => exact hs.elim fun _ h => h.elim fun _ h => h.2.elim
  | cont => exact hs.elim fun _ h => h.elim fun _ h => h.2.elim
/-- what is true of a def of the table -/
structure DF (N : Nm) (f : Nat) (F : Fn) : Prop where
  pl : F.dfl = [] ∧ F.va = false ∧ F.iso = false
  np : (N.pn f).length = F.np
  ex : ∃ (x qual : Str) (params : Arguments) (body : List Stmt) (scope : Scope) (fd : FuncData) (ns : List Str), FunD N.K x qual params body scope [] [] (N.fa f) fd ∧ FnScope ns (N.pn f) scope ∧ ns.length = F.nn ∧ chSs N.toNz ns scope F.body body = true ∧
    ∀ (kV doc pm : Value) (an : Option Addr) (cdv ct : Value) (us : List Value) (j : Nat), us.length = (N.pn f).length → bindArgs (PySem.W.fnOf x qual params body scope .none kV doc pm an cdv ct) ⟨us.take j, ((N.pn f).drop j).zip (us.drop j)⟩ = pure ((N.pn f).zip us)
theorem er_start {N : Nm} {I : Hp} {rs : List Addr} {ds : List D} {vs : List V} {ns : List Str} (h : VRs N I rs ds vs) : ER N I rs (ds.map some ++ List.replicate (ns.length - ds.length) none) (L2.start ns vs) := by
  have e := h.length
  refine ⟨by simp [L2.start, e], fun i d q => ?_⟩
  by_cases hi : i < ds.length
  · rw [List.getElem?_append_left (by simpa using hi)] at q
    simp only [List.getElem?_map, Option.map_eq_some_iff] at q
    obtain ⟨d', q, q2⟩ := q
    cases q2
    obtain ⟨v, h1, h2⟩ := h.get q
    refine ⟨v, ?_, h2⟩
    unfold L2.start
    rw [List.getElem?_append_left (by simp; omega), List.getElem?_map, h1]
    rfl
  · rw [List.getElem?_append_right (by simp; omega)] at q
    rw [List.getElem?_replicate] at q
    split at q <;> cases q
theorem okF_end {N : Nm} {L I : Hp} {rs : List Addr} {H : Hp} {W : XK} {Q : VK} {r : R Fl} (ok : OkV N L I rs H W Q (endR r)) : OkF N L I rs H W { nx := fun _ H' => Q .non H', rt := Q } r := by
  cases r with
  | stk => exact ok
  | exc x g => exact ok
  | ok fl g =>
    cases fl with
    | nx env => exact fun I' rs' H' σ E R er => ok I' rs' H' .non E R .non
    | rt d => exact ok
    | bk env => exact ok.elim
    | ct env => exact ok.elim
theorem pr_zero {N : Nm} {P : Program} {B : Heap} {T : Tab} {k : Nat} : PR N P B k (call T 0) := fun f ds g ws L I rs H Q E R hv ok => ok.elim
theorem pr_succ {N : Nm} {P : Program} {B : Heap} {T : Tab} {k n : Nat} (fa : PFa N T) (df : ∀ f F, T.fn f = some F → DF N f F) (h : PR N P B k (call T n)) : PR N P B (k + 1) (call T (n + 1)) := by
  intro f ds g ws L I rs H Q E R hv ok j A outer s us room hg e0 rv
  have ok : OkV N L I rs H E Q (match T.fn f with | some F => runF T (call T n) F ds g | none => .stk) := ok
  cases hF : T.fn f with
  | none => rw [hF] at ok; exact ok.elim
  | some F =>
    rw [hF] at ok
    obtain ⟨⟨p1, p2, p3⟩, np, x, qual, params, body, scope, fd, ns, FD, FS, nn, hc, hb⟩ := df f F hF
    obtain ⟨oc, od, dV, kV, doc, pm, an, cdv, ct, osl, rfl, lk, hcd, hD, _⟩ := FD.ex
    obtain rfl : dV = .none := by
      rcases hD with ⟨_, e⟩ | ⟨e, _⟩
      · exact e
      · exact absurd rfl e
    have ok : OkV N L I rs H E Q (runF T (call T n) F ds g) := ok
    unfold runF bindA at ok
    rw [p1, p2, p3] at ok
    simp only [Bool.false_eq_true, if_false, List.length_nil, Nat.add_zero, Nat.zero_sub, List.drop_nil, List.append_nil] at ok
    by_cases hl : ds.length ≤ F.np ∧ F.np ≤ ds.length
    · rw [if_pos hl] at ok
      simp only at ok
      have el : ws.length = (N.pn f).length := by rw [← hv.length, np]; omega
      have eu : us.length = (N.pn f).length := by rw [← rv.length]; exact el
      refine run_def (N := ns) lk hcd FS room e0 (.of_eq (hb kV doc pm an cdv ct us j eu)) rv el ?_
      have X : XD N P B T (call T n) k ns scope E (cxOf (L2.CX P N.w) P N.w N.K N.mg B ns qual scope (N.fa f) cdv A outer s H E) := by
        have rd := room.deeper (envOfC qual scope s.heap.objs.size (N.fa f) cdv)
        refine ⟨⟨⟨rfl, rfl, ?_, rfl, ?_⟩, rfl, rfl, rfl, rfl, FS.nd, rfl, fun _ _ => rfl, rd, h, ?_, fa⟩, ?_⟩
        · have := rd.un
          show (A.deeper _).units + 80 < cLine
          omega
        · exact hg
        · intro pins σ H1 s1 e s2 J c
          exact passes_call (takes_of rfl rfl rfl rfl) (fun _ _ _ _ z => z) pins σ H1 s1 e s2 J c
        · exact passes_of rfl
      refine sss N P B T (call T n) k ns F.body X hc R (er_start hv) ?_
      rw [nn]
      exact okF_end ok
    · rw [if_neg hl] at ok
      exact ok.elim
theorem pr_all {N : Nm} {P : Program} {B : Heap} {T : Tab} (fa : PFa N T) (df : ∀ f F, T.fn f = some F → DF N f F) : ∀ n : Nat, PR N P B n (call T n)
  | 0 => pr_zero
  | n + 1 => pr_succ fa df (pr_all fa df n)
end PC
end
section
set_option maxHeartbeats 4000000
namespace PC
open PySem L2 PyProof.Rows
theorem vr_ints {N : Nm} {I : Hp} {rs : List Addr} : ∀ ns : List Int, VRs N I rs (ns.map D.int) (ns.map V.int)
  | [] => .nil
  | i :: ns => .cons (.int i) (vr_ints ns)
/-- one list that is known to be the script, or nothing -/
def oneH (a : Addr) (o : Obj) (xs : List V) (b : Addr) : Option HO := if b = a then some (.frz o (.lst xs)) else none
theorem law_run {N : Nm} {P : Program} {T : Tab} {n lw : Nat} {mb : Str → Option Value} {a : Addr} {s1 : Shared} {vs : List Value} {ns : List Int} (KX : N.K.In s1.heap) (hG : s1.heap.Ns mainGlobals N.mg) (hB : s1.heap.Ns builtinsNs mb)
    (hbb : ∀ x : Str, x ≠ "__name__" → mb x = bootBuiltins x) (noLim : s1.heap.NoLimit) (hg : s1.gens = #[]) (ha : s1.heap.get? a = some { cls := .type "list", data := .seq vs.toArray }) (hi : IntsAre vs ns) (hl : ns.length ≤ sizeLine)
    (room : Room n callerA) (fa : PFa N T) (df : ∀ f F, T.fn f = some F → DF N f F) (hc : ∃ g, call T n lw [.lst (ns.map D.int)] [] = .ok (.bl true) g) :
    codeAny (model P N.w) callerA (.call (.ref (N.fa lw)) ⟨[.ref a], []⟩) (fun r s' => r = .ok (.ret (.bool true)) ∧ OldK s1.heap s'.heap ∧ s'.os = s1.os ∧ AllBare s'.gens) s1 := by
  obtain ⟨gE, hc⟩ := hc
  have rv := vals_ints hi
  have lenV := hi.length
  have from_ : ∀ H : Hp, SqX N.K H a (ns.map V.int) → HOk P N.w H s1.heap → (∀ b, H b ≠ none → b = a ∧ (∃ o xs, H b = some (.frz o (.lst xs))) ∧ N.K.lookup a = none) →
      codeAny (model P N.w) callerA (.call (.ref (N.fa lw)) ⟨[.ref a], []⟩) (fun r s' => r = .ok (.ret (.bool true)) ∧ OldK s1.heap s'.heap ∧ s'.os = s1.os ∧ AllBare s'.gens) s1 := by
    intro H hS hok hA
    have noD : ∀ {b : Addr} {o : Obj} {es : Array DictEntry} {ep : Nat}, s1.heap.get? b = some o → o.data = .dict es ep → H b = none := by
      intro b o es ep e d
      cases q : H b with
      | none => rfl
      | some u =>
        obtain ⟨z, _⟩ := hA b (by rw [q]; exact fun z => by cases z)
        rw [z, ha] at e
        cases e
        cases (show Data.seq vs.toArray _ = Data.dict es ep from d)
    have keepNs : ∀ {b : Addr} {m : Str → Option Value}, s1.heap.Ns b m → (hidT s1.heap H).Ns b m := by
      rintro b m ⟨o, es, ep, e, d, r⟩
      exact ⟨o, es, ep, hidT_get e (noD e d), d, r⟩
    have KB : N.K.In (hidT s1.heap H) := fun b o e => hidT_get (KX b o e) (by
      cases q : H b with
      | none => rfl
      | some u =>
        obtain ⟨z, _, z2⟩ := hA b (by rw [q]; exact fun z => by cases z)
        rw [z, z2] at e
        cases e)
    obtain ⟨mc, c1, c2⟩ := noLim
    have MB : Mod N.K N.mg (hidT s1.heap H) := ⟨KB, keepNs hG, ⟨mb, keepNs hB, hbb⟩, ⟨mc, keepNs c1, c2⟩⟩
    have e0 : Env0 P N.w N.K N.mg (hidT s1.heap H) callerA [] s1 H := ⟨rfl, MB, fun _ _ z => of_hidT z, Nat.le_of_eq (hidT_size _ _), trivial, fun b z => (by cases z), hok, .of_eq hg⟩
    have R0 : Rel N (fun _ => none) H [] [] H := ⟨Same.refl H, fun _ _ z => (by cases z), rfl, List.nodup_nil, fun _ z => (by cases z), fun _ _ _ z => (by cases z)⟩
    have pr := pr_all (P := P) (B := hidT s1.heap H) fa df n lw [.lst (ns.map D.int)] [] [.ref a] (fun _ => none) H [] H (fun v _ => v = .bl true) (fun _ _ _ => False) R0 (.one (.lst hS (vr_ints ns)))
      (by rw [hc]; exact fun I' rs' H' b _ _ r => by cases r; rfl) 1 callerA [] s1 [.ref a] room rfl e0 (.cons rfl .nil)
    have pr : codeAny (model P N.w) callerA (.call (.ref (N.fa lw)) ⟨[.ref a], ((N.pn lw).drop 1).zip []⟩) (L2.CR (L2.CX P N.w) [] P N.w H s1 (fun v _ => v = .bl true) fun _ _ _ => False) s1 := pr
    rw [List.zip_nil_right] at pr
    refine codeAny_mono pr fun r s' h => ?_
    cases r with
    | error e =>
      obtain ⟨_, _, _, _, _, _, _, _, _, _, _, _, z⟩ := h
      exact z.elim
    | ok fl =>
      cases fl with
      | next => exact False.elim h
      | brk => exact False.elim h
      | cont => exact False.elim h
      | ret u =>
        obtain ⟨v, H', os, bare, un, hok', r', q⟩ := h
        have q : v = .bl true := q
        subst q
        obtain rfl : u = Value.bool true := r'
        refine ⟨rfl, OldK.of_keep fun b o e => ?_, os, bare⟩
        cases q : H b with
        | none => exact un.keep b o e q (fun z => by cases z) (fun z => by cases z)
        | some t =>
          obtain ⟨_, ⟨ob, xs, z⟩, _⟩ := hA b (by rw [q]; exact fun z => by cases z)
          obtain ⟨e1, _⟩ := hok b _ z
          obtain ⟨e2, _⟩ := hok' b _ (un.frzs b ob _ z)
          rw [e] at e1
          cases e1
          exact e2
  cases hk : N.K.lookup a with
  | some o =>
    have e := KX a o hk
    rw [ha] at e
    cases e
    exact from_ (fun _ => none) (.inr ⟨vs.toArray, _, hk, by rw [List.size_toArray, lenV]; exact hl, by simpa using rv⟩) (fun b u z => by cases z) fun b z => absurd rfl z
  | none =>
    refine from_ (oneH a { cls := .type "list", data := .seq vs.toArray } (ns.map V.int)) (.inl (.inr ⟨_, if_pos rfl⟩)) (fun b u z => ?_) fun b z => ?_
    · unfold oneH at z
      split at z
      · rename_i hb
        cases z
        subst hb
        exact ⟨ha, by rw [List.length_map]; exact hl, vs, _, rv, ha⟩
      · cases z
    · unfold oneH at z ⊢
      by_cases hb : b = a
      · exact ⟨hb, ⟨_, _, if_pos hb⟩, hk⟩
      · exact absurd (if_neg hb) z
/-- the goal of the head, from the law's run on data -/
theorem law_walk {l : PySem.W.OpenLaw} {m n : Nat} {q : Program} {loose : List Str} {XP : (Str → Option Value) → Heap → Prop} {YP : World → Heap → Prop} {d : DefRec} {T : Tab} {lw : Nat}
    (hm : l.most = some m) (hm2 : m ≤ sizeLine) (hd : d.params.defaults = []) (room : Room n callerA)
    (hF : ∀ w mg h, YP w h → h.Ns mainGlobals mg → ∃ N : Nm, N.w = w ∧ N.mg = mg ∧ N.K.In h ∧ PFa N T ∧ (∀ f F, T.fn f = some F → DF N f F) ∧ mg d.name = some (.ref (N.fa lw)))
    (hc : ∀ ns : List Int, ns.length ≤ m → ∃ g, call T n lw [.lst (ns.map D.int)] [] = .ok (.bl true) g) :
    PySem.W.WalkO q loose XP YP l.row.toRowW d [] (fun f vs => PySem.call f vs) := by
  refine Att.attach_call hm hd fun w s0 s1 mg mb fa o pm cd doc a vs ns G Y ho hfd hcd hmg hobj hints hlen hg => ?_
  obtain ⟨N, e1, e2, hK, f1, f2, f3⟩ := hF w mg _ Y G.T.g
  have e : fa = N.fa lw := by
    rw [hmg] at f3
    cases f3
    rfl
  subst e
  have h := law_run (N := N) (P := l.prog) (T := T) (n := n) (lw := lw) hK (by rw [e2]; exact G.T.g) G.T.b G.T.builtins G.T.nolimit hg hobj hints (Nat.le_trans hlen hm2) room f1 f2 (hc ns hlen)
  rw [e1] at h
  exact h
end PC
end
section
set_option maxHeartbeats 4000000
namespace PC
open PySem L2 PyProof.Rows
/-- a value of the module is that data -/
def valB (K : PySem.W.Frag) : Nat → D → Value → Bool
  | 0, _, _ => false
  | n + 1, d, u => match d, u with
    | .non, .none => true
    | .bl b, .bool c => b == c
    | .int i, .int j _ => i == j
    | .str s, .str x _ => s == x.cps.toList
    | .tup ds, .ref a => (match K.lookup a with
      | some ⟨.type "tuple", _, .seq its _, _⟩ => decide (its.size ≤ sizeLine) && go n ds its.toList
      | _ => false)
    | .lst ds, .ref a => (match K.lookup a with
      | some ⟨.type "list", none, .seq its _, sl⟩ => (sl.isEmpty && decide (its.size ≤ sizeLine)) && go n ds its.toList
      | _ => false)
    | _, _ => false
where go (n : Nat) : List D → List Value → Bool
  | [], [] => true
  | d :: ds, u :: us => valB K n d u && go n ds us
  | _, _ => false
theorem valB_ok {N : Nm} : ∀ (n : Nat) (d : D) (u : Value), valB N.K n d u = true → ∃ v, RelV v u ∧ VR N (fun _ => none) [] d v
  | 0, _, _, h => by simp [valB] at h
  | n + 1, d, u, h => by
    have many : ∀ (ds : List D) (us : List Value), valB.go N.K n ds us = true → ∃ vs, Vals vs us ∧ VRs N (fun _ => none) [] ds vs := by
      intro ds
      induction ds with
      | nil =>
        intro us h
        cases us with
        | nil => exact ⟨[], .nil, .nil⟩
        | cons _ _ => exact Bool.noConfusion h
      | cons d ds ih =>
        intro us h
        cases us with
        | nil => exact Bool.noConfusion h
        | cons u us =>
          have h : (valB N.K n d u && valB.go N.K n ds us) = true := h
          simp only [Bool.and_eq_true] at h
          obtain ⟨v, r1, r2⟩ := valB_ok n d u h.1
          obtain ⟨vs, q1, q2⟩ := ih us h.2
          exact ⟨v :: vs, .cons r1 q1, .cons r2 q2⟩
    unfold valB at h
    split at h
    · exact ⟨.non, rfl, .non⟩
    · have := eq_of_beq h; subst this
      exact ⟨.bl _, rfl, .bl _⟩
    · have := eq_of_beq h; subst this
      exact ⟨.int _, ⟨_, rfl⟩, .int _⟩
    · rename_i x t
      have := eq_of_beq h; subst this
      exact ⟨.str (st x.cps.toList), by rw [st_of]; exact ⟨t, rfl⟩, .str _⟩
    · rename_i ds a
      split at h
      · rename_i od its m sl e
        simp only [Bool.and_eq_true, decide_eq_true_eq] at h
        obtain ⟨vs, q1, q2⟩ := many ds _ h.2
        exact ⟨.ref a, rfl, .tup (.inr ⟨_, its, m, e, rfl, rfl, h.1, q1⟩) q2⟩
      · exact Bool.noConfusion h
    · rename_i ds a
      split at h
      · rename_i its m sl e
        simp only [Bool.and_eq_true, decide_eq_true_eq] at h
        obtain ⟨vs, q1, q2⟩ := many ds _ h.2
        have es : sl = #[] := by simpa using h.1.1
        subst es
        exact ⟨.ref a, rfl, .lst (.inr ⟨its, m, e, h.1.2, q1⟩) q2⟩
      · exact Bool.noConfusion h
    · exact Bool.noConfusion h
/-- a def of the text: its name, its parameters, its names, its code, itself -/
structure Pd where
  x : Str
  ps : List Str
  ns : List Str
  F : Fn
  d : He.DefD
/-- what is used of a text: constants, defs, names of the language -/
structure Prg where
  gl : List (Str × D)
  fs : List Pd
  bl : List Str
def Prg.z (p : Prg) : Nz where
  nm := fun _ => ""
  gn := fun i => ((p.gl[i]?).map (·.1)).getD ""
  fnm := fun i => ((p.fs[i]?).map (·.x)).getD ""
  pn := fun i => ((p.fs[i]?).map (·.ps)).getD []
  cn := fun _ => ""
  fg := fun i => decide (i < p.fs.length)
  cg := fun _ => false
  bn := fun x => p.bl.contains x
def Prg.T (p : Prg) : Tab where
  fn := fun i => (p.fs[i]?).map (·.F)
  mt := fun _ _ => none
  glo := fun i => (p.gl[i]?).map (·.2)
  rcd := fun _ => none
  ini := fun _ => none
  exf := fun _ => none
  sub := fun _ _ => false
def Prg.look (p : Prg) (K : PySem.W.Frag) : Bool := p.fs.all (fun d => (He.Fa.glo d.x).ok K && d.d.ok K) && (p.bl.all (fun x => (He.Fa.free x).ok K) && p.gl.all (fun q => match PySem.W.nsIn K mainGlobals q.1 with
  | some (some u) => valB K 20 q.2 u
  | _ => false))
def Prg.obs (p : Prg) (K : PySem.W.Frag) : He.AlD := (p.look K, p.fs.map fun d => He.fnW K d.d.at_)
def Prg.val (p : Prg) : He.AlD := (true, p.fs.map fun d => d.d.val)
def Prg.obsG (p : Prg) (n : Nat) (g : Addr → Option Obj) : He.AlD := p.obs (He.frG g (He.asD g n))
def Prg.hook (p : Prg) (n : Nat) : PySem.W.Hook where
  α := He.AlD
  obs := fun s => p.obsG n s.heap.get?
  val := fun _ => p.val
  says := fun _ h => ∃ K : PySem.W.Frag, K.In h ∧ p.obs K = p.val
  of := fun _ _ e => ⟨_, He.frG_in, e⟩
  keeps := fun _ _ _ ⟨K, hK, c⟩ k => ⟨K, PySem.W.Frag.In.keeps hK k, c⟩
theorem Prg.obs_eq {p : Prg} {n : Nat} {g : Addr → Option Obj} {s : Shared} (h : ∀ a, g a = s.heap.get? a) : p.obsG n g = (p.hook n).obs s := by
  rw [show g = s.heap.get? from funext h]
  rfl
/-- what is seen of the text alone -/
def Pd.chk (z : Nz) (d : Pd) : Bool := (decide (d.d.at_ = (d.x, none)) && (d.d.dfl.isEmpty && d.d.kwd.isEmpty)) && ((d.F.dfl.isEmpty && (!d.F.va && !d.F.iso)) && ((d.ps.length == d.F.np && d.ns.length == d.F.nn) && (C8.scC d.ns d.ps d.d.scope && chSs z d.ns d.d.scope d.F.body d.d.body)))
def Pd.binds (d : Pd) : Prop := ∀ (kV doc pm : Value) (an : Option Addr) (cdv ct : Value) (us : List Value) (j : Nat), us.length = d.ps.length → bindArgs (PySem.W.fnOf d.d.name d.d.qual d.d.params d.d.body d.d.scope .none kV doc pm an cdv ct) ⟨us.take j, (d.ps.drop j).zip (us.drop j)⟩ = pure (d.ps.zip us)
def Pd.bd (d : Pd) (j : Nat) (us : List Value) : Prop := ∀ (kV doc pm : Value) (an : Option Addr) (cdv ct : Value), bindArgs (PySem.W.fnOf d.d.name d.d.qual d.d.params d.d.body d.d.scope .none kV doc pm an cdv ct) ⟨us.take j, (d.ps.drop j).zip (us.drop j)⟩ = pure (d.ps.zip us)
theorem Pd.binds_of {d : Pd} (h : ∀ us : List Value, us.length = d.ps.length → ∀ j, j ≤ d.ps.length → d.bd j us) : d.binds := by
  intro kV doc pm an cdv ct us j hl
  by_cases hj : j ≤ d.ps.length
  · exact h us hl j hj kV doc pm an cdv ct
  · have e := h us hl d.ps.length (Nat.le_refl _) kV doc pm an cdv ct
    have e1 : us.take j = us.take d.ps.length := by rw [List.take_of_length_le (by omega), List.take_of_length_le (by omega)]
    have e2 : d.ps.drop j = d.ps.drop d.ps.length := by rw [List.drop_of_length_le (by omega), List.drop_of_length_le (Nat.le_refl _)]
    rw [e1, e2, List.drop_length, List.zip_nil_left]
    rw [List.drop_length, List.zip_nil_left] at e
    exact e
theorem Prg.ok {p : Prg} (hc : p.fs.all (fun d => d.chk p.z) = true) (hb : ∀ d ∈ p.fs, d.binds) {w : World} {mg : Str → Option Value} {h : Heap} {K : PySem.W.Frag} (X : K.In h) (G : h.Ns mainGlobals mg) (c : p.obs K = p.val) :
    ∃ N : Nm, N.w = w ∧ N.mg = mg ∧ N.K.In h ∧ PFa N p.T ∧ (∀ f F, p.T.fn f = some F → DF N f F) ∧ ∀ (i : Nat) (d : Pd), p.fs[i]? = some d → mg d.x = some (.ref (N.fa i)) := by
  have c1 : p.look K = true := congrArg (fun z : He.AlD => z.1) c
  have c2 : (p.fs.map fun d => He.fnW K d.d.at_) = p.fs.map fun d => d.d.val := congrArg (fun z : He.AlD => z.2) c
  unfold Prg.look at c1
  simp only [Bool.and_eq_true, List.all_eq_true] at c1
  obtain ⟨k1, k2, k3⟩ := c1
  have at1 : ∀ (i : Nat) (d : Pd), p.fs[i]? = some d → mg d.x = some (.ref (He.ga K d.x)) := fun i d e => He.glo_ok X G (k1 d (List.mem_of_getElem? e)).1
  have fun_ : ∀ (i : Nat) (d : Pd), p.fs[i]? = some d → ∃ fd, FunD K d.d.name d.d.qual d.d.params d.d.body d.d.scope (d.d.dvs K) (d.d.kws K) (He.fAd K d.d.at_) fd := fun i d e => by
    have e2 : (p.fs.map fun d => He.fnW K d.d.at_)[i]? = (p.fs.map fun d => d.d.val)[i]? := by rw [c2]
    rw [List.getElem?_map, List.getElem?_map, e] at e2
    exact He.DefD.funD (Option.some.inj e2) (k1 d (List.mem_of_getElem? e)).2
  refine ⟨{ p.z with K := K, w := w, mg := mg, fa := fun i => He.ga K (p.z.fnm i), ca := fun _ => 0 }, rfl, rfl, X, ⟨fun x hx => ?_, fun i d hd => ?_, fun f hf => ?_⟩, fun f F hF => ?_, fun i d e => ?_⟩
  · have hx : p.bl.contains x = true := hx
    exact He.free_ok X G (k2 x (by simpa using hx))
  · have hd : (p.gl[i]?).map (·.2) = some d := hd
    simp only [Option.map_eq_some_iff] at hd
    obtain ⟨q, hq, rfl⟩ := hd
    have h3 := k3 q (List.mem_of_getElem? hq)
    split at h3
    · rename_i u hu
      obtain ⟨v, r1, r2⟩ := valB_ok (N := { p.z with K := K, w := w, mg := mg, fa := fun i => He.ga K (p.z.fnm i), ca := fun _ => 0 }) 20 q.2 u h3
      refine ⟨v, u, ?_, r1, r2⟩
      show mg (((p.gl[i]?).map (·.1)).getD ("" : Str)) = some u
      rw [hq]
      exact PySem.W.mg_of X G hu
    · exact Bool.noConfusion h3
  · have hf : decide (f < p.fs.length) = true := hf
    have hf : f < p.fs.length := of_decide_eq_true hf
    have e := List.getElem?_eq_getElem hf
    obtain ⟨fd, FD⟩ := fun_ f _ e
    have ck := List.all_eq_true.mp hc _ (List.mem_of_getElem? e)
    unfold Pd.chk at ck
    simp only [Bool.and_eq_true, decide_eq_true_eq] at ck
    have h1 := at1 f _ e
    have kp := FD.kp
    rw [ck.1.1] at kp
    have e3 : p.z.fnm f = (p.fs[f]).x := by
      show ((p.fs[f]?).map (·.x)).getD ("" : Str) = _
      rw [e]; rfl
    constructor
    · show mg (p.z.fnm f) = some (.ref (He.ga K (p.z.fnm f)))
      rw [e3]; exact h1
    · show PySem.W.keepIn K (.ref (He.ga K (p.z.fnm f))) = true
      rw [e3]; exact kp
  · have hF : (p.fs[f]?).map (·.F) = some F := hF
    simp only [Option.map_eq_some_iff] at hF
    obtain ⟨d, e, rfl⟩ := hF
    obtain ⟨fd, FD⟩ := fun_ f d e
    have ck := List.all_eq_true.mp hc _ (List.mem_of_getElem? e)
    unfold Pd.chk at ck
    simp only [Bool.and_eq_true, decide_eq_true_eq, List.isEmpty_iff, Bool.not_eq_true', beq_iff_eq] at ck
    obtain ⟨⟨a1, a2, a3⟩, ⟨b1, b2, b3⟩, ⟨c1, c2⟩, d1, d2⟩ := ck
    have ep : p.z.pn f = d.ps := by
      show ((p.fs[f]?).map (·.ps)).getD [] = _
      rw [e]; rfl
    have ef : p.z.fnm f = d.x := by
      show ((p.fs[f]?).map (·.x)).getD ("" : Str) = _
      rw [e]; rfl
    have FD : FunD K d.d.name d.d.qual d.d.params d.d.body d.d.scope [] [] (He.ga K (p.z.fnm f)) fd := by
      have q1 : d.d.dvs K = [] := by unfold He.DefD.dvs; rw [a2]; rfl
      have q2 : d.d.kws K = [] := by unfold He.DefD.kws; rw [a3]; rfl
      rw [q1, q2, a1] at FD
      rw [ef]
      exact FD
    refine ⟨⟨b1, b2, b3⟩, ?_, d.d.name, d.d.qual, d.d.params, d.d.body, d.d.scope, fd, d.ns, FD, ?_, c2, d2, fun kV doc pm an cdv ct us j hl => ?_⟩
    · show (p.z.pn f).length = d.F.np
      rw [ep]; exact c1
    · show FnScope d.ns (p.z.pn f) d.d.scope
      rw [ep]; exact C8.fnScope_by d1
    · show bindArgs _ ⟨us.take j, ((p.z.pn f).drop j).zip (us.drop j)⟩ = pure ((p.z.pn f).zip us)
      rw [ep]
      exact hb d (List.mem_of_getElem? e) kV doc pm an cdv ct us j (by
        have hl : us.length = (p.z.pn f).length := hl
        rw [ep] at hl; exact hl)
  · show mg d.x = some (.ref (He.ga K (p.z.fnm i)))
    have ef : p.z.fnm i = d.x := by
      show ((p.fs[i]?).map (·.x)).getD ("" : Str) = _
      rw [e]; rfl
    rw [ef]
    exact at1 i d e
end PC
end
section
set_option maxHeartbeats 4000000
namespace PC
/-- a turn of a loop -/
def forF (T : Tab) (cf : CF) (one : Bool) (tg : List Nat) (b : List S) (x : D) (env : Env) (g : G) : R Fl := match asgD g one tg x env with
  | some env1 => execs T cf b env1 g
  | none => .stk
section
variable (T : Tab) (cf : CF) (env : Env) (g : G)
theorem b_ok {α β : Type} (a : α) (g : G) (k : α → G → R β) : (R.ok a g).bind k = k a g := (rfl)
theorem v_loc (i : Nat) : (evM T cf (.loc i)).v env g = match env[i]? with | some (some d) => .ok d g | _ => .stk := (rfl)
theorem v_con (d : D) : (evM T cf (.con d)).v env g = .ok d g := (rfl)
theorem v_glo (n : Nat) : (evM T cf (.glo n)).v env g = opt (T.glo n) g := (rfl)
theorem v_bin (o : Bop) (a b : E) : (evM T cf (.bin o a b)).v env g = ((evM T cf a).v env g).bind fun x g1 => ((evM T cf b).v env g1).bind fun y g2 => opt (binD g2 o x y) g2 := (rfl)
theorem v_not (a : E) : (evM T cf (.not_ a)).v env g = ((evM T cf a).v env g).bind fun x g1 => opt ((tru g1 x).map fun b => .bl (!b)) g1 := (rfl)
theorem v_and (a b : E) : (evM T cf (.and_ a b)).v env g = ((evM T cf a).v env g).bind fun x g1 => match tru g1 x with | some true => (evM T cf b).v env g1 | some false => .ok x g1 | none => .stk := (rfl)
theorem v_or (a b : E) : (evM T cf (.or_ a b)).v env g = ((evM T cf a).v env g).bind fun x g1 => match tru g1 x with | some true => .ok x g1 | some false => (evM T cf b).v env g1 | none => .stk := (rfl)
theorem v_cmp (o : Cop) (a b : E) : (evM T cf (.cmp o a b)).v env g = ((evM T cf a).v env g).bind fun x g1 => ((evM T cf b).v env g1).bind fun y g2 => opt ((cmpD g2 o x y).map .bl) g2 := (rfl)
theorem v_chain (o p : Cop) (a b c : E) : (evM T cf (.chain o p a b c)).v env g = ((evM T cf a).v env g).bind fun x g1 => ((evM T cf b).v env g1).bind fun y g2 => match cmpD g2 o x y with
    | some true => ((evM T cf c).v env g2).bind fun z g3 => opt ((cmpD g3 p y z).map .bl) g3
    | some false => .ok (.bl false) g2
    | none => .stk := (rfl)
theorem v_call (f : Nat) (as : List E) : (evM T cf (.call f as)).v env g = (evs T cf as env g).bind fun vs g1 => cf f vs g1 := (rfl)
theorem v_callK (f : Nat) (as es : List E) : (evM T cf (.callK f as es)).v env g = (evs T cf as env g).bind fun vs g1 => (evs T cf es env g1).bind fun ws g2 => cf f (vs ++ ws) g2 := (rfl)
theorem v_bi (b : Bi) (as : List E) : (evM T cf (.bi b as)).v env g = (evs T cf as env g).bind fun vs g1 => biD g1 b vs := (rfl)
theorem v_isi (t : List Ty) (a : E) : (evM T cf (.isi t a)).v env g = ((evM T cf a).v env g).bind fun x g1 => opt ((anyTy T g1 x t).map .bl) g1 := (rfl)
theorem v_bm (m : Bm) (o : E) (as : List E) : (evM T cf (.bm m o as)).v env g = ((evM T cf o).v env g).bind fun x g1 => match bmT g1 m x with | true => (evs T cf as env g1).bind fun vs g2 => bmD g2 m x vs | false => .stk := (rfl)
theorem v_sub (o i : E) : (evM T cf (.sub o i)).v env g = ((evM T cf o).v env g).bind fun x g1 => ((evM T cf i).v env g1).bind fun y g2 => opt (subD g2 x y) g2 := (rfl)
theorem v_tup (as : List E) : (evM T cf (.tup as)).v env g = (evs T cf as env g).bind fun vs g1 => if decide (vs.length ≤ LIM) then .ok (.tup vs) g1 else .stk := (rfl)
theorem v_lst (h : Bool) (as : List E) : (evM T cf (.lst h as)).v env g = (evs T cf as env g).bind fun vs g1 => mkL h vs g1 := (rfl)
theorem v_dct (h : Bool) (ks : List DK) (es : List E) : (evM T cf (.dct h ks es)).v env g = (evs T cf es env g).bind fun vs g1 =>
    if decide (vs.length = ks.length ∧ ks.Nodup ∧ ks.length ≤ 15) then (if h then .ok (.ref g1.length) (g1 ++ [.dct ks vs]) else .ok (.dct ks vs) g1) else .stk := (rfl)
theorem v_comp (h : Bool) (own tg : List Nat) (one : Bool) (it cond elt : E) : (evM T cf (.comp h own tg one it cond elt)).v env g = ((evM T cf it).i env g).bind fun xs g1 => compR h own tg one (evM T cf cond).c (evM T cf elt).v env xs g1 := (rfl)
theorem t_not (a : E) : (evM T cf (.not_ a)).t env g = ((evM T cf a).t env g).bind fun t g1 => .ok (!t) g1 := (rfl)
theorem t_and (a b : E) : (evM T cf (.and_ a b)).t env g = ((evM T cf a).t env g).bind fun t g1 => match t with | true => (evM T cf b).t env g1 | false => .ok false g1 := (rfl)
theorem t_or (a b : E) : (evM T cf (.or_ a b)).t env g = ((evM T cf a).t env g).bind fun t g1 => match t with | true => .ok true g1 | false => (evM T cf b).t env g1 := (rfl)
theorem t_loc (i : Nat) : (evM T cf (.loc i)).t env g = ((evM T cf (.loc i)).v env g).bind fun x g1 => opt (tru g1 x) g1 := (rfl)
theorem t_cmp (o : Cop) (a b : E) : (evM T cf (.cmp o a b)).t env g = ((evM T cf (.cmp o a b)).v env g).bind fun x g1 => opt (tru g1 x) g1 := (rfl)
theorem t_chain (o p : Cop) (a b c : E) : (evM T cf (.chain o p a b c)).t env g = ((evM T cf (.chain o p a b c)).v env g).bind fun x g1 => opt (tru g1 x) g1 := (rfl)
theorem t_call (f : Nat) (as : List E) : (evM T cf (.call f as)).t env g = ((evM T cf (.call f as)).v env g).bind fun x g1 => opt (tru g1 x) g1 := (rfl)
theorem t_isi (t : List Ty) (a : E) : (evM T cf (.isi t a)).t env g = ((evM T cf (.isi t a)).v env g).bind fun x g1 => opt (tru g1 x) g1 := (rfl)
theorem t_sub (o i : E) : (evM T cf (.sub o i)).t env g = ((evM T cf (.sub o i)).v env g).bind fun x g1 => opt (tru g1 x) g1 := (rfl)
theorem i_loc (i : Nat) : (evM T cf (.loc i)).i env g = ((evM T cf (.loc i)).v env g).bind fun x g1 => opt (itemsD g1 x) g1 := (rfl)
theorem i_lst (h : Bool) (as : List E) : (evM T cf (.lst h as)).i env g = ((evM T cf (.lst h as)).v env g).bind fun x g1 => opt (itemsD g1 x) g1 := (rfl)
theorem i_range (as : List E) : (evM T cf (.range as)).i env g = (evs T cf as env g).bind fun vs g1 => rangeR vs g1 := (rfl)
theorem s_nil : evs T cf [] env g = .ok [] g := (rfl)
theorem s_cons (a : E) (r : List E) : evs T cf (a :: r) env g = ((evM T cf a).v env g).bind fun x g1 => match (evM T cf a).st with
    | true => (match seqD g1 x with
      | some xs => (evs T cf r env g1).bind fun ys g2 => .ok (xs ++ ys) g2
      | none => .stk)
    | false => (evs T cf r env g1).bind fun ys g2 => .ok (x :: ys) g2 := (rfl)
/-- a row without a star -/
theorem s_one (a : E) (r : List E) (h : (evM T cf a).st = false) : evs T cf (a :: r) env g = ((evM T cf a).v env g).bind fun x g1 => (evs T cf r env g1).bind fun ys g2 => .ok (x :: ys) g2 := by
  rw [s_cons, h]
theorem st_loc (i : Nat) : (evM T cf (.loc i)).st = false := (rfl)
theorem st_con (d : D) : (evM T cf (.con d)).st = false := (rfl)
theorem st_glo (i : Nat) : (evM T cf (.glo i)).st = false := (rfl)
theorem st_bin (o : Bop) (a b : E) : (evM T cf (.bin o a b)).st = false := (rfl)
theorem st_call (f : Nat) (as : List E) : (evM T cf (.call f as)).st = false := (rfl)
theorem st_callK (f : Nat) (as es : List E) : (evM T cf (.callK f as es)).st = false := (rfl)
theorem st_sub (a b : E) : (evM T cf (.sub a b)).st = false := (rfl)
theorem st_slc (a b c : E) : (evM T cf (.slc a b c)).st = false := (rfl)
theorem st_comp (h : Bool) (own tg : List Nat) (one : Bool) (it cond elt : E) : (evM T cf (.comp h own tg one it cond elt)).st = false := (rfl)
theorem st_lst (h : Bool) (as : List E) : (evM T cf (.lst h as)).st = false := (rfl)
theorem st_tup (as : List E) : (evM T cf (.tup as)).st = false := (rfl)
theorem st_bm (m : Bm) (o : E) (as : List E) : (evM T cf (.bm m o as)).st = false := (rfl)
theorem st_bi (b : Bi) (as : List E) : (evM T cf (.bi b as)).st = false := (rfl)
theorem st_isi (t : List Ty) (a : E) : (evM T cf (.isi t a)).st = false := (rfl)
theorem st_cmp (o : Cop) (a b : E) : (evM T cf (.cmp o a b)).st = false := (rfl)
theorem st_chain (o p : Cop) (a b c : E) : (evM T cf (.chain o p a b c)).st = false := (rfl)
theorem st_and_ (a b : E) : (evM T cf (.and_ a b)).st = false := (rfl)
theorem st_or_ (a b : E) : (evM T cf (.or_ a b)).st = false := (rfl)
theorem st_not_ (a : E) : (evM T cf (.not_ a)).st = false := (rfl)
theorem st_dct (h : Bool) (ks : List DK) (es : List E) : (evM T cf (.dct h ks es)).st = false := (rfl)
theorem st_frz (a : E) : (evM T cf (.frz a)).st = false := (rfl)
theorem st_ite (c a b : E) : (evM T cf (.ite c a b)).st = false := (rfl)
theorem st_neg (a : E) : (evM T cf (.neg a)).st = false := (rfl)
theorem v_frz (a : E) : (evM T cf (.frz a)).v env g = ((evM T cf a).v env g).bind fun x g1 => frzD x g1 := (rfl)
theorem v_ite (c a b : E) : (evM T cf (.ite c a b)).v env g = ((evM T cf c).t env g).bind fun t g1 => match t with | true => (evM T cf a).v env g1 | false => (evM T cf b).v env g1 := (rfl)
theorem s_loc (i : Nat) (r : List E) : evs T cf (.loc i :: r) env g = ((evM T cf (.loc i)).v env g).bind fun x g1 => (evs T cf r env g1).bind fun ys g2 => .ok (x :: ys) g2 := (rfl)
theorem s_con (d : D) (r : List E) : evs T cf (.con d :: r) env g = ((evM T cf (.con d)).v env g).bind fun x g1 => (evs T cf r env g1).bind fun ys g2 => .ok (x :: ys) g2 := (rfl)
theorem s_glo (i : Nat) (r : List E) : evs T cf (.glo i :: r) env g = ((evM T cf (.glo i)).v env g).bind fun x g1 => (evs T cf r env g1).bind fun ys g2 => .ok (x :: ys) g2 := (rfl)
theorem s_bin (o : Bop) (a b : E) (r : List E) : evs T cf (.bin o a b :: r) env g = ((evM T cf (.bin o a b)).v env g).bind fun x g1 => (evs T cf r env g1).bind fun ys g2 => .ok (x :: ys) g2 := (rfl)
theorem s_call (f : Nat) (as : List E) (r : List E) : evs T cf (.call f as :: r) env g = ((evM T cf (.call f as)).v env g).bind fun x g1 => (evs T cf r env g1).bind fun ys g2 => .ok (x :: ys) g2 := (rfl)
theorem s_callK (f : Nat) (as es : List E) (r : List E) : evs T cf (.callK f as es :: r) env g = ((evM T cf (.callK f as es)).v env g).bind fun x g1 => (evs T cf r env g1).bind fun ys g2 => .ok (x :: ys) g2 := (rfl)
theorem s_sub (a b : E) (r : List E) : evs T cf (.sub a b :: r) env g = ((evM T cf (.sub a b)).v env g).bind fun x g1 => (evs T cf r env g1).bind fun ys g2 => .ok (x :: ys) g2 := (rfl)
theorem s_slc (a b c : E) (r : List E) : evs T cf (.slc a b c :: r) env g = ((evM T cf (.slc a b c)).v env g).bind fun x g1 => (evs T cf r env g1).bind fun ys g2 => .ok (x :: ys) g2 := (rfl)
theorem s_comp (h : Bool) (own tg : List Nat) (one : Bool) (it cond elt : E) (r : List E) : evs T cf (.comp h own tg one it cond elt :: r) env g = ((evM T cf (.comp h own tg one it cond elt)).v env g).bind fun x g1 => (evs T cf r env g1).bind fun ys g2 => .ok (x :: ys) g2 := (rfl)
theorem s_lst (h : Bool) (as : List E) (r : List E) : evs T cf (.lst h as :: r) env g = ((evM T cf (.lst h as)).v env g).bind fun x g1 => (evs T cf r env g1).bind fun ys g2 => .ok (x :: ys) g2 := (rfl)
theorem s_tup (as : List E) (r : List E) : evs T cf (.tup as :: r) env g = ((evM T cf (.tup as)).v env g).bind fun x g1 => (evs T cf r env g1).bind fun ys g2 => .ok (x :: ys) g2 := (rfl)
theorem s_bm (m : Bm) (o : E) (as : List E) (r : List E) : evs T cf (.bm m o as :: r) env g = ((evM T cf (.bm m o as)).v env g).bind fun x g1 => (evs T cf r env g1).bind fun ys g2 => .ok (x :: ys) g2 := (rfl)
theorem s_bi (b : Bi) (as : List E) (r : List E) : evs T cf (.bi b as :: r) env g = ((evM T cf (.bi b as)).v env g).bind fun x g1 => (evs T cf r env g1).bind fun ys g2 => .ok (x :: ys) g2 := (rfl)
theorem s_isi (t : List Ty) (a : E) (r : List E) : evs T cf (.isi t a :: r) env g = ((evM T cf (.isi t a)).v env g).bind fun x g1 => (evs T cf r env g1).bind fun ys g2 => .ok (x :: ys) g2 := (rfl)
theorem s_cmp (o : Cop) (a b : E) (r : List E) : evs T cf (.cmp o a b :: r) env g = ((evM T cf (.cmp o a b)).v env g).bind fun x g1 => (evs T cf r env g1).bind fun ys g2 => .ok (x :: ys) g2 := (rfl)
theorem s_chain (o p : Cop) (a b c : E) (r : List E) : evs T cf (.chain o p a b c :: r) env g = ((evM T cf (.chain o p a b c)).v env g).bind fun x g1 => (evs T cf r env g1).bind fun ys g2 => .ok (x :: ys) g2 := (rfl)
theorem s_and_ (a b : E) (r : List E) : evs T cf (.and_ a b :: r) env g = ((evM T cf (.and_ a b)).v env g).bind fun x g1 => (evs T cf r env g1).bind fun ys g2 => .ok (x :: ys) g2 := (rfl)
theorem s_or_ (a b : E) (r : List E) : evs T cf (.or_ a b :: r) env g = ((evM T cf (.or_ a b)).v env g).bind fun x g1 => (evs T cf r env g1).bind fun ys g2 => .ok (x :: ys) g2 := (rfl)
theorem s_not_ (a : E) (r : List E) : evs T cf (.not_ a :: r) env g = ((evM T cf (.not_ a)).v env g).bind fun x g1 => (evs T cf r env g1).bind fun ys g2 => .ok (x :: ys) g2 := (rfl)
theorem s_dct (h : Bool) (ks : List DK) (es : List E) (r : List E) : evs T cf (.dct h ks es :: r) env g = ((evM T cf (.dct h ks es)).v env g).bind fun x g1 => (evs T cf r env g1).bind fun ys g2 => .ok (x :: ys) g2 := (rfl)
theorem s_frz (a : E) (r : List E) : evs T cf (.frz a :: r) env g = ((evM T cf (.frz a)).v env g).bind fun x g1 => (evs T cf r env g1).bind fun ys g2 => .ok (x :: ys) g2 := (rfl)
theorem s_ite (c a b : E) (r : List E) : evs T cf (.ite c a b :: r) env g = ((evM T cf (.ite c a b)).v env g).bind fun x g1 => (evs T cf r env g1).bind fun ys g2 => .ok (x :: ys) g2 := (rfl)
theorem s_neg (a : E) (r : List E) : evs T cf (.neg a :: r) env g = ((evM T cf (.neg a)).v env g).bind fun x g1 => (evs T cf r env g1).bind fun ys g2 => .ok (x :: ys) g2 := (rfl)
theorem x_nil : execs T cf [] env g = .ok (.nx env) g := (rfl)
theorem x_cons (s : S) (r : List S) : execs T cf (s :: r) env g = (exec T cf s env g).bind fun fl g1 => match fl with
    | .nx env1 => execs T cf r env1 g1
    | fl => .ok fl g1 := (rfl)
theorem x_set (i : Nat) (e : E) : exec T cf (.set i e) env g = ((evM T cf e).v env g).bind fun d g1 => .ok (.nx (env.set i (some d))) g1 := (rfl)
theorem x_ret (e : E) : exec T cf (.ret e) env g = ((evM T cf e).v env g).bind fun d g1 => .ok (.rt d) g1 := (rfl)
theorem x_ex (e : E) : exec T cf (.ex e) env g = ((evM T cf e).v env g).bind fun _ g1 => .ok (.nx env) g1 := (rfl)
theorem x_ite (c : E) (a b : List S) : exec T cf (.ite c a b) env g = ((evM T cf c).t env g).bind fun t g1 => match t with | true => execs T cf a env g1 | false => execs T cf b env g1 := (rfl)
theorem x_setI (o i e : E) : exec T cf (.setI o i e) env g = ((evM T cf e).v env g).bind fun y g1 => ((evM T cf o).v env g1).bind fun x g2 => ((evM T cf i).v env g2).bind fun z g3 => match setID g3 x z y with | some g4 => .ok (.nx env) g4 | none => .stk := (rfl)
theorem x_for (one : Bool) (tg : List Nat) (it : E) (b : List S) : exec T cf (.for_ one tg it b) env g = ((evM T cf it).i env g).bind fun xs g1 => freeR (forL (forF T cf one tg b) xs.1 env (lockG g1 xs.2)) xs.2 := (rfl)
theorem range_1 (r : Nat) (h : (r : Int) < 1000000000) : rangeR [.int r] g = .ok (rangeL 0 r, none) g := by
  have h1 : decide (-4611686018427387904 ≤ (r : Int) ∧ (r : Int) < 4611686018427387904) = true := decide_eq_true (by omega)
  simp only [rangeR, h1, if_true, Int.toNat_natCast]
theorem lock_n : lockG g none = g := (rfl)
theorem free_n (fl : Fl) : freeR (.ok fl g) none = .ok fl g := (rfl)
theorem forL_nil (f : D → Env → G → R Fl) : forL f [] env g = .ok (.nx env) g := (rfl)
theorem forL_cons (f : D → Env → G → R Fl) (x : D) (r : List D) : forL f (x :: r) env g = (f x env g).bind fun fl g1 => match fl with
    | .nx env1 => forL f r env1 g1
    | .ct env1 => forL f r env1 g1
    | .bk env1 => .ok (.nx env1) g1
    | .rt d => .ok (.rt d) g1 := (rfl)
theorem forF_one (i : Nat) (b : List S) (x : D) : forF T cf true [i] b x env g = execs T cf b (env.set i (some x)) g := (rfl)
theorem add_i (a b : Int) : binD g .add (.int a) (.int b) = some (.int (a + b)) := (rfl)
theorem sub_i (a b : Int) : binD g .sub (.int a) (.int b) = some (.int (a - b)) := (rfl)
theorem mul_i (a b : Int) (h : sml a = true) : binD g .mul (.int a) (.int b) = some (.int (a * b)) := by show (if sml a = true then _ else _) = _; rw [if_pos h]
theorem fdiv_i (a b : Int) (h : 0 < b) (h2 : b < 1073741824) : binD g .fdiv (.int a) (.int b) = some (.int (a / b)) := by
  show (if (decide (0 < b) && decide (b < 1073741824)) = true then _ else _) = _
  rw [decide_eq_true h, decide_eq_true h2]; rfl
theorem mod_i (a b : Int) (h : 0 < b) : binD g .mod (.int a) (.int b) = some (.int (a % b)) := by
  show (if decide (0 < b) = true then _ else _) = _
  rw [decide_eq_true h]; rfl
theorem add_s (a b : List Nat) (h : a.length + b.length ≤ LIM) : binD g .add (.str a) (.str b) = some (.str (a ++ b)) := by
  show (if decide (a.length + b.length ≤ LIM) = true then _ else _) = _
  rw [decide_eq_true h]; rfl
theorem add_l (a b : List D) (h : a.length + b.length ≤ LIM) : binD g .add (.lst a) (.lst b) = some (.lst (a ++ b)) := by
  show (if decide (a.length + b.length ≤ LIM) = true then _ else _) = _
  rw [decide_eq_true h]; rfl
theorem gt_i (a b : Int) : cmpD g .gt (.int a) (.int b) = some (decide (b < a)) := (rfl)
theorem ge_i (a b : Int) : cmpD g .ge (.int a) (.int b) = some (decide (b ≤ a)) := (rfl)
theorem lt_i (a b : Int) : cmpD g .lt (.int a) (.int b) = some (decide (a < b)) := (rfl)
theorem le_i (a b : Int) : cmpD g .le (.int a) (.int b) = some (decide (a ≤ b)) := (rfl)
theorem le_s (a b : List Nat) : cmpD g .le (.str a) (.str b) = some (!decide (b < a)) := (rfl)
theorem eq_s (a b : List Nat) : cmpD g .eq (.str a) (.str b) = some (decide (a = b)) := (rfl)
theorem ne_s (a b : List Nat) : cmpD g .ne (.str a) (.str b) = some (!decide (a = b)) := (rfl)
theorem tru_b (b : Bool) : tru g (.bl b) = some b := (rfl)
theorem len_l (l : List D) : biD g .len [.lst l] = .ok (.int l.length) g := (rfl)
end
/-- a def without defaults -/
theorem run_is (T : Tab) (cf : CF) (np nn : Nat) (b : List S) (vs : List D) (g : G) (h : vs.length = np) : runF T cf ⟨np, [], nn, false, false, b⟩ vs g = endR (execs T cf b (vs.map some ++ List.replicate (nn - np) none) g) := by
  subst h
  unfold runF bindA
  simp
theorem end_rt (d : D) (g : G) : endR (.ok (.rt d) g) = .ok d g := (rfl)
end PC
end
section
set_option maxHeartbeats 0
namespace LW
open PySem PC
/-- consists_of -/
def c0 : List S := [.ret (.and_ (.isi [.str] (.loc 0)) (.bi .all [.comp false [2] [2] true (.loc 0) .nil (.cmp .in_ (.loc 2) (.loc 1))]))]
def f0 : Fn := ⟨2, [], 3, false, false, c0⟩
/-- is_line -/
def c1 : List S := [.ret (.call 0 [.loc 0, .bin .add (.bin .add (.glo 0) (.glo 1)) (.glo 2)])]
def f1 : Fn := ⟨1, [], 1, false, false, c1⟩
/-- is_text -/
def c2 : List S := [.ret (.call 0 [.loc 0, .bin .add (.bin .add (.bin .add (.glo 0) (.glo 1)) (.glo 2)) (.con (.str [10]))])]
def f2 : Fn := ⟨1, [], 1, false, false, c2⟩
/-- is_word -/
def c3 : List S := [.ret (.and_ (.call 0 [.loc 0, .bin .add (.glo 0) (.glo 1)]) (.and_ (.cmp .ne (.loc 0) (.con (.str []))) (.cmp .in_ (.sub (.loc 0) (.con (.int 0))) (.glo 0))))]
def f3 : Fn := ⟨1, [], 1, false, false, c3⟩
/-- is_name -/
def c4 : List S := [.ret (.and_ (.call 3 [.loc 0]) (.cmp .notin (.loc 0) (.glo 3)))]
def f4 : Fn := ⟨1, [], 1, false, false, c4⟩
/-- _law_begin -/
def c5 : List S := [.ret (.dct true [.s [99, 101, 108, 108, 115], .s [97, 116], .s [108, 101, 102, 116], .s [117, 115, 101, 100]] [.bin .add (.loc 0) (.lst false [.con (.int 0)]), .con (.int 0), .con (.int 0), .con (.int 0)])]
def f5 : Fn := ⟨1, [], 1, false, false, c5⟩
/-- _law_mixed -/
def c6 : List S := [.set 2 (.bin .mod (.bin .add (.bin .add (.bin .add (.bin .mod (.loc 0) (.con (.int 1000000007))) (.bin .mul (.bin .mul (.con (.int 7919)) (.loc 1)) (.loc 1))) (.bin .mul (.con (.int 31)) (.loc 1))) (.con (.int 7))) (.con (.int 2147483647))),
  .set 2 (.bin .mod (.bin .mul (.bin .mod (.bin .mul (.loc 2) (.loc 2)) (.con (.int 2147483647))) (.loc 2)) (.con (.int 2147483629))),
  .ret (.bin .fdiv (.bin .mod (.bin .mul (.loc 2) (.bin .add (.con (.int 69621)) (.bin .mul (.con (.int 2)) (.bin .mod (.loc 1) (.con (.int 1000)))))) (.con (.int 2147483647))) (.con (.int 7)))]
def f6 : Fn := ⟨2, [], 3, false, false, c6⟩
/-- _law_next -/
def c7 : List S := [.ite (.cmp .gt (.sub (.loc 0) (.con (.str [108, 101, 102, 116]))) (.con (.int 0))) [.set 4 (.bin .mod (.sub (.loc 0) (.con (.str [108, 101, 102, 116]))) (.loc 1)),
  .setI (.loc 0) (.con (.str [108, 101, 102, 116])) (.bin .fdiv (.sub (.loc 0) (.con (.str [108, 101, 102, 116]))) (.loc 1)),
  .ret (.loc 4)] [],
  .set 2 (.sub (.loc 0) (.con (.str [99, 101, 108, 108, 115]))),
  .set 3 (.sub (.loc 2) (.bin .mod (.sub (.loc 0) (.con (.str [97, 116]))) (.bi .len [.loc 2]))),
  .setI (.loc 0) (.con (.str [97, 116])) (.bin .add (.sub (.loc 0) (.con (.str [97, 116]))) (.con (.int 1))),
  .ite (.and_ (.cmp .ge (.loc 3) (.bin .pow (.con (.int 10)) (.con (.int 18)))) (.cmp .le (.sub (.loc 0) (.con (.str [97, 116]))) (.bi .len [.loc 2]))) [.setI (.loc 0) (.con (.str [108, 101, 102, 116])) (.bin .fdiv (.loc 3) (.loc 1)),
  .ret (.bin .mod (.loc 3) (.loc 1))] [],
  .setI (.loc 0) (.con (.str [117, 115, 101, 100])) (.bin .add (.sub (.loc 0) (.con (.str [117, 115, 101, 100]))) (.con (.int 1))),
  .ret (.bin .mod (.call 6 [.call 6 [.loc 3, .sub (.loc 0) (.con (.str [97, 116]))], .sub (.loc 0) (.con (.str [117, 115, 101, 100]))]) (.loc 1))]
def f7 : Fn := ⟨2, [], 5, false, false, c7⟩
/-- _law_keywords -/
def c8 : List S := [.set 0 (.lst false [.con (.str [97, 110, 100]), .con (.str [98, 114, 101, 97, 107]), .con (.str [100, 101, 102]), .con (.str [101, 108, 105, 102]), .con (.str [101, 108, 115, 101]), .con (.str [101, 120, 99, 101, 112, 116]), .con (.str [102, 105, 110, 97, 108, 108, 121]), .con (.str [102, 111, 114])]),
  .ret (.bin .add (.loc 0) (.lst false [.con (.str [105, 102]), .con (.str [105, 110]), .con (.str [110, 111, 116]), .con (.str [111, 114]), .con (.str [112, 97, 115, 115]), .con (.str [114, 101, 116, 117, 114, 110]), .con (.str [116, 114, 121]), .con (.str [119, 104, 105, 108, 101])]))]
def f8 : Fn := ⟨0, [], 1, false, false, c8⟩
/-- _law_string -/
def c9 : List S := [.set 1 (.con (.str [])),
  .for_ true [2] (.range [.call 7 [.loc 0, .con (.int 16)]]) [.set 3 (.lst false [.con (.str [97]), .con (.str [90]), .con (.str [55]), .con (.str [95]), .con (.str [32]), .con (.str [40]), .con (.str [39]), .con (.str [34]), .con (.str [92]), .con (.str [126]), .con (.str [36]), .con (.str [123]), .con (.str [35]), .con (.str [10]), .con (.str [61]), .con (.str [105, 110]), .con (.str [105, 102]), .con (.str [120, 48])]),
  .set 1 (.bin .add (.loc 1) (.sub (.loc 3) (.call 7 [.loc 0, .con (.int 18)])))],
  .ret (.loc 1)]
def f9 : Fn := ⟨1, [], 4, false, false, c9⟩
/-- _law_thing -/
def c10 : List S := [.set 1 (.con (.str [97, 98, 99, 100, 101, 102, 103, 104, 105, 106, 107, 108, 109, 110, 111, 112, 113, 114, 115, 116, 117, 118, 119, 120, 121, 122, 65, 66, 67, 68, 69, 70, 71, 72, 73, 74, 75, 76, 77, 78, 79, 80, 81, 82, 83, 84, 85, 86, 87, 88, 89, 90, 95, 48, 49, 50, 51, 52, 53, 54, 55, 56, 57])),
  .set 2 (.bm .join (.con (.str [])) [.comp false [6] [6] true (.range [.call 7 [.loc 0, .con (.int 6)]]) .nil (.sub (.loc 1) (.call 7 [.loc 0, .con (.int 63)]))]),
  .set 3 (.sub (.call 8 []) (.call 7 [.loc 0, .con (.int 16)])),
  .set 4 (.sub (.lst false [.con (.non), .con (.bl true), .con (.int 5), .tup [], .lst false [.con (.str [97])], .tup [.con (.str [97])], .dct false [] [], .bin .pow (.con (.int 10)) (.con (.int 30))]) (.call 7 [.loc 0, .con (.int 8)])),
  .set 5 (.lst false [.loc 2, .loc 3, .bin .add (.loc 3) (.loc 2), .bin .add (.loc 2) (.loc 3), .bm .upper (.loc 3) [], .loc 4, .bin .add (.con (.str [51])) (.loc 2), .con (.str []), .bin .add (.loc 2) (.con (.str [32]))]),
  .ret (.sub (.loc 5) (.call 7 [.loc 0, .con (.int 9)]))]
def f10 : Fn := ⟨1, [], 7, false, false, c10⟩
/-- _law_is_text -/
def c11 : List S := [.ite (.not_ (.isi [.str] (.loc 0))) [.ret (.con (.bl false))] [],
  .ret (.cmp .eq (.comp false [2] [2] true (.loc 0) (.and_ (.cmp .notin (.loc 2) (.loc 1)) (.not_ (.chain .le .le (.con (.str [32])) (.loc 2) (.con (.str [126]))))) (.loc 2)) (.lst false []))]
def f11 : Fn := ⟨2, [], 3, false, false, c11⟩
/-- _law_is_word -/
def c12 : List S := [.ite (.or_ (.not_ (.isi [.str] (.loc 0))) (.or_ (.cmp .eq (.loc 0) (.con (.str []))) (.chain .le .le (.con (.str [48])) (.sub (.loc 0) (.con (.int 0))) (.con (.str [57]))))) [.ret (.con (.bl false))] [],
  .for_ true [1] (.loc 0) [.ite (.not_ (.or_ (.chain .le .le (.con (.str [97])) (.loc 1) (.con (.str [122]))) (.or_ (.chain .le .le (.con (.str [65])) (.loc 1) (.con (.str [90]))) (.or_ (.chain .le .le (.con (.str [48])) (.loc 1) (.con (.str [57]))) (.cmp .eq (.loc 1) (.con (.str [95]))))))) [.ret (.con (.bl false))] []],
  .ret (.con (.bl true))]
def f12 : Fn := ⟨1, [], 2, false, false, c12⟩
/-- _law_right -/
def c13 : List S := [.set 1 (.lst true [.call 11 [.loc 0, .con (.str [10])], .call 11 [.loc 0, .con (.str [])], .call 12 [.loc 0]]),
  .ex (.bm .append (.loc 1) [.and_ (.sub (.loc 1) (.con (.int 2))) (.cmp .notin (.loc 0) (.call 8 []))]),
  .ite (.cmp .ne (.bi .repr [.lst false [.call 2 [.loc 0], .call 1 [.loc 0], .call 3 [.loc 0], .call 4 [.loc 0]]]) (.bi .repr [.loc 1])) [.ret (.con (.bl false))] [],
  .set 2 (.lst false [.callK 2 [] [.loc 0], .callK 1 [] [.loc 0], .callK 3 [] [.loc 0], .callK 4 [] [.loc 0]]),
  .ret (.cmp .eq (.bi .repr [.loc 2]) (.bi .repr [.loc 1]))]
def f13 : Fn := ⟨1, [], 3, false, false, c13⟩
/-- law -/
def c14 : List S := [.set 1 (.call 5 [.loc 0]),
  .ite (.cmp .ne (.bi .repr [.glo 3]) (.bi .repr [.bi .tuple [.call 8 []]])) [.ret (.con (.bl false))] [],
  .for_ true [2] (.range [.bi .min2 [.con (.int 30), .bin .add (.con (.int 8)) (.bi .len [.loc 0])]]) [.for_ true [3] (.lst false [.call 9 [.loc 1], .call 10 [.loc 1], .call 10 [.loc 1]]) [.ite (.not_ (.call 13 [.loc 3])) [.ret (.con (.bl false))] []]],
  .ret (.con (.bl true))]
def f14 : Fn := ⟨1, [], 4, false, false, c14⟩
def gls : List D := [(.str [97, 98, 99, 100, 101, 102, 103, 104, 105, 106, 107, 108, 109, 110, 111, 112, 113, 114, 115, 116, 117, 118, 119, 120, 121, 122, 65, 66, 67, 68, 69, 70, 71, 72, 73, 74, 75, 76, 77, 78, 79, 80, 81, 82, 83, 84, 85, 86, 87, 88, 89, 90, 95]), (.str [48, 49, 50, 51, 52, 53, 54, 55, 56, 57]), (.str [32, 33, 34, 35, 36, 38, 39, 40, 41, 42, 43, 44, 45, 46, 47, 58, 59, 60, 61, 62, 63, 64, 91, 92, 93, 94, 96, 123, 124, 125, 126]), (.tup [.str [97, 110, 100], .str [98, 114, 101, 97, 107], .str [100, 101, 102], .str [101, 108, 105, 102], .str [101, 108, 115, 101], .str [101, 120, 99, 101, 112, 116], .str [102, 105, 110, 97, 108, 108, 121], .str [102, 111, 114], .str [105, 102], .str [105, 110], .str [110, 111, 116], .str [111, 114], .str [112, 97, 115, 115], .str [114, 101, 116, 117, 114, 110], .str [116, 114, 121], .str [119, 104, 105, 108, 101]])]
def fns : List Fn := [f0, f1, f2, f3, f4, f5, f6, f7, f8, f9, f10, f11, f12, f13, f14]
def T : Tab := ⟨fun i => fns[i]?, fun _ _ => none, fun i => gls[i]?, fun _ => none, fun _ => none, fun _ => none, fun _ _ => false⟩
end LW
end
section
set_option maxHeartbeats 4000000
namespace LW
open PC
theorem sml_of {i : Int} (h1 : -(2 ^ 64) < i) (h2 : i < 2 ^ 64) : sml i = true := by
  unfold sml
  rw [decide_eq_true h1, decide_eq_true h2]
  rfl
theorem callS (n : Nat) (f : Nat) (vs : List D) (g : G) : call T (n + 1) f vs g = match T.fn f with
    | some F => runF T (call T n) F vs g
    | none => .stk := rfl
/-- _law_mixed -/
theorem mixed (n : Nat) (c k : Int) (g : G) (h0 : 0 ≤ k) (h1 : k < 1000000) : ∃ r, call T (n + 1) 6 [.int c, .int k] g = .ok (.int r) g ∧ 0 ≤ r ∧ r < 2147483647 := by
  obtain ⟨x1, e1⟩ : ∃ x1, x1 = (c % 1000000007 + 7919 * k * k + 31 * k + 7) % 2147483647 := ⟨_, rfl⟩
  have b1 : 0 ≤ x1 ∧ x1 < 2147483647 := by rw [e1]; exact ⟨Int.emod_nonneg _ (by decide), Int.emod_lt_of_pos _ (by decide)⟩
  obtain ⟨y, e3⟩ : ∃ y, y = x1 * x1 % 2147483647 := ⟨_, rfl⟩
  have b3 : 0 ≤ y ∧ y < 2147483647 := by rw [e3]; exact ⟨Int.emod_nonneg _ (by decide), Int.emod_lt_of_pos _ (by decide)⟩
  obtain ⟨x2, e2⟩ : ∃ x2, x2 = y * x1 % 2147483629 := ⟨_, rfl⟩
  have b2 : 0 ≤ x2 ∧ x2 < 2147483629 := by rw [e2]; exact ⟨Int.emod_nonneg _ (by decide), Int.emod_lt_of_pos _ (by decide)⟩
  obtain ⟨z, e4⟩ : ∃ z, z = x2 * (69621 + 2 * (k % 1000)) % 2147483647 := ⟨_, rfl⟩
  have b4 : 0 ≤ z ∧ z < 2147483647 := by rw [e4]; exact ⟨Int.emod_nonneg _ (by decide), Int.emod_lt_of_pos _ (by decide)⟩
  refine ⟨z / 7, ?_, by omega, by omega⟩
  have s1 : sml (7919 * k) = true := sml_of (by omega) (by omega)
  have s2 : sml x1 = true := sml_of (by omega) (by omega)
  have s3 : sml y = true := sml_of (by omega) (by omega)
  have s4 : sml x2 = true := sml_of (by omega) (by omega)
  rw [callS]
  show runF T (call T n) f6 _ g = _
  simp [runF, bindA, f6, c6, execs, exec, ev, evT, evI, evM, evs, Md.of, binD, top, s1, s2, s3, s4, endR, ← e1, ← e2, ← e3, ← e4, show sml 7919 = true from rfl, show sml 31 = true from rfl, show sml 2 = true from rfl]
/-- the draw -/
def KS : List DK := [.s [99, 101, 108, 108, 115], .s [97, 116], .s [108, 101, 102, 116], .s [117, 115, 101, 100]]
def drw (cs : List Int) (a l u : Int) : Cell := .dct KS [.lst (cs.map .int), .int a, .int l, .int u]
section
variable {g : G} {cs : List Int} {a l u : Int}
theorem d_cells (h : g[0]? = some (drw cs a l u)) : subD g (.ref 0) (.str [99, 101, 108, 108, 115]) = some (.lst (cs.map .int)) := by simp [subD, top, h, drw, dctD, keyD, kOk, KS, lookD]
theorem d_at (h : g[0]? = some (drw cs a l u)) : subD g (.ref 0) (.str [97, 116]) = some (.int a) := by simp [subD, top, h, drw, dctD, keyD, kOk, KS, lookD]
theorem d_left (h : g[0]? = some (drw cs a l u)) : subD g (.ref 0) (.str [108, 101, 102, 116]) = some (.int l) := by simp [subD, top, h, drw, dctD, keyD, kOk, KS, lookD]
theorem d_used (h : g[0]? = some (drw cs a l u)) : subD g (.ref 0) (.str [117, 115, 101, 100]) = some (.int u) := by simp [subD, top, h, drw, dctD, keyD, kOk, KS, lookD]
theorem p_at (h : g[0]? = some (drw cs a l u)) (v : Int) : setID g (.ref 0) (.str [97, 116]) (.int v) = some (g.set 0 (drw cs v l u)) := by simp [setID, h, drw, keyD, KS, putDk, putDv, LIM]
theorem p_left (h : g[0]? = some (drw cs a l u)) (v : Int) : setID g (.ref 0) (.str [108, 101, 102, 116]) (.int v) = some (g.set 0 (drw cs a v u)) := by simp [setID, h, drw, keyD, KS, putDk, putDv, LIM]
theorem p_used (h : g[0]? = some (drw cs a l u)) (v : Int) : setID g (.ref 0) (.str [117, 115, 101, 100]) (.int v) = some (g.set 0 (drw cs a l v)) := by simp [setID, h, drw, keyD, KS, putDk, putDv, LIM]
theorem s_0 {c d : Cell} (h : g[0]? = some c) : (g.set 0 d)[0]? = some d := by
  obtain ⟨hl, _⟩ := List.getElem?_eq_some_iff.mp h
  rw [List.getElem?_set_self hl]
theorem s_at {i : Nat} {d : D} {l : List D} (h : l[i]? = some d) (g : G) : subD g (.lst l) (.int i) = some d := by
  obtain ⟨hl, hd⟩ := List.getElem?_eq_some_iff.mp h
  simp [subD, top, L2.ixN, hl]
  exact hd
end
end LW
end
section
set_option maxHeartbeats 4000000
namespace LW
open PC
theorem run7 (n : Nat) (a b : D) (g : G) : call T (n + 1) 7 [a, b] g = endR (execs T (call T n) c7 [some a, some b, none, none, none] g) := run_is T (call T n) 2 5 c7 [a, b] g rfl
/-- _law_next -/
theorem next (n : Nat) {g : G} {cs : List Int} {a l u b : Int} (hg : g[0]? = some (drw cs a l u)) (hc : 0 < cs.length) (hl : cs.length ≤ 64) (ha : 0 ≤ a) (ha2 : a < 500000) (hll : 0 ≤ l) (hu : 0 ≤ u) (hu2 : u < 500000) (hb : 0 < b) (hb2 : b < 1000000) :
    ∃ r a' l' u', call T (n + 2) 7 [.ref 0, .int b] g = .ok (.int r) (g.set 0 (drw cs a' l' u')) ∧ 0 ≤ r ∧ r < b ∧ 0 ≤ a' ∧ a' ≤ a + 1 ∧ 0 ≤ l' ∧ 0 ≤ u' ∧ u' ≤ u + 1 := by
  have hb3 : b < 1073741824 := by omega
  by_cases h : 0 < l
  · refine ⟨l % b, a, l / b, u, ?_, Int.emod_nonneg _ (by omega), Int.emod_lt_of_pos _ hb, ha, by omega, Int.ediv_nonneg hll (by omega), hu, by omega⟩
    rw [run7]
    simp only [c7, b_ok, v_frz, v_ite, v_loc, v_con, v_glo, v_bin, v_not, v_and, v_or, v_cmp, v_chain, v_call, v_callK, v_bi, v_isi, v_bm, v_sub, v_tup, v_lst, v_dct, t_not, t_and, t_or, t_loc, t_cmp, t_chain, t_call, t_isi, t_sub, i_loc, i_lst, i_range,
    s_nil, s_loc, s_con, s_glo, s_bin, s_call, s_callK, s_sub, s_slc, s_comp, s_lst, s_tup, s_bm, s_bi, s_isi, s_cmp, s_chain, s_and_, s_or_, s_not_, s_dct, s_frz, s_ite, s_neg, x_nil, x_cons, x_set, x_ret, x_ex, x_ite, x_setI, x_for, add_i, sub_i, gt_i, ge_i, lt_i, le_i, le_s, eq_s, ne_s, tru_b, len_l, opt_some, Option.map_some, end_rt,
    List.getElem?_cons_zero, List.getElem?_cons_succ, List.set_cons_zero, List.set_cons_succ, List.map_cons, List.map_nil, List.replicate_succ, List.replicate_zero, List.cons_append, List.nil_append, List.append_nil, d_left hg, p_left hg, decide_eq_true h, mod_i _ _ _ hb, fdiv_i _ _ _ hb hb3]
  · have hl0 : l = 0 := by omega
    subst hl0
    obtain ⟨i, hi⟩ : ∃ i : Nat, a % (cs.length : Int) = i := ⟨(a % (cs.length : Int)).toNat, by rw [Int.toNat_of_nonneg (Int.emod_nonneg _ (by omega))]⟩
    have hi2 : i < cs.length := by
      have := Int.emod_lt_of_pos a (show (0 : Int) < cs.length by omega)
      omega
    have hci : (cs.map D.int)[i]? = some (.int cs[i]) := by rw [List.getElem?_map, List.getElem?_eq_getElem hi2]; rfl
    generalize cs[i] = c at hci
    have hg2 : (g.set 0 (drw cs (a + 1) 0 u))[0]? = some (drw cs (a + 1) 0 u) := s_0 hg
    have hlen : (0 : Int) < ((cs.map D.int).length : Nat) := by rw [List.length_map]; omega
    have hi : a % (((cs.map D.int).length : Nat) : Int) = i := by rw [List.length_map]; exact hi
    have sa : ∀ g : G, subD g (.lst (cs.map D.int)) (.int i) = some (.int c) := s_at hci
    have pw : ∀ g : G, binD g .pow (.int 10) (.int 18) = some (.int 1000000000000000000) := fun _ => rfl
    by_cases hb1 : 1000000000000000000 ≤ c
    · by_cases hb4 : a + 1 ≤ (((cs.map D.int).length : Nat) : Int)
      · refine ⟨c % b, a + 1, c / b, u, ?_, Int.emod_nonneg _ (by omega), Int.emod_lt_of_pos _ hb, by omega, by omega, Int.ediv_nonneg (by omega) (by omega), hu, by omega⟩
        rw [run7]
        simp only [c7, b_ok, v_frz, v_ite, v_loc, v_con, v_glo, v_bin, v_not, v_and, v_or, v_cmp, v_chain, v_call, v_callK, v_bi, v_isi, v_bm, v_sub, v_tup, v_lst, v_dct, t_not, t_and, t_or, t_loc, t_cmp, t_chain, t_call, t_isi, t_sub, i_loc, i_lst, i_range,
    s_nil, s_loc, s_con, s_glo, s_bin, s_call, s_callK, s_sub, s_slc, s_comp, s_lst, s_tup, s_bm, s_bi, s_isi, s_cmp, s_chain, s_and_, s_or_, s_not_, s_dct, s_frz, s_ite, s_neg, x_nil, x_cons, x_set, x_ret, x_ex, x_ite, x_setI, x_for, add_i, sub_i, gt_i, ge_i, lt_i, le_i, le_s, eq_s, ne_s, tru_b, len_l, opt_some, Option.map_some, end_rt,
    List.getElem?_cons_zero, List.getElem?_cons_succ, List.set_cons_zero, List.set_cons_succ, List.map_cons, List.map_nil, List.replicate_succ, List.replicate_zero, List.cons_append, List.nil_append, List.append_nil, d_left hg, d_cells hg, d_at hg, p_at hg, d_at hg2, p_left hg2, decide_eq_false h, mod_i _ _ _ hb, fdiv_i _ _ _ hb hb3, mod_i _ _ _ hlen, hi, sa, pw, decide_eq_true hb1, decide_eq_true hb4, List.set_set]
      · have hg3 : (g.set 0 (drw cs (a + 1) 0 (u + 1)))[0]? = some (drw cs (a + 1) 0 (u + 1)) := s_0 hg
        obtain ⟨r1, q1, q2, q3⟩ := mixed n c (a + 1) (g.set 0 (drw cs (a + 1) 0 (u + 1))) (by omega) (by omega)
        obtain ⟨r2, w1, w2, w3⟩ := mixed n r1 (u + 1) (g.set 0 (drw cs (a + 1) 0 (u + 1))) (by omega) (by omega)
        refine ⟨r2 % b, a + 1, 0, u + 1, ?_, Int.emod_nonneg _ (by omega), Int.emod_lt_of_pos _ hb, by omega, by omega, by omega, by omega, by omega⟩
        rw [run7]
        simp only [c7, b_ok, v_frz, v_ite, v_loc, v_con, v_glo, v_bin, v_not, v_and, v_or, v_cmp, v_chain, v_call, v_callK, v_bi, v_isi, v_bm, v_sub, v_tup, v_lst, v_dct, t_not, t_and, t_or, t_loc, t_cmp, t_chain, t_call, t_isi, t_sub, i_loc, i_lst, i_range,
    s_nil, s_loc, s_con, s_glo, s_bin, s_call, s_callK, s_sub, s_slc, s_comp, s_lst, s_tup, s_bm, s_bi, s_isi, s_cmp, s_chain, s_and_, s_or_, s_not_, s_dct, s_frz, s_ite, s_neg, x_nil, x_cons, x_set, x_ret, x_ex, x_ite, x_setI, x_for, add_i, sub_i, gt_i, ge_i, lt_i, le_i, le_s, eq_s, ne_s, tru_b, len_l, opt_some, Option.map_some, end_rt,
    List.getElem?_cons_zero, List.getElem?_cons_succ, List.set_cons_zero, List.set_cons_succ, List.map_cons, List.map_nil, List.replicate_succ, List.replicate_zero, List.cons_append, List.nil_append, List.append_nil, d_left hg, d_cells hg, d_at hg, p_at hg, d_at hg2, d_used hg2, p_used hg2, decide_eq_false h, mod_i _ _ _ hb, mod_i _ _ _ hlen, hi, sa, pw, decide_eq_true hb1, decide_eq_false hb4, List.set_set, d_at hg3, d_used hg3, q1, w1]
    · have hg3 : (g.set 0 (drw cs (a + 1) 0 (u + 1)))[0]? = some (drw cs (a + 1) 0 (u + 1)) := s_0 hg
      obtain ⟨r1, q1, q2, q3⟩ := mixed n c (a + 1) (g.set 0 (drw cs (a + 1) 0 (u + 1))) (by omega) (by omega)
      obtain ⟨r2, w1, w2, w3⟩ := mixed n r1 (u + 1) (g.set 0 (drw cs (a + 1) 0 (u + 1))) (by omega) (by omega)
      refine ⟨r2 % b, a + 1, 0, u + 1, ?_, Int.emod_nonneg _ (by omega), Int.emod_lt_of_pos _ hb, by omega, by omega, by omega, by omega, by omega⟩
      rw [run7]
      simp only [c7, b_ok, v_frz, v_ite, v_loc, v_con, v_glo, v_bin, v_not, v_and, v_or, v_cmp, v_chain, v_call, v_callK, v_bi, v_isi, v_bm, v_sub, v_tup, v_lst, v_dct, t_not, t_and, t_or, t_loc, t_cmp, t_chain, t_call, t_isi, t_sub, i_loc, i_lst, i_range,
    s_nil, s_loc, s_con, s_glo, s_bin, s_call, s_callK, s_sub, s_slc, s_comp, s_lst, s_tup, s_bm, s_bi, s_isi, s_cmp, s_chain, s_and_, s_or_, s_not_, s_dct, s_frz, s_ite, s_neg, x_nil, x_cons, x_set, x_ret, x_ex, x_ite, x_setI, x_for, add_i, sub_i, gt_i, ge_i, lt_i, le_i, le_s, eq_s, ne_s, tru_b, len_l, opt_some, Option.map_some, end_rt,
    List.getElem?_cons_zero, List.getElem?_cons_succ, List.set_cons_zero, List.set_cons_succ, List.map_cons, List.map_nil, List.replicate_succ, List.replicate_zero, List.cons_append, List.nil_append, List.append_nil, d_left hg, d_cells hg, d_at hg, p_at hg, d_at hg2, d_used hg2, p_used hg2, decide_eq_false h, mod_i _ _ _ hb, mod_i _ _ _ hlen, hi, sa, pw, decide_eq_false hb1, List.set_set, d_at hg3, d_used hg3, q1, w1]
end LW
end
section
set_option maxHeartbeats 4000000
namespace LW
open PC
/-- a heap with a draw that was asked at most so often -/
def Dr (B : Int) (g : G) : Prop := ∃ cs a l u, g[0]? = some (drw cs a l u) ∧ 0 < cs.length ∧ cs.length ≤ 64 ∧ 0 ≤ a ∧ a ≤ B ∧ 0 ≤ l ∧ 0 ≤ u ∧ u ≤ B
theorem nextD (n : Nat) {B b : Int} {g : G} (h : Dr B g) (hB : B < 400000) (hb : 0 < b) (hb2 : b < 1000000) : ∃ (r : Nat) (g' : G), call T (n + 2) 7 [.ref 0, .int b] g = .ok (.int r) g' ∧ (r : Int) < b ∧ Dr (B + 1) g' := by
  obtain ⟨cs, a, l, u, h1, h2, h3, h4, h5, h6, h7, h8⟩ := h
  obtain ⟨r, a', l', u', e, e1, e2, e3, e4, e5, e6, e7⟩ := next n h1 h2 h3 h4 (by omega) h6 h7 (by omega) hb hb2
  refine ⟨r.toNat, _, by rw [Int.toNat_of_nonneg e1]; exact e, by rw [Int.toNat_of_nonneg e1]; exact e2, cs, a', l', u', s_0 h1, h2, h3, e3, by omega, e5, e6, by omega⟩
theorem Dr.le {B C : Int} {g : G} (h : Dr B g) (hb : B ≤ C) : Dr C g := by
  obtain ⟨cs, a, l, u, h1, h2, h3, h4, h5, h6, h7, h8⟩ := h
  exact ⟨cs, a, l, u, h1, h2, h3, h4, by omega, h6, h7, by omega⟩
/-- a sign that the law may draw: no percent sign -/
abbrev Ch (c : Nat) : Prop := c < 1114112 ∧ c ≠ 37
/-- a text that the law may look at -/
def OkS (s : List Nat) : Prop := s.length ≤ 1000 ∧ ∀ c ∈ s, Ch c
def kwS : List (List Nat) := match (gls.getD 3 .non : D) with
  | .tup l => (txts l).getD []
  | _ => []
theorem kw (n : Nat) (g : G) : call T (n + 1) 8 [] g = .ok (.lst (kwS.map .str)) g := by rfl
theorem kw_small : ∀ s ∈ kwS, s.length ≤ 10 ∧ ∀ c ∈ s, Ch c := by decide
theorem kw_len : kwS.length = 16 := rfl
/-- the i-th of a list -/
theorem at_mem {l : List D} {r : Nat} (h : r < l.length) (g : G) : ∃ d, d ∈ l ∧ subD g (.lst l) (.int r) = some d := ⟨l[r], List.getElem_mem _, s_at (List.getElem?_eq_getElem h) g⟩
end LW
end
section
set_option maxHeartbeats 4000000
namespace LW
open PC
def some18 : List D := [.str [97], .str [90], .str [55], .str [95], .str [32], .str [40], .str [39], .str [34], .str [92], .str [126], .str [36], .str [123], .str [35], .str [10], .str [61], .str [105, 110], .str [105, 102], .str [120, 48]]
def bo9 : List S := match (c9.getD 1 .pass : S) with
  | .for_ _ _ _ b => b
  | _ => []
def e9 : E := match (bo9.getD 0 .pass : S) with
  | .set _ e => e
  | _ => .nil
theorem v_e9 (cf : CF) (env : Env) (g : G) : (evM T cf e9).v env g = .ok (.lst some18) g := by rfl
theorem bo9_is : bo9 = [.set 3 e9, .set 1 (.bin .add (.loc 1) (.sub (.loc 3) (.call 7 [.loc 0, .con (.int 18)])))] := by rfl
theorem c9_is : c9 = [.set 1 (.con (.str [])), .for_ true [2] (.range [.call 7 [.loc 0, .con (.int 16)]]) bo9, .ret (.loc 1)] := by rfl
theorem loop9 (n : Nat) : ∀ (m : Nat) (lo : Int) (s : List Nat) (x y : Option D) (B : Int) (g : G), Dr B g → B + m < 400000 → OkS s → s.length + 2 * m ≤ 1000 →
    ∃ s' x' y' g', forL (forF T (call T (n + 2)) true [2] bo9) (rangeL lo m) [some (.ref 0), some (.str s), x, y] g = .ok (.nx [some (.ref 0), some (.str s'), x', y']) g' ∧ OkS s' ∧ Dr (B + m) g'
  | 0, lo, s, x, y, B, g, hd, hB, hs, hl => ⟨s, x, y, g, rfl, hs, by simpa using hd⟩
  | m + 1, lo, s, x, y, B, g, hd, hB, hs, hl => by
    obtain ⟨r, g1, q1, q2, q3⟩ := nextD n (b := 18) hd (by omega) (by omega) (by omega)
    obtain ⟨d, d1, d2⟩ := at_mem (l := some18) (r := r) (by have : some18.length = 18 := rfl; omega) g1
    have hd18 : ∃ t, d = .str t ∧ t.length ≤ 2 ∧ ∀ c ∈ t, Ch c := by
      simp only [some18, List.mem_cons, List.not_mem_nil, or_false] at d1
      rcases d1 with rfl | rfl | rfl | rfl | rfl | rfl | rfl | rfl | rfl | rfl | rfl | rfl | rfl | rfl | rfl | rfl | rfl | rfl <;> exact ⟨_, rfl, by decide, by decide⟩
    obtain ⟨t, rfl, t1, t2⟩ := hd18
    have hl2 : s.length + t.length ≤ LIM := by have : LIM = 1000000 := rfl; omega
    obtain ⟨s', x', y', g', i1, i2, i3⟩ := loop9 n m (lo + 1) (s ++ t) (some (.int lo)) (some (.lst some18)) (B + 1) g1 q3 (by omega) ⟨by simp; omega, fun c hc => (List.mem_append.mp hc).elim (hs.2 c) (t2 c)⟩ (by simp; omega)
    refine ⟨s', x', y', g', ?_, i2, by have e : B + 1 + (m : Int) = B + ((m + 1 : Nat) : Int) := by omega
                                       rw [← e]; exact i3⟩
    simp only [rangeL, forL_cons, forF_one, bo9_is, b_ok, v_frz, v_ite, v_loc, v_con, v_glo, v_bin, v_not, v_and, v_or, v_cmp, v_chain, v_call, v_callK, v_bi, v_isi, v_bm, v_sub, v_tup, v_lst, v_dct, t_not, t_and, t_or, t_loc, t_cmp, t_chain, t_call, t_isi, t_sub, i_loc, i_lst, i_range,
    s_nil, s_loc, s_con, s_glo, s_bin, s_call, s_callK, s_sub, s_slc, s_comp, s_lst, s_tup, s_bm, s_bi, s_isi, s_cmp, s_chain, s_and_, s_or_, s_not_, s_dct, s_frz, s_ite, s_neg, x_nil, x_cons, x_set, x_ret, x_ex, x_ite, x_setI, x_for, add_i, sub_i, gt_i, ge_i, lt_i, le_i, le_s, eq_s, ne_s, tru_b, len_l, opt_some, Option.map_some, end_rt,
    List.getElem?_cons_zero, List.getElem?_cons_succ, List.set_cons_zero, List.set_cons_succ, List.map_cons, List.map_nil, List.replicate_succ, List.replicate_zero, List.cons_append, List.nil_append, List.append_nil, v_e9, q1, d2, add_s _ _ _ hl2]
    exact i1
end LW
end
section
set_option maxHeartbeats 4000000
namespace LW
open PC
theorem run9 (n : Nat) (a : D) (g : G) : call T (n + 1) 9 [a] g = endR (execs T (call T n) c9 [some a, none, none, none] g) := run_is T (call T n) 1 4 c9 [a] g rfl
theorem strings (n : Nat) {B : Int} {g : G} (hd : Dr B g) (hB : B < 300000) : ∃ s g', call T (n + 3) 9 [.ref 0] g = .ok (.str s) g' ∧ OkS s ∧ Dr (B + 17) g' := by
  obtain ⟨r, g1, q1, q2, q3⟩ := nextD n (b := 16) hd (by omega) (by omega) (by omega)
  obtain ⟨s', x', y', g', i1, i2, i3⟩ := loop9 n r 0 [] none none (B + 1) g1 q3 (by omega) ⟨by simp, by simp⟩ (by simp; omega)
  refine ⟨s', g', ?_, i2, i3.le (by omega)⟩
  rw [run9, c9_is]
  have h0 : (evM T (call T (n + 2)) (.range [.call 7 [.loc 0, .con (.int 16)]])).i [some (.ref 0), some (.str []), none, none] g = .ok (rangeL 0 r, none) g1 := by
    simp only [i_range, s_call, v_call, s_loc, v_loc, s_con, v_con, s_nil, b_ok, List.getElem?_cons_zero, q1]
    exact range_1 g1 r (by omega)
  have hfor : exec T (call T (n + 2)) (.for_ true [2] (.range [.call 7 [.loc 0, .con (.int 16)]]) bo9) [some (.ref 0), some (.str []), none, none] g = .ok (.nx [some (.ref 0), some (.str s'), x', y']) g' := by
    rw [x_for, h0, b_ok]
    show freeR (forL _ (rangeL 0 r) _ (lockG g1 none)) none = _
    rw [lock_n, i1, free_n]
  have h1 : exec T (call T (n + 2)) (.set 1 (.con (.str []))) [some (.ref 0), none, none, none] g = .ok (.nx [some (.ref 0), some (.str []), none, none]) g := by
    rw [x_set, v_con, b_ok]
    rfl
  rw [x_cons, h1, b_ok]
  show endR (execs T (call T (n + 2)) [.for_ true [2] (.range [.call 7 [.loc 0, .con (.int 16)]]) bo9, .ret (.loc 1)] _ g) = _
  rw [x_cons, hfor, b_ok]
  show endR (execs T (call T (n + 2)) [.ret (.loc 1)] _ g') = _
  rw [x_cons, x_ret, v_loc]
  rfl
end LW
end
section
set_option maxHeartbeats 4000000
namespace LW
open PC
theorem s_str {i : Nat} {c : Nat} {l : List Nat} (h : l[i]? = some c) (hl : l.length ≤ LIM) (g : G) : subD g (.str l) (.int i) = some (.str [c]) := by
  obtain ⟨h1, hd⟩ := List.getElem?_eq_some_iff.mp h
  simp [subD, top, L2.ixN, h1, hl]
  exact hd
def l63 : List Nat := match (c10.getD 0 .pass : S) with
  | .set _ (.con (.str s)) => s
  | _ => []
theorem l63_len : l63.length = 63 := by decide
theorem l63_small : ∀ c ∈ l63, Ch c := by decide
def elt10 : E := .sub (.loc 1) (.call 7 [.loc 0, .con (.int 63)])
theorem comp_nil (f : D → G → R (Option D)) (g : G) : compL f [] g = .ok [] g := (rfl)
theorem comp_cons (f : D → G → R (Option D)) (x : D) (r : List D) (g : G) : compL f (x :: r) g = match f x g with
    | .ok (some y) g1 => (match compL f r g1 with
      | .ok ys g2 => .ok (y :: ys) g2
      | _ => .stk)
    | .ok none g1 => compL f r g1
    | _ => .stk := (rfl)
theorem loop10 (n : Nat) (env : Env) (he : env[0]? = some (some (.ref 0)) ∧ env[1]? = some (some (.str l63))) : ∀ (m : Nat) (lo : Int) (B : Int) (g : G), Dr B g → B + m < 400000 →
    ∃ (ys : List Nat) (g' : G), compL (compF [6] [6] true (evM T (call T (n + 2)) .nil).c (evM T (call T (n + 2)) elt10).v env) (rangeL lo m) g = .ok (ys.map fun c => D.str [c]) g' ∧ ys.length = m ∧ (∀ c ∈ ys, Ch c) ∧ Dr (B + m) g'
  | 0, lo, B, g, hd, hB => ⟨[], g, comp_nil _ _, rfl, by simp, by simpa using hd⟩
  | m + 1, lo, B, g, hd, hB => by
    obtain ⟨r, g1, q1, q2, q3⟩ := nextD n (b := 63) hd (by omega) (by omega) (by omega)
    have hr : r < l63.length := by rw [l63_len]; omega
    have hc : l63[r]? = some l63[r] := List.getElem?_eq_getElem hr
    have hc2 := l63_small _ (List.getElem_mem hr)
    generalize l63[r] = c at hc hc2
    obtain ⟨ys, g', i1, i2, i3, i4⟩ := loop10 n env he m (lo + 1) (B + 1) g1 q3 (by omega)
    refine ⟨c :: ys, g', ?_, by simp [i2], fun d hd => (List.mem_cons.mp hd).elim (fun e => e ▸ hc2) (i3 d), by have e : B + 1 + (m : Int) = B + ((m + 1 : Nat) : Int) := by omega
                                                                                                                rw [← e]; exact i4⟩
    have h0 : ((env.set 6 none).set 6 (some (.int lo)))[0]? = some (some (.ref 0)) := by rw [List.getElem?_set_ne (by decide), List.getElem?_set_ne (by decide)]; exact he.1
    have h1 : ((env.set 6 none).set 6 (some (.int lo)))[1]? = some (some (.str l63)) := by rw [List.getElem?_set_ne (by decide), List.getElem?_set_ne (by decide)]; exact he.2
    have hf : compF [6] [6] true (evM T (call T (n + 2)) .nil).c (evM T (call T (n + 2)) elt10).v env (.int lo) g = .ok (some (.str [c])) g1 := by
      show ((evM T (call T (n + 2)) .nil).c ((env.set 6 none).set 6 (some (.int lo))) g).bind (fun b g3 => match b with
        | true => ((evM T (call T (n + 2)) elt10).v ((env.set 6 none).set 6 (some (.int lo))) g3).bind fun y g4 => R.ok (some y) g4
        | false => .ok none g3) = _
      have hn : (evM T (call T (n + 2)) .nil).c ((env.set 6 none).set 6 (some (.int lo))) g = .ok true g := (rfl)
      rw [hn]
      simp only [elt10, b_ok, v_sub, v_loc, v_call, s_loc, s_con, v_con, s_nil, h0, h1, q1, s_str hc (by rw [l63_len]; decide), opt_some]
    show compL _ (.int lo :: rangeL (lo + 1) m) g = _
    rw [comp_cons, hf]
    simp only [i1, List.map_cons]
end LW
end
section
set_option maxHeartbeats 4000000
namespace LW
open PC
theorem txts_one : ∀ ys : List Nat, txts (ys.map fun c => D.str [c]) = some (ys.map fun c => [c])
  | [] => rfl
  | c :: ys => by
    simp only [List.map_cons, txts, txts_one ys, Option.map_some]
theorem join_one : ∀ ys : List Nat, joinL [] (ys.map fun c => [c]) = ys
  | [] => rfl
  | [c] => rfl
  | c :: d :: ys => by
    have e := join_one (d :: ys)
    simp only [List.map_cons, joinL, List.append_nil] at e ⊢
    rw [e]; rfl
theorem total_one : ∀ ys : List Nat, total 0 (ys.map fun c => [c]) = ys.length
  | [] => rfl
  | c :: ys => by
    have e := total_one ys
    unfold total at e ⊢
    simp only [List.map_cons, List.sum_cons, List.length_cons, List.length_nil] at e ⊢
    omega
theorem join_is (g : G) (ys : List Nat) (h : ys.length ≤ LIM) : bmD g .join (D.str []) [D.lst (ys.map fun c => D.str [c])] = .ok (D.str ys) g := by
  show (match seqD g (D.lst (ys.map fun c => D.str [c])) with
    | some l => (match txts l with
      | some ts => if decide (total ([] : List Nat).length ts ≤ LIM) then R.ok (D.str (joinL [] ts)) g else .stk
      | none => .stk)
    | none => .stk) = _
  have e : seqD g (D.lst (ys.map fun c => D.str [c])) = some (ys.map fun c => D.str [c]) := rfl
  rw [e]
  simp only [txts_one, List.length_nil, total_one, join_one]
  rw [if_pos (decide_eq_true h)]
def Odd (d : D) : Prop := ∀ g : G, isTyG T g .str d = some false
def What (d : D) : Prop := (∃ s, d = .str s ∧ OkS s) ∨ Odd d
def odds : List D := [.non, .bl true, .int 5, .tup [], .lst [.str [97]], .tup [.str [97]], .dct [] [], .int (10 ^ 30)]
theorem odd_all : ∀ d ∈ odds, Odd d := by
  intro d hd
  simp only [odds, List.mem_cons, List.not_mem_nil, or_false] at hd
  rcases hd with rfl | rfl | rfl | rfl | rfl | rfl | rfl | rfl <;> exact fun g => rfl
def upS (s : List Nat) : List Nat := (PySem.Txt.upper (st s)).cps.toList
theorem up_small : ∀ s ∈ kwS, (upS s).length ≤ 30 ∧ ∀ c ∈ upS s, Ch c := by decide +kernel
end LW
end
section
set_option maxHeartbeats 4000000
namespace LW
open PC
theorem mk_f (l : List D) (g : G) (h : l.length ≤ LIM) : mkL false l g = .ok (.lst l) g := by
  unfold mkL
  rw [if_pos (decide_eq_true h)]
  rfl
theorem comp10 (n : Nat) {B : Int} {g : G} (env : Env) (he : env[0]? = some (some (.ref 0)) ∧ env[1]? = some (some (.str l63))) (hd : Dr B g) (hB : B < 300000) :
    ∃ (ys : List Nat) (g' : G), (evM T (call T (n + 2)) (.bm .join (.con (.str [])) [.comp false [6] [6] true (.range [.call 7 [.loc 0, .con (.int 6)]]) .nil elt10])).v env g = .ok (.str ys) g' ∧ ys.length ≤ 6 ∧ (∀ c ∈ ys, Ch c) ∧ Dr (B + 7) g' := by
  obtain ⟨r, g1, q1, q2, q3⟩ := nextD n (b := 6) hd (by omega) (by omega) (by omega)
  obtain ⟨ys, g2, i1, i2, i3, i4⟩ := loop10 n env he r 0 (B + 1) g1 q3 (by omega)
  refine ⟨ys, g2, ?_, by omega, i3, i4.le (by omega)⟩
  have h0 : (evM T (call T (n + 2)) (.range [.call 7 [.loc 0, .con (.int 6)]])).i env g = .ok (rangeL 0 r, none) g1 := by
    simp only [i_range, s_call, v_call, s_loc, v_loc, s_con, v_con, s_nil, b_ok, he.1, q1]
    exact range_1 g1 r (by omega)
  have hl : (ys.map fun c => D.str [c]).length ≤ LIM := by rw [List.length_map]; have : LIM = 1000000 := rfl; omega
  have h1 : (evM T (call T (n + 2)) (.comp false [6] [6] true (.range [.call 7 [.loc 0, .con (.int 6)]]) .nil elt10)).v env g = .ok (.lst (ys.map fun c => D.str [c])) g2 := by
    rw [v_comp, h0, b_ok]
    unfold compR
    simp only [lock_n, i1, freeG]
    exact mk_f _ _ hl
  have ht : bmT g .join (.str []) = true := rfl
  simp only [v_bm, v_con, b_ok, ht, s_comp, h1, s_nil]
  exact join_is g2 ys (by have : LIM = 1000000 := rfl; omega)
def t10 : List S := c10.drop 1
def nine : E := match (c10.getD 4 .pass : S) with
  | .set _ e => e
  | _ => .nil
def oddE : E := match (c10.getD 3 .pass : S) with
  | .set _ (.sub e _) => e
  | _ => .nil
theorem c10_is : c10 = [.set 1 (.con (.str l63)), .set 2 (.bm .join (.con (.str [])) [.comp false [6] [6] true (.range [.call 7 [.loc 0, .con (.int 6)]]) .nil elt10]),
    .set 3 (.sub (.call 8 []) (.call 7 [.loc 0, .con (.int 16)])), .set 4 (.sub oddE (.call 7 [.loc 0, .con (.int 8)])), .set 5 nine, .ret (.sub (.loc 5) (.call 7 [.loc 0, .con (.int 9)]))] := (rfl)
theorem odd_v (cf : CF) (env : Env) (g : G) : (evM T cf oddE).v env g = .ok (.lst odds) g := by
  rfl
theorem run10 (n : Nat) (a : D) (g : G) : call T (n + 1) 10 [a] g = endR (execs T (call T n) c10 [some a, none, none, none, none, none, none] g) := run_is T (call T n) 1 7 c10 [a] g rfl
end LW
end
section
set_option maxHeartbeats 4000000
namespace LW
open PC
theorem nine_is : nine = .lst false [.loc 2, .loc 3, .bin .add (.loc 3) (.loc 2), .bin .add (.loc 2) (.loc 3), .bm .upper (.loc 3) [], .loc 4, .bin .add (.con (.str [51])) (.loc 2), .con (.str []), .bin .add (.loc 2) (.con (.str [32]))] := (rfl)
theorem up_v (g : G) (k : List Nat) (h : k.length ≤ LIM) : bmD g .upper (.str k) [] = .ok (.str (upS k)) g := by
  show (if decide (k.length ≤ LIM) then R.ok (D.str (upS k)) g else .stk) = _
  rw [if_pos (decide_eq_true h)]
theorem nine_v (cf : CF) (env : Env) (g : G) (ys k : List Nat) (d : D) (h2 : env[2]? = some (some (.str ys))) (h3 : env[3]? = some (some (.str k))) (h4 : env[4]? = some (some d)) (l1 : ys.length ≤ 6) (l2 : k.length ≤ 10) :
    (evM T cf nine).v env g = .ok (.lst [.str ys, .str k, .str (k ++ ys), .str (ys ++ k), .str (upS k), d, .str ([51] ++ ys), .str [], .str (ys ++ [32])]) g := by
  have hL : LIM = 1000000 := rfl
  have a1 := add_s g k ys (by omega)
  have a2 := add_s g ys k (by omega)
  have a3 := add_s g [51] ys (by simp; omega)
  have a4 := add_s g ys [32] (by simp; omega)
  have ht : bmT g .upper (.str k) = true := rfl
  rw [nine_is]
  simp only [v_lst, s_loc, s_bin, s_bm, s_con, s_nil, v_loc, v_bin, v_bm, v_con, b_ok, h2, h3, h4, a1, a2, a3, a4, ht, up_v g k (by omega), opt_some]
  exact mk_f _ _ (by simp [hL])
theorem thing (n : Nat) {B : Int} {g : G} (hd : Dr B g) (hB : B < 200000) : ∃ d g', call T (n + 3) 10 [.ref 0] g = .ok d g' ∧ What d ∧ Dr (B + 20) g' := by
  have hL : LIM = 1000000 := rfl
  obtain ⟨ys, g1, c1, c2, c3, hd1⟩ := comp10 n [some (.ref 0), some (.str l63), none, none, none, none, none] ⟨rfl, rfl⟩ hd (by omega)
  obtain ⟨r, g2, q1, q2, hd2⟩ := nextD n (b := 16) hd1 (by omega) (by omega) (by omega)
  obtain ⟨kd, k1, k2⟩ := at_mem (l := kwS.map .str) (r := r) (by rw [List.length_map, kw_len]; omega) g2
  obtain ⟨k, hk, rfl⟩ := List.mem_map.mp k1
  obtain ⟨ks1, ks2⟩ := kw_small k hk
  obtain ⟨ku1, ku2⟩ := up_small k hk
  obtain ⟨r4, g4, p1, p2, hd4⟩ := nextD n (b := 8) hd2 (by omega) (by omega) (by omega)
  obtain ⟨o, o1, o2⟩ := at_mem (l := odds) (r := r4) (by have : odds.length = 8 := rfl; omega) g4
  have hodd := odd_all o o1
  obtain ⟨r5, g5, w1, w2, hd5⟩ := nextD n (b := 9) hd4 (by omega) (by omega) (by omega)
  have n9 := nine_v (call T (n + 2)) [some (.ref 0), some (.str l63), some (.str ys), some (.str k), some o, none, none] g4 ys k o rfl rfl rfl c2 ks1
  generalize hl9 : [D.str ys, .str k, .str (k ++ ys), .str (ys ++ k), .str (upS k), o, .str ([51] ++ ys), .str [], .str (ys ++ [32])] = l9 at n9
  obtain ⟨d, d1, d2⟩ := at_mem (l := l9) (r := r5) (by rw [← hl9]; simp; omega) g5
  refine ⟨d, g5, ?_, ?_, hd5.le (by omega)⟩
  · rw [run10, c10_is]
    simp only [x_cons, x_set, x_ret, x_nil, v_con, b_ok, List.set_cons_zero, List.set_cons_succ, c1, v_sub, v_call, s_nil, s_loc, s_con, v_loc, List.getElem?_cons_zero, List.getElem?_cons_succ, kw, q1, k2, odd_v, p1, o2, n9, w1, d2, opt_some, end_rt]
  · rw [← hl9] at d1
    simp only [List.mem_cons, List.not_mem_nil, or_false] at d1
    rcases d1 with rfl | rfl | rfl | rfl | rfl | rfl | rfl | rfl | rfl
    · exact .inl ⟨_, rfl, by omega, c3⟩
    · exact .inl ⟨_, rfl, by omega, ks2⟩
    · exact .inl ⟨_, rfl, by simp; omega, fun c h => (List.mem_append.mp h).elim (ks2 c) (c3 c)⟩
    · exact .inl ⟨_, rfl, by simp; omega, fun c h => (List.mem_append.mp h).elim (c3 c) (ks2 c)⟩
    · exact .inl ⟨_, rfl, by omega, ku2⟩
    · exact .inr hodd
    · exact .inl ⟨_, rfl, by simp; omega, fun c h => (List.mem_append.mp h).elim (fun z => by simp at z; subst z; decide) (c3 c)⟩
    · exact .inl ⟨_, rfl, by simp, by simp⟩
    · exact .inl ⟨_, rfl, by simp; omega, fun c h => (List.mem_append.mp h).elim (c3 c) (fun z => by simp at z; subst z; decide)⟩
end LW
end
section
set_option maxHeartbeats 4000000
namespace LW
open PC
theorem any_1 (g : G) (d : D) (b : Bool) (h : isTyG T g .str d = some b) : anyTy T g d [.str] = some b := by
  unfold anyTy anyTy
  rw [h]
  simp
theorem str_ty (g : G) (s : List Nat) : isTyG T g .str (.str s) = some true := rfl
theorem loop0 (cf : CF) (env : Env) (q : List Nat) (he : env[1]? = some (some (.str q))) (h2 : 2 < env.length) (g : G) : ∀ s : List Nat,
    compL (compF [2] [2] true (evM T cf .nil).c (evM T cf (.cmp .in_ (.loc 2) (.loc 1))).v env) (s.map fun c => D.str [c]) g = .ok (s.map fun c => D.bl (decide (c ∈ q))) g
  | [] => comp_nil _ _
  | c :: s => by
    have h0 : ((env.set 2 none).set 2 (some (.str [c])))[2]? = some (some (.str [c])) := by rw [List.getElem?_set_self (by rw [List.length_set]; exact h2)]
    have h1 : ((env.set 2 none).set 2 (some (.str [c])))[1]? = some (some (.str q)) := by rw [List.getElem?_set_ne (by decide), List.getElem?_set_ne (by decide)]; exact he
    have hin : cmpD g .in_ (.str [c]) (.str q) = some (decide (c ∈ q)) := by rfl
    have hf : compF [2] [2] true (evM T cf .nil).c (evM T cf (.cmp .in_ (.loc 2) (.loc 1))).v env (.str [c]) g = .ok (some (.bl (decide (c ∈ q)))) g := by
      show ((evM T cf .nil).c ((env.set 2 none).set 2 (some (.str [c]))) g).bind (fun b g3 => match b with
        | true => ((evM T cf (.cmp .in_ (.loc 2) (.loc 1))).v ((env.set 2 none).set 2 (some (.str [c]))) g3).bind fun y g4 => R.ok (some y) g4
        | false => .ok none g3) = _
      have hn : (evM T cf .nil).c ((env.set 2 none).set 2 (some (.str [c]))) g = .ok true g := (rfl)
      rw [hn]
      simp only [b_ok, v_cmp, v_loc, h0, h1, hin, Option.map_some, opt_some]
    rw [List.map_cons, comp_cons, hf]
    simp only [loop0 cf env q he h2 g s, List.map_cons]
theorem bools_is : ∀ l : List Bool, bools (l.map D.bl) = some l
  | [] => rfl
  | b :: l => by simp only [List.map_cons, bools, bools_is l, Option.map_some]
theorem run0 (n : Nat) (a b : D) (g : G) : call T (n + 1) 0 [a, b] g = endR (execs T (call T n) c0 [some a, some b, none] g) := run_is T (call T n) 2 3 c0 [a, b] g rfl
theorem c0_is : c0 = [.ret (.and_ (.isi [.str] (.loc 0)) (.bi .all [.comp false [2] [2] true (.loc 0) .nil (.cmp .in_ (.loc 2) (.loc 1))]))] := (rfl)
def inAll (s q : List Nat) : Bool := s.all fun c => decide (c ∈ q)
theorem consists (n : Nat) (s q : List Nat) (g : G) (hs : OkS s) : call T (n + 1) 0 [.str s, .str q] g = .ok (.bl (inAll s q)) g := by
  have hL : LIM = 1000000 := rfl
  have hit : itemsD g (.str s) = some (s.map fun c => D.str [c], none) := rfl
  have hc : (evM T (call T n) (.comp false [2] [2] true (.loc 0) .nil (.cmp .in_ (.loc 2) (.loc 1)))).v [some (.str s), some (.str q), none] g = .ok (.lst (s.map fun c => D.bl (decide (c ∈ q)))) g := by
    rw [v_comp]
    simp only [i_loc, v_loc, List.getElem?_cons_zero, b_ok, hit, opt_some]
    unfold compR
    simp only [lock_n, loop0 (call T n) [some (.str s), some (.str q), none] q rfl (by simp) g s, freeG]
    exact mk_f _ _ (by rw [List.length_map]; have := hs.1; omega)
  have hb : biD g .all [.lst (s.map fun c => D.bl (decide (c ∈ q)))] = .ok (.bl (inAll s q)) g := by
    show opt ((bools (s.map fun c => D.bl (decide (c ∈ q)))).map fun bs => D.bl (bs.all id)) g = _
    have e : (s.map fun c => D.bl (decide (c ∈ q))) = (s.map fun c => decide (c ∈ q)).map D.bl := by rw [List.map_map]; rfl
    rw [e, bools_is]
    simp [inAll, List.all_map]
  rw [run0, c0_is]
  simp only [x_cons, x_ret, v_and, v_isi, v_loc, b_ok, List.getElem?_cons_zero, any_1 g (.str s) true (str_ty g s), Option.map_some, opt_some, tru_b, v_bi, s_comp, hc, s_nil, hb, end_rt]
theorem consistsO (n : Nat) (d : D) (q : List Nat) (g : G) (hd : Odd d) : call T (n + 1) 0 [d, .str q] g = .ok (.bl false) g := by
  rw [run0, c0_is]
  simp only [x_cons, x_ret, v_and, v_isi, v_loc, b_ok, List.getElem?_cons_zero, any_1 g d false (hd g), Option.map_some, opt_some, tru_b, end_rt]
end LW
end
section
set_option maxHeartbeats 4000000
namespace LW
open PC
def strOf (d : D) : List Nat := match d with
  | .str s => s
  | _ => []
def LET : List Nat := strOf (gls.getD 0 .non)
def DIG : List Nat := strOf (gls.getD 1 .non)
def OTH : List Nat := strOf (gls.getD 2 .non)
theorem g_let : T.glo 0 = some (.str LET) := (rfl)
theorem g_dig : T.glo 1 = some (.str DIG) := (rfl)
theorem g_oth : T.glo 2 = some (.str OTH) := (rfl)
theorem g_kw : T.glo 3 = some (.tup (kwS.map .str)) := (rfl)
theorem c1_is : c1 = [.ret (.call 0 [.loc 0, .bin .add (.bin .add (.glo 0) (.glo 1)) (.glo 2)])] := (rfl)
theorem c2_is : c2 = [.ret (.call 0 [.loc 0, .bin .add (.bin .add (.bin .add (.glo 0) (.glo 1)) (.glo 2)) (.con (.str [10]))])] := (rfl)
theorem c3_is : c3 = [.ret (.and_ (.call 0 [.loc 0, .bin .add (.glo 0) (.glo 1)]) (.and_ (.cmp .ne (.loc 0) (.con (.str []))) (.cmp .in_ (.sub (.loc 0) (.con (.int 0))) (.glo 0))))] := (rfl)
theorem c4_is : c4 = [.ret (.and_ (.call 3 [.loc 0]) (.cmp .notin (.loc 0) (.glo 3)))] := (rfl)
theorem run1 (n : Nat) (a : D) (g : G) : call T (n + 1) 1 [a] g = endR (execs T (call T n) c1 [some a] g) := run_is T (call T n) 1 1 c1 [a] g rfl
theorem run2 (n : Nat) (a : D) (g : G) : call T (n + 1) 2 [a] g = endR (execs T (call T n) c2 [some a] g) := run_is T (call T n) 1 1 c2 [a] g rfl
theorem run3 (n : Nat) (a : D) (g : G) : call T (n + 1) 3 [a] g = endR (execs T (call T n) c3 [some a] g) := run_is T (call T n) 1 1 c3 [a] g rfl
theorem run4 (n : Nat) (a : D) (g : G) : call T (n + 1) 4 [a] g = endR (execs T (call T n) c4 [some a] g) := run_is T (call T n) 1 1 c4 [a] g rfl
def LD : List Nat := LET ++ DIG
def LDO : List Nat := LET ++ DIG ++ OTH
def LDON : List Nat := LET ++ DIG ++ OTH ++ [10]
theorem a1 (g : G) : binD g .add (.str LET) (.str DIG) = some (.str LD) := add_s g _ _ (by decide)
theorem a2 (g : G) : binD g .add (.str LD) (.str OTH) = some (.str LDO) := add_s g _ _ (by decide)
theorem a3 (g : G) : binD g .add (.str LDO) (.str [10]) = some (.str LDON) := add_s g _ _ (by decide)
theorem isLine (n : Nat) (d : D) (g : G) (b : Bool) (h : call T (n + 1) 0 [d, .str LDO] g = .ok (.bl b) g) : call T (n + 2) 1 [d] g = .ok (.bl b) g := by
  rw [run1, c1_is]
  simp only [x_cons, x_ret, v_call, s_loc, v_loc, b_ok, List.getElem?_cons_zero, s_bin, v_bin, v_glo, g_let, g_dig, g_oth, opt_some, a1, a2, s_nil, h, end_rt]
theorem isText (n : Nat) (d : D) (g : G) (b : Bool) (h : call T (n + 1) 0 [d, .str LDON] g = .ok (.bl b) g) : call T (n + 2) 2 [d] g = .ok (.bl b) g := by
  rw [run2, c2_is]
  simp only [x_cons, x_ret, v_call, s_loc, v_loc, b_ok, List.getElem?_cons_zero, s_bin, v_bin, v_glo, v_con, g_let, g_dig, g_oth, opt_some, a1, a2, a3, s_nil, h, end_rt]
def headIn (s q : List Nat) : Bool := match s with
  | [] => false
  | c :: _ => decide (c ∈ q)
theorem isWord (n : Nat) (s : List Nat) (g : G) (hs : OkS s) : call T (n + 2) 3 [.str s] g = .ok (.bl (inAll s LD && headIn s LET)) g := by
  rw [run3, c3_is]
  have h := consists n s LD g hs
  cases hb : inAll s LD with
  | false =>
    rw [hb] at h
    simp only [x_cons, x_ret, v_and, v_call, s_loc, v_loc, b_ok, List.getElem?_cons_zero, s_bin, v_bin, v_glo, g_let, g_dig, opt_some, a1, s_nil, h, tru_b, end_rt, Bool.false_and]
  | true =>
    rw [hb] at h
    cases s with
    | nil =>
      simp only [x_cons, x_ret, v_and, v_call, s_loc, v_loc, b_ok, List.getElem?_cons_zero, s_bin, v_bin, v_glo, v_con, g_let, g_dig, opt_some, a1, s_nil, h, tru_b, end_rt, v_cmp, ne_s, Option.map_some]
      rfl
    | cons c s =>
      have hi : subD g (.str (c :: s)) (.int 0) = some (.str [c]) := s_str (i := 0) rfl (by have := hs.1; have : LIM = 1000000 := rfl; omega) g
      have hin : cmpD g .in_ (.str [c]) (.str LET) = some (decide (c ∈ LET)) := by rfl
      have hne : decide (c :: s = ([] : List Nat)) = false := rfl
      simp only [x_cons, x_ret, v_and, v_call, s_loc, v_loc, b_ok, List.getElem?_cons_zero, s_bin, v_bin, v_glo, v_con, g_let, g_dig, opt_some, a1, s_nil, h, tru_b, end_rt, v_cmp, ne_s, Option.map_some, hne, Bool.not_false, v_sub, hi, hin, Bool.true_and, headIn]
theorem isWordO (n : Nat) (d : D) (g : G) (hd : Odd d) : call T (n + 2) 3 [d] g = .ok (.bl false) g := by
  rw [run3, c3_is]
  simp only [x_cons, x_ret, v_and, v_call, s_loc, v_loc, b_ok, List.getElem?_cons_zero, s_bin, v_bin, v_glo, g_let, g_dig, opt_some, a1, s_nil, consistsO n d LD g hd, tru_b, end_rt]
end LW
end
section
set_option maxHeartbeats 4000000
namespace LW
open PC
def kwD : List D := kwS.map .str
theorem kw_fl : kwD.all fl = true := by decide
def inKw (s : List Nat) : Bool := kwD.any fun z => flEq z (.str s)
theorem notin_t (g : G) (s : List Nat) : cmpD g .notin (.str s) (.tup kwD) = some (!inKw s) := by
  show ((if (fl (.str s) && kwD.all fl) = true then some (kwD.any fun z => flEq z (.str s)) else none) : Option Bool).map not = _
  rw [kw_fl]
  rfl
theorem notin_l (g : G) (s : List Nat) : cmpD g .notin (.str s) (.lst kwD) = some (!inKw s) := by
  show ((if (fl (.str s) && kwD.all fl) = true then some (kwD.any fun z => flEq z (.str s)) else none) : Option Bool).map not = _
  rw [kw_fl]
  rfl
theorem isName (n : Nat) (s : List Nat) (g : G) (hs : OkS s) : call T (n + 3) 4 [.str s] g = .ok (.bl (inAll s LD && headIn s LET && !inKw s)) g := by
  rw [run4, c4_is]
  have h := isWord n s g hs
  have hk : T.glo 3 = some (.tup kwD) := g_kw
  cases hb : inAll s LD && headIn s LET with
  | false =>
    rw [hb] at h
    simp only [x_cons, x_ret, v_and, v_call, s_loc, v_loc, b_ok, List.getElem?_cons_zero, s_nil, h, tru_b, end_rt, Bool.false_and]
  | true =>
    rw [hb] at h
    simp only [x_cons, x_ret, v_and, v_call, s_loc, v_loc, b_ok, List.getElem?_cons_zero, s_nil, h, tru_b, end_rt, Bool.true_and, v_cmp, v_glo, hk, opt_some, notin_t, Option.map_some]
theorem isNameO (n : Nat) (d : D) (g : G) (hd : Odd d) : call T (n + 3) 4 [d] g = .ok (.bl false) g := by
  rw [run4, c4_is]
  simp only [x_cons, x_ret, v_and, v_call, s_loc, v_loc, b_ok, List.getElem?_cons_zero, s_nil, isWordO n d g hd, tru_b, end_rt]
/-! _law_is_text -/
theorem c11_is : c11 = [.ite (.not_ (.isi [.str] (.loc 0))) [.ret (.con (.bl false))] [],
  .ret (.cmp .eq (.comp false [2] [2] true (.loc 0) (.and_ (.cmp .notin (.loc 2) (.loc 1)) (.not_ (.chain .le .le (.con (.str [32])) (.loc 2) (.con (.str [126]))))) (.loc 2)) (.lst false []))] := (rfl)
theorem run11 (n : Nat) (a b : D) (g : G) : call T (n + 1) 11 [a, b] g = endR (execs T (call T n) c11 [some a, some b, none] g) := run_is T (call T n) 2 3 c11 [a, b] g rfl
theorem lt_1 (a b : Nat) : decide (([a] : List Nat) < [b]) = decide (a < b) := by
  rw [decide_eq_decide]
  constructor
  · intro h
    cases h with
    | rel h => exact h
    | cons h => cases h
  · exact fun h => .rel h
/-- a sign that does not belong -/
def bad (q : List Nat) (c : Nat) : Bool := !decide (c ∈ q) && !(!decide (c < 32) && !decide (126 < c))
def cond11 : E := .and_ (.cmp .notin (.loc 2) (.loc 1)) (.not_ (.chain .le .le (.con (.str [32])) (.loc 2) (.con (.str [126]))))
theorem cond_v (cf : CF) (env : Env) (g : G) (c : Nat) (q : List Nat) (h1 : env[1]? = some (some (.str q))) (h2 : env[2]? = some (some (.str [c]))) : (evM T cf cond11).t env g = .ok (bad q c) g := by
  have hin : cmpD g .notin (.str [c]) (.str q) = some (!decide (c ∈ q)) := by rfl
  have e1 : cmpD g .le (.str [32]) (.str [c]) = some (!decide (c < 32)) := by rw [le_s, lt_1]
  have e2 : cmpD g .le (.str [c]) (.str [126]) = some (!decide (126 < c)) := by rw [le_s, lt_1]
  unfold cond11 bad
  cases a : decide (c ∈ q) with
  | true =>
    rw [a] at hin
    simp only [t_and, t_cmp, v_cmp, v_loc, h1, h2, b_ok, hin, Option.map_some, opt_some, tru_b, Bool.not_true, Bool.false_and]
  | false =>
    rw [a] at hin
    cases b : decide (c < 32) with
    | true =>
      rw [b] at e1
      simp only [t_and, t_cmp, v_cmp, v_loc, v_con, h1, h2, b_ok, hin, Option.map_some, opt_some, tru_b, Bool.not_true, Bool.not_false, t_not, t_chain, v_chain, e1, Bool.true_and, Bool.false_and]
    | false =>
      rw [b] at e1
      simp only [t_and, t_cmp, v_cmp, v_loc, v_con, h1, h2, b_ok, hin, Option.map_some, opt_some, tru_b, Bool.not_false, t_not, t_chain, v_chain, e1, e2, Bool.true_and]
end LW
end
section
set_option maxHeartbeats 4000000
namespace LW
open PC
theorem loop11 (cf : CF) (env : Env) (q : List Nat) (he : env[1]? = some (some (.str q))) (h2 : 2 < env.length) (g : G) : ∀ s : List Nat,
    compL (compF [2] [2] true (evM T cf cond11).c (evM T cf (.loc 2)).v env) (s.map fun c => D.str [c]) g = .ok ((s.filter (bad q)).map fun c => D.str [c]) g
  | [] => comp_nil _ _
  | c :: s => by
    have h0 : ((env.set 2 none).set 2 (some (.str [c])))[2]? = some (some (.str [c])) := by rw [List.getElem?_set_self (by rw [List.length_set]; exact h2)]
    have h1 : ((env.set 2 none).set 2 (some (.str [c])))[1]? = some (some (.str q)) := by rw [List.getElem?_set_ne (by decide), List.getElem?_set_ne (by decide)]; exact he
    have hc : (evM T cf cond11).c ((env.set 2 none).set 2 (some (.str [c]))) g = .ok (bad q c) g := cond_v cf _ g c q h1 h0
    have hf : compF [2] [2] true (evM T cf cond11).c (evM T cf (.loc 2)).v env (.str [c]) g = .ok (if bad q c then some (.str [c]) else none) g := by
      show ((evM T cf cond11).c ((env.set 2 none).set 2 (some (.str [c]))) g).bind (fun b g3 => match b with
        | true => ((evM T cf (.loc 2)).v ((env.set 2 none).set 2 (some (.str [c]))) g3).bind fun y g4 => R.ok (some y) g4
        | false => .ok none g3) = _
      rw [hc]
      cases bad q c with
      | true => simp only [b_ok, v_loc, h0, if_true]
      | false => simp only [b_ok, Bool.false_eq_true, if_false]
    rw [List.map_cons, comp_cons, hf]
    cases hb : bad q c with
    | true => simp only [if_true, loop11 cf env q he h2 g s, List.filter_cons, hb, List.map_cons]
    | false => simp only [Bool.false_eq_true, if_false, loop11 cf env q he h2 g s, List.filter_cons, hb]
theorem eq_nil (g : G) (l : List Nat) (h : ∀ c ∈ l, c < 1114112) : cmpD g .eq (.lst (l.map fun c => D.str [c])) (.lst []) = some l.isEmpty := by
  show eqL (eqN 49) (plN 49) (l.map fun c => D.str [c]) [] = _
  cases l with
  | nil => rfl
  | cons c l =>
    have hp : ((c :: l).map fun c => D.str [c]).all (plN 49) = true := by
      rw [List.all_map, List.all_eq_true]
      intro d hd
      have := h d hd
      show ([d] : List Nat).all (fun c => decide (c < 1114112)) = true
      simp [this]
    show (if (((c :: l).map fun c => D.str [c]).all (plN 49) && ([] : List D).all (plN 49)) = true then some false else none) = _
    rw [hp]
    rfl
theorem isT (n : Nat) (s q : List Nat) (g : G) (hs : OkS s) : call T (n + 1) 11 [.str s, .str q] g = .ok (.bl (s.filter (bad q)).isEmpty) g := by
  have hL : LIM = 1000000 := rfl
  have hit : itemsD g (.str s) = some (s.map fun c => D.str [c], none) := rfl
  have hfl : (s.filter (bad q)).length ≤ s.length := List.length_filter_le _ _
  have hc : (evM T (call T n) (.comp false [2] [2] true (.loc 0) cond11 (.loc 2))).v [some (.str s), some (.str q), none] g = .ok (.lst ((s.filter (bad q)).map fun c => D.str [c])) g := by
    rw [v_comp]
    simp only [i_loc, v_loc, List.getElem?_cons_zero, b_ok, hit, opt_some]
    unfold compR
    simp only [lock_n, loop11 (call T n) [some (.str s), some (.str q), none] q rfl (by simp) g s, freeG]
    exact mk_f _ _ (by rw [List.length_map]; have := hs.1; omega)
  have he := eq_nil g (s.filter (bad q)) fun c h => (hs.2 c (List.mem_filter.mp h).1).1
  have hn : (evM T (call T n) (.lst false [])).v [some (.str s), some (.str q), none] g = .ok (.lst []) g := mk_f [] g (by decide)
  have c11' : c11 = [.ite (.not_ (.isi [.str] (.loc 0))) [.ret (.con (.bl false))] [], .ret (.cmp .eq (.comp false [2] [2] true (.loc 0) cond11 (.loc 2)) (.lst false []))] := (rfl)
  rw [run11, c11']
  simp only [x_cons, x_ite, x_nil, x_ret, t_not, t_isi, v_isi, v_loc, b_ok, List.getElem?_cons_zero, any_1 g (.str s) true (str_ty g s), Option.map_some, opt_some, tru_b, Bool.not_true, v_cmp, hc, hn, he, end_rt]
theorem isTO (n : Nat) (d : D) (q : List Nat) (g : G) (hd : Odd d) : call T (n + 1) 11 [d, .str q] g = .ok (.bl false) g := by
  rw [run11, c11_is]
  simp only [x_cons, x_ite, x_nil, x_ret, v_con, t_not, t_isi, v_isi, v_loc, b_ok, List.getElem?_cons_zero, any_1 g d false (hd g), Option.map_some, opt_some, tru_b, Bool.not_false, end_rt]
end LW
end
section
set_option maxHeartbeats 4000000
namespace LW
open PC
def inR (a c b : Nat) : Bool := !decide (c < a) && !decide (b < c)
theorem chain_t (cf : CF) (env : Env) (g : G) (a b c : Nat) (e : E) (h : (evM T cf e).v env g = .ok (.str [c]) g) : (evM T cf (.chain .le .le (.con (.str [a])) e (.con (.str [b])))).t env g = .ok (inR a c b) g := by
  have e1 : cmpD g .le (.str [a]) (.str [c]) = some (!decide (c < a)) := by rw [le_s, lt_1]
  have e2 : cmpD g .le (.str [c]) (.str [b]) = some (!decide (b < c)) := by rw [le_s, lt_1]
  unfold inR
  cases x : decide (c < a) with
  | true =>
    rw [x] at e1
    simp only [t_chain, v_chain, v_con, h, b_ok, e1, Bool.not_true, Bool.false_and, tru_b, opt_some]
  | false =>
    rw [x] at e1
    simp only [t_chain, v_chain, v_con, h, b_ok, e1, e2, Bool.not_false, Bool.true_and, tru_b, opt_some, Option.map_some]
theorem eq_1 (a b : Nat) : decide (([a] : List Nat) = [b]) = decide (a = b) := by simp
def wordCh (c : Nat) : Bool := inR 97 c 122 || (inR 65 c 90 || (inR 48 c 57 || decide (c = 95)))
def ok12 : E := .or_ (.chain .le .le (.con (.str [97])) (.loc 1) (.con (.str [122]))) (.or_ (.chain .le .le (.con (.str [65])) (.loc 1) (.con (.str [90]))) (.or_ (.chain .le .le (.con (.str [48])) (.loc 1) (.con (.str [57]))) (.cmp .eq (.loc 1) (.con (.str [95])))))
def bo12 : List S := [.ite (.not_ ok12) [.ret (.con (.bl false))] []]
theorem ok12_v (cf : CF) (env : Env) (g : G) (c : Nat) (h : env[1]? = some (some (.str [c]))) : (evM T cf ok12).t env g = .ok (wordCh c) g := by
  have hv : (evM T cf (.loc 1)).v env g = .ok (.str [c]) g := by rw [v_loc, h]
  have k1 := chain_t cf env g 97 122 c _ hv
  have k2 := chain_t cf env g 65 90 c _ hv
  have k3 := chain_t cf env g 48 57 c _ hv
  have k4 : (evM T cf (.cmp .eq (.loc 1) (.con (.str [95])))).t env g = .ok (decide (c = 95)) g := by
    simp only [t_cmp, v_cmp, v_loc, v_con, h, b_ok, eq_s, eq_1, Option.map_some, opt_some, tru_b]
  unfold ok12 wordCh
  cases x1 : inR 97 c 122 <;> rw [x1] at k1
  · cases x2 : inR 65 c 90 <;> rw [x2] at k2
    · cases x3 : inR 48 c 57 <;> rw [x3] at k3
      · simp only [t_or, k1, k2, k3, k4, b_ok, Bool.false_or]
      · simp only [t_or, k1, k2, k3, b_ok, Bool.false_or, Bool.true_or]
    · simp only [t_or, k1, k2, b_ok, Bool.false_or, Bool.true_or]
  · simp only [t_or, k1, b_ok, Bool.true_or]
theorem loop12 (cf : CF) (g : G) (d : D) : ∀ (s : List Nat) (x : Option D), (s.all wordCh = true → ∃ x', forL (forF T cf true [1] bo12) (s.map fun c => D.str [c]) [some d, x] g = .ok (.nx [some d, x']) g) ∧
    (s.all wordCh = false → forL (forF T cf true [1] bo12) (s.map fun c => D.str [c]) [some d, x] g = .ok (.rt (.bl false)) g)
  | [], x => ⟨fun _ => ⟨x, forL_nil _ _ _⟩, fun h => by cases h⟩
  | c :: s, x => by
    have hk := ok12_v cf [some d, some (.str [c])] g c rfl
    obtain ⟨i1, i2⟩ := loop12 cf g d s (some (.str [c]))
    have hf : forF T cf true [1] bo12 (.str [c]) [some d, x] g = .ok (if wordCh c then .nx [some d, some (.str [c])] else .rt (.bl false)) g := by
      rw [forF_one]
      show execs T cf bo12 [some d, some (.str [c])] g = _
      unfold bo12
      cases hw : wordCh c with
      | true =>
        rw [hw] at hk
        simp only [x_cons, x_ite, t_not, hk, b_ok, Bool.not_true, x_nil, if_true]
      | false =>
        rw [hw] at hk
        simp only [x_cons, x_ite, t_not, hk, b_ok, Bool.not_false, x_ret, v_con, Bool.false_eq_true, if_false]
    rw [List.map_cons, forL_cons, hf, List.all_cons]
    cases hw : wordCh c with
    | true =>
      simp only [b_ok, if_true, Bool.true_and]
      exact ⟨i1, i2⟩
    | false =>
      simp only [b_ok, Bool.false_eq_true, if_false, Bool.false_and, false_implies, true_and]
      exact fun _ => trivial
end LW
end
section
set_option maxHeartbeats 4000000
namespace LW
open PC
theorem run12 (n : Nat) (a : D) (g : G) : call T (n + 1) 12 [a] g = endR (execs T (call T n) c12 [some a, none] g) := run_is T (call T n) 1 2 c12 [a] g rfl
theorem c12_is : c12 = [.ite (.or_ (.not_ (.isi [.str] (.loc 0))) (.or_ (.cmp .eq (.loc 0) (.con (.str []))) (.chain .le .le (.con (.str [48])) (.sub (.loc 0) (.con (.int 0))) (.con (.str [57]))))) [.ret (.con (.bl false))] [],
  .for_ true [1] (.loc 0) bo12, .ret (.con (.bl true))] := (rfl)
/-- what _law_is_word says -/
def lword (s : List Nat) : Bool := match s with
  | [] => false
  | c :: r => !inR 48 c 57 && (c :: r).all wordCh
theorem isW (n : Nat) (s : List Nat) (g : G) (hs : OkS s) : call T (n + 1) 12 [.str s] g = .ok (.bl (lword s)) g := by
  rw [run12, c12_is]
  have hit : itemsD g (.str s) = some (s.map fun c => D.str [c], none) := rfl
  cases s with
  | nil =>
    simp only [x_cons, x_ite, x_ret, v_con, t_or, t_not, t_isi, v_isi, v_loc, b_ok, List.getElem?_cons_zero, any_1 g (.str []) true (str_ty g []), Option.map_some, opt_some, tru_b, Bool.not_true, t_cmp, v_cmp, eq_s, decide_true, end_rt, lword]
  | cons c r =>
    have hi : subD g (.str (c :: r)) (.int 0) = some (.str [c]) := s_str (i := 0) rfl (by have := hs.1; have : LIM = 1000000 := rfl; omega) g
    have hsub : (evM T (call T n) (.sub (.loc 0) (.con (.int 0)))).v [some (.str (c :: r)), none] g = .ok (.str [c]) g := by
      simp only [v_sub, v_loc, v_con, b_ok, List.getElem?_cons_zero, hi, opt_some]
    have k1 := chain_t (call T n) [some (.str (c :: r)), none] g 48 57 c _ hsub
    have hne : decide (c :: r = ([] : List Nat)) = false := rfl
    cases hd : inR 48 c 57 with
    | true =>
      rw [hd] at k1
      simp only [x_cons, x_ite, x_ret, v_con, t_or, t_not, t_isi, v_isi, v_loc, b_ok, List.getElem?_cons_zero, any_1 g (.str (c :: r)) true (str_ty g (c :: r)), Option.map_some, opt_some, tru_b, Bool.not_true, t_cmp, v_cmp, eq_s, hne, k1, end_rt, lword, hd, Bool.false_and]
    | false =>
      rw [hd] at k1
      obtain ⟨l1, l2⟩ := loop12 (call T n) g (.str (c :: r)) (c :: r) none
      have hl : lword (c :: r) = (c :: r).all wordCh := by simp only [lword, hd, Bool.not_false, Bool.true_and]
      rw [hl]
      cases ha : (c :: r).all wordCh with
      | true =>
        obtain ⟨x', l1⟩ := l1 ha
        simp only [x_cons, x_ite, x_nil, x_ret, v_con, t_or, t_not, t_isi, v_isi, v_loc, b_ok, List.getElem?_cons_zero, any_1 g (.str (c :: r)) true (str_ty g (c :: r)), Option.map_some, opt_some, tru_b, Bool.not_true, t_cmp, v_cmp, eq_s, hne, k1, x_for, i_loc, hit, lock_n, l1, free_n, end_rt]
      | false =>
        have l2 := l2 ha
        simp only [x_cons, x_ite, x_nil, x_ret, v_con, t_or, t_not, t_isi, v_isi, v_loc, b_ok, List.getElem?_cons_zero, any_1 g (.str (c :: r)) true (str_ty g (c :: r)), Option.map_some, opt_some, tru_b, Bool.not_true, t_cmp, v_cmp, eq_s, hne, k1, x_for, i_loc, hit, lock_n, l2, free_n, end_rt]
theorem isWO (n : Nat) (d : D) (g : G) (hd : Odd d) : call T (n + 1) 12 [d] g = .ok (.bl false) g := by
  rw [run12, c12_is]
  simp only [x_cons, x_ite, x_ret, v_con, t_or, t_not, t_isi, v_isi, v_loc, b_ok, List.getElem?_cons_zero, any_1 g d false (hd g), Option.map_some, opt_some, tru_b, Bool.not_false, end_rt]
end LW
end
section
set_option maxHeartbeats 4000000
namespace LW
open PC
theorem in_bad (q p : List Nat) : ∀ s : List Nat, (∀ c ∈ s, decide (c ∈ q) = !bad p c) → inAll s q = (s.filter (bad p)).isEmpty
  | [], _ => rfl
  | c :: s, h => by
    have h1 := h c List.mem_cons_self
    have ih := in_bad q p s fun d hd => h d (List.mem_cons_of_mem _ hd)
    unfold inAll at ih ⊢
    rw [List.all_cons, h1, List.filter_cons]
    cases bad p c with
    | true => rfl
    | false => simpa using ih
theorem low_n : ∀ c, c < 128 → c ≠ 37 → decide (c ∈ LDON) = !bad [10] c := by decide +kernel
theorem low_l : ∀ c, c < 128 → c ≠ 37 → decide (c ∈ LDO) = !bad [] c := by decide +kernel
theorem low_w : ∀ c, c < 128 → decide (c ∈ LD) = wordCh c := by decide +kernel
theorem low_h : ∀ c, c < 128 → (decide (c ∈ LD) && decide (c ∈ LET)) = (wordCh c && !inR 48 c 57) := by decide +kernel
theorem all_low : (∀ c ∈ LDON, c < 128) ∧ (∀ c ∈ LDO, c < 128) ∧ (∀ c ∈ LD, c < 128) := by decide +kernel
theorem bad_high (c : Nat) (p : List Nat) (hp : ∀ d ∈ p, d < 128) (h : 128 ≤ c) : bad p c = true := by
  have h1 : c ∉ p := fun z => by have := hp c z; omega
  have h2 : (126 : Nat) < c := by omega
  simp [bad, h1, h2]
theorem text_eq (s : List Nat) (hs : OkS s) : inAll s LDON = (s.filter (bad [10])).isEmpty := in_bad _ _ s fun c hc => by
  by_cases h : c < 128
  · exact low_n c h (hs.2 c hc).2
  · rw [bad_high c [10] (by decide) (by omega), decide_eq_false fun z => by have := all_low.1 c z; omega]
    rfl
theorem line_eq (s : List Nat) (hs : OkS s) : inAll s LDO = (s.filter (bad [])).isEmpty := in_bad _ _ s fun c hc => by
  by_cases h : c < 128
  · exact low_l c h (hs.2 c hc).2
  · rw [bad_high c [] (by decide) (by omega), decide_eq_false fun z => by have := all_low.2.1 c z; omega]
    rfl
theorem word_ch (c : Nat) : decide (c ∈ LD) = wordCh c := by
  by_cases h : c < 128
  · exact low_w c h
  · rw [decide_eq_false fun z => by have := all_low.2.2 c z; omega]
    have a1 : ¬ c ≤ 122 := by omega
    unfold wordCh inR
    simp
    omega
end LW
end
section
set_option maxHeartbeats 4000000
namespace LW
open PC
theorem in_word (s : List Nat) : inAll s LD = s.all wordCh := by
  unfold inAll
  congr 1
  funext c
  exact word_ch c
theorem head_ch (c : Nat) (h : wordCh c = true) : decide (c ∈ LET) = !inR 48 c 57 := by
  by_cases hl : c < 128
  · have e := low_h c hl
    rw [word_ch, h, Bool.true_and, Bool.true_and] at e
    exact e
  · have e := word_ch c
    rw [h] at e
    have := all_low.2.2 c (of_decide_eq_true e)
    omega
theorem word_eq (s : List Nat) : (inAll s LD && headIn s LET) = lword s := by
  rw [in_word]
  cases s with
  | nil => rfl
  | cons c r =>
    unfold lword headIn
    cases h : wordCh c with
    | false => simp [h]
    | true =>
      simp only [head_ch c h, List.all_cons, h, Bool.true_and]
      exact Bool.and_comm _ _
end LW
end
section
set_option maxHeartbeats 4000000
namespace LW
open PC
theorem run5 (n : Nat) (a : D) (g : G) : call T (n + 1) 5 [a] g = endR (execs T (call T n) c5 [some a] g) := run_is T (call T n) 1 1 c5 [a] g rfl
theorem c5_is : c5 = [.ret (.dct true KS [.bin .add (.loc 0) (.lst false [.con (.int 0)]), .con (.int 0), .con (.int 0), .con (.int 0)])] := (rfl)
theorem begin_ (n : Nat) (ns : List Int) (h : ns.length ≤ 63) : call T (n + 1) 5 [.lst (ns.map .int)] [] = .ok (.ref 0) [drw (ns ++ [0]) 0 0 0] := by
  have hL : LIM = 1000000 := rfl
  have a := add_l [] (ns.map D.int) [.int 0] (by rw [List.length_map]; simp; omega)
  have m : mkL false [D.int 0] [] = .ok (.lst [.int 0]) [] := mk_f _ _ (by decide)
  rw [run5, c5_is]
  simp only [x_cons, x_ret, v_dct, s_bin, v_bin, v_loc, List.getElem?_cons_zero, b_ok, v_lst, s_con, v_con, s_nil, m, a, opt_some]
  have hk : decide (([D.lst (ns.map D.int ++ [.int 0]), .int 0, .int 0, .int 0] : List D).length = KS.length ∧ KS.Nodup ∧ KS.length ≤ 15) = true := by
    rw [decide_eq_true_iff]
    exact ⟨rfl, by decide, by decide⟩
  simp only [hk, if_true, b_ok, end_rt, drw, List.map_append, List.map_cons, List.map_nil, List.length_nil, List.nil_append]
end LW
end
section
set_option maxHeartbeats 4000000
namespace LW
open PC
theorem run13 (n : Nat) (a : D) (g : G) : call T (n + 1) 13 [a] g = endR (execs T (call T n) c13 [some a, none, none] g) := run_is T (call T n) 1 3 c13 [a] g rfl
theorem rep_ok : ∀ a b c d : Bool, ∃ t, reprD [] (.lst [.bl a, .bl b, .bl c, .bl d]) = some t := by
  have h : ∀ a b c d : Bool, (reprD [] (.lst [.bl a, .bl b, .bl c, .bl d])).isSome = true := by decide +kernel
  exact fun a b c d => Option.isSome_iff_exists.mp (h a b c d)
theorem rep_g (g : G) (l : List D) : reprD g (.lst l) = reprD [] (.lst l) := rfl
theorem rep_ref (g : G) (i : Nat) (l : List D) (h : g[i]? = some (.lst l)) : reprD g (.ref i) = reprD [] (.lst l) := by
  unfold reprD
  have e : top g (.ref i) = .lst l := by simp [top, h]
  rw [e]
  rfl
end LW
end
section
set_option maxHeartbeats 4000000
namespace LW
open PC
theorem mk_t (l : List D) (g : G) (h : l.length ≤ LIM) : mkL true l g = .ok (.ref g.length) (g ++ [.lst l]) := by
  unfold mkL
  rw [if_pos (decide_eq_true h)]
  rfl
theorem c13_is : c13 = [.set 1 (.lst true [.call 11 [.loc 0, .con (.str [10])], .call 11 [.loc 0, .con (.str [])], .call 12 [.loc 0]]),
  .ex (.bm .append (.loc 1) [.and_ (.sub (.loc 1) (.con (.int 2))) (.cmp .notin (.loc 0) (.call 8 []))]),
  .ite (.cmp .ne (.bi .repr [.lst false [.call 2 [.loc 0], .call 1 [.loc 0], .call 3 [.loc 0], .call 4 [.loc 0]]]) (.bi .repr [.loc 1])) [.ret (.con (.bl false))] [],
  .set 2 (.lst false [.callK 2 [] [.loc 0], .callK 1 [] [.loc 0], .callK 3 [] [.loc 0], .callK 4 [] [.loc 0]]),
  .ret (.cmp .eq (.bi .repr [.loc 2]) (.bi .repr [.loc 1]))] := (rfl)
theorem right_of (n : Nat) (d : D) (b1 b2 b3 b4 : Bool) (h1 : ∀ g, call T (n + 1) 11 [d, .str [10]] g = .ok (.bl b1) g) (h2 : ∀ g, call T (n + 1) 11 [d, .str []] g = .ok (.bl b2) g) (h3 : ∀ g, call T (n + 1) 12 [d] g = .ok (.bl b3) g)
    (k1 : ∀ g, call T (n + 1) 2 [d] g = .ok (.bl b1) g) (k2 : ∀ g, call T (n + 1) 1 [d] g = .ok (.bl b2) g) (k3 : ∀ g, call T (n + 1) 3 [d] g = .ok (.bl b3) g) (k4 : ∀ g, call T (n + 1) 4 [d] g = .ok (.bl b4) g)
    (hn : b3 = true → ∀ g, cmpD g .notin d (.lst kwD) = some b4) (hb : b3 = false → b4 = false) (g : G) : call T (n + 2) 13 [d] g = .ok (.bl true) (g ++ [.lst [.bl b1, .bl b2, .bl b3, .bl b4]]) := by
  obtain ⟨t, ht⟩ := rep_ok b1 b2 b3 b4
  have m := mk_t [.bl b1, .bl b2, .bl b3] g (by simp [LIM])
  have g1 : (g ++ [Cell.lst [.bl b1, .bl b2, .bl b3]])[g.length]? = some (.lst [.bl b1, .bl b2, .bl b3]) := by simp
  have g2 : (g ++ [Cell.lst [.bl b1, .bl b2, .bl b3, .bl b4]])[g.length]? = some (.lst [.bl b1, .bl b2, .bl b3, .bl b4]) := by simp
  have bt : bmT (g ++ [Cell.lst [.bl b1, .bl b2, .bl b3]]) .append (.ref g.length) = true := by simp [bmT, isL, top]
  have sb : subD (g ++ [Cell.lst [.bl b1, .bl b2, .bl b3]]) (.ref g.length) (.int 2) = some (.bl b3) := by simp [subD, top, L2.ixN]
  have ap : bmD (g ++ [Cell.lst [.bl b1, .bl b2, .bl b3]]) .append (.ref g.length) [.bl b4] = .ok .non (g ++ [.lst [.bl b1, .bl b2, .bl b3, .bl b4]]) := by simp [bmD, LIM]
  have rp1 : ∀ g', biD g' .repr [.lst [.bl b1, .bl b2, .bl b3, .bl b4]] = .ok (.str t) g' := fun g' => by
    show opt ((reprD g' (.lst [.bl b1, .bl b2, .bl b3, .bl b4])).map D.str) g' = _
    rw [rep_g, ht]; rfl
  have rp2 : biD (g ++ [Cell.lst [.bl b1, .bl b2, .bl b3, .bl b4]]) .repr [.ref g.length] = .ok (.str t) (g ++ [Cell.lst [.bl b1, .bl b2, .bl b3, .bl b4]]) := by
    show opt ((reprD (g ++ [Cell.lst [.bl b1, .bl b2, .bl b3, .bl b4]]) (.ref g.length)).map D.str) _ = _
    rw [rep_ref _ _ _ g2, ht]; rfl
  have mf : ∀ g', mkL false [D.bl b1, .bl b2, .bl b3, .bl b4] g' = .ok (.lst [.bl b1, .bl b2, .bl b3, .bl b4]) g' := fun g' => mk_f _ _ (by simp [LIM])
  have hk : ∀ g', call T (n + 1) 8 [] g' = .ok (.lst kwD) g' := fun g' => kw n g'
  have andv : (evM T (call T (n + 1)) (.and_ (.sub (.loc 1) (.con (.int 2))) (.cmp .notin (.loc 0) (.call 8 [])))).v [some d, some (.ref g.length), none] (g ++ [Cell.lst [.bl b1, .bl b2, .bl b3]]) = .ok (.bl b4) (g ++ [Cell.lst [.bl b1, .bl b2, .bl b3]]) := by
    cases hb3 : b3 with
    | true =>
      rw [hb3] at sb hn
      simp only [v_and, v_sub, v_loc, v_con, b_ok, List.getElem?_cons_zero, List.getElem?_cons_succ, hb3, sb, opt_some, tru_b, v_cmp, v_call, s_nil, hk, hn rfl, Option.map_some]
    | false =>
      rw [hb3] at sb
      simp only [v_and, v_sub, v_loc, v_con, b_ok, List.getElem?_cons_zero, List.getElem?_cons_succ, hb3, sb, opt_some, tru_b, hb hb3]
  rw [run13, c13_is]
  simp only [x_cons, x_set, x_ex, x_ite, x_nil, x_ret, v_lst, s_call, s_callK, v_call, v_callK, s_loc, s_con, v_loc, v_con, s_nil, b_ok, List.getElem?_cons_zero, List.getElem?_cons_succ, List.set_cons_zero, List.set_cons_succ, List.nil_append, h1, h2, h3, k1, k2, k3, k4, m, v_bm, bt, s_and_, andv, ap, t_cmp, v_cmp, v_bi, s_lst, mf, rp1, rp2, ne_s, eq_s, decide_true, Bool.not_true, Option.map_some, opt_some, tru_b, end_rt]
end LW
end
section
set_option maxHeartbeats 4000000
namespace LW
open PC
theorem right (n : Nat) (d : D) (hw : What d) (g : G) : ∃ c, call T (n + 5) 13 [d] g = .ok (.bl true) (g ++ [c]) := by
  rcases hw with ⟨s, rfl, hs⟩ | ho
  · refine ⟨_, right_of (n + 3) (.str s) (inAll s LDON) (inAll s LDO) (inAll s LD && headIn s LET) (inAll s LD && headIn s LET && !inKw s) (fun g => ?_) (fun g => ?_) (fun g => ?_) (fun g => ?_) (fun g => ?_) (fun g => ?_) (fun g => ?_) (fun h g => ?_) (fun h => ?_) g⟩
    · rw [text_eq s hs]; exact isT (n + 3) s [10] g hs
    · rw [line_eq s hs]; exact isT (n + 3) s [] g hs
    · rw [word_eq]; exact isW (n + 3) s g hs
    · exact isText (n + 2) _ g _ (consists (n + 2) s LDON g hs)
    · exact isLine (n + 2) _ g _ (consists (n + 2) s LDO g hs)
    · exact isWord (n + 2) s g hs
    · exact isName (n + 1) s g hs
    · rw [h, Bool.true_and]; exact notin_l g s
    · rw [h]; rfl
  · exact ⟨_, right_of (n + 3) d false false false false (fun g => isTO (n + 3) d _ g ho) (fun g => isTO (n + 3) d _ g ho) (fun g => isWO (n + 3) d g ho) (fun g => isText (n + 2) _ g _ (consistsO (n + 2) d LDON g ho)) (fun g => isLine (n + 2) _ g _ (consistsO (n + 2) d LDO g ho)) (fun g => isWordO (n + 2) d g ho) (fun g => isNameO (n + 1) d g ho) (fun h => by cases h) (fun _ => rfl) g⟩
end LW
end
section
set_option maxHeartbeats 4000000
namespace LW
open PC
theorem Dr.app {B : Int} {g : G} (h : Dr B g) (c : Cell) : Dr B (g ++ [c]) := by
  obtain ⟨cs, a, l, u, h1, h2⟩ := h
  obtain ⟨hl, _⟩ := List.getElem?_eq_some_iff.mp h1
  exact ⟨cs, a, l, u, by rw [List.getElem?_append_left hl]; exact h1, h2⟩
def bi14 : List S := [.ite (.not_ (.call 13 [.loc 3])) [.ret (.con (.bl false))] []]
theorem inner (n : Nat) (a b c : Option D) : ∀ (l : List D) (x : Option D) (B : Int) (g : G), (∀ d ∈ l, What d) → Dr B g → ∃ x' g', forL (forF T (call T (n + 5)) true [3] bi14) l [a, b, c, x] g = .ok (.nx [a, b, c, x']) g' ∧ Dr B g'
  | [], x, B, g, _, hd => ⟨x, g, forL_nil _ _ _, hd⟩
  | d :: l, x, B, g, hw, hd => by
    obtain ⟨cc, hr⟩ := right n d (hw d List.mem_cons_self) g
    obtain ⟨x', g', i1, i2⟩ := inner n a b c l (some d) B (g ++ [cc]) (fun e he => hw e (List.mem_cons_of_mem _ he)) (hd.app cc)
    refine ⟨x', g', ?_, i2⟩
    have hf : forF T (call T (n + 5)) true [3] bi14 d [a, b, c, x] g = .ok (.nx [a, b, c, some d]) (g ++ [cc]) := by
      rw [forF_one]
      show execs T (call T (n + 5)) bi14 [a, b, c, some d] g = _
      unfold bi14
      simp only [x_cons, x_ite, t_not, t_call, v_call, s_loc, v_loc, List.getElem?_cons_zero, List.getElem?_cons_succ, b_ok, s_nil, hr, tru_b, opt_some, Bool.not_true, x_nil]
    rw [forL_cons, hf]
    simp only [b_ok, i1]
end LW
end
section
set_option maxHeartbeats 4000000
namespace LW
open PC
def bo14 : List S := [.for_ true [3] (.lst false [.call 9 [.loc 1], .call 10 [.loc 1], .call 10 [.loc 1]]) bi14]
theorem outer (n : Nat) (a : D) : ∀ (m : Nat) (lo : Int) (x y : Option D) (B : Int) (g : G), Dr B g → B + 60 * m < 100000 → ∃ x' y' g', forL (forF T (call T (n + 5)) true [2] bo14) (rangeL lo m) [some a, some (.ref 0), x, y] g = .ok (.nx [some a, some (.ref 0), x', y']) g'
  | 0, lo, x, y, B, g, hd, hB => ⟨x, y, g, forL_nil _ _ _⟩
  | m + 1, lo, x, y, B, g, hd, hB => by
    obtain ⟨s, g1, s1, s2, d1⟩ := strings (n + 2) hd (by omega)
    obtain ⟨t1, g2, u1, u2, d2⟩ := thing (n + 2) d1 (by omega)
    obtain ⟨t2, g3, w1, w2, d3⟩ := thing (n + 2) d2 (by omega)
    obtain ⟨y', g4, i1, d4⟩ := inner n (some a) (some (.ref 0)) (some (.int lo)) [.str s, t1, t2] y _ g3 (by
      intro d h
      simp only [List.mem_cons, List.not_mem_nil, or_false] at h
      rcases h with rfl | rfl | rfl
      · exact .inl ⟨s, rfl, s2⟩
      · exact u2
      · exact w2) d3
    obtain ⟨x', y'', g', j⟩ := outer n a m (lo + 1) (some (.int lo)) y' _ g4 d4 (by omega)
    refine ⟨x', y'', g', ?_⟩
    have mf : mkL false [D.str s, t1, t2] g3 = .ok (.lst [.str s, t1, t2]) g3 := mk_f _ _ (by simp [LIM])
    have hit : itemsD g3 (.lst [.str s, t1, t2]) = some ([.str s, t1, t2], none) := rfl
    have hf : forF T (call T (n + 5)) true [2] bo14 (.int lo) [some a, some (.ref 0), x, y] g = .ok (.nx [some a, some (.ref 0), some (.int lo), y']) g4 := by
      rw [forF_one]
      show execs T (call T (n + 5)) bo14 [some a, some (.ref 0), some (.int lo), y] g = _
      unfold bo14
      simp only [x_cons, x_for, i_lst, v_lst, s_call, v_call, s_loc, v_loc, List.getElem?_cons_zero, List.getElem?_cons_succ, b_ok, s_nil, s1, u1, w1, mf, hit, opt_some, lock_n, i1, free_n, x_nil]
    show forL _ (.int lo :: rangeL (lo + 1) m) _ _ = _
    rw [forL_cons, hf]
    simp only [b_ok, j]
end LW
end
section
set_option maxHeartbeats 4000000
namespace LW
open PC
theorem run14 (n : Nat) (a : D) (g : G) : call T (n + 1) 14 [a] g = endR (execs T (call T n) c14 [some a, none, none, none] g) := run_is T (call T n) 1 4 c14 [a] g rfl
theorem c14_is : c14 = [.set 1 (.call 5 [.loc 0]), .ite (.cmp .ne (.bi .repr [.glo 3]) (.bi .repr [.bi .tuple [.call 8 []]])) [.ret (.con (.bl false))] [],
  .for_ true [2] (.range [.bi .min2 [.con (.int 30), .bin .add (.con (.int 8)) (.bi .len [.loc 0])]]) bo14, .ret (.con (.bl true))] := (rfl)
theorem rep_kw : ∃ t, reprD [] (.tup kwD) = some t := Option.isSome_iff_exists.mp (by decide +kernel)
theorem law_true : ∀ ns : List Int, ns.length ≤ 63 → ∃ g, call T 10 14 [.lst (ns.map D.int)] [] = .ok (.bl true) g := by
  intro ns h
  obtain ⟨t, ht⟩ := rep_kw
  have hb := begin_ 8 ns h
  generalize hg : [drw (ns ++ [0]) 0 0 0] = g at hb
  have hd : Dr 0 g := ⟨ns ++ [0], 0, 0, 0, by rw [← hg]; rfl, by simp, by simp; omega, by omega, by omega, by omega, by omega, by omega⟩
  have rp : biD g .repr [.tup kwD] = .ok (.str t) g := by
    show opt ((reprD g (.tup kwD)).map D.str) g = _
    rw [show reprD g (.tup kwD) = reprD [] (.tup kwD) from rfl, ht]; rfl
  have tp : biD g .tuple [.lst kwD] = .ok (.tup kwD) g := rfl
  have hk : call T 9 8 [] g = .ok (.lst kwD) g := kw 8 g
  obtain ⟨m, hm, hm2⟩ : ∃ m : Nat, (if 8 + (((ns.map D.int).length : Nat) : Int) < 30 then 8 + (((ns.map D.int).length : Nat) : Int) else 30) = (m : Int) ∧ m ≤ 30 := by
    split
    · exact ⟨8 + (ns.map D.int).length, by omega, by omega⟩
    · exact ⟨30, rfl, by omega⟩
  have mn : biD g .min2 [.int 30, .int (8 + (((ns.map D.int).length : Nat) : Int))] = .ok (.int m) g := by
    show R.ok (D.int (if _ then _ else _)) g = _
    rw [hm]
  obtain ⟨x', y', g', ho⟩ := outer 4 (.lst (ns.map D.int)) m 0 none none 0 g hd (by omega)
  refine ⟨g', ?_⟩
  have hk3 : T.glo 3 = some (.tup kwD) := g_kw
  rw [run14, c14_is]
  simp only [x_cons, x_set, x_ite, x_nil, x_ret, x_for, i_range, v_call, s_loc, v_loc, s_nil, s_bi, v_bi, s_glo, v_glo, s_call, s_con, s_bin, v_bin, v_con, b_ok, List.getElem?_cons_zero, List.getElem?_cons_succ, List.set_cons_zero, List.set_cons_succ, hb, t_cmp, v_cmp, hk3, hk, rp, tp, ne_s, decide_true, Bool.not_true, Option.map_some, opt_some, tru_b, len_l, add_i, mn, range_1 g m (by omega), lock_n, ho, free_n, end_rt]
end LW
end
section
set_option maxHeartbeats 0
namespace LW
open PySem PySem.Spec PyProof.Rows L2 PC
def top (i : Nat) : Stmt := PySem.Challenge.pw_replinput_k02_texts_lines_words_names.main.body.getD i (.Pass ⟨0, 0, 0, 0⟩)
def p0 : Pd := ⟨"consists_of", ["thing", "signs"], ["thing", "signs", "sign"], f0, ⟨("consists_of", none), "consists_of", "consists_of", defArgs (top 5), defBody (top 5), defScope (top 5), [], []⟩⟩
theorem b0_0 : ∀ (a0 a1 : Value), p0.bd 0 [a0, a1] := by
  intro a0 a1 kV doc pm an cdv ct
  kernel_rfl
theorem b0_1 : ∀ (a0 a1 : Value), p0.bd 1 [a0, a1] := by
  intro a0 a1 kV doc pm an cdv ct
  kernel_rfl
theorem b0_2 : ∀ (a0 a1 : Value), p0.bd 2 [a0, a1] := by
  intro a0 a1 kV doc pm an cdv ct
  kernel_rfl
theorem b0 : p0.binds := Pd.binds_of fun us h j hj => by
  cases us with
  | nil => simp [p0] at h
  | cons a0 us0 =>
  cases us0 with
  | nil => simp [p0] at h
  | cons a1 us1 =>
  cases us1 with
  | cons _ _ => simp [p0] at h
  | nil =>
  have hj : j ≤ 2 := hj
  have hj : j = 0 ∨ j = 1 ∨ j = 2 := by omega
  rcases hj with rfl | rfl | rfl
  · exact b0_0 a0 a1
  · exact b0_1 a0 a1
  · exact b0_2 a0 a1
def p1 : Pd := ⟨"is_line", ["thing"], ["thing"], f1, ⟨("is_line", none), "is_line", "is_line", defArgs (top 6), defBody (top 6), defScope (top 6), [], []⟩⟩
theorem b1_0 : ∀ (a0 : Value), p1.bd 0 [a0] := by
  intro a0 kV doc pm an cdv ct
  kernel_rfl
theorem b1_1 : ∀ (a0 : Value), p1.bd 1 [a0] := by
  intro a0 kV doc pm an cdv ct
  kernel_rfl
theorem b1 : p1.binds := Pd.binds_of fun us h j hj => by
  cases us with
  | nil => simp [p1] at h
  | cons a0 us0 =>
  cases us0 with
  | cons _ _ => simp [p1] at h
  | nil =>
  have hj : j ≤ 1 := hj
  have hj : j = 0 ∨ j = 1 := by omega
  rcases hj with rfl | rfl
  · exact b1_0 a0
  · exact b1_1 a0
def p2 : Pd := ⟨"is_text", ["thing"], ["thing"], f2, ⟨("is_text", none), "is_text", "is_text", defArgs (top 7), defBody (top 7), defScope (top 7), [], []⟩⟩
theorem b2_0 : ∀ (a0 : Value), p2.bd 0 [a0] := by
  intro a0 kV doc pm an cdv ct
  kernel_rfl
theorem b2_1 : ∀ (a0 : Value), p2.bd 1 [a0] := by
  intro a0 kV doc pm an cdv ct
  kernel_rfl
theorem b2 : p2.binds := Pd.binds_of fun us h j hj => by
  cases us with
  | nil => simp [p2] at h
  | cons a0 us0 =>
  cases us0 with
  | cons _ _ => simp [p2] at h
  | nil =>
  have hj : j ≤ 1 := hj
  have hj : j = 0 ∨ j = 1 := by omega
  rcases hj with rfl | rfl
  · exact b2_0 a0
  · exact b2_1 a0
def p3 : Pd := ⟨"is_word", ["thing"], ["thing"], f3, ⟨("is_word", none), "is_word", "is_word", defArgs (top 8), defBody (top 8), defScope (top 8), [], []⟩⟩
theorem b3_0 : ∀ (a0 : Value), p3.bd 0 [a0] := by
  intro a0 kV doc pm an cdv ct
  kernel_rfl
theorem b3_1 : ∀ (a0 : Value), p3.bd 1 [a0] := by
  intro a0 kV doc pm an cdv ct
  kernel_rfl
theorem b3 : p3.binds := Pd.binds_of fun us h j hj => by
  cases us with
  | nil => simp [p3] at h
  | cons a0 us0 =>
  cases us0 with
  | cons _ _ => simp [p3] at h
  | nil =>
  have hj : j ≤ 1 := hj
  have hj : j = 0 ∨ j = 1 := by omega
  rcases hj with rfl | rfl
  · exact b3_0 a0
  · exact b3_1 a0
def p4 : Pd := ⟨"is_name", ["thing"], ["thing"], f4, ⟨("is_name", none), "is_name", "is_name", defArgs (top 9), defBody (top 9), defScope (top 9), [], []⟩⟩
theorem b4_0 : ∀ (a0 : Value), p4.bd 0 [a0] := by
  intro a0 kV doc pm an cdv ct
  kernel_rfl
theorem b4_1 : ∀ (a0 : Value), p4.bd 1 [a0] := by
  intro a0 kV doc pm an cdv ct
  kernel_rfl
theorem b4 : p4.binds := Pd.binds_of fun us h j hj => by
  cases us with
  | nil => simp [p4] at h
  | cons a0 us0 =>
  cases us0 with
  | cons _ _ => simp [p4] at h
  | nil =>
  have hj : j ≤ 1 := hj
  have hj : j = 0 ∨ j = 1 := by omega
  rcases hj with rfl | rfl
  · exact b4_0 a0
  · exact b4_1 a0
def p5 : Pd := ⟨"_law_begin", ["_law_script"], ["_law_script"], f5, ⟨("_law_begin", none), "_law_begin", "_law_begin", defArgs (top 11), defBody (top 11), defScope (top 11), [], []⟩⟩
theorem b5_0 : ∀ (a0 : Value), p5.bd 0 [a0] := by
  intro a0 kV doc pm an cdv ct
  kernel_rfl
theorem b5_1 : ∀ (a0 : Value), p5.bd 1 [a0] := by
  intro a0 kV doc pm an cdv ct
  kernel_rfl
theorem b5 : p5.binds := Pd.binds_of fun us h j hj => by
  cases us with
  | nil => simp [p5] at h
  | cons a0 us0 =>
  cases us0 with
  | cons _ _ => simp [p5] at h
  | nil =>
  have hj : j ≤ 1 := hj
  have hj : j = 0 ∨ j = 1 := by omega
  rcases hj with rfl | rfl
  · exact b5_0 a0
  · exact b5_1 a0
def p6 : Pd := ⟨"_law_mixed", ["_law_cell", "_law_k"], ["_law_cell", "_law_k", "_law_mixed_here"], f6, ⟨("_law_mixed", none), "_law_mixed", "_law_mixed", defArgs (top 12), defBody (top 12), defScope (top 12), [], []⟩⟩
theorem b6_0 : ∀ (a0 a1 : Value), p6.bd 0 [a0, a1] := by
  intro a0 a1 kV doc pm an cdv ct
  kernel_rfl
theorem b6_1 : ∀ (a0 a1 : Value), p6.bd 1 [a0, a1] := by
  intro a0 a1 kV doc pm an cdv ct
  kernel_rfl
theorem b6_2 : ∀ (a0 a1 : Value), p6.bd 2 [a0, a1] := by
  intro a0 a1 kV doc pm an cdv ct
  kernel_rfl
theorem b6 : p6.binds := Pd.binds_of fun us h j hj => by
  cases us with
  | nil => simp [p6] at h
  | cons a0 us0 =>
  cases us0 with
  | nil => simp [p6] at h
  | cons a1 us1 =>
  cases us1 with
  | cons _ _ => simp [p6] at h
  | nil =>
  have hj : j ≤ 2 := hj
  have hj : j = 0 ∨ j = 1 ∨ j = 2 := by omega
  rcases hj with rfl | rfl | rfl
  · exact b6_0 a0 a1
  · exact b6_1 a0 a1
  · exact b6_2 a0 a1
def p7 : Pd := ⟨"_law_next", ["_law_draw", "_law_bound"], ["_law_draw", "_law_bound", "_law_cells", "_law_cell", "_law_found"], f7, ⟨("_law_next", none), "_law_next", "_law_next", defArgs (top 13), defBody (top 13), defScope (top 13), [], []⟩⟩
theorem b7_0 : ∀ (a0 a1 : Value), p7.bd 0 [a0, a1] := by
  intro a0 a1 kV doc pm an cdv ct
  kernel_rfl
theorem b7_1 : ∀ (a0 a1 : Value), p7.bd 1 [a0, a1] := by
  intro a0 a1 kV doc pm an cdv ct
  kernel_rfl
theorem b7_2 : ∀ (a0 a1 : Value), p7.bd 2 [a0, a1] := by
  intro a0 a1 kV doc pm an cdv ct
  kernel_rfl
theorem b7 : p7.binds := Pd.binds_of fun us h j hj => by
  cases us with
  | nil => simp [p7] at h
  | cons a0 us0 =>
  cases us0 with
  | nil => simp [p7] at h
  | cons a1 us1 =>
  cases us1 with
  | cons _ _ => simp [p7] at h
  | nil =>
  have hj : j ≤ 2 := hj
  have hj : j = 0 ∨ j = 1 ∨ j = 2 := by omega
  rcases hj with rfl | rfl | rfl
  · exact b7_0 a0 a1
  · exact b7_1 a0 a1
  · exact b7_2 a0 a1
def p8 : Pd := ⟨"_law_keywords", [], ["_law_first"], f8, ⟨("_law_keywords", none), "_law_keywords", "_law_keywords", defArgs (top 14), defBody (top 14), defScope (top 14), [], []⟩⟩
theorem b8_0 : p8.bd 0 [] := by
  intro kV doc pm an cdv ct
  kernel_rfl
theorem b8 : p8.binds := Pd.binds_of fun us h j hj => by
  cases us with
  | cons _ _ => simp [p8] at h
  | nil =>
  have hj : j ≤ 0 := hj
  have hj : j = 0 := by omega
  rcases hj with rfl
  · exact b8_0 
def p9 : Pd := ⟨"_law_string", ["_law_draw"], ["_law_draw", "_law_found", "_law_k", "_law_some"], f9, ⟨("_law_string", none), "_law_string", "_law_string", defArgs (top 15), defBody (top 15), defScope (top 15), [], []⟩⟩
theorem b9_0 : ∀ (a0 : Value), p9.bd 0 [a0] := by
  intro a0 kV doc pm an cdv ct
  kernel_rfl
theorem b9_1 : ∀ (a0 : Value), p9.bd 1 [a0] := by
  intro a0 kV doc pm an cdv ct
  kernel_rfl
theorem b9 : p9.binds := Pd.binds_of fun us h j hj => by
  cases us with
  | nil => simp [p9] at h
  | cons a0 us0 =>
  cases us0 with
  | cons _ _ => simp [p9] at h
  | nil =>
  have hj : j ≤ 1 := hj
  have hj : j = 0 ∨ j = 1 := by omega
  rcases hj with rfl | rfl
  · exact b9_0 a0
  · exact b9_1 a0
def p10 : Pd := ⟨"_law_thing", ["_law_draw"], ["_law_draw", "_law_letters", "_law_word", "_law_keyword", "_law_odd", "_law_some", "_law_k"], f10, ⟨("_law_thing", none), "_law_thing", "_law_thing", defArgs (top 16), defBody (top 16), defScope (top 16), [], []⟩⟩
theorem b10_0 : ∀ (a0 : Value), p10.bd 0 [a0] := by
  intro a0 kV doc pm an cdv ct
  kernel_rfl
theorem b10_1 : ∀ (a0 : Value), p10.bd 1 [a0] := by
  intro a0 kV doc pm an cdv ct
  kernel_rfl
theorem b10 : p10.binds := Pd.binds_of fun us h j hj => by
  cases us with
  | nil => simp [p10] at h
  | cons a0 us0 =>
  cases us0 with
  | cons _ _ => simp [p10] at h
  | nil =>
  have hj : j ≤ 1 := hj
  have hj : j = 0 ∨ j = 1 := by omega
  rcases hj with rfl | rfl
  · exact b10_0 a0
  · exact b10_1 a0
def p11 : Pd := ⟨"_law_is_text", ["_law_what", "_law_more"], ["_law_what", "_law_more", "_law_sign"], f11, ⟨("_law_is_text", none), "_law_is_text", "_law_is_text", defArgs (top 17), defBody (top 17), defScope (top 17), [], []⟩⟩
theorem b11_0 : ∀ (a0 a1 : Value), p11.bd 0 [a0, a1] := by
  intro a0 a1 kV doc pm an cdv ct
  kernel_rfl
theorem b11_1 : ∀ (a0 a1 : Value), p11.bd 1 [a0, a1] := by
  intro a0 a1 kV doc pm an cdv ct
  kernel_rfl
theorem b11_2 : ∀ (a0 a1 : Value), p11.bd 2 [a0, a1] := by
  intro a0 a1 kV doc pm an cdv ct
  kernel_rfl
theorem b11 : p11.binds := Pd.binds_of fun us h j hj => by
  cases us with
  | nil => simp [p11] at h
  | cons a0 us0 =>
  cases us0 with
  | nil => simp [p11] at h
  | cons a1 us1 =>
  cases us1 with
  | cons _ _ => simp [p11] at h
  | nil =>
  have hj : j ≤ 2 := hj
  have hj : j = 0 ∨ j = 1 ∨ j = 2 := by omega
  rcases hj with rfl | rfl | rfl
  · exact b11_0 a0 a1
  · exact b11_1 a0 a1
  · exact b11_2 a0 a1
def p12 : Pd := ⟨"_law_is_word", ["_law_what"], ["_law_what", "_law_sign"], f12, ⟨("_law_is_word", none), "_law_is_word", "_law_is_word", defArgs (top 18), defBody (top 18), defScope (top 18), [], []⟩⟩
theorem b12_0 : ∀ (a0 : Value), p12.bd 0 [a0] := by
  intro a0 kV doc pm an cdv ct
  kernel_rfl
theorem b12_1 : ∀ (a0 : Value), p12.bd 1 [a0] := by
  intro a0 kV doc pm an cdv ct
  kernel_rfl
theorem b12 : p12.binds := Pd.binds_of fun us h j hj => by
  cases us with
  | nil => simp [p12] at h
  | cons a0 us0 =>
  cases us0 with
  | cons _ _ => simp [p12] at h
  | nil =>
  have hj : j ≤ 1 := hj
  have hj : j = 0 ∨ j = 1 := by omega
  rcases hj with rfl | rfl
  · exact b12_0 a0
  · exact b12_1 a0
def p13 : Pd := ⟨"_law_right", ["_law_what"], ["_law_what", "_law_due", "_law_named"], f13, ⟨("_law_right", none), "_law_right", "_law_right", defArgs (top 19), defBody (top 19), defScope (top 19), [], []⟩⟩
theorem b13_0 : ∀ (a0 : Value), p13.bd 0 [a0] := by
  intro a0 kV doc pm an cdv ct
  kernel_rfl
theorem b13_1 : ∀ (a0 : Value), p13.bd 1 [a0] := by
  intro a0 kV doc pm an cdv ct
  kernel_rfl
theorem b13 : p13.binds := Pd.binds_of fun us h j hj => by
  cases us with
  | nil => simp [p13] at h
  | cons a0 us0 =>
  cases us0 with
  | cons _ _ => simp [p13] at h
  | nil =>
  have hj : j ≤ 1 := hj
  have hj : j = 0 ∨ j = 1 := by omega
  rcases hj with rfl | rfl
  · exact b13_0 a0
  · exact b13_1 a0
def p14 : Pd := ⟨"law", ["_law_script"], ["_law_script", "_law_draw", "_law_turn", "_law_what"], f14, ⟨("law", none), "law", "law", defArgs (top 20), defBody (top 20), defScope (top 20), [], []⟩⟩
theorem b14_0 : ∀ (a0 : Value), p14.bd 0 [a0] := by
  intro a0 kV doc pm an cdv ct
  kernel_rfl
theorem b14_1 : ∀ (a0 : Value), p14.bd 1 [a0] := by
  intro a0 kV doc pm an cdv ct
  kernel_rfl
theorem b14 : p14.binds := Pd.binds_of fun us h j hj => by
  cases us with
  | nil => simp [p14] at h
  | cons a0 us0 =>
  cases us0 with
  | cons _ _ => simp [p14] at h
  | nil =>
  have hj : j ≤ 1 := hj
  have hj : j = 0 ∨ j = 1 := by omega
  rcases hj with rfl | rfl
  · exact b14_0 a0
  · exact b14_1 a0
def prg : Prg := ⟨[("LETTERS", .str [97, 98, 99, 100, 101, 102, 103, 104, 105, 106, 107, 108, 109, 110, 111, 112, 113, 114, 115, 116, 117, 118, 119, 120, 121, 122, 65, 66, 67, 68, 69, 70, 71, 72, 73, 74, 75, 76, 77, 78, 79, 80, 81, 82, 83, 84, 85, 86, 87, 88, 89, 90, 95]), ("DIGITS", .str [48, 49, 50, 51, 52, 53, 54, 55, 56, 57]), ("OTHERS", .str [32, 33, 34, 35, 36, 38, 39, 40, 41, 42, 43, 44, 45, 46, 47, 58, 59, 60, 61, 62, 63, 64, 91, 92, 93, 94, 96, 123, 124, 125, 126]), ("KEYWORDS", .tup [.str [97, 110, 100], .str [98, 114, 101, 97, 107], .str [100, 101, 102], .str [101, 108, 105, 102], .str [101, 108, 115, 101], .str [101, 120, 99, 101, 112, 116], .str [102, 105, 110, 97, 108, 108, 121], .str [102, 111, 114], .str [105, 102], .str [105, 110], .str [110, 111, 116], .str [111, 114], .str [112, 97, 115, 115], .str [114, 101, 116, 117, 114, 110], .str [116, 114, 121], .str [119, 104, 105, 108, 101]])],
  [p0, p1, p2, p3, p4, p5, p6, p7, p8, p9, p10, p11, p12, p13, p14],
  ["all", "isinstance", "str", "len", "range", "repr", "tuple", "min"]⟩
def names0 : List String := ["__name__", "KEYWORDS", "LETTERS", "DIGITS", "OTHERS", "consists_of", "is_line", "is_text", "is_word", "is_name", "_law_begin", "_law_mixed", "_law_next", "_law_keywords", "_law_string", "_law_thing", "_law_is_text", "_law_is_word", "_law_right"]
def names : List PySem.Str := (names0).map PySem.Str.ofString
theorem seen : prg.fs.all (fun d => d.chk prg.z) = true := by kernel_rfl
abbrev R : PySem.W.OpenRow := PySem.W.OpenLaw.row PySem.Challenge.rw_replinput_k02_texts_lines_words_names
def ob (s : PySem.W.SharedT) : He.AlD := prg.obsG 5 (HandSHeadRun.getT s)
theorem ob_eq (s : PySem.W.SharedT) : ob s = (prg.hook 5).obs s.abs := Prg.obs_eq (HandSHeadRun.getT_eq s)
theorem run (w : World) : HandSHeadRun.RunEq R (PySem.W.view R.prog [20]) (prg.hook 5) ob 2000 names w := by
  intro os
  kernel_rfl
end LW
end
section
set_option maxHeartbeats 0
namespace LW
open PySem PySem.Spec PyProof.Rows L2 PC
theorem T_eq : prg.T = T := by
  have e : (fun i : Nat => (prg.fs[i]?).map fun d : Pd => d.F) = fun i => fns[i]? := by
    funext i
    rw [← List.getElem?_map]
    rfl
  have e2 : (fun i : Nat => (prg.gl[i]?).map fun q : PySem.Str × D => q.2) = fun i => gls[i]? := by
    funext i
    rw [← List.getElem?_map]
    rfl
  unfold Prg.T T
  rw [e, e2]
theorem bs : ∀ d ∈ prg.fs, d.binds := by
  intro d hd
  simp only [prg, List.mem_cons, List.not_mem_nil, or_false] at hd
  rcases hd with rfl | rfl | rfl | rfl | rfl | rfl | rfl | rfl | rfl | rfl | rfl | rfl | rfl | rfl | rfl
  · exact b0
  · exact b1
  · exact b2
  · exact b3
  · exact b4
  · exact b5
  · exact b6
  · exact b7
  · exact b8
  · exact b9
  · exact b10
  · exact b11
  · exact b12
  · exact b13
  · exact b14
end LW
open PySem PySem.W PySem.Calls PyProof.Rows
theorem PySem.Challenge.cw_replinput_k02_texts_lines_words_names_holds : PySem.Challenge.rw_replinput_k02_texts_lines_words_names.Holds := by
  w_on; o_law
  refine HandSHeadRun.head_any (r := LW.R) (q := view LW.R.prog [20]) (H := LW.prg.hook 5) (ob := LW.ob) (M := 2000) (loose := LW.names) (d := HandSHeadRun.topDef LW.R.prog 20) (kwd := []) LW.ob_eq
    (by kernel_rfl) (fun s => by kernel_rfl) LW.run (by kernel_rfl) (by kernel_rfl) (by kernel_rfl) (by rfl) (by first | assumption | decide +kernel) (by decide +kernel) ⟨rfl, rfl, rfl, rfl, rfl, by decide +kernel⟩ ?hw ?hc
  case hw => w_witness2
  case hc =>
    refine PC.law_walk (l := PySem.Challenge.rw_replinput_k02_texts_lines_words_names) (m := 63) (n := 10) (T := LW.prg.T) (lw := 14) rfl (by decide) (by kernel_rfl) ⟨rfl, by decide, by decide⟩ ?hF (by rw [LW.T_eq]; exact LW.law_true)
    intro w mg h Y G
    obtain ⟨K, KX, c⟩ := Y
    obtain ⟨N, e1, e2, e3, e4, e5, e6⟩ := PC.Prg.ok (w := w) LW.seen LW.bs KX G c
    have e7 : (HandSHeadRun.topDef LW.R.prog 20).name = LW.p14.x := by kernel_rfl
    refine ⟨N, e1, e2, e3, e4, e5, ?_⟩
    rw [e7]
    exact e6 14 LW.p14 rfl
end
