import PyProof.Rows.All
import Wide.All
import OpenK.AllK
import Wide.FinOn
import HandS.ForMost
import HandS.More
import HandS.StrMore
import HandS.Exc
import HandS.Star
import HandS.Defaults
import HandS.TupAny
import HandS.TupLe
import HandS.IsInst
import HandS.Property
import HandS.ClsMeth
import HandS.ExcSuper
import HandS.TryMany
import HandS.Style
import HandS.StrSplit
import HandS.Flow
import HandS.RaiseMore
import HandS.Codes
import HandS.Iter
import HandS.NoneIn
import PyProof.NeKinds
import PyProof.EqAt
import KE.KSuper
import KE.KExcSuper
import HandS.ExcIs
import HandS.ExcValue
import KE.SortData
import PyProof.CollectStr
import KE.KExcPX
import HandS.ExcField
import HandS.SetFor
import KE.DataFind
import PyProof.ExcBaseAll.ValueError
import PyProof.ExcBaseAll.RuntimeError
import PyProof.ExcBaseAll.LookupError
import KE.KExcInit
import HandS.HeadHook2
import HandS.Head2
import HandS.HeadHook3
import HandS.HeadEnd
import PyProof.Draws
import PyProof.EnumMake
import HandS.Zip0
import PyProof.DictUpdate
import PyProof.DictDisplay
import HandS.Base
import HandS.Call
import HandS.Dict
import HandS.ListItems
import KE.KOpsOwn
import PyProof.InstNe
import HandS.SlotsOwn
import HandS.Conv
import HandS.ReplaceLit
import HandS.Small
import KE.KWithOwn
import HandS.Ends
import PyProof.ReprText
import PySem.Challenge.RW_replinput_k01_error_classes
set_option Elab.async false
set_option linter.all false
set_option maxRecDepth 100000
section
set_option maxHeartbeats 4000000
namespace PC
open PySem

/-- a key of a dict -/
inductive DK where
  | i (k : Int)
  | s (x : List Nat)
  deriving DecidableEq

/-- data: what a value of the program is, without addresses (ref: a cell of the evaluator's own heap) -/
inductive D where
  | non
  | bl (b : Bool)
  | int (i : Int)
  | str (s : List Nat)
  | tup (l : List D)
  | lst (l : List D)
  | dct (ks : List DK) (vs : List D)
  | mdc (ks : List DK) (vs : List D)
  | obj (c : Nat) (ns : List Nat) (vs : List D)
  | ref (i : Nat)
  | cls (c : Nat)
  | xob (c : Nat) (ns : List Nat) (vs : List D)

/-- what a cell of the evaluator's heap holds; lck: a list that a loop walks -/
inductive Cell where
  | lst (l : List D)
  | lck (l : List D)
  | dct (ks : List DK) (vs : List D)
  | ins (c : Nat) (ns : List Nat) (vs : List D)
  | dead
abbrev G := List Cell
abbrev Env := List (Option D)

/-- an exception of one of the program's classes, its fields -/
structure Ex where
  c : Nat
  ns : List Nat
  vs : List D

inductive R (α : Type) where
  | ok (a : α) (g : G)
  | exc (x : Ex) (g : G)
  | stk
@[simp] def R.bind {α β : Type} (m : R α) (k : α → G → R β) : R β := match m with
  | .ok a g => k a g
  | .exc x g => .exc x g
  | .stk => .stk
/-- an answer that may lack -/
def opt {α : Type} (o : Option α) (g : G) : R α := match o with
  | some a => .ok a g
  | none => .stk
@[simp] theorem opt_some {α : Type} (a : α) (g : G) : opt (some a) g = .ok a g := rfl
@[simp] theorem opt_none {α : Type} (g : G) : opt (none : Option α) g = .stk := rfl

inductive Bop where | add | sub | mul | fdiv | mod | pow
  deriving DecidableEq
inductive Cop where | eq | ne | lt | le | gt | ge | is_ | isnot | in_ | notin | eqE | neE
  deriving DecidableEq
/-- built-in functions -/
inductive Bi where | len | all | any | min2 | max2 | repr | tuple | list | str | int | sorted | bool | listH
  deriving DecidableEq
/-- methods of built-in types -/
inductive Bm where | append | extend | pop | popi | insert | join | startswith | endswith | split | strip | lstrip | upper | replace | replaceN | find2 | rfind | rfind3 | count | countL | index | index2 | partition | get | get2 | items | update
  deriving DecidableEq
/-- own ways of a class: == and so on by its own defs -/
inductive Ow where | eq | ne | in_ | notin | item | add | len | bool
  deriving DecidableEq
/-- types that are asked for -/
inductive Ty where | str | int | bool | tuple | list | cls (c : Nat)
  deriving DecidableEq

/-- a class that an error is asked for: an own one, or one of the language -/
inductive XT where | own (c : Nat) | val | run | look | key | idx | nyi
  deriving DecidableEq
/-- code of an expression. star: within an argument list or a display; nil: nothing (a bound of a slice, a test of a comprehension that lacks);
 range, enum, zip: what a loop walks, only there; frz: the list in a cell becomes a value -/
inductive E where
  | nil
  | loc (i : Nat)
  | con (d : D)
  | glo (g : Nat)
  | bin (o : Bop) (a b : E)
  | neg (a : E)
  | not_ (a : E)
  | and_ (a b : E)
  | or_ (a b : E)
  | cmp (o : Cop) (a b : E)
  | chain (o p : Cop) (a b c : E)
  | ite (c a b : E)
  | call (f : Nat) (as : List E)
  | callK (f : Nat) (as : List E) (es : List E)
  | meth (m : Nat) (o : E) (as : List E)
  | fld (f : Nat) (o : E)
  | prop (m : Nat) (o : E)
  | bi (b : Bi) (as : List E)
  | isi (t : List Ty) (a : E)
  | bm (m : Bm) (o : E) (as : List E)
  | sub (o i : E)
  | slc (o lo hi : E)
  | rev (o : E)
  | own1 (k : Ow) (m : Nat) (a : E)
  | own2 (k : Ow) (m : Nat) (a b : E)
  | ownC (k : Ow) (m : Nat) (a b : E)
  | methK (m f : Nat) (o : E) (es : List E)
  | methW (m f : Nat) (o : E) (es : List E)
  | callW (f : Nat) (es : List E)
  | cmeth (m f c : Nat) (as : List E)
  | cmethK (m f c : Nat) (es : List E)
  | callS (f : Nat) (o a : E)
  | tup (as : List E)
  | lst (h : Bool) (as : List E)
  | dct (h : Bool) (ks : List DK) (vs : List E)
  | dctS (a : E) (ks : List DK) (vs : List E)
  | dget (o i y : E)
  | dget1 (o i : E)
  | itemsL (o : E)
  | addL (a b : E)
  | dictP (a : E)
  | star (a : E)
  | frz (a : E)
  | comp (h : Bool) (own : List Nat) (tg : List Nat) (one : Bool) (it cond elt : E)
  | range (as : List E)
  | enum (a : E)
  | zip (a b : E)
  | repl (o : E) (y z : List Nat)
  | listR (a : E)
  | fldX (f : Nat) (o : E)
  | isX (t : XT) (a : E)
  | isXs (ts : List XT) (a : E)
  | mkX (c : Nat) (a : E)
  | mkXK (c : Nat) (as : List E)

/-- what is done with a caught error: kept under a name, a constant given back, nothing -/
inductive XHd where
  | keep (i j : Nat)
  | con (d : D)
  | pass
/-- what is done with a call's value -/
inductive XTr where
  | drop
  | set (i : Nat)
  | ret
/-- what is called: a def, a method -/
inductive XCl where
  | fn (f : Nat)
  | me (m : Nat)
/-- code of a statement -/
inductive S where
  | pass | brk | cont
  | ex (e : E)
  | ret (e : E)
  | retN
  | set (i : Nat) (e : E)
  | unp (is : List Nat) (e : E)
  | unpL (is : List Nat) (e : E)
  | par (is : List Nat) (es : List E)
  | setF (f : Nat) (o e : E)
  | setI (o i e : E)
  | aug (i : Nat) (o : Bop) (e : E)
  | augF (f : Nat) (o : E) (p : Bop) (e : E)
  | ite (c : E) (a b : List S)
  | while_ (c : E) (b : List S)
  | for_ (one : Bool) (tg : List Nat) (it : E) (b : List S)
  | unpA (i : Nat) (fs : List Nat) (e : E)
  | mtch (e : E) (ks : List (List (List Nat))) (bs : List (List S))
  | raise (c : Nat) (as : List E)
  | try_ (r : XTr) (cl : XCl) (as : List E) (hs : List (List Nat × XHd))
  | with_ (i : Nat) (e : E) (en ex : Nat) (b : List S)
  | nev

/-! ### data -/
/-- most items that a list, a text may have here -/
def LIM : Nat := 1000000
/-- a list's cell as its value -/
def top (g : G) : D → D
  | .ref i => match g[i]? with
    | some (.lst l) => .lst l
    | some (.lck l) => .lst l
    | _ => .ref i
  | d => d
/-- the items of a sequence -/
def seqD (g : G) (d : D) : Option (List D) := match top g d with
  | .tup l => some l
  | .lst l => some l
  | _ => none
def dctD (g : G) : D → Option (List DK × List D)
  | .dct ks vs => some (ks, vs)
  | .mdc ks vs => some (ks, vs)
  | .ref i => match g[i]? with
    | some (.dct ks vs) => some (ks, vs)
    | _ => none
  | _ => none
def lookD : List DK → List D → DK → Option D
  | k :: ks, v :: vs, x => if k = x then some v else lookD ks vs x
  | _, _, _ => none
/-- d[k] = v -/
def putDk : List DK → DK → List DK
  | k :: ks, x => if k = x then k :: ks else k :: putDk ks x
  | [], x => [x]
def putDv : List DK → List D → DK → D → List D
  | k :: ks, v :: vs, x, y => if k = x then y :: vs else v :: putDv ks vs x y
  | _, _, _, y => [y]
def keyD : D → Option DK
  | .int i => some (.i i)
  | .str s => some (.s s)
  | _ => none
/-- an int is not looked for among texts -/
def kOk : DK → List DK → Bool
  | .i _, ks => ks.all fun k => match k with
    | .i _ => true
    | .s _ => false
  | .s _, _ => true
/-- truth -/
def tru (g : G) (d : D) : Option Bool := match top g d with
  | .non => some false
  | .bl b => some b
  | .int i => some (i != 0)
  | .str s => if decide (s.length ≤ LIM) then some (!s.isEmpty) else none
  | .tup l => some (!l.isEmpty)
  | .lst l => some (!l.isEmpty)
  | _ => none
/-- plain data of at most that depth: no objects, dicts, cells -/
def plN : Nat → D → Bool
  | 0, _ => false
  | n + 1, d => match d with
    | .non => true
    | .bl _ => true
    | .int _ => true
    | .str s => s.all fun c => decide (c < 1114112)
    | .tup l => l.all (plN n)
    | .lst l => l.all (plN n)
    | _ => false
/-- .. with empty dicts -/
def plR : Nat → D → Bool
  | 0, _ => false
  | n + 1, d => match d with
    | .non => true
    | .bl _ => true
    | .int _ => true
    | .str s => s.all fun c => decide (c < 1114112)
    | .tup l => l.all (plR n)
    | .lst l => l.all (plR n)
    | .dct [] [] => true
    | _ => false
/-- two rows of data, item by item -/
def eqL (f : D → D → Option Bool) (p : D → Bool) : List D → List D → Option Bool
  | [], [] => some true
  | a :: as, b :: bs => match f a b, eqL f p as bs with
    | some x, some y => some (x && y)
    | _, _ => none
  | as, bs => if as.all p && bs.all p then some false else none
/-- == of plain data -/
def eqN : Nat → D → D → Option Bool
  | 0, _, _ => none
  | n + 1, x, y => match x, y with
    | .non, .non => some true
    | .bl a, .bl b => some (a == b)
    | .int a, .int b => some (a == b)
    | .str a, .str b => if (plN (n + 1) (.str a) && plN (n + 1) (.str b)) = true then some (a == b) else none
    | .bl a, .int b => some ((if a then 1 else 0) == b)
    | .int a, .bl b => some (a == (if b then 1 else 0))
    | .tup a, .tup b => eqL (eqN n) (plN n) a b
    | .lst a, .lst b => eqL (eqN n) (plN n) a b
    | x, y => if (plN (n + 1) x && plN (n + 1) y) = true then some false else none
/-- == of two scalars -/
def sclE : D → D → Option Bool
  | .non, .non => some true
  | .int a, .int b => some (decide (a = b))
  | .bl a, .bl b => some (decide (a = b))
  | .str a, .str b => some (decide (a = b))
  | .non, .int _ => some false
  | .int _, .non => some false
  | .non, .bl _ => some false
  | .bl _, .non => some false
  | .non, .str _ => some false
  | .str _, .non => some false
  | .int _, .str _ => some false
  | .str _, .int _ => some false
  | .bl _, .str _ => some false
  | .str _, .bl _ => some false
  | _, _ => none
def eqG (g : G) (x y : D) : Option Bool := match sclE x y with
  | some b => some b
  | none => eqN 50 (top g x) (top g y)

/-- a text of the program -/
def st (l : List Nat) : Str := ⟨l.toArray⟩
mutual
/-- plain data as the library tells them -/
def toP : D → PyData
  | .non => .none
  | .bl b => .bool b
  | .int i => .int i
  | .str s => .str (st s)
  | .tup l => .tuple (toPs l)
  | .lst l => .list (toPs l)
  | .dct _ _ => .dict []
  | _ => .none
def toPs : List D → List PyData
  | [] => []
  | d :: ds => toP d :: toPs ds
end
/-- repr -/
def reprD (g : G) (x : D) : Option (List Nat) :=
  if plR 50 (top g x) && ((toP (top g x)).showable && decide ((toP (top g x)).shown.length ≤ LIM)) then some (toP (top g x)).shown.cps.toList else none
@[simp] theorem st_list (l : List Nat) : (st l).cps.toList = l := by simp [st]
@[simp] theorem st_length (l : List Nat) : (st l).length = l.length := by simp [st, Str.length]
theorem st_of (x : Str) : st x.cps.toList = x := by simp [st]
def inStr (x y : List Nat) : Bool := match x with
  | [c] => decide (c ∈ y)
  | _ => !(Builtin.Str.occurrences (st y) (st x) 0 (st y).length 1).isEmpty
def strL (l : List Str) : D := .lst (l.map fun x => .str x.cps.toList)
/-- a flat thing: what x in xs may ask for here -/
def fl : D → Bool
  | .non => false
  | .bl _ => false
  | .int _ => true
  | .str _ => true
  | _ => false
def flEq : D → D → Bool
  | .int a, .int b => decide (a = b)
  | .str a, .str b => decide (a = b)
  | _, _ => false
def inD (g : G) (x y : D) : Option Bool := match top g y with
  | .str s => match x with
    | .str r => some (inStr r s)
    | _ => none
  | .tup l => if fl x && l.all fl then some (l.any fun z => flEq z x) else none
  | .lst l => if fl x && l.all fl then some (l.any fun z => flEq z x) else none
  | y => match dctD g y, keyD x with
    | some (ks, _), some k => if kOk k ks then some (decide (k ∈ ks)) else none
    | _, _ => none
def isNon : D → Bool
  | .non => true
  | _ => false
/-- a list against an empty one -/
def emE (g : G) (x y : D) : Option Bool := match top g x, top g y with
  | .lst l, .lst [] => some l.isEmpty
  | _, _ => none
def cmpD (g : G) : Cop → D → D → Option Bool
  | .eq, x, y => eqG g x y
  | .ne, x, y => (eqG g x y).map not
  | .lt, .int a, .int b => some (decide (a < b))
  | .le, .int a, .int b => some (decide (a ≤ b))
  | .gt, .int a, .int b => some (decide (b < a))
  | .ge, .int a, .int b => some (decide (b ≤ a))
  | .lt, .str a, .str b => some (decide (a < b))
  | .le, .str a, .str b => some (!decide (b < a))
  | .gt, .str a, .str b => some (decide (b < a))
  | .ge, .str a, .str b => some (!decide (a < b))
  | .is_, x, .non => some (isNon x)
  | .isnot, x, .non => some (!isNon x)
  | .is_, .bl a, .bl b => some (decide (a = b))
  | .isnot, .bl a, .bl b => some (!decide (a = b))
  | .in_, x, y => inD g x y
  | .notin, x, y => (inD g x y).map not
  | .eqE, x, y => emE g x y
  | .neE, x, y => (emE g x y).map not
  | _, _, _ => none
/-- a text, so many times -/
def repL (a : List Nat) (n : Nat) : List Nat := (List.replicate n a).flatten
def sml (i : Int) : Bool := decide (-(2 ^ 64) < i) && decide (i < 2 ^ 64)
def binD (g : G) (o : Bop) (x y : D) : Option D := match o, top g x, top g y with
  | .add, .int a, .int b => some (.int (a + b))
  | .sub, .int a, .int b => some (.int (a - b))
  | .mul, .int a, .int b => if sml a then some (.int (a * b)) else none
  | .mul, .str a, .int b => if decide (b ≤ 1000000 ∧ a.length ≤ LIM ∧ a.length * b.toNat ≤ LIM ∧ -1000000 ≤ b) then some (.str (repL a b.toNat)) else none
  | .fdiv, .int a, .int b => if decide (0 < b) && decide (b < 1073741824) then some (.int (a / b)) else none
  | .mod, .int a, .int b => if decide (0 < b) then some (.int (a % b)) else none
  | .pow, .int a, .int b => if decide (0 ≤ b) && (decide (b ≤ 1000000) && sml a) then some (.int (a ^ b.toNat)) else none
  | .add, .str a, .str b => if decide (a.length + b.length ≤ LIM) then some (.str (a ++ b)) else none
  | .add, .tup a, .tup b => if decide (a.length + b.length ≤ LIM) then some (.tup (a ++ b)) else none
  | .add, .lst a, .lst b => if decide (a.length + b.length ≤ LIM) then some (.lst (a ++ b)) else none
  | .mul, .lst a, .int b => if decide (b ≤ 1000000 ∧ a.length ≤ LIM ∧ a.length * b.toNat ≤ LIM ∧ -1000000 ≤ b) then some (.lst (List.replicate b.toNat a).flatten) else none
  | _, _, _ => none
def subD (g : G) (o i : D) : Option D := match top g o, i with
  | .tup l, .int k => (L2.ixN l.length k).bind fun j => l[j]?
  | .lst l, .int k => (L2.ixN l.length k).bind fun j => l[j]?
  | .str s, .int k => if decide (s.length ≤ LIM) then (L2.ixN s.length k).bind fun j => s[j]?.map fun c => .str [c] else none
  | o, i => match dctD g o, keyD i with
    | some (ks, vs), some k => if kOk k ks then lookD ks vs k else none
    | _, _ => none
/-- a bound of a slice -/
def bnd : D → Option (Option Int)
  | .non => some none
  | .int i => some (some i)
  | _ => none
def cutL {α : Type} (l : List α) (lo hi : Option Int) : List α := (l.drop (HT.sIx l.length 0 lo)).take (HT.sIx l.length l.length hi - HT.sIx l.length 0 lo)
def slcD (g : G) (o lo hi : D) : Option D := match bnd lo, bnd hi with
  | some a, some b => match top g o with
    | .tup l => some (.tup (cutL l a b))
    | .lst l => some (.lst (cutL l a b))
    | .str s => if decide (s.length ≤ LIM) then some (.str (cutL s a b)) else none
    | _ => none
  | _, _ => none
def bools : List D → Option (List Bool)
  | [] => some []
  | .bl b :: r => (bools r).map (b :: ·)
  | _ => none
def txts : List D → Option (List (List Nat))
  | [] => some []
  | .str b :: r => (txts r).map (b :: ·)
  | _ => none
def isTy (t : Ty) : D → Bool
  | .str _ => t == .str
  | .int _ => t == .int
  | .bl _ => t == .int || t == .bool
  | .tup _ => t == .tuple
  | .lst _ => t == .list
  | _ => false

/-! ### tables -/
/-- a def; a class called: a record (its fields, in the order of __init__'s parameters, and __init__'s number), a value that __init__ makes on a heap of its own, a cell -/
inductive Kd where
  | fn
  | rcd (c : Nat) (fs : List Nat) (ini : Nat)
  | new (c : Nat) (ini : Nat)
  | cel (c : Nat) (ini : Nat)
/-- a def: how many parameters, the defaults of the last of them, how many names, whether the last parameter takes the rest,
 its kind, its body -/
structure Fn where
  np : Nat
  dfl : List D
  nn : Nat
  va : Bool
  kd : Kd
  body : List S
/-- what the text has by numbers: defs, a class's methods, properties, which names are an instance's own, constants, the field of an exception class, the classes that a class is one of -/
structure Tab where
  fn : Nat → Option Fn
  mt : Nat → Nat → Option Nat
  pr : Nat → Nat → Option Nat
  fl : Nat → Nat → Bool
  glo : Nat → Option D
  exf : Nat → Option Nat
  sub : Nat → Nat → Bool
  ow : Nat → Bool
  cm : Nat → Nat → Option Nat
  kc : Nat → Option Nat
  xi : Nat → XT → Bool
abbrev CF := Nat → List D → G → R D
/-- the class of an instance -/
def clsD (g : G) : D → Option Nat
  | .obj c _ _ => some c
  | .ref i => match g[i]? with
    | some (.ins c _ _) => some c
    | _ => none
  | _ => none
/-- the class of an instance that has no field m of its own -/
def metD (g : G) (m : Nat) : D → Option Nat
  | .obj c ns _ => if ns.contains m then none else some c
  | .ref i => match g[i]? with
    | some (.ins c ns _) => if ns.contains m then none else some c
    | _ => none
  | _ => none
def lookF : List Nat → List D → Nat → Option D
  | n :: ns, v :: vs, x => if n = x then some v else lookF ns vs x
  | _, _, _ => none
def putFn : List Nat → Nat → List Nat
  | n :: ns, x => if n = x then n :: ns else n :: putFn ns x
  | [], x => [x]
def putFv : List Nat → List D → Nat → D → List D
  | n :: ns, v :: vs, x, y => if n = x then y :: vs else v :: putFv ns vs x y
  | _, _, _, y => [y]
def fldD (g : G) (f : Nat) : D → Option D
  | .obj _ ns vs => lookF ns vs f
  | .ref i => match g[i]? with
    | some (.ins _ ns vs) => lookF ns vs f
    | _ => none
  | _ => none
/-- the arguments in the parameters' order, defaults among them -/
def bindA (F : Fn) (vs : List D) : Option (List D) :=
  if F.va then (if F.np ≤ vs.length + 1 ∧ vs.length ≤ LIM ∧ 1 ≤ F.np then some (vs.take (F.np - 1) ++ [.tup (vs.drop (F.np - 1))]) else none)
  else if vs.length ≤ F.np ∧ F.np ≤ vs.length + F.dfl.length then some (vs ++ F.dfl.drop (F.dfl.length - (F.np - vs.length))) else none
def isTyG (T : Tab) (g : G) (t : Ty) (d : D) : Option Bool := match clsD g d with
  | some c => (match t with
    | .cls c' => if T.ow c = true then some (T.sub c c') else none
    | _ => none)
  | none => (match top g d with
    | .obj _ _ _ => none
    | .ref i => (match g[i]? with
      | some (.dct _ _) => some false
      | _ => none)
    | .cls _ => none
    | .xob _ _ _ => none
    | d => some (isTy t d))
def anyTy (T : Tab) (g : G) (d : D) : List Ty → Option Bool
  | [] => some false
  | t :: ts => match isTyG T g t d, anyTy T g d ts with
    | some a, some b => some (a || b)
    | _, _ => none

/-- numbers, ascending -/
def insN (x : Nat) : List Nat → List Nat
  | [] => [x]
  | y :: r => if decide (x ≤ y) then x :: y :: r else y :: insN x r
def insS : List Nat → List Nat
  | [] => []
  | x :: r => insN x (insS r)
/-! ### built-in functions and methods -/
def biD (g : G) : Bi → List D → R D
  | .len, [x] => (match top g x with
    | .str s => if decide (s.length ≤ LIM) then .ok (.int s.length) g else .stk
    | .tup l => .ok (.int l.length) g
    | .lst l => .ok (.int l.length) g
    | _ => .stk)
  | .all, [x] => (match top g x with
    | .lst l => opt ((bools l).map fun bs => .bl (bs.all id)) g
    | _ => .stk)
  | .any, [x] => (match top g x with
    | .lst l => opt ((bools l).map fun bs => .bl (bs.any id)) g
    | _ => .stk)
  | .min2, [.int i, .int j] => .ok (.int (if j < i then j else i)) g
  | .max2, [.int i, .int j] => .ok (.int (if j > i then j else i)) g
  | .tuple, [x] => (match top g x with
    | .tup l => .ok (.tup l) g
    | .lst l => .ok (.tup l) g
    | _ => .stk)
  | .repr, [x] => opt ((reprD g x).map .str) g
  | .str, [.int i] => if sml i then .ok (.str (toString i : Str).cps.toList) g else .stk
  | .int, [.int i] => .ok (.int i) g
  | .int, [.bl b] => .ok (.int (if b then 1 else 0)) g
  | .list, [x] => (match top g x with
    | .tup l => .ok (.lst l) g
    | .lst l => .ok (.lst l) g
    | _ => .stk)
  | .sorted, [.str s] => if decide (s.length ≤ 1000) then .ok (.lst ((insS s).map fun c => .str [c])) g else .stk
  | .listH, [x] => (match top g x with
    | .tup l => if decide (l.length ≤ LIM) then .ok (.ref g.length) (g ++ [.lst l]) else .stk
    | .lst l => if decide (l.length ≤ LIM) then .ok (.ref g.length) (g ++ [.lst l]) else .stk
    | _ => .stk)
  | _, _ => .stk
def total (sep : Nat) (l : List (List Nat)) : Nat := (l.map fun x => x.length + sep).sum
def joinL (sep : List Nat) : List (List Nat) → List Nat
  | [] => []
  | [x] => x
  | x :: r => x ++ sep ++ joinL sep r
def isS : D → Bool
  | .str _ => true
  | _ => false
def isL (g : G) (x : D) : Bool := match top g x with
  | .lst _ => true
  | _ => false
/-- the receiver is of the type that has the method -/
def bmT (g : G) (m : Bm) (x : D) : Bool := match m with
  | .append => isL g x
  | .extend => isL g x
  | .pop => isL g x
  | .popi => isL g x
  | .insert => isL g x
  | .countL => isL g x
  | .get => false
  | .get2 => false
  | .items => false
  | .update => false
  | _ => isS x
def bmD (g : G) : Bm → D → List D → R D
  | .append, .ref i, [x] => (match g[i]? with
    | some (.lst l) => if decide (l.length < LIM) then .ok .non (g.set i (.lst (l ++ [x]))) else .stk
    | _ => .stk)
  | .pop, .ref i, [] => (match g[i]? with
    | some (.lst l) => (match l[l.length - 1]? with
      | some y => .ok y (g.set i (.lst l.dropLast))
      | none => .stk)
    | _ => .stk)
  | .popi, .ref i, [.int k] => (match g[i]? with
    | some (.lst l) => (match L2.ixN l.length k with
      | some j => (match l[j]? with
        | some y => .ok y (g.set i (.lst (l.eraseIdx j)))
        | none => .stk)
      | none => .stk)
    | _ => .stk)
  | .join, .str a, [x] => (match seqD g x with
    | some l => (match txts l with
      | some ts => if decide (total a.length ts ≤ LIM) then .ok (.str (joinL a ts)) g else .stk
      | none => .stk)
    | none => .stk)
  | .startswith, .str a, [.str b] => .ok (.bl (Txt.startswith (st a) (st b))) g
  | .endswith, .str a, [.str b] => .ok (.bl (Txt.endswith (st a) (st b))) g
  | .strip, .str a, [] => if decide (a.length ≤ LIM) then .ok (.str (Txt.strip (st a)).cps.toList) g else .stk
  | .strip, .str a, [.str b] => if decide (a.length ≤ LIM) then .ok (.str (Txt.stripChars (st a) (st b)).cps.toList) g else .stk
  | .split, .str a, [.str b] => if decide (b ≠ [] ∧ a.length + 2 ≤ LIM ∧ (Txt.split (st a) (st b)).length ≤ LIM) then .ok (strL (Txt.split (st a) (st b))) g else .stk
  | .lstrip, .str a, [] => if decide (a.length ≤ LIM) then .ok (.str (Txt.lstrip (st a)).cps.toList) g else .stk
  | .countL, x, [.bl b] => (match top g x with
    | .lst l => opt ((bools l).map fun bs => .int ((bs.countP fun y => y == b : Nat) : Int)) g
    | _ => .stk)
  | .count, .str a, [.str b] => .ok (.int (Txt.count (st a) (st b))) g
  | .find2, .str a, [.str b] => .ok (.int (Txt.find (st a) (st b))) g
  | .rfind, .str a, [.str b] => .ok (.int (Txt.rfind (st a) (st b))) g
  | .upper, .str a, [] => if decide (a.length ≤ LIM) then .ok (.str (Txt.upper (st a)).cps.toList) g else .stk
  | _, _, _ => .stk

/-- s.replace(y, z) of written texts -/
def replD (y z : List Nat) (x : D) (g : G) : R D := match x with
  | .str a => if decide (a.length ≤ LIM ∧ z.length ≤ 14) then .ok (.str (Txt.replace (st a) (st y) (st z)).cps.toList) g else .stk
  | _ => .stk
/-! ### the evaluator -/
/-- the items that a loop walks, and the cell that is locked meanwhile -/
def itemsD (g : G) (d : D) : Option (List D × Option Nat) := match d with
  | .tup l => some (l, none)
  | .lst l => some (l, none)
  | .str s => some (s.map fun c => .str [c], none)
  | .ref i => match g[i]? with
    | some (.lst l) => some (l, some i)
    | _ => none
  | _ => none
def lockG (g : G) : Option Nat → G
  | none => g
  | some i => match g[i]? with
    | some (.lst l) => g.set i (.lck l)
    | _ => g
def freeG (g : G) : Option Nat → Option G
  | none => some g
  | some i => match g[i]? with
    | some (.lck l) => some (g.set i (.lst l))
    | _ => none
def tupD (_ : D) : Bool := false
/-- pairs (k, x) from k on -/
def enumL (k : Nat) : List D → List D
  | [] => []
  | x :: r => .tup [.int k, x] :: enumL (k + 1) r
def zipL : List D → List D → List D
  | a :: as, b :: bs => .tup [a, b] :: zipL as bs
  | _, _ => []
def rangeL (lo : Int) : Nat → List D
  | 0 => []
  | n + 1 => .int lo :: rangeL (lo + 1) n
/-- a value stored to names -/
def asgD (g : G) (one : Bool) (tg : List Nat) (d : D) (env : Env) : Option Env := match one, tg with
  | true, [i] => some (env.set i (some d))
  | false, is => match d with
    | .tup ds => if ds.length = is.length then some ((is.zip ds).foldl (fun e p => e.set p.1 (some p.2)) env) else none
    | _ => none
  | _, _ => none
def wipeD (env : Env) : List Nat → Env
  | [] => env
  | i :: is => (wipeD env is).set i none
/-- a comprehension's turns -/
def compL (f : D → G → R (Option D)) : List D → G → R (List D)
  | [], g => .ok [] g
  | x :: r, g => match f x g with
    | .ok (some y) g1 => (match compL f r g1 with
      | .ok ys g2 => .ok (y :: ys) g2
      | _ => .stk)
    | .ok none g1 => compL f r g1
    | _ => .stk
/-- a made list: a cell, or a value -/
def mkL (h : Bool) (l : List D) (g : G) : R D :=
  if decide (l.length ≤ LIM) then (if h then .ok (.ref g.length) (g ++ [.lst l]) else .ok (.lst l) g) else .stk
def frzD (d : D) (g : G) : R D := match d with
  | .ref i => match g[i]? with
    | some (.lst l) => .ok (.lst l) (g.set i .dead)
    | some (.dct ks vs) => .ok (.dct ks vs) (g.set i .dead)
    | _ => .stk
  | _ => .stk
/-- the ways in which code is run: as a value (st: to be spliced; nl: nothing), as a test, as what a loop walks -/
structure Md where
  st : Bool
  nl : Bool
  v : Env → G → R D
  t : Env → G → R Bool
  i : Env → G → R (List D × Option Nat)
def Md.of (v : Env → G → R D) : Md :=
  ⟨false, false, v, fun env g => (v env g).bind fun x g1 => opt (tru g1 x) g1, fun env g => (v env g).bind fun x g1 => opt (itemsD g1 x) g1⟩
def Md.it (i : Env → G → R (List D × Option Nat)) : Md := ⟨false, false, fun _ _ => .stk, fun _ _ => .stk, i⟩
/-- a bound that may lack -/
def Md.o (m : Md) (env : Env) (g : G) : R D := match m.nl with
  | true => .ok .non g
  | false => (m.v env g).bind fun x g1 => match x with
    | .int i => .ok (.int i) g1
    | _ => .stk
/-- a comprehension's test -/
def Md.c (m : Md) (env : Env) (g : G) : R Bool := match m.nl with
  | true => .ok true g
  | false => m.t env g
/-- the method m of x -/
def metF (T : Tab) (g : G) (m : Nat) (x : D) : Option Nat := (metD g m x).bind fun c => T.mt c m
/-- d.get(k, y) -/
def dgetD (g : G) (x u z : D) : Option D := match dctD g x, keyD u with
  | some (ks, vs), some k => if kOk k ks then (if decide (k ∈ ks) then lookD ks vs k else some z) else none
  | _, _ => none
/-- a field is read -/
def flR (T : Tab) (f : Nat) (x : D) (g : G) : R D := match clsD g x with
  | some c => if T.fl c f then opt (fldD g f x) g else .stk
  | none => .stk
/-- a property is read -/
def prR (T : Tab) (cf : CF) (m : Nat) (x : D) (g : G) : R D := match clsD g x with
  | some c => (match T.pr c m with
    | some f => (match cf f [x] g with
      | .ok d g1 => .ok d g1
      | _ => .stk)
    | none => .stk)
  | none => .stk
/-- a dict's entries, then more -/
def putAk : List DK → List DK → List DK
  | ks, [] => ks
  | ks, x :: r => putAk (putDk ks x) r
def putAv : List DK → List D → List DK → List D → List D
  | ks, vs, x :: r, y :: s => putAv (putDk ks x) (putDv ks vs x y) r s
  | _, vs, _, _ => vs
/-- a dict's entries as pairs; pairs as entries -/
def dkD : DK → D
  | .i k => .int k
  | .s x => .str x
def itemsP : List DK → List D → List D
  | k :: ks, v :: vs => .tup [dkD k, v] :: itemsP ks vs
  | _, _ => []
def pairsD : List D → Option (List DK × List D)
  | [] => some ([], [])
  | .tup [.str k, v] :: r => (pairsD r).map fun p => (.s k :: p.1, v :: p.2)
  | _ => none
/-- two lists put together, in a cell of its own -/
def addR (x y : D) (g : G) : R D := match top g x, top g y with
  | .lst a, .lst b => mkL true (a ++ b) g
  | _, _ => .stk
def itemsR (x : D) (g : G) : R D := match x with
  | .dct ks vs => if ks.length = vs.length then .ok (.lst (itemsP ks vs)) g else .stk
  | _ => .stk
def dictR (x : D) (g : G) : R D := match top g x with
  | .lst l => (match pairsD l with
    | some p => .ok (.dct (putAk [] p.1) (putAv [] [] p.1 p.2)) g
    | none => .stk)
  | _ => .stk
def rangeR (vs : List D) (g1 : G) : R (List D × Option Nat) := match vs with
  | [.int n] => if decide (-4611686018427387904 ≤ n ∧ n < 4611686018427387904) then .ok (rangeL 0 n.toNat, none) g1 else .stk
  | [.int a, .int b] => if decide (-4611686018427387904 ≤ a ∧ a < 4611686018427387904 ∧ -4611686018427387904 ≤ b ∧ b < 4611686018427387904) then .ok (rangeL a (b - a).toNat, none) g1 else .stk
  | _ => .stk
/-- a turn of a comprehension -/
def compF (own tg : List Nat) (one : Bool) (cond : Env → G → R Bool) (elt : Env → G → R D) (env : Env) (x : D) (g2 : G) : R (Option D) := match asgD g2 one tg x (wipeD env own) with
  | none => .stk
  | some env2 => (cond env2 g2).bind fun b g3 => match b with
    | true => (elt env2 g3).bind fun y g4 => .ok (some y) g4
    | false => .ok none g3
def compR (h : Bool) (own tg : List Nat) (one : Bool) (cond : Env → G → R Bool) (elt : Env → G → R D) (env : Env) (xs : List D × Option Nat) (g1 : G) : R D :=
  match compL (compF own tg one cond elt env) xs.1 (lockG g1 xs.2) with
  | .ok ys g2 => (match freeG g2 xs.2 with
    | some g3 => mkL h ys g3
    | none => .stk)
  | _ => .stk
/-- x is the class that f makes -/
def kcD (T : Tab) (f : Nat) : D → Bool
  | .cls c => decide (T.kc f = some c)
  | _ => false
/-- the def of an own way of x's class -/
def ownF (T : Tab) (g : G) (m : Nat) (x : D) : Option Nat := match metD g m x with
  | some c => if T.ow c = true then T.mt c m else none
  | none => none
/-- what may stand beside an instance in == -/
def okR (g : G) (x y : D) : Bool := match clsD g y with
  | some c => decide (clsD g x = some c)
  | none => (match top g y with
    | .non => true
    | .bl _ => true
    | .int _ => true
    | .str _ => true
    | .tup _ => true
    | .lst _ => true
    | .dct _ _ => true
    | _ => false)
def blR (f : Bool → Bool) (r : R D) : R D := r.bind fun d g => match d with
  | .bl b => .ok (.bl (f b)) g
  | _ => .stk
def ownR1 (T : Tab) (cf : CF) (k : Ow) (m : Nat) (x : D) (g : G) : R D := match ownF T g m x with
  | some f => (match k with
    | .len => (cf f [x] g).bind fun d g1 => (match d with
      | .int i => if decide (0 ≤ i ∧ i < 4611686018427387904) then .ok (.int i) g1 else .stk
      | _ => .stk)
    | .bool => blR id (cf f [x] g)
    | _ => .stk)
  | none => .stk
def ownR2 (T : Tab) (cf : CF) (k : Ow) (m : Nat) (x y : D) (g : G) : R D := match ownF T g m x with
  | some f => (match k with
    | .item => cf f [x, y] g
    | .add => (match top g y with
      | .str _ => cf f [x, y] g
      | _ => if decide (clsD g y = clsD g x) then cf f [x, y] g else .stk)
    | _ => .stk)
  | none => .stk
def ownRC (T : Tab) (cf : CF) (k : Ow) (m : Nat) (x y : D) (g : G) : R D := match k with
  | .eq => (match ownF T g m x with
    | some f => if okR g x y = true then blR id (cf f [x, y] g) else .stk
    | none => .stk)
  | .ne => (match ownF T g m x with
    | some f => if okR g x y = true then blR not (cf f [x, y] g) else .stk
    | none => .stk)
  | .in_ => (match ownF T g m y with
    | some f => blR id (cf f [y, x] g)
    | none => .stk)
  | .notin => (match ownF T g m y with
    | some f => blR not (cf f [y, x] g)
    | none => .stk)
  | _ => .stk
/-- a field of an error -/
def fldXR (T : Tab) (f : Nat) (x : D) (g : G) : R D := match x with
  | .xob c [f'] [d] => if decide (T.exf c = some f ∧ f' = f) then .ok d g else .stk
  | _ => .stk
/-- whether an error is one of a class -/
def isXR (T : Tab) (t : XT) (x : D) (g : G) : R D := match x with
  | .xob c _ _ => if (T.exf c).isSome then .ok (.bl (T.xi c t)) g else .stk
  | _ => .stk
def isXsR (T : Tab) (ts : List XT) (x : D) (g : G) : R D := match x with
  | .xob c _ _ => if (T.exf c).isSome then .ok (.bl (ts.any fun t => T.xi c t)) g else .stk
  | _ => .stk
/-- an error is made -/
def mkXR (T : Tab) (c : Nat) (x : D) (g : G) : R D := match T.exf c with
  | some f => .ok (.xob c [f] [x]) g
  | none => .stk
/-- list(range(n)), a cell -/
def listRD (x : D) (g : G) : R D := match x with
  | .int n => if decide (0 ≤ n ∧ n ≤ 1000000) then mkL true (rangeL 0 n.toNat) g else .stk
  | _ => .stk
mutual
def evM (T : Tab) (cf : CF) : E → Md
  | .nil => ⟨false, true, fun _ _ => .stk, fun _ _ => .stk, fun _ _ => .stk⟩
  | .loc i => .of fun env g => match env[i]? with
    | some (some d) => .ok d g
    | _ => .stk
  | .con d => .of fun _ g => .ok d g
  | .glo n => .of fun _ g => opt (T.glo n) g
  | .bin o a b => .of fun env g => ((evM T cf a).v env g).bind fun x g1 => ((evM T cf b).v env g1).bind fun y g2 => opt (binD g2 o x y) g2
  | .neg a => .of fun env g => ((evM T cf a).v env g).bind fun x g1 => match x with
    | .int i => .ok (.int (-i)) g1
    | _ => .stk
  | .not_ a => { Md.of fun env g => ((evM T cf a).v env g).bind fun x g1 => opt ((tru g1 x).map fun b => .bl (!b)) g1 with
      t := fun env g => ((evM T cf a).t env g).bind fun t g1 => .ok (!t) g1 }
  | .and_ a b => { Md.of fun env g => ((evM T cf a).v env g).bind fun x g1 => match tru g1 x with
      | some true => (evM T cf b).v env g1
      | some false => .ok x g1
      | none => .stk with
      t := fun env g => ((evM T cf a).t env g).bind fun t g1 => match t with
        | true => (evM T cf b).t env g1
        | false => .ok false g1 }
  | .or_ a b => { Md.of fun env g => ((evM T cf a).v env g).bind fun x g1 => match tru g1 x with
      | some true => .ok x g1
      | some false => (evM T cf b).v env g1
      | none => .stk with
      t := fun env g => ((evM T cf a).t env g).bind fun t g1 => match t with
        | true => .ok true g1
        | false => (evM T cf b).t env g1 }
  | .cmp o a b => .of fun env g => ((evM T cf a).v env g).bind fun x g1 => ((evM T cf b).v env g1).bind fun y g2 => opt ((cmpD g2 o x y).map .bl) g2
  | .chain o p a b c => .of fun env g => ((evM T cf a).v env g).bind fun x g1 => ((evM T cf b).v env g1).bind fun y g2 => match cmpD g2 o x y with
    | some true => ((evM T cf c).v env g2).bind fun z g3 => opt ((cmpD g3 p y z).map .bl) g3
    | some false => .ok (.bl false) g2
    | none => .stk
  | .ite c a b => .of fun env g => ((evM T cf c).t env g).bind fun t g1 => match t with
    | true => (evM T cf a).v env g1
    | false => (evM T cf b).v env g1
  | .call f as => .of fun env g => (evs T cf as env g).bind fun vs g1 => cf f vs g1
  | .callK f as es => .of fun env g => (evs T cf as env g).bind fun vs g1 => (evs T cf es env g1).bind fun ws g2 => cf f (vs ++ ws) g2
  | .meth m o as => .of fun env g => ((evM T cf o).v env g).bind fun x g1 => match metF T g1 m x with
    | some f => (evs T cf as env g1).bind fun vs g2 => cf f (x :: vs) g2
    | none => .stk
  | .fld f o => .of fun env g => ((evM T cf o).v env g).bind fun x g1 => flR T f x g1
  | .prop m o => .of fun env g => ((evM T cf o).v env g).bind fun x g1 => prR T cf m x g1
  | .bi b as => .of fun env g => (evs T cf as env g).bind fun vs g1 => biD g1 b vs
  | .isi t a => .of fun env g => ((evM T cf a).v env g).bind fun x g1 => opt ((anyTy T g1 x t).map .bl) g1
  | .bm m o as => .of fun env g => ((evM T cf o).v env g).bind fun x g1 => match bmT g1 m x with
    | true => (evs T cf as env g1).bind fun vs g2 => bmD g2 m x vs
    | false => .stk
  | .sub o i => .of fun env g => ((evM T cf o).v env g).bind fun x g1 => ((evM T cf i).v env g1).bind fun y g2 => opt (subD g2 x y) g2
  | .slc o lo hi => .of fun env g => ((evM T cf o).v env g).bind fun x g1 => ((evM T cf lo).o env g1).bind fun y g2 => ((evM T cf hi).o env g2).bind fun z g3 => opt (slcD g3 x y z) g3
  | .rev o => .of fun env g => ((evM T cf o).v env g).bind fun x g1 => match top g1 x with
    | .lst l => .ok (.lst l.reverse) g1
    | _ => .stk
  | .own1 k m a => .of fun env g => ((evM T cf a).v env g).bind fun x g1 => ownR1 T cf k m x g1
  | .own2 k m a b => .of fun env g => ((evM T cf a).v env g).bind fun x g1 => ((evM T cf b).v env g1).bind fun y g2 => ownR2 T cf k m x y g2
  | .ownC k m a b => .of fun env g => ((evM T cf a).v env g).bind fun x g1 => ((evM T cf b).v env g1).bind fun y g2 => ownRC T cf k m x y g2
  | .methK m f o es => .of fun env g => ((evM T cf o).v env g).bind fun x g1 => if decide (metF T g1 m x = some f) then (evs T cf es env g1).bind fun ws g2 => if decide (ws.length = es.length) then cf f (x :: ws) g2 else .stk else .stk
  | .methW m f o es => .of fun env g => ((evM T cf o).v env g).bind fun x g1 => if decide (metF T g1 m x = some f) then (evs T cf es env g1).bind fun ws g2 => match ws with
    | [y, z] => cf f [x, z, y] g2
    | _ => .stk else .stk
  | .callW f es => .of fun env g => (evs T cf es env g).bind fun ws g1 => match ws with
    | [y, z] => cf f [z, y] g1
    | _ => .stk
  | .cmeth m f c as => .of fun env g => if decide (T.cm c m = some f) then (evs T cf as env g).bind fun vs g1 => cf f (.cls c :: vs) g1 else .stk
  | .cmethK m f c es => .of fun env g => if decide (T.cm c m = some f) then (evs T cf es env g).bind fun ws g1 => if decide (ws.length = es.length) then cf f (.cls c :: ws) g1 else .stk else .stk
  | .callS f o a => .of fun env g => ((evM T cf o).v env g).bind fun x g1 => if kcD T f x = true then ((evM T cf a).v env g1).bind fun y g2 => match seqD g2 y with
    | some ys => cf f ys g2
    | none => .stk else .stk
  | .listR a => .of fun env g => ((evM T cf a).v env g).bind fun x g1 => listRD x g1
  | .fldX f o => .of fun env g => ((evM T cf o).v env g).bind fun x g1 => fldXR T f x g1
  | .isX t a => .of fun env g => ((evM T cf a).v env g).bind fun x g1 => isXR T t x g1
  | .isXs ts a => .of fun env g => ((evM T cf a).v env g).bind fun x g1 => isXsR T ts x g1
  | .mkX c a => .of fun env g => match T.exf c with
    | some _ => ((evM T cf a).v env g).bind fun x g1 => mkXR T c x g1
    | none => .stk
  | .mkXK c as => .of fun env g => match T.exf c with
    | some _ => (evs T cf as env g).bind fun vs g1 => (match vs with
      | [x] => mkXR T c x g1
      | _ => .stk)
    | none => .stk
  | .repl o y z => .of fun env g => ((evM T cf o).v env g).bind fun x g1 => replD y z x g1
  | .tup as => .of fun env g => (evs T cf as env g).bind fun vs g1 => if decide (vs.length ≤ LIM) then .ok (.tup vs) g1 else .stk
  | .lst h as => .of fun env g => (evs T cf as env g).bind fun vs g1 => mkL h vs g1
  | .dct h ks es => .of fun env g => (evs T cf es env g).bind fun vs g1 =>
    if decide (vs.length = ks.length ∧ ks.Nodup ∧ ks.length ≤ 15) then (if h then .ok (.ref g1.length) (g1 ++ [.dct ks vs]) else .ok (.dct ks vs) g1) else .stk
  | .dctS a ks es => .of fun env g => ((evM T cf a).v env g).bind fun x g1 => match x with
    | .dct kz vz => if decide (kz.length ≤ 15 ∧ vz.length = kz.length ∧ ks.Nodup ∧ ks.length ≤ 15) then (evs T cf es env g1).bind fun vs g2 => if decide (vs.length = ks.length) then .ok (.dct (putAk kz ks) (putAv kz vz ks vs)) g2 else .stk else .stk
    | _ => .stk
  | .dget o i y => .of fun env g => ((evM T cf o).v env g).bind fun x g1 => match (dctD g1 x).isSome with
    | true => ((evM T cf i).v env g1).bind fun u g2 => ((evM T cf y).v env g2).bind fun z g3 => opt (dgetD g3 x u z) g3
    | false => .stk
  | .dget1 o i => .of fun env g => ((evM T cf o).v env g).bind fun x g1 => match (dctD g1 x).isSome with
    | true => ((evM T cf i).v env g1).bind fun u g2 => opt (dgetD g2 x u .non) g2
    | false => .stk
  | .addL a b => .of fun env g => ((evM T cf a).v env g).bind fun x g1 => ((evM T cf b).v env g1).bind fun y g2 => addR x y g2
  | .itemsL o => .of fun env g => ((evM T cf o).v env g).bind fun x g1 => itemsR x g1
  | .dictP a => .of fun env g => ((evM T cf a).v env g).bind fun x g1 => dictR x g1
  | .star a => { evM T cf a with st := true, nl := false }
  | .frz a => .of fun env g => ((evM T cf a).v env g).bind fun x g1 => frzD x g1
  | .comp h own tg one it cond elt => .of fun env g => ((evM T cf it).i env g).bind fun xs g1 => compR h own tg one (evM T cf cond).c (evM T cf elt).v env xs g1
  | .range as => .it fun env g => (evs T cf as env g).bind fun vs g1 => rangeR vs g1
  | .enum a => .it fun env g => ((evM T cf a).v env g).bind fun x g1 => opt ((if tupD x then none else itemsD g1 x).map fun p => (enumL 0 p.1, p.2)) g1
  | .zip a b => .it fun env g => ((evM T cf a).v env g).bind fun x g1 => ((evM T cf b).v env g1).bind fun y g2 => match itemsD g2 x, itemsD g2 y with
    | some (xs, none), some (ys, none) => .ok (zipL xs ys, none) g2
    | _, _ => .stk
def evs (T : Tab) (cf : CF) : List E → Env → G → R (List D)
  | [], _, g => .ok [] g
  | a :: r, env, g => ((evM T cf a).v env g).bind fun x g1 => match (evM T cf a).st with
    | true => (match seqD g1 x with
      | some xs => (evs T cf r env g1).bind fun ys g2 => .ok (xs ++ ys) g2
      | none => .stk)
    | false => (evs T cf r env g1).bind fun ys g2 => .ok (x :: ys) g2
end
abbrev ev (T : Tab) (cf : CF) (c : E) : Env → G → R D := (evM T cf c).v
abbrev evT (T : Tab) (cf : CF) (c : E) : Env → G → R Bool := (evM T cf c).t
abbrev evI (T : Tab) (cf : CF) (c : E) : Env → G → R (List D × Option Nat) := (evM T cf c).i

/-! ### statements -/
/-- how a statement ends -/
inductive Fl where
  | nx (env : Env)
  | rt (d : D)
  | bk (env : Env)
  | ct (env : Env)
/-- a loop over items -/
def forL (f : D → Env → G → R Fl) : List D → Env → G → R Fl
  | [], env, g => .ok (.nx env) g
  | x :: r, env, g => (f x env g).bind fun fl g1 => match fl with
    | .nx env1 => forL f r env1 g1
    | .ct env1 => forL f r env1 g1
    | .bk env1 => .ok (.nx env1) g1
    | .rt d => .ok (.rt d) g1
/-- a loop by a test, so many turns at most -/
def whL (c : Env → G → R Bool) (f : Env → G → R Fl) : Nat → Env → G → R Fl
  | 0, _, _ => .stk
  | n + 1, env, g => (c env g).bind fun t g1 => match t with
    | false => .ok (.nx env) g1
    | true => (f env g1).bind fun fl g2 => match fl with
      | .nx env1 => whL c f n env1 g2
      | .ct env1 => whL c f n env1 g2
      | .bk env1 => .ok (.nx env1) g2
      | .rt d => .ok (.rt d) g2
/-- behind a loop the walked cell is free again -/
def freeR (r : R Fl) (k : Option Nat) : R Fl := match r with
  | .ok fl g => (match freeG g k with
    | some g' => .ok fl g'
    | none => .stk)
  | .exc x g => (match freeG g k with
    | some g' => .exc x g'
    | none => .stk)
  | .stk => .stk
def augD (g : G) (o : Bop) (x y : D) : Option D := match o, x, y with
  | .add, .int a, .int b => some (.int (a + b))
  | .sub, .int a, .int b => some (.int (a - b))
  | _, _, _ => none
def setFD (T : Tab) (g : G) (f : Nat) (o y : D) : Option G := match o with
  | .ref i => match g[i]? with
    | some (.ins c ns vs) => if T.fl c f && decide (ns.length < 900) then some (g.set i (.ins c (putFn ns f) (putFv ns vs f y))) else none
    | _ => none
  | _ => none
def setAD (T : Tab) : G → D → List Nat → List D → Option G
  | g, _, [], _ => some g
  | g, o, f :: fs, y :: ys => (setFD T g f o y).bind fun g1 => setAD T g1 o fs ys
  | _, _, _, _ => none
def fldT (T : Tab) (g : G) (f : Nat) (x : D) : Option D := match clsD g x with
  | some c => if T.fl c f then fldD g f x else none
  | none => none
def setID (g : G) (o i y : D) : Option G := match o with
  | .ref k => match g[k]? with
    | some (.dct ks vs) => (match keyD i with
      | some x => if decide (ks.length < LIM) then some (g.set k (.dct (putDk ks x) (putDv ks vs x y))) else none
      | none => none)
    | some (.lst l) => (match i with
      | .int j => (match L2.ixN l.length j with
        | some n => some (g.set k (.lst (l.set n y)))
        | none => none)
      | _ => none)
    | _ => none
  | _ => none
/-- behind a with block, which no exception leaves -/
def noxR {α β : Type} (r : R α) (k : α → G → R β) : R β := match r with
  | .ok a g => k a g
  | _ => .stk
/-- the clauses of a try -/
def hdR (T : Tab) : List (List Nat × XHd) → Ex → Env → G → R Fl
  | [], x, _, g => .exc x g
  | (cs, a) :: r, x, env, g => if cs.any (fun c => T.xi x.c (.own c)) = true then (match a with
      | .keep i j => .ok (.nx (((env.set i (some (.xob x.c x.ns x.vs))).set j (some (.xob x.c x.ns x.vs))).set i none)) g
      | .con d => .ok (.rt d) g
      | .pass => .ok (.nx env) g) else hdR T r x env g
/-- a call within a try -/
def tryR (T : Tab) (r : XTr) (hs : List (List Nat × XHd)) (env : Env) : R D → R Fl
  | .ok d g => (match r with
    | .drop => .ok (.nx env) g
    | .set i => .ok (.nx (env.set i (some d))) g
    | .ret => .ok (.rt d) g)
  | .exc x g => if (T.exf x.c).isSome then hdR T hs x env g else .stk
  | .stk => .stk
/-- __exit__ -/
def outR (cf : CF) (f : Nat) (x : D) (fl : Fl) (g : G) : R Fl := (cf f [x, .non, .non, .non] g).bind fun _ g1 => .ok fl g1
/-- the turns of a while at most -/
def TURNS : Nat := 1000000
mutual
def exec (T : Tab) (cf : CF) : S → Env → G → R Fl
  | .pass, env, g => .ok (.nx env) g
  | .brk, env, g => .ok (.bk env) g
  | .cont, env, g => .ok (.ct env) g
  | .ex e, env, g => (ev T cf e env g).bind fun _ g1 => .ok (.nx env) g1
  | .ret e, env, g => (ev T cf e env g).bind fun d g1 => .ok (.rt d) g1
  | .retN, _, g => .ok (.rt .non) g
  | .set i e, env, g => (ev T cf e env g).bind fun d g1 => .ok (.nx (env.set i (some d))) g1
  | .unp is e, env, g => (ev T cf e env g).bind fun d g1 => match asgD g1 false is d env with
    | some env1 => .ok (.nx env1) g1
    | none => .stk
  | .unpL is e, env, g => (ev T cf e env g).bind fun d g1 => match top g1 d with
    | .lst ds => (match asgD g1 false is (.tup ds) env with
      | some env1 => .ok (.nx env1) g1
      | none => .stk)
    | _ => .stk
  | .par is es, env, g => (evs T cf es env g).bind fun ds g1 => if decide (ds.length = is.length) then .ok (.nx ((is.zip ds).foldl (fun e p => e.set p.1 (some p.2)) env)) g1 else .stk
  | .setF f o e, env, g => (ev T cf e env g).bind fun y g1 => (ev T cf o env g1).bind fun x g2 => match setFD T g2 f x y with
    | some g3 => .ok (.nx env) g3
    | none => .stk
  | .setI o i e, env, g => (ev T cf e env g).bind fun y g1 => (ev T cf o env g1).bind fun x g2 => (ev T cf i env g2).bind fun z g3 => match setID g3 x z y with
    | some g4 => .ok (.nx env) g4
    | none => .stk
  | .aug i o e, env, g => match env[i]? with
    | some (some x) => (ev T cf e env g).bind fun y g1 => match augD g1 o x y with
      | some z => .ok (.nx (env.set i (some z))) g1
      | none => .stk
    | _ => .stk
  | .augF f o p e, env, g => (ev T cf o env g).bind fun x g1 => match fldT T g1 f x with
    | some y => (ev T cf e env g1).bind fun z g2 => if decide (clsD g2 x = clsD g1 x) then (match augD g2 p y z with
      | some u => (match setFD T g2 f x u with
        | some g3 => .ok (.nx env) g3
        | none => .stk)
      | none => .stk) else .stk
    | none => .stk
  | .ite c a b, env, g => (evT T cf c env g).bind fun t g1 => match t with
    | true => execs T cf a env g1
    | false => execs T cf b env g1
  | .while_ c b, env, g => whL (fun env g => evT T cf c env g) (fun env g => execs T cf b env g) TURNS env g
  | .for_ one tg it b, env, g => (evI T cf it env g).bind fun xs g1 =>
    freeR (forL (fun x env g => match asgD g one tg x env with
      | some env1 => execs T cf b env1 g
      | none => .stk) xs.1 env (lockG g1 xs.2)) xs.2
  | .unpA i fs e, env, g => (ev T cf e env g).bind fun d g1 => match env[i]?, d with
    | some (some x), .tup ds => if decide (ds.length = fs.length) then (match setAD T g1 x fs ds with
      | some g2 => .ok (.nx env) g2
      | none => .stk) else .stk
    | _, _ => .stk
  | .nev, _, _ => .stk
  | .mtch e ks bs, env, g => (ev T cf e env g).bind fun x g1 => match x with
    | .str s => execM T cf bs (ks.findIdx fun k => k.contains s) env g1
    | _ => .stk
  | .with_ i e en ex b, env, g => (ev T cf e env g).bind fun x g1 => match metF T g1 en x, metF T g1 ex x with
    | some f, some f2 => (cf f [x] g1).bind fun v g2 => noxR (execs T cf b (env.set i (some v)) g2) (outR cf f2 x)
    | _, _ => .stk
  | .raise c as, env, g => match T.exf c with
    | some f => (evs T cf as env g).bind fun vs g1 => match vs with
      | [d] => .exc ⟨c, [f], [d]⟩ g1
      | _ => .stk
    | none => .stk
  | .try_ r cl as hs, env, g => match cl, as with
    | .fn f, as => noxR (evs T cf as env g) fun vs g1 => tryR T r hs env (cf f vs g1)
    | .me m, o :: as => noxR (ev T cf o env g) fun x g1 => match metF T g1 m x with
      | some f => noxR (evs T cf as env g1) fun vs g2 => tryR T r hs env (cf f (x :: vs) g2)
      | none => .stk
    | .me _, [] => .stk
/-- the branch of a match (the last one: of no pattern) -/
def execM (T : Tab) (cf : CF) : List (List S) → Nat → Env → G → R Fl
  | b :: _, 0, env, g => execs T cf b env g
  | _ :: bs, n + 1, env, g => execM T cf bs n env g
  | [], _, _, _ => .stk
def execs (T : Tab) (cf : CF) : List S → Env → G → R Fl
  | [], env, g => .ok (.nx env) g
  | s :: r, env, g => (exec T cf s env g).bind fun fl g1 => match fl with
    | .nx env1 => execs T cf r env1 g1
    | fl => .ok fl g1
end
/-! ### calls -/
/-- no cell within, to a depth -/
def cloN : Nat → D → Bool
  | 0, _ => false
  | n + 1, d => match d with
    | .tup l => l.all (cloN n)
    | .lst l => l.all (cloN n)
    | .dct _ vs => vs.all (cloN n)
    | .mdc _ vs => vs.all (cloN n)
    | .obj _ _ vs => vs.all (cloN n)
    | .xob _ _ vs => vs.all (cloN n)
    | .ref _ => false
    | _ => true
def clo (d : D) : Bool := cloN 50 d
def endR (r : R Fl) : R D := match r with
  | .ok (.rt d) g => .ok d g
  | .ok (.nx _) g => .ok .non g
  | .ok _ _ => .stk
  | .exc x g => .exc x g
  | .stk => .stk
/-- an instance made on a heap of its own -/
def newR (r : R D) (g : G) : R D := match r with
  | .ok .non [.ins c ns vs] => if vs.all clo then .ok (.obj c ns vs) g else .stk
  | .exc x _ => if x.vs.all clo then .exc x g else .stk
  | _ => .stk
/-- an instance made as a new cell -/
def celR (r : R D) (n : Nat) : R D := match r with
  | .ok .non g => .ok (.ref n) g
  | .ok _ _ => .stk
  | .exc x g => .exc x g
  | .stk => .stk
/-- a def called, n more calls deep at most -/
def callK (T : Tab) (n : Nat) (cf : CF) (F : Fn) (vs : List D) (g : G) : R D := match F.kd with
  | .fn => (match bindA F vs with
    | some as => endR (execs T cf F.body (as.map some ++ List.replicate (F.nn - as.length) none) g)
    | none => .stk)
  | .rcd c fs i => (match n with
    | 0 => .stk
    | _ + 1 => (match bindA F vs with
      | some as => .ok (.obj c fs as) g
      | none => .stk))
  | .new c i => if vs.all clo then newR (cf i (.ref 0 :: vs) [.ins c [] []]) g else .stk
  | .cel c i => celR (cf i (.ref g.length :: vs) (g ++ [.ins c [] []])) g.length
/-- the def f called, so many calls deep at most -/
def call (T : Tab) : Nat → CF
  | 0 => fun _ _ _ => .stk
  | n + 1 => fun f vs g => match T.fn f with
    | some F => callK T n (call T n) F vs g
    | none => .stk
end PC
end
section
set_option maxHeartbeats 4000000
/-! EX1: an own error class, one field: made. -/
namespace EX
open PySem PySem.W PySem.Calls PyProof.Rows
open Builtin Builtin.ObjectAttr
section
variable {prog : Program} {w : World} {A : Around} {E : Value → Shared → Prop} {R : Result → Shared → Prop} {hp : Heap} {g : Array GenState} {d : Drawn} {t : Nat} {os : OsState} {B newId initId : String} {bmB : List Value} {K : Frag}
/-- self.name = v, the first one -/
theorem osa_first {name : Str} {tk : Tok} {v : Value} {x C : Addr} {fv : Array Value} (SF : StoreFacts B bmB "object.__setattr__" "object")
    (X : K.In hp) (hx : hp.get? x = some { cls := .ref C, data := .fields fv }) (hp' : excOver K C bmB = true) (ht : takerIn K C name = some none) (hh : hasDictIn K C = true)
    (hq : ∀ h' tk' dx, (∀ b o, b ≠ x → hp.get? b = some o → h'.get? b = some o) → hp.objs.size ≤ dx → dx ≠ x → h'.get? x = some { cls := .ref C, dict := some dx, data := .fields fv } →
      h'.Ns1 dx (fun y => if y = name then some v else none) → R (.ok (.ret .none)) ⟨h', g, d, tk', os⟩) :
    codeAny (model prog w) A (.call (.builtin "object.__setattr__") ⟨[.ref x, .str name tk, v], []⟩) R ⟨hp, g, d, t, os⟩ := by
  have I : W.InstAt hp x { cls := .ref C, data := .fields fv } C none := ⟨hx, rfl, rfl, trivial⟩
  have hxs : x ≠ hp.objs.size := Nat.ne_of_lt (Heap.lt_size hx)
  refine osa_openX (s := ⟨hp, g, d, t, os⟩) (od := none) SF X I hp' ht fun b => ?_
  obtain ⟨cd, hcd, hd⟩ := any_some hh
  have hcls : W.Looks (model prog w) hp (classData C) cd := W.looks_clsIn X hcd
  obtain ⟨nm, bs, mro, ns, qn, hd', sn, sb, ab, col, del⟩ := cd
  dsimp only at hd
  subst hd
  show wpAny _ _ (storeInOwnDict (.ref x) (.ref C) (.str name tk) name v b) _ _ _
  unfold storeInOwnDict ownDictForStores
  repeat (first | with_reducible refine HandSPX.store_in_new ?_ ?_ | with_reducible refine wpAny_loadPart_at hx ?_ | with_reducible refine hcls.at ?_ | wp_step)
  · exact ⟨_, #[], _, (Heap.get?_update_ne _ _ _ _ hxs.symm).trans (Heap.get?_push_at rfl rfl), rfl, fun e he => absurd he (by simp), fun _ => rfl⟩
  · intro h' tk' hn' hs
    have hx₁ : (hp.push { cls := .type "dict", data := .dict #[] }).get? x = some { cls := .ref C, data := .fields fv } := Heap.get?_push_of_some _ hx
    refine hq h' tk' hp.objs.size (fun b o hb ho => ?_) (Nat.le_refl _) hxs.symm ?_ hn'
    · exact (hs.2 b (Nat.ne_of_lt (Heap.lt_size ho))).trans ((Heap.get?_update_ne _ _ _ _ hb).trans (Heap.get?_push_of_some _ ho))
    · exact (hs.2 x hxs).trans (Heap.get?_update_self _ hx₁ rfl)
/-- super().__init__(..) called: the bound wrapper -/
theorem call_mw {u e t0 : Addr} {rest : List Value} {C : Addr} {Q : Value → Shared → Prop} (FB : ExcBaseFacts B newId initId bmB) (q : excInitIn K C bmB newId = true) (X : K.In hp)
    (he : hp.get? e = some (excObj C t0 none .none)) (hu : hp.get? u = some (kxs_mw initId e)) (hrest : rest.length ≤ sizeLine)
    (hq : ∀ h' t1, (∀ b o, b ≠ e → hp.get? b = some o → h'.get? b = some o) → h'.get? e = some (excObj C t1 none .none) → Q .none ⟨h', g, d, t, os⟩) :
    wpAny (model prog w) A (call (.ref u) rest) Q E ⟨hp, g, d, t, os⟩ := by
  obtain ⟨nm, N', qn, bs, bm, hdct, sn, sub, ab, col, dd, k0, k1, k2, k3, k5, hC, hT⟩ := excInit_of X q
  refine wpAny_call (codeAny_of_tree ?_)
  show wpAny _ A.in1 (callAny (.ref u) ⟨rest, []⟩) _ _ _
  simp only [callAny]
  refine wpAny_bind (wpAny_load hu ?_)
  simp only [kxs_mw, show (Value.type "method-wrapper" == Value.type "method" || Value.type "method-wrapper" == Value.type "builtin_function_or_method" || Value.type "method-wrapper" == Value.type "method-wrapper") = true by decide, if_true]
  refine KFB.if_so (by decide) ?_
  refine wpAny_bind (check_bound_init FB.toExcCallFacts hC he rfl ?_)
  refine wpAny_bind (wpAny_pure (wpAny_pure ?_))
  refine ⟨plainId_quiet FB.init.plain _, codeAny_builtin FB.initEntry ?_⟩
  exact exc_init_tree (cls := .ref C) (t0 := t0) (dv := none) (c2 := .none) (c3 := .none) (b4 := .bool false) he hrest fun h' k e' _ => hq h' _ k e'
/-- the class: what the written part says of it; f: the field, p: __init__'s parameter -/
structure Own (prog : Program) (K : Frag) (B newId initId : String) (bmB : List Value) (C : Addr) (f p : Str) : Prop where
  FB : ExcBaseFacts B newId initId bmB
  SF : StoreFacts B bmB "object.__setattr__" "object"
  KF : KxsFacts B initId
  q : excInitIn K C bmB newId = true
  over : excOver K C bmB = true
  tk : takerIn K C f = some none
  hd : hasDictIn K C = true
  sa : findIn K (.ref C) "__setattr__" = some (some (.builtin "object.__setattr__"))
  sub : subIn K (.ref C) (.type B) = some true
  exC : subIn K (.ref C) (.type "BaseException") = some true
  tyC : typeIn K (.ref C) = some (.type "type")
  kC : keepIn K (.ref C) = true
  mroC : mroIn K C (.ref C) = some true
  opq : nsIn K cStatics "thirdparty.any" = some none
  sup : ks_superIn K C C "__init__" = some (some (.builtin initId))
  htop : (prog.main.scope.names.lookup ("super" : Str)).isSome = false
  ini : ∃ (fI cc cda : Addr) (name qual sf txt file : Str) (tf : Tok) (params : Arguments) (scope : Scope) (dV kV doc pm ct oc : Value) (an od : Option Addr) (osl : Array (Option Value)) (ocd : Value) (odd : Option Addr) (vs : Array Value) (osd : Array (Option Value)) (ocl : Value) (ocd2 : Option Addr) (csl : Array (Option Value)) (ar : Arg) (j : Nat) (p0 p1 p2 p3 p4 p5 p6 p7 p8 p9 : Pos),
    (p2.endLine == p4.line) = true ∧ findIn K (.ref C) "__init__" = some (some (.ref fI)) ∧ typeIn K (.ref fI) = some (.type "function") ∧
    K.lookup fI = some ⟨oc, od, .func (ksFn name qual params [.Expr (.Call (.Attribute (.Call (.Name "super" p0) [] [] p1) "__init__" p2) [.Constant (.str txt) j p3] [] p4) p5, .Assign [.Attribute (.Name sf p6) f p7] (.Name p p8) p9] scope dV kV doc pm an (.ref cda) ct cc), osl⟩ ∧
    codeIn K (.ref cda) qual = true ∧ K.lookup cda = some ⟨ocd, odd, .fields vs, osd⟩ ∧ vs[2]? = some (.str file tf) ∧ ((prog.main.file : Str) == file) = true ∧ K.lookup cc = some ⟨ocl, ocd2, .cell (some (.ref C)), csl⟩ ∧
    (params.posonlyargs ++ params.args).head? = some ar ∧ ar.arg = sf ∧ sf ≠ p ∧ (sf == ("__debug__" : Str)) = false ∧ (p == ("__debug__" : Str)) = false ∧ (sf == ("__classdict__" : Str)) = false ∧ (p == ("__classdict__" : Str)) = false ∧
    scope.names.lookup ("super" : Str) = some .globalImplicit ∧ scope.names.lookup ("__class__" : Str) = some .free ∧ scope.names.lookup sf = some .local ∧ scope.names.lookup p = some .local ∧ scope.kind = .function ∧ scope.isCoroutine = false ∧ scope.isGenerator = false ∧ (∀ x ∈ scope.names, x.2 ≠ .cell) ∧
    (∀ a b : Value, bindArgs (ksFn name qual params [.Expr (.Call (.Attribute (.Call (.Name "super" p0) [] [] p1) "__init__" p2) [.Constant (.str txt) j p3] [] p4) p5, .Assign [.Attribute (.Name sf p6) f p7] (.Name p p8) p9] scope dV kV doc pm an (.ref cda) ct cc) ⟨[a, b], []⟩ = pure [(sf, a), (p, b)]) ∧
    (∀ a b : Value, bindArgs (ksFn name qual params [.Expr (.Call (.Attribute (.Call (.Name "super" p0) [] [] p1) "__init__" p2) [.Constant (.str txt) j p3] [] p4) p5, .Assign [.Attribute (.Name sf p6) f p7] (.Name p p8) p9] scope dV kV doc pm an (.ref cda) ct cc) ⟨[a], [(p, b)]⟩ = pure [(sf, a), (p, b)])
theorem mcs_tree {o : Expr} {m : Str} {ap p p3 : Pos} {txt : Str} {j : Nat} {en : PySem.Env} (hp : (ap.endLine == p.line) = true) :
    eval (.Call (.Attribute o m ap) [.Constant (.str txt) j p3] [] p) en = (do
      let ov ← attributeBase o m en (eval o en)
      standAt ap.atName
      let (f, first) ← holding [ov] (getMethod ov m (do return (← importBound o en).getD true))
      callWith p f first (backTo p (starEach [.Constant (.str txt) j p3] en)) []) := by
  have few : methodCallForm (([.Constant (.str txt) j p3] : List Expr).length + ([] : List Keyword).length) (backTo p (starEach [.Constant (.str txt) j p3] en)) (backToKw p (keywordEach [] en)) = true := by rfl
  rw [arm_eval_Call]
  unfold methodCall
  rw [few]
  unfold calleeOf methodCallPos
  rw [hp]
  simp only [if_true, Bool.not_true, Bool.or_true, Bool.or_false, pure_bind]
  rfl
theorem evalArgs_kxs {M : Model} {f : Value} {x : Sem Value} {Q : Args → Shared → Prop} {s : Shared} (h : wpAny M A x (fun v s' => Q ⟨[v], []⟩ s') E s) : wpAny M A (evalArgs f true [(false, x)] []) Q E s :=
  evalArgs_plain (Calls.spliced_cons (wpAny_mono h (fun _ _ q => Calls.spliced_nil q) fun _ _ z => z))
theorem make {C : Addr} {f p : Str} (T : Own prog K B newId initId bmB C f p) (X : K.In hp) {mg mb : Str → Option Value} (hg : hp.Ns mainGlobals mg) (hb : hp.Ns builtinsNs mb) (nl : hp.NoLimit) (hmg : mg "super" = none) (hmb : mb "super" = some (.type "super")) {kr : Nat} (room : L2.Room (kr + 2) A)
    {u : Value} {Q : Value → Shared → Prop}
    (hq : ∀ h' tk' e dx t1, (∀ b o, hp.get? b = some o → h'.get? b = some o) → hp.objs.size ≤ e → hp.objs.size ≤ dx → dx ≠ e → h'.get? e = some { cls := .ref C, dict := some dx, data := .fields #[.ref t1, .none, .none, .none, .bool false, .none] } →
      h'.Ns1 dx (fun y => if y = f then some u else none) → Q (.ref e) ⟨h', g, d, tk', os⟩) :
    wpAny (model prog w) A (call (.ref C) [u]) Q E ⟨hp, g, d, t, os⟩ := by
  obtain ⟨FB, SF, KF, q, over, tk, hd, sa, sub, exC, tyC, kC, mroC, opq, sup, htop, fI, cc, cda, name, qual, sf, txt, file, tf, params, scope, dV, kV, doc, pm, ct, oc, an, od, osl, ocd, odd, vs, osd, ocl, ocd2, csl, ar, j, p0, p1, p2, p3, p4, p5, p6, p7, p8, p9, hline, iC, tI, lk, hcd, hcode, hvs, hfile, hcell, hpar, har, hsp, dbs, dbp, cds, cdp, lsu, lcl, lsf, lp, hk, hco, hgen, hnc, hbind, hbindK⟩ := T
  obtain ⟨nm, N', qn, bs, bm, hdct, sn, subs, ab, col, dd, k0, k1, k2, k3, k5, hC, hT⟩ := excInit_of X q
  refine wpAny_call (PySem.HandSPX.call_own FB hT hC (looks_findIn X iC) (fun self => bind_fn X self tI) (by rw [sizeLine_eq]; show (1 : Nat) ≤ _; decide) ?_)
  have kk : ∀ b o, hp.get? b = some o → ((hp.push (PySem.W.kdv_tup [u])).push (PySem.HandSPX.excO C hp.objs.size)).get? b = some o := fun b o e => Heap.get?_push_of_some _ (Heap.get?_push_of_some _ e)
  have hget : ((hp.push (PySem.W.kdv_tup [u])).push (PySem.HandSPX.excO C hp.objs.size)).get? (hp.objs.size + 1) = some (PySem.HandSPX.excO C hp.objs.size) := by heap_get
  generalize hh1 : (hp.push (PySem.W.kdv_tup [u])).push (PySem.HandSPX.excO C hp.objs.size) = h1 at kk hget ⊢
  have X1 : K.In h1 := X.keeps kk
  refine ks_codeAny_call_defAt (fd := ksFn name qual params _ scope dV kV doc pm an (.ref cda) ct cc) (binds := [(sf, .ref (hp.objs.size + 1)), (p, u)]) ?_ (X1 _ _ lk) rfl (nl.keeps kk) (codeRec_of X1 hcd) rfl (.of_eq (hbind _ _)) hnc ?_ (fun h2 hns k2 => ?_) hco hgen hk
  · exact (room.make C [u] []).depth
  · intro x hx
    rcases List.mem_cons.mp hx with e | hx
    · rw [e]; exact lsf
    · rcases List.mem_cons.mp hx with e | hx
      · rw [e]; exact lp
      · cases hx
  have X2 : K.In h2 := X1.keeps k2
  obtain ⟨cd, hcl, _⟩ := any_some hd
  have hD : ∃ oD, h2.get? C = some oD ∧ oD.data = .cls cd := by
    unfold clsIn at hcl
    split at hcl
    · rename_i c d' cd' sl ho
      cases hcl
      exact ⟨_, X2 _ _ ho, rfl⟩
    · cases hcl
  obtain ⟨oD, hD1, hD2⟩ := hD
  have he2 : h2.get? (hp.objs.size + 1) = some (excObj C hp.objs.size none .none) := k2 _ _ hget
  have I2 : InstAt h2 (hp.objs.size + 1) (excObj C hp.objs.size none .none) C none := ⟨he2, rfl, rfl, trivial⟩
  generalize hL : h1.objs.size = L at hns ⊢
  generalize he : hp.objs.size + 1 = e at *
  have hsf : [(sf, Value.ref e), (p, u)].reverse.lookup sf = some (Value.ref e) := by
    have z : (sf == p) = false := by simpa using hsp
    simp [List.lookup, z]
  have hns := hns
  have hpu : [(sf, Value.ref e), (p, u)].reverse.lookup p = some u := by
    simp [List.lookup]
  have hint : interactive (ksEnv qual scope L fI (.ref cda) cc) = false := by simp [interactive, hk]
  show _root_.PySem.wpAt _ (Around.deeper _ (ksEnv qual scope L fI (.ref cda) cc)) (.func _ (ksEnv qual scope L fI (.ref cda) cc)) (execs _ (ksEnv qual scope L fI (.ref cda) cc)) _ _ _
  refine ks_wpAt_execs_cons (ks_wpAt_Expr_any (hi := hint) (ks_wpAt_MethodCall (he := mcs_tree hline) ?_))
  refine ks_wpAt_super_base (env := ksEnv qual scope L fI (.ref cda) cc) lsu lcl rfl rfl (X2 _ _ lk) rfl hpar rfl (X2 _ _ hcode) rfl hvs hfile htop ?_
  refine ks_loadName_global hk lsu (loadGlobal_builtin (env := ksEnv qual scope L fI (.ref cda) cc) ((hg.keeps kk).keeps k2) hmg ((hb.keeps kk).keeps k2) hmb ⟨rfl, ?_⟩)
  refine wpAny_loadName_free hk lcl rfl ⟨_, X2 _ _ hcell, rfl⟩ ?_
  rw [har]
  refine wpAny_loadName_local (env := ksEnv qual scope L fI (.ref cda) cc) hk lsf (m := fun x => [(sf, Value.ref e), (p, u)].reverse.lookup x) hns hsf ?_
  refine ks_wpAny_isType_cls hD1 hD2 ⟨rfl, ?_⟩
  refine ks_wpAny_call_super hD1 hD2 I2.at_ I2.cls (fun c z => by cases z) (looks_mroIn X2 mroC) (fun h3 e3 k3 => ?_)
  have X3 : K.In h3 := X2.keeps k3
  have I3 : W.InstAt h3 e (excObj C hp.objs.size none .none) C none := ⟨k3 _ _ he2, rfl, rfl, trivial⟩
  have sup' : alongIn K "__init__" ((cd.mro.dropWhile (· != .ref C)).drop 1) = some (some (.builtin initId)) := by
    unfold ks_superIn at sup
    rw [hcl] at sup
    exact sup
  refine kxs_getMethod KF e3 (looks_opaque X3 opq) (l₀ := cd.mro) (fun A Q E s k q => wpAny_bind ((looks_clsIn X3 hcl) A _ E s k (wpAny_pure q))) rfl X3 sup' (I3.type.andThen (looks_subIn X3 sub)) (ks_ne X3 I3 hcl) rfl ?_
  have k4 : ∀ b o, h3.get? b = some o → (h3.push (kxs_mw initId e)).get? b = some o := fun b o z => Heap.get?_push_of_some _ z
  have e4 : (h3.push (kxs_mw initId e)).get? h3.objs.size = some (kxs_mw initId e) := Heap.get?_push_at rfl rfl
  generalize h3.push (kxs_mw initId e) = h4 at k4 e4
  refine kxs_callWith (i := initId) (x := e) rfl (evalArgs_kxs (Calls.Constant_str (pos := p3) (k := j) ⟨e4, ?_⟩))
  refine call_mw FB q (X3.keeps k4) (k4 _ _ (k3 _ _ he2)) e4 (by rw [sizeLine_eq]; show (1 : Nat) ≤ _; decide) (fun h5 t5 k5 e5 => ?_)
  have kp5 : ∀ b o, b ≠ e → h2.get? b = some o → h5.get? b = some o := fun b o hb z => k5 b o hb (k4 _ _ (k3 _ _ z))
  have hLe : L ≠ e := by
    rw [← hL, ← he]
    exact Nat.ne_of_gt (Heap.lt_size (by rw [he]; exact hget))
  have hns5 : h5.Ns L fun x => [(sf, Value.ref e), (p, u)].reverse.lookup x := hns.at fun o z => kp5 _ _ hLe z
  have X5 : K.In h5 := fun b o z => by
    refine kp5 b o (fun hb => ?_) (X2 _ _ z)
    exact Nat.ne_of_lt (Nat.lt_of_lt_of_le (Heap.lt_size (X _ _ z)) (by rw [← he]; exact Nat.le_succ _)) hb
  refine _root_.PySem.wpAt_of_wpAny (wpAny_execs_cons (plainObj_wpAny_Assign_Attribute ?_))
  refine wpAny_Name (wpAny_loadName_local (env := ksEnv qual scope L fI (.ref cda) cc) hk lp (m := fun x => [(sf, Value.ref e), (p, u)].reverse.lookup x) hns5 hpu ?_) dbp
  refine wpAny_Name (wpAny_loadName_local (env := ksEnv qual scope L fI (.ref cda) cc) hk lsf (m := fun x => [(sf, Value.ref e), (p, u)].reverse.lookup x) hns5 hsf ?_) dbs
  refine PySem.W.set_plain X5 (ox := excObj C t5 none .none) (od := none) ⟨e5, rfl, rfl, trivial⟩ sa (osa_first SF X5 e5 over tk hd fun h6 tk6 dx k6 d6 ne6 e6 n6 => ?_)
  refine wpAny_execs_nil ⟨rfl, ?_⟩
  refine hq h6 tk6 e dx t5 (fun b o z => ?_) (by rw [← he]; exact Nat.le_succ _) ?_ ne6 e6 n6
  · have hb : b ≠ e := Nat.ne_of_lt (Nat.lt_of_lt_of_le (Heap.lt_size z) (by rw [← he]; exact Nat.le_succ _))
    exact k6 b o hb (kp5 b o hb (k2 _ _ (kk _ _ z)))
  · refine Nat.le_trans ?_ d6
    refine Nat.le_trans ?_ (Nat.le_of_lt (Heap.lt_size e5))
    rw [← he]; exact Nat.le_succ _
end
end EX
end
section
set_option maxHeartbeats 4000000
/-! EX2: an own error made and raised; try with clauses that keep the error, or give a constant back. -/
namespace L2
open PySem PySem.Spec PyProof.Rows
section
variable {X : Cx} {pins : List (Addr × Obj)} {σ : St} {H : Hp} {s : Shared}
/-- C(e), C an own error class of one field -/
theorem pmk_ex {B newId initId : String} {bmB : List Value} {C : Addr} {f fp x : Str} {e : Expr} {ta : TE} {p pos : Pos} {kr : Nat} (T : EX.Own X.prog X.K B newId initId bmB C f fp) (hg : Gl X x) (gC : X.mg x = some (.ref C)) (hsu : X.mg "super" = none) (room : Room (kr + 2) X.A)
    (he : PE X e ta) (hs : starEach [e] X.env = (false, eval e X.env) :: starEach [] X.env := by rfl) (hdb : (x == ("__debug__" : Str)) = false := by decide) :
    PMk X (.Call (.Name x p) [e] [] pos) (fun σ H Q => ta σ H fun v H1 => ∀ dx, H1 dx = none → Q (.ref C) (some dx) (upd H1 dx (.xd [(f, v)]))) := by
  intro pins s σ H Q I h
  refine wpAny_Call_Name_kw (ld_glob I hg gC ?_ hdb)
  refine PySem.W.callWith_K (h₀ := X.base) I.ok.mod.kin T.kC ?_ hs (by rfl)
  rw [hs]
  show wpAny _ _ (spliced ((false, eval e X.env) :: backTo pos (starEach [] X.env))) _ _ s
  refine Calls.spliced_cons (thn (he.run pins s σ H _ I h) fun u s1 ⟨v, H1, I1, r1, q1⟩ => ?_)
  refine Calls.spliced_nil ⟨I1.kIn, ?_⟩
  show wpAny _ _ (PySem.call (.ref C) [u]) _ _ _
  obtain ⟨mb, hb1, hb2⟩ := I1.mod.blt
  obtain ⟨hp, g, d, t, os⟩ := s1
  refine EX.make T I1.kIn (I1.mod.glob.keeps I1.bk) (hb1.keeps I1.bk) I1.nolimit hsu ((hb2 _ (by decide)).trans (by decide +kernel)) room fun h' tk' a dx t1 k na nd ne ea nx => ?_
  have ga : hp.get? a = none := by
    cases z : hp.get? a with
    | none => rfl
    | some o => exact absurd (Heap.lt_size z) (Nat.not_lt.mpr na)
  have gd : hp.get? dx = none := by
    cases z : hp.get? dx with
    | none => rfl
    | some o => exact absurd (Heap.lt_size z) (Nat.not_lt.mpr nd)
  have hd1 : H1 dx = none := I1.hok.gone gd
  have ha1 : H1 a = none := I1.hok.gone ga
  obtain ⟨G, g1, g2⟩ := restrict h' fun b => decide (b ≠ a)
  have gk : ∀ b, b ≠ a → G.get? b = h'.get? b := fun b hb => g1 b (decide_eq_true hb)
  have gn : G.get? a = none := g2 a (by simp)
  have kG : ∀ b o, hp.get? b = some o → G.get? b = some o := fun b o z => by
    rw [gk b (fun e => by rw [e, ga] at z; cases z)]
    exact k b o z
  have rel : ∀ y, RelO (List.lookup y [(f, v)]) (if y = f then some u else none) := fun y => by
    by_cases hy : y = f
    · subst hy
      simp only [List.lookup, beq_self_eq_true, if_true]
      exact r1
    · have : (y == f) = false := by simpa using hy
      simp only [List.lookup, this, if_neg hy]
      exact trivial
  have J : Inv X pins σ (upd H1 dx (.xd [(f, v)])) { (⟨hp, g, d, t, os⟩ : Shared) with heap := G, toks := tk' } :=
    I1.laidN kG gd hd1 ⟨_, nx.at fun o z => by rw [gk dx ne]; exact z, rel⟩
  refine ⟨a, _, _, ⟨G, g, d, tk', os⟩, upd H1 dx (.xd [(f, v)]), .ref C, some dx, rfl, J, fun b o z => ?_, gn, ea, ⟨rfl, rfl⟩, rfl, rfl, by rw [upd_ne ne.symm]; exact ha1, rfl, I1.bare, raises_own T.exC T.tyC, q1 dx hd1⟩
  by_cases hb : b = a
  · rw [hb, gn] at z; cases z
  · rw [← gk b hb]; exact z
/-- C(e), the argument read as a row -/
theorem pmk_exA {B newId initId : String} {bmB : List Value} {C : Addr} {f fp x : Str} {e : Expr} {ta : TA} {p pos : Pos} {kr : Nat} (T : EX.Own X.prog X.K B newId initId bmB C f fp) (hg : Gl X x) (gC : X.mg x = some (.ref C)) (hsu : X.mg "super" = none) (room : Room (kr + 2) X.A)
    (he : PA X [e] ta) (hs : starEach [e] X.env = (false, eval e X.env) :: starEach [] X.env := by rfl) (hdb : (x == ("__debug__" : Str)) = false := by decide) :
    PMk X (.Call (.Name x p) [e] [] pos) (fun σ H Q => ta σ H fun vs H1 => ∃ v, vs = [v] ∧ ∀ dx, H1 dx = none → Q (.ref C) (some dx) (upd H1 dx (.xd [(f, v)]))) := by
  intro pins s σ H Q I h
  refine wpAny_Call_Name_kw (ld_glob I hg gC ?_ hdb)
  refine PySem.W.callWith_K (h₀ := X.base) I.ok.mod.kin T.kC ?_ hs (by rfl)
  refine thn (he.run pos pins s σ H _ I h) fun us s1 ⟨vs, H1, I1, rr, v, ev, q1⟩ => ⟨I1.kIn, ?_⟩
  subst ev
  cases rr with
  | @cons _ u _ _ r1 rr =>
  cases rr
  show wpAny _ _ (PySem.call (.ref C) [u]) _ _ _
  obtain ⟨mb, hb1, hb2⟩ := I1.mod.blt
  obtain ⟨hp, g, d, t, os⟩ := s1
  refine EX.make T I1.kIn (I1.mod.glob.keeps I1.bk) (hb1.keeps I1.bk) I1.nolimit hsu ((hb2 _ (by decide)).trans (by decide +kernel)) room fun h' tk' a dx t1 k na nd ne ea nx => ?_
  have ga : hp.get? a = none := by
    cases z : hp.get? a with
    | none => rfl
    | some o => exact absurd (Heap.lt_size z) (Nat.not_lt.mpr na)
  have gd : hp.get? dx = none := by
    cases z : hp.get? dx with
    | none => rfl
    | some o => exact absurd (Heap.lt_size z) (Nat.not_lt.mpr nd)
  have hd1 : H1 dx = none := I1.hok.gone gd
  have ha1 : H1 a = none := I1.hok.gone ga
  obtain ⟨G, g1, g2⟩ := restrict h' fun b => decide (b ≠ a)
  have gk : ∀ b, b ≠ a → G.get? b = h'.get? b := fun b hb => g1 b (decide_eq_true hb)
  have gn : G.get? a = none := g2 a (by simp)
  have kG : ∀ b o, hp.get? b = some o → G.get? b = some o := fun b o z => by
    rw [gk b (fun e => by rw [e, ga] at z; cases z)]
    exact k b o z
  have rel : ∀ y, RelO (List.lookup y [(f, v)]) (if y = f then some u else none) := fun y => by
    by_cases hy : y = f
    · subst hy
      simp only [List.lookup, beq_self_eq_true, if_true]
      exact r1
    · have : (y == f) = false := by simpa using hy
      simp only [List.lookup, this, if_neg hy]
      exact trivial
  have J : Inv X pins σ (upd H1 dx (.xd [(f, v)])) { (⟨hp, g, d, t, os⟩ : Shared) with heap := G, toks := tk' } :=
    I1.laidN kG gd hd1 ⟨_, nx.at fun o z => by rw [gk dx ne]; exact z, rel⟩
  refine ⟨a, _, _, ⟨G, g, d, tk', os⟩, upd H1 dx (.xd [(f, v)]), .ref C, some dx, rfl, J, fun b o z => ?_, gn, ea, ⟨rfl, rfl⟩, rfl, rfl, by rw [upd_ne ne.symm]; exact ha1, rfl, I1.bare, raises_own T.exC T.tyC, q1 dx hd1⟩
  by_cases hb : b = a
  · rw [hb, gn] at z; cases z
  · rw [← gk b hb]; exact z
/-! ### a caught error kept as a value -/
/-- at a: an error object of the class cls, its dict d -/
def ExK (cls : Value) (d : Option Addr) (a : Addr) : HO := .ext fun h => ∃ (oe : Obj) (vs : Array Value), h.get? a = some oe ∧ Zc cls d oe ∧ oe.data = .fields vs
theorem exK_ok {P : Program} {w : World} {h : Heap} {a : Addr} {cls : Value} {d : Option Addr} {oe : Obj} {vs : Array Value} (H : Hp) (e : h.get? a = some oe) (z : Zc cls d oe) (hd : oe.data = .fields vs) : ObjOk P w H h a (ExK cls d a) :=
  ⟨⟨oe, vs, e, z, hd⟩, ⟨oe, e⟩, fun _ _ ⟨o, v, q, r⟩ k => ⟨o, v, k o q, r⟩⟩
/-- an object that stands, new since the def's entry, is tracked from now on -/
theorem Inv.track {a : Addr} {o : HO} (I : Inv X pins σ H s) (n0 : X.s_0.heap.get? a = none) (hn : H a = none) (nL : a ≠ X.env.locals) (nC : ∀ x c, X.env.cells.lookup x = some c → c ≠ a) (nP : ∀ p ∈ X.pn ++ pins, p.1 ≠ a) (new : ObjOk X.prog X.w (upd H a o) s.heap a o) :
    Inv X pins σ (upd H a o) s := by
  have ne0 : ∀ b u, X.s_0.heap.get? b = some u → b ≠ a := fun b u e z => by rw [z, n0] at e; cases e
  refine ⟨I.ok, I.os, I.bare, ⟨I.base.keep, I.base.slot, fun b u e n hx => by rw [upd_ne (ne0 b u e)]; exact I.base.free b u e n hx, I.base.there, fun b xs e => ?_, fun b u v e => ?_, fun b ps e => ?_⟩, I.loc, I.cell, by rw [upd_ne nL.symm]; exact I.free, fun x c e => by rw [upd_ne (nC x c e)]; exact I.freeC x c e, fun p hp => ?_, fun b u e => ?_, I.len⟩
  · have q := I.base.tups b xs e
    rw [upd_ne (ne_of_none q hn)]; exact q
  · have q := I.base.frzs b u v e
    rw [upd_ne (ne_of_none q hn)]; exact q
  · obtain ⟨m, q⟩ := I.base.tbls b ps e
    exact ⟨m, by rw [upd_ne (ne_of_none q hn)]; exact q⟩
  · obtain ⟨q1, q2, q3⟩ := I.pin p hp
    exact ⟨q1, by rw [upd_ne (nP p hp)]; exact q2, q3⟩
  · by_cases hb : b = a
    · subst hb
      rw [upd_same] at e
      cases e
      exact new
    · rw [upd_ne hb] at e
      exact (I.hok b u e).stay (fun c v _ q => q) (fun c q => by rw [upd_ne (ne_of_none q hn)]; exact q) fun c xs q => by rw [upd_ne (ne_of_none q hn)]; exact q
theorem FlyingZ.grow {B h h' : Heap} {l : List Env} {a : Addr} {Z : Obj → Prop} (fl : PySem.HandSPX.FlyingZ B l a Z h) (k : ∀ b o, h.get? b = some o → h'.get? b = some o) : PySem.HandSPX.FlyingZ B l a Z h' := by
  obtain ⟨f1, f2, f3, oe, vs, T, oT, ts, he, hz, hd, h1, hnT, hTe, hT, hdT, h3⟩ := fl
  exact ⟨fun b o z => k _ _ (f1 b o z), f2, Heap.FunFrames.of_keeps (fun b o e _ => ⟨o, k b o e, rfl⟩) f3, oe, vs, T, oT, ts, k _ _ he, hz, hd, h1, hnT, hTe, k _ _ hT, hdT, h3⟩
end
end L2
end
section
set_option maxHeartbeats 4000000
namespace PC
open PySem L2

/-- the names: of attributes, constants, defs, a def's parameters, classes; fg, cg: which defs and classes are names of the module; bn: what is no name of the module -/
structure Nz where
  nm : Nat → Str
  gn : Nat → Str
  fnm : Nat → Str
  pn : Nat → List Str
  cn : Nat → Str
  fg : Nat → Bool
  cg : Nat → Bool
  bn : Str → Bool
  cs : Nat → List (Nat × Nat)
  cw : Nat → List Nat
  xg : Nat → Bool
  xp : Nat → Str
/-- the names, what is written, where defs and classes stand -/
structure Nm extends Nz where
  K : PySem.W.Frag
  w : World
  mg : Str → Option Value
  fa : Nat → Addr
  ca : Nat → Addr
def key : DK → Key
  | .i k => .inl k
  | .s x => .inr (st x)
theorem st_inj {a b : List Nat} (h : st a = st b) : a = b := by
  have e := congrArg (fun z : Str => z.cps.toList) h
  simpa using e
theorem key_inj {a b : DK} (h : key a = key b) : a = b := by
  cases a <;> cases b <;> simp only [key] at h
  · injection h with h; rw [h]
  · cases h
  · cases h
  · injection h with h; rw [st_inj h]

/-- a list whose very object is known -/
def SqX (K : PySem.W.Frag) (H : Hp) (a : Addr) (xs : List V) : Prop :=
  Rd H a (.lst xs) ∨ ∃ (its : Array Value) (n : Nat), K.lookup a = some { cls := .type "list", data := .seq its n } ∧ its.size ≤ sizeLine ∧ Vals xs its.toList
theorem SqX.sq {K : PySem.W.Frag} {H : Hp} {a : Addr} {xs : List V} (h : SqX K H a xs) : SqL K H a xs := by
  rcases h with h | ⟨its, n, h1, h2, h3⟩
  · exact .inl h
  · exact .inr ⟨_, its, n, h1, rfl, rfl, rfl, h2, h3⟩
theorem SqX.of {K : PySem.W.Frag} {H : Hp} {a : Addr} {xs : List V} (h : H a = some (.lst xs)) : SqX K H a xs := .inl (.inl h)
theorem same_x {K : PySem.W.Frag} {I J : Hp} {a : Addr} {xs : List V} (e : Same I J) (h : SqX K I a xs) : SqX K J a xs := by
  rcases h with (h | ⟨o, h⟩) | h
  · exact .inl (.inl (e _ _ h))
  · exact .inl (.inr ⟨o, e _ _ h⟩)
  · exact .inr h
theorem inv_x {X : Cx} {pins : List (Addr × Obj)} {σ : L2.St} {H : Hp} {s : Shared} {a : Addr} {xs : List V} (I : Inv X pins σ H s) (h : SqX X.K H a xs) :
    xs.length ≤ sizeLine ∧ ∃ (its : List Value) (n : Nat), Vals xs its ∧ s.heap.get? a = some { cls := .type "list", data := .seq its.toArray n } := by
  rcases h with h | ⟨its, n, h1, h2, h3⟩
  · obtain ⟨z, its, n, r, e⟩ := h.ok I.hok
    exact ⟨z, its, n, r, e⟩
  · have e := h3.length
    simp only [Array.length_toList] at e
    exact ⟨by omega, its.toList, n, h3, by simpa using I.kIn a _ h1⟩
/-- what a dict of the module answers for a text -/
def KdAt (N : Nm) (a : Addr) (ks : List (List Nat)) (vs : List V) (x : List Nat) : Prop := match ks.findIdx? (· == x) with
  | some j => ∃ v u, vs[j]? = some v ∧ PySem.W.nsIn N.K a (st x) = some (some u) ∧ RelV v u
  | none => PySem.W.nsIn N.K a (st x) = some none
mutual
/-- data d is the value v: I what is never changed, rs where the cells stand -/
inductive VR (N : Nm) (I : Hp) (rs : List Addr) : D → V → Prop
  | non : VR N I rs .non .non
  | bl (b : Bool) : VR N I rs (.bl b) (.bl b)
  | int (i : Int) : VR N I rs (.int i) (.int i)
  | str (s : List Nat) : VR N I rs (.str s) (.str (st s))
  | tup {a : Addr} {vs : List V} {ds : List D} : SqT N.K I a vs → VRs N I rs ds vs → VR N I rs (.tup ds) (.ref a)
  | lst {a : Addr} {vs : List V} {ds : List D} : SqX N.K I a vs → VRs N I rs ds vs → VR N I rs (.lst ds) (.ref a)
  | dct {a : Addr} {kvs : List (Key × V)} {ks : List DK} {ds : List D} : I a = some (.dK kvs) → kvs.map (·.1) = ks.map key → ks.Nodup → VRs N I rs ds (kvs.map (·.2)) → VR N I rs (.dct ks ds) (.ref a)
  | kdc {a : Addr} {es : Array DictEntry} {n : Nat} {vs : List V} {ks : List (List Nat)} {ds : List D} : KDict N.K N.w a es n → ks ≠ [] → ks.length = vs.length → (∀ x, KdAt N a ks vs x) → VRs N I rs ds vs → VR N I rs (.mdc (ks.map .s) ds) (.ref a)
  | obj {a dx : Addr} {c : Nat} {ns : List Nat} {fs : List (Str × V)} {ds : List D} : I a = some (.ins (N.ca c) dx fs) → fs.map (·.1) = ns.map N.nm → VRs N I rs ds (fs.map (·.2)) → VR N I rs (.obj c ns ds) (.ref a)
  | ref {i : Nat} {a : Addr} : rs[i]? = some a → VR N I rs (.ref i) (.ref a)
  | cls (c : Nat) : VR N I rs (.cls c) (.ref (N.ca c))
  | xob {a d : Addr} {c : Nat} {ns : List Nat} {fs : List (Str × V)} {ds : List D} : I a = some (ExK (.ref (N.ca c)) (some d) a) → I d = some (.xd fs) → fs.map (·.1) = ns.map N.nm → VRs N I rs ds (fs.map (·.2)) → VR N I rs (.xob c ns ds) (.ref a)
inductive VRs (N : Nm) (I : Hp) (rs : List Addr) : List D → List V → Prop
  | nil : VRs N I rs [] []
  | cons {d : D} {v : V} {ds : List D} {vs : List V} : VR N I rs d v → VRs N I rs ds vs → VRs N I rs (d :: ds) (v :: vs)
end
theorem same_t {K : PySem.W.Frag} {I J : Hp} {a : Addr} {xs : List V} (e : Same I J) (h : SqT K I a xs) : SqT K J a xs := by
  rcases h with (h | ⟨o, h⟩) | h
  · exact .inl (.inl (e _ _ h))
  · exact .inl (.inr ⟨o, e _ _ h⟩)
  · exact .inr h
section
variable {N : Nm} {I J : Hp} {rs ss : List Addr}
mutual
theorem VR.mono (e : Same I J) (p : rs <+: ss) : ∀ {d : D} {v : V}, VR N I rs d v → VR N J ss d v
  | _, _, .non => .non
  | _, _, .bl b => .bl b
  | _, _, .int i => .int i
  | _, _, .str s => .str s
  | _, _, .tup h k => .tup (same_t e h) (VRs.mono e p k)
  | _, _, .lst h k => .lst (same_x e h) (VRs.mono e p k)
  | _, _, .dct h1 h2 h3 k => .dct (e _ _ h1) h2 h3 (VRs.mono e p k)
  | _, _, .kdc h1 h0 h2 h3 k => .kdc h1 h0 h2 h3 (VRs.mono e p k)
  | _, _, .obj h1 h2 k => .obj (e _ _ h1) h2 (VRs.mono e p k)
  | _, _, .cls c => .cls c
  | _, _, .xob h1 h2 h3 k => .xob (e _ _ h1) (e _ _ h2) h3 (VRs.mono e p k)
  | _, _, .ref h => .ref (by
    obtain ⟨t, rfl⟩ := p
    rw [List.getElem?_append_left (List.getElem?_eq_some_iff.mp h).1]
    exact h)
theorem VRs.mono (e : Same I J) (p : rs <+: ss) : ∀ {ds : List D} {vs : List V}, VRs N I rs ds vs → VRs N J ss ds vs
  | _, _, .nil => .nil
  | _, _, .cons h k => .cons (VR.mono e p h) (VRs.mono e p k)
end
theorem VRs.length : ∀ {ds : List D} {vs : List V}, VRs N I rs ds vs → ds.length = vs.length
  | _, _, .nil => rfl
  | _, _, .cons _ k => by simp [VRs.length k]
theorem VRs.append : ∀ {ds es : List D} {vs ws : List V}, VRs N I rs ds vs → VRs N I rs es ws → VRs N I rs (ds ++ es) (vs ++ ws)
  | _, _, _, _, .nil, h => h
  | _, _, _, _, .cons h k, h2 => .cons h (VRs.append k h2)
theorem VRs.one {d : D} {v : V} (h : VR N I rs d v) : VRs N I rs [d] [v] := .cons h .nil
theorem VRs.get : ∀ {ds : List D} {vs : List V} {i : Nat} {d : D}, VRs N I rs ds vs → ds[i]? = some d → ∃ v, vs[i]? = some v ∧ VR N I rs d v
  | _, _, _, _, .nil, e => by simp at e
  | _, _, 0, _, .cons h _, e => by simp at e; subst e; exact ⟨_, rfl, h⟩
  | _, _, i + 1, _, .cons _ k, e => by
    obtain ⟨v, h1, h2⟩ := VRs.get (i := i) k (by simpa using e)
    exact ⟨v, by simpa using h1, h2⟩
theorem VRs.get' : ∀ {ds : List D} {vs : List V} {i : Nat} {v : V}, VRs N I rs ds vs → vs[i]? = some v → ∃ d, ds[i]? = some d ∧ VR N I rs d v
  | _, _, _, _, .nil, e => by simp at e
  | _, _, 0, _, .cons h _, e => by simp at e; subst e; exact ⟨_, rfl, h⟩
  | _, _, i + 1, _, .cons _ k, e => by
    obtain ⟨v, h1, h2⟩ := VRs.get' (i := i) k (by simpa using e)
    exact ⟨v, by simpa using h1, h2⟩
theorem VRs.take : ∀ (n : Nat) {ds : List D} {vs : List V}, VRs N I rs ds vs → VRs N I rs (ds.take n) (vs.take n)
  | 0, _, _, _ => .nil
  | _ + 1, _, _, .nil => .nil
  | n + 1, _, _, .cons h k => .cons h (VRs.take n k)
theorem VRs.drop : ∀ (n : Nat) {ds : List D} {vs : List V}, VRs N I rs ds vs → VRs N I rs (ds.drop n) (vs.drop n)
  | 0, _, _, h => h
  | _ + 1, _, _, .nil => .nil
  | n + 1, _, _, .cons _ k => VRs.drop n k
theorem VRs.reverse {ds : List D} {vs : List V} (h : VRs N I rs ds vs) : VRs N I rs ds.reverse vs.reverse := by
  induction h using VRs.rec (motive_1 := fun _ _ _ => True) with
  | nil => exact .nil
  | cons a b _ ih => rw [List.reverse_cons, List.reverse_cons]; exact ih.append (.one a)
  | _ => trivial
theorem VRs.set : ∀ {ds : List D} {vs : List V} (i : Nat) {d : D} {v : V}, VRs N I rs ds vs → VR N I rs d v → VRs N I rs (ds.set i d) (vs.set i v)
  | _, _, _, _, _, .nil, _ => .nil
  | _, _, 0, _, _, .cons _ k, h => .cons h k
  | _, _, i + 1, _, _, .cons h k, h2 => .cons h (VRs.set i k h2)
end

/-! ### the evaluator's heap and the abstract heap -/
/-- how a cell lies at its place; L: what is locked -/
def CR (N : Nm) (L I : Hp) (rs : List Addr) (H : Hp) (a : Addr) : Cell → Prop
  | .lst l => L a = none ∧ I a = none ∧ ∃ vs, H a = some (.lst vs) ∧ VRs N I rs l vs ∧ l.length ≤ LIM
  | .lck l => I a = none ∧ ∃ vs, L a = some (.lst vs) ∧ VRs N I rs l vs ∧ l.length ≤ LIM
  | .dct ks ds => L a = none ∧ I a = none ∧ ∃ kvs, H a = some (.dK kvs) ∧ kvs.map (·.1) = ks.map key ∧ ks.Nodup ∧ VRs N I rs ds (kvs.map (·.2)) ∧ ks.length ≤ LIM
  | .ins c ns ds => L a = none ∧ I a = none ∧ ∃ dx fs, H a = some (.ins (N.ca c) dx fs) ∧ fs.map (·.1) = ns.map N.nm ∧ VRs N I rs ds (fs.map (·.2))
  | .dead => True
structure Rel (N : Nm) (L I : Hp) (rs : List Addr) (g : G) (H : Hp) : Prop where
  sub : Same I H
  lsub : Same L H
  len : rs.length = g.length
  nd : rs.Nodup
  trk : ∀ a ∈ rs, ∃ o, H a = some o
  cell : ∀ (i : Nat) (a : Addr) (c : Cell), rs[i]? = some a → g[i]? = some c → CR N L I rs H a c
/-- from one state to a later one -/
structure Ext (I : Hp) (rs : List Addr) (H I' : Hp) (rs' : List Addr) (H' : Hp) : Prop where
  i : Same I I'
  r : rs <+: rs'
  fr : ∀ a o, H a = some o → a ∉ rs → H' a = some o
  new : ∀ a ∈ rs', a ∈ rs ∨ H a = none
  inew : ∀ a o, I' a = some o → I a = some o ∨ H a = none ∨ a ∈ rs
section
variable {N : Nm} {L I I1 I2 : Hp} {rs rs1 rs2 : List Addr} {g g1 g2 : G} {H H1 H2 : Hp}
theorem Ext.refl : Ext I rs H I rs H := ⟨Same.refl I, List.prefix_refl _, fun _ _ h _ => h, fun _ h => .inl h, fun _ _ h => .inl h⟩
/-- a place that the callee did not know is no new place of it -/
theorem Ext.trans (a : Ext I rs H I1 rs1 H1) (b : Ext I1 rs1 H1 I2 rs2 H2) : Ext I rs H I2 rs2 H2 := by
  refine ⟨a.i.trans b.i, a.r.trans b.r, fun x o h n => ?_, fun x hx => ?_, fun x o h => ?_⟩
  · have h1 := a.fr x o h n
    refine b.fr x o h1 fun hx => ?_
    rcases a.new x hx with z | z
    · exact n z
    · rw [h] at z; cases z
  · rcases b.new x hx with z | z
    · exact a.new x z
    · by_cases hr : x ∈ rs
      · exact .inl hr
      · refine .inr ?_
        cases q : H x with
        | none => rfl
        | some o => rw [a.fr x o q hr] at z; cases z
  · rcases b.inew x o h with z | z | z
    · exact a.inew x o z
    · by_cases hr : x ∈ rs
      · exact .inr (.inr hr)
      · refine .inr (.inl ?_)
        cases q : H x with
        | none => rfl
        | some u => rw [a.fr x u q hr] at z; cases z
    · rcases a.new x z with z | z
      · exact .inr (.inr z)
      · exact .inr (.inl z)
theorem Ext.vr (e : Ext I rs H I1 rs1 H1) {d : D} {v : V} (h : VR N I rs d v) : VR N I1 rs1 d v := h.mono e.i e.r
theorem Ext.vrs (e : Ext I rs H I1 rs1 H1) {d : List D} {v : List V} (h : VRs N I rs d v) : VRs N I1 rs1 d v := h.mono e.i e.r

theorem Rel.place (R : Rel N L I rs g H) {i : Nat} {c : Cell} (h : g[i]? = some c) : ∃ a, rs[i]? = some a := by
  have hi := (List.getElem?_eq_some_iff.mp h).1
  rw [← R.len] at hi
  exact ⟨_, List.getElem?_eq_getElem hi⟩
/-- a cell's place is tracked -/
theorem CR.tracked {a : Addr} {c : Cell} (R : Rel N L I rs g H) (h : CR N L I rs H a c) (n : c ≠ .dead) : ∃ o, H a = some o := by
  cases c with
  | lst l => obtain ⟨_, _, vs, h, _⟩ := h; exact ⟨_, h⟩
  | lck l => obtain ⟨_, vs, h, _⟩ := h; exact ⟨_, R.lsub _ _ h⟩
  | dct ks ds => obtain ⟨_, _, vs, h, _⟩ := h; exact ⟨_, h⟩
  | ins c ns ds => obtain ⟨_, _, dx, fs, h, _⟩ := h; exact ⟨_, h⟩
  | dead => exact absurd rfl n
/-- the same cell in a later state that kept its object -/
theorem CR.mono {a : Addr} {c : Cell} (h : CR N L I rs H a c) (e : Same I I1) (p : rs <+: rs1) (k : ∀ o, H a = some o → L a = none → H1 a = some o) (ni : I a = none → I1 a = none) : CR N L I1 rs1 H1 a c := by
  cases c with
  | lst l => obtain ⟨hl, hi, vs, h, r, z⟩ := h; exact ⟨hl, ni hi, vs, k _ h hl, r.mono e p, z⟩
  | lck l => obtain ⟨hi, vs, h, r, z⟩ := h; exact ⟨ni hi, vs, h, r.mono e p, z⟩
  | dct ks ds => obtain ⟨hl, hi, vs, h, h2, h3, r, z⟩ := h; exact ⟨hl, ni hi, vs, k _ h hl, h2, h3, r.mono e p, z⟩
  | ins c ns ds => obtain ⟨hl, hi, dx, fs, h, h2, r⟩ := h; exact ⟨hl, ni hi, dx, fs, k _ h hl, h2, r.mono e p⟩
  | dead => trivial

/-- a new thing that never changes -/
theorem Rel.imm (R : Rel N L I rs g H) {p : Addr} {o : HO} (hp : H p = none) : Rel N L (upd I p o) rs g (upd H p o) ∧ Ext I rs H (upd I p o) rs (upd H p o) := by
  have ip : I p = none := R.sub.free hp
  have lp : L p = none := R.lsub.free hp
  have si : Same I (upd I p o) := fun b u e => by rw [upd_ne (ne_of_none e ip)]; exact e
  have sh : Same H (upd H p o) := fun b u e => by rw [upd_ne (ne_of_none e hp)]; exact e
  refine ⟨⟨fun b u e => ?_, fun b u e => sh b u (R.lsub b u e), R.len, R.nd, fun a ha => let ⟨u, e⟩ := R.trk a ha; ⟨u, sh a u e⟩, fun i a c ha hc => ?_⟩, ⟨si, List.prefix_refl _, fun a u h _ => sh a u h, fun _ h => .inl h, fun a u h => ?_⟩⟩
  · by_cases hb : b = p
    · subst hb; rw [upd_same] at e ⊢; exact e
    · rw [upd_ne hb] at e ⊢; exact R.sub b u e
  · by_cases hd : c = .dead
    · subst hd; trivial
    · obtain ⟨u, hu⟩ := (R.cell i a c ha hc).tracked R hd
      have np : a ≠ p := ne_of_none hu hp
      exact (R.cell i a c ha hc).mono si (List.prefix_refl _) (fun q h _ => sh a q h) fun h => by rw [upd_ne np]; exact h
  · by_cases hb : a = p
    · subst hb; exact .inr (.inl hp)
    · rw [upd_ne hb] at h; exact .inl h
/-- a new cell -/
theorem Rel.new (R : Rel N L I rs g H) {p : Addr} {o : HO} {c : Cell} (hp : H p = none) (hc : CR N L I (rs ++ [p]) (upd H p o) p c) : Rel N L I (rs ++ [p]) (g ++ [c]) (upd H p o) ∧ Ext I rs H I (rs ++ [p]) (upd H p o) := by
  have sh : Same H (upd H p o) := fun b u e => by rw [upd_ne (ne_of_none e hp)]; exact e
  have pre : rs <+: rs ++ [p] := List.prefix_append _ _
  have old : ∀ (i : Nat) (a : Addr) (c : Cell), rs[i]? = some a → g[i]? = some c → CR N L I (rs ++ [p]) (upd H p o) a c := fun i a c ha hc => (R.cell i a c ha hc).mono (Same.refl I) pre (fun q h _ => sh a q h) fun h => h
  have np : p ∉ rs := fun hm => by
    obtain ⟨u, e⟩ := R.trk p hm
    rw [hp] at e; cases e
  refine ⟨⟨R.sub.trans sh, R.lsub.trans sh, by simp [R.len], ?_, fun a ha => ?_, fun i a d ha hd => ?_⟩, ⟨Same.refl I, pre, fun a u h _ => sh a u h, fun a h => ?_, fun _ _ h => .inl h⟩⟩
  · rw [List.nodup_append]
    exact ⟨R.nd, by simp, fun a ha b hb => by rintro rfl; simp at hb; subst hb; exact np ha⟩
  · rcases List.mem_append.mp ha with z | z
    · obtain ⟨u, e⟩ := R.trk a z
      exact ⟨u, sh a u e⟩
    · simp at z; subst z; exact ⟨o, upd_same⟩
  · by_cases hi : i < g.length
    · rw [List.getElem?_append_left hi] at hd
      rw [List.getElem?_append_left (by rw [R.len]; exact hi)] at ha
      exact old i a d ha hd
    · rw [List.getElem?_append_right (by omega)] at hd
      rw [List.getElem?_append_right (by rw [R.len]; omega)] at ha
      rw [R.len] at ha
      cases q : i - g.length with
      | zero =>
        rw [q] at ha hd
        simp at ha hd
        subst ha; subst hd
        exact hc
      | succ n =>
        rw [q] at hd
        simp at hd
  · rcases List.mem_append.mp h with z | z
    · exact .inl z
    · simp at z; subst z; exact .inr hp
/-- a cell is changed, its object with it -/
theorem Rel.put (R : Rel N L I rs g H) {i : Nat} {p : Addr} {o : HO} {c : Cell} (hi : rs[i]? = some p) (hL : L p = none) (hI : I p = none) (hc : ∀ H', H' p = some o → CR N L I rs H' p c) : Rel N L I rs (g.set i c) (upd H p o) ∧ Ext I rs H I rs (upd H p o) := by
  have hp : p ∈ rs := List.mem_of_getElem? hi
  refine ⟨⟨fun b u e => ?_, fun b u e => ?_, by simp [R.len], R.nd, fun a ha => ?_, fun j a d ha hd => ?_⟩, ⟨Same.refl I, List.prefix_refl _, fun a u h n => ?_, fun _ h => .inl h, fun _ _ h => .inl h⟩⟩
  · rw [upd_ne (fun z => by subst z; rw [hI] at e; cases e)]; exact R.sub b u e
  · rw [upd_ne (fun z => by subst z; rw [hL] at e; cases e)]; exact R.lsub b u e
  · by_cases z : a = p
    · subst z; exact ⟨o, upd_same⟩
    · obtain ⟨u, e⟩ := R.trk a ha
      exact ⟨u, by rw [upd_ne z]; exact e⟩
  · by_cases hj : i = j
    · subst hj
      rw [hi] at ha; cases ha
      have : d = c := by
        rw [List.getElem?_set] at hd
        split at hd
        · split at hd
          · exact (Option.some.inj hd).symm
          · cases hd
        · rename_i h; exact absurd rfl h
      subst this
      exact hc _ upd_same
    · rw [List.getElem?_set_ne hj] at hd
      have na : a ≠ p := fun z => by
        subst z
        have h1 := List.getElem?_eq_some_iff.mp hi
        have h2 := List.getElem?_eq_some_iff.mp ha
        obtain ⟨l1, e1⟩ := h1
        obtain ⟨l2, e2⟩ := h2
        exact hj ((List.getElem_inj R.nd).mp (e1.trans e2.symm))
      exact (R.cell j a d ha hd).mono (Same.refl I) (List.prefix_refl _) (fun q h _ => by rw [upd_ne na]; exact h) fun h => h
  · rw [upd_ne (fun z => n (by rw [z]; exact hp))]; exact h
/-- a cell is changed in the evaluator's heap alone -/
theorem Rel.turn (R : Rel N L I rs g H) {i : Nat} {p : Addr} {c : Cell} (hi : rs[i]? = some p) (hc : CR N L I rs H p c) : Rel N L I rs (g.set i c) H := by
  refine ⟨R.sub, R.lsub, by simp [R.len], R.nd, R.trk, fun j a d ha hd => ?_⟩
  by_cases hj : i = j
  · subst hj
    rw [hi] at ha; cases ha
    have : d = c := by
      rw [List.getElem?_set] at hd
      split at hd
      · split at hd
        · exact (Option.some.inj hd).symm
        · cases hd
      · rename_i h; exact absurd rfl h
    subst this
    exact hc
  · rw [List.getElem?_set_ne hj] at hd
    exact R.cell j a d ha hd
theorem nd_ne (nd : rs.Nodup) {i j : Nat} {a p : Addr} (hi : rs[i]? = some p) (hj : rs[j]? = some a) (h : i ≠ j) : a ≠ p := fun z => by
  subst z
  obtain ⟨l1, e1⟩ := List.getElem?_eq_some_iff.mp hi
  obtain ⟨l2, e2⟩ := List.getElem?_eq_some_iff.mp hj
  exact h ((List.getElem_inj nd).mp (e1.trans e2.symm))
theorem set_at {g : G} {i : Nat} {c d : Cell} (hd : (g.set i c)[i]? = some d) : d = c := by
  rw [List.getElem?_set] at hd
  split at hd
  · split at hd
    · exact (Option.some.inj hd).symm
    · cases hd
  · rename_i h; exact absurd rfl h
/-- a list's cell becomes a thing that never changes -/
theorem Rel.frz (R : Rel N L I rs g H) {i : Nat} {p : Addr} {o : HO} (hi : rs[i]? = some p) (hI : I p = none) (hL : L p = none) (ho : H p = some o) : Rel N L (upd I p o) rs (g.set i .dead) H ∧ Ext I rs H (upd I p o) rs H := by
  have si : Same I (upd I p o) := fun b u e => by rw [upd_ne (ne_of_none e hI)]; exact e
  refine ⟨⟨fun b u e => ?_, R.lsub, by simp [R.len], R.nd, R.trk, fun j a d ha hd => ?_⟩, ⟨si, List.prefix_refl _, fun a u h _ => h, fun _ h => .inl h, fun a u h => ?_⟩⟩
  · by_cases z : b = p
    · subst z; rw [upd_same] at e; cases e; exact ho
    · rw [upd_ne z] at e; exact R.sub b u e
  · by_cases hj : i = j
    · subst hj
      cases set_at hd
      trivial
    · rw [List.getElem?_set_ne hj] at hd
      have na := nd_ne R.nd hi ha hj
      exact (R.cell j a d ha hd).mono si (List.prefix_refl _) (fun q h _ => h) fun h => by rw [upd_ne na]; exact h
  · by_cases z : a = p
    · subst z; exact .inr (.inr (List.mem_of_getElem? hi))
    · rw [upd_ne z] at h; exact .inl h
theorem Rel.lock (R : Rel N L I rs g H) {i : Nat} {p : Addr} {l : List D} {vs : List V} (hi : rs[i]? = some p) (hI : I p = none) (hL : L p = none) (ho : H p = some (.lst vs)) (hv : VRs N I rs l vs) (hz : l.length ≤ LIM) : Rel N (upd L p (.lst vs)) I rs (g.set i (.lck l)) H := by
  refine ⟨R.sub, fun b u e => ?_, by simp [R.len], R.nd, R.trk, fun j a d ha hd => ?_⟩
  · by_cases z : b = p
    · subst z; rw [upd_same] at e; cases e; exact ho
    · rw [upd_ne z] at e; exact R.lsub b u e
  · by_cases hj : i = j
    · subst hj
      cases set_at hd
      rw [hi] at ha; cases ha
      exact ⟨hI, vs, upd_same, hv, hz⟩
    · rw [List.getElem?_set_ne hj] at hd
      have na := nd_ne R.nd hi ha hj
      have q := R.cell j a d ha hd
      cases d with
      | lst l => exact ⟨by rw [upd_ne na]; exact q.1, q.2⟩
      | lck l => exact ⟨q.1, by rw [upd_ne na]; exact q.2⟩
      | dct ks ds => exact ⟨by rw [upd_ne na]; exact q.1, q.2⟩
      | ins c ns ds => exact ⟨by rw [upd_ne na]; exact q.1, q.2⟩
      | dead => trivial
theorem Rel.free {p : Addr} {o : HO} (R : Rel N (upd L p o) I rs g H) {i : Nat} {l : List D} (hi : rs[i]? = some p) (hg : g[i]? = some (.lck l)) (hL : L p = none) : Rel N L I rs (g.set i (.lst l)) H := by
  refine ⟨R.sub, fun b u e => ?_, by simp [R.len], R.nd, R.trk, fun j a d ha hd => ?_⟩
  · have z : b ≠ p := fun z => by subst z; rw [hL] at e; cases e
    exact R.lsub b u (by rw [upd_ne z]; exact e)
  · by_cases hj : i = j
    · subst hj
      cases set_at hd
      rw [hi] at ha; cases ha
      obtain ⟨hI, vs, e, hv, hz⟩ := R.cell i _ _ hi hg
      exact ⟨hL, hI, vs, R.lsub _ _ e, hv, hz⟩
    · rw [List.getElem?_set_ne hj] at hd
      have na := nd_ne R.nd hi ha hj
      have q := R.cell j a d ha hd
      cases d with
      | lst l => exact ⟨by have := q.1; rw [upd_ne na] at this; exact this, q.2⟩
      | lck l => exact ⟨q.1, by obtain ⟨vs, h, r⟩ := q.2; exact ⟨vs, by rw [upd_ne na] at h; exact h, r⟩⟩
      | dct ks ds => exact ⟨by have := q.1; rw [upd_ne na] at this; exact this, q.2⟩
      | ins c ns ds => exact ⟨by have := q.1; rw [upd_ne na] at this; exact this, q.2⟩
      | dead => trivial

/-! ### what data say of the abstract heap -/
/-- a list is read -/
theorem Rel.lst (R : Rel N L I rs g H) {d : D} {v : V} {l : List D} (h : VR N I rs d v) (e : top g d = .lst l) : ∃ a vs, v = .ref a ∧ SqX N.K H a vs ∧ VRs N I rs l vs := by
  cases h with
  | lst h k => cases e; exact ⟨_, _, rfl, same_x R.sub h, k⟩
  | @ref i a h =>
    unfold top at e
    split at e
    · rename_i j hj
      cases hj
      split at e
      · rename_i q
        cases e
        obtain ⟨_, _, vs, hv, k, _⟩ := R.cell _ _ _ h q
        exact ⟨_, _, rfl, SqX.of hv, k⟩
      · rename_i q
        cases e
        obtain ⟨_, vs, hv, k, _⟩ := R.cell _ _ _ h q
        exact ⟨_, _, rfl, SqX.of (R.lsub _ _ hv), k⟩
      · cases e
    · rename_i q; exact absurd rfl (q i)
  | _ => cases e
theorem Rel.tup (R : Rel N L I rs g H) {d : D} {v : V} {l : List D} (h : VR N I rs d v) (e : top g d = .tup l) : ∃ a vs, v = .ref a ∧ SqT N.K H a vs ∧ VRs N I rs l vs := by
  cases h with
  | tup h k => cases e; exact ⟨_, _, rfl, same_t R.sub h, k⟩
  | @ref i a h =>
    unfold top at e
    split at e
    · rename_i j hj
      cases hj
      split at e <;> cases e
    · rename_i q; exact absurd rfl (q i)
  | _ => cases e
/-- what is no list's cell is itself -/
theorem top_ne {d e : D} (h : top g d = e) (h1 : ∀ l, e ≠ .lst l) : d = e := by
  unfold top at h
  split at h
  · split at h
    · exact absurd h.symm (h1 _)
    · exact absurd h.symm (h1 _)
    · exact h
  · exact h
theorem Rel.seq (R : Rel N L I rs g H) {d : D} {v : V} {l : List D} (h : VR N I rs d v) (e : seqD g d = some l) : ∃ a vs, v = .ref a ∧ (SqL N.K H a vs ∨ SqT N.K H a vs) ∧ VRs N I rs l vs := by
  unfold seqD at e
  split at e
  · rename_i q
    cases e
    obtain ⟨a, vs, h1, h2, h3⟩ := R.tup h q
    exact ⟨a, vs, h1, .inr h2, h3⟩
  · rename_i q
    cases e
    obtain ⟨a, vs, h1, h2, h3⟩ := R.lst h q
    exact ⟨a, vs, h1, .inl h2.sq, h3⟩
  · cases e
end
end PC
end
section
set_option maxHeartbeats 4000000
namespace PC
open PySem L2 PyProof.Rows

/-! ### the weakest readings -/
def WE (X : Cx) (e : Expr) : TE := fun σ H Q => ∀ (pins : List (Addr × Obj)) (s : Shared), Inv X pins σ H s → wpAny (model X.prog X.w) X.A (eval e X.env) (EP X pins σ Q) X.xe s
def WT (X : Cx) (e : Expr) : TT := fun σ H Q => ∀ (pins : List (Addr × Obj)) (s : Shared), Inv X pins σ H s → wpAny (model X.prog X.w) X.A (isTrue e X.env (eval e X.env)) (TP X pins σ Q) X.xe s
def WA (X : Cx) (es : List Expr) : TA := fun σ H Q => ∀ (pos : Pos) (pins : List (Addr × Obj)) (s : Shared), Inv X pins σ H s → wpAny (model X.prog X.w) X.A (spliced (backTo pos (starEach es X.env))) (AP X pins σ Q) X.xe s
def WS (X : Cx) (st : Stmt) : TS := fun D σ H => ∀ (pins : List (Addr × Obj)) (s : Shared), Inv X pins σ H s → wpAny (model X.prog X.w) X.A (PySem.exec st X.env) (SP X pins D) X.xe s
def WSs (X : Cx) (sts : List Stmt) : TS := fun D σ H => ∀ (pins : List (Addr × Obj)) (s : Shared), Inv X pins σ H s → wpAny (model X.prog X.w) X.A (PySem.execs sts X.env) (SP X pins D) X.xe s
section
variable {X : Cx} {e : Expr} {es : List Expr} {sm : Stmt} {sts : List Stmt}
theorem we : PE X e (WE X e) := ⟨fun pins s _ _ _ I h => h pins s I⟩
theorem wt : PT X e (WT X e) := ⟨fun pins s _ _ _ I h => h pins s I⟩
theorem wa : PA X es (WA X es) := ⟨fun pos pins s _ _ _ I h => h pos pins s I⟩
theorem ws : PS X sm (WS X sm) := ⟨fun pins s _ _ _ I h => h pins s I⟩
theorem wss : PSs X sts (WSs X sts) := ⟨fun pins s _ _ _ I h => h pins s I⟩
theorem we_of {t : TE} (h : PE X e t) {σ : L2.St} {H : Hp} {Q : VK} (q : t σ H Q) : WE X e σ H Q := fun pins s I => h.run pins s σ H Q I q
theorem wt_of {t : TT} (h : PT X e t) {σ : L2.St} {H : Hp} {Q : Bool → Hp → Prop} (q : t σ H Q) : WT X e σ H Q := fun pins s I => h.run pins s σ H Q I q
theorem wa_of {t : TA} (h : PA X es t) {σ : L2.St} {H : Hp} {Q : List V → Hp → Prop} (q : t σ H Q) : WA X es σ H Q := fun pos pins s I => h.run pos pins s σ H Q I q
theorem ws_of {t : TS} (h : PS X sm t) {D : Ends} {σ : L2.St} {H : Hp} (q : t D σ H) : WS X sm D σ H := fun pins s I => h.run pins s σ H D I q
theorem wss_of {t : TS} (h : PSs X sts t) {D : Ends} {σ : L2.St} {H : Hp} (q : t D σ H) : WSs X sts D σ H := fun pins s I => h.run pins s σ H D I q
theorem we_mono {σ : L2.St} {H : Hp} {Q Q' : VK} (h : WE X e σ H Q) (k : ∀ v H', Q v H' → Q' v H') : WE X e σ H Q' := fun pins s I => thn (h pins s I) fun _ _ ⟨v, H', I', r, q⟩ => ⟨v, H', I', r, k v H' q⟩
end
/-- an operation by values -/
def RW (X : Cx) (f : Value → Value → Sem Value) : R2 := fun x y H Q => ∀ (pins : List (Addr × Obj)) (s : Shared) (σ : L2.St) (v u : Value), Inv X pins σ H s → RelV x v → RelV y u → wpAny (model X.prog X.w) X.A (f v u) (EP X pins σ Q) X.xe s
theorem rw_op {X : Cx} {f : Value → Value → Sem Value} : OpR X f (RW X f) := fun pins s σ H x y v u Q I rx ry h => h pins s σ v u I rx ry
theorem rw_of {X : Cx} {f : Value → Value → Sem Value} {r : R2} (h : OpR X f r) {x y : V} {H : Hp} {Q : VK} (q : r x y H Q) : RW X f x y H Q := fun pins s σ v u I rx ry => h pins s σ H x y v u Q I rx ry q
def RIx (X : Cx) : R2 := fun x y H Q => ∀ (value slice : Expr) (pins : List (Addr × Obj)) (s : Shared) (σ : L2.St) (v u : Value), Inv X pins σ H s → RelV x v → RelV y u →
  subscripted slice false v u = operate [v, u] (getItem v u) → wpAny (model X.prog X.w) X.A (subscriptTail value slice v u) (EP X pins σ Q) X.xe s
theorem rix_op {X : Cx} : IxR X (RIx X) := fun value slice pins s σ H x y v u Q I rx ry h hs => h value slice pins s σ v u I rx ry hs
theorem rix_of {X : Cx} {r : R2} (h : IxR X r) {x y : V} {H : Hp} {Q : VK} (q : r x y H Q) : RIx X x y H Q := fun value slice pins s σ v u I rx ry hs => h value slice pins s σ H x y v u Q I rx ry q hs
def RC (X : Cx) (f : Value) : List V → Hp → VK → Prop := fun xs H Q => ∀ (pins : List (Addr × Obj)) (s : Shared) (σ : L2.St) (us : List Value), Inv X pins σ H s → Vals xs us → wpAny (model X.prog X.w) X.A (PySem.call f us) (EP X pins σ Q) X.xe s
theorem rc_op {X : Cx} {f : Value} : CallR X f (RC X f) := fun pins s σ H xs us Q I r h => h pins s σ us I r
theorem rc_of {X : Cx} {f : Value} {r : List V → Hp → VK → Prop} (h : CallR X f r) {xs : List V} {H : Hp} {Q : VK} (q : r xs H Q) : RC X f xs H Q := fun pins s σ us I rx => h pins s σ H xs us Q I rx q
def RM (X : Cx) (id : String) : V → List V → Hp → VK → Prop := fun x xs H Q => ∀ (pins : List (Addr × Obj)) (s : Shared) (σ : L2.St) (v : Value) (us : List Value), Inv X pins σ H s → RelV x v → Vals xs us → wpAny (model X.prog X.w) X.A (PySem.call (.builtin id) (v :: us)) (EP X pins σ Q) X.xe s
theorem rm_op {X : Cx} {id : String} : MtR X id (RM X id) := fun pins s σ H x xs v us Q I rx r h => h pins s σ v us I rx r
theorem rm_of {X : Cx} {id : String} {r : V → List V → Hp → VK → Prop} (h : MtR X id r) {x : V} {xs : List V} {H : Hp} {Q : VK} (q : r x xs H Q) : RM X id x xs H Q := fun pins s σ v us I rx rs => h pins s σ H x xs v us Q I rx rs q

/-! ### what an answer promises -/
/-- an exception's own dict holds its fields -/
def XR (N : Nm) (I : Hp) (rs : List Addr) (x : Ex) (cls : Value) (d : Option Addr) : Prop :=
  cls = .ref (N.ca x.c) ∧ ∃ a fs, d = some a ∧ I a = some (.xd fs) ∧ fs.map (·.1) = x.ns.map N.nm ∧ VRs N I rs x.vs (fs.map (·.2))
/-- Ok: from (I, rs, H) the answer r, whose data lie as V says, serves Q; an exception serves W -/
def Ok {α β : Type} (N : Nm) (L : Hp) (P : Hp → List Addr → α → β → Prop) (I : Hp) (rs : List Addr) (H : Hp) (W : XK) (Q : β → Hp → Prop) : R α → Prop
  | .ok a g => ∀ I' rs' H' b, Ext I rs H I' rs' H' → Rel N L I' rs' g H' → P I' rs' a b → Q b H'
  | .exc x g => ∀ I' rs' H' cls d, Ext I rs H I' rs' H' → Rel N L I' rs' g H' → XR N I' rs' x cls d → W cls d H'
  | .stk => False
abbrev OkV (N : Nm) (L I : Hp) (rs : List Addr) (H : Hp) (W : XK) (Q : VK) (r : R D) : Prop := Ok N L (fun I' rs' d v => VR N I' rs' d v) I rs H W Q r
abbrev OkVs (N : Nm) (L I : Hp) (rs : List Addr) (H : Hp) (W : XK) (Q : List V → Hp → Prop) (r : R (List D)) : Prop := Ok N L (fun I' rs' d v => VRs N I' rs' d v) I rs H W Q r
abbrev OkB (N : Nm) (L I : Hp) (rs : List Addr) (H : Hp) (W : XK) (Q : Bool → Hp → Prop) (r : R Bool) : Prop := Ok N L (fun _ _ d v => d = v) I rs H W Q r
theorem Ok.after {α β : Type} {N : Nm} {L : Hp} {P : Hp → List Addr → α → β → Prop} {I I1 : Hp} {rs rs1 : List Addr} {H H1 : Hp} {W : XK} {Q : β → Hp → Prop} {r : R α} (h : Ok N L P I rs H W Q r) (e : Ext I rs H I1 rs1 H1) : Ok N L P I1 rs1 H1 W Q r := by
  cases r with
  | ok a g => exact fun I' rs' H' b e' R p => h I' rs' H' b (e.trans e') R p
  | exc x g => exact fun I' rs' H' c d e' R p => h I' rs' H' c d (e.trans e') R p
  | stk => exact h
/-- the names' values -/
def ER (N : Nm) (I : Hp) (rs : List Addr) (env : Env) (σ : L2.St) : Prop := env.length = σ.length ∧ ∀ (i : Nat) (d : D), env[i]? = some (some d) → ∃ v, σ[i]? = some (some v) ∧ VR N I rs d v
theorem ER.after {N : Nm} {I I1 : Hp} {rs rs1 : List Addr} {H H1 : Hp} {env : Env} {σ : L2.St} (h : ER N I rs env σ) (e : Ext I rs H I1 rs1 H1) : ER N I1 rs1 env σ := ⟨h.1, fun i d q => let ⟨v, a, b⟩ := h.2 i d q; ⟨v, a, e.vr b⟩⟩
theorem ER.set {N : Nm} {I : Hp} {rs : List Addr} {env : Env} {σ : L2.St} (h : ER N I rs env σ) {i : Nat} {d : D} {v : V} (r : VR N I rs d v) : ER N I rs (env.set i (some d)) (σ.set i (some v)) := by
  refine ⟨by simp [h.1], fun j y q => ?_⟩
  by_cases hj : i = j
  · subst hj
    have hi : i < env.length := by
      have := (List.getElem?_eq_some_iff.mp q).1
      simpa using this
    rw [List.getElem?_set_self hi] at q
    cases q
    exact ⟨v, List.getElem?_set_self (by rw [← h.1]; exact hi), r⟩
  · rw [List.getElem?_set_ne hj] at q
    obtain ⟨u, a, b⟩ := h.2 j y q
    exact ⟨u, by rw [List.getElem?_set_ne hj]; exact a, b⟩
theorem ER.wipe1 {N : Nm} {I : Hp} {rs : List Addr} {env : Env} {σ : L2.St} (h : ER N I rs env σ) (i : Nat) : ER N I rs (env.set i none) (σ.set i none) := by
  refine ⟨by simp [h.1], fun j y q => ?_⟩
  by_cases hj : i = j
  · subst hj
    have hi : i < env.length := by
      have := (List.getElem?_eq_some_iff.mp q).1
      simpa using this
    rw [List.getElem?_set_self hi] at q
    cases q
  · rw [List.getElem?_set_ne hj] at q
    obtain ⟨u, a, b⟩ := h.2 j y q
    exact ⟨u, by rw [List.getElem?_set_ne hj]; exact a, b⟩
theorem ER.wipe {N : Nm} {I : Hp} {rs : List Addr} {env : Env} {σ : L2.St} (h : ER N I rs env σ) : ∀ is : List Nat, ER N I rs (wipeD env is) (wipe σ is)
  | [] => h
  | i :: is => (ER.wipe h is).wipe1 i
end PC
end
section
set_option maxHeartbeats 4000000
namespace PC
open PySem L2 PyProof.Rows
def bopA : Bop → Operator
  | .add => .Add
  | .sub => .Sub
  | .mul => .Mult
  | .fdiv => .FloorDiv
  | .mod => .Mod
  | .pow => .Pow
def copA : Cop → CmpOp
  | .eq => .Eq
  | .ne => .NotEq
  | .lt => .Lt
  | .le => .LtE
  | .gt => .Gt
  | .ge => .GtE
  | .is_ => .Is
  | .isnot => .IsNot
  | .in_ => .In
  | .notin => .NotIn
  | .eqE => .Eq
  | .neE => .NotEq
theorem lim_line {n : Nat} (h : n ≤ LIM) : n ≤ sizeLine := Nat.le_trans h (by decide)
/-- the same cells: an answer by a value that needs nothing new -/
def Gd (N : Nm) (L I : Hp) (rs : List Addr) (g : G) (H : Hp) (z : D) (Q : VK) : Prop := ∀ I' H' b, Ext I rs H I' rs H' → Rel N L I' rs g H' → VR N I' rs z b → Q b H'
section
variable {N : Nm} {L I : Hp} {rs : List Addr} {g : G} {H : Hp} {Q : VK} {x y z : D} {u v : V} {X : Cx}
theorem Gd.now (R : Rel N L I rs g H) (q : Gd N L I rs g H z Q) {b : V} (h : VR N I rs z b) : Q b H := q I H b .refl R h
theorem Gd.tup (R : Rel N L I rs g H) {l : List D} {vs : List V} (q : Gd N L I rs g H (.tup l) Q) (h : VRs N I rs l vs) {p : Addr} (hp : H p = none) : Q (.ref p) (upd H p (.tup vs)) := by
  obtain ⟨R', E'⟩ := R.imm (o := .tup vs) hp
  exact q _ _ _ E' R' (.tup (.inl (.inl upd_same)) (E'.vrs h))
theorem Gd.lst (R : Rel N L I rs g H) {l : List D} {vs : List V} (q : Gd N L I rs g H (.lst l) Q) (h : VRs N I rs l vs) {p : Addr} (hp : H p = none) : Q (.ref p) (upd H p (.lst vs)) := by
  obtain ⟨R', E'⟩ := R.imm (o := .lst vs) hp
  exact q _ _ _ E' R' (.lst (.inl (.inl upd_same)) (E'.vrs h))
theorem top_int {d : D} {i : Int} (h : top g d = .int i) : d = .int i := top_ne h fun _ => by simp
theorem top_str {d : D} {i : List Nat} (h : top g d = .str i) : d = .str i := top_ne h fun _ => by simp
/-- list + list -/
theorem op_catX : OpR X (binaryOp .Add) (fun x y H Q => ∃ l b xs zs, x = .ref l ∧ y = .ref b ∧ SqX X.K H l xs ∧ SqX X.K H b zs ∧ xs.length + zs.length ≤ sizeLine ∧ ∀ p, H p = none → Q (.ref p) (upd H p (.lst (xs ++ zs)))) := by
  intro pins s σ H x y v u Q I rx ry ⟨l, b, xs, zs, hx, hy, h1, h2, hz, q⟩
  subst hx hy
  cases rx
  cases ry
  obtain ⟨_, its, n, r, e⟩ := inv_x I h1
  obtain ⟨_, its2, n2, r2, e2⟩ := inv_x I h2
  have e3 := r.length
  have e4 := r2.length
  refine PySem.P.add_list e e2 ?_ (by simp only [List.size_toArray]; omega)
  have ea : its.toArray ++ its2.toArray = (its ++ its2).toArray := by simp
  rw [ea]
  exact ⟨.ref _, _, I.lnew (t' := s.toks) (r.append r2) (by rw [List.length_append]; omega), rfl, q _ I.fresh⟩
theorem sml_ok {i : Int} (h : sml i = true) : -(2 ^ 64) < i ∧ i < 2 ^ 64 := by
  unfold sml at h
  simpa using h
theorem st_app (a b : List Nat) : st a ++ st b = st (a ++ b) := by
  show Str.append _ _ = _
  simp [Str.append, st]
theorem rep_fold : ∀ (n : Nat) (a z : Array Nat), ((List.replicate n a).foldl (· ++ ·) z).toList = z.toList ++ repL a.toList n
  | 0, a, z => by simp [repL]
  | n + 1, a, z => by
    rw [List.replicate_succ, List.foldl_cons, rep_fold n a (z ++ a)]
    simp [repL, List.replicate_succ]
theorem mul_st (a : List Nat) (b : Int) : Txt.mul (st a) b = st (repL a b.toNat) := by
  unfold Txt.mul
  by_cases h : b < 1
  · rw [if_pos h, show b.toNat = 0 by omega]; rfl
  · rw [if_neg h]
    by_cases h2 : (b == 1 || (st a).length == 0) = true
    · rw [if_pos h2]
      simp only [Bool.or_eq_true, beq_iff_eq, st_length] at h2
      rcases h2 with z | z
      · subst z
        show st a = st (repL a 1)
        simp [repL]
      · have : a = [] := List.length_eq_zero_iff.mp z
        subst this
        have e : repL [] b.toNat = [] := by simp [repL]
        rw [e]
    · rw [if_neg h2]
      have := rep_fold b.toNat (st a).cps #[]
      rw [st_list] at this
      simp only [List.nil_append] at this
      rw [← this]
      unfold st
      rw [Array.toArray_toList]
theorem op_mul_str : OpR X (binaryOp .Mult) (fun x y H Q => ∃ (a : List Nat) (b : Int), x = .str (st a) ∧ y = .int b ∧ (b ≤ 1000000 ∧ a.length ≤ LIM ∧ a.length * b.toNat ≤ LIM ∧ -1000000 ≤ b) ∧ Q (.str (st (repL a b.toNat))) H) := by
  intro pins s σ H x y v u Q I rx ry h
  obtain ⟨a, b, rfl, rfl, ⟨z1, z2, z3, z4⟩, q⟩ := h
  obtain ⟨t, rfl⟩ := rx
  obtain ⟨t', rfl⟩ := ry
  have ok : MulOk (st a) b := by
    refine ⟨?_, fun h1 h2 => ?_, fun h1 h2 => ?_⟩
    · rw [decide_eq_false (by omega), decide_eq_false (by omega)]; rfl
    · rw [st_length]
      have : (2 ^ 63 - 1) / b ≥ 1000000 := by
        rw [ge_iff_le, Int.le_ediv_iff_mul_le (by omega)]
        have : 1000000 * b ≤ 1000000 * 1000000 := by omega
        omega
      have : a.length ≤ 1000000 := z2
      omega
    · rw [st_length]
      exact decide_eq_false (Nat.not_lt.mpr (lim_line z3))
  exact SB.mul ok fun t' k => ⟨.str (st (repL a b.toNat)), H, I.tok _, ⟨t', by rw [mul_st]⟩, q⟩
/-- a list, so many times -/
theorem VRs.rep {N : Nm} {I : Hp} {rs : List Addr} {ds : List D} {vs : List V} (h : VRs N I rs ds vs) : ∀ n : Nat, VRs N I rs (List.replicate n ds).flatten (List.replicate n vs).flatten
  | 0 => .nil
  | n + 1 => by
    rw [List.replicate_succ, List.replicate_succ, List.flatten_cons, List.flatten_cons]
    exact h.append (VRs.rep h n)
theorem fold_cat (its : List Value) : ∀ (m : Nat) (z : List Value), List.foldl (fun a b => a ++ b) z.toArray (List.replicate m its.toArray) = (z ++ (List.replicate m its).flatten).toArray
  | 0, z => by simp
  | m + 1, z => by
    rw [List.replicate_succ, List.foldl_cons, List.replicate_succ, List.flatten_cons, ← List.append_assoc]
    have e : z.toArray ++ its.toArray = (z ++ its).toArray := by simp
    rw [e]
    exact fold_cat its m (z ++ its)
theorem vals_rep {vs : List V} {us : List Value} (h : Vals vs us) : ∀ n : Nat, Vals (List.replicate n vs).flatten (List.replicate n us).flatten
  | 0 => .nil
  | n + 1 => by
    rw [List.replicate_succ, List.replicate_succ, List.flatten_cons, List.flatten_cons]
    exact h.append (vals_rep h n)
theorem len_rep {α : Type} (l : List α) : ∀ n : Nat, (List.replicate n l).flatten.length = l.length * n
  | 0 => rfl
  | n + 1 => by rw [List.replicate_succ, List.flatten_cons, List.length_append, len_rep l n, Nat.mul_succ, Nat.add_comm]
theorem op_repX : OpR X (binaryOp .Mult) (fun x y H Q => ∃ (l : Addr) (k : Int) (xs : List V), x = .ref l ∧ y = .int k ∧ SqX X.K H l xs ∧ (k ≤ 1000000 ∧ xs.length ≤ LIM ∧ xs.length * k.toNat ≤ LIM ∧ -1000000 ≤ k) ∧
    ∀ p, H p = none → Q (.ref p) (upd H p (.lst (List.replicate k.toNat xs).flatten))) := by
  intro pins s σ H x y v u Q I rx ry h
  obtain ⟨l, k, xs, rfl, rfl, hx, ⟨z1, z2, z3, z4⟩, q⟩ := h
  obtain rfl : v = Value.ref l := rx
  obtain ⟨t, rfl⟩ := ry
  obtain ⟨z, its, n, r, e⟩ := inv_x I hx
  have hl := r.length
  have sz : its.toArray.size * k.toNat ≤ 1000000 := by
    rw [List.size_toArray, ← hl]
    exact z3
  have c1 : ¬ (!Builtin.List.listFitsIndex k) = true := by
    rw [fitsIndex_both (by omega) (by omega)]
    decide
  have c2 : ¬ its.toArray.size * k.toNat > (2 ^ 63 - 1) / 8 := by
    have : (1000000 : Nat) ≤ (2 ^ 63 - 1) / 8 := by decide
    omega
  have c3 : ¬ Builtin.List.listTooLong (its.toArray.size * k.toNat) = true := by
    rw [notLongL (lim_line sz)]
    decide
  have fd : List.foldl (fun x1 x2 => x1 ++ x2) #[] (List.replicate (if its.toArray.isEmpty = true then 0 else k.toNat) its.toArray) = (List.replicate k.toNat its).flatten.toArray := by
    have f0 := fun m => fold_cat its m []
    simp only [List.nil_append] at f0
    rw [show (#[] : Array Value) = ([] : List Value).toArray from rfl, f0]
    cases its with
    | nil => simp
    | cons a b => rw [if_neg (by simp)]
  refine wpAny_binaryOp_repeat_ref (T := "list") (U := "int") (by decide) ⟨_, e, rfl⟩ (fun s' => typeIs_int s' k t) noFill_list_mul F.fills_int_mul F.slot_int_rmul repeat_list F.slot_int_index.lookup
    (call_meets F.slot_int_rmul (typeIs_int s k t) F.entry_int_rmul (F.args_int_rmul_2 _ _) (int___rmul___int_list k t l its.toArray n)
      ⟨e, rfl, ⟨_, e, rfl⟩, call_meets F.slot_list_mul ⟨_, e, rfl⟩ F.entry_list_mul (F.args_list_mul_2 _ _) (AutoListH.list___mul___list_int_3 l its.toArray n k t c1 c2 c3) ⟨e, ?_⟩⟩)
  rw [fd]
  exact ⟨.ref _, _, I.lnew (t' := s.toks) (vals_rep r k.toNat) (lim_line (by rw [len_rep]; exact z3)), rfl, q _ I.fresh⟩
theorem bin_ok (hK : X.K = N.K) {o : Bop} (h : binD g o x y = some z) (R : Rel N L I rs g H) (hu : VR N I rs x u) (hv : VR N I rs y v) (q : Gd N L I rs g H z Q) : RW X (binaryOp (bopA o)) u v H Q := by
  unfold binD at h
  split at h
  · rename_i a b h1 h2
    rw [top_int h1] at hu; rw [top_int h2] at hv; cases hu; cases hv; cases h
    exact rw_of op_add ⟨_, _, rfl, rfl, q.now R (.int _)⟩
  · rename_i a b h1 h2
    rw [top_int h1] at hu; rw [top_int h2] at hv; cases hu; cases hv; cases h
    exact rw_of op_sub ⟨_, _, rfl, rfl, q.now R (.int _)⟩
  · rename_i a b h1 h2
    rw [top_int h1] at hu; rw [top_int h2] at hv; cases hu; cases hv
    split at h <;> cases h
    rename_i hs
    exact rw_of op_mul ⟨_, _, rfl, rfl, .inl (sml_ok hs), q.now R (.int _)⟩
  · rename_i a b h1 h2
    rw [top_str h1] at hu; rw [top_int h2] at hv; cases hu; cases hv
    split at h <;> cases h
    rename_i hs
    have hs : b ≤ 1000000 ∧ a.length ≤ LIM ∧ a.length * b.toNat ≤ LIM ∧ -1000000 ≤ b := by simpa using hs
    exact rw_of op_mul_str ⟨_, _, rfl, rfl, hs, q.now R (.str _)⟩
  · rename_i a b h1 h2
    rw [top_int h1] at hu; rw [top_int h2] at hv; cases hu; cases hv
    split at h <;> cases h
    rename_i hs
    have hs : 0 < b ∧ b < 1073741824 := by simpa using hs
    exact rw_of op_fdiv ⟨_, _, rfl, rfl, hs, q.now R (.int _)⟩
  · rename_i a b h1 h2
    rw [top_int h1] at hu; rw [top_int h2] at hv; cases hu; cases hv
    split at h <;> cases h
    rename_i hs
    have hs : 0 < b := by simpa using hs
    exact rw_of op_mod ⟨_, _, rfl, rfl, hs, q.now R (.int _)⟩
  · rename_i a b h1 h2
    rw [top_int h1] at hu; rw [top_int h2] at hv; cases hu; cases hv
    split at h <;> cases h
    rename_i hs
    have hs : 0 ≤ b ∧ b ≤ 1000000 ∧ sml a = true := by simpa using hs
    have h3 := sml_ok hs.2.2
    exact rw_of op_pow ⟨_, _, rfl, rfl, ⟨hs.1, hs.2.1, by omega⟩, q.now R (.int _)⟩
  · rename_i a b h1 h2
    rw [top_str h1] at hu; rw [top_str h2] at hv; cases hu; cases hv
    split at h <;> cases h
    rename_i hs
    have hs : a.length + b.length ≤ LIM := by simpa using hs
    refine rw_of op_add_str ⟨_, _, rfl, rfl, by rw [st_length, st_length]; exact lim_line hs, ?_⟩
    rw [st_app]
    exact q.now R (.str _)
  · rename_i a b h1 h2
    obtain ⟨p, xs, rfl, hx, kx⟩ := R.tup hu h1
    obtain ⟨p2, ys, rfl, hy, ky⟩ := R.tup hv h2
    split at h <;> cases h
    rename_i hs
    have hs : a.length + b.length ≤ LIM := by simpa using hs
    have e1 := kx.length
    have e2 := ky.length
    refine rw_of op_catA ⟨_, _, xs, ys, rfl, rfl, by rw [hK]; exact hx, by rw [hK]; exact hy, lim_line (by omega), fun e => ?_, fun e e' => ?_, fun _ _ p hp => q.tup R (kx.append ky) hp⟩
    · subst e
      have : a = [] := List.length_eq_zero_iff.mp e1
      subst this
      have h3 := top_ne h2 (fun l => by simp)
      subst h3
      exact q.now R hv
    · subst e'
      have : b = [] := List.length_eq_zero_iff.mp e2
      subst this
      have h3 := top_ne h1 (fun l => by simp)
      subst h3
      rw [List.append_nil] at q
      exact q.now R hu
  · rename_i a b h1 h2
    obtain ⟨p, xs, rfl, hx, kx⟩ := R.lst hu h1
    obtain ⟨p2, ys, rfl, hy, ky⟩ := R.lst hv h2
    split at h <;> cases h
    rename_i hs
    have hs : a.length + b.length ≤ LIM := by simpa using hs
    have e1 := kx.length
    have e2 := ky.length
    exact rw_of op_catX ⟨_, _, xs, ys, rfl, rfl, by rw [hK]; exact hx, by rw [hK]; exact hy, lim_line (by omega), fun p hp => q.lst R (kx.append ky) hp⟩
  · rename_i a b h1 h2
    obtain ⟨p, xs, rfl, hx, kx⟩ := R.lst hu h1
    rw [top_int h2] at hv; cases hv
    split at h <;> cases h
    rename_i hs
    have hs : b ≤ 1000000 ∧ a.length ≤ LIM ∧ a.length * b.toNat ≤ LIM ∧ -1000000 ≤ b := by simpa using hs
    have e1 := kx.length
    rw [e1] at hs
    exact rw_of op_repX ⟨_, _, xs, rfl, rfl, by rw [hK]; exact hx, hs, fun p hp => q.lst R (kx.rep b.toNat) hp⟩
  · cases h
end
/-! ### == -/
theorem strOk_of {s : List Nat} (h : s.all (fun c => decide (c < 1114112)) = true) : PyData.strOk (st s) = true := by
  unfold PyData.strOk st
  rw [Array.all_eq_true]
  intro i hi
  have h2 := List.all_eq_true.mp h
  have h3 := h2 (s[i]'(by simpa using hi)) (List.getElem_mem _)
  simpa using h3
section
variable {N : Nm} {L I : Hp} {rs : List Addr} {g : G} {H : Hp} {X : Cx}
theorem plain_ok (hs : Same I H) : ∀ (n : Nat) (d : D) (v : V), plN n d = true → VR N I rs d v → Dp N.K H v (toP d) ∧ (toP d).canLay0 = true ∧ (toP d).depth ≤ n
  | 0, _, _, h, _ => by simp [plN] at h
  | n + 1, d, v, h, r => by
    have many : ∀ (l : List D) (vs : List V), l.all (plN n) = true → VRs N I rs l vs → DpAll N.K H vs (toPs l) ∧ PyData.canLayAll0 (toPs l) = true ∧ PyData.depthAll (toPs l) ≤ n := by
      intro l
      induction l with
      | nil =>
        intro vs _ k
        cases k
        exact ⟨.nil, rfl, Nat.zero_le _⟩
      | cons a l ih =>
        intro vs hl k
        cases k with
        | cons ka kl =>
          simp only [List.all_cons, Bool.and_eq_true] at hl
          obtain ⟨a1, a2, a3⟩ := plain_ok hs n a _ hl.1 ka
          obtain ⟨b1, b2, b3⟩ := ih _ hl.2 kl
          exact ⟨.cons a1 b1, by simp [toPs, PyData.canLayAll0, a2, b2], by simp only [toPs, PyData.depthAll]; omega⟩
    cases r with
    | non => exact ⟨.non, rfl, Nat.zero_le _⟩
    | bl b => exact ⟨.bl b, rfl, Nat.zero_le _⟩
    | int i => exact ⟨.int i, rfl, Nat.zero_le _⟩
    | str s => exact ⟨.str _, strOk_of (by simpa [plN] using h), Nat.zero_le _⟩
    | tup h1 k =>
      obtain ⟨a, b, c⟩ := many _ _ (by simpa [plN] using h) k
      exact ⟨.tup (same_t hs h1) a, by simpa [toP, PyData.canLay0] using b, by simp only [toP, PyData.depth]; omega⟩
    | lst h1 k =>
      obtain ⟨a, b, c⟩ := many _ _ (by simpa [plN] using h) k
      exact ⟨.lst (same_x hs h1).sq a, by simpa [toP, PyData.canLay0] using b, by simp only [toP, PyData.depth]; omega⟩
    | _ => simp [plN] at h
end
/-- what eqN says is what the model says -/
theorem eqN_ok : ∀ (n : Nat) (x y : D) (b : Bool), eqN n x y = some b → PyData.eqv (toP x) (toP y) = b ∧ plN n x = true ∧ plN n y = true
  | 0, _, _, _, h => by simp [eqN] at h
  | n + 1, x, y, b, h => by
    have many : ∀ (l k : List D) (b : Bool), eqL (eqN n) (plN n) l k = some b → PyData.eqvAll (toPs l) (toPs k) = b ∧ l.all (plN n) = true ∧ k.all (plN n) = true := by
      intro l
      induction l with
      | nil =>
        intro k b h
        cases k with
        | nil => simp [eqL] at h; subst h; exact ⟨rfl, rfl, rfl⟩
        | cons c k =>
          unfold eqL at h
          split at h
          · rename_i hc
            cases h
            simp only [Bool.and_eq_true] at hc
            exact ⟨rfl, rfl, hc.2⟩
          · cases h
      | cons a l ih =>
        intro k b h
        cases k with
        | nil =>
          unfold eqL at h
          split at h
          · rename_i hc
            cases h
            simp only [Bool.and_eq_true] at hc
            exact ⟨rfl, hc.1, rfl⟩
          · cases h
        | cons c k =>
          unfold eqL at h
          split at h
          · rename_i p q h1 h2
            cases h
            obtain ⟨a1, a2, a3⟩ := eqN_ok n a c _ h1
            obtain ⟨b1, b2, b3⟩ := ih k _ h2
            exact ⟨by simp only [toPs, PyData.eqvAll]; rw [a1, b1], by simp [a2, b2], by simp [a3, b3]⟩
          · cases h
    cases x <;> cases y <;> simp only [eqN] at h <;> first
      | (cases h; exact ⟨rfl, rfl, rfl⟩)
      | (split at h <;> cases h; rename_i hc; simp only [Bool.and_eq_true] at hc; exact ⟨by first | rfl | (simp only [toP, PyData.eqv, Bool.beq_eq_decide_eq, decide_eq_decide]; exact ⟨fun e => st_inj e, fun e => by rw [e]⟩), hc.1, hc.2⟩)
      | (obtain ⟨a, b, c⟩ := many _ _ _ h; exact ⟨by simpa [toP, PyData.eqv] using a, by simpa [plN] using b, by simpa [plN] using c⟩)
      | (simp [plN] at h)
      | cases h
end PC
end
section
set_option maxHeartbeats 4000000
namespace PC
open PySem L2 PyProof.Rows
section
variable {N : Nm} {L I : Hp} {rs : List Addr} {g : G} {H : Hp} {Q : VK} {x y z : D} {u v : V} {X : Cx}
theorem Gd.bl (R : Rel N L I rs g H) {b : Bool} (q : Gd N L I rs g H (.bl b) Q) : Q (.bl b) H := q.now R (.bl b)
/-- a list's cell and its value lie alike -/
theorem top_vr (R : Rel N L I rs g H) (h : VR N I rs x u) : (∃ l a vs, top g x = .lst l ∧ u = .ref a ∧ SqX N.K H a vs ∧ VRs N I rs l vs) ∨ top g x = x := by
  cases x with
  | ref i =>
    cases q : g[i]? with
    | none => exact .inr (by simp [top, q])
    | some c =>
      cases c with
      | lst l =>
        have e : top g (.ref i) = .lst l := by simp [top, q]
        obtain ⟨a, vs, h1, h2, h3⟩ := R.lst h e
        exact .inl ⟨_, a, vs, e, h1, h2, h3⟩
      | lck l =>
        have e : top g (.ref i) = .lst l := by simp [top, q]
        obtain ⟨a, vs, h1, h2, h3⟩ := R.lst h e
        exact .inl ⟨_, a, vs, e, h1, h2, h3⟩
      | _ => exact .inr (by simp [top, q])
  | _ => exact .inr rfl
theorem dp_top (R : Rel N L I rs g H) (h : VR N I rs x u) (p : plN 50 (top g x) = true) : Dp N.K H u (toP (top g x)) ∧ SeqAt.shaped (toP (top g x)) = true := by
  have sh : ∀ {d : PyData}, d.canLay0 = true → d.depth ≤ 50 → SeqAt.shaped d = true := fun {d} a b => by
    unfold SeqAt.shaped
    rw [a, decide_eq_true (Nat.le_trans b (by decide))]
    rfl
  rcases top_vr R h with ⟨l, a, vs, e, rfl, h2, h3⟩ | e
  · rw [e] at p ⊢
    have hl : l.all (plN 49) = true := by simpa [plN] using p
    have many : ∀ (l : List D) (vs : List V), l.all (plN 49) = true → VRs N I rs l vs → DpAll N.K H vs (toPs l) ∧ PyData.canLayAll0 (toPs l) = true ∧ PyData.depthAll (toPs l) ≤ 49 := by
      intro l
      induction l with
      | nil =>
        intro vs _ k
        cases k
        exact ⟨.nil, rfl, Nat.zero_le _⟩
      | cons a l ih =>
        intro vs hl k
        cases k with
        | cons ka kl =>
          simp only [List.all_cons, Bool.and_eq_true] at hl
          obtain ⟨a1, a2, a3⟩ := plain_ok R.sub 49 a _ hl.1 ka
          obtain ⟨b1, b2, b3⟩ := ih _ hl.2 kl
          exact ⟨.cons a1 b1, by simp [toPs, PyData.canLayAll0, a2, b2], by simp only [toPs, PyData.depthAll]; omega⟩
    obtain ⟨a1, a2, a3⟩ := many l vs hl h3
    exact ⟨.lst h2.sq a1, sh (by simpa [toP, PyData.canLay0] using a2) (by simp only [toP, PyData.depth]; omega)⟩
  · rw [e] at p ⊢
    obtain ⟨a, b, c⟩ := plain_ok R.sub 50 x u p h
    exact ⟨a, sh b c⟩
theorem st_eq {a b : List Nat} : decide (V.str (st a) = V.str (st b)) = decide (a = b) := by
  rw [decide_eq_decide]
  exact ⟨fun e => st_inj (by injection e), fun e => by rw [e]⟩
theorem scl_ok {b : Bool} (h : sclE x y = some b) (hu : VR N I rs x u) (hv : VR N I rs y v) : scal u v = true ∧ decide (u = v) = b := by
  cases x <;> cases y <;> simp only [sclE] at h <;> cases h <;> cases hu <;> cases hv <;> first
    | exact ⟨rfl, rfl⟩
    | exact ⟨rfl, st_eq⟩
    | exact ⟨rfl, by rw [decide_eq_decide]; exact ⟨fun e => by injection e, fun e => by rw [e]⟩⟩
    | exact ⟨rfl, decide_eq_false (fun e => by cases e)⟩
theorem eq_ok (hK : X.K = N.K) (hU : X.A.units + 64 < cLine) {b : Bool} (h : eqG g x y = some b) (R : Rel N L I rs g H) (hu : VR N I rs x u) (hv : VR N I rs y v) :
    (Q (.bl b) H → RW X (compareOp .Eq) u v H Q) ∧ (Q (.bl (!b)) H → RW X (compareOp .NotEq) u v H Q) := by
  unfold eqG at h
  split at h
  · rename_i c hc
    cases h
    obtain ⟨h1, h2⟩ := scl_ok hc hu hv
    exact ⟨fun q => rw_of op_eq ⟨h1, by rw [h2]; exact q⟩, fun q => rw_of op_ne ⟨h1, by rw [h2]; exact q⟩⟩
  · obtain ⟨h1, h2, h3⟩ := eqN_ok _ _ _ _ h
    obtain ⟨d1, s1⟩ := dp_top R hu h2
    obtain ⟨d2, s2⟩ := dp_top R hv h3
    rw [← hK] at d1 d2
    exact ⟨fun q => rw_of (op_eqD hU) ⟨_, _, d1, d2, s1, s2, by rw [h1]; exact q⟩, fun q => rw_of (op_neD hU) ⟨_, _, d1, d2, s1, s2, by rw [h1]; exact q⟩⟩
theorem fl_v {d : D} {w : V} (h : fl d = true) (r : VR N I rs d w) : flatV w = true := by
  cases d <;> simp only [fl] at h <;> first | exact Bool.noConfusion h | (cases r; rfl)
theorem fl_all : ∀ {l : List D} {vs : List V}, l.all fl = true → VRs N I rs l vs → vs.all flatV = true
  | [], _, _, k => by cases k; rfl
  | a :: l, _, h, k => by
    cases k with
    | cons ka kl =>
      simp only [List.all_cons, Bool.and_eq_true] at h
      simp [fl_v h.1 ka, fl_all h.2 kl]
theorem fl_eq {d e : D} {a b : V} (h1 : fl d = true) (h2 : fl e = true) (ra : VR N I rs d a) (rb : VR N I rs e b) : eqV a b = flEq d e := by
  cases d <;> simp only [fl] at h1 <;> cases e <;> simp only [fl] at h2 <;> first
    | exact Bool.noConfusion h1
    | exact Bool.noConfusion h2
    | (cases ra; cases rb; simp only [eqV, flEq, Bool.beq_eq_decide_eq] <;> first
        | rfl
        | (rw [decide_eq_decide]; exact ⟨fun e => st_inj e, fun e => by rw [e]⟩))
theorem fl_any {d : D} {a : V} (hd : fl d = true) (ra : VR N I rs d a) : ∀ {l : List D} {vs : List V}, l.all fl = true → VRs N I rs l vs → inV a vs = l.any fun z => flEq z d
  | [], _, _, k => by cases k; rfl
  | b :: l, _, h, k => by
    cases k with
    | cons kb kl =>
      simp only [List.all_cons, Bool.and_eq_true] at h
      have e1 := fl_eq h.1 hd kb ra
      have e2 := fl_any hd ra h.2 kl
      unfold inV at e2 ⊢
      rw [List.any_cons, List.any_cons, e1, e2]
theorem in_ok {b : Bool} (hK : X.K = N.K) (h : inD g x y = some b) (R : Rel N L I rs g H) (hu : VR N I rs x u) (hv : VR N I rs y v)
    (hd : ∀ ks ds k, dctD g y = some (ks, ds) → keyD x = some k → kOk k ks = true → b = decide (k ∈ ks) → (Q (.bl b) H → RW X (compareOp .In) u v H Q) ∧ (Q (.bl (!b)) H → RW X (compareOp .NotIn) u v H Q)) :
    (Q (.bl b) H → RW X (compareOp .In) u v H Q) ∧ (Q (.bl (!b)) H → RW X (compareOp .NotIn) u v H Q) := by
  unfold inD at h
  split at h
  · rename_i s e
    rw [top_str e] at hv
    cases hv
    split at h <;> cases h
    cases hu
    rename_i r
    unfold inStr
    split
    · rename_i c
      exact ⟨fun q => rw_of op_in_sign ⟨c, st s, rfl, rfl, by rw [st_list]; exact q⟩, fun q => rw_of op_notIn_sign ⟨c, st s, rfl, rfl, by rw [st_list]; exact q⟩⟩
    · exact ⟨fun q => rw_of op_in_str ⟨_, _, rfl, rfl, q⟩, fun q => rw_of op_notin_str ⟨_, _, rfl, rfl, q⟩⟩
  · rename_i l e
    split at h <;> cases h
    rename_i hf
    simp only [Bool.and_eq_true] at hf
    obtain ⟨a, vs, rfl, h2, h3⟩ := R.tup hv e
    rw [← hK] at h2
    have e2 := fl_any hf.1 hu hf.2 h3
    exact ⟨fun q => rw_of op_in_seq ⟨a, vs, rfl, .inr h2, fl_v hf.1 hu, fl_all hf.2 h3, by rw [e2]; exact q⟩, fun q => rw_of op_notIn_seq ⟨a, vs, rfl, .inr h2, fl_v hf.1 hu, fl_all hf.2 h3, by rw [e2]; exact q⟩⟩
  · rename_i l e
    split at h <;> cases h
    rename_i hf
    simp only [Bool.and_eq_true] at hf
    obtain ⟨a, vs, rfl, h2, h3⟩ := R.lst hv e
    rw [← hK] at h2
    have e2 := fl_any hf.1 hu hf.2 h3
    exact ⟨fun q => rw_of op_in_seq ⟨a, vs, rfl, .inl h2.sq, fl_v hf.1 hu, fl_all hf.2 h3, by rw [e2]; exact q⟩, fun q => rw_of op_notIn_seq ⟨a, vs, rfl, .inl h2.sq, fl_v hf.1 hu, fl_all hf.2 h3, by rw [e2]; exact q⟩⟩
  · rename_i e1 e2 e3
    have ey : top g y = y := by
      rcases top_vr R hv with ⟨l, a, vs, e, _⟩ | e
      · exact absurd e (e3 l)
      · exact e
    rw [ey] at h
    split at h
    · rename_i ks ds k h1 h2
      split at h <;> cases h
      rename_i hk
      exact hd ks ds k h1 h2 hk rfl
    · cases h
end
/-! ### dicts -/
theorem look_v {N : Nm} {I : Hp} {rs : List Addr} : ∀ {ks : List DK} {ds : List D} {kvs : List (Key × V)}, kvs.map (·.1) = ks.map key → VRs N I rs ds (kvs.map (·.2)) → ∀ k : DK,
    (∀ d, lookD ks ds k = some d → ∃ v, valV kvs (key k) = some v ∧ VR N I rs d v) ∧ (k ∉ ks → valV kvs (key k) = none) ∧ (k ∈ ks → (valV kvs (key k)).isSome = true)
  | [], ds, kvs, h, r, k => by
    have : kvs = [] := by simpa using h
    subst this
    refine ⟨fun d e => by simp [lookD] at e, fun _ => rfl, fun e => by simp at e⟩
  | a :: ks, ds, kvs, h, r, k => by
    cases kvs with
    | nil => simp at h
    | cons p kvs =>
      simp only [List.map_cons, List.cons.injEq] at h
      obtain ⟨h1, h2⟩ := h
      cases ds with
      | nil => cases r
      | cons d ds =>
        cases r with
        | cons rd rr =>
          obtain ⟨a1, a2, a3⟩ := look_v h2 rr k
          by_cases e : a = k
          · subst e
            have ev : valV (p :: kvs) (key a) = some p.2 := valV_pos h1
            refine ⟨fun y hy => ?_, fun hn => absurd List.mem_cons_self hn, fun _ => by rw [ev]; rfl⟩
            simp [lookD] at hy
            subst hy
            exact ⟨p.2, ev, rd⟩
          · have ne : p.1 ≠ key k := by rw [h1]; exact fun z => e (key_inj z)
            have ev : valV (p :: kvs) (key k) = valV kvs (key k) := by simp [valV, List.find?_cons, ne]
            refine ⟨fun y hy => ?_, fun hn => ?_, fun hm => ?_⟩
            · rw [ev]; exact a1 y (by simpa [lookD, e] using hy)
            · rw [ev]; exact a2 fun z => hn (List.mem_cons_of_mem _ z)
            · rw [ev]
              rcases List.mem_cons.mp hm with z | z
              · exact absurd z.symm e
              · exact a3 z
theorem putK_cons {p : Key × V} {r : List (Key × V)} {k : Key} {v : V} (nd : p.1 ∉ r.map (·.1)) : putK (p :: r) k v = if p.1 = k then (p.1, v) :: r else p :: putK r k v := by
  by_cases e : p.1 = k
  · rw [if_pos e]
    have hr : r.map (fun kv => if kv.1 = k then (kv.1, v) else kv) = r := by
      have h : ∀ q ∈ r, (if q.1 = k then (q.1, v) else q) = q := fun q hq => if_neg fun z => nd (by rw [e, ← z]; exact List.mem_map_of_mem hq)
      rw [List.map_congr_left h, List.map_id']
    unfold putK
    rw [if_pos (by simp [e])]
    rw [List.map_cons, if_pos e, hr]
  · rw [if_neg e]
    unfold putK
    have ea : ((p :: r).any fun kv => decide (kv.1 = k)) = r.any fun kv => decide (kv.1 = k) := by simp [e]
    rw [ea]
    split
    · rw [List.map_cons, if_neg e]
    · rfl
theorem put_v {N : Nm} {I : Hp} {rs : List Addr} {y : D} {v : V} (hy : VR N I rs y v) (k : DK) : ∀ {ks : List DK} {ds : List D} {kvs : List (Key × V)}, kvs.map (·.1) = ks.map key → ks.Nodup → VRs N I rs ds (kvs.map (·.2)) →
    (putK kvs (key k) v).map (·.1) = (putDk ks k).map key ∧ (putDk ks k).Nodup ∧ VRs N I rs (putDv ks ds k y) ((putK kvs (key k) v).map (·.2)) ∧ (∀ z, z ∈ putDk ks k → z ∈ ks ∨ z = k) ∧ (putDk ks k).length ≤ ks.length + 1
  | [], ds, kvs, h, nd, r => by
    have : kvs = [] := by simpa using h
    subst this
    cases r
    exact ⟨rfl, by simp [putDk], .cons hy .nil, fun z hz => by simp [putDk] at hz; exact .inr hz, by simp [putDk]⟩
  | a :: ks, ds, kvs, h, nd, r => by
    cases kvs with
    | nil => simp at h
    | cons p kvs =>
      simp only [List.map_cons, List.cons.injEq] at h
      obtain ⟨h1, h2⟩ := h
      rw [List.nodup_cons] at nd
      have np : p.1 ∉ kvs.map (·.1) := by
        rw [h1, h2]
        intro z
        obtain ⟨b, hb, e⟩ := List.mem_map.mp z
        exact nd.1 (key_inj e ▸ hb)
      cases ds with
      | nil => cases r
      | cons d ds =>
        cases r with
        | cons rd rr =>
          rw [putK_cons np]
          by_cases e : a = k
          · subst e
            rw [if_pos h1]
            refine ⟨by simp [putDk, h1, h2], by simp only [putDk, if_true]; exact List.nodup_cons.mpr nd, by simp only [putDv, if_true]; exact .cons hy rr, fun z hz => .inl (by simpa [putDk] using hz), by simp [putDk]⟩
          · have ne : p.1 ≠ key k := by rw [h1]; exact fun z => e (key_inj z)
            rw [if_neg ne]
            obtain ⟨b1, b2, b3, b4, b5⟩ := put_v hy k h2 nd.2 rr
            refine ⟨by simp [putDk, e, h1, b1], ?_, by simp only [putDv, if_neg e]; exact .cons rd b3, fun z hz => ?_, by simp [putDk, e]; exact b5⟩
            · simp only [putDk, if_neg e]
              refine List.nodup_cons.mpr ⟨fun z => ?_, b2⟩
              rcases b4 a z with q | q
              · exact nd.1 q
              · exact e q
            · simp only [putDk, if_neg e] at hz
              rcases List.mem_cons.mp hz with q | q
              · exact .inl (by rw [q]; exact List.mem_cons_self)
              · rcases b4 z q with q | q
                · exact .inl (List.mem_cons_of_mem _ q)
                · exact .inr q
end PC
end
section
set_option maxHeartbeats 4000000
namespace PC
open PySem L2 PyProof.Rows
section
variable {N : Nm} {L I : Hp} {rs : List Addr} {g : G} {H : Hp} {Q : VK} {x y z : D} {u v : V} {X : Cx}
/-- a dict is read: it is tracked, or one of the module -/
theorem dct_cases (R : Rel N L I rs g H) {ks : List DK} {ds : List D} (h : dctD g y = some (ks, ds)) (hv : VR N I rs y v) :
    (∃ a kvs, v = .ref a ∧ H a = some (.dK kvs) ∧ kvs.map (·.1) = ks.map key ∧ ks.Nodup ∧ VRs N I rs ds (kvs.map (·.2))) ∨
    ∃ a es n vs kk, v = .ref a ∧ KDict N.K N.w a es n ∧ ks = kk.map .s ∧ kk ≠ [] ∧ kk.length = vs.length ∧ (∀ x, KdAt N a kk vs x) ∧ VRs N I rs ds vs := by
  cases hv with
  | dct h1 h2 h3 k => cases h; exact .inl ⟨_, _, rfl, R.sub _ _ h1, h2, h3, k⟩
  | kdc h1 h0 h2 h3 k => cases h; exact .inr ⟨_, _, _, _, _, rfl, h1, rfl, h0, h2, h3, k⟩
  | @ref i a h1 =>
    cases q : g[i]? with
    | none => simp [dctD, q] at h
    | some c =>
      cases c with
      | dct ks' ds' =>
        simp only [dctD, q] at h
        cases h
        obtain ⟨_, _, kvs, h2, h3, h4, h5, _⟩ := R.cell _ _ _ h1 q
        exact .inl ⟨_, _, rfl, h2, h3, h4, h5⟩
      | _ => simp [dctD, q] at h
  | _ => simp [dctD] at h
theorem key_v {k : DK} (h : keyD x = some k) (hu : VR N I rs x u) : u = kV (key k) := by
  cases x <;> simp only [keyD] at h <;> cases h <;> cases hu <;> rfl
theorem s_mem {a : List Nat} : ∀ {kk : List (List Nat)}, DK.s a ∈ kk.map DK.s ↔ a ∈ kk
  | [] => by simp
  | b :: kk => by simp
theorem din_ok (hK : X.K = N.K) (hw : X.w = N.w) (hU : X.A.units + 64 < cLine) (R : Rel N L I rs g H) (hu : VR N I rs x u) (hv : VR N I rs y v) {ks : List DK} {ds : List D} {k : DK} {b : Bool} (h1 : dctD g y = some (ks, ds)) (h2 : keyD x = some k) (hk : kOk k ks = true) (hb : b = decide (k ∈ ks)) :
    (Q (.bl b) H → RW X (compareOp .In) u v H Q) ∧ (Q (.bl (!b)) H → RW X (compareOp .NotIn) u v H Q) := by
  have ek := key_v h2 hu
  rcases dct_cases R h1 hv with ⟨a, kvs, rfl, e, ea, nd, r⟩ | ⟨a, es, n, vs, kk, rfl, kd, rfl, ne, el, kat, r⟩
  · obtain ⟨a1, a2, a3⟩ := look_v ea r k
    have eb : (valV kvs (key k)).isSome = b := by
      rw [hb]
      by_cases hm : k ∈ ks
      · rw [a3 hm, decide_eq_true hm]
      · rw [a2 hm, decide_eq_false hm]; rfl
    have hU1 : X.A.units + 1 < cLine := by omega
    refine ⟨fun q pins s σ vv uu J rx ry => ?_, fun q pins s σ vv uu J rx ry => ?_⟩
    · obtain rfl : uu = Value.ref a := ry
      rw [ek] at rx
      exact d_in hU1 J (DGet.k (k := key k) e) rx fun s' J' => ⟨.bl _, H, J', rfl, by rw [eb]; exact q⟩
    · obtain rfl : uu = Value.ref a := ry
      rw [ek] at rx
      exact d_notIn hU1 J (DGet.k (k := key k) e) rx fun s' J' => ⟨.bl _, H, J', rfl, by rw [eb]; exact q⟩
  · cases k with
    | i j =>
      cases kk with
      | nil => exact absurd rfl ne
      | cons c kk => simp [kOk] at hk
    | s t =>
      have eu : u = .str (st t) := ek
      subst eu
      have h3 := kat t
      unfold KdAt at h3
      rw [← hK, ← hw] at kd
      rw [← hK] at h3
      have hm : b = decide (t ∈ kk) := by rw [hb]; simp only [decide_eq_decide]; exact s_mem
      split at h3
      · rename_i j hj
        obtain ⟨w, uw, e1, e2, e3⟩ := h3
        have hin : t ∈ kk := by
          have := List.findIdx?_eq_some_iff_getElem.mp hj
          obtain ⟨hl, p, _⟩ := this
          rw [← eq_of_beq p]
          exact List.getElem_mem _
        rw [decide_eq_true hin] at hm
        subst hm
        exact ⟨fun q => rw_of (op_in_kd kd) ⟨st t, some uw, rfl, rfl, e2, q⟩, fun q => rw_of (op_notIn_kd kd) ⟨st t, some uw, rfl, rfl, e2, q⟩⟩
      · rename_i hj
        have hin : t ∉ kk := fun hm => by
          have := List.findIdx?_eq_none_iff.mp hj t hm
          simp at this
        rw [decide_eq_false hin] at hm
        subst hm
        exact ⟨fun q => rw_of (op_in_kd kd) ⟨st t, none, rfl, rfl, h3, q⟩, fun q => rw_of (op_notIn_kd kd) ⟨st t, none, rfl, rfl, h3, q⟩⟩
theorem em_ok (hK : X.K = N.K) (hU : X.A.units + 64 < cLine) {b : Bool} (h : emE g x y = some b) (R : Rel N L I rs g H) (hu : VR N I rs x u) (hv : VR N I rs y v) :
    (Q (.bl b) H → RW X (compareOp .Eq) u v H Q) ∧ (Q (.bl (!b)) H → RW X (compareOp .NotEq) u v H Q) := by
  unfold emE at h
  split at h
  · rename_i l e1 e2
    cases h
    cases l with
    | nil =>
      have hs : sclE x y = none := by
        cases x <;> first | rfl | (cases y <;> rfl) | cases e1
      have e : eqG g x y = some true := by
        unfold eqG
        rw [hs, e1, e2]
        rfl
      exact eq_ok hK hU e R hu hv
    | cons d l =>
      obtain ⟨a, vs, rfl, h2, h3⟩ := R.lst hu e1
      obtain ⟨a', vs', rfl, h2', h3'⟩ := R.lst hv e2
      cases h3'
      rw [← hK] at h2 h2'
      have key : ∀ {pins : List (Addr × Obj)} {s : Shared} {σ : L2.St}, Inv X pins σ H s → ∃ i1 i2 : Array Value, s.heap.IsList a i1 ∧ s.heap.IsList a' i2 ∧ (i1.size != i2.size) = true := fun {pins s σ} J => by
        obtain ⟨_, its, n, rv, e⟩ := inv_x J h2
        obtain ⟨_, its', n', rv', e'⟩ := inv_x J h2'
        have l1 := rv.length
        have l2 := rv'.length
        have l3 := h3.length
        refine ⟨_, _, ⟨_, e, rfl, _, rfl⟩, ⟨_, e', rfl, _, rfl⟩, ?_⟩
        simp only [List.size_toArray, List.length_cons, List.length_nil] at l1 l2 l3 ⊢
        simp only [bne_iff_ne, ne_eq]
        omega
      refine ⟨fun q pins s σ w1 w2 J r1 r2 => ?_, fun q pins s σ w1 w2 J r1 r2 => ?_⟩
      · obtain ⟨i1, i2, a1, a2, a3⟩ := key J
        cases r1; cases r2
        exact SeqAt.RcAt.lists_lengths a1 a2 a3 (by omega) _ _ _ _ ⟨.bl false, H, J, rfl, q⟩
      · obtain ⟨i1, i2, a1, a2, a3⟩ := key J
        cases r1; cases r2
        exact SeqAt.RcNeAt.lists_lengths a1 a2 a3 (by omega) _ _ _ _ ⟨.bl true, H, J, rfl, q⟩
  · cases h
theorem cmp_ok (hK : X.K = N.K) (hw : X.w = N.w) (hU : X.A.units + 64 < cLine) {o : Cop} {b : Bool} (h : cmpD g o x y = some b) (R : Rel N L I rs g H) (hu : VR N I rs x u) (hv : VR N I rs y v) (q : Q (.bl b) H) : RW X (compareOp (copA o)) u v H Q := by
  cases o with
  | eq => exact (eq_ok hK hU (by simpa [cmpD] using h) R hu hv).1 q
  | ne =>
    simp only [cmpD, Option.map_eq_some_iff] at h
    obtain ⟨c, h1, h2⟩ := h
    subst h2
    exact (eq_ok hK hU h1 R hu hv).2 q
  | in_ => exact (in_ok hK (by simpa [cmpD] using h) R hu hv fun ks ds k h1 h2 h4 h3 => din_ok hK hw hU R hu hv h1 h2 h4 h3).1 q
  | notin =>
    simp only [cmpD, Option.map_eq_some_iff] at h
    obtain ⟨c, h1, h2⟩ := h
    subst h2
    exact (in_ok hK h1 R hu hv fun ks ds k h1 h2 h4 h3 => din_ok hK hw hU R hu hv h1 h2 h4 h3).2 q
  | eqE => exact (em_ok hK hU (by simpa [cmpD] using h) R hu hv).1 q
  | neE =>
    simp only [cmpD, Option.map_eq_some_iff] at h
    obtain ⟨c, h1, h2⟩ := h
    subst h2
    exact (em_ok hK hU h1 R hu hv).2 q
  | lt =>
    cases x <;> cases y <;> simp only [cmpD] at h <;> cases h <;> cases hu <;> cases hv
    · exact rw_of op_lt ⟨_, _, rfl, rfl, q⟩
    · exact rw_of op_lt_str ⟨_, _, rfl, rfl, by rw [st_list, st_list]; exact q⟩
  | le =>
    cases x <;> cases y <;> simp only [cmpD] at h <;> cases h <;> cases hu <;> cases hv
    · exact rw_of op_le ⟨_, _, rfl, rfl, q⟩
    · exact rw_of op_le_str ⟨_, _, rfl, rfl, by rw [st_list, st_list]; exact q⟩
  | gt =>
    cases x <;> cases y <;> simp only [cmpD] at h <;> cases h <;> cases hu <;> cases hv
    · exact rw_of op_gt ⟨_, _, rfl, rfl, q⟩
    · exact rw_of op_gt_str ⟨_, _, rfl, rfl, by rw [st_list, st_list]; exact q⟩
  | ge =>
    cases x <;> cases y <;> simp only [cmpD] at h <;> cases h <;> cases hu <;> cases hv
    · exact rw_of op_ge ⟨_, _, rfl, rfl, q⟩
    · exact rw_of op_ge_str ⟨_, _, rfl, rfl, by rw [st_list, st_list]; exact q⟩
  | is_ =>
    have hn : ∀ w, VR N I rs x w → decide (w = .non) = isNon x := fun w r => by cases r <;> simp [isNon]
    cases y <;> simp only [cmpD] at h
    · cases h
      cases hv
      exact rw_of op_isN ⟨rfl, by rw [hn _ hu]; exact q⟩
    · cases x <;> simp only [cmpD] at h <;> cases h
      cases hu; cases hv
      exact rw_of op_is_bl ⟨_, _, rfl, rfl, q⟩
    all_goals (first | cases h | (cases x <;> first | cases h | (simp only [cmpD] at h <;> cases h)))
  | isnot =>
    have hn : ∀ w, VR N I rs x w → decide (w = .non) = isNon x := fun w r => by cases r <;> simp [isNon]
    cases y <;> simp only [cmpD] at h
    · cases h
      cases hv
      exact rw_of op_notN ⟨rfl, by rw [hn _ hu]; exact q⟩
    · cases x <;> simp only [cmpD] at h <;> cases h
      cases hu; cases hv
      exact rw_of op_isnot_bl ⟨_, _, rfl, rfl, q⟩
    all_goals (first | cases h | (cases x <;> first | cases h | (simp only [cmpD] at h <;> cases h)))
end
end PC
end
section
set_option maxHeartbeats 4000000
namespace PC
open PySem L2 PyProof.Rows
section
variable {N : Nm} {L I : Hp} {rs : List Addr} {g : G} {H : Hp} {Q : VK} {x y z : D} {u v : V} {X : Cx}
theorem isE {α β : Type} {l : List α} {k : List β} (h : l.length = k.length) : l.isEmpty = k.isEmpty := by
  cases l <;> cases k <;> simp at h ⊢
theorem tru_ok (hK : X.K = N.K) {b : Bool} (h : tru g x = some b) (R : Rel N L I rs g H) (hu : VR N I rs x u) : TruV X.K u H b := by
  unfold tru at h
  split at h
  · rename_i e
    have := top_ne e (fun l => by simp); subst this
    cases hu; cases h; rfl
  · rename_i e
    have := top_ne e (fun l => by simp); subst this
    cases hu; cases h; rfl
  · rename_i e
    rw [top_int e] at hu
    cases hu; cases h; rfl
  · rename_i s e
    rw [top_str e] at hu
    cases hu
    split at h <;> cases h
    rename_i hl
    have hl : s.length ≤ LIM := by simpa using hl
    refine ⟨by rw [st_length]; exact lim_line hl, ?_⟩
    rw [st_length]
    cases s with
    | nil => rfl
    | cons c t => simp; omega
  · rename_i l e
    cases h
    obtain ⟨a, vs, rfl, h2, h3⟩ := R.tup hu e
    exact .inr (.inl ⟨vs, by rw [hK]; exact h2, by rw [isE h3.length]⟩)
  · rename_i l e
    cases h
    obtain ⟨a, vs, rfl, h2, h3⟩ := R.lst hu e
    exact .inl ⟨vs, by rw [hK]; exact h2.sq, by rw [isE h3.length]⟩
  · cases h
theorem ix_dct (hU : X.A.units + 1 < cLine) : IxR X (fun x y H Q => ∃ a v, x = .ref a ∧ DGet H a y (some v) ∧ Q v H) := by
  intro value slice pins s σ H x y v u Q J rx ry ⟨a, w, e, d, q⟩ hs
  subst e
  obtain rfl : v = Value.ref a := rx
  exact tail_any (dict_typeIs J d) PySem.F.slot_dict_getitem.lookup (d_getItem hU J d ry fun w' s' J' r' => ⟨w, H, J', r', q⟩) hs
theorem at_v {l : List D} {vs : List V} (k : VRs N I rs l vs) {i : Int} {d : D} (h : ((ixN l.length i).bind fun j => l[j]?) = some d) : ∃ w, atI vs i = some w ∧ VR N I rs d w := by
  rw [k.length] at h
  cases e : ixN vs.length i with
  | none => rw [e] at h; cases h
  | some j =>
    rw [e] at h
    obtain ⟨w, h1, h2⟩ := k.get h
    exact ⟨w, by unfold atI; rw [e]; exact h1, h2⟩
theorem sub_ok (hK : X.K = N.K) (hw : X.w = N.w) (hU : X.A.units + 64 < cLine) (h : subD g x y = some z) (R : Rel N L I rs g H) (hu : VR N I rs x u) (hv : VR N I rs y v) (q : Gd N L I rs g H z Q) : RIx X u v H Q := by
  unfold subD at h
  split at h
  · rename_i l k e
    cases hv
    obtain ⟨a, vs, rfl, h2, h3⟩ := R.tup hu e
    obtain ⟨w, h4, h5⟩ := at_v h3 h
    exact rix_of ix_tup ⟨a, vs, _, w, rfl, rfl, by rw [hK]; exact h2, h4, q.now R h5⟩
  · rename_i l k e
    cases hv
    obtain ⟨a, vs, rfl, h2, h3⟩ := R.lst hu e
    obtain ⟨w, h4, h5⟩ := at_v h3 h
    exact rix_of ix_list ⟨a, vs, _, w, rfl, rfl, by rw [hK]; exact h2.sq, h4, q.now R h5⟩
  · rename_i s k e
    rw [top_str e] at hu
    cases hu; cases hv
    split at h
    · rename_i hl
      have hl : s.length ≤ LIM := by simpa using hl
      cases ei : ixN s.length k with
      | none => rw [ei] at h; cases h
      | some j =>
        rw [ei] at h
        simp only [Option.bind_some, Option.map_eq_some_iff] at h
        obtain ⟨c, h1, h2⟩ := h
        subst h2
        exact rix_of ix_str ⟨_, _, c, rfl, rfl, by rw [st_length]; exact lim_line hl, by rw [st_list]; unfold atI; rw [ei]; exact h1, q.now R (.str [c])⟩
    · cases h
  · rename_i o' i' e1 e2 e3
    split at h
    · rename_i ks ds k h1 h2
      split at h
      · rename_i hk
        have ek := key_v h2 hv
        subst ek
        have e0 : top g x = x := by
          rcases top_vr R hu with ⟨l, a, vs, e, _⟩ | e
          · rw [e] at h1; simp [dctD] at h1
          · exact e
        rw [e0] at h1
        rcases dct_cases R h1 hu with ⟨a, kvs, rfl, e, ea, nd, r⟩ | ⟨a, es, n, vs, kk, rfl, kd, rfl, ne, el, kat, r⟩
        · obtain ⟨a1, a2, a3⟩ := look_v ea r k
          obtain ⟨w, b1, b2⟩ := a1 z h
          have dg := DGet.k (k := key k) e
          rw [b1] at dg
          exact rix_of (ix_dct (by omega)) ⟨a, w, rfl, dg, q.now R b2⟩
        · cases k with
          | i j =>
            cases kk with
            | nil => exact absurd rfl ne
            | cons c kk => simp [kOk] at hk
          | s t =>
            have h3 := kat t
            unfold KdAt at h3
            have lk : ∀ (kk : List (List Nat)) (ds : List D) (d : D), lookD (kk.map .s) ds (.s t) = some d → ∃ j, kk.findIdx? (· == t) = some j ∧ ds[j]? = some d := by
              intro kk
              induction kk with
              | nil => intro ds d h; simp [lookD] at h
              | cons c kk ih =>
                intro ds d h
                cases ds with
                | nil => simp [lookD] at h
                | cons d' ds =>
                  simp only [List.map_cons, lookD] at h
                  by_cases ec : c = t
                  · subst ec
                    simp at h
                    subst h
                    exact ⟨0, by simp [List.findIdx?_cons], rfl⟩
                  · rw [if_neg (by intro z; injection z with z; exact ec z)] at h
                    obtain ⟨j, j1, j2⟩ := ih ds d h
                    exact ⟨j + 1, by simp [List.findIdx?_cons, ec, j1], by simpa using j2⟩
            obtain ⟨j, j1, j2⟩ := lk kk ds z h
            rw [j1] at h3
            obtain ⟨w, uw, e1, e2, e3⟩ := h3
            obtain ⟨w', f1, f2⟩ := r.get j2
            rw [e1] at f1
            cases f1
            rw [← hK] at e2 kd
            rw [← hw] at kd
            exact rix_of ix_kdict ⟨a, st t, w, rfl, rfl, ⟨es, n, uw, kd.at_, kd.lit, e2, e3⟩, q.now R f2⟩
      · cases h
    · cases h
end
end PC
end
section
set_option maxHeartbeats 4000000
namespace PC
open PySem L2 PyProof.Rows
/-- what a context must be -/
structure XF (N : Nm) (X : Cx) : Prop where
  hK : X.K = N.K
  hw : X.w = N.w
  hV : X.A.units + 80 < cLine
  hc : X.calm = true
  hg : X.A.guards = some []
theorem XF.hU {N : Nm} {X : Cx} (F : XF N X) : X.A.units + 64 < cLine := by have := F.hV; omega
def RSl (X : Cx) : V → Option Int → Option Int → Hp → VK → Prop := fun x lo hi H Q => ∀ (pins : List (Addr × Obj)) (s : Shared) (σ : L2.St) (v vl vu : Value) (sl : Addr), Inv X pins σ H s → RelV x v → s.heap.IsSliceOf sl vl vu .none → IsPart vl lo → IsPart vu hi →
  ∃ T id, typeLookup (.type T) "__getitem__" = pure (some (.builtin id)) ∧ s.TypeIs v T ∧ wpAny (model X.prog X.w) X.A (getItem v (.ref sl)) (EP X pins σ Q) X.xe s
theorem rsl_op {X : Cx} : SlR X (RSl X) := fun pins s σ H x v vl vu lo hi sl Q I rx hs pl pu h => h pins s σ v vl vu sl I rx hs pl pu
theorem rsl_of {X : Cx} {r : V → Option Int → Option Int → Hp → VK → Prop} (h : SlR X r) {x : V} {lo hi : Option Int} {H : Hp} {Q : VK} (q : r x lo hi H Q) : RSl X x lo hi H Q := fun pins s σ v vl vu sl I rx hs pl pu => h pins s σ H x v vl vu lo hi sl Q I rx hs pl pu q
section
variable {N : Nm} {L I : Hp} {rs : List Addr} {g : G} {H : Hp} {Q : VK} {W : XK} {x y z : D} {u v : V} {X : Cx}
theorem cut_v {l : List D} {vs : List V} (k : VRs N I rs l vs) (lo hi : Option Int) : VRs N I rs (cutL l lo hi) (cutV vs lo hi) := by
  unfold cutL cutV
  rw [k.length]
  exact (k.drop _).take _
theorem slc_ok (F : XF N X) {lo hi : D} {a b : Option Int} (ha : bnd lo = some a) (hb : bnd hi = some b) (h : slcD g x lo hi = some z) (R : Rel N L I rs g H) (hu : VR N I rs x u) (q : Gd N L I rs g H z Q) : RSl X u a b H Q := by
  unfold slcD at h
  rw [ha, hb] at h
  simp only at h
  split at h
  · rename_i l e
    cases h
    obtain ⟨p, vs, rfl, h2, h3⟩ := R.tup hu e
    refine rsl_of sl_tupA ⟨p, vs, rfl, by rw [F.hK]; exact h2, fun hf => ?_, fun _ p hp => q.tup R (cut_v h3 a b) hp⟩
    have e1 : cutL l a b = l := by
      unfold cutL
      rw [h3.length, hf.1, hf.2]
      simp [← h3.length]
    rw [e1] at q
    have e2 := top_ne e (fun l => by simp)
    subst e2
    exact q.now R hu
  · rename_i l e
    cases h
    obtain ⟨p, vs, rfl, h2, h3⟩ := R.lst hu e
    exact rsl_of sl_list ⟨p, vs, rfl, by rw [F.hK]; exact h2.sq, fun p hp => q.lst R (cut_v h3 a b) hp⟩
  · rename_i s e
    rw [top_str e] at hu
    cases hu
    split at h <;> cases h
    rename_i hl
    have hl : s.length ≤ LIM := by simpa using hl
    refine rsl_of sl_str ⟨_, rfl, by rw [st_length]; exact lim_line hl, ?_⟩
    have e : cutS (st s) a b = st (cutL s a b) := by
      unfold cutS cutL
      rw [st_list, st_length]
      rfl
    rw [e]
    exact q.now R (.str _)
  · cases h
/-- an answer on the same heap -/
theorem Ok.gd (ok : OkV N L I rs H W Q (.ok z g)) : Gd N L I rs g H z Q := fun I' H' b e R' r => ok I' rs H' b e R' r
/-! ### built-in functions -/
def biV : Bi → Value
  | .len => .builtin "len"
  | .all => .builtin "all"
  | .any => .builtin "any"
  | .min2 => .builtin "min"
  | .max2 => .builtin "max"
  | .repr => .builtin "repr"
  | .tuple => .type "tuple"
  | .list => .type "list"
  | .str => .type "str"
  | .int => .type "int"
  | .sorted => .builtin "sorted"
  | .bool => .type "bool"
  | .listH => .type "list"
theorem bools_v : ∀ {l : List D} {vs : List V} {bs : List Bool}, bools l = some bs → VRs N I rs l vs → vs = bs.map V.bl
  | [], _, _, h, k => by cases k; cases h; rfl
  | d :: l, _, bs, h, k => by
    cases k with
    | cons ka kl =>
      cases d <;> simp only [bools] at h <;> first
        | (simp only [Option.map_eq_some_iff] at h
           obtain ⟨cs, h1, h2⟩ := h
           subst h2
           cases ka
           rw [bools_v h1 kl]
           rfl)
        | cases h
theorem txts_v : ∀ {l : List D} {vs : List V} {bs : List (List Nat)}, txts l = some bs → VRs N I rs l vs → vs = (bs.map st).map V.str
  | [], _, _, h, k => by cases k; cases h; rfl
  | d :: l, _, bs, h, k => by
    cases k with
    | cons ka kl =>
      cases d <;> simp only [txts] at h <;> first
        | (simp only [Option.map_eq_some_iff] at h
           obtain ⟨cs, h1, h2⟩ := h
           subst h2
           cases ka
           rw [txts_v h1 kl]
           rfl)
        | cases h
/-- repr of plain data -/
theorem call_reprD (hg : X.A.guards = some []) (hU : X.A.units + 80 < cLine) : CallR X (.builtin "repr") (fun xs H Q => ∃ x d, xs = [x] ∧ Dp X.K H x d ∧ d.showable = true ∧ d.canLay0 = true ∧ d.depth ≤ 64 ∧ d.shown.length ≤ sizeLine ∧ Q (.str d.shown) H) := by
  intro pins s σ H xs us Q I r h
  obtain ⟨x, d, rfl, dp, hs, hl, hd, hz, q⟩ := h
  obtain ⟨u, rfl, rx⟩ := vals1 r
  have fin : ∀ tk' tk'', EP X pins σ Q (.str d.shown tk') { s with toks := tk'' } := fun tk' tk'' => ⟨.str _, H, I.tok _, ⟨_, rfl⟩, q⟩
  obtain ⟨as, rd⟩ := Dp.reads I d x u dp rx
  have big : ∀ a, u = .ref a → wpAny (model X.prog X.w) X.A (PySem.call (.builtin "repr") [u]) (EP X pins σ Q) X.xe s := fun a e => by
    subst e
    refine repr_of_reads' rd hs (PyData.noDict_hsm (PyData.hasDict_of_canLay _ hl)) hg (by omega) (fun _ _ z => z) (fun h' u tk hk => ?_) hz
    exact ⟨.str _, H, I.kept hk, ⟨_, rfl⟩, q⟩
  cases rd with
  | none => exact PySem.P.repr_of_none (fin _ _)
  | bool b => exact PySem.P.repr_of_bool (fin _ _)
  | int i t => exact PySem.P.repr_of_int (by simpa [PyData.showable] using hs) (fin _ _)
  | str z t => exact PySem.P.repr_of_str (fin _ _) hz
  | _ => exact big _ rfl
end
end PC
end
section
set_option maxHeartbeats 4000000
/-! EX5: sorted of a text. -/
namespace PC
open PySem L2 PyProof.Rows
theorem insN_perm (x : Nat) : ∀ l, (insN x l).Perm (x :: l)
  | [] => List.Perm.refl _
  | y :: r => by
    unfold insN
    split
    · exact List.Perm.refl _
    · exact ((insN_perm x r).cons y).trans (List.Perm.swap x y r)
theorem insS_perm : ∀ l, (insS l).Perm l
  | [] => List.Perm.refl _
  | x :: r => (insN_perm x _).trans ((insS_perm r).cons x)
theorem insN_up (x : Nat) : ∀ l, l.Pairwise (· ≤ ·) → (insN x l).Pairwise (· ≤ ·)
  | [], _ => List.pairwise_singleton _ _
  | y :: r, h => by
    unfold insN
    rw [List.pairwise_cons] at h
    split
    · rename_i hh
      have hh : x ≤ y := by simpa using hh
      refine List.pairwise_cons.mpr ⟨fun z hz => ?_, List.pairwise_cons.mpr h⟩
      rcases List.mem_cons.mp hz with e | e
      · rw [e]; exact hh
      · exact Nat.le_trans hh (h.1 z e)
    · rename_i hh
      have hh : ¬ x ≤ y := by simpa using hh
      refine List.pairwise_cons.mpr ⟨fun z hz => ?_, insN_up x r h.2⟩
      rcases List.mem_cons.mp ((insN_perm x r).mem_iff.mp hz) with e | e
      · rw [e]; omega
      · exact h.1 z e
theorem insS_up : ∀ l, (insS l).Pairwise (· ≤ ·)
  | [] => List.Pairwise.nil
  | x :: r => insN_up x _ (insS_up r)
theorem insS_sort (l : List Nat) : l.mergeSort (fun a b => decide (a ≤ b)) = insS l := by
  refine List.Perm.eq_of_pairwise (le := fun a b : Nat => a ≤ b) (fun a b _ _ h1 h2 => Nat.le_antisymm h1 h2) ?_ (insS_up l) ((List.mergeSort_perm _ _).trans (insS_perm l).symm)
  have := List.pairwise_mergeSort (le := fun a b : Nat => decide (a ≤ b)) (fun a b c h1 h2 => by simp at h1 h2 ⊢; omega) (fun a b => by simp; omega) l
  exact this.imp fun h => by simpa using h
theorem one_le (a b : Nat) : decide ((st [a]).cps.toList ≤ (st [b]).cps.toList) = decide (a ≤ b) := by
  rw [st_list, st_list]
  refine decide_eq_decide.mpr ?_
  rw [List.cons_le_cons_iff]
  constructor
  · rintro (h | ⟨h, _⟩)
    · exact Nat.le_of_lt h
    · exact Nat.le_of_eq h
  · intro h
    rcases Nat.lt_or_eq_of_le h with h | h
    · exact .inl h
    · exact .inr ⟨h, List.le_refl _⟩
theorem each_at {R : Value → Nat → Prop} : ∀ (vs : List Value) (l : List Nat), vs.length = l.length → (∀ (j : Nat) (v : Value), vs[j]? = some v → ∃ c, l[j]? = some c ∧ R v c) → PySem.W.EachIs R vs l
  | [], [], _, _ => .nil
  | [], _ :: _, h, _ => by simp at h
  | _ :: _, [], h, _ => by simp at h
  | v :: vs, c :: l, h, k => by
    obtain ⟨c', e, r⟩ := k 0 v rfl
    cases e
    exact .cons r (each_at vs l (by simpa using h) fun j v e => k (j + 1) v e)
theorem each_v : ∀ {vs : List Value} {l : List Nat}, PySem.W.EachIs (fun v c => ∃ u, v = .str (st [c]) u) vs l → Vals (l.map fun c => V.str (st [c])) vs
  | _, _, .nil => .nil
  | _, _, .cons ⟨u, e⟩ t => .cons ⟨u, e⟩ (each_v t)
section
variable {X : Cx}
theorem cr_sortedStr (hc : X.calm = true) (hU : X.A.units + 80 < cLine) : CallR X (.builtin "sorted") (fun xs H Q => ∃ l : List Nat, xs = [.str (st l)] ∧ l.length ≤ 1000 ∧ ∀ p, H p = none → Q (.ref p) (upd H p (.lst ((insS l).map fun c => V.str (st [c]))))) := by
  intro pins s σ H xs us Q I r h
  obtain ⟨l, rfl, hl, q⟩ := h
  obtain ⟨u, rfl, ru⟩ := vals1 r
  obtain ⟨t, rfl⟩ := ru
  have hz : l.length ≤ sizeLine := by rw [sizeLine_eq]; omega
  refine Calls.call_function_entry PyProof.Rows.kind_sorted PyProof.Rows.plain_sorted PyProof.Rows.entry_sorted (PyProof.Rows.args_sorted1 _) ?_
  unfold Builtin.«sorted»
  refine wpAny_bind (m := checkCount "sorted" 1 1 _) (wpAny_pure ?_)
  refine wpAny_bind (wpAny_collect_str (A := X.A.in1) (I.ok.hd hc) (st l) t (fun s' acc k hg hd ho hacc => ?_) (by show l.toArray.size ≤ _; rw [List.size_toArray]; exact hz))
  obtain ⟨h', g', d', tk, os'⟩ := s'
  obtain ⟨h0, g0, d0, tk0, os0⟩ := s
  cases hg; cases hd; cases ho
  have I1 : Inv X pins σ H ⟨h', g', d', tk, os'⟩ := I.kept k
  have hal : acc.toList.length = l.length := by
    have := hacc.1
    rw [Array.length_toList, this]
    show l.toArray.size = _
    rw [List.size_toArray]
  have hE : PySem.W.EachIs (fun v c => ∃ u, v = .str (st [c]) u) acc.toList l := each_at _ _ hal fun j v e => by
    obtain ⟨c, u, e1, e2⟩ := hacc.2 j v (by rw [← Array.getElem?_toList]; exact e)
    refine ⟨c, ?_, u, e2⟩
    have : l.toArray[j]? = some c := e1
    rwa [List.getElem?_toArray] at this
  refine wpAny_bind (wpAny_newList ?_ (by rw [hal]; exact hz))
  have hoL : (h'.push (seqObj "list" acc.toList.toArray 0)).get? h'.objs.size = some (seqObj "list" acc.toList.toArray 0) := Heap.get?_push_size _ rfl
  show wpAny _ _ _ _ _ ⟨h'.push (seqObj "list" acc.toList.toArray 0), g', d', tk, os'⟩
  refine wpAny_bind (wpAny_holding (PySem.W.list_sort_data (R := fun v c => ∃ u, v = .str (st [c]) u) (enc := fun c => PyData.str (st [c])) hoL hE (hE.mono fun v c ⟨u, e⟩ => ⟨[], by rw [e]; exact .str _ _, List.not_mem_nil⟩) (PySem.W.AllAlike.of fun _ _ => by simp [PySem.W.alike]) (PySem.W.Sortable.others fun _ => ⟨(fun z => nomatch z), fun _ z => nomatch z⟩) (by exact hz) (fun b _ => ?_) fun out ho hout => ?_))
  · show X.A.in1.units + 1 + 0 < cLine
    have : X.A.in1.units ≤ X.A.units + 2 := by simp [Around.in1, Around.units]
    omega
  rw [PySem.W.dataLe_str, show (fun a b : Nat => decide ((st [a]).cps.toList ≤ (st [b]).cps.toList)) = fun a b => decide (a ≤ b) from funext fun a => funext fun b => one_le a b, insS_sort] at hout
  obtain ⟨e', he'⟩ := PyProof.Rows.sortedHeap_at (vs := acc.toList) (out := out.toArray) hoL
  have hlen : ((insS l).map fun c => V.str (st [c])).length ≤ sizeLine := by
    rw [List.length_map, (insS_perm l).length_eq]; exact hz
  refine wpAny_pure ⟨_, rfl, .ref h'.objs.size, upd H h'.objs.size (.lst ((insS l).map fun c => V.str (st [c]))), I1.laid (t' := tk) (fun b u e => ?_) (Nat.le_refl _)
    (show ObjOk X.prog X.w _ _ _ (.lst _) from ⟨hlen, out, e', each_v hout, he'⟩), rfl, q _ (I1.hok.fresh (Nat.le_refl _))⟩
  have hb : b < h'.objs.size := Heap.lt_size e
  rw [PyProof.Rows.sortedHeap_old (Nat.ne_of_lt hb) (by rw [size_push']; exact Nat.lt_succ_of_lt hb)]
  exact Heap.get?_push_of_some _ e
end
end PC
end
section
set_option maxHeartbeats 4000000
/-! EX6: an own error class called by keyword. -/
namespace EX
open PySem PySem.W PySem.Calls PyProof.Rows PySem.HandSPX PySem.F
open Builtin Builtin.ObjectAttr
section
variable {prog : Program} {w : World} {M : Model} {A : Around} {E : Value → Shared → Prop} {R : Result → Shared → Prop} {h : Heap} {g : Array GenState} {d : Drawn} {t : Nat} {os : OsState}
variable {nm q : Str} {C N : Addr} {bs bm bmB : List Value} {hdct : Bool} {sn : List Str} {sub : List Value} {ab : Bool} {col : Option Bool} {dd : Option Addr} {k0 k1 k2 k3 k5 : Option Value} {B newId initId : String}
theorem check_sub_kw {rest : List Value} {kw : List (Str × Value)} {Q : Unit → Shared → Prop} (hC : h.get? C = some (excClassObj nm q C N bs bm hdct sn sub ab col dd k0 k1 k2 k3 k5 newId))
    (hq : Q () ⟨h, g, d, t, os⟩) : wpAny M A (checkBuiltinCall "type.__call__" ⟨.ref C :: rest, kw⟩) Q E ⟨h, g, d, t, os⟩ := by
  have f3 := tc_sub
  have hT : (⟨h, g, d, t, os⟩ : Shared).TypeIs (.ref C) "type" := ⟨_, hC, rfl⟩
  simp only [checkBuiltinCall, tc_kind, tc_split]
  repeat (any_goals (first | assumption | with_reducible refine wpAny_loadPart_at hC ?_ | with_reducible refine wpAny_onRaise ?_ | with_reducible refine wpAny_map ?_ | wp_step))
theorem check_new_kw (F : ExcBaseFacts B newId initId bmB) (hT : ∀ X : String, bm.contains (.type X) = bmB.contains (.type X)) {rest : List Value} {kw : List (Str × Value)} {Q : Unit → Shared → Prop}
    (hC : h.get? C = some (excClassObj nm q C N bs bm hdct sn sub ab col dd k0 k1 k2 k3 k5 newId)) (hq : Q () ⟨h, g, d, t, os⟩) : wpAny M A (checkBuiltinCall newId ⟨.ref C :: rest, kw⟩) Q E ⟨h, g, d, t, os⟩ := by
  have hcont : (Value.ref C :: bm).contains (.type B) = true := by rw [List.contains_cons, hT, F.hasB, Bool.or_true]
  have hstar := F.noStar
  simp only [checkBuiltinCall, F.newKind, F.newSplit, F.newRow]
  repeat (first | refine wpAny_loadPart_at hC ?_ | (refine wpAny_isSubtype_exc hC ?_; rw [hcont]) | refine wpAny_staticBase_exc hC ?_ | refine wpAny_madeBy_exc hC ?_ | simp only [bne_self_eq_false, Bool.false_eq_true, if_false] | wp_step)
  exact hq
theorem new_kw (F : ExcBaseFacts B newId initId bmB) (hT : ∀ X : String, bm.contains (.type X) = bmB.contains (.type X)) {rest : List Value} {kw : List (Str × Value)}
    (hC : h.get? C = some (excClassObj nm q C N bs bm hdct sn sub ab col dd k0 k1 k2 k3 k5 newId))
    (hq : R (.ok (.ret (.ref (h.objs.size + 1)))) ⟨(h.push { cls := .type "tuple", data := .seq rest.toArray }).push
      { cls := .ref C, data := .fields #[.ref h.objs.size, .none, .none, .none, .bool false, .none] }, g, d, t, os⟩) (hrest : rest.length ≤ sizeLine) :
    codeAny (model prog w) A (.builtin newId ⟨.ref C :: rest, kw⟩) R ⟨h, g, d, t, os⟩ := by
  have hends := F.ends
  have hcB : (Value.ref C :: bm).contains (.type B) = true := by rw [List.contains_cons, hT, F.hasB, Bool.or_true]
  have hcA : (Value.ref C :: bm).contains (.type "AttributeError") = false := by rw [List.contains_cons, hT, F.noAttr]; rfl
  have hcN : (Value.ref C :: bm).contains (.type "NameError") = false := by rw [List.contains_cons, hT, F.noName]; rfl
  refine codeAny_builtinAt F.entry ?_
  unfold Builtin.«BaseException.__new__»
  refine _root_.PySem.wpAt_bind ?_
  show _root_.PySem.wpAt _ _ _ (stack >>= _) _ _ _
  refine _root_.PySem.wpAt_bind (_root_.PySem.wpAt_stack fun p below => _root_.PySem.wpAt_of_wpAny ?_)
  wp_walk
  refine _root_.PySem.wpAt_of_wpAny ?_
  rw [F.owner]
  repeat (first | with_reducible refine wpAny_madeHere_exc F.canon hC ?_ | with_reducible refine wpAny_loadPart_at hC ?_ | (with_reducible refine wpAny_isSubtype_exc hC ?_; first | rw [hcB] | rw [hcA] | rw [hcN]) | wp_step)
  show R _ _
  rw [Heap.size_push]
  exact hq
theorem type_call_kw (F : ExcBaseFacts B newId initId bmB) (hT : ∀ X : String, bm.contains (.type X) = bmB.contains (.type X)) {rest : List Value} {kw : List (Str × Value)} {fI : Addr} {Q : Fin → Shared → Prop}
    (hC : h.get? C = some (excClassObj nm q C N bs bm hdct sn sub ab col dd k0 k1 k2 k3 k5 newId))
    (hi : W.Looks (model prog w) h (typeLookup (.ref C) "__init__") (some (.ref fI))) (hb : ∀ self, W.Looks (model prog w) h (bindSpecial (.ref fI) self) (.ref fI, [self])) (hrest : rest.length ≤ sizeLine)
    (hq : codeAny (model prog w) A (.call (.ref fI) ⟨.ref (h.objs.size + 1) :: rest, kw⟩)
      (fun r s' => match r with | .ok (.ret v) => v = .none ∧ Q (.done (.ret (.ref (h.objs.size + 1)))) s' | .ok _ => False | .error e => E e s')
      ⟨(h.push (W.kdv_tup rest)).push (excO C h.objs.size), g, d, t, os⟩) :
    wpAny (model prog w) A (Builtin.«type.__call__» ⟨.ref C :: rest, kw⟩) Q E ⟨h, g, d, t, os⟩ := by
  repeat (first | with_reducible refine wpAny_loadPart_at hC ?_ | with_reducible refine wpAny_madeBy_exc hC ?_ | wp_step)
  refine codeAny_call_builtin_code (Code.quiet_builtin _ F.quiet) (check_new_kw F hT hC ?_)
  refine new_kw F hT hC ?_ hrest
  show wpAny _ _ _ _ _ _
  have k : ∀ b o, h.get? b = some o → ((h.push (W.kdv_tup rest)).push (excO C h.objs.size)).get? b = some o := fun b o e => Heap.get?_push_of_some _ (Heap.get?_push_of_some _ e)
  have hC₁ := k _ _ hC
  have hget : ((h.push (W.kdv_tup rest)).push (excO C h.objs.size)).get? (h.objs.size + 1) = some (excO C h.objs.size) := by heap_get
  have hcC : (Value.ref C :: bm).contains (.ref C) = true := by simp
  have i1 := hi.keeps k
  have b1 := (hb (.ref (h.objs.size + 1))).keeps k
  unfold isInstance
  repeat (first | with_reducible refine wpAny_loadPart_at hget ?_ | (with_reducible refine wpAny_isSubtype_exc hC₁ ?_; rw [hcC]) | wp_step)
  show wpAny _ _ (typeLookup (.ref C) _) _ _ _
  refine i1.at ?_
  refine wpAny_holding (wpAny_bind (b1.at ?_))
  refine wpAny_bind (wpAny_call (codeAny_mono hq fun r s' z => ?_))
  rcases r with e | (v | _ | _ | _) <;> first | exact z | exact z.elim | skip
  obtain ⟨rfl, z⟩ := z
  first
    | exact wpAny_pure (wpAny_pure z)
    | (wp_walk; exact z)
theorem call_kw (F : ExcBaseFacts B newId initId bmB) (hT : ∀ X : String, bm.contains (.type X) = bmB.contains (.type X)) {rest : List Value} {kw : List (Str × Value)} {fI : Addr}
    (hC : h.get? C = some (excClassObj nm q C N bs bm hdct sn sub ab col dd k0 k1 k2 k3 k5 newId))
    (hi : W.Looks (model prog w) h (typeLookup (.ref C) "__init__") (some (.ref fI))) (hb : ∀ self, W.Looks (model prog w) h (bindSpecial (.ref fI) self) (.ref fI, [self])) (hrest : rest.length ≤ sizeLine)
    (hq : codeAny (model prog w) (A.under (.builtin "type.__call__" ⟨.ref C :: rest, kw⟩)) (.call (.ref fI) ⟨.ref (h.objs.size + 1) :: rest, kw⟩) (W.InitBack (h.objs.size + 1) R)
      ⟨(h.push (W.kdv_tup rest)).push (excO C h.objs.size), g, d, t, os⟩) :
    codeAny (model prog w) A (.call (.ref C) ⟨rest, kw⟩) R ⟨h, g, d, t, os⟩ := by
  have f1 := tc_lookup
  have f2 := tc_bind (.ref C)
  have hTy : (⟨h, g, d, t, os⟩ : Shared).TypeIs (.ref C) "type" := ⟨_, hC, rfl⟩
  refine codeAny_of_tree ?_
  show wpAny _ _ (callAny (.ref C) _) _ _ _
  repeat (any_goals (first | assumption | with_reducible refine wpAny_loadPart_at hC ?_ | wp_step))
  refine ⟨rfl, ?_⟩
  refine codeAny_call_builtin_at (Code.quiet_builtin _ (by decide +kernel)) entry_typeCall (check_sub_kw hC (type_call_kw F hT hC hi hb hrest ?_))
  refine codeAny_mono hq fun r s' z => ?_
  rcases r with e | (v | _ | _ | _) <;> exact z
variable {hp : Heap} {K : Frag} {tk : Nat}
theorem makeK {C : Addr} {f p : Str} (T : Own prog K B newId initId bmB C f p) (X : K.In hp) {mg mb : Str → Option Value} (hg : hp.Ns mainGlobals mg) (hb : hp.Ns builtinsNs mb) (nl : hp.NoLimit) (hmg : mg "super" = none) (hmb : mb "super" = some (.type "super")) {kr : Nat} (room : L2.Room (kr + 2) A)
    {u : Value} {Q : Value → Shared → Prop}
    (hq : ∀ h' tk' e dx t1, (∀ b o, hp.get? b = some o → h'.get? b = some o) → hp.objs.size ≤ e → hp.objs.size ≤ dx → dx ≠ e → h'.get? e = some { cls := .ref C, dict := some dx, data := .fields #[.ref t1, .none, .none, .none, .bool false, .none] } →
      h'.Ns1 dx (fun y => if y = f then some u else none) → Q (.ref e) ⟨h', g, d, tk', os⟩) :
    wpAny (model prog w) A (call (.ref C) [] [(p, u)]) Q E ⟨hp, g, d, t, os⟩ := by
  obtain ⟨FB, SF, KF, q, over, tk, hd, sa, sub, exC, tyC, kC, mroC, opq, sup, htop, fI, cc, cda, name, qual, sf, txt, file, tf, params, scope, dV, kV, doc, pm, ct, oc, an, od, osl, ocd, odd, vs, osd, ocl, ocd2, csl, ar, j, p0, p1, p2, p3, p4, p5, p6, p7, p8, p9, hline, iC, tI, lk, hcd, hcode, hvs, hfile, hcell, hpar, har, hsp, dbs, dbp, cds, cdp, lsu, lcl, lsf, lp, hk, hco, hgen, hnc, hbind, hbindK⟩ := T
  obtain ⟨nm, N', qn, bs, bm, hdct, sn, subs, ab, col, dd, k0, k1, k2, k3, k5, hC, hT⟩ := excInit_of X q
  refine wpAny_call (call_kw (rest := []) (kw := [(p, u)]) FB hT hC (looks_findIn X iC) (fun self => bind_fn X self tI) (by rw [sizeLine_eq]; show (0 : Nat) ≤ _; decide) ?_)
  have kk : ∀ b o, hp.get? b = some o → ((hp.push (PySem.W.kdv_tup [])).push (PySem.HandSPX.excO C hp.objs.size)).get? b = some o := fun b o e => Heap.get?_push_of_some _ (Heap.get?_push_of_some _ e)
  have hget : ((hp.push (PySem.W.kdv_tup [])).push (PySem.HandSPX.excO C hp.objs.size)).get? (hp.objs.size + 1) = some (PySem.HandSPX.excO C hp.objs.size) := by heap_get
  generalize hh1 : (hp.push (PySem.W.kdv_tup [])).push (PySem.HandSPX.excO C hp.objs.size) = h1 at kk hget ⊢
  have X1 : K.In h1 := X.keeps kk
  refine ks_codeAny_call_defAt (fd := ksFn name qual params _ scope dV kV doc pm an (.ref cda) ct cc) (binds := [(sf, .ref (hp.objs.size + 1)), (p, u)]) ?_ (X1 _ _ lk) rfl (nl.keeps kk) (codeRec_of X1 hcd) rfl (.of_eq (hbindK _ _)) hnc ?_ (fun h2 hns k2 => ?_) hco hgen hk
  · exact (room.make C [] [(p, u)]).depth
  · intro x hx
    rcases List.mem_cons.mp hx with e | hx
    · rw [e]; exact lsf
    · rcases List.mem_cons.mp hx with e | hx
      · rw [e]; exact lp
      · cases hx
  have X2 : K.In h2 := X1.keeps k2
  obtain ⟨cd, hcl, _⟩ := any_some hd
  have hD : ∃ oD, h2.get? C = some oD ∧ oD.data = .cls cd := by
    unfold clsIn at hcl
    split at hcl
    · rename_i c d' cd' sl ho
      cases hcl
      exact ⟨_, X2 _ _ ho, rfl⟩
    · cases hcl
  obtain ⟨oD, hD1, hD2⟩ := hD
  have he2 : h2.get? (hp.objs.size + 1) = some (excObj C hp.objs.size none .none) := k2 _ _ hget
  have I2 : InstAt h2 (hp.objs.size + 1) (excObj C hp.objs.size none .none) C none := ⟨he2, rfl, rfl, trivial⟩
  generalize hL : h1.objs.size = L at hns ⊢
  generalize he : hp.objs.size + 1 = e at *
  have hsf : [(sf, Value.ref e), (p, u)].reverse.lookup sf = some (Value.ref e) := by
    have z : (sf == p) = false := by simpa using hsp
    simp [List.lookup, z]
  have hns := hns
  have hpu : [(sf, Value.ref e), (p, u)].reverse.lookup p = some u := by
    simp [List.lookup]
  have hint : interactive (ksEnv qual scope L fI (.ref cda) cc) = false := by simp [interactive, hk]
  show _root_.PySem.wpAt _ (Around.deeper _ (ksEnv qual scope L fI (.ref cda) cc)) (.func _ (ksEnv qual scope L fI (.ref cda) cc)) (execs _ (ksEnv qual scope L fI (.ref cda) cc)) _ _ _
  refine ks_wpAt_execs_cons (ks_wpAt_Expr_any (hi := hint) (ks_wpAt_MethodCall (he := mcs_tree hline) ?_))
  refine ks_wpAt_super_base (env := ksEnv qual scope L fI (.ref cda) cc) lsu lcl rfl rfl (X2 _ _ lk) rfl hpar rfl (X2 _ _ hcode) rfl hvs hfile htop ?_
  refine ks_loadName_global hk lsu (loadGlobal_builtin (env := ksEnv qual scope L fI (.ref cda) cc) ((hg.keeps kk).keeps k2) hmg ((hb.keeps kk).keeps k2) hmb ⟨rfl, ?_⟩)
  refine wpAny_loadName_free hk lcl rfl ⟨_, X2 _ _ hcell, rfl⟩ ?_
  rw [har]
  refine wpAny_loadName_local (env := ksEnv qual scope L fI (.ref cda) cc) hk lsf (m := fun x => [(sf, Value.ref e), (p, u)].reverse.lookup x) hns hsf ?_
  refine ks_wpAny_isType_cls hD1 hD2 ⟨rfl, ?_⟩
  refine ks_wpAny_call_super hD1 hD2 I2.at_ I2.cls (fun c z => by cases z) (looks_mroIn X2 mroC) (fun h3 e3 k3 => ?_)
  have X3 : K.In h3 := X2.keeps k3
  have I3 : W.InstAt h3 e (excObj C hp.objs.size none .none) C none := ⟨k3 _ _ he2, rfl, rfl, trivial⟩
  have sup' : alongIn K "__init__" ((cd.mro.dropWhile (· != .ref C)).drop 1) = some (some (.builtin initId)) := by
    unfold ks_superIn at sup
    rw [hcl] at sup
    exact sup
  refine kxs_getMethod KF e3 (looks_opaque X3 opq) (l₀ := cd.mro) (fun A Q E s k q => wpAny_bind ((looks_clsIn X3 hcl) A _ E s k (wpAny_pure q))) rfl X3 sup' (I3.type.andThen (looks_subIn X3 sub)) (ks_ne X3 I3 hcl) rfl ?_
  have k4 : ∀ b o, h3.get? b = some o → (h3.push (kxs_mw initId e)).get? b = some o := fun b o z => Heap.get?_push_of_some _ z
  have e4 : (h3.push (kxs_mw initId e)).get? h3.objs.size = some (kxs_mw initId e) := Heap.get?_push_at rfl rfl
  generalize h3.push (kxs_mw initId e) = h4 at k4 e4
  refine kxs_callWith (i := initId) (x := e) rfl (evalArgs_kxs (Calls.Constant_str (pos := p3) (k := j) ⟨e4, ?_⟩))
  refine call_mw FB q (X3.keeps k4) (k4 _ _ (k3 _ _ he2)) e4 (by rw [sizeLine_eq]; show (1 : Nat) ≤ _; decide) (fun h5 t5 k5 e5 => ?_)
  have kp5 : ∀ b o, b ≠ e → h2.get? b = some o → h5.get? b = some o := fun b o hb z => k5 b o hb (k4 _ _ (k3 _ _ z))
  have hLe : L ≠ e := by
    rw [← hL, ← he]
    exact Nat.ne_of_gt (Heap.lt_size (by rw [he]; exact hget))
  have hns5 : h5.Ns L fun x => [(sf, Value.ref e), (p, u)].reverse.lookup x := hns.at fun o z => kp5 _ _ hLe z
  have X5 : K.In h5 := fun b o z => by
    refine kp5 b o (fun hb => ?_) (X2 _ _ z)
    exact Nat.ne_of_lt (Nat.lt_of_lt_of_le (Heap.lt_size (X _ _ z)) (by rw [← he]; exact Nat.le_succ _)) hb
  refine _root_.PySem.wpAt_of_wpAny (wpAny_execs_cons (plainObj_wpAny_Assign_Attribute ?_))
  refine wpAny_Name (wpAny_loadName_local (env := ksEnv qual scope L fI (.ref cda) cc) hk lp (m := fun x => [(sf, Value.ref e), (p, u)].reverse.lookup x) hns5 hpu ?_) dbp
  refine wpAny_Name (wpAny_loadName_local (env := ksEnv qual scope L fI (.ref cda) cc) hk lsf (m := fun x => [(sf, Value.ref e), (p, u)].reverse.lookup x) hns5 hsf ?_) dbs
  refine PySem.W.set_plain X5 (ox := excObj C t5 none .none) (od := none) ⟨e5, rfl, rfl, trivial⟩ sa (osa_first SF X5 e5 over tk hd fun h6 tk6 dx k6 d6 ne6 e6 n6 => ?_)
  refine wpAny_execs_nil ⟨rfl, ?_⟩
  refine hq h6 tk6 e dx t5 (fun b o z => ?_) (by rw [← he]; exact Nat.le_succ _) ?_ ne6 e6 n6
  · have hb : b ≠ e := Nat.ne_of_lt (Nat.lt_of_lt_of_le (Heap.lt_size z) (by rw [← he]; exact Nat.le_succ _))
    exact k6 b o hb (kp5 b o hb (k2 _ _ (kk _ _ z)))
  · refine Nat.le_trans ?_ d6
    refine Nat.le_trans ?_ (Nat.le_of_lt (Heap.lt_size e5))
    rw [← he]; exact Nat.le_succ _
end
end EX
end
section
set_option maxHeartbeats 4000000
/-! EX4: an own error that is kept: its field, its classes. -/
namespace PySem.W
open PySem PySem.Spec PySem.Calls PyProof.Rows
section
variable {prog : Program} {w : World} {A : Around} {E : Value → Shared → Prop} {s : Shared} {K : Frag} {x D : Addr} {ox : Obj} {od : Option Obj}
theorem findObj_dataD {C : Addr} {name : Str} {a g : Value} (hc : (clsIn K C).isSome = true) (ha : findIn K (.ref C) name = some (some a)) (hg : specialIn K a "__get__" = some (some g)) (ht : takesIn K a = some true) : findObj K C od name = some (.bind g a) := by
  obtain ⟨cd, hc⟩ := Option.isSome_iff_exists.mp hc
  unfold findObj
  rw [hc, Option.bind_some, ha, Option.bind_some]
  simp [hg, ht]
theorem kin_classD {Q : Option Value → Shared → Prop} (hga : findIn K (.ref D) "__getattribute__" = some (some (.builtin "BaseException.__getattribute__"))) (hgt : findIn K (.ref D) "__getattr__" = some none) (hsub : subIn K (.ref D) (.type "BaseException") = some true)
    (hdct : hasDictIn K D = true) (ha : findIn K (.ref D) "__class__" = some (some (.builtin "object.__class__")))
    (hn : specialIn K (.builtin "object.__class__") "__get__" = some (some (.builtin "getset_descriptor.__get__"))) (htk : takesIn K (.builtin "object.__class__") = some true) (hm : mroIn K D (.type "object") = some true)
    (X : K.In s.heap) (I : InstAt s.heap x ox D od) (h : Q (some (.ref D)) { s with toks := s.toks + 1 }) : wpAny (model prog w) A (getAttr? (.ref x) "__class__") Q E s := by
  have hf : findObj K D od "__class__" = some (.bind (.builtin "getset_descriptor.__get__") (.builtin "object.__class__")) := findObj_dataD (by obtain ⟨cd, hc, _⟩ := any_some hdct; rw [hc]; rfl) ha hn htk
  obtain ⟨hp, g, d, t, os⟩ := s
  have L0 := I.type (M := model prog w)
  have L1 := looks_findIn (M := model prog w) X hga
  have L2 := looks_findIn (M := model prog w) X hgt
  have L3 := looks_find (M := model prog w) X I hf
  have sub : Looks (model prog w) hp (isInstance (.ref x) (.type "BaseException")) true := L0.andThen (looks_subIn X hsub)
  have hx0 : (false && onTheHeap (Value.builtin "BaseException.__getattribute__")) = false := rfl
  have hx2 : (Value.builtin "BaseException.__getattribute__" == Value.builtin "object.__getattribute__") = false := by decide +kernel
  have hx1 : (onTheHeap (Value.ref D) && Value.builtin "BaseException.__getattribute__" == Value.builtin "object.__getattribute__") = false := by rw [hx2]; rfl
  unfold getAttr? getAttrBy? getAttrBy
  refine wpAny_bind (wpAny_mkText (wpAny_bind (wpAny_attempt (wpAny_holding (wpAny_bind (L0.at (wpAny_bind (L1.at ?_))))))))
  show wpAny _ _ (if (onTheHeap (Value.ref D) && Value.builtin "BaseException.__getattribute__" == Value.builtin "object.__getattribute__") = true then _ else _) _ _ _
  rw [hx1, if_neg Bool.false_ne_true]
  unfold getAttrByItsOwn hookBefore
  refine wpAny_bind ?_
  rw [if_pos (show onTheHeap (Value.ref D) = true from rfl)]
  refine L2.at ?_
  refine wpAny_bind (wpAny_attempt (wpAny_holding ?_))
  unfold callGetattribute
  rw [hx0, if_neg Bool.false_ne_true]
  unfold boundAndCalled
  rw [PySem.F.excAttr_ValueError.ga.bind (.ref x)]
  refine wpAny_bind (wpAny_pure ?_)
  show wpAny _ _ (call (.builtin "BaseException.__getattribute__") [.ref x, .str "__class__" t]) _ _ _
  refine wpAny_call (codeAny_call_builtin PySem.F.excAttr_ValueError.ga.plain PySem.F.entry_bexc_ga ?_)
  refine @check_slot (model prog w) _ _ ⟨hp, g, d, t + 1, os⟩ "BaseException.__getattribute__" "BaseException" "__getattribute__" (.ref x) [.str "__class__" t] [] _ (by decide +kernel) (by decide +kernel) sub (PySem.F.args_bexc_ga (.ref x) (.str "__class__" t)) ?_
  unfold Builtin.«object.__getattribute__»
  refine wpAny_bind (wpAny_of_eq (a := ((Value.ref x : Value), [Value.str "__class__" t])) (by first | rfl | (simp only [slotArgs]; rfl)) ?_)
  refine wpAny_bind (wpAny_pure (wpAny_bind (L0.at (wpAny_bind (L3.at ?_)))))
  show wpAny _ _ (holding [Value.builtin "object.__class__"] (call (.builtin "getset_descriptor.__get__") [.builtin "object.__class__", .ref x, .ref D]) >>= ret) _ _ _
  refine wpAny_bind (wpAny_holding (wpAny_call (class_get (s := ⟨hp, g, d, t + 1, os⟩) (ox := ox) (od := od) X I hm ?_)))
  refine wpAny_pure ?_
  show wpAny _ _ (handedOut (.ref D)) _ _ _
  rw [handedOut_of (v := .ref D) rfl]
  first
    | exact wpAny_pure (wpAny_pure h)
    | exact wpAny_pure h
    | exact wpAny_pure (wpAny_bind (wpAny_pure (wpAny_pure h)))
theorem kitx_excD (hga : findIn K (.ref D) "__getattribute__" = some (some (.builtin "BaseException.__getattribute__"))) (hgt : findIn K (.ref D) "__getattr__" = some none) (hsub : subIn K (.ref D) (.type "BaseException") = some true) (hdct : hasDictIn K D = true) (ha : findIn K (.ref D) "__class__" = some (some (.builtin "object.__class__")))
    (hn : specialIn K (.builtin "object.__class__") "__get__" = some (some (.builtin "getset_descriptor.__get__"))) (htk : takesIn K (.builtin "object.__class__") = some true) (hm : mroIn K D (.type "object") = some true) :
    KitX K (.ref x) (.ref D) (fun h => InstAt h x ox D od) where
  ty := fun _ _ _ I => I.type
  it := fun _ _ X _ => by
    obtain ⟨cdD, hcD, _⟩ := any_some hdct
    unfold clsIn at hcD
    split at hcD
    · rename_i c' d' cd' sl' ho
      intro A' Q' E' s' k q
      unfold isType loadHead
      exact wpAny_bind (wpAny_loadPart (k _ _ (X _ _ ho)) (wpAny_pure q))
    · cases hcD
  ne := fun h tp dd its n sl X htp => by
    obtain ⟨cdD, hcD, _⟩ := any_some hdct
    refine Bool.eq_false_iff.mpr fun q => ?_
    have e : D = tp := Value.ref.inj (beq_iff_eq.mp q)
    subst e
    unfold clsIn at hcD
    split at hcD
    · rename_i c' d' cd' sl' ho
      have z := (X _ _ ho).symm.trans htp
      cases z
    · cases hcD
  ca := fun X I k => kin_classD hga hgt hsub hdct ha hn htk hm X I k
end
end PySem.W
namespace L2
open PySem PySem.Spec PyProof.Rows
section
variable {X : Cx} {pins : List (Addr × Obj)} {σ : St} {H : Hp} {s : Shared}
theorem exk_inst (I : Inv X pins σ H s) {a d C : Addr} {fs : List (Str × V)} (ha : H a = some (ExK (.ref C) (some d) a)) (hd : H d = some (.xd fs)) :
    ∃ oe od, PySem.W.InstAt s.heap a oe C (some od) ∧ ∀ n : Str, ∃ o : Option Value, PySem.W.lookIn n od = some o ∧ RelO (fs.lookup n) o := by
  obtain ⟨⟨oe, vs, e, z, hv⟩, _, _⟩ := I.hok a _ ha
  have hx : ObjOk X.prog X.w H s.heap d (.xd fs) := I.hok d _ hd
  obtain ⟨mA, hns, hr⟩ := hx
  obtain ⟨od, ho, hl⟩ := lookIn_ns hns
  exact ⟨oe, od, ⟨e, z.1, by unfold PySem.W.notCls; rw [hv] <;> rfl, by rw [z.2]; exact ho⟩, fun n => ⟨mA n, hl n, hr n⟩⟩
def tXk (K : PySem.W.Frag) (n : Str) (te : TE) : TE := fun σ H Q => te σ H fun x H1 => ∃ (a d C : Addr) (fs : List (Str × V)) (v : V), x = .ref a ∧ H1 a = some (ExK (.ref C) (some d) a) ∧ H1 d = some (.xd fs) ∧ fs.lookup n = some v ∧ XfC K C ∧ PySem.W.findIn K (.ref C) n = some none ∧ Q v H1
theorem pe_xk {e : Expr} {te : TE} {pos : Pos} {n : Str} (he : PE X e te) (hb : attributeBase e n X.env (eval e X.env) = eval e X.env := by rfl) : PE X (.Attribute e n pos) (tXk X.K n te) := by
  refine ⟨fun pins s σ H Q I h => ?_⟩
  refine attr_of hb (thn (he.run pins s σ H _ I h) fun u s1 hh => ?_)
  obtain ⟨x, H1, I1, rx, a, d, C, fs, v, ex, ea, ed, l, T, hno, q⟩ := hh
  subst ex
  obtain rfl : u = Value.ref a := rx
  obtain ⟨oe, od, J, hl⟩ := exk_inst I1 ea ed
  obtain ⟨o, h1, h2⟩ := hl n
  rw [l] at h2
  obtain ⟨u, hu, ru⟩ := RelO.some_of (v := v) (o := o) h2
  exact HandSPX.exc_get I1.kIn J T.ga T.gg T.exC (PySem.W.findObj_own T.hdC hno rfl (by rw [h1, hu])) (handed_of ru) ⟨v, H1, I1.tok _, ru, q⟩
def rIsK (K : PySem.W.Frag) : List V → Hp → VK → Prop := fun xs H Q => ∃ (a d C : Addr) (fs : List (Str × V)) (c : V) (cv : Value) (b : Bool), xs = [.ref a, c] ∧ H a = some (ExK (.ref C) (some d) a) ∧ H d = some (.xd fs) ∧ ExcC K C ∧ (∀ u, RelV c u → u = cv) ∧ PySem.W.kitOne K (.ref C) cv = some b ∧ Q (.bl b) H
theorem call_isK : CallR X (.builtin "isinstance") (rIsK X.K) := by
  intro pins s σ H xs us Q I r h
  obtain ⟨a, d, C, fs, c, cv, b, rfl, ea, ed, T, hcv, e, q⟩ := h
  cases r with
  | cons rx rr =>
    cases rr with
    | cons rt rr =>
      cases rr
      cases rx
      have ec := hcv _ rt
      subst ec
      obtain ⟨oe, od, J, _⟩ := exk_inst I ea ed
      exact PySem.W.kia_one (PySem.W.kitx_excD T.hg T.hk T.hs T.hd T.ha T.hn T.ht T.hm) I.kIn J e (fun z => nomatch z) fun tk => ⟨.bl b, H, I.kept (t' := tk) fun _ _ z => z, rfl, q⟩
end
end L2
end
section
set_option maxHeartbeats 4000000
/-! EX7: an error made as a value. -/
namespace L2
open PySem PySem.Spec PyProof.Rows
section
variable {X : Cx} {pins : List (Addr × Obj)} {σ : St} {H1 : Hp} {s : Shared}
theorem mk_inv {hp : Heap} {g : Array GenState} {d : Drawn} {t : Nat} {os : OsState} {C : Addr} {f : Str} {v : V} {u : Value} (I1 : Inv X pins σ H1 ⟨hp, g, d, t, os⟩) (r1 : RelV v u) {h' : Heap} {tk' : Nat} {a dx t1 : Addr} (k : ∀ b o, hp.get? b = some o → h'.get? b = some o) (na : hp.objs.size ≤ a) (nd : hp.objs.size ≤ dx) (ne : dx ≠ a)
    (ea : h'.get? a = some { cls := .ref C, dict := some dx, data := .fields #[.ref t1, .none, .none, .none, .bool false, .none] }) (nx : h'.Ns1 dx (fun y => if y = f then some u else none)) :
    H1 dx = none ∧ H1 a = none ∧ Inv X pins σ (upd (upd H1 dx (.xd [(f, v)])) a (ExK (.ref C) (some dx) a)) ⟨h', g, d, tk', os⟩ := by
  have ga : hp.get? a = none := by
    cases z : hp.get? a with
    | none => rfl
    | some o => exact absurd (Heap.lt_size z) (Nat.not_lt.mpr na)
  have gd : hp.get? dx = none := by
    cases z : hp.get? dx with
    | none => rfl
    | some o => exact absurd (Heap.lt_size z) (Nat.not_lt.mpr nd)
  have hd1 : H1 dx = none := I1.hok.gone gd
  have ha1 : H1 a = none := I1.hok.gone ga
  obtain ⟨G, g1, g2⟩ := restrict h' fun b => decide (b ≠ a)
  have gk : ∀ b, b ≠ a → G.get? b = h'.get? b := fun b hb => g1 b (decide_eq_true hb)
  have gn : G.get? a = none := g2 a (by simp)
  have kG : ∀ b o, hp.get? b = some o → G.get? b = some o := fun b o z => by
    rw [gk b (fun e => by rw [e, ga] at z; cases z)]
    exact k b o z
  have rel : ∀ y, RelO (List.lookup y [(f, v)]) (if y = f then some u else none) := fun y => by
    by_cases hy : y = f
    · subst hy
      simp only [List.lookup, beq_self_eq_true, if_true]
      exact r1
    · have : (y == f) = false := by simpa using hy
      simp only [List.lookup, this, if_neg hy]
      exact trivial
  have J : Inv X pins σ (upd H1 dx (.xd [(f, v)])) { (⟨hp, g, d, t, os⟩ : Shared) with heap := G, toks := tk' } :=
    I1.laidN kG gd hd1 ⟨_, nx.at fun o z => by rw [gk dx ne]; exact z, rel⟩
  have kh : ∀ b o, G.get? b = some o → h'.get? b = some o := fun b o z => by
    by_cases hb : b = a
    · rw [hb, gn] at z; cases z
    · rw [← gk b hb]; exact z
  exact ⟨hd1, ha1, J.laidN (t' := tk') kh gn (by rw [upd_ne ne.symm]; exact ha1) (exK_ok _ ea ⟨rfl, rfl⟩ rfl)⟩
/-- an error made: by the field's value -/
def tMkX (C : Addr) (f : Str) (ta : TA) : TE := fun σ H Q => ta σ H fun vs H1 => ∃ v, vs = [v] ∧ ∀ dx a, H1 dx = none → H1 a = none → dx ≠ a → Q (.ref a) (upd (upd H1 dx (.xd [(f, v)])) a (ExK (.ref C) (some dx) a))
theorem pe_mkx {B newId initId : String} {bmB : List Value} {C : Addr} {f fp x : Str} {e : Expr} {ta : TA} {p pos : Pos} {kr : Nat} (T : EX.Own X.prog X.K B newId initId bmB C f fp) (hg : Gl X x) (gC : X.mg x = some (.ref C)) (hsu : X.mg "super" = none) (room : Room (kr + 2) X.A)
    (he : PA X [e] ta) (hs : starEach [e] X.env = (false, eval e X.env) :: starEach [] X.env := by rfl) (hdb : (x == ("__debug__" : Str)) = false := by decide) : PE X (.Call (.Name x p) [e] [] pos) (tMkX C f ta) := by
  refine ⟨fun pins s σ H Q I h => ?_⟩
  refine wpAny_Call_Name_kw (ld_glob I hg gC ?_ hdb)
  refine PySem.W.callWith_K (h₀ := X.base) I.ok.mod.kin T.kC ?_ hs (by rfl)
  refine thn (he.run pos pins s σ H _ I h) fun us s1 ⟨vs, H1, I1, rr, v, ev, q1⟩ => ⟨I1.kIn, ?_⟩
  subst ev
  cases rr with
  | @cons _ u _ _ r1 rr =>
  cases rr
  show wpAny _ _ (PySem.call (.ref C) [u]) _ _ _
  obtain ⟨mb, hb1, hb2⟩ := I1.mod.blt
  obtain ⟨hp, g, d, t, os⟩ := s1
  refine EX.make T I1.kIn (I1.mod.glob.keeps I1.bk) (hb1.keeps I1.bk) I1.nolimit hsu ((hb2 _ (by decide)).trans (by decide +kernel)) room fun h' tk' a dx t1 k na nd ne ea nx => ?_
  obtain ⟨x1, x2, x3⟩ := mk_inv (tk' := tk') I1 r1 k na nd ne ea nx
  exact ⟨.ref a, _, x3, rfl, q1 dx a x1 x2 ne⟩
theorem mkxK_run {B newId initId : String} {bmB : List Value} {C : Addr} {f fp x : Str} {kws : List Keyword} {p pos : Pos} {kr : Nat} {H : Hp} {Q : VK} {q : List V → Hp → Prop} (T : EX.Own X.prog X.K B newId initId bmB C f fp) (hg : Gl X x) (gC : X.mg x = some (.ref C)) (hsu : X.mg "super" = none) (room : Room (kr + 2) X.A)
    (k1 : (backToKw pos (keywordEach kws X.env)).all (·.1.isSome) = true) (k2 : (backToKw pos (keywordEach kws X.env)).filterMap (·.1) = [fp]) (k3 : (backToKw pos (keywordEach kws X.env)).any (·.1.isNone) = false)
    (w : ∀ (pins : List (Addr × Obj)) (s : Shared), Inv X pins σ H s → wpAny (model X.prog X.w) X.A (evalAll ((backToKw pos (keywordEach kws X.env)).map (·.2))) (fun us s2 => ∃ vs H2, Inv X pins σ H2 s2 ∧ Vals vs us ∧ q vs H2) X.xe s)
    (hq : ∀ vs H1, q vs H1 → ∃ v, vs = [v] ∧ ∀ dx a, H1 dx = none → H1 a = none → dx ≠ a → Q (.ref a) (upd (upd H1 dx (.xd [(f, v)])) a (ExK (.ref C) (some dx) a)))
    (hdb : (x == ("__debug__" : Str)) = false := by decide) : ∀ (pins : List (Addr × Obj)) (s : Shared), Inv X pins σ H s → wpAny (model X.prog X.w) X.A (eval (.Call (.Name x p) [] kws pos) X.env) (EP X pins σ Q) X.xe s := by
  intro pins s I
  refine wpAny_Call_Name_kw (ld_glob I hg gC ?_ hdb)
  refine PySem.W.callWith_KW0 (h₀ := X.base) I.ok.mod.kin T.kC k1 ?_ (by rw [k3]; rfl)
  refine thn (w pins s I) fun us s1 ⟨vs, H1, I1, rr, q1⟩ => ⟨I1.kIn, ?_⟩
  obtain ⟨v, ev, q2⟩ := hq vs H1 q1
  subst ev
  cases rr with
  | @cons _ u _ _ r1 rr =>
  cases rr
  rw [k2]
  show wpAny _ _ (PySem.call (.ref C) [] [(fp, u)]) _ _ _
  obtain ⟨mb, hb1, hb2⟩ := I1.mod.blt
  obtain ⟨hp, g, d, t, os⟩ := s1
  refine EX.makeK T I1.kIn (I1.mod.glob.keeps I1.bk) (hb1.keeps I1.bk) I1.nolimit hsu ((hb2 _ (by decide)).trans (by decide +kernel)) room fun h' tk' a dx t1 k na nd ne ea nx => ?_
  obtain ⟨x1, x2, x3⟩ := mk_inv (tk' := tk') I1 r1 k na nd ne ea nx
  exact ⟨.ref a, _, x3, rfl, q2 dx a x1 x2 ne⟩
/-- list.count of a truth value -/
def rCntB (K : PySem.W.Frag) : V → List V → Hp → VK → Prop := fun x xs H Q => ∃ (p : Addr) (bs : List Bool) (k : Bool), x = .ref p ∧ xs = [.bl k] ∧ SqL K H p (bs.map V.bl) ∧ Q (.int (bs.countP fun y => y == k : Nat)) H
theorem mt_lcountB (hU : X.A.units + 80 < cLine) : MtR X "list.count" (rCntB X.K) := by
  intro pins s σ H x xs v us Q I rx rxs h
  obtain ⟨p, bs, k, rfl, rfl, hs, q⟩ := h
  cases rx
  obtain ⟨u, rfl, ru⟩ := rxs.one
  cases ru
  obtain ⟨its, rv, hl, hlen⟩ := I.list hs
  have rd : ∀ (bs : List Bool) (its : List Value), Vals (bs.map V.bl) its → ReadsAll s.heap its (bs.map PyData.bool) [] := by
    intro bs
    induction bs with
    | nil => intro its h; cases h; exact .nil
    | cons b bs ih =>
      intro its h
      cases h with
      | cons h1 h2 => cases h1; exact ReadsAll.cons (.bool b) (ih _ h2)
  have pl : ∀ bs : List Bool, PyData.plainAll (bs.map PyData.bool) = true := by
    intro bs
    induction bs with
    | nil => rfl
    | cons b bs ih => simp [PyData.plainAll, PyData.plain, ih]
  have dp : ∀ bs : List Bool, PyData.depthAll (bs.map PyData.bool) = 0 := by
    intro bs
    induction bs with
    | nil => rfl
    | cons b bs ih => simp [PyData.depthAll, PyData.depth, ih]
  have ct : ((bs.map PyData.bool).countP fun y => PyData.eqv y (.bool k)) = bs.countP fun y => y == k := by
    rw [List.countP_map]
    congr 1
  refine PySem.SeqAt.count_list_data hl.isList (by simpa using rd bs its rv) (.bool k) (pl bs) rfl (by rw [dp]; show X.A.units + 1 + min 0 _ < _; omega) ?_
  rw [ct]
  exact ⟨.int _, H, I.tok _, ⟨_, rfl⟩, q⟩
/-- isinstance(e, (A, B, ..)), e an error that is kept -/
def rIsKT (K : PySem.W.Frag) : List V → Hp → VK → Prop := fun xs H Q => ∃ (a d C tp : Addr) (fs : List (Str × V)) (cs : List V) (cvs : List Value) (b : Bool), xs = [.ref a, .ref tp] ∧ H a = some (ExK (.ref C) (some d) a) ∧ H d = some (.xd fs) ∧ ExcC K C ∧ H tp = some (.tup cs) ∧ (∀ us, Vals cs us → us = cvs) ∧ PySem.W.kitAny K (.ref C) cvs = some b ∧ Q (.bl b) H
theorem call_isKT : CallR X (.builtin "isinstance") (rIsKT X.K) := by
  intro pins s σ H xs us Q I r h
  obtain ⟨a, d, C, tp, fs, cs, cvs, b, rfl, ea, ed, T, ht, hcv, e, q⟩ := h
  cases r with
  | cons rx rr =>
    cases rr with
    | cons rt rr =>
      cases rr
      cases rx
      cases rt
      obtain ⟨oe, od, J, _⟩ := exk_inst I ea ed
      obtain ⟨_, its, r2, ot, ho, hc, n, hd⟩ := I.hok _ _ ht
      have := hcv _ r2
      subst this
      obtain ⟨oc, od2, dt, osl⟩ := ot
      simp only at hc hd
      subst hc hd
      exact PySem.W.kia_tup (PySem.W.kitx_excD T.hg T.hk T.hs T.hd T.ha T.hn T.ht T.hm) I.kIn J ho e (fun z => nomatch z) fun tk => ⟨.bl b, H, I.kept (t' := tk) fun _ _ z => z, rfl, q⟩
end
end L2
end
section
set_option maxHeartbeats 4000000
/-! EX8: repr of data with empty dicts. -/
namespace PC
open PySem L2 PyProof.Rows
mutual
inductive Dq (K : PySem.W.Frag) (H : Hp) : V → PyData → Prop
  | non : Dq K H .non .none
  | bl (b : Bool) : Dq K H (.bl b) (.bool b)
  | int (i : Int) : Dq K H (.int i) (.int i)
  | str (x : Str) : Dq K H (.str x) (.str x)
  | lst {a : Addr} {xs : List V} {ds : List PyData} : SqL K H a xs → DqAll K H xs ds → Dq K H (.ref a) (.list ds)
  | tup {a : Addr} {xs : List V} {ds : List PyData} : SqT K H a xs → DqAll K H xs ds → Dq K H (.ref a) (.tuple ds)
  | dct {a : Addr} : H a = some (.dK []) → Dq K H (.ref a) (.dict [])
inductive DqAll (K : PySem.W.Frag) (H : Hp) : List V → List PyData → Prop
  | nil : DqAll K H [] []
  | cons {v : V} {vs : List V} {d : PyData} {ds : List PyData} : Dq K H v d → DqAll K H vs ds → DqAll K H (v :: vs) (d :: ds)
end
/-- what is known of sys.modules -/
def SysD (K : PySem.W.Frag) : Prop := ∃ o, K.lookup sysModules = some o ∧ o.cls = .type "dict"
section
variable {X : Cx} {pins : List (Addr × Obj)} {σ : L2.St} {H : Hp} {s : Shared}
mutual
theorem Dq.reads (sy : SysD X.K) (I : Inv X pins σ H s) : ∀ (d : PyData) (v : V) (u : Value), Dq X.K H v d → RelV v u → ∃ as, Reads s.heap u d as ∧ sysModules ∉ as
  | .none, _, _, h, r => by
    cases h
    cases r
    exact ⟨_, Reads.none, by simp⟩
  | .bool b, _, _, h, r => by
    cases h
    cases r
    exact ⟨_, Reads.bool b, by simp⟩
  | .int i, _, _, h, r => by
    cases h
    obtain ⟨t, rfl⟩ := r
    exact ⟨_, Reads.int i t, by simp⟩
  | .str x, _, _, h, r => by
    cases h
    obtain ⟨t, rfl⟩ := r
    exact ⟨_, Reads.str x t, by simp⟩
  | .list ds, _, _, h, r => by
    cases h with
    | @lst a _ _ hs ha =>
      cases r
      obtain ⟨its, rv, ⟨o, n, ho, hc, _, hd⟩, _⟩ := I.list hs
      obtain ⟨as, hr, hn⟩ := DqAll.reads sy I ds _ its ha rv
      refine ⟨_, Reads.list ho hc hd (by simpa using hr), ?_⟩
      rw [List.mem_cons]
      rintro (e | e)
      · obtain ⟨o2, k1, k2⟩ := sy
        have := I.kIn _ _ k1
        rw [e, ho] at this
        cases this
        rw [hc] at k2
        exact absurd (Value.type.inj k2) (by decide)
      · exact hn e
  | .tuple ds, _, _, h, r => by
    cases h with
    | @tup a _ _ hs ha =>
      cases r
      obtain ⟨its, rv, ⟨o, ho, hc, n, hd⟩, _⟩ := I.tuple hs
      obtain ⟨as, hr, hn⟩ := DqAll.reads sy I ds _ its ha rv
      exact ⟨_, Reads.tuple ho hc hd (by simpa using hr), hn⟩
  | .dict kvs, _, _, h, r => by
    cases h with
    | @dct a hd =>
      cases r
      obtain ⟨z, lo, vs, rel, dd⟩ := dk_rd I.hok (.inl hd)
      cases rel
      obtain ⟨o, es, ep, ho, hx, hd2, _, hp, _⟩ := dd
      have he : es.toList = [] := by
        cases hl : es.toList with
        | nil => rfl
        | cons e l => rw [hl] at hp; cases hp
      refine ⟨_, Reads.dict (kvs := []) ho hx.1 hd2 (as := []) (bs := []) (by rw [he]; exact ReadsAll.nil) (by rw [he]; exact ReadsAll.nil), ?_⟩
      rw [List.append_nil, List.mem_singleton]
      intro e
      rw [e, beq_self_eq_true] at lo
      cases lo
theorem DqAll.reads (sy : SysD X.K) (I : Inv X pins σ H s) : ∀ (ds : List PyData) (vs : List V) (us : List Value), DqAll X.K H vs ds → Vals vs us → ∃ as, ReadsAll s.heap us ds as ∧ sysModules ∉ as
  | [], _, _, h, r => by
    cases h
    cases r
    exact ⟨_, ReadsAll.nil, by simp⟩
  | d :: ds, _, _, h, r => by
    cases h with
    | cons h1 h2 =>
      cases r with
      | cons r1 r2 =>
        obtain ⟨as, q1, n1⟩ := Dq.reads sy I d _ _ h1 r1
        obtain ⟨bs, q2, n2⟩ := DqAll.reads sy I ds _ _ h2 r2
        exact ⟨_, ReadsAll.cons q1 q2, by rw [List.mem_append]; rintro (z | z); exact n1 z; exact n2 z⟩
end
end
section
variable {N : Nm} {L I I1 I2 : Hp} {rs rs1 rs2 : List Addr} {g g1 g2 : G} {H H1 H2 : Hp}
theorem rep_ok (hs : Same I H) : ∀ (n : Nat) (d : D) (v : V), plR n d = true → VR N I rs d v → Dq N.K H v (toP d) ∧ (toP d).depth ≤ n
  | 0, _, _, h, _ => by simp [plR] at h
  | n + 1, d, v, h, r => by
    have many : ∀ (l : List D) (vs : List V), l.all (plR n) = true → VRs N I rs l vs → DqAll N.K H vs (toPs l) ∧ PyData.depthAll (toPs l) ≤ n := by
      intro l
      induction l with
      | nil =>
        intro vs _ k
        cases k
        exact ⟨.nil, Nat.zero_le _⟩
      | cons a l ih =>
        intro vs hl k
        cases k with
        | cons ka kl =>
          simp only [List.all_cons, Bool.and_eq_true] at hl
          obtain ⟨a1, a3⟩ := rep_ok hs n a _ hl.1 ka
          obtain ⟨b1, b3⟩ := ih _ hl.2 kl
          exact ⟨.cons a1 b1, by simp only [toPs, PyData.depthAll]; omega⟩
    cases r with
    | non => exact ⟨.non, Nat.zero_le _⟩
    | bl b => exact ⟨.bl b, Nat.zero_le _⟩
    | int i => exact ⟨.int i, Nat.zero_le _⟩
    | str s => exact ⟨.str _, Nat.zero_le _⟩
    | tup h1 k =>
      obtain ⟨a, c⟩ := many _ _ (by simpa [plR] using h) k
      exact ⟨.tup (same_t hs h1) a, by simp only [toP, PyData.depth]; omega⟩
    | lst h1 k =>
      obtain ⟨a, c⟩ := many _ _ (by simpa [plR] using h) k
      exact ⟨.lst (same_x hs h1).sq a, by simp only [toP, PyData.depth]; omega⟩
    | @dct a kvs ks ds h1 h2 h3 h4 =>
      cases ks with
      | cons _ _ => simp [plR] at h
      | nil =>
        cases ds with
        | cons _ _ => simp [plR] at h
        | nil =>
          have : kvs = [] := by simpa using h2
          subst this
          exact ⟨.dct (hs _ _ h1), by simp [toP, PyData.depth, PyData.depthKv]⟩
    | _ => simp [plR] at h
theorem rep_top {x : D} {u : V} (R : Rel N L I rs g H) (h : VR N I rs x u) (p : plR 50 (top g x) = true) : Dq N.K H u (toP (top g x)) ∧ (toP (top g x)).depth ≤ 51 := by
  rcases top_vr R h with ⟨l, a, vs, e, rfl, h2, h3⟩ | e
  · rw [e] at p ⊢
    have hl : l.all (plR 49) = true := by simpa [plR] using p
    have many : ∀ (l : List D) (vs : List V), l.all (plR 49) = true → VRs N I rs l vs → DqAll N.K H vs (toPs l) ∧ PyData.depthAll (toPs l) ≤ 49 := by
      intro l
      induction l with
      | nil =>
        intro vs _ k
        cases k
        exact ⟨.nil, Nat.zero_le _⟩
      | cons a l ih =>
        intro vs hl k
        cases k with
        | cons ka kl =>
          simp only [List.all_cons, Bool.and_eq_true] at hl
          obtain ⟨a1, a3⟩ := rep_ok R.sub 49 a _ hl.1 ka
          obtain ⟨b1, b3⟩ := ih _ hl.2 kl
          exact ⟨.cons a1 b1, by simp only [toPs, PyData.depthAll]; omega⟩
    obtain ⟨a1, a3⟩ := many l vs hl h3
    exact ⟨.lst h2.sq a1, by simp only [toP, PyData.depth]; omega⟩
  · rw [e] at p ⊢
    obtain ⟨a, c⟩ := rep_ok R.sub 50 x u p h
    exact ⟨a, by omega⟩
end
section
variable {X : Cx}
theorem call_reprQ (sy : SysD X.K) (hg : X.A.guards = some []) (hU : X.A.units + 80 < cLine) : CallR X (.builtin "repr") (fun xs H Q => ∃ x d, xs = [x] ∧ Dq X.K H x d ∧ d.showable = true ∧ d.depth ≤ 64 ∧ d.shown.length ≤ sizeLine ∧ Q (.str d.shown) H) := by
  intro pins s σ H xs us Q I r h
  obtain ⟨x, d, rfl, dp, hs, hd, hz, q⟩ := h
  obtain ⟨u, rfl, rx⟩ := vals1 r
  have fin : ∀ tk' tk'', EP X pins σ Q (.str d.shown tk') { s with toks := tk'' } := fun tk' tk'' => ⟨.str _, H, I.tok _, ⟨_, rfl⟩, q⟩
  obtain ⟨as, rd, hn⟩ := Dq.reads sy I d x u dp rx
  have big : ∀ a, u = .ref a → wpAny (model X.prog X.w) X.A (PySem.call (.builtin "repr") [u]) (EP X pins σ Q) X.xe s := fun a e => by
    subst e
    refine repr_of_reads' rd hs (fun _ => hn) hg (by omega) (fun _ _ z => z) (fun h' u tk hk => ?_) hz
    exact ⟨.str _, H, I.kept hk, ⟨_, rfl⟩, q⟩
  cases rd with
  | none => exact PySem.P.repr_of_none (fin _ _)
  | bool b => exact PySem.P.repr_of_bool (fin _ _)
  | int i t => exact PySem.P.repr_of_int (by simpa [PyData.showable] using hs) (fin _ _)
  | str z t => exact PySem.P.repr_of_str (fin _ _) hz
  | _ => exact big _ rfl
end
end PC
end
section
set_option maxHeartbeats 4000000
namespace PC
open PySem L2 PyProof.Rows
section
variable {N : Nm} {L I : Hp} {rs : List Addr} {g g1 : G} {H : Hp} {Q : VK} {W : XK} {x y z : D} {u v : V} {X : Cx}
theorem v1 {x : D} {vs : List V} (h : VRs N I rs [x] vs) : ∃ u, vs = [u] ∧ VR N I rs x u := by
  cases h with
  | cons a b => cases b; exact ⟨_, rfl, a⟩
theorem v2 {x y : D} {vs : List V} (h : VRs N I rs [x, y] vs) : ∃ u v, vs = [u, v] ∧ VR N I rs x u ∧ VR N I rs y v := by
  cases h with
  | cons a b =>
    obtain ⟨v, rfl, r⟩ := v1 b
    exact ⟨_, _, rfl, a, r⟩
theorem sml_log {i : Int} (h : sml i = true) : i.natAbs.log2 < 1920 := by
  unfold sml at h
  simp only [Bool.and_eq_true, decide_eq_true_eq] at h
  by_cases z : i.natAbs = 0
  · rw [z]; decide
  · have : i.natAbs.log2 < 64 := (Nat.log2_lt z).mpr (by omega)
    omega
theorem chrs_v {I : Hp} {rs : List Addr} : ∀ l : List Nat, VRs N I rs (l.map fun c => D.str [c]) (l.map fun c => V.str (st [c]))
  | [] => .nil
  | c :: l => .cons (.str _) (chrs_v l)
theorem bi_ok (sy : SysD N.K) (F : XF N X) {b : Bi} {ds : List D} {vs : List V} (R : Rel N L I rs g H) (hv : VRs N I rs ds vs) (ok : OkV N L I rs H W Q (biD g b ds)) : RC X (biV b) vs H Q := by
  unfold biD at ok
  split at ok
  · -- len
    obtain ⟨u, rfl, hu⟩ := v1 hv
    split at ok
    · rename_i s e
      rw [top_str e] at hu
      cases hu
      split at ok
      · rename_i hl
        have hl : s.length ≤ LIM := by simpa using hl
        exact rc_of call_len_str ⟨_, rfl, by rw [st_length]; exact lim_line hl, by rw [st_length]; exact ok.gd.now R (.int _)⟩
      · exact ok.elim
    · rename_i l e
      obtain ⟨p, ws, rfl, h2, h3⟩ := R.tup hu e
      exact rc_of call_len_seq ⟨p, ws, rfl, .inr (by rw [F.hK]; exact h2), by rw [← h3.length]; exact ok.gd.now R (.int _)⟩
    · rename_i l e
      obtain ⟨p, ws, rfl, h2, h3⟩ := R.lst hu e
      exact rc_of call_len_seq ⟨p, ws, rfl, .inl (by rw [F.hK]; exact h2.sq), by rw [← h3.length]; exact ok.gd.now R (.int _)⟩
    · exact ok.elim
  · -- all
    obtain ⟨u, rfl, hu⟩ := v1 hv
    split at ok
    · rename_i l e
      obtain ⟨p, ws, rfl, h2, h3⟩ := R.lst hu e
      cases eb : bools l with
      | none => rw [eb] at ok; exact ok.elim
      | some bs =>
        rw [eb] at ok
        have := bools_v eb h3
        subst this
        exact rc_of (cr_all F.hc) ⟨p, bs, rfl, by rw [F.hK]; exact h2.sq, ok.gd.now R (.bl _)⟩
    · exact ok.elim
  · -- any
    obtain ⟨u, rfl, hu⟩ := v1 hv
    split at ok
    · rename_i l e
      obtain ⟨p, ws, rfl, h2, h3⟩ := R.lst hu e
      cases eb : bools l with
      | none => rw [eb] at ok; exact ok.elim
      | some bs =>
        rw [eb] at ok
        have := bools_v eb h3
        subst this
        exact rc_of (cr_any F.hc) ⟨p, bs, rfl, by rw [F.hK]; exact h2.sq, ok.gd.now R (.bl _)⟩
    · exact ok.elim
  · -- min
    obtain ⟨u, v, rfl, h1, h2⟩ := v2 hv
    cases h1; cases h2
    exact rc_of (call_min2 F.hc) ⟨_, _, rfl, ok.gd.now R (.int _)⟩
  · -- max
    obtain ⟨u, v, rfl, h1, h2⟩ := v2 hv
    cases h1; cases h2
    exact rc_of (call_max2 F.hc) ⟨_, _, rfl, ok.gd.now R (.int _)⟩
  · -- tuple
    obtain ⟨u, rfl, hu⟩ := v1 hv
    split at ok
    · rename_i l e
      obtain ⟨p, ws, rfl, h2, h3⟩ := R.tup hu e
      have e2 := top_ne e (fun l => by simp)
      subst e2
      exact rc_of call_tuple_of ⟨p, ws, rfl, .inr ⟨by rw [F.hK]; exact h2, ok.gd.now R hu⟩⟩
    · rename_i l e
      obtain ⟨p, ws, rfl, h2, h3⟩ := R.lst hu e
      exact rc_of call_tuple_of ⟨p, ws, rfl, .inl ⟨by rw [F.hK]; exact h2.sq, fun q hq => ok.gd.tup R h3 hq⟩⟩
    · exact ok.elim
  · -- repr
    rename_i d1
    obtain ⟨u, rfl, hu⟩ := v1 hv
    cases er : reprD g d1 with
    | none => rw [er] at ok; exact ok.elim
    | some t =>
      rw [er] at ok
      unfold reprD at er
      split at er <;> cases er
      rename_i hc
      simp only [Bool.and_eq_true, decide_eq_true_eq] at hc
      obtain ⟨h1, h2, h3⟩ := hc
      obtain ⟨dp, sh⟩ := rep_top R hu h1
      refine rc_of (call_reprQ (by rw [F.hK]; exact sy) F.hg F.hV) ⟨u, _, rfl, by rw [F.hK]; exact dp, h2, Nat.le_trans sh (by decide), lim_line h3, ?_⟩
      have := ok.gd.now R (.str _)
      rw [st_of] at this
      exact this
  · -- str
    obtain ⟨u, rfl, hu⟩ := v1 hv
    cases hu
    split at ok
    · rename_i i hs
      have := ok.gd.now R (.str _)
      rw [st_of] at this
      exact rc_of call_str_int ⟨_, rfl, sml_log hs, this⟩
    · exact ok.elim
  · -- int of an int
    obtain ⟨u, rfl, hu⟩ := v1 hv
    cases hu
    exact rc_of call_int1 (.inl ⟨_, rfl, ok.gd.now R (.int _)⟩)
  · -- int of a truth value
    obtain ⟨u, rfl, hu⟩ := v1 hv
    cases hu
    exact rc_of call_int1 (.inr ⟨_, rfl, ok.gd.now R (.int _)⟩)
  · -- list
    obtain ⟨u, rfl, hu⟩ := v1 hv
    split at ok
    · rename_i l e
      obtain ⟨p, ws, rfl, h2, h3⟩ := R.tup hu e
      exact rc_of call_list_of ⟨p, ws, rfl, .inr (by rw [F.hK]; exact h2), fun q hq => ok.gd.lst R h3 hq⟩
    · rename_i l e
      obtain ⟨p, ws, rfl, h2, h3⟩ := R.lst hu e
      exact rc_of call_list_of ⟨p, ws, rfl, .inl (by rw [F.hK]; exact h2.sq), fun q hq => ok.gd.lst R h3 hq⟩
    · exact ok.elim
  · -- sorted of a text
    obtain ⟨u, rfl, hu⟩ := v1 hv
    cases hu
    split at ok
    · rename_i s hl
      have hl : s.length ≤ 1000 := by simpa using hl
      refine rc_of (cr_sortedStr F.hc F.hV) ⟨_, rfl, hl, fun q hq => ok.gd.lst R (chrs_v _) hq⟩
    · exact ok.elim
  · -- a list in a cell
    obtain ⟨u, rfl, hu⟩ := v1 hv
    have put : ∀ {l : List D} {ws : List V} {q : Addr}, VRs N I rs l ws → OkV N L I rs H W Q (if decide (l.length ≤ LIM) = true then PC.R.ok (D.ref g.length) (g ++ [Cell.lst l]) else .stk) → H q = none → Q (.ref q) (upd H q (.lst ws)) := by
      intro l ws q h3 ok hq
      split at ok
      · rename_i hl
        have hl : l.length ≤ LIM := by simpa using hl
        have pre : rs <+: rs ++ [q] := List.prefix_append _ _
        obtain ⟨R1, E1⟩ := R.new (c := .lst l) hq ⟨R.lsub.free hq, R.sub.free hq, ws, upd_same, h3.mono (Same.refl _) pre, hl⟩
        exact ok _ _ _ _ E1 R1 (.ref (by rw [← R.len, List.getElem?_append_right (Nat.le_refl _)]; simp))
      · exact ok.elim
    split at ok
    · rename_i l e
      obtain ⟨p, ws, rfl, h2, h3⟩ := R.tup hu e
      exact rc_of call_list_of ⟨p, ws, rfl, .inr (by rw [F.hK]; exact h2), fun q hq => put h3 ok hq⟩
    · rename_i l e
      obtain ⟨p, ws, rfl, h2, h3⟩ := R.lst hu e
      exact rc_of call_list_of ⟨p, ws, rfl, .inl (by rw [F.hK]; exact h2.sq), fun q hq => put h3 ok hq⟩
    · exact ok.elim
  · exact ok.elim

/-! ### methods -/
/-- the type that has the method, the method -/
def bmTy : Bm → String
  | .append => "list"
  | .extend => "list"
  | .pop => "list"
  | .popi => "list"
  | .insert => "list"
  | .countL => "list"
  | .get => "dict"
  | .get2 => "dict"
  | .items => "dict"
  | .update => "dict"
  | _ => "str"
def bmN : Bm → String
  | .append => "append"
  | .extend => "extend"
  | .pop => "pop"
  | .popi => "pop"
  | .insert => "insert"
  | .join => "join"
  | .startswith => "startswith"
  | .endswith => "endswith"
  | .split => "split"
  | .strip => "strip"
  | .lstrip => "lstrip"
  | .upper => "upper"
  | .replace => "replace"
  | .replaceN => "replace"
  | .find2 => "find"
  | .rfind => "rfind"
  | .rfind3 => "rfind"
  | .count => "count"
  | .countL => "count"
  | .index => "index"
  | .index2 => "index"
  | .partition => "partition"
  | .get => "get"
  | .get2 => "get"
  | .items => "items"
  | .update => "update"
def bmId (m : Bm) : String := bmTy m ++ "." ++ bmN m
theorem bmT_ok (F : XF N X) {m : Bm} (h : bmT g m x = true) (R : Rel N L I rs g H) (hu : VR N I rs x u) : tyV X.K (bmTy m) u H := by
  have l : isL g x = true → tyV X.K "list" u H := fun h => by
    unfold isL at h
    split at h
    · rename_i l e
      obtain ⟨p, ws, rfl, h2, h3⟩ := R.lst hu e
      exact .inl ⟨rfl, ws, by rw [F.hK]; exact h2.sq⟩
    · cases h
  have s : isS x = true → tyV X.K "str" u H := fun h => by
    cases x <;> first
      | (cases hu; rfl)
      | exact Bool.noConfusion h
  cases m <;> first
    | exact l h
    | exact s h
    | exact Bool.noConfusion h
/-- a cell's list is changed -/
theorem lst_put (R : Rel N L I rs g H) {i : Nat} {a : Addr} {l l' : List D} {vs' : List V} (hi : rs[i]? = some a) (hg : g[i]? = some (.lst l)) (hv : VRs N I rs l' vs') (hz : l'.length ≤ LIM) :
    Rel N L I rs (g.set i (.lst l')) (upd H a (.lst vs')) ∧ Ext I rs H I rs (upd H a (.lst vs')) := by
  obtain ⟨hL, hI, _⟩ := R.cell i a _ hi hg
  exact R.put hi hL hI fun H' e => ⟨hL, hI, vs', e, hv, hz⟩
theorem strs_v : ∀ l : List Str, VRs N I rs (l.map fun x => D.str x.cps.toList) (l.map V.str)
  | [] => .nil
  | x :: l => .cons (by have := VR.str (N := N) (I := I) (rs := rs) x.cps.toList; rw [st_of] at this; exact this) (strs_v l)
theorem bm_ok (F : XF N X) {m : Bm} {ds : List D} {vs : List V} (R : Rel N L I rs g H) (hu : VR N I rs x u) (hv : VRs N I rs ds vs) (ok : OkV N L I rs H W Q (bmD g m x ds)) : RM X (bmId m) u vs H Q := by
  unfold bmD at ok
  split at ok
  · -- append
    rename_i i d
    obtain ⟨w, rfl, hw⟩ := v1 hv
    cases hu with
    | @ref _ a hi =>
      split at ok
      · rename_i l e
        split at ok
        · rename_i hl
          have hl : l.length < LIM := by simpa using hl
          obtain ⟨hL, hI, ws, hH, hr, hz⟩ := R.cell _ _ _ hi e
          have el := hr.length
          obtain ⟨R', E'⟩ := lst_put R hi e (hr.append (.one hw)) (by simp; omega)
          exact rm_of (id := "list.append") mt_append ⟨a, ws, w, rfl, rfl, hH, by have := lim_line (n := l.length + 1) hl; omega, ok _ _ _ _ E' R' .non⟩
        · exact ok.elim
      · exact ok.elim
  · -- pop
    cases hv
    cases hu with
    | @ref _ a hi =>
      split at ok
      · rename_i l e
        split at ok
        · rename_i y hy
          obtain ⟨hL, hI, ws, hH, hr, hz⟩ := R.cell _ _ _ hi e
          have el := hr.length
          obtain ⟨w, hw1, hw2⟩ := hr.get hy
          have hd : VRs N I rs l.dropLast ws.dropLast := by
            rw [List.dropLast_eq_take, List.dropLast_eq_take, ← el]
            exact hr.take _
          obtain ⟨R', E'⟩ := lst_put R hi e hd (by rw [List.length_dropLast]; omega)
          exact rm_of (id := "list.pop") mt_pop ⟨a, ws, w, rfl, rfl, hH, by rw [← el]; exact hw1, ok _ _ _ _ E' R' (E'.vr hw2)⟩
        · exact ok.elim
      · exact ok.elim
  · -- pop at
    rename_i i k
    obtain ⟨w, rfl, hw⟩ := v1 hv
    cases hw
    cases hu with
    | @ref _ a hi =>
      split at ok
      · rename_i l e
        split at ok
        · rename_i j hj
          split at ok
          · rename_i y hy
            obtain ⟨hL, hI, ws, hH, hr, hz⟩ := R.cell _ _ _ hi e
            have el := hr.length
            have hl : LIM = 1000000 := rfl
            obtain ⟨w, hw1, hw2⟩ := hr.get hy
            obtain ⟨q1, q2, q3, q4⟩ := ixN_seq hj
            have hd : VRs N I rs (l.eraseIdx j) (ws.eraseIdx j) := by
              rw [List.eraseIdx_eq_take_drop_succ, List.eraseIdx_eq_take_drop_succ]
              exact (hr.take _).append (hr.drop _)
            obtain ⟨R', E'⟩ := lst_put R hi e hd (by
              rw [List.eraseIdx_eq_take_drop_succ, List.length_append, List.length_take, List.length_drop]
              omega)
            exact rm_of (id := "list.pop") mt_popAt ⟨a, ws, k, j, w, rfl, rfl, hH, by omega, by omega, by rw [← el]; exact q1, hw1, ok _ _ _ _ E' R' (E'.vr hw2)⟩
          · exact ok.elim
        · exact ok.elim
      · exact ok.elim
  · -- join
    rename_i a d
    obtain ⟨w, rfl, hw⟩ := v1 hv
    cases hu
    split at ok
    · rename_i l e
      split at ok
      · rename_i ts et
        split at ok
        · rename_i hl
          have hl : total a.length ts ≤ LIM := by simpa using hl
          obtain ⟨p, ws, rfl, h2, h3⟩ := R.seq hw e
          have := txts_v et h3
          subst this
          have hz : ∀ ts : List (List Nat), ((ts.map st).map (·.length)).sum + (ts.map st).length * (st a).length = total a.length ts := fun ts => by
            unfold total
            induction ts with
            | nil => simp
            | cons t ts ih =>
              simp only [List.map_cons, List.sum_cons, List.length_cons, st_length, List.length_map] at ih ⊢
              rw [Nat.add_mul, Nat.one_mul]
              omega
          refine rm_of (id := "str.join") mt_join ⟨_, p, ts.map st, rfl, rfl, by rw [F.hK]; exact h2, by rw [hz]; exact Nat.le_trans hl (by decide), ?_⟩
          have ej : Txt.join (st a) (ts.map st) = st (joinL a ts) := by
            have h1 := _root_.SX.join_S a ts
            have h2 : ∀ ts : List (List Nat), TL.joinL a ts = joinL a ts := fun ts => by
              induction ts with
              | nil => rfl
              | cons t ts ih =>
                cases ts with
                | nil => rfl
                | cons t2 ts => simp only [TL.joinL, joinL]; rw [ih, List.append_assoc]
            rw [← h2]
            exact h1
          rw [ej]
          exact ok.gd.now R (.str _)
        · exact ok.elim
      · exact ok.elim
    · exact ok.elim
  · obtain ⟨w, rfl, hw⟩ := v1 hv
    cases hu; cases hw
    exact rm_of (id := "str.startswith") mt_startswith ⟨_, _, rfl, rfl, ok.gd.now R (.bl _)⟩
  · obtain ⟨w, rfl, hw⟩ := v1 hv
    cases hu; cases hw
    exact rm_of (id := "str.endswith") mt_endswith ⟨_, _, rfl, rfl, ok.gd.now R (.bl _)⟩
  · cases hu; cases hv
    split at ok
    · rename_i s hl
      have hl : s.length ≤ LIM := by simpa using hl
      have := ok.gd.now R (.str _)
      rw [st_of] at this
      exact rm_of (id := "str.strip") mt_strip ⟨_, rfl, rfl, by rw [st_length]; exact lim_line hl, this⟩
    · exact ok.elim
  · obtain ⟨w, rfl, hw⟩ := v1 hv
    cases hu; cases hw
    split at ok
    · rename_i a b hl
      have hl : a.length ≤ LIM := by simpa using hl
      have := ok.gd.now R (.str _)
      rw [st_of] at this
      exact rm_of (id := "str.strip") mt_stripChars ⟨_, _, rfl, rfl, by rw [st_length]; exact lim_line hl, this⟩
    · exact ok.elim
  · obtain ⟨w, rfl, hw⟩ := v1 hv
    cases hu; cases hw
    split at ok
    · rename_i a b hl
      have hl : b ≠ [] ∧ a.length + 2 ≤ LIM ∧ (Txt.split (st a) (st b)).length ≤ LIM := by simpa using hl
      refine rm_of (id := "str.split") mt_split ⟨_, _, rfl, rfl, ?_, by rw [st_length]; exact lim_line hl.2.1, fun p hp => ?_⟩
      · rw [st_length]
        cases b with
        | nil => exact absurd rfl hl.1
        | cons _ _ => rfl
      · exact ok.gd.lst R (strs_v _) hp
    · exact ok.elim
  · cases hu; cases hv
    split at ok
    · rename_i s hl
      have hl : s.length ≤ LIM := by simpa using hl
      have := ok.gd.now R (.str _)
      rw [st_of] at this
      exact rm_of (id := "str.lstrip") mt_lstrip ⟨_, rfl, rfl, by rw [st_length]; exact lim_line hl, this⟩
    · exact ok.elim
  · obtain ⟨w, rfl, hw⟩ := v1 hv
    cases hw
    split at ok
    · rename_i l e
      obtain ⟨p, ws, rfl, h2, h3⟩ := R.lst hu e
      cases eb : bools l with
      | none => rw [eb] at ok; exact ok.elim
      | some bs =>
        rw [eb] at ok
        have := bools_v eb h3
        subst this
        exact rm_of (id := "list.count") (mt_lcountB F.hV) ⟨p, bs, _, rfl, rfl, by rw [F.hK]; exact h2.sq, ok.gd.now R (.int _)⟩
    · exact ok.elim
  · obtain ⟨w, rfl, hw⟩ := v1 hv
    cases hu; cases hw
    exact rm_of (id := "str.count") mt_count ⟨_, _, rfl, rfl, ok.gd.now R (.int _)⟩
  · obtain ⟨w, rfl, hw⟩ := v1 hv
    cases hu; cases hw
    exact rm_of (id := "str.find") mt_find ⟨_, _, rfl, rfl, ok.gd.now R (.int _)⟩
  · obtain ⟨w, rfl, hw⟩ := v1 hv
    cases hu; cases hw
    exact rm_of (id := "str.rfind") L2.mt_rfind ⟨_, _, rfl, rfl, ok.gd.now R (.int _)⟩
  · cases hu; cases hv
    split at ok
    · rename_i s hl
      have hl : s.length ≤ LIM := by simpa using hl
      have := ok.gd.now R (.str _)
      rw [st_of] at this
      exact rm_of (id := "str.upper") mt_upper ⟨_, rfl, rfl, by rw [st_length]; exact Nat.le_trans hl (by decide), this⟩
    · exact ok.elim
  · exact ok.elim
end
end PC
end
section
set_option maxHeartbeats 4000000
namespace PC
open PySem L2 PyProof.Rows
abbrev lk (sc : Scope) (x : Str) : Option NameKind := sc.names.lookup x
def visB (sc : Scope) (x : Str) : Bool := (lk sc x == some .local || (lk sc x == some .cell || lk sc x == some .free)) && (!(x == ("__debug__" : Str)) && !(x == ("__classdict__" : Str)))
def glB (sc : Scope) (x : Str) : Bool := lk sc x == some .globalImplicit && !(x == ("__debug__" : Str))
/-- a name of the language -/
def blB (z : Nz) (sc : Scope) (x : Str) : Bool := glB sc x && (z.bn x && !(x == ("__name__" : Str)))
def conB : D → Const → Bool
  | .non, .none => true
  | .bl b, .bool c => b == c
  | .int i, .int j => i == j
  | .str s, .str x => s == x.cps.toList
  | _, _ => false
/-- no bare f() -/
def abB : Expr → Bool
  | .Call (.Name id _) [] [] _ => id != Str.ofString "super"
  | _ => true
def nstB : Expr → Bool
  | .Starred _ _ => false
  | _ => true
def noSt (es : List Expr) : Bool := es.all nstB
/-- no slice -/
def ixB : Expr → Bool
  | .Slice _ _ _ _ => false
  | _ => true
/-- no set display -/
def nsB : Expr → Bool
  | .Set _ _ _ => false
  | _ => true
def isTupE : Expr → Bool
  | .Tuple _ _ _ => true
  | _ => false
/-- the test of it is its value's truth -/
def ptB : Expr → Bool
  | .UnaryOp .Not _ _ => false
  | .BoolOp _ _ _ => false
  | .IfExp _ _ _ _ => false
  | .Compare _ _ _ _ => false
  | _ => true
def relS (sc scope : Scope) : Scope := relabel scope { scope := sc, locals := 0, globals := 0, cells := [], qual := "", func := none, code := .none, frame := none, builtins := 0 }
def biN : Bi → String
  | .len => "len"
  | .all => "all"
  | .any => "any"
  | .min2 => "min"
  | .max2 => "max"
  | .repr => "repr"
  | .tuple => "tuple"
  | .list => "list"
  | .str => "str"
  | .int => "int"
  | .sorted => "sorted"
  | .bool => "bool"
  | .listH => "list"
def biTy : Bi → Bool
  | .tuple => true
  | .list => true
  | .str => true
  | .int => true
  | .bool => true
  | .listH => true
  | _ => false
/-- methods that are known here -/
def bmHas : Bm → Bool
  | .get => false
  | .get2 => false
  | .items => false
  | .update => false
  | _ => true
def tyN : Ty → String
  | .str => "str"
  | .int => "int"
  | .bool => "bool"
  | .tuple => "tuple"
  | .list => "list"
  | .cls _ => ""
def tyB (z : Nz) (sc : Scope) : Ty → Expr → Bool
  | .cls c, .Name x _ => z.cg c && (z.cn c == x && glB sc x)
  | t, .Name x _ => blB z sc x && Str.ofString (tyN t) == x
  | _, _ => false
def tysB (z : Nz) (sc : Scope) : List Ty → List Expr → Bool
  | [], [] => true
  | t :: ts, e :: es => tyB z sc t e && (nstB e && tysB z sc ts es)
  | _, _ => false
def isiB (z : Nz) (sc : Scope) : List Ty → Expr → Bool
  | [t], .Name x p => tyB z sc t (.Name x p)
  | _, _ => false
/-- classes of errors of the language -/
def xtN : XT → String
  | .val => "ValueError"
  | .run => "RuntimeError"
  | .look => "LookupError"
  | .key => "KeyError"
  | .idx => "IndexError"
  | .nyi => "NotImplementedError"
  | .own _ => ""
def xtB (z : Nz) (sc : Scope) : XT → Str → Bool
  | .own c, y => z.xg c && (z.cn c == y && glB sc y)
  | t, y => blB z sc y && Str.ofString (xtN t) == y
def xtsB (z : Nz) (sc : Scope) : List XT → List Expr → Bool
  | [], [] => true
  | t :: ts, .Name y p :: es => xtB z sc t y && xtsB z sc ts es
  | _, _ => false
/-- own ways: the def's name, the sign -/
def owN : Ow → String
  | .eq => "__eq__"
  | .ne => "__eq__"
  | .in_ => "__contains__"
  | .notin => "__contains__"
  | .item => "__getitem__"
  | .add => "__add__"
  | .len => "__len__"
  | .bool => "__bool__"
def owC : Ow → Option CmpOp
  | .eq => some .Eq
  | .ne => some .NotEq
  | .in_ => some .In
  | .notin => some .NotIn
  | _ => none
/-- a name that is stored -/
def nmB (ns : List Str) (sc0 sc : Scope) (i : Nat) (x : Str) : Bool := ns[i]? == some x && (lk sc x == some .local || (lk sc x == some .cell && lk sc0 x == some .cell))
def nmsB (ns : List Str) (sc0 sc : Scope) : List Nat → List Expr → Bool
  | [], [] => true
  | i :: is, .Name x _ :: es => nmB ns sc0 sc i x && nmsB ns sc0 sc is es
  | _, _ => false
def tgB (ns : List Str) (sc0 sc : Scope) (one : Bool) (tg : List Nat) (t : Expr) : Bool := match one, tg, t with
  | true, [i], .Name x _ => nmB ns sc0 sc i x
  | false, is, .Tuple es _ _ => nmsB ns sc0 sc is es
  | _, _, _ => false
def ownN (ns : List Str) (own : List Nat) : List (Str × Nat) := own.map fun i => (ns.getD i "", i)
def kcB : DK → Option Expr → Bool
  | .i k, some (.Constant (.int j) _ _) => k == j
  | .s x, some (.Constant (.str y) _ _) => x == y.cps.toList
  | _, _ => false
def dkB : List DK → List (Option Expr) → Bool
  | [], [] => true
  | k :: ks, o :: os => kcB k o && dkB ks os
  | _, _ => false
def kwB (ns : List Str) (kws : List Keyword) : Bool := decide (kws.map (·.arg) = ns.map some)
/-- the ways in which a text is looked at; v: as a value, t: as a test, i: as what a loop walks -/
structure Ck where
  st : Bool
  nl : Bool
  v : Scope → Scope → Expr → Bool
  t : Scope → Scope → Expr → Bool
  i : Scope → Scope → Expr → Expr → Bool
def Ck.of (v : Scope → Scope → Expr → Bool) : Ck := ⟨false, false, v, fun s0 sc e => ptB e && v s0 sc e, fun s0 sc _ e => nsB e && v s0 sc e⟩
def Ck.cmp (v : Scope → Scope → Expr → Bool) : Ck := ⟨false, false, v, v, fun s0 sc _ e => nsB e && v s0 sc e⟩
def Ck.it (i : Scope → Scope → Expr → Expr → Bool) : Ck := ⟨false, false, fun _ _ _ => false, fun _ _ _ => false, i⟩
def Ck.o (m : Ck) (s0 sc : Scope) (e : Option Expr) : Bool := match m.nl, e with
  | true, none => true
  | false, some e => m.v s0 sc e
  | _, _ => false
def Ck.c (m : Ck) (s0 sc : Scope) (es : List Expr) : Bool := match m.nl, es with
  | true, [] => true
  | false, [e] => m.t s0 sc e
  | _, _ => false
def conjB (op : PySem.BoolOp) (b : Scope → Scope → Expr → Bool) (s0 sc : Scope) (rest : List Expr) (pos : Pos) : Bool := match rest with
  | [] => false
  | [e] => b s0 sc e
  | rest => b s0 sc (.BoolOp op rest pos)
mutual
def chM (z : Nz) (ns : List Str) : E → Ck
  | .nil => ⟨false, true, fun _ _ _ => false, fun _ _ _ => false, fun _ _ _ _ => false⟩
  | .loc i => .of fun s0 sc e => match e with
    | .Name x _ => ns[i]? == some x && visB sc x
    | _ => false
  | .con d => .of fun s0 sc e => match e with
    | .Constant c _ _ => conB d c
    | _ => false
  | .glo n => .of fun s0 sc e => match e with
    | .Name x _ => z.gn n == x && glB sc x
    | _ => false
  | .bin o a b => .of fun s0 sc e => match e with
    | .BinOp a' p b' _ => bopA o == p && ((chM z ns a).v s0 sc a' && (chM z ns b).v s0 sc b')
    | _ => false
  | .neg a => .of fun s0 sc e => match e with
    | .UnaryOp .USub a' _ => (chM z ns a).v s0 sc a'
    | _ => false
  | .not_ a => { Ck.of fun s0 sc e => match e with
      | .UnaryOp .Not a' _ => (chM z ns a).v s0 sc a'
      | _ => false with
      t := fun s0 sc e => match e with
        | .UnaryOp .Not a' _ => (chM z ns a).t s0 sc a'
        | _ => false }
  | .and_ a b => { Ck.of fun s0 sc e => match e with
      | .BoolOp .And (a' :: rest) pos => (chM z ns a).v s0 sc a' && conjB .And (chM z ns b).v s0 sc rest pos
      | _ => false with
      t := fun s0 sc e => match e with
        | .BoolOp .And (a' :: rest) pos => (chM z ns a).t s0 sc a' && conjB .And (chM z ns b).t s0 sc rest pos
        | _ => false }
  | .or_ a b => { Ck.of fun s0 sc e => match e with
      | .BoolOp .Or (a' :: rest) pos => (chM z ns a).v s0 sc a' && conjB .Or (chM z ns b).v s0 sc rest pos
      | _ => false with
      t := fun s0 sc e => match e with
        | .BoolOp .Or (a' :: rest) pos => (chM z ns a).t s0 sc a' && conjB .Or (chM z ns b).t s0 sc rest pos
        | _ => false }
  | .cmp o a b => .cmp fun s0 sc e => match e with
    | .Compare a' [p] [b'] _ => copA o == p && (!behindInMarks p b' && ((chM z ns a).v s0 sc a' && (chM z ns b).v s0 sc b'))
    | _ => false
  | .chain o p a b c => .cmp fun s0 sc e => match e with
    | .Compare a' [o', p'] [b', c'] _ => (copA o == o' && copA p == p') && (!lastMarks [o', p'] [b', c'] && ((chM z ns a).v s0 sc a' && ((chM z ns b).v s0 sc b' && (chM z ns c).v s0 sc c')))
    | _ => false
  | .ite c a b => .of fun s0 sc e => match e with
    | .IfExp c' a' b' _ => (chM z ns c).t s0 sc c' && ((chM z ns a).v s0 sc a' && (chM z ns b).v s0 sc b')
    | _ => false
  | .call f as => .of fun s0 sc e => match e with
    | .Call (.Name x _) es [] _ => (z.fg f && (z.fnm f == x && glB sc x)) && ((noSt es || decide (2 ≤ es.length)) && chs z ns as s0 sc es)
    | _ => false
  | .callK f as ks => .of fun s0 sc e => match e with
    | .Call (.Name x _) es kws _ => (z.fg f && ((z.fnm f == x && (z.cs f).contains (es.length + kws.length, es.length)) && glB sc x)) && ((noSt es && chs z ns as s0 sc es) && (kwB (((z.pn f).drop es.length).take kws.length) kws && (noSt (kws.map (·.value)) && chs z ns ks s0 sc (kws.map (·.value)))))
    | _ => false
  | .meth m o as => .of fun s0 sc e => match e with
    | .Call (.Attribute o' x ap) es [] p => (z.nm m == x && (abB o' && ap.endLine == p.line)) && ((noSt es && decide (es.length < 29)) && ((chM z ns o).v s0 sc o' && chs z ns as s0 sc es))
    | _ => false
  | .fld f o => .of fun s0 sc e => match e with
    | .Attribute o' x _ => (z.nm f == x && abB o') && (chM z ns o).v s0 sc o'
    | _ => false
  | .prop m o => .of fun s0 sc e => match e with
    | .Attribute o' x _ => (z.nm m == x && abB o') && (chM z ns o).v s0 sc o'
    | _ => false
  | .bi b as => .of fun s0 sc e => match e with
    | .Call (.Name x _) (a :: es) [] _ => (Str.ofString (biN b) == x && blB z sc x) && (noSt (a :: es) && chs z ns as s0 sc (a :: es))
    | _ => false
  | .isi t a => .of fun s0 sc e => match e with
    | .Call (.Name x _) [a', c] [] _ => (Str.ofString "isinstance" == x && blB z sc x) && ((nstB a' && isiB z sc t c) && (chM z ns a).v s0 sc a')
    | _ => false
  | .bm m o as => .of fun s0 sc e => match e with
    | .Call (.Attribute o' x ap) es [] p => (bmHas m && (Str.ofString (bmN m) == x && (abB o' && ap.endLine == p.line))) && ((noSt es && decide (es.length < 29)) && ((chM z ns o).v s0 sc o' && chs z ns as s0 sc es))
    | _ => false
  | .sub o i => .of fun s0 sc e => match e with
    | .Subscript o' i' _ => ixB i' && ((chM z ns o).v s0 sc o' && (chM z ns i).v s0 sc i')
    | _ => false
  | .slc o lo hi => .of fun s0 sc e => match e with
    | .Subscript o' (.Slice lo' hi' none _) _ => (chM z ns o).v s0 sc o' && ((chM z ns lo).o s0 sc lo' && (chM z ns hi).o s0 sc hi')
    | _ => false
  | .rev o => .of fun s0 sc e => match e with
    | .Subscript o' (.Slice none none (some (.UnaryOp .USub (.Constant (.int i) _ _) _)) _) _ => i == 1 && (chM z ns o).v s0 sc o'
    | _ => false
  | .own1 k m a => .of fun s0 sc e => match k, e with
    | .len, .Call (.Name x _) [a'] [] _ => (z.nm m == Str.ofString "__len__" && (Str.ofString "len" == x && blB z sc x)) && (nstB a' && (chM z ns a).v s0 sc a')
    | .bool, .Call (.Name x _) [a'] [] _ => (z.nm m == Str.ofString "__bool__" && (Str.ofString "bool" == x && blB z sc x)) && (nstB a' && (chM z ns a).v s0 sc a')
    | _, _ => false
  | .own2 k m a b => .of fun s0 sc e => match k, e with
    | .item, .Subscript a' b' _ => (z.nm m == Str.ofString "__getitem__" && ixB b') && ((chM z ns a).v s0 sc a' && (chM z ns b).v s0 sc b')
    | .add, .BinOp a' .Add b' _ => z.nm m == Str.ofString "__add__" && ((chM z ns a).v s0 sc a' && (chM z ns b).v s0 sc b')
    | _, _ => false
  | .ownC k m a b => .cmp fun s0 sc e => match e with
    | .Compare a' [p] [b'] _ => (owC k == some p && z.nm m == Str.ofString (owN k)) && (!behindInMarks p b' && ((chM z ns a).v s0 sc a' && (chM z ns b).v s0 sc b'))
    | _ => false
  | .cmeth m f c as => .of fun s0 sc e => match e with
    | .Call (.Attribute (.Name x px) y ap) (e1 :: es) [] p => ((z.cg c && (z.cn c == x && glB sc x)) && (z.nm m == y && ap.endLine == p.line)) && ((noSt (e1 :: es) && decide (es.length < 28)) && chs z ns as s0 sc (e1 :: es))
    | _ => false
  | .cmethK m f c ks => .of fun s0 sc e => match e with
    | .Call (.Attribute (.Name x px) y ap) [] kws p => ((z.cg c && (z.cn c == x && glB sc x)) && (z.nm m == y && ap.endLine == p.line)) && (((z.cs f).contains (kws.length + 1, 1) && kwB (((z.pn f).drop 1).take kws.length) kws) && ((noSt (kws.map (·.value)) && decide (0 < kws.length ∧ kws.length < 20 ∧ ks.length = kws.length)) && chs z ns ks s0 sc (kws.map (·.value))))
    | _ => false
  | .callS f o a => .of fun s0 sc e => match e with
    | .Call (.Name x px) [.Starred e1 p1] [] _ => (chM z ns o).v s0 sc (.Name x px) && (nstB e1 && (chM z ns a).v s0 sc e1)
    | _ => false
  | .methK m f o ks => .of fun s0 sc e => match e with
    | .Call (.Attribute o' x ap) [] kws p => (z.nm m == x && (abB o' && ap.endLine == p.line)) && (((z.cs f).contains (kws.length + 1, 1) && kwB (((z.pn f).drop 1).take kws.length) kws) && ((noSt (kws.map (·.value)) && decide (0 < kws.length ∧ kws.length < 20 ∧ ks.length = kws.length)) && ((chM z ns o).v s0 sc o' && chs z ns ks s0 sc (kws.map (·.value)))))
    | _ => false
  | .methW m f o ks => .of fun s0 sc e => match e with
    | .Call (.Attribute o' x ap) [] kws p => (z.nm m == x && (abB o' && ap.endLine == p.line)) && (((z.cw f).contains 3 && kwB [(z.pn f).getD 2 "", (z.pn f).getD 1 ""] kws) && ((noSt (kws.map (·.value)) && decide (kws.length = 2 ∧ ks.length = kws.length)) && ((chM z ns o).v s0 sc o' && chs z ns ks s0 sc (kws.map (·.value)))))
    | _ => false
  | .callW f ks => .of fun s0 sc e => match e with
    | .Call (.Name x _) [] kws _ => (z.fg f && ((z.fnm f == x && (z.cw f).contains 2) && glB sc x)) && (kwB [(z.pn f).getD 1 "", (z.pn f).getD 0 ""] kws && ((noSt (kws.map (·.value)) && decide (kws.length = 2 ∧ ks.length = kws.length)) && chs z ns ks s0 sc (kws.map (·.value))))
    | _ => false
  | .fldX f o => .of fun s0 sc e => match e with
    | .Attribute o' x _ => (z.nm f == x && abB o') && (chM z ns o).v s0 sc o'
    | _ => false
  | .isX t a => .of fun s0 sc e => match e with
    | .Call (.Name x _) [a', .Name y _] [] _ => (Str.ofString "isinstance" == x && blB z sc x) && ((nstB a' && xtB z sc t y) && (chM z ns a).v s0 sc a')
    | _ => false
  | .isXs ts a => .of fun s0 sc e => match e with
    | .Call (.Name x _) [a', .Tuple es _ _] [] _ => (Str.ofString "isinstance" == x && blB z sc x) && ((nstB a' && (xtsB z sc ts es && decide (ts.length ≤ 10))) && (chM z ns a).v s0 sc a')
    | _ => false
  | .mkX c a => .of fun s0 sc e => match e with
    | .Call (.Name x _) [a'] [] _ => (z.xg c && (z.cn c == x && glB sc x)) && (nstB a' && (chM z ns a).v s0 sc a')
    | _ => false
  | .mkXK c as => .of fun s0 sc e => match e with
    | .Call (.Name x _) [] kws _ => (z.xg c && (z.cn c == x && glB sc x)) && ((kwB [z.xp c] kws && noSt (kws.map (·.value))) && chs z ns as s0 sc (kws.map (·.value)))
    | _ => false
  | .repl o y w => .of fun _ _ _ => false
  | .listR a => .of fun s0 sc e => match e with
    | .Call (.Name x _) [.Call (.Name y _) [a'] [] _] [] _ => ((Str.ofString "list" == x && blB z sc x) && (Str.ofString "range" == y && blB z sc y)) && (nstB a' && (chM z ns a).v s0 sc a')
    | _ => false
  | .tup as => .of fun s0 sc e => match e with
    | .Tuple es _ _ => chs z ns as s0 sc es
    | _ => false
  | .lst h as => .of fun s0 sc e => match e with
    | .List es _ => chs z ns as s0 sc es
    | _ => false
  | .dct h ks as => .of fun s0 sc e => match e with
    | .Dict ks' es _ => (dkB ks ks' && decide (ks'.length = es.length ∧ ks'.length ≤ 15)) && (noSt es && chs z ns as s0 sc es)
    | _ => false
  | .dctS a ks as => .of fun s0 sc e => match e with
    | .Dict (none :: ks') (a' :: es) _ => (dkB ks ks' && decide (ks'.length = es.length ∧ ks'.length ≤ 15 ∧ 0 < ks'.length)) && (noSt es && ((nstB a' && (chM z ns a).v s0 sc a') && chs z ns as s0 sc es))
    | _ => false
  | .dget o i y => .of fun s0 sc e => match e with
    | .Call (.Attribute o' x ap) [i', y'] [] p => (Str.ofString "get" == x && (abB o' && ap.endLine == p.line)) && ((nstB i' && nstB y') && ((chM z ns o).v s0 sc o' && ((chM z ns i).v s0 sc i' && (chM z ns y).v s0 sc y')))
    | _ => false
  | .dget1 o i => .of fun s0 sc e => match e with
    | .Call (.Attribute o' x ap) [i'] [] p => (Str.ofString "get" == x && (abB o' && ap.endLine == p.line)) && (nstB i' && ((chM z ns o).v s0 sc o' && (chM z ns i).v s0 sc i'))
    | _ => false
  | .addL a b => .of fun s0 sc e => match e with
    | .BinOp a' p b' _ => bopA .add == p && ((chM z ns a).v s0 sc a' && (chM z ns b).v s0 sc b')
    | _ => false
  | .itemsL o => .of fun s0 sc e => match e with
    | .Call (.Name x _) [.Call (.Attribute o' y ap) [] [] cp] [] _ => ((Str.ofString "list" == x && blB z sc x) && (Str.ofString "items" == y && (abB o' && ap.endLine == cp.line))) && (chM z ns o).v s0 sc o'
    | _ => false
  | .dictP a => .of fun s0 sc e => match e with
    | .Call (.Name x _) [a'] [] _ => (Str.ofString "dict" == x && blB z sc x) && (nstB a' && (chM z ns a).v s0 sc a')
    | _ => false
  | .star a => { chM z ns a with st := true, nl := false }
  | .frz a => .of fun s0 sc e => (chM z ns a).v s0 sc e
  | .comp h own tg one it cond elt => .of fun s0 sc e => match e with
    | .ListComp elt' [⟨tg', it', ifs, isa⟩] scope _ => (isa == 0 && (nsB it' && (blkC ns sc scope (ownN ns own) && tgB ns scope (relS sc scope) one tg tg'))) && (tg.all (fun i => own.contains i) &&
      ((chM z ns it).i s0 sc tg' it' && ((chM z ns cond).c scope (relS sc scope) ifs && (chM z ns elt).v scope (relS sc scope) elt')))
    | _ => false
  | .range as => .it fun s0 sc _ e => match e with
    | .Call (.Name x _) es [] _ => (Str.ofString "range" == x && blB z sc x) && (noSt es && ((es.length == 1 || es.length == 2) && chs z ns as s0 sc es))
    | _ => false
  | .enum a => .it fun s0 sc tg e => match e with
    | .Call (.Name x _) [a'] [] _ => isTupE tg && (Str.ofString "enumerate" == x && blB z sc x) && (nstB a' && (chM z ns a).v s0 sc a')
    | _ => false
  | .zip a b => .it fun _ _ _ _ => false
def chs (z : Nz) (ns : List Str) : List E → Scope → Scope → List Expr → Bool
  | [], _, _, es => es.isEmpty
  | a :: r, s0, sc, es => match es with
    | [] => false
    | e :: es => (match (chM z ns a).st, e with
      | true, .Starred e' _ => (chM z ns a).v s0 sc e'
      | false, e => nstB e && (chM z ns a).v s0 sc e
      | _, _ => false) && chs z ns r s0 sc es
end
end PC
end
section
set_option maxHeartbeats 4000000
namespace PC
open PySem L2 PyProof.Rows
/-- a call with n values, the first j of them by position: all of them, or as the text says; n + 1: the last two by keywords, the last one first -/
def CsOk (N : Nm) (f n j : Nat) : Prop := n = j ∨ (j ≤ n ∧ (n, j) ∈ N.cs f) ∨ (j = n + 1 ∧ n ∈ N.cw f)
/-- the arguments of such a call -/
def argJ (pn : List Str) (us : List Value) (j : Nat) : Args := if j = us.length + 1 then ⟨us.take (us.length - 2), [(pn.getD (us.length - 1) "", us.getD (us.length - 1) .none), (pn.getD (us.length - 2) "", us.getD (us.length - 2) .none)]⟩
  else ⟨us.take j, (pn.drop j).zip (us.drop j)⟩
theorem argJ_le {pn : List Str} {us : List Value} {j : Nat} (h : j ≤ us.length) : argJ pn us j = ⟨us.take j, (pn.drop j).zip (us.drop j)⟩ := if_neg (by omega)
theorem argJ_all {pn : List Str} {us : List Value} : argJ pn us us.length = ⟨us, []⟩ := by
  rw [argJ_le (Nat.le_refl _), List.take_length, List.drop_length, List.zip_nil_right]
theorem argJ_cons {sf : Str} {pn : List Str} {x : Value} {us : List Value} {j : Nat} (h : j ≤ us.length) : argJ (sf :: pn) (x :: us) (j + 1) = ⟨x :: (argJ pn us j).pos, (argJ pn us j).kw⟩ := by
  rw [argJ_le h, argJ_le (by simpa using h)]
  rfl
/-- what the calls promise -/
def PR (N : Nm) (P : Program) (B : Heap) (k : Nat) (cf : CF) : Prop := ∀ (f : Nat) (ds : List D) (g : G) (ws : List V) (L I : Hp) (rs : List Addr) (H : Hp) (Q : VK) (E : XK), Rel N L I rs g H → VRs N I rs ds ws → OkV N L I rs H E Q (cf f ds g) →
  ∀ (j : Nat), CsOk N f ws.length j → ∀ (A : Around) (outer : List PySem.Env) (s : Shared) (us : List Value), Room k A → A.guards = some [] → Env0 P N.w N.K N.mg B A outer s H → Vals ws us →
    codeAny (model P N.w) A (.call (.ref (N.fa f)) (argJ (N.pn f) us j)) (L2.CR (L2.CX P N.w) outer P N.w H s Q E) s
/-- the built-in types of data -/
def tyNs : List String := ["NoneType", "bool", "int", "str", "tuple", "list", "dict"]
/-- a class whose own ways are used, whose instances are asked for their class -/
structure OwC (K : PySem.W.Frag) (C : Addr) : Prop where
  sf : PySem.W.selfFirst K C = true
  ns : PySem.W.noSeq K C = true
  ob : PySem.W.subIn K (.ref C) (.type "object") = some true
  ne : PySem.W.findIn K (.ref C) "__ne__" = some (some (.builtin "object.__ne__"))
  ra : PySem.W.findIn K (.ref C) "__radd__" = some none
  nf : ∀ n ∈ tyNs, PySem.W.notFirst K C (.type n) = true
  ca : PySem.W.findIn K (.ref C) "__class__" = some (some (.builtin "object.__class__"))
  cn : PySem.W.specialIn K (.builtin "object.__class__") "__get__" = some (some (.builtin "getset_descriptor.__get__"))
  ct : PySem.W.takesIn K (.builtin "object.__class__") = some true
  cm : PySem.W.mroIn K C (.type "object") = some true
  cl : Cls K C
/-- what is true of the module -/
structure PFa (N : Nm) (T : Tab) : Prop where
  cm : ∀ c m f, T.cm c m = some f → ∃ p, ClX.CRead N.K (N.ca c) (.type "type") ∧ ClX.CMet N.K (N.ca c) (.type "type") (N.nm m) p (N.fa f)
  kc : ∀ f c, T.kc f = some c → N.fa f = N.ca c ∧ PySem.W.keepIn N.K (.ref (N.fa f)) = true
  ow : ∀ c, T.ow c = true → OwC N.K (N.ca c)
  cls : ∀ c, N.cg c = true → N.mg (N.cn c) = some (.ref (N.ca c)) ∧ (∀ n ∈ tyNs, PySem.W.kitOne N.K (.type n) (.ref (N.ca c)) = some false) ∧ ∀ c', T.ow c' = true → PySem.W.kitOne N.K (.ref (N.ca c')) (.ref (N.ca c)) = some (T.sub c' c)
  fni : ∀ c m f, T.ow c = true → T.mt c m = some f → PySem.W.fnIn N.K (N.fa f) = true
  bn : ∀ x, N.bn x = true → N.mg x = none
  glo : ∀ i d, T.glo i = some d → ∃ v u, N.mg (N.gn i) = some u ∧ RelV v u ∧ VR N (fun _ => none) [] d v
  fn : ∀ f, N.fg f = true → N.mg (N.fnm f) = some (.ref (N.fa f)) ∧ PySem.W.keepIn N.K (.ref (N.fa f)) = true
  mt : ∀ c m f, T.mt c m = some f → Cls N.K (N.ca c) ∧ Meth N.K (N.ca c) (N.nm m) (N.fa f)
  pr : ∀ c m f, T.pr c m = some f → Cls N.K (N.ca c) ∧ ∃ p, PropOf N.K (N.ca c) (N.nm m) p (N.fa f)
  nmi : ∀ i j, N.nm i = N.nm j → i = j
  fl : ∀ c f, T.fl c f = true → Cls N.K (N.ca c) ∧ NoAttr N.K (N.ca c) (N.nm f)
def xtV (N : Nm) : XT → Value
  | .own c => .ref (N.ca c)
  | t => .type (xtN t)
/-- what is true of the module's errors -/
structure XcF (N : Nm) (P : Program) (T : Tab) : Prop where
  sys : SysD N.K
  nm : ∀ c, N.xg c = true → N.mg (N.cn c) = some (.ref (N.ca c))
  mak : ∀ c f, T.exf c = some f → N.mg "super" = none ∧ ∃ B newId initId bmB, EX.Own P N.K B newId initId bmB (N.ca c) (N.nm f) (N.xp c)
  sub : ∀ c f c', T.exf c = some f → N.xg c' = true → PySem.W.exmOne N.K (.ref (N.ca c)) (.ref (N.ca c')) = some (T.xi c (.own c'))
  fld : ∀ c f, T.exf c = some f → XfC N.K (N.ca c) ∧ PySem.W.findIn N.K (.ref (N.ca c)) (N.nm f) = some none ∧ ExcC N.K (N.ca c)
  xi : ∀ c f t, T.exf c = some f → (∀ c', t = .own c' → N.xg c' = true) → PySem.W.kitOne N.K (.ref (N.ca c)) (xtV N t) = some (T.xi c t)
structure XS (N : Nm) (P : Program) (B : Heap) (T : Tab) (cf : CF) (k : Nat) (ns : List Str) (s0 sc : Scope) (W : XK) (X : Cx) : Prop where
  F : XF N X
  prog : X.prog = P
  mg : X.mg = N.mg
  base : X.base = B
  hN : X.N = ns
  nd : ns.Nodup
  sc : X.env.scope = sc
  hf : ∀ x, lk s0 x = some .cell → X.fn x = true
  room : Room (k + 2) X.A
  pr : PR N P B k cf
  hx : Passes (L2.CX P N.w) X W
  fa : PFa N T
  xf : XcF N P T
section
variable {N : Nm} {P : Program} {B : Heap} {T : Tab} {cf : CF} {k : Nat} {ns : List Str} {s0 sc : Scope} {W : XK} {X : Cx}
/-- the callee runs -/
theorem XS.cp (S : XS N P B T cf k ns s0 sc W X) {f : Nat} {ds : List D} {g : G} {ws : List V} {L I : Hp} {rs : List Addr} {H : Hp} {Q : VK} (R : Rel N L I rs g H) (hv : VRs N I rs ds ws) (ok : OkV N L I rs H W Q (cf f ds g)) (j : Nat) (cj : CsOk N f ws.length j) :
    ∀ (pins : List (Addr × Obj)) (s : Shared) (σ : L2.St) (us : List Value), Inv X pins σ H s → Vals ws us → wpAny (model X.prog X.w) X.A (PySem.call (.ref (N.fa f)) (argJ (N.pn f) us j).pos (argJ (N.pn f) us j).kw) (EP X pins σ Q) X.xe s := by
  intro pins s σ us J r
  have e0 := J.env0
  have h := S.pr f ds g ws L I rs H Q W R hv ok j cj X.A X.stack s us (S.room.mono (by omega)) S.F.hg
  have hx := S.hx
  have e1 := S.prog
  have e2 := S.mg
  have e3 := S.base
  have e4 := S.F.hK
  have e5 := S.F.hw
  subst e1 e3
  rw [← e5, ← e4, ← e2] at h
  rw [← e5] at hx
  refine wpAny_call (codeAny_mono (h e0 r) fun r s' hq => ?_)
  cases r with
  | error e => exact hx pins σ H s e s' J hq
  | ok fl =>
    cases fl with
    | ret u => exact J.after hq
    | next => exact False.elim hq
    | brk => exact False.elim hq
    | cont => exact False.elim hq
/-- the callee runs below a built-in function -/
theorem XS.cb (S : XS N P B T cf k ns s0 sc W X) {f : Nat} {ds : List D} {g : G} {ws : List V} {L I : Hp} {rs : List Addr} {H : Hp} {Q : VK} (R : Rel N L I rs g H) (hv : VRs N I rs ds ws) (ok : OkV N L I rs H W Q (cf f ds g)) {A : Around} (hr : Room k A) (hg : A.guards = some [])
    (he : ∀ {pins : List (Addr × Obj)} {s : Shared} {σ : L2.St}, Inv X pins σ H s → Env0 X.prog X.w X.K X.mg X.base A X.stack s H) :
    ∀ (pins : List (Addr × Obj)) (s : Shared) (σ : L2.St) (us : List Value), Inv X pins σ H s → Vals ws us → wpAny (model X.prog X.w) A (PySem.call (.ref (N.fa f)) us) (EP X pins σ Q) X.xe s := by
  intro pins s σ us J r
  have e0 := he J
  have h := S.pr f ds g ws L I rs H Q W R hv ok us.length (.inl r.length) A X.stack s us hr hg
  rw [argJ_all] at h
  have hx := S.hx
  have e1 := S.prog
  have e2 := S.mg
  have e3 := S.base
  have e4 := S.F.hK
  have e5 := S.F.hw
  subst e1 e3
  rw [← e5, ← e4, ← e2] at h
  rw [← e5] at hx
  refine wpAny_call (codeAny_mono (h e0 r) fun r s' hq => ?_)
  cases r with
  | error e => exact hx pins σ H s e s' J hq
  | ok fl =>
    cases fl with
    | ret u => exact J.after hq
    | next => exact False.elim hq
    | brk => exact False.elim hq
    | cont => exact False.elim hq
theorem XS.cb1 (S : XS N P B T cf k ns s0 sc W X) {f : Nat} {ds : List D} {g : G} {ws : List V} {L I : Hp} {rs : List Addr} {H : Hp} {Q : VK} (R : Rel N L I rs g H) (hv : VRs N I rs ds ws) (ok : OkV N L I rs H W Q (cf f ds g)) (pins : List (Addr × Obj)) (s : Shared) (σ : L2.St) (us : List Value) (J : Inv X pins σ H s) (r : Vals ws us) :
    wpAny (model X.prog X.w) X.A.in1 (PySem.call (.ref (N.fa f)) us) (EP X pins σ Q) X.xe s :=
  S.cb R hv ok ((S.room.mono (by omega : k + 1 ≤ k + 2)).in1) S.F.hg (fun J => J.env0.in1) pins s σ us J r
theorem XS.cb2 (S : XS N P B T cf k ns s0 sc W X) {f : Nat} {ds : List D} {g : G} {ws : List V} {L I : Hp} {rs : List Addr} {H : Hp} {Q : VK} (R : Rel N L I rs g H) (hv : VRs N I rs ds ws) (ok : OkV N L I rs H W Q (cf f ds g)) (pins : List (Addr × Obj)) (s : Shared) (σ : L2.St) (us : List Value) (J : Inv X pins σ H s) (r : Vals ws us) :
    wpAny (model X.prog X.w) X.A.in1.in1 (PySem.call (.ref (N.fa f)) us) (EP X pins σ Q) X.xe s :=
  S.cb R hv ok (S.room.in1.in1) S.F.hg (fun J => J.env0.in1.in1) pins s σ us J r
theorem XS.rc (S : XS N P B T cf k ns s0 sc W X) {f : Nat} {ds : List D} {g : G} {ws : List V} {L I : Hp} {rs : List Addr} {H : Hp} {Q : VK} (R : Rel N L I rs g H) (hv : VRs N I rs ds ws) (ok : OkV N L I rs H W Q (cf f ds g)) :
    RC X (.ref (N.fa f)) ws H Q := fun pins s σ us J r => by
  have h := S.cp R hv ok us.length (.inl r.length) pins s σ us J r
  rw [argJ_all] at h
  exact h

/-! ### readings, weaker -/
theorem wt_mono {e : Expr} {σ : L2.St} {H : Hp} {Q Q' : Bool → Hp → Prop} (h : WT X e σ H Q) (k : ∀ v H', Q v H' → Q' v H') : WT X e σ H Q' := fun pins s I => thn (h pins s I) fun _ _ ⟨H', I', q⟩ => ⟨H', I', k _ H' q⟩
theorem wa_mono {es : List Expr} {σ : L2.St} {H : Hp} {Q Q' : List V → Hp → Prop} (h : WA X es σ H Q) (k : ∀ v H', Q v H' → Q' v H') : WA X es σ H Q' := fun pos pins s I => thn (h pos pins s I) fun _ _ ⟨v, H', I', r, q⟩ => ⟨v, H', I', r, k v H' q⟩
def WI (X : Cx) (tg iter : Expr) : TI := fun σ H R => ∀ (pins : List (Addr × Obj)) (s : Shared), Inv X pins σ H s →
  wpAny (model X.prog X.w) X.A (eval iter X.env) (fun v s1 => wpAny (model X.prog X.w) X.A (pyIter v) (PIE X pins σ tg R) X.xe s1) X.xe s
theorem wi {tg iter : Expr} : PI X tg iter (WI X tg iter) := ⟨fun pins s _ _ _ I h => h pins s I⟩
theorem wi_of {tg iter : Expr} {t : TI} (h : PI X tg iter t) {σ : L2.St} {H : Hp} {R : It → Hp → Prop} (q : t σ H R) : WI X tg iter σ H R := fun pins s I => h.run pins s σ H R I q
/-- a bound of a slice -/
def WO (X : Cx) (e : Option Expr) : TO := fun σ H Q => ∀ (pins : List (Addr × Obj)) (s : Shared), Inv X pins σ H s → wpAny (model X.prog X.w) X.A (evalPart e X.env) (fun v s' => ∃ o H', Inv X pins σ H' s' ∧ IsPart v o ∧ Q o H') X.xe s

/-- the first of two runs -/
theorem Ok.first {α β γ δ : Type} {N : Nm} {L : Hp} {P1 : Hp → List Addr → α → γ → Prop} {P2 : Hp → List Addr → β → δ → Prop} {I : Hp} {rs : List Addr} {H : Hp} {W : XK} {Q : δ → Hp → Prop} {r : R α} {k : α → G → R β}
    (ok : Ok N L P2 I rs H W Q (r.bind k)) : Ok N L P1 I rs H W (fun b H1 => ∃ a g1 I1 rs1, Ext I rs H I1 rs1 H1 ∧ Rel N L I1 rs1 g1 H1 ∧ P1 I1 rs1 a b ∧ Ok N L P2 I1 rs1 H1 W Q (k a g1)) r := by
  cases r with
  | ok a g => exact fun I' rs' H' b e R p => ⟨a, g, I', rs', e, R, p, ok.after e⟩
  | exc x g => exact ok
  | stk => exact ok
/-! ### texts -/
theorem star_eq {e : Expr} {es : List Expr} {env : PySem.Env} (h : nstB e = true) : starEach (e :: es) env = (false, eval e env) :: starEach es env := by
  cases e <;> first | rfl | cases h
theorem star_any {es : List Expr} {env : PySem.Env} {pos : Pos} (h : noSt es = true) : (backTo pos (starEach es env)).any (·.1) = false := by
  induction es with
  | nil => rfl
  | cons e es ih =>
    simp only [noSt, List.all_cons, Bool.and_eq_true] at h
    rw [star_eq h.1]
    simp only [backTo, List.map_cons, List.any_cons, Bool.false_or] at ih ⊢
    exact ih h.2
theorem star_all {es : List Expr} {env : PySem.Env} {pos : Pos} (h : noSt es = true) : (backTo pos (starEach es env)).all (fun x => !x.1) = true := by
  induction es with
  | nil => rfl
  | cons e es ih =>
    simp only [noSt, List.all_cons, Bool.and_eq_true] at h
    rw [star_eq h.1]
    simp only [backTo, List.map_cons, List.all_cons, Bool.not_false, Bool.true_and] at ih ⊢
    exact ih h.2
theorem ab_eq {o : Expr} {m : Str} {env : PySem.Env} {wh : Sem Value} (h : abB o = true) : attributeBase o m env wh = wh := by
  unfold abB at h
  split at h
  · rename_i id p pos
    have hb : (id != ("super" : Str)) = true := h
    unfold attributeBase
    simp only [hb, Bool.true_or, if_true, bind_pure]
  · rename_i n
    unfold attributeBase
    split
    · rename_i id p pos
      exact absurd rfl (n id p pos)
    · rfl
theorem ix_plain {b : Expr} (h : ixB b = true) : PlainIx b := by
  intro o i
  cases b <;> first | rfl | cases h
theorem ns_fold {e : Expr} {env : PySem.Env} (h : nsB e = true) : ∀ x, foldedSetIterable e env x = pure x := by
  intro x
  cases e <;> first | rfl | cases h
theorem pt_plain {e : Expr} {env : PySem.Env} (h : ptB e = true) : ∀ whole, isTrue e env whole = (do let v ← whole; standAt e.pos; holding [v] (truthy v)) := by
  intro wh
  cases e <;> first
    | rfl
    | cases h
    | (rename_i op _ _; cases op <;> first | rfl | cases h)
theorem lk_eq {sc : Scope} {x : Str} {k : NameKind} (h : (lk sc x == some k) = true) : sc.names.lookup x = some k := eq_of_beq h
theorem vis_of {sc : Scope} {x : Str} (h : visB sc x = true) : Vis sc x ∧ (x == ("__debug__" : Str)) = false ∧ (x == ("__classdict__" : Str)) = false := by
  unfold visB at h
  simp only [Bool.and_eq_true, Bool.or_eq_true, Bool.not_eq_true', beq_iff_eq] at h
  refine ⟨?_, h.2.1, h.2.2⟩
  rcases h.1 with z | z | z
  · exact .inl z
  · exact .inr (.inl z)
  · exact .inr (.inr z)
theorem gl_of {sc : Scope} {x : Str} (h : glB sc x = true) (hs : X.env.scope = sc) : Gl X x ∧ (x == ("__debug__" : Str)) = false := by
  unfold glB at h
  simp only [Bool.and_eq_true, Bool.not_eq_true', beq_iff_eq] at h
  refine ⟨?_, h.2⟩
  show X.env.scope.names.lookup x = _
  rw [hs]
  exact h.1
theorem bl_of (S : XS N P B T cf k ns s0 sc W X) {x : Str} (h : blB N.toNz sc x = true) : Gl X x ∧ X.mg x = none ∧ x ≠ ("__name__" : Str) ∧ (x == ("__debug__" : Str)) = false := by
  unfold blB at h
  simp only [Bool.and_eq_true, Bool.not_eq_true'] at h
  obtain ⟨h1, h2⟩ := gl_of (X := X) h.1 S.sc
  exact ⟨h1, by rw [S.mg]; exact S.fa.bn x h.2.1, fun e => by rw [e] at h; simp at h, h2⟩
end
end PC
end
section
set_option maxHeartbeats 4000000
namespace PC
open PySem L2 PyProof.Rows
/-- a value of the module is that data -/
def valB (K : PySem.W.Frag) : Nat → D → Value → Bool
  | 0, _, _ => false
  | n + 1, d, u => match d, u with
    | .non, .none => true
    | .bl b, .bool c => b == c
    | .int i, .int j _ => i == j
    | .str s, .str x _ => s == x.cps.toList
    | .tup ds, .ref a => (match K.lookup a with
      | some ⟨.type "tuple", _, .seq its _, _⟩ => decide (its.size ≤ sizeLine) && go n ds its.toList
      | _ => false)
    | .lst ds, .ref a => (match K.lookup a with
      | some ⟨.type "list", none, .seq its _, sl⟩ => (sl.isEmpty && decide (its.size ≤ sizeLine)) && go n ds its.toList
      | _ => false)
    | _, _ => false
where go (n : Nat) : List D → List Value → Bool
  | [], [] => true
  | d :: ds, u :: us => valB K n d u && go n ds us
  | _, _ => false
/-! ### dicts of the module -/
/-- the entries of a dict are these -/
def entB (K : PySem.W.Frag) : List (List Nat) → List D → List DictEntry → Bool
  | [], [], [] => true
  | k :: ks, d :: ds, e :: l => (match e.key with
    | .str y _ => k == y.cps.toList
    | _ => false) && (valB K 20 d e.val && entB K ks ds l)
  | _, _, _ => false
def mdB (K : PySem.W.Frag) (a : Addr) : D → Bool
  | .mdc ks vs => (match K.lookup a with
    | some ⟨_, _, .dict es _, _⟩ => !ks.isEmpty && (ks.all (fun k => match k with | .s _ => true | .i _ => false) && entB K (ks.filterMap fun k => match k with | .s x => some x | .i _ => none) vs es.toList)
    | _ => false)
  | _ => false
/-- the keys of a dict of the module -/
def mdK : D → List Str
  | .mdc ks _ => ks.filterMap fun k => match k with | .s x => some (st x) | .i _ => none
  | _ => []
def isMd : D → Bool
  | .mdc _ _ => true
  | _ => false
/-! ### what is used of a text -/
/-- where a def, a class stands -/
inductive At where
  | glo (x : Str)
  | meth (c m : Str)
  | get (c p : Str)
  | cmeth (c m : Str)
  deriving DecidableEq
def adA (K : PySem.W.Frag) : At → Addr
  | .glo x => He.ga K x
  | .meth c m => He.ma K (He.ga K c) m
  | .get c p => match PySem.W.recIn K (He.ma K (He.ga K c) p) "property" with
    | some (.ref g :: _) => g
    | _ => 0
  | .cmeth c m => match PySem.W.recIn K (He.ma K (He.ga K c) m) "classmethod" with
    | some (.ref g :: _) => g
    | _ => 0
def fnA (K : PySem.W.Frag) (a : Addr) : He.FnW := match K.lookup a with
  | some ⟨_, _, .func fd, _⟩ => some (fd.name, fd.qualname, fd.params, fd.body, fd.scope, fd.globals, fd.closure, fd.builtins)
  | _ => none
/-- a def, or a class that is called: its name, where it stands, its parameters, its names, its code, its text, how it is called by keywords -/
structure Pd where
  x : Str
  at_ : At
  ps : List Str
  ns : List Str
  F : Fn
  name : Str
  qual : Str
  params : Arguments
  body : List Stmt
  scope : Scope
  cs : List (Nat × Nat)
  cw : List Nat := []
def Pd.isFn (d : Pd) : Bool := match d.F.kd with
  | .fn => true
  | _ => false
/-- a class: its name, methods, properties, names that instances have of their own -/
structure Pc where
  x : Str
  mt : List (Nat × Nat)
  pr : List (Nat × Nat)
  fl : List Nat
  ow : Bool := false
  cm : List (Nat × Nat) := []
/-- the __init__ of an error class: the field, the built-in class above, the two parameters, its text -/
structure Xi where
  f : Nat
  b : XT
  sf : Str
  pp : Str
  name : Str
  qual : Str
  params : Arguments
  body : List Stmt
  scope : Scope
/-- an error class: its name, what its errors are, its __init__ -/
structure Xc where
  x : Str
  xi : List XT
  i : Option Xi
structure Prg where
  gl : List (Nat × (Str × D))
  fs : List (Nat × Pd)
  cl : List (Nat × Pc)
  nm : List Str
  bl : List Str
  xc : List (Nat × Xc)
  file : Str
def nmO (l : List Str) (i : Nat) : Str := match l[i]? with
  | some x => x
  | none => st [0, i]
def Prg.z (p : Prg) : Nz where
  nm := nmO p.nm
  gn := fun i => ((p.gl.lookup i).map (·.1)).getD ""
  fnm := fun i => ((p.fs.lookup i).map (·.x)).getD ""
  pn := fun i => ((p.fs.lookup i).map (·.ps)).getD []
  cn := fun i => match p.cl.lookup i with
    | some k => k.x
    | none => ((p.xc.lookup i).map (·.x)).getD ""
  fg := fun i => match p.fs.lookup i with
    | some d => (match d.at_ with
      | .glo _ => true
      | _ => false)
    | none => false
  cg := fun c => match p.cl.lookup c with
    | some k => k.ow
    | none => false
  bn := fun x => p.bl.contains x
  cs := fun i => ((p.fs.lookup i).map (·.cs)).getD []
  cw := fun i => ((p.fs.lookup i).map (·.cw)).getD []
  xg := fun i => (p.xc.lookup i).isSome
  xp := fun i => match p.xc.lookup i with
    | some k => (match k.i with
      | some i => i.pp
      | none => "")
    | none => ""
def Prg.T (p : Prg) : Tab where
  fn := fun i => (p.fs.lookup i).map (·.F)
  mt := fun c m => (p.cl.lookup c).bind fun k => k.mt.lookup m
  pr := fun c m => (p.cl.lookup c).bind fun k => k.pr.lookup m
  fl := fun c f => match p.cl.lookup c with
    | some k => k.fl.contains f
    | none => false
  glo := fun i => (p.gl.lookup i).map (·.2)
  exf := fun c => (p.xc.lookup c).bind fun k => k.i.map (·.f)
  sub := fun c c' => decide (c = c')
  ow := fun c => match p.cl.lookup c with
    | some k => k.ow
    | none => false
  cm := fun c m => (p.cl.lookup c).bind fun k => k.cm.lookup m
  kc := fun f => (p.fs.lookup f).bind fun d => match d.F.kd with
    | .cel c _ => some c
    | _ => none
  xi := fun c t => match p.xc.lookup c with
    | some k => k.xi.contains t
    | none => false
/-- the defaults of a def -/
def dflQ (K : PySem.W.Frag) (dV : Value) : List D → Bool
  | [] => (match dV with
    | .none => true
    | _ => false)
  | d :: ds => (match dV with
    | .ref T => (match K.lookup T with
      | some ⟨_, _, .seq its _, _⟩ => valB.go K 20 (d :: ds) its.toList
      | _ => false)
    | _ => false)
def Pd.ok (K : PySem.W.Frag) (d : Pd) : Bool := (match d.at_ with
    | .glo x => (He.Fa.glo x).ok K && decide (x = d.x)
    | _ => true) && (if d.isFn then PySem.W.keepIn K (.ref (adA K d.at_)) && (match K.lookup (adA K d.at_) with
    | some ⟨_, _, .func fd, _⟩ => PySem.W.codeIn K fd.code d.qual && dflQ K fd.defaults d.F.dfl
    | _ => false)
  else (match d.at_ with
    | .glo x => (He.Fa.mkr x).ok K
    | _ => false))
def propB (K : PySem.W.Frag) (c p : Str) : Bool := He.eqO (PySem.W.findIn K (.ref (He.ga K c)) p) (some (some (.ref (He.ma K (He.ga K c) p)))) && (He.eqO (PySem.W.specialIn K (.ref (He.ma K (He.ga K c) p)) "__get__") (some (some (.builtin "property.__get__"))) &&
  (decide (PySem.W.takesIn K (.ref (He.ma K (He.ga K c) p)) = some true) && (match PySem.W.recIn K (He.ma K (He.ga K c) p) "property" with
    | some (.ref g :: _) => decide (g = adA K (.get c p))
    | _ => false)))
def cmB (K : PySem.W.Frag) (c m : Str) : Bool := (PySem.W.readsIn K (He.ga K c) (.type "type") && He.eqO (PySem.W.specialIn K (.ref (He.ga K c)) "__getattribute__") (some (some (.builtin "type.__getattribute__")))) &&
  ((match PySem.W.findCls K (.ref (He.ga K c)) (.type "type") m with
    | some (.get (.builtin b) (.ref p) .none (.ref C)) => b == "classmethod.__get__" && (p == He.ma K (He.ga K c) m && C == He.ga K c)
    | _ => false) && ((match PySem.W.recIn K (He.ma K (He.ga K c) m) "classmethod" with
    | some (.ref g :: _) => decide (g = adA K (.cmeth c m))
    | _ => false) && PySem.W.fnIn K (adA K (.cmeth c m))))
def owB (K : PySem.W.Frag) (C : Addr) : Bool := PySem.W.selfFirst K C && (PySem.W.noSeq K C && (decide (PySem.W.subIn K (.ref C) (.type "object") = some true) && (He.eqO (PySem.W.findIn K (.ref C) "__ne__") (some (some (.builtin "object.__ne__"))) &&
  (He.eqO (PySem.W.findIn K (.ref C) "__radd__") (some none) && (tyNs.all (fun n => PySem.W.notFirst K C (.type n)) && (He.eqO (PySem.W.findIn K (.ref C) "__class__") (some (some (.builtin "object.__class__"))) &&
  (He.eqO (PySem.W.specialIn K (.builtin "object.__class__") "__get__") (some (some (.builtin "getset_descriptor.__get__"))) && (decide (PySem.W.takesIn K (.builtin "object.__class__") = some true) && decide (PySem.W.mroIn K C (.type "object") = some true)))))))))
/-- what is asked of the classes whose own ways are used -/
def Prg.owQ (cl : List (Nat × Pc)) (nm : List Str) (K : PySem.W.Frag) : Bool := cl.all fun q => !q.2.ow || ((He.Fa.glo q.2.x).ok K && (owB K (He.ga K q.2.x) && (q.2.mt.all (fun r => PySem.W.fnIn K (He.ma K (He.ga K q.2.x) (nmO nm r.1))) && (tyNs.all (fun n => decide (PySem.W.kitOne K (.type n) (.ref (He.ga K q.2.x)) = some false)) &&
  cl.all fun r => !r.2.ow || decide (PySem.W.kitOne K (.ref (He.ga K r.2.x)) (.ref (He.ga K q.2.x)) = some (decide (r.1 = q.1)))))))
def Pc.ok (K : PySem.W.Frag) (nm : List Str) (c : Pc) : Bool := (He.Fa.cls c.x).ok K && (c.mt.all (fun q => (He.Fa.meth c.x (nmO nm q.1)).ok K) && ((c.pr.all (fun q => propB K c.x (nmO nm q.1)) && c.cm.all (fun q => cmB K c.x (nmO nm q.1))) && c.fl.all (fun f => (He.Fa.noat c.x (nmO nm f)).ok K)))
/-- the built-in class above an error class -/
def xbB : XT → String
  | .run => "RuntimeError"
  | .look => "LookupError"
  | _ => "ValueError"
def xbN : XT → String
  | .run => "RuntimeError.__new__"
  | .look => "LookupError.__new__"
  | _ => "ValueError.__new__"
def xbI : XT → String
  | .run => "RuntimeError.__init__"
  | .look => "LookupError.__init__"
  | _ => "ValueError.__init__"
def xbM : XT → List Value
  | .run => [.type "RuntimeError", .type "Exception", .type "BaseException", .type "object"]
  | .look => [.type "LookupError", .type "Exception", .type "BaseException", .type "object"]
  | _ => [.type "ValueError", .type "Exception", .type "BaseException", .type "object"]
/-- an own __init__, without its closure -/
def fnK (K : PySem.W.Frag) (a : Addr) : He.FnW := match K.lookup a with
  | some ⟨_, _, .func fd, _⟩ => some (fd.name, fd.qualname, fd.params, fd.body, fd.scope, fd.globals, [], fd.builtins)
  | _ => none
def xiA (K : PySem.W.Frag) (q : Nat × Xc) : He.FnW := match q.2.i with
  | some _ => fnK K (He.ma K (He.ga K q.2.x) "__init__")
  | none => none
def xiW (q : Nat × Xc) : He.FnW := match q.2.i with
  | some i => some (i.name, i.qual, i.params, .stmts i.body, i.scope, mainGlobals, [], builtinsNs)
  | none => none
/-- the def at fI is an own __init__ of C, but for its text -/
def xfnB (K : PySem.W.Frag) (file qual : Str) (C fI : Addr) : Bool := match K.lookup fI with
  | some ⟨_, _, .func fd, _⟩ => (match fd.closure, fd.code, fd.defaults with
    | [(y, cc)], .ref cda, .none => y == ("__class__" : Str) && ((match K.lookup cc with
        | some ⟨_, _, .cell (some (.ref C')), _⟩ => C' == C
        | _ => false) && (PySem.W.codeIn K (.ref cda) qual && (match K.lookup cda with
        | some ⟨_, _, .fields vs, _⟩ => (match (vs[2]? : Option Value) with
          | some (.str g _) => file == g
          | _ => false)
        | _ => false)))
    | _, _, _ => false)
  | _ => false
/-- the class C is an own error class over b, with the field f -/
def xcB (K : PySem.W.Frag) (b : XT) (f : Str) (C : Addr) : Bool := PySem.W.excInitIn K C (xbM b) (xbN b) && (PySem.W.excOver K C (xbM b) && (He.eqO (PySem.W.takerIn K C f) (some none) && (PySem.W.hasDictIn K C && (He.eqO (PySem.W.findIn K (.ref C) "__setattr__") (some (some (.builtin "object.__setattr__"))) &&
  (decide (PySem.W.subIn K (.ref C) (.type (xbB b)) = some true) && (decide (PySem.W.subIn K (.ref C) (.type "BaseException") = some true) && (decide (PySem.W.typeIn K (.ref C) = some (.type "type")) && (PySem.W.keepIn K (.ref C) && (decide (PySem.W.mroIn K C (.ref C) = some true) &&
  (He.eqO (PySem.W.nsIn K cStatics "thirdparty.any") (some none) && (He.eqO (PySem.W.ks_superIn K C C "__init__") (some (some (.builtin (xbI b)))) && (He.eqO (PySem.W.findIn K (.ref C) "__init__") (some (some (.ref (He.ma K C "__init__")))) && (decide (PySem.W.typeIn K (.ref (He.ma K C "__init__")) = some (.type "function")) &&
  (He.eqO (PySem.W.findIn K (.ref C) "__getattribute__") (some (some (.builtin "BaseException.__getattribute__"))) && (He.eqO (PySem.W.findIn K (.ref C) "__getattr__") (some none) && (He.eqO (PySem.W.findIn K (.ref C) "__class__") (some (some (.builtin "object.__class__"))) &&
  (He.eqO (PySem.W.specialIn K (.builtin "object.__class__") "__get__") (some (some (.builtin "getset_descriptor.__get__"))) && (decide (PySem.W.takesIn K (.builtin "object.__class__") = some true) && (decide (PySem.W.mroIn K C (.type "object") = some true) && He.eqO (PySem.W.findIn K (.ref C) f) (some none))))))))))))))))))))
def xtK (xc : List (Nat × Xc)) (K : PySem.W.Frag) : XT → Value
  | .own c => (match xc.lookup c with
    | some k => .ref (He.ga K k.x)
    | none => .ref 0)
  | t => .type (xtN t)
/-- the classes of errors of the language that are asked for -/
def xtAll : List XT := [.val, .run, .look, .key, .idx, .nyi]
def xtI (xc : List (Nat × Xc)) : XT → Bool
  | .own c => (xc.lookup c).isSome
  | _ => true
def Prg.xcQ (p : Prg) (K : PySem.W.Frag) : Bool := p.xc.all fun q => (He.Fa.glo q.2.x).ok K && ((p.cl.lookup q.1).isNone && (match q.2.i with
  | none => true
  | some i => p.bl.contains "super" && (xcB K i.b (nmO p.nm i.f) (He.ga K q.2.x) && (xfnB K p.file i.qual (He.ga K q.2.x) (He.ma K (He.ga K q.2.x) "__init__") && (xtAll.all (fun t => decide (PySem.W.kitOne K (.ref (He.ga K q.2.x)) (.type (xtN t)) = some (q.2.xi.contains t))) && (p.xc.all (fun r => decide (PySem.W.kitOne K (.ref (He.ga K q.2.x)) (.ref (He.ga K r.2.x)) = some (q.2.xi.contains (.own r.1)))) &&
    p.xc.all fun r => decide (PySem.W.exmOne K (.ref (He.ga K q.2.x)) (.ref (He.ga K r.2.x)) = some (q.2.xi.contains (.own r.1)))))))))
/-- what is looked at of sys.modules -/
def sysB (K : PySem.W.Frag) : Bool := match K.lookup sysModules with
  | some o => o.cls == .type "dict"
  | none => false
def Prg.look (p : Prg) (K : PySem.W.Frag) : Bool := (sysB K && p.xcQ K) && (p.fs.all (fun q => q.2.ok K) && (p.bl.all (fun x => (He.Fa.free x).ok K) && ((p.cl.all (fun q => q.2.ok K p.nm) && Prg.owQ p.cl p.nm K) && p.gl.all (fun q => match PySem.W.nsIn K mainGlobals q.2.1 with
  | some (some u) => (if isMd q.2.2 then (He.Fa.glo q.2.1).ok K && mdB K (He.ga K q.2.1) q.2.2 else valB K 20 q.2.2 u)
  | _ => false))))
/-- the dicts of the module that are looked at -/
def Prg.mds (p : Prg) : List (Str × D) := p.gl.filterMap fun q => if isMd q.2.2 then some q.2 else none
def Prg.obs (p : Prg) (K : PySem.W.Frag) : He.AlT := ((p.look K, (p.fs.map fun q => if q.2.isFn then fnA K (adA K q.2.at_) else none) ++ p.xc.map (xiA K)), p.mds.map fun q => He.dicW K (He.ga K q.1))
def Pd.val (d : Pd) : He.FnW := some (d.name, d.qual, d.params, .stmts d.body, d.scope, mainGlobals, [], builtinsNs)
def Prg.val (p : Prg) (w : World) : He.AlT := ((true, (p.fs.map fun q => if q.2.isFn then q.2.val else none) ++ p.xc.map xiW), p.mds.map fun q => some (He.keysIn w.params (mdK q.2)))
/-- what is reached from the module, layer by layer, each address once (a number's bits tell which were met) -/
def bfs (g : Addr → Option Obj) : Nat → List Addr → List Addr → Nat → List Addr
  | 0, _, _, _ => []
  | _ + 1, [], [], _ => []
  | n + 1, [], b :: next, seen => bfs g n (b :: next) [] seen
  | n + 1, a :: r, next, seen => match Nat.testBit seen a with
    | true => bfs g n r next seen
    | false => a :: bfs g n r (match g a with
      | some o => He.refsD o ++ next
      | none => next) (Nat.lor seen (Nat.shiftLeft 1 a))
def Prg.obsG (p : Prg) (n : Nat) (g : Addr → Option Obj) : He.AlT := p.obs (He.frG g (cStatics :: sysModules :: bfs g n [mainGlobals] [] 0))
def Prg.hook (p : Prg) (n : Nat) : PySem.W.Hook where
  α := He.AlT
  obs := fun s => p.obsG n s.heap.get?
  val := fun w => p.val w
  says := fun w h => ∃ K : PySem.W.Frag, K.In h ∧ p.obs K = p.val w
  of := fun _ _ e => ⟨_, He.frG_in, e⟩
  keeps := fun _ _ _ ⟨K, hK, c⟩ k => ⟨K, PySem.W.Frag.In.keeps hK k, c⟩
theorem Prg.obs_eq {p : Prg} {n : Nat} {g : Addr → Option Obj} {s : Shared} (h : ∀ a, g a = s.heap.get? a) : p.obsG n g = (p.hook n).obs s := by
  rw [show g = s.heap.get? from funext h]
  rfl
end PC
end
section
set_option maxHeartbeats 4000000
/-! PG: the codes of the program's defs (printed by gen2.py). -/
namespace PG
open PC
def nms : List PySem.Str := (["levels", "goal", "frames", "phase", "token", "in_phase", "with_token", "opened", "is_prefix", "innermost", "closed", "reframed", "signs", "behind", "good", "verdict", "place", "parts", "source", "__add__", "__bool__", "__len__", "__eq__", "bound", "rows", "most", "all_entries", "add", "newest", "matching", "__getitem__", "__contains__", "own_state", "all_lines", "exchanged", "put_in", "of", "text", "spot", "work", "total_work", "change", "take_out", "withdraw", "lead_of", "twin", "own_buffer", "own_kept", "__enter__", "__exit__", "shelf", "open_buffer", "finished", "settled", "prompt", "waiting", "entered", "hint", "feed", "feed_all", "change_line", "give_up", "recall", "given", "position", "found", "limit", "many"] : List String).map PySem.Str.ofString
/-- signs.LETTERS -/
def v0 : D := .str [97, 98, 99, 100, 101, 102, 103, 104, 105, 106, 107, 108, 109, 110, 111, 112, 113, 114, 115, 116, 117, 118, 119, 120, 121, 122, 65, 66, 67, 68, 69, 70, 71, 72, 73, 74, 75, 76, 77, 78, 79, 80, 81, 82, 83, 84, 85, 86, 87, 88, 89, 90, 95]
/-- signs.DIGITS -/
def v1 : D := .str [48, 49, 50, 51, 52, 53, 54, 55, 56, 57]
/-- signs.OTHERS -/
def v2 : D := .str [32, 33, 34, 35, 36, 38, 39, 40, 41, 42, 43, 44, 45, 46, 47, 58, 59, 60, 61, 62, 63, 64, 91, 92, 93, 94, 96, 123, 124, 125, 126]
/-- signs.KEYWORDS -/
def v3 : D := .tup [.str [97, 110, 100], .str [98, 114, 101, 97, 107], .str [100, 101, 102], .str [101, 108, 105, 102], .str [101, 108, 115, 101], .str [101, 120, 99, 101, 112, 116], .str [102, 105, 110, 97, 108, 108, 121], .str [102, 111, 114], .str [105, 102], .str [105, 110], .str [110, 111, 116], .str [111, 114], .str [112, 97, 115, 115], .str [114, 101, 116, 117, 114, 110], .str [116, 114, 121], .str [119, 104, 105, 108, 101]]
/-- states.ANY_WORD -/
def v4 : D := .tup [.str [98, 101, 103, 105, 110], .str [109, 111, 114, 101], .str [115, 117, 105, 116, 101], .str [109, 97, 121, 98, 101], .str [111, 112, 101, 114, 97, 110, 100], .str [102, 105, 114, 115, 116], .str [97, 114, 103], .str [115, 116, 97, 116, 101, 109, 101, 110, 116], .str [110, 97, 109, 101], .str [99, 104, 97, 105, 110, 110, 97, 109, 101], .str [100, 101, 102, 110, 97, 109, 101], .str [102, 111, 114, 110, 97, 109, 101], .str [101, 120, 99, 101, 112, 116, 110, 97, 109, 101], .str [112, 97, 114, 97, 109]]
/-- states.DONE -/
def v5 : D := .tup [.str [116, 97, 114, 103, 101, 116], .str [99, 104, 97, 105, 110], .str [97, 102, 116, 101, 114], .str [115, 101, 97, 108, 101, 100], .str [110, 97, 109, 101, 100]]
/-- states.BINARY_WORDS -/
def v6 : D := .tup [.str [97, 110, 100], .str [111, 114], .str [105, 110]]
/-- states.CLAUSES -/
def v7 : D := .mdc [.s [], .s [105, 102], .s [116, 114, 121], .s [101, 120, 99, 101, 112, 116]] [.tup [], .tup [.str [101, 108, 105, 102], .str [101, 108, 115, 101]], .tup [.str [101, 120, 99, 101, 112, 116], .str [102, 105, 110, 97, 108, 108, 121]], .tup [.str [101, 120, 99, 101, 112, 116], .str [102, 105, 110, 97, 108, 108, 121]]]
/-- states.LINE_ENDS -/
def v8 : D := .tup [.str [116, 97, 114, 103, 101, 116], .str [99, 104, 97, 105, 110], .str [97, 102, 116, 101, 114], .str [115, 101, 97, 108, 101, 100], .str [101, 110, 100], .str [109, 97, 121, 98, 101], .str [109, 111, 114, 101], .str [115, 117, 105, 116, 101]]
/-- states.HEADERS -/
def v9 : D := .tup [.str [105, 102], .str [119, 104, 105, 108, 101], .str [102, 111, 114], .str [100, 101, 102], .str [116, 114, 121]]
/-- states.STARTS -/
def v10 : D := .tup [.str [98, 101, 103, 105, 110], .str [109, 111, 114, 101], .str [115, 117, 105, 116, 101]]
/-- states.OPERANDS -/
def v11 : D := .tup [.str [98, 101, 103, 105, 110], .str [109, 111, 114, 101], .str [115, 117, 105, 116, 101], .str [109, 97, 121, 98, 101], .str [111, 112, 101, 114, 97, 110, 100], .str [102, 105, 114, 115, 116], .str [97, 114, 103]]
/-- states.DIGITS -/
def v12 : D := .str [48, 49, 50, 51, 52, 53, 54, 55, 56, 57]
/-- states.CLOSERS -/
def v13 : D := .mdc [.s [40], .s [99], .s [112], .s [91], .s [105], .s [123, 107], .s [123, 118], .s [102]] [.str [41], .str [41], .str [41], .str [93], .str [93], .str [125], .str [125], .str [125]]
/-- states.CHAINS -/
def v14 : D := .tup [.str [116, 97, 114, 103, 101, 116], .str [99, 104, 97, 105, 110]]
/-- completing.NAMES -/
def v15 : D := .tup [.str [110, 97, 109, 101], .str [99, 104, 97, 105, 110, 110, 97, 109, 101], .str [100, 101, 102, 110, 97, 109, 101], .str [102, 111, 114, 110, 97, 109, 101]]
/-- completing.ENDS -/
def v16 : D := .mdc [.s [40], .s [91], .s [123], .s [36, 34]] [.str [41], .str [93], .str [125], .str [34]]
/-- histories.GREATEST -/
def v17 : D := .int 100
/-- buffers.MOST_LINES -/
def v18 : D := .int 300
/-- likeness.PIECES -/
def v19 : D := .tup [.str [48], .str [120], .str [46, 120], .str [61, 48], .str [41], .str [93], .str [125], .str [34], .str [39], .str [34, 34, 34], .str [39, 39, 39], .str [58], .str [44], .str [59], .str [10], .str [105, 110, 32]]
/-- likeness.WORDS -/
def v20 : D := .tup [.str [114, 101, 116, 117, 114, 110, 59], .str [98, 114, 101, 97, 107, 59], .str [101, 108, 115, 101, 58], .str [101, 108, 105, 102, 32, 48, 58], .str [101, 120, 99, 101, 112, 116, 58], .str [102, 105, 110, 97, 108, 108, 121, 58]]
/-- trials.LENGTHS -/
def v21 : D := .mdc [.s [112, 117, 116], .s [97, 100, 100], .s [99, 104, 97, 110, 103, 101], .s [116, 97, 107, 101], .s [119, 105, 116, 104, 100, 114, 97, 119]] [.int 3, .int 2, .int 3, .int 2, .int 2]
/-- consoles.FRESH_PROMPT -/
def v22 : D := .str [62, 62, 62, 32]
/-- consoles.WRONG_PROMPT -/
def v23 : D := .str [33, 33, 33, 32]
/-- consoles.MORE_PROMPT -/
def v24 : D := .str [46, 46, 46, 32]
/-- consoles.STEP -/
def v25 : D := .int 4
/-- signs.consists_of -/
def c0 : List S := [.ret (.and_ (.isi [.str] (.loc 0)) (.bi .all [.comp false [2] [2] true (.loc 0) .nil (.cmp .in_ (.loc 2) (.loc 1))]))]
def f0 : Fn := ⟨2, [], 3, false, .fn, c0⟩
/-- signs.is_line -/
def c1 : List S := [.ret (.call 0 [.loc 0, .bin .add (.bin .add (.glo 0) (.glo 1)) (.glo 2)])]
def f1 : Fn := ⟨1, [], 1, false, .fn, c1⟩
/-- signs.is_text -/
def c2 : List S := [.ret (.call 0 [.loc 0, .bin .add (.bin .add (.bin .add (.glo 0) (.glo 1)) (.glo 2)) (.con (.str [10]))])]
def f2 : Fn := ⟨1, [], 1, false, .fn, c2⟩
/-- signs.is_word -/
def c3 : List S := [.ret (.and_ (.call 0 [.loc 0, .bin .add (.glo 0) (.glo 1)]) (.and_ (.cmp .ne (.loc 0) (.con (.str []))) (.cmp .in_ (.sub (.loc 0) (.con (.int 0))) (.glo 0))))]
def f3 : Fn := ⟨1, [], 1, false, .fn, c3⟩
/-- signs.is_name -/
def c4 : List S := [.ret (.and_ (.call 3 [.loc 0]) (.cmp .notin (.loc 0) (.glo 3)))]
def f4 : Fn := ⟨1, [], 1, false, .fn, c4⟩
/-- states.State.__init__ -/
def c5 : List S := [.setF 0 (.loc 0) (.loc 1),
  .setF 1 (.loc 0) (.loc 2),
  .setF 2 (.loc 0) (.loc 3),
  .setF 3 (.loc 0) (.loc 4),
  .setF 4 (.loc 0) (.loc 5)]
def f5 : Fn := ⟨6, [.tup [], .tup [.str [115, 116, 97, 114, 116], .int 0, .tup []], .tup [], .str [], .tup []], 6, false, .fn, c5⟩
/-- states.State -/
def f6 : Fn := ⟨5, [.tup [], .tup [.str [115, 116, 97, 114, 116], .int 0, .tup []], .tup [], .str [], .tup []], 5, false, .rcd 0 [0, 1, 2, 3, 4] 5, []⟩
/-- states.State.in_phase -/
def c7 : List S := [.ret (.call 6 [.fld 0 (.loc 0), .fld 1 (.loc 0), .fld 2 (.loc 0), .loc 1, .loc 2])]
def f7 : Fn := ⟨3, [.tup []], 3, false, .fn, c7⟩
/-- states.State.with_token -/
def c8 : List S := [.ret (.call 6 [.fld 0 (.loc 0), .fld 1 (.loc 0), .fld 2 (.loc 0), .fld 3 (.loc 0), .loc 1])]
def f8 : Fn := ⟨2, [], 2, true, .fn, c8⟩
/-- states.State.opened -/
def c9 : List S := [.ret (.call 6 [.fld 0 (.loc 0), .fld 1 (.loc 0), .tup [.star (.fld 2 (.loc 0)), .tup [.loc 1, .loc 2]], .loc 3])]
def f9 : Fn := ⟨4, [], 4, false, .fn, c9⟩
/-- states.State.reframed -/
def c10 : List S := [.set 3 (.sub (.sub (.fld 2 (.loc 0)) (.neg (.con (.int 1)))) (.con (.int 1))),
  .ret (.call 6 [.fld 0 (.loc 0), .fld 1 (.loc 0), .tup [.star (.slc (.fld 2 (.loc 0)) .nil (.neg (.con (.int 1)))), .tup [.loc 1, .loc 3]], .loc 2])]
def f10 : Fn := ⟨3, [], 4, false, .fn, c10⟩
/-- states.State.closed -/
def c11 : List S := [.unp [2, 3] (.sub (.fld 2 (.loc 0)) (.neg (.con (.int 1)))),
  .set 1 (.ite (.cmp .eq (.loc 2) (.con (.str [102]))) (.tup [.con (.str [116, 101, 109, 112, 108, 97, 116, 101]), .loc 3, .con (.bl false)]) (.tup [])),
  .ret (.call 6 [.fld 0 (.loc 0), .fld 1 (.loc 0), .slc (.fld 2 (.loc 0)) .nil (.neg (.con (.int 1))), .loc 3, .loc 1])]
def f11 : Fn := ⟨1, [], 4, false, .fn, c11⟩
/-- states.State.innermost -/
def c12 : List S := [.ret (.ite (.cmp .ne (.fld 2 (.loc 0)) (.tup [])) (.sub (.sub (.fld 2 (.loc 0)) (.neg (.con (.int 1)))) (.con (.int 0))) (.con (.str [])))]
def f12 : Fn := ⟨1, [], 1, false, .fn, c12⟩
/-- states.State.is_prefix -/
def c13 : List S := [.ite (.cmp .in_ (.fld 3 (.loc 0)) (.glo 4)) [.ret (.con (.bl true))] [],
  .set 2 (.tup []),
  .ite (.cmp .in_ (.fld 3 (.loc 0)) (.glo 5)) [.set 2 (.glo 6)] [.ite (.cmp .eq (.fld 3 (.loc 0)) (.con (.str [102, 111, 114, 105, 110]))) [.set 2 (.tup [.con (.str [105, 110])])] [.ite (.cmp .eq (.fld 3 (.loc 0)) (.con (.str [99, 108, 97, 117, 115, 101]))) [.set 2 (.sub (.glo 7) (.sub (.fld 1 (.loc 0)) (.con (.int 1))))] []]],
  .ret (.bi .any [.comp false [3] [3] true (.loc 2) .nil (.bm .startswith (.loc 3) [.loc 1])])]
def f13 : Fn := ⟨2, [], 4, false, .fn, c13⟩
/-- states.with_clauses -/
def c14 : List S := [.unp [2, 3, 4, 5] (.sub (.loc 0) (.neg (.con (.int 1)))),
  .ret (.tup [.star (.slc (.loc 0) .nil (.neg (.con (.int 1)))), .tup [.loc 2, .loc 1, .loc 4, .loc 5]])]
def f14 : Fn := ⟨2, [], 6, false, .fn, c14⟩
/-- states.after_line -/
def c15 : List S := [.ite (.or_ (.cmp .notin (.fld 3 (.loc 0)) (.glo 8)) (.cmp .ne (.sub (.fld 1 (.loc 0)) (.con (.int 0))) (.con (.str [115, 109, 97, 108, 108])))) [.ret (.con (.non))] [],
  .unp [2, 3, 4, 5, 6] (.fld 1 (.loc 0)),
  .ite (.loc 6) [.ret (.call 6 [.tup [], .tup [.con (.str [100, 111, 110, 101])]])] [],
  .set 1 (.ite (.cmp .eq (.fld 3 (.loc 0)) (.con (.str [115, 117, 105, 116, 101]))) (.tup [.loc 4, .loc 5]) (.tup [])),
  .ret (.call 6 [.call 14 [.fld 0 (.loc 0), .loc 3], .tup [.con (.str [115, 116, 97, 114, 116]), .con (.int 0), .loc 1]])]
def f15 : Fn := ⟨1, [], 7, false, .fn, c15⟩
/-- states.after_empty_line -/
def c16 : List S := [.unp [1, 2, 3] (.fld 1 (.loc 0)),
  .ite (.cmp .eq (.fld 0 (.loc 0)) (.tup [])) [.ret (.call 6 [])] [],
  .ite (.or_ (.cmp .ne (.loc 3) (.tup [])) (.bi .any [.comp false [4] [4] true (.fld 0 (.loc 0)) .nil (.cmp .eq (.sub (.loc 4) (.con (.int 1))) (.con (.str [116, 114, 121])))])) [.ret (.con (.non))] [],
  .ret (.call 6 [.tup [], .tup [.con (.str [100, 111, 110, 101])]])]
def f16 : Fn := ⟨1, [], 5, false, .fn, c16⟩
/-- states.line_begun -/
def c17 : List S := [.unp [3, 4, 5] (.fld 1 (.loc 0)),
  .ite (.cmp .eq (.fld 0 (.loc 0)) (.tup [])) [.ret (.ite (.cmp .eq (.loc 4) (.con (.int 0))) (.call 6 [.tup [.tup [.con (.int 0), .con (.str []), .con (.bl false), .con (.bl false)]], .tup [.con (.str [108, 105, 110, 101]), .con (.str []), .con (.bl true)], .tup [], .con (.str [115, 116, 97, 116, 101, 109, 101, 110, 116])]) (.con (.non)))] [],
  .ite (.cmp .ne (.loc 5) (.tup [])) [.ite (.cmp .le (.loc 4) (.sub (.sub (.fld 0 (.loc 0)) (.neg (.con (.int 1)))) (.con (.int 0)))) [.ret (.con (.non))] [],
  .ret (.call 6 [.tup [.star (.fld 0 (.loc 0)), .tup [.loc 4, .con (.str []), .star (.loc 5)]], .tup [.con (.str [108, 105, 110, 101]), .con (.str []), .con (.bl false)], .tup [], .con (.str [115, 116, 97, 116, 101, 109, 101, 110, 116])])] [],
  .set 1 (.fld 0 (.loc 0)),
  .while_ (.and_ (.cmp .gt (.sub (.sub (.loc 1) (.neg (.con (.int 1)))) (.con (.int 0))) (.loc 4)) (.cmp .ne (.sub (.sub (.loc 1) (.neg (.con (.int 1)))) (.con (.int 1))) (.con (.str [116, 114, 121])))) [.set 1 (.slc (.loc 1) .nil (.neg (.con (.int 1))))],
  .unp [6, 7, 8, 9] (.sub (.loc 1) (.neg (.con (.int 1)))),
  .ite (.cmp .ne (.loc 6) (.loc 4)) [.ret (.con (.non))] [],
  .set 2 (.ite (.or_ (.cmp .eq (.loc 6) (.con (.int 0))) (.cmp .eq (.loc 7) (.con (.str [116, 114, 121])))) (.con (.str [99, 108, 97, 117, 115, 101])) (.con (.str [115, 116, 97, 116, 101, 109, 101, 110, 116]))),
  .ret (.call 6 [.call 14 [.loc 1, .con (.str [])], .tup [.con (.str [108, 105, 110, 101]), .loc 7, .con (.bl false)], .tup [], .loc 2])]
def f17 : Fn := ⟨1, [], 10, false, .fn, c17⟩
/-- states.small_begun -/
def c18 : List S := [.unp [1, 2, 3, 4] (.sub (.fld 0 (.loc 0)) (.neg (.con (.int 1)))),
  .ret (.call 6 [.fld 0 (.loc 0), .tup [.con (.str [115, 109, 97, 108, 108]), .con (.str []), .loc 3, .loc 4, .sub (.fld 1 (.loc 0)) (.con (.int 2))], .tup [], .con (.str [98, 101, 103, 105, 110])])]
def f18 : Fn := ⟨1, [], 5, false, .fn, c18⟩
/-- states.header_begun -/
def c19 : List S := [.unp [6, 7, 8, 9] (.sub (.fld 0 (.loc 0)) (.neg (.con (.int 1)))),
  .set 2 (.dget (.dct false [.s [105, 102], .s [101, 108, 105, 102], .s [116, 114, 121], .s [101, 120, 99, 101, 112, 116]] [.con (.str [105, 102]), .con (.str [105, 102]), .con (.str [116, 114, 121]), .con (.str [101, 120, 99, 101, 112, 116])]) (.loc 1) (.con (.str []))),
  .set 3 (.ite (.cmp .eq (.loc 1) (.con (.str [100, 101, 102]))) (.tup [.con (.bl true), .con (.bl false)]) (.tup [.loc 8, .or_ (.loc 9) (.cmp .in_ (.loc 1) (.tup [.con (.str [119, 104, 105, 108, 101]), .con (.str [102, 111, 114])]))])),
  .set 4 (.dct false [.s [101, 108, 115, 101], .s [116, 114, 121], .s [102, 105, 110, 97, 108, 108, 121], .s [100, 101, 102], .s [102, 111, 114]] [.con (.str [99, 111, 108, 111, 110]), .con (.str [99, 111, 108, 111, 110]), .con (.str [99, 111, 108, 111, 110]), .con (.str [100, 101, 102, 110, 97, 109, 101]), .con (.str [102, 111, 114, 110, 97, 109, 101])]),
  .set 5 (.ite (.cmp .eq (.loc 1) (.con (.str [101, 120, 99, 101, 112, 116]))) (.con (.str [101, 120, 99, 101, 112, 116, 110, 97, 109, 101])) (.dget (.loc 4) (.loc 1) (.con (.str [111, 112, 101, 114, 97, 110, 100])))),
  .ret (.call 6 [.fld 0 (.loc 0), .tup [.con (.str [104, 101, 97, 100]), .loc 2, .star (.loc 3)], .tup [], .loc 5])]
def f19 : Fn := ⟨2, [], 10, false, .fn, c19⟩
/-- states.after_word -/
def c20 : List S := [.set 2 (.fld 3 (.loc 0)),
  .ite (.cmp .eq (.loc 2) (.con (.str [99, 108, 97, 117, 115, 101]))) [.ret (.ite (.cmp .in_ (.loc 1) (.sub (.glo 7) (.sub (.fld 1 (.loc 0)) (.con (.int 1))))) (.call 19 [.loc 0, .loc 1]) (.con (.non)))] [],
  .ite (.cmp .eq (.loc 2) (.con (.str [115, 116, 97, 116, 101, 109, 101, 110, 116]))) [.ite (.or_ (.cmp .in_ (.loc 1) (.glo 9)) (.cmp .in_ (.loc 1) (.sub (.glo 7) (.sub (.fld 1 (.loc 0)) (.con (.int 1)))))) [.ret (.call 19 [.loc 0, .loc 1])] [],
  .ret (.call 20 [.call 18 [.loc 0], .loc 1])] [],
  .ite (.cmp .in_ (.loc 2) (.glo 5)) [.ret (.ite (.cmp .in_ (.loc 1) (.glo 6)) (.meth 5 (.loc 0) [.con (.str [111, 112, 101, 114, 97, 110, 100])]) (.con (.non)))] [],
  .ite (.cmp .eq (.loc 2) (.con (.str [102, 111, 114, 105, 110]))) [.ret (.ite (.cmp .eq (.loc 1) (.con (.str [105, 110]))) (.meth 5 (.loc 0) [.con (.str [111, 112, 101, 114, 97, 110, 100])]) (.con (.non)))] [],
  .ite (.and_ (.cmp .in_ (.loc 2) (.glo 10)) (.cmp .in_ (.loc 1) (.tup [.con (.str [112, 97, 115, 115]), .con (.str [98, 114, 101, 97, 107]), .con (.str [114, 101, 116, 117, 114, 110])]))) [.ite (.cmp .eq (.loc 1) (.con (.str [114, 101, 116, 117, 114, 110]))) [.ret (.ite (.sub (.fld 1 (.loc 0)) (.con (.int 2))) (.meth 5 (.loc 0) [.con (.str [109, 97, 121, 98, 101])]) (.con (.non)))] [],
  .ret (.ite (.or_ (.cmp .eq (.loc 1) (.con (.str [112, 97, 115, 115]))) (.sub (.fld 1 (.loc 0)) (.con (.int 3)))) (.meth 5 (.loc 0) [.con (.str [101, 110, 100])]) (.con (.non)))] [],
  .ite (.and_ (.cmp .in_ (.loc 2) (.glo 11)) (.cmp .eq (.loc 1) (.con (.str [110, 111, 116])))) [.ret (.meth 5 (.loc 0) [.con (.str [111, 112, 101, 114, 97, 110, 100])])] [],
  .ite (.cmp .in_ (.loc 1) (.glo 3)) [.ret (.con (.non))] [],
  .ite (.cmp .in_ (.loc 2) (.glo 11)) [.ret (.meth 5 (.loc 0) [.ite (.cmp .in_ (.loc 2) (.glo 10)) (.con (.str [116, 97, 114, 103, 101, 116])) (.ite (.cmp .eq (.loc 2) (.con (.str [97, 114, 103]))) (.con (.str [110, 97, 109, 101, 100])) (.con (.str [97, 102, 116, 101, 114])))])] [],
  .set 3 (.dct false [.s [110, 97, 109, 101], .s [99, 104, 97, 105, 110, 110, 97, 109, 101], .s [100, 101, 102, 110, 97, 109, 101], .s [102, 111, 114, 110, 97, 109, 101]] [.con (.str [97, 102, 116, 101, 114]), .con (.str [116, 97, 114, 103, 101, 116]), .con (.str [100, 101, 102, 111, 112, 101, 110]), .con (.str [102, 111, 114, 105, 110])]),
  .ret (.meth 5 (.loc 0) [.sub (.dctS (.loc 3) [.s [101, 120, 99, 101, 112, 116, 110, 97, 109, 101], .s [112, 97, 114, 97, 109]] [.con (.str [99, 111, 108, 111, 110]), .con (.str [112, 97, 114, 97, 109, 100, 111, 110, 101])]) (.loc 2)])]
def f20 : Fn := ⟨2, [], 4, false, .fn, c20⟩
/-- states.may_assign -/
def c21 : List S := [.ite (.cmp .eq (.loc 1) (.con (.str [110, 97, 109, 101, 100]))) [.ret (.con (.bl true))] [],
  .ret (.and_ (.cmp .eq (.loc 1) (.con (.str [116, 97, 114, 103, 101, 116]))) (.and_ (.cmp .eq (.sub (.fld 1 (.loc 0)) (.con (.int 0))) (.con (.str [115, 109, 97, 108, 108]))) (.cmp .eq (.fld 2 (.loc 0)) (.tup []))))]
def f21 : Fn := ⟨2, [], 2, false, .fn, c21⟩
/-- states.after_short -/
def c22 : List S := [.unp [2, 3, 4, 5] (.fld 4 (.loc 0)),
  .ite (.cmp .eq (.loc 1) (.con (.str [10]))) [.ret (.con (.non))] [],
  .ite (.and_ (.not_ (.loc 5)) (.cmp .eq (.loc 1) (.loc 3))) [.ret (.meth 5 (.loc 0) [.loc 4])] [],
  .ret (.meth 6 (.loc 0) [.con (.str [115, 104, 111, 114, 116]), .loc 3, .loc 4, .and_ (.not_ (.loc 5)) (.cmp .eq (.loc 1) (.con (.str [92])))])]
def f22 : Fn := ⟨2, [], 6, false, .fn, c22⟩
/-- states.after_long -/
def c23 : List S := [.unp [2, 3, 4, 5, 6] (.fld 4 (.loc 0)),
  .ite (.or_ (.loc 6) (.cmp .notin (.loc 1) (.tup [.loc 3, .con (.str [92])]))) [.ret (.meth 6 (.loc 0) [.con (.str [108, 111, 110, 103]), .loc 3, .loc 4, .con (.int 0), .con (.bl false)])] [],
  .ite (.cmp .eq (.loc 1) (.con (.str [92]))) [.ret (.meth 6 (.loc 0) [.con (.str [108, 111, 110, 103]), .loc 3, .loc 4, .con (.int 0), .con (.bl true)])] [],
  .ret (.ite (.cmp .eq (.loc 5) (.con (.int 2))) (.meth 5 (.loc 0) [.loc 4]) (.meth 6 (.loc 0) [.con (.str [108, 111, 110, 103]), .loc 3, .loc 4, .bin .add (.loc 5) (.con (.int 1)), .con (.bl false)]))]
def f23 : Fn := ⟨2, [], 7, false, .fn, c23⟩
/-- states.after_template -/
def c24 : List S := [.unp [2, 3, 4] (.fld 4 (.loc 0)),
  .ite (.or_ (.cmp .eq (.loc 1) (.con (.str [10]))) (.and_ (.cmp .eq (.loc 1) (.con (.str [125]))) (.not_ (.loc 4)))) [.ret (.con (.non))] [],
  .ite (.loc 4) [.ret (.meth 6 (.loc 0) [.con (.str [116, 101, 109, 112, 108, 97, 116, 101]), .loc 3, .con (.bl false)])] [],
  .ite (.cmp .eq (.loc 1) (.con (.str [123]))) [.ret (.meth 7 (.loc 0) [.con (.str [102]), .loc 3, .con (.str [111, 112, 101, 114, 97, 110, 100])])] [],
  .ret (.ite (.cmp .eq (.loc 1) (.con (.str [34]))) (.meth 5 (.loc 0) [.loc 3]) (.meth 6 (.loc 0) [.con (.str [116, 101, 109, 112, 108, 97, 116, 101]), .loc 3, .cmp .eq (.loc 1) (.con (.str [92]))]))]
def f24 : Fn := ⟨2, [], 5, false, .fn, c24⟩
/-- states.after_plain -/
def c25 : List S := [.ite (.cmp .eq (.sub (.fld 1 (.loc 0)) (.con (.int 0))) (.con (.str [100, 111, 110, 101]))) [.ret (.con (.non))] [],
  .ite (.cmp .eq (.sub (.fld 1 (.loc 0)) (.con (.int 0))) (.con (.str [115, 116, 97, 114, 116]))) [.ret (.call 36 [.loc 0, .loc 1])] [],
  .ite (.or_ (.cmp .eq (.loc 1) (.con (.str [32]))) (.and_ (.cmp .eq (.loc 1) (.con (.str [10]))) (.cmp .ne (.fld 2 (.loc 0)) (.tup [])))) [.ret (.loc 0)] [],
  .ite (.cmp .eq (.loc 1) (.con (.str [92]))) [.ret (.meth 6 (.loc 0) [.con (.str [106, 111, 105, 110])])] [],
  .ite (.cmp .eq (.loc 1) (.con (.str [10]))) [.ret (.call 15 [.loc 0])] [],
  .ite (.cmp .eq (.loc 1) (.con (.str [35]))) [.ret (.ite (.or_ (.cmp .ne (.fld 2 (.loc 0)) (.tup [])) (.cmp .isnot (.call 15 [.loc 0]) (.con (.non)))) (.meth 6 (.loc 0) [.con (.str [99, 111, 109, 109, 101, 110, 116])]) (.con (.non)))] [],
  .ret (.call 35 [.loc 0, .loc 1])]
def f25 : Fn := ⟨2, [], 2, false, .fn, c25⟩
/-- states.after_operator -/
def c26 : List S := [.set 2 (.sub (.fld 4 (.loc 0)) (.con (.int 0))),
  .ite (.cmp .eq (.loc 1) (.con (.str [61]))) [.ret (.meth 5 (.loc 0) [.con (.str [111, 112, 101, 114, 97, 110, 100])])] [],
  .ite (.or_ (.cmp .eq (.loc 2) (.con (.str [108, 101, 115, 115]))) (.and_ (.cmp .eq (.loc 2) (.con (.str [101, 113, 117, 97, 108]))) (.call 21 [.loc 0, .fld 3 (.loc 0)]))) [.ret (.call 25 [.meth 5 (.loc 0) [.con (.str [111, 112, 101, 114, 97, 110, 100])], .loc 1])] [],
  .ret (.con (.non))]
def f26 : Fn := ⟨2, [], 3, false, .fn, c26⟩
/-- states.after_word_sign -/
def c27 : List S := [.set 2 (.sub (.fld 4 (.loc 0)) (.con (.int 1))),
  .ite (.or_ (.cmp .in_ (.loc 1) (.glo 0)) (.cmp .in_ (.loc 1) (.glo 12))) [.ret (.ite (.meth 8 (.loc 0) [.bin .add (.loc 2) (.loc 1)]) (.meth 6 (.loc 0) [.con (.str [119, 111, 114, 100]), .bin .add (.loc 2) (.loc 1)]) (.con (.non)))] [],
  .set 3 (.call 20 [.loc 0, .loc 2]),
  .ret (.ite (.cmp .is_ (.loc 3) (.con (.non))) (.con (.non)) (.call 25 [.loc 3, .loc 1]))]
def f27 : Fn := ⟨2, [], 4, false, .fn, c27⟩
/-- states.after_number -/
def c28 : List S := [.ite (.and_ (.cmp .in_ (.loc 1) (.glo 12)) (.cmp .eq (.sub (.fld 4 (.loc 0)) (.con (.int 1))) (.con (.str [49])))) [.ret (.loc 0)] [],
  .ite (.or_ (.cmp .in_ (.loc 1) (.glo 0)) (.cmp .in_ (.loc 1) (.glo 12))) [.ret (.con (.non))] [],
  .ret (.call 25 [.meth 5 (.loc 0) [.con (.str [115, 101, 97, 108, 101, 100])], .loc 1])]
def f28 : Fn := ⟨2, [], 2, false, .fn, c28⟩
/-- states.after_quote -/
def c29 : List S := [.unp [2, 3, 4] (.fld 4 (.loc 0)),
  .ite (.cmp .eq (.loc 2) (.con (.str [101, 109, 112, 116, 121]))) [.ite (.cmp .eq (.loc 1) (.loc 3)) [.ret (.meth 6 (.loc 0) [.con (.str [108, 111, 110, 103]), .loc 3, .loc 4, .con (.int 0), .con (.bl false)])] [],
  .ret (.call 25 [.meth 5 (.loc 0) [.loc 4], .loc 1])] [],
  .ite (.cmp .eq (.loc 1) (.loc 3)) [.ret (.meth 6 (.loc 0) [.con (.str [101, 109, 112, 116, 121]), .loc 3, .loc 4])] [],
  .ret (.call 22 [.meth 6 (.loc 0) [.con (.str [115, 104, 111, 114, 116]), .loc 3, .loc 4, .con (.bl false)], .loc 1])]
def f29 : Fn := ⟨2, [], 5, false, .fn, c29⟩
/-- states.after_token -/
def c30 : List S := [.mtch (.sub (.fld 4 (.loc 0)) (.con (.int 0))) [[[119, 111, 114, 100]], [[110, 117, 109, 98, 101, 114]], [[115, 104, 111, 114, 116]], [[108, 111, 110, 103]], [[116, 101, 109, 112, 108, 97, 116, 101]], [[113, 117, 111, 116, 101], [101, 109, 112, 116, 121]], [[108, 101, 115, 115], [101, 113, 117, 97, 108], [98, 97, 110, 103]], [[100, 111, 108, 108, 97, 114]], [[106, 111, 105, 110]]] [[.ret (.call 27 [.loc 0, .loc 1])], [.ret (.call 28 [.loc 0, .loc 1])], [.ret (.call 22 [.loc 0, .loc 1])], [.ret (.call 23 [.loc 0, .loc 1])], [.ret (.call 24 [.loc 0, .loc 1])], [.ret (.call 29 [.loc 0, .loc 1])], [.ret (.call 26 [.loc 0, .loc 1])], [.ret (.ite (.cmp .eq (.loc 1) (.con (.str [34]))) (.meth 6 (.loc 0) [.con (.str [116, 101, 109, 112, 108, 97, 116, 101]), .sub (.fld 4 (.loc 0)) (.con (.int 1)), .con (.bl false)]) (.con (.non)))], [.ret (.ite (.cmp .eq (.loc 1) (.con (.str [10]))) (.meth 5 (.loc 0) [.fld 3 (.loc 0)]) (.con (.non)))], []],
  .ret (.ite (.cmp .eq (.loc 1) (.con (.str [10]))) (.call 25 [.meth 5 (.loc 0) [.fld 3 (.loc 0)], .loc 1]) (.loc 0))]
def f30 : Fn := ⟨2, [], 2, false, .fn, c30⟩
/-- states.after_operand_sign -/
def c31 : List S := [.set 2 (.fld 3 (.loc 0)),
  .set 3 (.ite (.cmp .in_ (.loc 2) (.glo 10)) (.con (.str [99, 104, 97, 105, 110])) (.con (.str [97, 102, 116, 101, 114]))),
  .ite (.cmp .in_ (.loc 1) (.glo 12)) [.ret (.meth 6 (.loc 0) [.con (.str [110, 117, 109, 98, 101, 114]), .ite (.cmp .eq (.loc 1) (.con (.str [48]))) (.con (.str [48])) (.con (.str [49]))])] [],
  .ite (.cmp .in_ (.loc 1) (.con (.str [39, 34]))) [.ret (.meth 5 (.loc 0) [.con (.str []), .tup [.con (.str [113, 117, 111, 116, 101]), .loc 1, .loc 3]])] [],
  .ite (.cmp .eq (.loc 1) (.con (.str [36]))) [.ret (.meth 5 (.loc 0) [.con (.str []), .tup [.con (.str [100, 111, 108, 108, 97, 114]), .loc 3]])] [],
  .ite (.cmp .eq (.loc 1) (.con (.str [45]))) [.ret (.meth 5 (.loc 0) [.con (.str [111, 112, 101, 114, 97, 110, 100])])] [],
  .ite (.cmp .in_ (.loc 1) (.con (.str [40, 91, 123]))) [.ret (.meth 7 (.loc 0) [.ite (.cmp .eq (.loc 1) (.con (.str [123]))) (.con (.str [123, 107])) (.loc 1), .loc 3, .con (.str [102, 105, 114, 115, 116])])] [],
  .ite (.and_ (.cmp .in_ (.loc 2) (.tup [.con (.str [102, 105, 114, 115, 116]), .con (.str [97, 114, 103])])) (.cmp .eq (.loc 1) (.sub (.glo 13) (.meth 9 (.loc 0) [])))) [.ret (.meth 10 (.loc 0) [])] [],
  .ret (.ite (.and_ (.cmp .eq (.loc 2) (.con (.str [109, 97, 121, 98, 101]))) (.cmp .eq (.loc 1) (.con (.str [59])))) (.meth 5 (.loc 0) [.con (.str [109, 111, 114, 101])]) (.con (.non)))]
def f31 : Fn := ⟨2, [], 4, false, .fn, c31⟩
/-- states.after_comma -/
def c32 : List S := [.mtch (.meth 9 (.loc 0) []) [[[40], [91]], [[99]], [[123, 118]], [[112]]] [[.ret (.meth 5 (.loc 0) [.con (.str [102, 105, 114, 115, 116])])], [.ret (.meth 5 (.loc 0) [.con (.str [97, 114, 103])])], [.ret (.meth 11 (.loc 0) [.con (.str [123, 107]), .con (.str [102, 105, 114, 115, 116])])], [.ret (.meth 5 (.loc 0) [.con (.str [112, 97, 114, 97, 109])])], []],
  .ret (.con (.non))]
def f32 : Fn := ⟨1, [], 1, false, .fn, c32⟩
/-- states.after_colon -/
def c33 : List S := [.ite (.cmp .eq (.meth 9 (.loc 0) []) (.con (.str [123, 107]))) [.ret (.meth 11 (.loc 0) [.con (.str [123, 118]), .con (.str [111, 112, 101, 114, 97, 110, 100])])] [],
  .ite (.or_ (.cmp .ne (.fld 2 (.loc 0)) (.tup [])) (.cmp .ne (.sub (.fld 1 (.loc 0)) (.con (.int 0))) (.con (.str [104, 101, 97, 100])))) [.ret (.con (.non))] [],
  .unp [1, 2, 3, 4] (.fld 1 (.loc 0)),
  .ret (.call 6 [.fld 0 (.loc 0), .tup [.con (.str [115, 109, 97, 108, 108]), .loc 2, .loc 3, .loc 4, .con (.bl false)], .tup [], .con (.str [115, 117, 105, 116, 101])])]
def f33 : Fn := ⟨1, [], 5, false, .fn, c33⟩
/-- states.after_done_sign -/
def c34 : List S := [.par [2, 3] [.fld 3 (.loc 0), .meth 9 (.loc 0) []],
  .ite (.cmp .in_ (.loc 1) (.con (.str [43, 45, 42, 47]))) [.ret (.meth 5 (.loc 0) [.con (.str [111, 112, 101, 114, 97, 110, 100])])] [],
  .ite (.cmp .in_ (.loc 1) (.con (.str [60, 62]))) [.ret (.meth 6 (.loc 0) [.con (.str [108, 101, 115, 115])])] [],
  .ite (.cmp .in_ (.loc 1) (.con (.str [61, 33]))) [.ret (.meth 6 (.loc 0) [.ite (.cmp .eq (.loc 1) (.con (.str [61]))) (.con (.str [101, 113, 117, 97, 108])) (.con (.str [98, 97, 110, 103]))])] [],
  .ite (.and_ (.cmp .ne (.loc 2) (.con (.str [115, 101, 97, 108, 101, 100]))) (.cmp .in_ (.loc 1) (.con (.str [46, 40, 91])))) [.ite (.cmp .eq (.loc 1) (.con (.str [46]))) [.ret (.meth 5 (.loc 0) [.ite (.cmp .in_ (.loc 2) (.glo 14)) (.con (.str [99, 104, 97, 105, 110, 110, 97, 109, 101])) (.con (.str [110, 97, 109, 101]))])] [],
  .ite (.cmp .eq (.loc 1) (.con (.str [40]))) [.ret (.meth 7 (.loc 0) [.con (.str [99]), .ite (.cmp .in_ (.loc 2) (.glo 14)) (.con (.str [99, 104, 97, 105, 110])) (.con (.str [97, 102, 116, 101, 114])), .con (.str [97, 114, 103])])] [],
  .ret (.meth 7 (.loc 0) [.con (.str [105]), .ite (.cmp .in_ (.loc 2) (.glo 14)) (.con (.str [116, 97, 114, 103, 101, 116])) (.con (.str [97, 102, 116, 101, 114])), .con (.str [111, 112, 101, 114, 97, 110, 100])])] [],
  .ite (.cmp .eq (.loc 1) (.con (.str [44]))) [.ret (.call 32 [.loc 0])] [],
  .ite (.cmp .eq (.loc 1) (.con (.str [58]))) [.ret (.call 33 [.loc 0])] [],
  .ite (.cmp .eq (.loc 1) (.con (.str [59]))) [.ret (.ite (.and_ (.cmp .eq (.fld 2 (.loc 0)) (.tup [])) (.cmp .eq (.sub (.fld 1 (.loc 0)) (.con (.int 0))) (.con (.str [115, 109, 97, 108, 108])))) (.meth 5 (.loc 0) [.con (.str [109, 111, 114, 101])]) (.con (.non)))] [],
  .ret (.ite (.and_ (.cmp .notin (.loc 3) (.tup [.con (.str []), .con (.str [123, 107]), .con (.str [112])])) (.cmp .eq (.loc 1) (.sub (.glo 13) (.loc 3)))) (.meth 10 (.loc 0) []) (.con (.non)))]
def f34 : Fn := ⟨2, [], 4, false, .fn, c34⟩
/-- states.after_code_sign -/
def c35 : List S := [.set 2 (.fld 3 (.loc 0)),
  .ite (.cmp .in_ (.loc 1) (.glo 0)) [.ret (.ite (.meth 8 (.loc 0) [.loc 1]) (.meth 6 (.loc 0) [.con (.str [119, 111, 114, 100]), .loc 1]) (.con (.non)))] [],
  .ite (.cmp .eq (.loc 2) (.con (.str [115, 116, 97, 116, 101, 109, 101, 110, 116]))) [.ret (.call 35 [.call 18 [.loc 0], .loc 1])] [],
  .ite (.cmp .in_ (.loc 2) (.glo 11)) [.ret (.call 31 [.loc 0, .loc 1])] [],
  .ite (.cmp .in_ (.loc 2) (.glo 5)) [.ret (.call 34 [.loc 0, .loc 1])] [],
  .ite (.and_ (.cmp .eq (.loc 2) (.con (.str [101, 110, 100]))) (.cmp .eq (.loc 1) (.con (.str [59])))) [.ret (.meth 5 (.loc 0) [.con (.str [109, 111, 114, 101])])] [],
  .ite (.and_ (.cmp .in_ (.loc 2) (.tup [.con (.str [99, 111, 108, 111, 110]), .con (.str [101, 120, 99, 101, 112, 116, 110, 97, 109, 101])])) (.cmp .eq (.loc 1) (.con (.str [58])))) [.ret (.call 33 [.loc 0])] [],
  .ite (.and_ (.cmp .eq (.loc 2) (.con (.str [100, 101, 102, 111, 112, 101, 110]))) (.cmp .eq (.loc 1) (.con (.str [40])))) [.ret (.meth 7 (.loc 0) [.con (.str [112]), .con (.str [99, 111, 108, 111, 110]), .con (.str [112, 97, 114, 97, 109])])] [],
  .ite (.and_ (.cmp .in_ (.loc 2) (.tup [.con (.str [112, 97, 114, 97, 109]), .con (.str [112, 97, 114, 97, 109, 100, 111, 110, 101])])) (.cmp .eq (.loc 1) (.con (.str [41])))) [.ret (.meth 10 (.loc 0) [])] [],
  .ret (.ite (.and_ (.cmp .eq (.loc 2) (.con (.str [112, 97, 114, 97, 109, 100, 111, 110, 101]))) (.cmp .eq (.loc 1) (.con (.str [44])))) (.call 32 [.loc 0]) (.con (.non)))]
def f35 : Fn := ⟨2, [], 3, false, .fn, c35⟩
/-- states.after_start_sign -/
def c36 : List S := [.unp [3, 4, 5] (.fld 1 (.loc 0)),
  .ite (.cmp .eq (.loc 1) (.con (.str [32]))) [.ret (.call 6 [.fld 0 (.loc 0), .tup [.con (.str [115, 116, 97, 114, 116]), .bin .add (.loc 4) (.con (.int 1)), .loc 5]])] [],
  .ite (.cmp .eq (.loc 1) (.con (.str [35]))) [.ret (.meth 6 (.loc 0) [.con (.str [99, 111, 109, 109, 101, 110, 116])])] [],
  .ite (.cmp .eq (.loc 1) (.con (.str [10]))) [.ret (.call 16 [.loc 0])] [],
  .set 2 (.call 17 [.loc 0]),
  .ret (.ite (.or_ (.cmp .is_ (.loc 2) (.con (.non))) (.cmp .eq (.loc 1) (.con (.str [92])))) (.con (.non)) (.call 35 [.loc 2, .loc 1]))]
def f36 : Fn := ⟨2, [], 6, false, .fn, c36⟩
/-- states.next_state -/
def c37 : List S := [.ite (.cmp .eq (.fld 4 (.loc 0)) (.tup [])) [.ret (.call 25 [.loc 0, .loc 1])] [],
  .ite (.and_ (.cmp .eq (.fld 4 (.loc 0)) (.tup [.con (.str [99, 111, 109, 109, 101, 110, 116])])) (.and_ (.cmp .eq (.sub (.fld 1 (.loc 0)) (.con (.int 0))) (.con (.str [115, 116, 97, 114, 116]))) (.cmp .eq (.loc 1) (.con (.str [10]))))) [.ret (.call 6 [.fld 0 (.loc 0), .tup [.con (.str [115, 116, 97, 114, 116]), .con (.int 0), .sub (.fld 1 (.loc 0)) (.con (.int 2))]])] [],
  .ret (.call 30 [.loc 0, .loc 1])]
def f37 : Fn := ⟨2, [], 2, false, .fn, c37⟩
/-- states.State.parts -/
def c38 : List S := [.ret (.tup [.fld 0 (.loc 0), .fld 1 (.loc 0), .fld 2 (.loc 0), .fld 3 (.loc 0), .fld 4 (.loc 0)])]
def f38 : Fn := ⟨1, [], 1, false, .fn, c38⟩
/-- reading.check_text -/
def c39 : List S := [.ite (.not_ (.call 2 [.loc 0])) [.raise 101 [.loc 0]] []]
def f39 : Fn := ⟨1, [], 1, false, .fn, c39⟩
/-- reading.state_behind -/
def c40 : List S := [.for_ false [2, 3] (.enum (.loc 1)) [.set 4 (.call 37 [.loc 0, .loc 3]),
  .ite (.cmp .is_ (.loc 4) (.con (.non))) [.ret (.tup [.con (.non), .loc 2])] [],
  .set 0 (.loc 4)],
  .ret (.tup [.loc 0, .bi .len [.loc 1]])]
def f40 : Fn := ⟨2, [], 5, false, .fn, c40⟩
/-- reading.state_of -/
def c41 : List S := [.ret (.call 40 [.call 6 [], .loc 0])]
def f41 : Fn := ⟨1, [], 1, false, .fn, c41⟩
/-- reading.is_entry_state -/
def c42 : List S := [.ret (.cmp .eq (.sub (.fld 1 (.loc 0)) (.con (.int 0))) (.con (.str [100, 111, 110, 101])))]
def f42 : Fn := ⟨1, [], 1, false, .fn, c42⟩
/-- reading.state_verdict -/
def c43 : List S := [.ite (.cmp .is_ (.loc 0) (.con (.non))) [.ret (.con (.str [119, 114, 111, 110, 103]))] [],
  .ite (.call 42 [.loc 0]) [.ret (.con (.str [99, 111, 109, 112, 108, 101, 116, 101]))] [],
  .ret (.ite (.cmp .eq (.fld 0 (.loc 0)) (.tup [])) (.con (.str [101, 109, 112, 116, 121])) (.con (.str [105, 110, 99, 111, 109, 112, 108, 101, 116, 101])))]
def f43 : Fn := ⟨1, [], 1, false, .fn, c43⟩
/-- reading.verdict_word -/
def c44 : List S := [.ret (.call 43 [.sub (.call 41 [.loc 0]) (.con (.int 0))])]
def f44 : Fn := ⟨1, [], 1, false, .fn, c44⟩
/-- reading.check_viable -/
def c45 : List S := [.ex (.call 39 [.loc 0]),
  .unp [1, 2] (.call 41 [.loc 0]),
  .ite (.cmp .is_ (.loc 1) (.con (.non))) [.raise 112 [.loc 2]] [],
  .ret (.loc 1)]
def f45 : Fn := ⟨1, [], 3, false, .fn, c45⟩
/-- reading.check_entry -/
def c46 : List S := [.ex (.call 39 [.loc 0]),
  .set 1 (.call 44 [.loc 0]),
  .ite (.cmp .ne (.loc 1) (.con (.str [99, 111, 109, 112, 108, 101, 116, 101]))) [.raise 109 [.loc 1]] []]
def f46 : Fn := ⟨1, [], 2, false, .fn, c46⟩
/-- reading.Reading.__init__ -/
def c47 : List S := [.ex (.call 39 [.loc 1]),
  .setF 12 (.loc 0) (.loc 1),
  .unpA 0 [13, 14] (.call 41 [.loc 1])]
def f47 : Fn := ⟨2, [.str []], 2, false, .fn, c47⟩
/-- reading.Reading.verdict -/
def c48 : List S := [.ret (.call 43 [.fld 13 (.loc 0)])]
def f48 : Fn := ⟨1, [], 1, false, .fn, c48⟩
/-- reading.Reading.place -/
def c49 : List S := [.ret (.ite (.cmp .is_ (.fld 13 (.loc 0)) (.con (.non))) (.fld 14 (.loc 0)) (.con (.non)))]
def f49 : Fn := ⟨1, [], 1, false, .fn, c49⟩
/-- reading.Reading -/
def f50 : Fn := ⟨1, [.str []], 1, false, .new 1 47, []⟩
/-- reading.Reading.__add__ -/
def c51 : List S := [.ex (.call 39 [.loc 1]),
  .ret (.call 50 [.bin .add (.fld 12 (.loc 0)) (.loc 1)])]
def f51 : Fn := ⟨2, [], 2, false, .fn, c51⟩
/-- reading.Reading.__bool__ -/
def c52 : List S := [.ret (.cmp .isnot (.fld 13 (.loc 0)) (.con (.non)))]
def f52 : Fn := ⟨1, [], 1, false, .fn, c52⟩
/-- reading.Reading.__len__ -/
def c53 : List S := [.ret (.bi .len [.fld 12 (.loc 0)])]
def f53 : Fn := ⟨1, [], 1, false, .fn, c53⟩
/-- reading.verdict_of -/
def c54 : List S := [.ret (.prop 15 (.call 50 [.loc 0]))]
def f54 : Fn := ⟨1, [], 1, false, .fn, c54⟩
/-- reading.place_of -/
def c55 : List S := [.ret (.prop 16 (.call 50 [.loc 0]))]
def f55 : Fn := ⟨1, [], 1, false, .fn, c55⟩
/-- reading.every_sign -/
def c56 : List S := [.ret (.bi .sorted [.bin .add (.bin .add (.bin .add (.glo 0) (.glo 1)) (.glo 2)) (.con (.str [10]))])]
def f56 : Fn := ⟨0, [], 0, false, .fn, c56⟩
/-- reading.next_signs -/
def c57 : List S := [.set 1 (.call 45 [.loc 0]),
  .ret (.bm .join (.con (.str [])) [.comp false [2] [2] true (.call 56 []) (.cmp .isnot (.call 37 [.loc 1, .loc 2]) (.con (.non))) (.loc 2)])]
def f57 : Fn := ⟨1, [], 3, false, .fn, c57⟩
/-- reading.Reading.source -/
def c58 : List S := [.ret (.fld 12 (.loc 0))]
def f58 : Fn := ⟨1, [], 1, false, .fn, c58⟩
/-- reading.Reading.__eq__ -/
def c59 : List S := [.ret (.and_ (.isi [.cls 1] (.loc 1)) (.cmp .eq (.fld 12 (.loc 0)) (.fld 12 (.loc 1))))]
def f59 : Fn := ⟨2, [], 2, false, .fn, c59⟩
/-- completing.run_on -/
def c60 : List S := [.for_ true [2] (.loc 1) [.set 0 (.ite (.cmp .is_ (.loc 0) (.con (.non))) (.con (.non)) (.call 37 [.loc 0, .loc 2]))],
  .ret (.loc 0)]
def f60 : Fn := ⟨2, [], 3, false, .fn, c60⟩
/-- completing.word_end -/
def c61 : List S := [.set 1 (.sub (.fld 4 (.loc 0)) (.con (.int 1))),
  .ite (.cmp .in_ (.fld 3 (.loc 0)) (.glo 4)) [.ret (.ite (.cmp .isnot (.call 37 [.loc 0, .con (.str [32])]) (.con (.non))) (.con (.str [32])) (.con (.str [120, 32])))] [],
  .ite (.cmp .in_ (.fld 3 (.loc 0)) (.glo 5)) [.set 3 (.glo 6)] [.set 3 (.ite (.cmp .eq (.fld 3 (.loc 0)) (.con (.str [102, 111, 114, 105, 110]))) (.tup [.con (.str [105, 110])]) (.sub (.glo 7) (.sub (.fld 1 (.loc 0)) (.con (.int 1)))))],
  .set 2 (.comp false [4] [4] true (.loc 3) (.bm .startswith (.loc 4) [.loc 1]) (.loc 4)),
  .ret (.bin .add (.slc (.sub (.loc 2) (.con (.int 0))) (.bi .len [.loc 1]) .nil) (.con (.str [32])))]
def f61 : Fn := ⟨1, [], 5, false, .fn, c61⟩
/-- completing.token_end -/
def c62 : List S := [.par [1, 2] [.sub (.fld 4 (.loc 0)) (.con (.int 0)), .fld 4 (.loc 0)],
  .ite (.cmp .eq (.loc 1) (.con (.str [119, 111, 114, 100]))) [.ret (.call 61 [.loc 0])] [],
  .ite (.cmp .eq (.loc 1) (.con (.str [113, 117, 111, 116, 101]))) [.ret (.sub (.loc 2) (.con (.int 1)))] [],
  .ite (.cmp .eq (.loc 1) (.con (.str [115, 104, 111, 114, 116]))) [.ret (.ite (.sub (.loc 2) (.con (.int 3))) (.bin .add (.con (.str [120])) (.sub (.loc 2) (.con (.int 1)))) (.sub (.loc 2) (.con (.int 1))))] [],
  .ite (.cmp .eq (.loc 1) (.con (.str [108, 111, 110, 103]))) [.ret (.ite (.sub (.loc 2) (.con (.int 4))) (.bin .add (.con (.str [120])) (.bin .mul (.sub (.loc 2) (.con (.int 1))) (.con (.int 3)))) (.bin .mul (.sub (.loc 2) (.con (.int 1))) (.bin .sub (.con (.int 3)) (.sub (.loc 2) (.con (.int 3))))))] [],
  .ite (.cmp .eq (.loc 1) (.con (.str [116, 101, 109, 112, 108, 97, 116, 101]))) [.ret (.ite (.sub (.loc 2) (.con (.int 2))) (.con (.str [120, 34])) (.con (.str [34])))] [],
  .ite (.cmp .in_ (.loc 1) (.tup [.con (.str [100, 111, 108, 108, 97, 114]), .con (.str [106, 111, 105, 110]), .con (.str [99, 111, 109, 109, 101, 110, 116])])) [.ret (.ite (.cmp .eq (.loc 1) (.con (.str [100, 111, 108, 108, 97, 114]))) (.con (.str [34])) (.con (.str [10])))] [],
  .ret (.ite (.cmp .isnot (.call 37 [.loc 0, .con (.str [32])]) (.con (.non))) (.con (.str [32])) (.con (.str [61])))]
def f62 : Fn := ⟨1, [], 3, false, .fn, c62⟩
/-- completing.line_start -/
def c63 : List S := [.unp [2, 3, 4] (.fld 1 (.loc 0)),
  .ite (.cmp .eq (.fld 0 (.loc 0)) (.tup [])) [.ret (.ite (.cmp .eq (.loc 3) (.con (.int 0))) (.con (.str [48, 10])) (.con (.str [10])))] [],
  .ite (.cmp .ne (.loc 4) (.tup [])) [.ret (.bin .add (.bin .mul (.con (.str [32])) (.bi .max2 [.con (.int 0), .bin .sub (.bin .add (.sub (.sub (.fld 0 (.loc 0)) (.neg (.con (.int 1)))) (.con (.int 0))) (.con (.int 1))) (.loc 3)])) (.con (.str [48, 10])))] [],
  .set 1 (.comp false [5] [5] true (.fld 0 (.loc 0)) (.cmp .eq (.sub (.loc 5) (.con (.int 1))) (.con (.str [116, 114, 121]))) (.sub (.loc 5) (.con (.int 0)))),
  .ite (.cmp .eq (.loc 1) (.lst false [])) [.ret (.con (.str [10]))] [],
  .ret (.ite (.cmp .gt (.loc 3) (.sub (.loc 1) (.neg (.con (.int 1))))) (.con (.str [35, 10])) (.bin .add (.bin .mul (.con (.str [32])) (.bin .sub (.sub (.loc 1) (.neg (.con (.int 1)))) (.loc 3))) (.con (.str [102, 105, 110, 97, 108, 108, 121, 58, 48, 10]))))]
def f63 : Fn := ⟨1, [], 6, false, .fn, c63⟩
/-- completing.phase_end -/
def c64 : List S := [.par [1, 2] [.fld 3 (.loc 0), .meth 9 (.loc 0) []],
  .ite (.cmp .in_ (.loc 1) (.tup [.con (.str [111, 112, 101, 114, 97, 110, 100]), .con (.str [98, 101, 103, 105, 110]), .con (.str [115, 117, 105, 116, 101])])) [.ret (.con (.str [48]))] [],
  .ite (.cmp .in_ (.loc 1) (.glo 15)) [.ret (.con (.str [120, 32]))] [],
  .ite (.or_ (.cmp .in_ (.loc 1) (.tup [.con (.str [102, 105, 114, 115, 116]), .con (.str [97, 114, 103]), .con (.str [112, 97, 114, 97, 109]), .con (.str [112, 97, 114, 97, 109, 100, 111, 110, 101])])) (.and_ (.cmp .in_ (.loc 1) (.glo 5)) (.cmp .notin (.loc 2) (.tup [.con (.str []), .con (.str [123, 107])])))) [.ret (.sub (.glo 13) (.loc 2))] [],
  .ite (.cmp .in_ (.loc 1) (.glo 5)) [.ret (.ite (.or_ (.cmp .eq (.loc 2) (.con (.str [123, 107]))) (.cmp .eq (.sub (.fld 1 (.loc 0)) (.con (.int 0))) (.con (.str [104, 101, 97, 100])))) (.con (.str [58])) (.con (.str [10])))] [],
  .ret (.dget (.dct false [.s [102, 111, 114, 105, 110], .s [100, 101, 102, 111, 112, 101, 110], .s [99, 111, 108, 111, 110], .s [101, 120, 99, 101, 112, 116, 110, 97, 109, 101]] [.con (.str [105, 110, 32]), .con (.str [40]), .con (.str [58]), .con (.str [58])]) (.loc 1) (.con (.str [10])))]
def f64 : Fn := ⟨1, [], 3, false, .fn, c64⟩
/-- completing.completion_of -/
def c65 : List S := [.set 1 (.con (.str [])),
  .while_ (.not_ (.call 42 [.loc 0])) [.ite (.cmp .ne (.fld 4 (.loc 0)) (.tup [])) [.set 2 (.call 62 [.loc 0])] [.set 2 (.ite (.cmp .eq (.sub (.fld 1 (.loc 0)) (.con (.int 0))) (.con (.str [115, 116, 97, 114, 116]))) (.call 63 [.loc 0]) (.call 64 [.loc 0]))],
  .set 1 (.bin .add (.loc 1) (.loc 2)),
  .set 0 (.call 60 [.loc 0, .loc 2])],
  .ret (.loc 1)]
def f65 : Fn := ⟨1, [], 3, false, .fn, c65⟩
/-- completing.completion -/
def c66 : List S := [.ret (.call 65 [.call 45 [.loc 0]])]
def f66 : Fn := ⟨1, [], 1, false, .fn, c66⟩
/-- completing.is_entry -/
def c67 : List S := [.ite (.not_ (.call 2 [.loc 0])) [.ret (.con (.bl false))] [],
  .set 1 (.sub (.call 41 [.loc 0]) (.con (.int 0))),
  .ret (.and_ (.cmp .isnot (.loc 1) (.con (.non))) (.call 42 [.loc 1]))]
def f67 : Fn := ⟨1, [], 2, false, .fn, c67⟩
/-- completing.token_word -/
def c68 : List S := [.ret (.ite (.cmp .ne (.fld 4 (.loc 0)) (.tup [])) (.sub (.fld 4 (.loc 0)) (.con (.int 0))) (.con (.str [])))]
def f68 : Fn := ⟨1, [], 1, false, .fn, c68⟩
/-- completing.note_brackets -/
def c69 : List S := [.ite (.cmp .gt (.bi .len [.fld 2 (.loc 2)]) (.bi .len [.fld 2 (.loc 1)])) [.ex (.bm .append (.loc 0) [.tup [.loc 3, .loc 4]])] [.ite (.cmp .lt (.bi .len [.fld 2 (.loc 2)]) (.bi .len [.fld 2 (.loc 1)])) [.ex (.bm .pop (.loc 0) [])] []]]
def f69 : Fn := ⟨5, [], 5, false, .fn, c69⟩
/-- completing.note_strings -/
def c70 : List S := [.par [5, 6] [.call 68 [.loc 1], .call 68 [.loc 2]],
  .ite (.and_ (.cmp .eq (.loc 6) (.con (.str [113, 117, 111, 116, 101]))) (.cmp .ne (.loc 5) (.con (.str [113, 117, 111, 116, 101])))) [.ex (.bm .append (.loc 0) [.tup [.loc 3, .loc 4]])] [.ite (.and_ (.cmp .eq (.loc 6) (.con (.str [101, 109, 112, 116, 121]))) (.cmp .eq (.loc 5) (.con (.str [113, 117, 111, 116, 101])))) [.ex (.bm .pop (.loc 0) [])] [.ite (.and_ (.cmp .eq (.loc 6) (.con (.str [108, 111, 110, 103]))) (.cmp .eq (.loc 5) (.con (.str [101, 109, 112, 116, 121])))) [.ex (.bm .append (.loc 0) [.tup [.bin .mul (.loc 3) (.con (.int 3)), .bin .sub (.loc 4) (.con (.int 2))]])] [.ite (.and_ (.cmp .eq (.loc 6) (.con (.str [116, 101, 109, 112, 108, 97, 116, 101]))) (.cmp .eq (.loc 5) (.con (.str [100, 111, 108, 108, 97, 114])))) [.ex (.bm .append (.loc 0) [.tup [.con (.str [36, 34]), .bin .sub (.loc 4) (.con (.int 1))]])] [.ite (.or_ (.and_ (.cmp .eq (.loc 6) (.con (.str []))) (.cmp .in_ (.loc 5) (.tup [.con (.str [115, 104, 111, 114, 116]), .con (.str [108, 111, 110, 103])]))) (.and_ (.cmp .eq (.loc 6) (.con (.str []))) (.cmp .eq (.loc 5) (.con (.str [116, 101, 109, 112, 108, 97, 116, 101]))))) [.ite (.cmp .eq (.bi .len [.fld 2 (.loc 2)]) (.bi .len [.fld 2 (.loc 1)])) [.ex (.bm .pop (.loc 0) [])] []] []]]]]]
def f70 : Fn := ⟨5, [], 7, false, .fn, c70⟩
/-- completing.open_things -/
def c71 : List S := [.ex (.call 45 [.loc 0]),
  .par [1, 2] [.call 6 [], .lst false []],
  .for_ false [3, 4] (.enum (.loc 0)) [.par [5, 1] [.loc 1, .call 37 [.loc 1, .loc 4]],
  .ex (.call 69 [.loc 2, .loc 5, .loc 1, .loc 4, .loc 3]),
  .ex (.call 70 [.loc 2, .loc 5, .loc 1, .loc 4, .loc 3])],
  .ret (.bi .tuple [.loc 2])]
def f71 : Fn := ⟨1, [], 6, false, .fn, c71⟩
/-- completing.closers -/
def c72 : List S := [.ret (.bm .join (.con (.str [])) [.comp false [1, 2] [1, 2] false (.rev (.call 71 [.loc 0])) .nil (.dget (.glo 16) (.loc 1) (.loc 1))])]
def f72 : Fn := ⟨1, [], 3, false, .fn, c72⟩
/-- histories.is_count -/
def c73 : List S := [.ret (.and_ (.isi [.int] (.loc 0)) (.and_ (.not_ (.isi [.bool] (.loc 0))) (.cmp .ge (.loc 0) (.loc 1))))]
def f73 : Fn := ⟨2, [], 2, false, .fn, c73⟩
/-- histories.History.__init__ -/
def c74 : List S := [.ite (.or_ (.not_ (.call 73 [.loc 1, .con (.int 1)])) (.cmp .gt (.loc 1) (.glo 17))) [.raise 104 [.loc 1]] [],
  .setF 23 (.loc 0) (.loc 1),
  .setF 24 (.loc 0) (.lst true [])]
def f74 : Fn := ⟨2, [.int 100], 2, false, .fn, c74⟩
/-- histories.History.most -/
def c75 : List S := [.ret (.fld 23 (.loc 0))]
def f75 : Fn := ⟨1, [], 1, false, .fn, c75⟩
/-- histories.History.all_entries -/
def c76 : List S := [.ret (.bi .tuple [.fld 24 (.loc 0)])]
def f76 : Fn := ⟨1, [], 1, false, .fn, c76⟩
/-- histories.History.add -/
def c77 : List S := [.ite (.not_ (.call 67 [.loc 1])) [.raise 108 [.loc 1]] [],
  .ite (.or_ (.cmp .eq (.fld 24 (.loc 0)) (.lst false [])) (.cmp .ne (.sub (.fld 24 (.loc 0)) (.neg (.con (.int 1)))) (.loc 1))) [.ex (.bm .append (.fld 24 (.loc 0)) [.loc 1])] [],
  .ite (.cmp .gt (.bi .len [.fld 24 (.loc 0)]) (.fld 23 (.loc 0))) [.ex (.bm .popi (.fld 24 (.loc 0)) [.con (.int 0)])] []]
def f77 : Fn := ⟨2, [], 2, false, .fn, c77⟩
/-- histories.History.__getitem__ -/
def c78 : List S := [.ite (.or_ (.not_ (.call 73 [.loc 1, .con (.int 0)])) (.cmp .ge (.loc 1) (.bi .len [.fld 24 (.loc 0)]))) [.raise 116 [.loc 1]] [],
  .ret (.sub (.fld 24 (.loc 0)) (.bin .sub (.neg (.con (.int 1))) (.loc 1)))]
def f78 : Fn := ⟨2, [], 2, false, .fn, c78⟩
/-- histories.History.__iter__ -/
def c79 : List S := [.nev]
def f79 : Fn := ⟨1, [], 1, false, .fn, c79⟩
/-- histories.History.__len__ -/
def c80 : List S := [.ret (.bi .len [.fld 24 (.loc 0)])]
def f80 : Fn := ⟨1, [], 1, false, .fn, c80⟩
/-- histories.History.__contains__ -/
def c81 : List S := [.ret (.and_ (.isi [.str] (.loc 1)) (.cmp .in_ (.loc 1) (.fld 24 (.loc 0))))]
def f81 : Fn := ⟨2, [], 2, false, .fn, c81⟩
/-- histories.History.__eq__ -/
def c82 : List S := [.ret (.and_ (.isi [.cls 2] (.loc 1)) (.cmp .eq (.fld 24 (.loc 0)) (.fld 24 (.loc 1))))]
def f82 : Fn := ⟨2, [], 2, false, .fn, c82⟩
/-- histories.History -/
def f83 : Fn := ⟨1, [.int 100], 1, false, .cel 2 74, []⟩
/-- buffers.read_on -/
def c84 : List S := [.set 3 (.lst true []),
  .set 4 (.loc 2),
  .for_ true [5] (.range [.loc 1, .bi .len [.loc 0]]) [.unp [4, 6] (.call 40 [.loc 4, .bin .add (.sub (.loc 0) (.loc 5)) (.con (.str [10]))]),
  .ex (.bm .append (.loc 3) [.loc 4]),
  .ite (.cmp .is_ (.loc 4) (.con (.non))) [.ret (.tup [.bin .add (.loc 3) (.bin .mul (.lst false [.con (.non)]) (.bin .sub (.bin .sub (.bi .len [.loc 0]) (.loc 5)) (.con (.int 1)))), .tup [.loc 5, .loc 6], .bin .add (.bin .sub (.loc 5) (.loc 1)) (.con (.int 1))])] []],
  .ret (.tup [.loc 3, .con (.non), .bi .len [.loc 3]])]
def f84 : Fn := ⟨3, [], 7, false, .fn, c84⟩
/-- buffers.reread -/
def c85 : List S := [.par [5, 6] [.bin .sub (.bi .len [.loc 1]) (.con (.int 1)), .bi .listH [.loc 1]],
  .for_ true [4] (.range [.loc 5, .bi .len [.loc 0]]) [.set 7 (.sub (.loc 2) (.bin .sub (.loc 4) (.loc 5))),
  .ite (.cmp .is_ (.sub (.loc 6) (.loc 4)) (.con (.non))) [.brk] [],
  .ite (.and_ (.cmp .isnot (.loc 7) (.con (.non))) (.cmp .eq (.meth 17 (.sub (.loc 6) (.loc 4)) []) (.meth 17 (.loc 7) []))) [.ret (.tup [.bin .add (.slc (.loc 6) .nil (.loc 4)) (.slc (.loc 2) (.bin .sub (.loc 4) (.loc 5)) .nil), .loc 3, .bin .sub (.loc 4) (.loc 5)])] [],
  .unp [8, 9] (.call 40 [.sub (.loc 6) (.loc 4), .bin .add (.sub (.loc 0) (.loc 4)) (.con (.str [10]))]),
  .ex (.bm .append (.loc 6) [.loc 8]),
  .ite (.cmp .is_ (.loc 8) (.con (.non))) [.ret (.tup [.bin .add (.loc 6) (.bin .mul (.lst false [.con (.non)]) (.bin .sub (.bin .sub (.bi .len [.loc 0]) (.loc 4)) (.con (.int 1)))), .tup [.loc 4, .loc 9], .bin .add (.bin .sub (.loc 4) (.loc 5)) (.con (.int 1))])] []],
  .ite (.cmp .is_ (.sub (.loc 6) (.neg (.con (.int 1)))) (.con (.non))) [.ret (.tup [.bin .add (.loc 6) (.bin .mul (.lst false [.con (.non)]) (.bin .sub (.bin .add (.bi .len [.loc 0]) (.con (.int 1))) (.bi .len [.loc 6]))), .loc 3, .con (.int 0)])] [],
  .ret (.tup [.loc 6, .con (.non), .bin .sub (.bi .len [.loc 0]) (.loc 5)])]
def f85 : Fn := ⟨4, [], 10, false, .fn, c85⟩
/-- buffers.check_line -/
def c86 : List S := [.ite (.not_ (.call 1 [.loc 0])) [.raise 102 [.loc 0]] []]
def f86 : Fn := ⟨1, [], 1, false, .fn, c86⟩
/-- buffers.is_index -/
def c87 : List S := [.ret (.and_ (.isi [.int] (.loc 0)) (.and_ (.not_ (.isi [.bool] (.loc 0))) (.chain .le .lt (.con (.int 0)) (.loc 0) (.loc 1))))]
def f87 : Fn := ⟨2, [], 2, false, .fn, c87⟩
/-- buffers.Buffer.__init__ -/
def c88 : List S := [.for_ true [2] (.loc 1) [.ex (.call 86 [.loc 2])],
  .ite (.cmp .gt (.bi .len [.loc 1]) (.glo 18)) [.raise 113 [.glo 18]] [],
  .set 3 (.call 6 []),
  .unp [4, 5, 6] (.call 84 [.loc 1, .con (.int 0), .loc 3]),
  .setF 32 (.loc 0) (.tup [.loc 1, .lst false [.loc 3, .star (.loc 4)], .loc 5, .loc 6, .loc 6])]
def f88 : Fn := ⟨2, [], 7, true, .fn, c88⟩
/-- buffers.Buffer -/
def f89 : Fn := ⟨1, [], 1, true, .cel 3 88, []⟩
/-- buffers.Buffer.of -/
def c90 : List S := [.ite (.not_ (.isi [.tuple] (.loc 1))) [.raise 102 [.loc 1]] [],
  .ret (.callS 89 (.loc 0) (.loc 1))]
def f90 : Fn := ⟨2, [], 2, false, .fn, c90⟩
/-- buffers.Buffer.all_lines -/
def c91 : List S := [.ret (.sub (.fld 32 (.loc 0)) (.con (.int 0)))]
def f91 : Fn := ⟨1, [], 1, false, .fn, c91⟩
/-- buffers.Buffer.text -/
def c92 : List S := [.ret (.bm .join (.con (.str [])) [.comp false [1] [1] true (.sub (.fld 32 (.loc 0)) (.con (.int 0))) .nil (.bin .add (.loc 1) (.con (.str [10])))])]
def f92 : Fn := ⟨1, [], 2, false, .fn, c92⟩
/-- buffers.Buffer.verdict -/
def c93 : List S := [.unp [1, 2, 3, 4, 5] (.fld 32 (.loc 0)),
  .ite (.cmp .isnot (.loc 3) (.con (.non))) [.ret (.con (.str [119, 114, 111, 110, 103]))] [],
  .ite (.cmp .eq (.sub (.fld 1 (.sub (.loc 2) (.neg (.con (.int 1))))) (.con (.int 0))) (.con (.str [100, 111, 110, 101]))) [.ret (.con (.str [99, 111, 109, 112, 108, 101, 116, 101]))] [],
  .ret (.ite (.cmp .eq (.fld 0 (.sub (.loc 2) (.neg (.con (.int 1))))) (.tup [])) (.con (.str [101, 109, 112, 116, 121])) (.con (.str [105, 110, 99, 111, 109, 112, 108, 101, 116, 101])))]
def f93 : Fn := ⟨1, [], 6, false, .fn, c93⟩
/-- buffers.Buffer.spot -/
def c94 : List S := [.ret (.sub (.fld 32 (.loc 0)) (.con (.int 2)))]
def f94 : Fn := ⟨1, [], 1, false, .fn, c94⟩
/-- buffers.Buffer.work -/
def c95 : List S := [.ret (.sub (.fld 32 (.loc 0)) (.con (.int 3)))]
def f95 : Fn := ⟨1, [], 1, false, .fn, c95⟩
/-- buffers.Buffer.total_work -/
def c96 : List S := [.ret (.sub (.fld 32 (.loc 0)) (.con (.int 4)))]
def f96 : Fn := ⟨1, [], 1, false, .fn, c96⟩
/-- buffers.Buffer.__len__ -/
def c97 : List S := [.ret (.bi .len [.sub (.fld 32 (.loc 0)) (.con (.int 0))])]
def f97 : Fn := ⟨1, [], 1, false, .fn, c97⟩
/-- buffers.Buffer.__getitem__ -/
def c98 : List S := [.ite (.not_ (.call 87 [.loc 1, .bi .len [.sub (.fld 32 (.loc 0)) (.con (.int 0))]])) [.raise 116 [.loc 1]] [],
  .ret (.sub (.sub (.fld 32 (.loc 0)) (.con (.int 0))) (.loc 1))]
def f98 : Fn := ⟨2, [], 2, false, .fn, c98⟩
/-- buffers.Buffer.__iter__ -/
def c99 : List S := [.nev]
def f99 : Fn := ⟨1, [], 1, false, .fn, c99⟩
/-- buffers.Buffer.__contains__ -/
def c100 : List S := [.ret (.and_ (.isi [.str] (.loc 1)) (.cmp .in_ (.loc 1) (.sub (.fld 32 (.loc 0)) (.con (.int 0)))))]
def f100 : Fn := ⟨2, [], 2, false, .fn, c100⟩
/-- buffers.Buffer.__eq__ -/
def c101 : List S := [.ret (.and_ (.isi [.cls 3] (.loc 1)) (.cmp .eq (.sub (.fld 32 (.loc 0)) (.con (.int 0))) (.sub (.fld 32 (.loc 1)) (.con (.int 0)))))]
def f101 : Fn := ⟨2, [], 2, false, .fn, c101⟩
/-- buffers.Buffer.__add__ -/
def c102 : List S := [.par [2, 3] [.prop 33 (.loc 0), .prop 33 (.loc 1)],
  .ret (.call 89 [.star (.loc 2), .star (.loc 3)])]
def f102 : Fn := ⟨2, [], 4, false, .fn, c102⟩
/-- buffers.Buffer.exchanged -/
def c103 : List S := [.unp [6, 7, 8, 9, 10] (.fld 32 (.loc 0)),
  .set 4 (.bin .add (.bin .add (.slc (.loc 6) .nil (.loc 1)) (.loc 3)) (.slc (.loc 6) (.bin .add (.loc 1) (.loc 2)) .nil)),
  .ite (.and_ (.cmp .isnot (.loc 8) (.con (.non))) (.cmp .ge (.sub (.loc 8) (.con (.int 0))) (.bin .add (.loc 1) (.loc 2)))) [.set 8 (.tup [.bin .sub (.bin .add (.sub (.loc 8) (.con (.int 0))) (.bi .len [.loc 3])) (.loc 2), .sub (.loc 8) (.con (.int 1))])] [],
  .set 5 (.bin .add (.bin .mul (.lst false [.con (.non)]) (.bi .len [.loc 3])) (.slc (.loc 7) (.bin .add (.loc 1) (.loc 2)) .nil)),
  .unp [7, 8, 9] (.call 85 [.loc 4, .slc (.loc 7) .nil (.bin .add (.loc 1) (.con (.int 1))), .loc 5, .loc 8]),
  .setF 32 (.loc 0) (.tup [.loc 4, .loc 7, .loc 8, .loc 9, .bin .add (.loc 10) (.loc 9)]),
  .ret (.prop 15 (.loc 0))]
def f103 : Fn := ⟨4, [], 11, false, .fn, c103⟩
/-- buffers.Buffer.change -/
def c104 : List S := [.ite (.not_ (.call 87 [.loc 1, .bi .len [.sub (.fld 32 (.loc 0)) (.con (.int 0))]])) [.raise 103 [.loc 1]] [],
  .ex (.call 86 [.loc 2]),
  .ret (.meth 34 (.loc 0) [.loc 1, .con (.int 1), .tup [.loc 2]])]
def f104 : Fn := ⟨3, [], 3, false, .fn, c104⟩
/-- buffers.Buffer.put_in -/
def c105 : List S := [.set 3 (.bi .len [.sub (.fld 32 (.loc 0)) (.con (.int 0))]),
  .ite (.not_ (.call 87 [.loc 1, .bin .add (.loc 3) (.con (.int 1))])) [.raise 103 [.loc 1]] [],
  .ex (.call 86 [.loc 2]),
  .ite (.cmp .eq (.loc 3) (.glo 18)) [.raise 113 [.glo 18]] [],
  .ret (.meth 34 (.loc 0) [.loc 1, .con (.int 0), .tup [.loc 2]])]
def f105 : Fn := ⟨3, [], 4, false, .fn, c105⟩
/-- buffers.Buffer.add -/
def c106 : List S := [.ret (.meth 35 (.loc 0) [.bi .len [.sub (.fld 32 (.loc 0)) (.con (.int 0))], .loc 1])]
def f106 : Fn := ⟨2, [], 2, false, .fn, c106⟩
/-- buffers.Buffer.take_out -/
def c107 : List S := [.ite (.not_ (.call 87 [.loc 1, .bi .len [.sub (.fld 32 (.loc 0)) (.con (.int 0))]])) [.raise 103 [.loc 1]] [],
  .ret (.meth 34 (.loc 0) [.loc 1, .con (.int 1), .tup []])]
def f107 : Fn := ⟨2, [], 2, false, .fn, c107⟩
/-- buffers.Buffer.withdraw -/
def c108 : List S := [.ite (.or_ (.not_ (.isi [.int] (.loc 1))) (.or_ (.isi [.bool] (.loc 1)) (.cmp .lt (.loc 1) (.con (.int 1))))) [.raise 104 [.loc 1]] [],
  .set 2 (.bi .len [.sub (.fld 32 (.loc 0)) (.con (.int 0))]),
  .ite (.cmp .gt (.loc 1) (.loc 2)) [.raise 114 [.loc 2]] [],
  .ret (.meth 34 (.loc 0) [.bin .sub (.loc 2) (.loc 1), .loc 1, .tup []])]
def f108 : Fn := ⟨2, [.int 1], 3, false, .fn, c108⟩
/-- buffers.Buffer.lead_of -/
def c109 : List S := [.ite (.not_ (.call 87 [.loc 1, .bin .add (.bi .len [.sub (.fld 32 (.loc 0)) (.con (.int 0))]) (.con (.int 1))])) [.raise 103 [.loc 1]] [],
  .ret (.bm .join (.con (.str [])) [.comp false [2] [2] true (.slc (.sub (.fld 32 (.loc 0)) (.con (.int 0))) .nil (.loc 1)) .nil (.bin .add (.loc 2) (.con (.str [10])))])]
def f109 : Fn := ⟨2, [], 3, false, .fn, c109⟩
/-- buffers.Buffer.twin -/
def c110 : List S := [.set 1 (.call 89 []),
  .setF 32 (.loc 1) (.fld 32 (.loc 0)),
  .ret (.loc 1)]
def f110 : Fn := ⟨1, [], 2, false, .fn, c110⟩
/-- likeness.lead_state -/
def c111 : List S := [.ite (.or_ (.not_ (.call 2 [.loc 0])) (.and_ (.cmp .ne (.loc 0) (.con (.str []))) (.not_ (.bm .endswith (.loc 0) [.con (.str [10])])))) [.ret (.con (.non))] [],
  .ret (.sub (.call 41 [.loc 0]) (.con (.int 0)))]
def f111 : Fn := ⟨1, [], 1, false, .fn, c111⟩
/-- likeness.need_lead -/
def c112 : List S := [.set 1 (.call 111 [.loc 0]),
  .ite (.cmp .is_ (.loc 1) (.con (.non))) [.raise 110 [.loc 0]] [],
  .ret (.loc 1)]
def f112 : Fn := ⟨1, [], 2, false, .fn, c112⟩
/-- likeness.is_lead -/
def c113 : List S := [.ret (.cmp .isnot (.call 111 [.loc 0]) (.con (.non)))]
def f113 : Fn := ⟨1, [], 1, false, .fn, c113⟩
/-- likeness.are_alike -/
def c114 : List S := [.par [2, 3] [.call 112 [.loc 0], .call 112 [.loc 1]],
  .ret (.cmp .eq (.meth 17 (.loc 2) []) (.meth 17 (.loc 3) []))]
def f114 : Fn := ⟨2, [], 4, false, .fn, c114⟩
/-- likeness.pieces_for -/
def c116 : List S := [.ite (.and_ (.cmp .eq (.sub (.fld 1 (.loc 0)) (.con (.int 0))) (.con (.str [115, 116, 97, 114, 116]))) (.cmp .eq (.sub (.fld 1 (.loc 1)) (.con (.int 0))) (.con (.str [115, 116, 97, 114, 116])))) [.ret (.call 115 [.loc 0, .loc 1])] [],
  .set 2 (.ite (.cmp .in_ (.con (.str [100, 101, 102, 111, 112, 101, 110])) (.tup [.fld 3 (.loc 0), .fld 3 (.loc 1)])) (.tup [.con (.str [40])]) (.tup [])),
  .ret (.bin .add (.bin .add (.glo 19) (.glo 20)) (.loc 2))]
def f116 : Fn := ⟨2, [], 3, false, .fn, c116⟩
/-- likeness.told_apart -/
def c117 : List S := [.ite (.cmp .ne (.call 42 [.loc 0]) (.call 42 [.loc 1])) [.ret (.loc 2)] [],
  .set 3 (.lst true []),
  .for_ true [4] (.call 116 [.loc 0, .loc 1]) [.par [5, 6] [.call 60 [.loc 0, .loc 4], .call 60 [.loc 1, .loc 4]],
  .ite (.and_ (.cmp .is_ (.loc 5) (.con (.non))) (.cmp .is_ (.loc 6) (.con (.non)))) [.cont] [],
  .ite (.or_ (.cmp .is_ (.loc 5) (.con (.non))) (.cmp .is_ (.loc 6) (.con (.non)))) [.ret (.bin .add (.bin .add (.loc 2) (.loc 4)) (.call 65 [.ite (.cmp .is_ (.loc 5) (.con (.non))) (.loc 6) (.loc 5)]))] [],
  .ite (.cmp .ne (.meth 17 (.loc 5) []) (.meth 17 (.loc 6) [])) [.ex (.bm .append (.loc 3) [.tup [.loc 5, .loc 6, .bin .add (.loc 2) (.loc 4)]])] []],
  .ret (.frz (.loc 3))]
def f117 : Fn := ⟨3, [], 7, false, .fn, c117⟩
/-- likeness.nearest -/
def c118 : List S := [.unp [1, 2] (.tup [.con (.int 0), .con (.non)]),
  .for_ false [3, 4] (.enum (.loc 0)) [.set 5 (.bin .add (.bi .len [.fld 2 (.sub (.loc 4) (.con (.int 0)))]) (.bi .len [.fld 2 (.sub (.loc 4) (.con (.int 1)))])),
  .ite (.or_ (.cmp .is_ (.loc 2) (.con (.non))) (.cmp .lt (.loc 5) (.loc 2))) [.par [1, 2] [.loc 3, .loc 5]] []],
  .ret (.loc 1)]
def f118 : Fn := ⟨1, [], 6, false, .fn, c118⟩
/-- likeness.difference -/
def c119 : List S := [.par [2, 3] [.call 112 [.loc 0], .call 112 [.loc 1]],
  .par [4, 5] [.ite (.cmp .ne (.meth 17 (.loc 2) []) (.meth 17 (.loc 3) [])) (.lst false [.tup [.loc 2, .loc 3, .con (.str [])]]) (.lst false []), .dct true [] []],
  .while_ (.cmp .ne (.loc 4) (.lst false [])) [.unp [2, 3, 7] (.bm .popi (.loc 4) [.call 118 [.loc 4]]),
  .set 6 (.call 117 [.loc 2, .loc 3, .loc 7]),
  .ite (.isi [.str] (.loc 6)) [.ret (.loc 6)] [],
  .for_ false [8, 9, 10] (.loc 6) [.set 11 (.tup [.meth 17 (.loc 8) [], .meth 17 (.loc 9) []]),
  .ite (.cmp .notin (.loc 11) (.loc 5)) [.setI (.loc 5) (.loc 11) (.con (.bl true)),
  .ex (.bm .append (.loc 4) [.tup [.loc 8, .loc 9, .loc 10]])] []]],
  .ret (.con (.non))]
def f119 : Fn := ⟨2, [], 12, false, .fn, c119⟩
/-- trials.Trial.__init__ -/
def c120 : List S := [.setF 46 (.loc 0) (.loc 1),
  .setF 47 (.loc 0) (.con (.non))]
def f120 : Fn := ⟨2, [], 2, false, .fn, c120⟩
/-- trials.Trial.__enter__ -/
def c121 : List S := [.setF 47 (.loc 0) (.fld 32 (.fld 46 (.loc 0))),
  .ret (.fld 46 (.loc 0))]
def f121 : Fn := ⟨1, [], 1, false, .fn, c121⟩
/-- trials.Trial.__exit__ -/
def c122 : List S := [.ite (.cmp .isnot (.loc 1) (.con (.non))) [.setF 32 (.fld 46 (.loc 0)) (.fld 47 (.loc 0))] []]
def f122 : Fn := ⟨4, [], 4, false, .fn, c122⟩
/-- trials.is_change -/
def c123 : List S := [.ite (.or_ (.not_ (.isi [.tuple] (.loc 0))) (.or_ (.cmp .eq (.loc 0) (.tup [])) (.not_ (.isi [.str] (.sub (.loc 0) (.con (.int 0))))))) [.ret (.con (.bl false))] [],
  .ret (.cmp .eq (.dget1 (.glo 21) (.sub (.loc 0) (.con (.int 0)))) (.bi .len [.loc 0]))]
def f123 : Fn := ⟨1, [], 1, false, .fn, c123⟩
/-- trials.check_changes -/
def c124 : List S := [.ite (.not_ (.isi [.tuple] (.loc 0))) [.raise 107 [.con (.non)]] [],
  .for_ false [1, 2] (.enum (.loc 0)) [.ite (.not_ (.call 123 [.loc 2])) [.raise 107 [.loc 1]] []]]
def f124 : Fn := ⟨1, [], 3, false, .fn, c124⟩
/-- trials.make_change -/
def c125 : List S := [.mtch (.sub (.loc 1) (.con (.int 0))) [[[112, 117, 116]], [[97, 100, 100]], [[99, 104, 97, 110, 103, 101]], [[116, 97, 107, 101]]] [[.ex (.meth 35 (.loc 0) [.sub (.loc 1) (.con (.int 1)), .sub (.loc 1) (.con (.int 2))])], [.ex (.meth 27 (.loc 0) [.sub (.loc 1) (.con (.int 1))])], [.ex (.meth 41 (.loc 0) [.sub (.loc 1) (.con (.int 1)), .sub (.loc 1) (.con (.int 2))])], [.ex (.meth 42 (.loc 0) [.sub (.loc 1) (.con (.int 1))])], [.ex (.meth 43 (.loc 0) [.sub (.loc 1) (.con (.int 1))])]]]
def f125 : Fn := ⟨2, [], 2, false, .fn, c125⟩
/-- trials.Trial -/
def f126 : Fn := ⟨1, [], 1, false, .cel 4 120, []⟩
/-- trials.change_all -/
def c127 : List S := [.ex (.call 124 [.loc 1]),
  .with_ 2 (.call 126 [.loc 0]) 48 49 [.for_ true [3] (.loc 1) [.ex (.call 125 [.loc 2, .loc 3])],
  .ret (.prop 15 (.loc 2))]]
def f127 : Fn := ⟨2, [], 4, false, .fn, c127⟩
/-- trials.would -/
def c128 : List S := [.set 2 (.meth 45 (.loc 0) []),
  .ex (.call 127 [.loc 2, .loc 1]),
  .ret (.tup [.prop 15 (.loc 2), .prop 38 (.loc 2)])]
def f128 : Fn := ⟨2, [], 3, false, .fn, c128⟩
/-- consoles.Console.__init__ -/
def c129 : List S := [.setF 50 (.loc 0) (.ite (.cmp .is_ (.loc 1) (.con (.non))) (.call 83 []) (.loc 1)),
  .setF 51 (.loc 0) (.call 89 []),
  .setF 52 (.loc 0) (.con (.int 0))]
def f129 : Fn := ⟨2, [.non], 2, false, .fn, c129⟩
/-- consoles.Console.prompt -/
def c130 : List S := [.ite (.cmp .eq (.own1 .len 21 (.fld 51 (.loc 0))) (.con (.int 0))) [.ret (.glo 22)] [],
  .ret (.ite (.cmp .eq (.prop 15 (.fld 51 (.loc 0))) (.con (.str [119, 114, 111, 110, 103]))) (.glo 23) (.glo 24))]
def f130 : Fn := ⟨1, [], 1, false, .fn, c130⟩
/-- consoles.Console.waiting -/
def c131 : List S := [.ret (.prop 33 (.fld 51 (.loc 0)))]
def f131 : Fn := ⟨1, [], 1, false, .fn, c131⟩
/-- consoles.Console.spot -/
def c132 : List S := [.ret (.prop 38 (.fld 51 (.loc 0)))]
def f132 : Fn := ⟨1, [], 1, false, .fn, c132⟩
/-- consoles.Console.entered -/
def c133 : List S := [.ret (.fld 52 (.loc 0))]
def f133 : Fn := ⟨1, [], 1, false, .fn, c133⟩
/-- consoles.Console.settled -/
def c134 : List S := [.ite (.cmp .eq (.loc 1) (.con (.str [99, 111, 109, 112, 108, 101, 116, 101]))) [.ex (.meth 27 (.fld 50 (.loc 0)) [.prop 37 (.fld 51 (.loc 0))]),
  .augF 52 (.loc 0) .add (.con (.int 1))] [],
  .ite (.cmp .in_ (.loc 1) (.tup [.con (.str [99, 111, 109, 112, 108, 101, 116, 101]), .con (.str [101, 109, 112, 116, 121])])) [.setF 51 (.loc 0) (.call 89 [])] [],
  .ret (.loc 1)]
def f134 : Fn := ⟨2, [], 2, false, .fn, c134⟩
/-- consoles.Console.feed -/
def c135 : List S := [.ite (.not_ (.call 1 [.loc 1])) [.raise 102 [.loc 1]] [],
  .ite (.cmp .eq (.prop 15 (.fld 51 (.loc 0))) (.con (.str [119, 114, 111, 110, 103]))) [.raise 112 [.call 55 [.prop 37 (.fld 51 (.loc 0))]]] [],
  .ret (.meth 53 (.loc 0) [.meth 27 (.fld 51 (.loc 0)) [.loc 1]])]
def f135 : Fn := ⟨2, [], 2, false, .fn, c135⟩
/-- consoles.Console.withdraw -/
def c136 : List S := [.ret (.meth 53 (.loc 0) [.meth 43 (.fld 51 (.loc 0)) [.loc 1]])]
def f136 : Fn := ⟨2, [.int 1], 2, false, .fn, c136⟩
/-- consoles.Console.give_up -/
def c137 : List S := [.set 1 (.prop 33 (.fld 51 (.loc 0))),
  .setF 51 (.loc 0) (.call 89 []),
  .ret (.loc 1)]
def f137 : Fn := ⟨1, [], 2, false, .fn, c137⟩
/-- consoles.Console.recall -/
def c138 : List S := [.set 2 (.slc (.bm .split (.own2 .item 30 (.fld 50 (.loc 0)) (.loc 1)) [.con (.str [10])]) .nil (.neg (.con (.int 1)))),
  .setF 51 (.loc 0) (.cmeth 36 90 3 [.bi .tuple [.slc (.loc 2) .nil (.neg (.con (.int 1)))]]),
  .ret (.sub (.loc 2) (.neg (.con (.int 1))))]
def f138 : Fn := ⟨2, [], 3, false, .fn, c138⟩
/-- consoles.hint_of -/
def c139 : List S := [.set 1 (.sub (.call 41 [.loc 0]) (.con (.int 0))),
  .ite (.or_ (.cmp .is_ (.loc 1) (.con (.non))) (.or_ (.cmp .ne (.sub (.fld 1 (.loc 1)) (.con (.int 0))) (.con (.str [115, 116, 97, 114, 116]))) (.cmp .ne (.fld 4 (.loc 1)) (.tup [])))) [.ret (.con (.int 0))] [],
  .ite (.cmp .ne (.sub (.fld 1 (.loc 1)) (.con (.int 2))) (.tup [])) [.ret (.bin .add (.sub (.sub (.fld 0 (.loc 1)) (.neg (.con (.int 1)))) (.con (.int 0))) (.glo 25))] [],
  .ret (.ite (.cmp .gt (.bi .len [.fld 0 (.loc 1)]) (.con (.int 1))) (.sub (.sub (.fld 0 (.loc 1)) (.neg (.con (.int 1)))) (.con (.int 0))) (.con (.int 0)))]
def f139 : Fn := ⟨1, [], 2, false, .fn, c139⟩
/-- consoles.Console.hint -/
def c140 : List S := [.ret (.call 139 [.prop 37 (.fld 51 (.loc 0))])]
def f140 : Fn := ⟨1, [], 1, false, .fn, c140⟩
/-- consoles.Console.change_line -/
def c141 : List S := [.ret (.meth 53 (.loc 0) [.meth 41 (.fld 51 (.loc 0)) [.loc 1, .loc 2]])]
def f141 : Fn := ⟨3, [], 3, false, .fn, c141⟩
/-- consoles.Console -/
def f142 : Fn := ⟨1, [.non], 1, false, .cel 5 129, []⟩
/-- draw._law_begin -/
def c900 : List S := [.ret (.dct true [.s [99, 101, 108, 108, 115], .s [97, 116], .s [108, 101, 102, 116], .s [117, 115, 101, 100]] [.bin .add (.loc 0) (.lst false [.con (.int 0)]), .con (.int 0), .con (.int 0), .con (.int 0)])]
def f900 : Fn := ⟨1, [], 1, false, .fn, c900⟩
/-- draw._law_mixed -/
def c901 : List S := [.set 2 (.bin .mod (.bin .add (.bin .add (.bin .add (.bin .mod (.loc 0) (.con (.int 1000000007))) (.bin .mul (.bin .mul (.con (.int 7919)) (.loc 1)) (.loc 1))) (.bin .mul (.con (.int 31)) (.loc 1))) (.con (.int 7))) (.con (.int 2147483647))),
  .set 2 (.bin .mod (.bin .mul (.bin .mod (.bin .mul (.loc 2) (.loc 2)) (.con (.int 2147483647))) (.loc 2)) (.con (.int 2147483629))),
  .ret (.bin .fdiv (.bin .mod (.bin .mul (.loc 2) (.bin .add (.con (.int 69621)) (.bin .mul (.con (.int 2)) (.bin .mod (.loc 1) (.con (.int 1000)))))) (.con (.int 2147483647))) (.con (.int 7)))]
def f901 : Fn := ⟨2, [], 3, false, .fn, c901⟩
/-- draw._law_next -/
def c902 : List S := [.ite (.cmp .gt (.sub (.loc 0) (.con (.str [108, 101, 102, 116]))) (.con (.int 0))) [.set 4 (.bin .mod (.sub (.loc 0) (.con (.str [108, 101, 102, 116]))) (.loc 1)),
  .setI (.loc 0) (.con (.str [108, 101, 102, 116])) (.bin .fdiv (.sub (.loc 0) (.con (.str [108, 101, 102, 116]))) (.loc 1)),
  .ret (.loc 4)] [],
  .set 2 (.sub (.loc 0) (.con (.str [99, 101, 108, 108, 115]))),
  .set 3 (.sub (.loc 2) (.bin .mod (.sub (.loc 0) (.con (.str [97, 116]))) (.bi .len [.loc 2]))),
  .setI (.loc 0) (.con (.str [97, 116])) (.bin .add (.sub (.loc 0) (.con (.str [97, 116]))) (.con (.int 1))),
  .ite (.and_ (.cmp .ge (.loc 3) (.bin .pow (.con (.int 10)) (.con (.int 18)))) (.cmp .le (.sub (.loc 0) (.con (.str [97, 116]))) (.bi .len [.loc 2]))) [.setI (.loc 0) (.con (.str [108, 101, 102, 116])) (.bin .fdiv (.loc 3) (.loc 1)),
  .ret (.bin .mod (.loc 3) (.loc 1))] [],
  .setI (.loc 0) (.con (.str [117, 115, 101, 100])) (.bin .add (.sub (.loc 0) (.con (.str [117, 115, 101, 100]))) (.con (.int 1))),
  .ret (.bin .mod (.call 901 [.call 901 [.loc 3, .sub (.loc 0) (.con (.str [97, 116]))], .sub (.loc 0) (.con (.str [117, 115, 101, 100]))]) (.loc 1))]
def f902 : Fn := ⟨2, [], 5, false, .fn, c902⟩
end PG
end
section
set_option maxHeartbeats 4000000
/-! MG: the codes of the law's machine and of the makers of texts (printed by gen2.py). -/
namespace MG
open PC
/-- mach._law_primary_end -/
def c910 : List S := [.ite (.cmp .in_ (.loc 0) (.tup [.con (.str [115, 109, 97, 108, 108]), .con (.str [109, 111, 114, 101]), .con (.str [115, 117, 105, 116, 101])])) [.ret (.ite (.cmp .eq (.loc 1) (.con (.str [110, 97, 109, 101]))) (.con (.str [116, 97, 114, 103, 101, 116])) (.con (.str [99, 104, 97, 105, 110])))] [],
  .ret (.ite (.and_ (.cmp .eq (.loc 0) (.con (.str [97, 114, 103, 117, 109, 101, 110, 116]))) (.cmp .eq (.loc 1) (.con (.str [110, 97, 109, 101])))) (.con (.str [110, 97, 109, 101, 100])) (.con (.str [100, 111, 110, 101])))]
def f910 : Fn := ⟨2, [], 2, false, .fn, c910⟩
/-- mach._law_operand -/
def c911 : List S := [.unp [2, 3, 4, 5] (.loc 0),
  .ite (.cmp .in_ (.loc 1) (.tup [.con (.str [110, 97, 109, 101]), .con (.str [116, 101, 120, 116])])) [.ret (.tup [.loc 2, .loc 3, .loc 4, .call 910 [.loc 5, .loc 1]])] [],
  .ite (.cmp .eq (.loc 1) (.con (.str [110, 117, 109, 98, 101, 114]))) [.ret (.tup [.loc 2, .loc 3, .loc 4, .con (.str [115, 101, 97, 108, 101, 100])])] [],
  .ite (.cmp .in_ (.loc 1) (.tup [.con (.str [45]), .con (.str [110, 111, 116])])) [.ret (.tup [.loc 2, .loc 3, .loc 4, .con (.str [111, 112, 101, 114, 97, 110, 100])])] [],
  .ite (.cmp .in_ (.loc 1) (.tup [.con (.str [40]), .con (.str [91]), .con (.str [123])])) [.set 6 (.sub (.dct false [.s [40], .s [91], .s [123]] [.con (.str [103, 114, 111, 117, 112]), .con (.str [108, 105, 115, 116]), .con (.str [107, 101, 121])]) (.loc 1)),
  .ret (.tup [.loc 2, .loc 3, .bin .add (.loc 4) (.tup [.tup [.loc 6, .call 910 [.loc 5, .con (.str [116, 101, 120, 116])]]]), .con (.str [99, 108, 111, 115, 101])])] [],
  .ite (.and_ (.cmp .in_ (.loc 5) (.tup [.con (.str [99, 108, 111, 115, 101]), .con (.str [97, 114, 103, 117, 109, 101, 110, 116])])) (.cmp .eq (.call 912 [.sub (.sub (.loc 4) (.neg (.con (.int 1)))) (.con (.int 0))]) (.loc 1))) [.ret (.tup [.loc 2, .loc 3, .slc (.loc 4) .nil (.neg (.con (.int 1))), .sub (.sub (.loc 4) (.neg (.con (.int 1)))) (.con (.int 1))])] [],
  .ret (.ite (.and_ (.cmp .eq (.loc 5) (.con (.str [118, 97, 108, 117, 101]))) (.cmp .eq (.loc 1) (.con (.str [59])))) (.tup [.loc 2, .loc 3, .loc 4, .con (.str [109, 111, 114, 101])]) (.con (.non)))]
def f911 : Fn := ⟨2, [], 7, false, .fn, c911⟩
/-- mach._law_end_of -/
def c912 : List S := [.set 1 (.dct false [.s [103, 114, 111, 117, 112], .s [99, 97, 108, 108], .s [110, 97, 109, 101, 115], .s [108, 105, 115, 116], .s [105, 110, 100, 101, 120], .s [107, 101, 121], .s [105, 116, 101, 109]] [.con (.str [41]), .con (.str [41]), .con (.str [41]), .con (.str [93]), .con (.str [93]), .con (.str [125]), .con (.str [125])]),
  .ret (.dget (.loc 1) (.loc 0) (.con (.str [])))]
def f912 : Fn := ⟨1, [], 2, false, .fn, c912⟩
/-- mach._law_behind -/
def c913 : List S := [.unp [2, 3, 4, 5] (.loc 0),
  .par [6, 7] [.ite (.cmp .ne (.loc 4) (.tup [])) (.sub (.sub (.loc 4) (.neg (.con (.int 1)))) (.con (.int 0))) (.con (.str [])), .cmp .in_ (.loc 5) (.tup [.con (.str [116, 97, 114, 103, 101, 116]), .con (.str [99, 104, 97, 105, 110])])],
  .ite (.cmp .in_ (.loc 1) (.tup [.con (.str [111, 112]), .con (.str [45]), .con (.str [61, 61]), .con (.str [97, 110, 100]), .con (.str [111, 114]), .con (.str [105, 110])])) [.ret (.tup [.loc 2, .loc 3, .loc 4, .con (.str [111, 112, 101, 114, 97, 110, 100])])] [],
  .ite (.cmp .eq (.loc 1) (.con (.str [61]))) [.set 8 (.or_ (.cmp .eq (.loc 5) (.con (.str [110, 97, 109, 101, 100]))) (.and_ (.cmp .eq (.loc 5) (.con (.str [116, 97, 114, 103, 101, 116]))) (.and_ (.cmp .eq (.loc 4) (.tup [])) (.cmp .eq (.sub (.loc 3) (.con (.int 0))) (.con (.str [115, 109, 97, 108, 108])))))),
  .ret (.ite (.loc 8) (.tup [.loc 2, .loc 3, .loc 4, .con (.str [111, 112, 101, 114, 97, 110, 100])]) (.con (.non)))] [],
  .ite (.and_ (.cmp .in_ (.loc 1) (.tup [.con (.str [46]), .con (.str [40]), .con (.str [91])])) (.cmp .ne (.loc 5) (.con (.str [115, 101, 97, 108, 101, 100])))) [.ite (.cmp .eq (.loc 1) (.con (.str [46]))) [.ret (.tup [.loc 2, .loc 3, .loc 4, .ite (.loc 7) (.con (.str [99, 104, 97, 105, 110, 32, 110, 97, 109, 101])) (.con (.str [110, 97, 109, 101]))])] [],
  .ite (.cmp .eq (.loc 1) (.con (.str [40]))) [.ret (.tup [.loc 2, .loc 3, .bin .add (.loc 4) (.tup [.tup [.con (.str [99, 97, 108, 108]), .ite (.loc 7) (.con (.str [99, 104, 97, 105, 110])) (.con (.str [100, 111, 110, 101]))]]), .con (.str [97, 114, 103, 117, 109, 101, 110, 116])])] [],
  .ret (.tup [.loc 2, .loc 3, .bin .add (.loc 4) (.tup [.tup [.con (.str [105, 110, 100, 101, 120]), .ite (.loc 7) (.con (.str [116, 97, 114, 103, 101, 116])) (.con (.str [100, 111, 110, 101]))]]), .con (.str [111, 112, 101, 114, 97, 110, 100])])] [],
  .ite (.cmp .eq (.loc 1) (.con (.str [44]))) [.set 9 (.dget1 (.dct false [.s [103, 114, 111, 117, 112], .s [108, 105, 115, 116], .s [99, 97, 108, 108], .s [105, 116, 101, 109]] [.con (.str [99, 108, 111, 115, 101]), .con (.str [99, 108, 111, 115, 101]), .con (.str [97, 114, 103, 117, 109, 101, 110, 116]), .con (.str [99, 108, 111, 115, 101])]) (.loc 6)),
  .set 10 (.ite (.cmp .eq (.loc 6) (.con (.str [105, 116, 101, 109]))) (.con (.str [107, 101, 121])) (.loc 6)),
  .set 4 (.ite (.cmp .isnot (.loc 9) (.con (.non))) (.bin .add (.slc (.loc 4) .nil (.neg (.con (.int 1)))) (.tup [.tup [.loc 10, .sub (.sub (.loc 4) (.neg (.con (.int 1)))) (.con (.int 1))]])) (.loc 4)),
  .ret (.ite (.cmp .isnot (.loc 9) (.con (.non))) (.tup [.loc 2, .loc 3, .loc 4, .loc 9]) (.con (.non)))] [],
  .ite (.and_ (.cmp .eq (.loc 1) (.con (.str [58]))) (.cmp .eq (.loc 6) (.con (.str [107, 101, 121])))) [.ret (.tup [.loc 2, .loc 3, .bin .add (.slc (.loc 4) .nil (.neg (.con (.int 1)))) (.tup [.tup [.con (.str [105, 116, 101, 109]), .sub (.sub (.loc 4) (.neg (.con (.int 1)))) (.con (.int 1))]]), .con (.str [111, 112, 101, 114, 97, 110, 100])])] [],
  .ite (.and_ (.cmp .notin (.loc 6) (.tup [.con (.str []), .con (.str [107, 101, 121]), .con (.str [110, 97, 109, 101, 115]), .con (.str [102, 105, 101, 108, 100])])) (.cmp .eq (.loc 1) (.call 912 [.loc 6]))) [.ret (.tup [.loc 2, .loc 3, .slc (.loc 4) .nil (.neg (.con (.int 1))), .sub (.sub (.loc 4) (.neg (.con (.int 1)))) (.con (.int 1))])] [],
  .ret (.ite (.cmp .eq (.loc 4) (.tup [])) (.call 914 [.loc 0, .loc 1]) (.con (.non)))]
def f913 : Fn := ⟨2, [], 11, false, .fn, c913⟩
/-- mach._law_ended -/
def c914 : List S := [.unp [2, 3, 4, 5] (.loc 0),
  .ite (.and_ (.cmp .eq (.loc 1) (.con (.str [58]))) (.cmp .eq (.sub (.loc 3) (.con (.int 0))) (.con (.str [104, 101, 97, 100])))) [.ret (.tup [.loc 2, .bin .add (.bin .add (.tup [.con (.str [115, 109, 97, 108, 108])]) (.slc (.loc 3) (.con (.int 1)) .nil)) (.tup [.con (.bl false)]), .loc 4, .con (.str [115, 117, 105, 116, 101])])] [],
  .ret (.ite (.and_ (.cmp .eq (.loc 1) (.con (.str [59]))) (.cmp .eq (.sub (.loc 3) (.con (.int 0))) (.con (.str [115, 109, 97, 108, 108])))) (.tup [.loc 2, .loc 3, .loc 4, .con (.str [109, 111, 114, 101])]) (.con (.non)))]
def f914 : Fn := ⟨2, [], 6, false, .fn, c914⟩
/-- mach._law_begun -/
def c915 : List S := [.unp [3, 4, 5, 6] (.loc 0),
  .set 2 (.slc (.sub (.loc 3) (.neg (.con (.int 1)))) (.con (.int 2)) .nil),
  .ite (.or_ (.cmp .in_ (.loc 1) (.bm .split (.bm .strip (.sub (.loc 4) (.con (.int 1))) [.con (.str [33])]) [.con (.str [32])])) (.and_ (.cmp .eq (.loc 6) (.con (.str [108, 105, 110, 101]))) (.cmp .in_ (.loc 1) (.tup [.con (.str [105, 102]), .con (.str [119, 104, 105, 108, 101]), .con (.str [102, 111, 114]), .con (.str [100, 101, 102]), .con (.str [116, 114, 121])])))) [.set 7 (.ite (.cmp .eq (.loc 1) (.con (.str [100, 101, 102]))) (.tup [.con (.bl true), .con (.bl false)]) (.tup [.sub (.loc 2) (.con (.int 0)), .or_ (.sub (.loc 2) (.con (.int 1))) (.cmp .in_ (.loc 1) (.tup [.con (.str [119, 104, 105, 108, 101]), .con (.str [102, 111, 114])]))])),
  .set 8 (.dct false [.s [101, 108, 115, 101], .s [116, 114, 121], .s [102, 105, 110, 97, 108, 108, 121]] [.con (.str [99, 111, 108, 111, 110]), .con (.str [99, 111, 108, 111, 110]), .con (.str [99, 111, 108, 111, 110])]),
  .set 8 (.dictP (.bin .add (.itemsL (.loc 8)) (.comp false [10] [10] true (.tup [.con (.str [100, 101, 102]), .con (.str [102, 111, 114]), .con (.str [101, 120, 99, 101, 112, 116])]) .nil (.tup [.loc 10, .loc 10])))),
  .set 9 (.dct false [.s [105, 102], .s [101, 108, 105, 102], .s [116, 114, 121], .s [101, 120, 99, 101, 112, 116]] [.con (.str [101, 108, 105, 102, 32, 101, 108, 115, 101]), .con (.str [101, 108, 105, 102, 32, 101, 108, 115, 101]), .con (.str [101, 120, 99, 101, 112, 116, 32, 102, 105, 110, 97, 108, 108, 121, 33]), .con (.str [101, 120, 99, 101, 112, 116, 32, 102, 105, 110, 97, 108, 108, 121])]),
  .ret (.tup [.loc 3, .bin .add (.tup [.con (.str [104, 101, 97, 100]), .dget (.loc 9) (.loc 1) (.con (.str []))]) (.loc 7), .tup [], .dget (.loc 8) (.loc 1) (.con (.str [111, 112, 101, 114, 97, 110, 100]))])] [],
  .ite (.cmp .eq (.loc 6) (.con (.str [99, 108, 97, 117, 115, 101]))) [.ret (.con (.non))] [],
  .ret (.call 916 [.tup [.loc 3, .bin .add (.bin .add (.tup [.con (.str [115, 109, 97, 108, 108]), .con (.str [])]) (.loc 2)) (.tup [.sub (.loc 4) (.con (.int 2))]), .tup [], .con (.str [115, 109, 97, 108, 108])], .loc 1])]
def f915 : Fn := ⟨2, [], 11, false, .fn, c915⟩
/-- mach._law_step -/
def c916 : List S := [.unp [3, 4, 5, 6] (.loc 0),
  .ite (.cmp .in_ (.loc 6) (.tup [.con (.str [108, 105, 110, 101]), .con (.str [99, 108, 97, 117, 115, 101])])) [.ret (.call 915 [.loc 0, .loc 1])] [],
  .ite (.and_ (.cmp .in_ (.loc 6) (.tup [.con (.str [115, 109, 97, 108, 108]), .con (.str [109, 111, 114, 101]), .con (.str [115, 117, 105, 116, 101])])) (.cmp .in_ (.loc 1) (.tup [.con (.str [112, 97, 115, 115]), .con (.str [98, 114, 101, 97, 107]), .con (.str [114, 101, 116, 117, 114, 110])]))) [.ite (.cmp .eq (.loc 1) (.con (.str [114, 101, 116, 117, 114, 110]))) [.ret (.ite (.sub (.loc 4) (.con (.int 2))) (.tup [.loc 3, .loc 4, .loc 5, .con (.str [118, 97, 108, 117, 101])]) (.con (.non)))] [],
  .ret (.ite (.or_ (.cmp .eq (.loc 1) (.con (.str [112, 97, 115, 115]))) (.sub (.loc 4) (.con (.int 3)))) (.tup [.loc 3, .loc 4, .loc 5, .con (.str [101, 110, 100])]) (.con (.non)))] [],
  .ite (.cmp .in_ (.loc 6) (.tup [.con (.str [115, 109, 97, 108, 108]), .con (.str [109, 111, 114, 101]), .con (.str [115, 117, 105, 116, 101]), .con (.str [118, 97, 108, 117, 101]), .con (.str [111, 112, 101, 114, 97, 110, 100]), .con (.str [99, 108, 111, 115, 101]), .con (.str [97, 114, 103, 117, 109, 101, 110, 116])])) [.ret (.call 911 [.loc 0, .loc 1])] [],
  .ite (.cmp .in_ (.loc 6) (.tup [.con (.str [116, 97, 114, 103, 101, 116]), .con (.str [99, 104, 97, 105, 110]), .con (.str [100, 111, 110, 101]), .con (.str [115, 101, 97, 108, 101, 100]), .con (.str [110, 97, 109, 101, 100])])) [.ret (.call 913 [.loc 0, .loc 1])] [],
  .ite (.or_ (.cmp .in_ (.loc 6) (.tup [.con (.str [101, 110, 100]), .con (.str [99, 111, 108, 111, 110])])) (.and_ (.cmp .eq (.loc 6) (.con (.str [101, 120, 99, 101, 112, 116]))) (.cmp .eq (.loc 1) (.con (.str [58]))))) [.ret (.call 914 [.loc 0, .loc 1])] [],
  .set 2 (.dct false [.s [110, 97, 109, 101, 32, 110, 97, 109, 101], .s [99, 104, 97, 105, 110, 32, 110, 97, 109, 101, 32, 110, 97, 109, 101], .s [100, 101, 102, 32, 110, 97, 109, 101], .s [102, 111, 114, 32, 110, 97, 109, 101]] [.con (.str [100, 111, 110, 101]), .con (.str [116, 97, 114, 103, 101, 116]), .con (.str [111, 112, 101, 110]), .con (.str [102, 111, 114, 32, 105, 110])]),
  .ite (.cmp .in_ (.bin .add (.bin .add (.loc 6) (.con (.str [32]))) (.loc 1)) (.loc 2)) [.ret (.tup [.loc 3, .loc 4, .loc 5, .sub (.loc 2) (.bin .add (.bin .add (.loc 6) (.con (.str [32]))) (.loc 1))])] [],
  .set 2 (.dct false [.s [102, 111, 114, 32, 105, 110, 32, 105, 110], .s [101, 120, 99, 101, 112, 116, 32, 110, 97, 109, 101], .s [110, 97, 109, 101, 115, 32, 110, 97, 109, 101], .s [109, 111, 114, 101, 32, 110, 97, 109, 101, 115, 32, 44]] [.con (.str [111, 112, 101, 114, 97, 110, 100]), .con (.str [99, 111, 108, 111, 110]), .con (.str [109, 111, 114, 101, 32, 110, 97, 109, 101, 115]), .con (.str [110, 97, 109, 101, 115])]),
  .ite (.cmp .in_ (.bin .add (.bin .add (.loc 6) (.con (.str [32]))) (.loc 1)) (.loc 2)) [.ret (.tup [.loc 3, .loc 4, .loc 5, .sub (.loc 2) (.bin .add (.bin .add (.loc 6) (.con (.str [32]))) (.loc 1))])] [],
  .ite (.and_ (.cmp .eq (.loc 6) (.con (.str [111, 112, 101, 110]))) (.cmp .eq (.loc 1) (.con (.str [40])))) [.ret (.tup [.loc 3, .loc 4, .tup [.tup [.con (.str [110, 97, 109, 101, 115]), .con (.str [99, 111, 108, 111, 110])]], .con (.str [110, 97, 109, 101, 115])])] [],
  .ret (.ite (.and_ (.cmp .in_ (.loc 6) (.tup [.con (.str [110, 97, 109, 101, 115]), .con (.str [109, 111, 114, 101, 32, 110, 97, 109, 101, 115])])) (.cmp .eq (.loc 1) (.con (.str [41])))) (.tup [.loc 3, .loc 4, .tup [], .con (.str [99, 111, 108, 111, 110])]) (.con (.non)))]
def f916 : Fn := ⟨2, [], 7, false, .fn, c916⟩
/-- mach._law_line_end -/
def c917 : List S := [.unp [2, 3, 4, 5] (.loc 0),
  .ite (.or_ (.cmp .ne (.sub (.loc 3) (.con (.int 0))) (.con (.str [115, 109, 97, 108, 108]))) (.cmp .notin (.loc 5) (.tup [.con (.str [116, 97, 114, 103, 101, 116]), .con (.str [99, 104, 97, 105, 110]), .con (.str [100, 111, 110, 101]), .con (.str [115, 101, 97, 108, 101, 100]), .con (.str [101, 110, 100]), .con (.str [118, 97, 108, 117, 101]), .con (.str [109, 111, 114, 101]), .con (.str [115, 117, 105, 116, 101])]))) [.ret (.con (.non))] [],
  .ite (.sub (.loc 3) (.con (.int 4))) [.ret (.tup [.tup [], .tup [.con (.str [111, 118, 101, 114])], .tup [], .con (.str [])])] [],
  .set 1 (.ite (.cmp .eq (.loc 5) (.con (.str [115, 117, 105, 116, 101]))) (.slc (.loc 3) (.con (.int 2)) (.con (.int 4))) (.tup [])),
  .ret (.tup [.bin .add (.slc (.loc 2) .nil (.neg (.con (.int 1)))) (.tup [.bin .add (.tup [.sub (.sub (.loc 2) (.neg (.con (.int 1)))) (.con (.int 0)), .sub (.loc 3) (.con (.int 1))]) (.slc (.sub (.loc 2) (.neg (.con (.int 1)))) (.con (.int 2)) .nil)]), .tup [.con (.str [102, 114, 111, 110, 116]), .con (.int 0), .loc 1], .tup [], .con (.str [])])]
def f917 : Fn := ⟨1, [], 6, false, .fn, c917⟩
/-- mach._law_is_wordy -/
def c918 : List S := [.ret (.cmp .in_ (.loc 0) (.con (.str [97, 98, 99, 100, 101, 102, 103, 104, 105, 106, 107, 108, 109, 110, 111, 112, 113, 114, 115, 116, 117, 118, 119, 120, 121, 122, 65, 66, 67, 68, 69, 70, 71, 72, 73, 74, 75, 76, 77, 78, 79, 80, 81, 82, 83, 84, 85, 86, 87, 88, 89, 90, 95, 48, 49, 50, 51, 52, 53, 54, 55, 56, 57])))]
def f918 : Fn := ⟨1, [], 1, false, .fn, c918⟩
/-- mach._law_can -/
def c920 : List S := [.ite (.cmp .isnot (.call 916 [.loc 0, .con (.str [110, 97, 109, 101])]) (.con (.non))) [.ret (.con (.bl true))] [],
  .set 2 (.comp false [3] [3] true (.call 919 []) (.cmp .eq (.slc (.loc 3) .nil (.bi .len [.loc 1])) (.loc 1)) (.loc 3)),
  .ret (.cmp .ne (.comp false [3] [3] true (.loc 2) (.cmp .isnot (.call 916 [.loc 0, .loc 3]) (.con (.non))) (.loc 3)) (.lst false []))]
def f920 : Fn := ⟨2, [], 4, false, .fn, c920⟩
/-- mach._law_line_begun -/
def c921 : List S := [.set 1 (.sub (.loc 0) (.con (.int 0))),
  .unp [3, 4, 5] (.sub (.loc 0) (.con (.int 1))),
  .ite (.cmp .eq (.loc 1) (.tup [])) [.ret (.ite (.cmp .eq (.loc 4) (.con (.int 0))) (.tup [.tup [.tup [.con (.int 0), .con (.str []), .con (.bl false), .con (.bl false)]], .tup [.con (.str [108, 105, 110, 101]), .con (.str []), .con (.bl true)], .tup [], .con (.str [108, 105, 110, 101])]) (.con (.non)))] [],
  .ite (.cmp .ne (.loc 5) (.tup [])) [.set 6 (.tup [.bin .add (.loc 1) (.tup [.bin .add (.tup [.loc 4, .con (.str [])]) (.loc 5)]), .tup [.con (.str [108, 105, 110, 101]), .con (.str []), .con (.bl false)], .tup [], .con (.str [108, 105, 110, 101])]),
  .ret (.ite (.cmp .gt (.loc 4) (.sub (.sub (.loc 1) (.neg (.con (.int 1)))) (.con (.int 0)))) (.loc 6) (.con (.non)))] [],
  .while_ (.and_ (.cmp .gt (.sub (.sub (.loc 1) (.neg (.con (.int 1)))) (.con (.int 0))) (.loc 4)) (.cmp .ne (.slc (.sub (.sub (.loc 1) (.neg (.con (.int 1)))) (.con (.int 1))) (.neg (.con (.int 1))) .nil) (.con (.str [33])))) [.set 1 (.slc (.loc 1) .nil (.neg (.con (.int 1))))],
  .unp [7, 8] (.slc (.sub (.loc 1) (.neg (.con (.int 1)))) .nil (.con (.int 2))),
  .set 1 (.bin .add (.slc (.loc 1) .nil (.neg (.con (.int 1)))) (.tup [.bin .add (.tup [.loc 7, .con (.str [])]) (.slc (.sub (.loc 1) (.neg (.con (.int 1)))) (.con (.int 2)) .nil)])),
  .set 2 (.ite (.or_ (.cmp .eq (.loc 7) (.con (.int 0))) (.cmp .eq (.slc (.loc 8) (.neg (.con (.int 1))) .nil) (.con (.str [33])))) (.con (.str [99, 108, 97, 117, 115, 101])) (.con (.str [108, 105, 110, 101]))),
  .ret (.ite (.cmp .eq (.loc 7) (.loc 4)) (.tup [.loc 1, .tup [.con (.str [108, 105, 110, 101]), .loc 8, .con (.bl false)], .tup [], .loc 2]) (.con (.non)))]
def f921 : Fn := ⟨1, [], 9, false, .fn, c921⟩
/-- mach._law_front -/
def c922 : List S := [.set 2 (.sub (.loc 0) (.con (.int 0))),
  .unp [3, 4, 5] (.sub (.loc 0) (.con (.int 1))),
  .ite (.cmp .eq (.loc 1) (.con (.str [32]))) [.ret (.tup [.tup [.loc 2, .tup [.loc 3, .bin .add (.loc 4) (.con (.int 1)), .loc 5], .tup [], .con (.str [])], .tup []])] [],
  .ite (.cmp .eq (.loc 1) (.con (.str [35]))) [.ret (.tup [.loc 0, .tup [.con (.str [99, 111, 109, 109, 101, 110, 116])]])] [],
  .ite (.cmp .ne (.loc 1) (.con (.str [10]))) [.set 6 (.ite (.cmp .ne (.loc 1) (.con (.str [92]))) (.call 921 [.loc 0]) (.con (.non))),
  .ret (.ite (.cmp .is_ (.loc 6) (.con (.non))) (.con (.non)) (.call 923 [.loc 6, .loc 1]))] [],
  .ite (.cmp .eq (.loc 2) (.tup [])) [.ret (.tup [.tup [.tup [], .tup [.con (.str [102, 114, 111, 110, 116]), .con (.int 0), .tup []], .tup [], .con (.str [])], .tup []])] [],
  .ite (.or_ (.cmp .ne (.loc 5) (.tup [])) (.cmp .ne (.comp false [7] [7] true (.loc 2) (.cmp .eq (.slc (.sub (.loc 7) (.con (.int 1))) (.neg (.con (.int 1))) .nil) (.con (.str [33]))) (.loc 7)) (.lst false []))) [.ret (.con (.non))] [],
  .ret (.tup [.tup [.tup [], .tup [.con (.str [111, 118, 101, 114])], .tup [], .con (.str [])], .tup []])]
def f922 : Fn := ⟨2, [], 8, false, .fn, c922⟩
/-- mach._law_code -/
def c923 : List S := [.unp [4, 5, 6, 7] (.loc 0),
  .ite (.or_ (.cmp .eq (.sub (.loc 5) (.con (.int 0))) (.con (.str [111, 118, 101, 114]))) (.cmp .eq (.sub (.loc 5) (.con (.int 0))) (.con (.str [102, 114, 111, 110, 116])))) [.ret (.ite (.cmp .eq (.sub (.loc 5) (.con (.int 0))) (.con (.str [111, 118, 101, 114]))) (.con (.non)) (.call 922 [.loc 0, .loc 1]))] [],
  .ite (.or_ (.cmp .eq (.loc 1) (.con (.str [32]))) (.and_ (.cmp .eq (.loc 1) (.con (.str [10]))) (.cmp .ne (.loc 6) (.tup [])))) [.ret (.tup [.loc 0, .tup []])] [],
  .set 2 (.call 917 [.loc 0]),
  .ite (.cmp .eq (.loc 1) (.con (.str [10]))) [.ret (.ite (.cmp .isnot (.loc 2) (.con (.non))) (.tup [.loc 2, .tup []]) (.con (.non)))] [],
  .ite (.or_ (.cmp .eq (.loc 1) (.con (.str [92]))) (.and_ (.cmp .eq (.loc 1) (.con (.str [35]))) (.or_ (.cmp .ne (.loc 6) (.tup [])) (.cmp .isnot (.loc 2) (.con (.non)))))) [.ret (.tup [.loc 0, .ite (.cmp .eq (.loc 1) (.con (.str [92]))) (.tup [.con (.str [106, 111, 105, 110])]) (.tup [.con (.str [99, 111, 109, 109, 101, 110, 116])])])] [],
  .ite (.call 918 [.loc 1]) [.ite (.cmp .in_ (.loc 1) (.con (.str [48, 49, 50, 51, 52, 53, 54, 55, 56, 57]))) [.ret (.ite (.cmp .isnot (.call 916 [.loc 0, .con (.str [110, 117, 109, 98, 101, 114])]) (.con (.non))) (.tup [.loc 0, .tup [.con (.str [110, 117, 109, 98, 101, 114]), .loc 1]]) (.con (.non)))] [],
  .ret (.ite (.call 920 [.loc 0, .loc 1]) (.tup [.loc 0, .tup [.con (.str [119, 111, 114, 100]), .loc 1]]) (.con (.non)))] [],
  .ite (.cmp .in_ (.loc 1) (.con (.str [39, 34, 36]))) [.set 8 (.ite (.cmp .eq (.loc 1) (.con (.str [36]))) (.tup [.con (.str [100, 111, 108, 108, 97, 114])]) (.tup [.con (.str [113, 117, 111, 116, 101]), .loc 1])),
  .ret (.ite (.cmp .isnot (.call 916 [.loc 0, .con (.str [116, 101, 120, 116])]) (.con (.non))) (.tup [.loc 0, .loc 8]) (.con (.non)))] [],
  .ite (.cmp .in_ (.loc 1) (.con (.str [60, 62, 61, 33]))) [.ret (.ite (.cmp .isnot (.call 916 [.loc 0, .con (.str [61, 61])]) (.con (.non))) (.tup [.loc 0, .tup [.con (.str [111, 112]), .loc 1]]) (.con (.non)))] [],
  .set 3 (.cmp .in_ (.loc 7) (.tup [.con (.str [116, 97, 114, 103, 101, 116]), .con (.str [99, 104, 97, 105, 110]), .con (.str [100, 111, 110, 101]), .con (.str [115, 101, 97, 108, 101, 100]), .con (.str [110, 97, 109, 101, 100])])),
  .ite (.and_ (.cmp .eq (.loc 1) (.con (.str [125]))) (.and_ (.cmp .ne (.loc 6) (.tup [])) (.and_ (.cmp .eq (.sub (.sub (.loc 6) (.neg (.con (.int 1)))) (.con (.int 0))) (.con (.str [102, 105, 101, 108, 100]))) (.loc 3)))) [.ret (.tup [.tup [.loc 4, .loc 5, .slc (.loc 6) .nil (.neg (.con (.int 1))), .sub (.sub (.loc 6) (.neg (.con (.int 1)))) (.con (.int 1))], .tup [.con (.str [116, 101, 109, 112, 108, 97, 116, 101]), .con (.bl false)]])] [],
  .set 0 (.call 916 [.loc 0, .ite (.cmp .in_ (.loc 1) (.con (.str [43, 42, 47]))) (.con (.str [111, 112])) (.loc 1)]),
  .ret (.ite (.cmp .isnot (.loc 0) (.con (.non))) (.tup [.loc 0, .tup []]) (.con (.non)))]
def f923 : Fn := ⟨2, [], 9, false, .fn, c923⟩
/-- mach._law_in_text -/
def c924 : List S := [.ite (.cmp .eq (.sub (.loc 1) (.con (.int 0))) (.con (.str [108, 111, 110, 103]))) [.unp [7, 8, 9, 10] (.loc 1),
  .ite (.or_ (.loc 10) (.cmp .notin (.loc 2) (.tup [.loc 8, .con (.str [92])]))) [.ret (.tup [.loc 0, .tup [.con (.str [108, 111, 110, 103]), .loc 8, .con (.int 0), .con (.bl false)]])] [],
  .ite (.cmp .eq (.loc 2) (.con (.str [92]))) [.ret (.tup [.loc 0, .tup [.con (.str [108, 111, 110, 103]), .loc 8, .con (.int 0), .con (.bl true)]])] [],
  .ret (.ite (.cmp .eq (.loc 9) (.con (.int 2))) (.tup [.call 916 [.loc 0, .con (.str [116, 101, 120, 116])], .tup []]) (.tup [.loc 0, .tup [.con (.str [108, 111, 110, 103]), .loc 8, .bin .add (.loc 9) (.con (.int 1)), .con (.bl false)]]))] [],
  .ite (.cmp .eq (.loc 2) (.con (.str [10]))) [.ret (.con (.non))] [],
  .ite (.cmp .eq (.sub (.loc 1) (.con (.int 0))) (.con (.str [115, 104, 111, 114, 116]))) [.ite (.and_ (.cmp .eq (.loc 2) (.sub (.loc 1) (.con (.int 1)))) (.not_ (.sub (.loc 1) (.con (.int 2))))) [.ret (.tup [.call 916 [.loc 0, .con (.str [116, 101, 120, 116])], .tup []])] [],
  .ret (.tup [.loc 0, .tup [.con (.str [115, 104, 111, 114, 116]), .sub (.loc 1) (.con (.int 1)), .and_ (.cmp .eq (.loc 2) (.con (.str [92]))) (.not_ (.sub (.loc 1) (.con (.int 2))))]])] [],
  .ite (.or_ (.sub (.loc 1) (.con (.int 1))) (.cmp .notin (.loc 2) (.con (.str [34, 123, 125])))) [.ret (.tup [.loc 0, .tup [.con (.str [116, 101, 109, 112, 108, 97, 116, 101]), .and_ (.cmp .eq (.loc 2) (.con (.str [92]))) (.not_ (.sub (.loc 1) (.con (.int 1))))]])] [],
  .unp [3, 4, 5, 6] (.loc 0),
  .ite (.cmp .eq (.loc 2) (.con (.str [123]))) [.ret (.tup [.tup [.loc 3, .loc 4, .bin .add (.loc 5) (.tup [.tup [.con (.str [102, 105, 101, 108, 100]), .loc 6]]), .con (.str [111, 112, 101, 114, 97, 110, 100])], .tup []])] [],
  .ret (.ite (.cmp .eq (.loc 2) (.con (.str [34]))) (.tup [.loc 0, .tup []]) (.con (.non)))]
def f924 : Fn := ⟨3, [], 11, false, .fn, c924⟩
/-- mach._law_after -/
def c925 : List S := [.ite (.cmp .eq (.loc 1) (.tup [])) [.ret (.call 923 [.loc 0, .loc 2])] [],
  .ite (.cmp .in_ (.sub (.loc 1) (.con (.int 0))) (.tup [.con (.str [108, 111, 110, 103]), .con (.str [115, 104, 111, 114, 116]), .con (.str [116, 101, 109, 112, 108, 97, 116, 101])])) [.ret (.call 924 [.loc 0, .loc 1, .loc 2])] [],
  .ite (.cmp .eq (.sub (.loc 1) (.con (.int 0))) (.con (.str [119, 111, 114, 100]))) [.ite (.call 918 [.loc 2]) [.ret (.ite (.call 920 [.loc 0, .bin .add (.sub (.loc 1) (.con (.int 1))) (.loc 2)]) (.tup [.loc 0, .tup [.con (.str [119, 111, 114, 100]), .bin .add (.sub (.loc 1) (.con (.int 1))) (.loc 2)]]) (.con (.non)))] [],
  .set 0 (.call 916 [.loc 0, .ite (.cmp .in_ (.sub (.loc 1) (.con (.int 1))) (.call 919 [])) (.sub (.loc 1) (.con (.int 1))) (.con (.str [110, 97, 109, 101]))]),
  .ret (.ite (.cmp .is_ (.loc 0) (.con (.non))) (.con (.non)) (.call 923 [.loc 0, .loc 2]))] [],
  .ite (.cmp .eq (.sub (.loc 1) (.con (.int 0))) (.con (.str [110, 117, 109, 98, 101, 114]))) [.ite (.call 918 [.loc 2]) [.ret (.ite (.and_ (.cmp .in_ (.loc 2) (.con (.str [48, 49, 50, 51, 52, 53, 54, 55, 56, 57]))) (.cmp .ne (.sub (.loc 1) (.con (.int 1))) (.con (.str [48])))) (.tup [.loc 0, .loc 1]) (.con (.non)))] [],
  .ret (.call 923 [.call 916 [.loc 0, .con (.str [110, 117, 109, 98, 101, 114])], .loc 2])] [],
  .ret (.call 926 [.loc 0, .loc 1, .loc 2])]
def f925 : Fn := ⟨3, [], 3, false, .fn, c925⟩
/-- mach._law_after_start -/
def c926 : List S := [.ite (.cmp .eq (.sub (.loc 1) (.con (.int 0))) (.con (.str [113, 117, 111, 116, 101]))) [.ite (.cmp .eq (.loc 2) (.sub (.loc 1) (.con (.int 1)))) [.ret (.tup [.loc 0, .tup [.con (.str [112, 97, 105, 114]), .loc 2]])] [],
  .ret (.call 924 [.loc 0, .tup [.con (.str [115, 104, 111, 114, 116]), .sub (.loc 1) (.con (.int 1)), .con (.bl false)], .loc 2])] [],
  .ite (.cmp .eq (.sub (.loc 1) (.con (.int 0))) (.con (.str [112, 97, 105, 114]))) [.ret (.ite (.cmp .eq (.loc 2) (.sub (.loc 1) (.con (.int 1)))) (.tup [.loc 0, .tup [.con (.str [108, 111, 110, 103]), .loc 2, .con (.int 0), .con (.bl false)]]) (.call 923 [.call 916 [.loc 0, .con (.str [116, 101, 120, 116])], .loc 2]))] [],
  .ite (.cmp .eq (.sub (.loc 1) (.con (.int 0))) (.con (.str [100, 111, 108, 108, 97, 114]))) [.ret (.ite (.cmp .eq (.loc 2) (.con (.str [34]))) (.tup [.call 916 [.loc 0, .con (.str [116, 101, 120, 116])], .tup [.con (.str [116, 101, 109, 112, 108, 97, 116, 101]), .con (.bl false)]]) (.con (.non)))] [],
  .ite (.cmp .eq (.sub (.loc 1) (.con (.int 0))) (.con (.str [106, 111, 105, 110]))) [.ret (.ite (.cmp .eq (.loc 2) (.con (.str [10]))) (.tup [.loc 0, .tup []]) (.con (.non)))] [],
  .ite (.cmp .eq (.sub (.loc 1) (.con (.int 0))) (.con (.str [99, 111, 109, 109, 101, 110, 116]))) [.ite (.and_ (.cmp .eq (.loc 2) (.con (.str [10]))) (.cmp .eq (.sub (.sub (.loc 0) (.con (.int 1))) (.con (.int 0))) (.con (.str [102, 114, 111, 110, 116])))) [.ret (.tup [.tup [.sub (.loc 0) (.con (.int 0)), .tup [.con (.str [102, 114, 111, 110, 116]), .con (.int 0), .sub (.sub (.loc 0) (.con (.int 1))) (.con (.int 2))], .tup [], .con (.str [])], .tup []])] [],
  .ret (.ite (.cmp .eq (.loc 2) (.con (.str [10]))) (.call 923 [.loc 0, .loc 2]) (.tup [.loc 0, .loc 1]))] [],
  .ite (.cmp .eq (.loc 2) (.con (.str [61]))) [.ret (.tup [.call 916 [.loc 0, .con (.str [61, 61])], .tup []])] [],
  .set 0 (.ite (.cmp .eq (.sub (.loc 1) (.con (.int 1))) (.con (.str [33]))) (.con (.non)) (.call 916 [.loc 0, .ite (.cmp .eq (.sub (.loc 1) (.con (.int 1))) (.con (.str [61]))) (.con (.str [61])) (.con (.str [111, 112]))])),
  .ret (.ite (.cmp .is_ (.loc 0) (.con (.non))) (.con (.non)) (.call 923 [.loc 0, .loc 2]))]
def f926 : Fn := ⟨3, [], 3, false, .fn, c926⟩
/-- mach._law_run -/
def c927 : List S := [.unp [2, 3] (.tup [.tup [.tup [], .tup [.con (.str [102, 114, 111, 110, 116]), .con (.int 0), .tup []], .tup [], .con (.str [])], .tup []]),
  .for_ true [1] (.range [.bi .len [.loc 0]]) [.set 4 (.call 925 [.loc 2, .loc 3, .sub (.loc 0) (.loc 1)]),
  .ite (.cmp .is_ (.loc 4) (.con (.non))) [.ret (.tup [.con (.non), .con (.non), .loc 1])] [],
  .unp [2, 3] (.loc 4)],
  .ret (.tup [.loc 2, .loc 3, .con (.non)])]
def f927 : Fn := ⟨1, [], 5, false, .fn, c927⟩
/-- mach._law_judged -/
def c928 : List S := [.unp [1, 2, 3] (.call 927 [.loc 0]),
  .ite (.cmp .is_ (.loc 1) (.con (.non))) [.ret (.tup [.con (.str [119, 114, 111, 110, 103]), .loc 3])] [],
  .ite (.cmp .eq (.sub (.sub (.loc 1) (.con (.int 1))) (.con (.int 0))) (.con (.str [111, 118, 101, 114]))) [.ret (.tup [.con (.str [99, 111, 109, 112, 108, 101, 116, 101]), .con (.non)])] [],
  .ret (.tup [.ite (.cmp .eq (.sub (.loc 1) (.con (.int 0))) (.tup [])) (.con (.str [101, 109, 112, 116, 121])) (.con (.str [105, 110, 99, 111, 109, 112, 108, 101, 116, 101])), .con (.non)])]
def f928 : Fn := ⟨1, [], 4, false, .fn, c928⟩
/-- mach._law_rough -/
def c930 : List S := [.set 2 (.lst true [.con (.str [120, 32, 61, 32, 49]), .con (.str [105, 102, 32, 97, 58]), .con (.str [32, 32, 98]), .con (.str [101, 108, 115, 101, 58]), .con (.str [119, 104, 105, 108, 101, 32, 120, 58, 32, 98, 114, 101, 97, 107]), .con (.str [100, 101, 102, 32, 102, 40, 97, 44, 32, 98, 41, 58]), .con (.str [32, 32, 114, 101, 116, 117, 114, 110, 32, 120]), .con (.str [32, 32, 32, 32, 112, 97, 115, 115]), .con (.str [116, 114, 121, 58])]),
  .set 2 (.addL (.loc 2) (.lst false [.con (.str [101, 120, 99, 101, 112, 116, 32, 101, 58]), .con (.str [102, 105, 110, 97, 108, 108, 121, 58, 32, 121]), .con (.str [102, 40, 97, 44, 32, 98, 61, 49, 41, 91, 48, 93, 46, 99]), .con (.str [40, 120, 44]), .con (.str [32, 32, 121, 41]), .con (.str [36, 34, 97, 123, 98, 125, 99, 34]), .con (.str [39, 39, 39, 115]), .con (.str [116, 39, 39, 39]), .con (.str [120, 32, 92])])),
  .set 2 (.addL (.loc 2) (.lst false [.con (.str [43, 32, 121]), .con (.str [35, 32, 99]), .con (.str []), .con (.str [32, 32, 35, 32, 100]), .con (.str [102, 111, 114, 32, 105, 32, 105, 110, 32, 122, 58]), .con (.str [32, 32, 98, 114, 101, 97, 107]), .con (.str [101, 108, 105, 102, 32, 40, 49, 32, 60, 61, 32, 50, 41, 58]), .con (.str [123, 97, 58, 32, 91, 93, 44, 32, 39, 98, 39, 58, 32, 45, 99, 125])])),
  .ex (.bm .append (.loc 2) [.con (.str [32, 32, 105, 102, 32, 110, 111, 116, 32, 100, 58, 32, 101, 59, 32, 102])]),
  .ret (.bm .join (.con (.str [])) [.comp false [3] [3] true (.range [.call 902 [.loc 0, .bin .add (.loc 1) (.con (.int 1))]]) .nil (.bin .add (.sub (.loc 2) (.call 902 [.loc 0, .con (.int 27)])) (.con (.str [10])))])]
def f930 : Fn := ⟨2, [], 4, false, .fn, c930⟩
/-- mach._law_soup -/
def c931 : List S := [.set 2 (.lst false [.con (.str [120]), .con (.str [121, 49]), .con (.str [48]), .con (.str [49, 50]), .con (.str [105, 102, 32]), .con (.str [105, 110]), .con (.str [32, 97, 110, 100, 32]), .con (.str [110, 111, 116, 32]), .con (.str [112, 97, 115, 115]), .con (.str [114, 101, 116, 117, 114, 110]), .con (.str [101, 108, 115, 101]), .con (.str [100, 101, 102, 32]), .con (.str [102, 111, 114, 32]), .con (.str [32]), .con (.str [10])]),
  .set 2 (.bin .add (.loc 2) (.lst false [.con (.str [32, 32]), .con (.str [39]), .con (.str [34]), .con (.str [36, 34]), .con (.str [40]), .con (.str [41]), .con (.str [91]), .con (.str [93]), .con (.str [123]), .con (.str [125]), .con (.str [44]), .con (.str [58]), .con (.str [59]), .con (.str [46]), .con (.str [61]), .con (.str [61, 61]), .con (.str [60]), .con (.str [33]), .con (.str [45])])),
  .set 2 (.bin .add (.loc 2) (.lst false [.con (.str [43]), .con (.str [35]), .con (.str [92, 10])])),
  .ret (.bm .join (.con (.str [])) [.comp false [3] [3] true (.range [.call 902 [.loc 0, .bin .add (.loc 1) (.con (.int 1))]]) .nil (.sub (.loc 2) (.call 902 [.loc 0, .con (.int 37)]))])]
def f931 : Fn := ⟨2, [], 4, false, .fn, c931⟩
/-- mach._law_bent -/
def c932 : List S := [.set 2 (.call 902 [.loc 0, .bin .add (.bi .len [.loc 1]) (.con (.int 1))]),
  .set 3 (.sub (.con (.str [120, 48, 32, 10, 58, 61, 40, 41, 91, 93, 123, 125, 39, 34, 36, 92, 35, 46, 44, 59, 45, 60, 33, 97, 101])) (.call 902 [.loc 0, .con (.int 25)])),
  .set 4 (.lst false [.bin .add (.slc (.loc 1) .nil (.loc 2)) (.slc (.loc 1) (.bin .add (.loc 2) (.con (.int 1))) .nil), .bin .add (.bin .add (.slc (.loc 1) .nil (.loc 2)) (.loc 3)) (.slc (.loc 1) (.loc 2) .nil), .bin .add (.bin .add (.slc (.loc 1) .nil (.loc 2)) (.loc 3)) (.slc (.loc 1) (.bin .add (.loc 2) (.con (.int 1))) .nil)]),
  .ret (.sub (.loc 4) (.call 902 [.loc 0, .con (.int 3)]))]
def f932 : Fn := ⟨2, [], 5, false, .fn, c932⟩
end MG
end
section
set_option maxHeartbeats 0
namespace K01
open PC
/-- law._law_families_right -/
def c1000 : List S := [.set 1 (.con (.int 0)),
  .for_ false [2, 3] (.enum (.loc 0)) [.for_ true [4] (.loc 3) [.set 5 (.call 1004 [.loc 4]),
  .set 6 (.lst false [.isX (.own 100) (.loc 4), .isX (.own 111) (.loc 4), .isX (.own 115) (.loc 4)]),
  .set 7 (.lst false [.isX .val (.loc 4), .isX .run (.loc 4), .isX .look (.loc 4)]),
  .ite (.or_ (.cmp .ne (.bm .countL (.loc 5) [.con (.bl true)]) (.con (.int 1))) (.or_ (.not_ (.sub (.loc 5) (.loc 1))) (.or_ (.cmp .ne (.loc 6) (.comp false [8] [8] true (.range [.con (.int 3)]) .nil (.cmp .eq (.loc 8) (.loc 2)))) (.cmp .ne (.loc 7) (.loc 6))))) [.ret (.con (.bl false))] [],
  .ite (.isXs [.key, .idx, .nyi] (.loc 4)) [.ret (.con (.bl false))] [],
  .set 1 (.bin .add (.loc 1) (.con (.int 1)))]],
  .ret (.cmp .eq (.loc 1) (.con (.int 14)))]
def f1000 : Fn := ⟨1, [], 9, false, .fn, c1000⟩
/-- law._law_made -/
def c1001 : List S := [.set 1 (.lst false [.mkX 101 (.loc 0), .mkX 102 (.loc 0), .mkX 103 (.loc 0), .mkX 104 (.loc 0), .mkX 105 (.loc 0), .mkX 106 (.loc 0)]),
  .set 1 (.bin .add (.loc 1) (.lst false [.mkX 107 (.loc 0), .mkX 108 (.loc 0), .mkX 109 (.loc 0), .mkX 110 (.loc 0)])),
  .ret (.lst false [.loc 1, .lst false [.mkX 112 (.loc 0), .mkX 113 (.loc 0), .mkX 114 (.loc 0)], .lst false [.mkX 116 (.loc 0)]])]
def f1001 : Fn := ⟨1, [], 2, false, .fn, c1001⟩
/-- law._law_named -/
def c1002 : List S := [.set 1 (.lst false [.fldX 63 (.mkXK 101 [.loc 0]), .fldX 63 (.mkXK 102 [.loc 0]), .fldX 63 (.mkXK 103 [.loc 0])]),
  .set 1 (.bin .add (.loc 1) (.lst false [.fldX 63 (.mkXK 104 [.loc 0]), .fldX 63 (.mkXK 105 [.loc 0]), .fldX 64 (.mkXK 106 [.loc 0])])),
  .set 1 (.bin .add (.loc 1) (.lst false [.fldX 64 (.mkXK 107 [.loc 0]), .fldX 63 (.mkXK 108 [.loc 0]), .fldX 65 (.mkXK 109 [.loc 0])])),
  .set 1 (.bin .add (.loc 1) (.lst false [.fldX 63 (.mkXK 110 [.loc 0]), .fldX 64 (.mkXK 112 [.loc 0])])),
  .ret (.bin .add (.loc 1) (.lst false [.fldX 66 (.mkXK 113 [.loc 0]), .fldX 67 (.mkXK 114 [.loc 0]), .fldX 63 (.mkXK 116 [.loc 0])]))]
def f1002 : Fn := ⟨1, [], 2, false, .fn, c1002⟩
/-- law._law_fields -/
def c1003 : List S := [.par [2, 3] [.sub (.loc 0) (.con (.int 0)), .sub (.loc 0) (.con (.int 1))],
  .set 1 (.lst false [.fldX 63 (.sub (.loc 2) (.con (.int 0))), .fldX 63 (.sub (.loc 2) (.con (.int 1))), .fldX 63 (.sub (.loc 2) (.con (.int 2))), .fldX 63 (.sub (.loc 2) (.con (.int 3))), .fldX 63 (.sub (.loc 2) (.con (.int 4))), .fldX 64 (.sub (.loc 2) (.con (.int 5)))]),
  .set 1 (.bin .add (.loc 1) (.lst false [.fldX 64 (.sub (.loc 2) (.con (.int 6))), .fldX 63 (.sub (.loc 2) (.con (.int 7))), .fldX 65 (.sub (.loc 2) (.con (.int 8))), .fldX 63 (.sub (.loc 2) (.con (.int 9)))])),
  .ret (.bin .add (.loc 1) (.lst false [.fldX 64 (.sub (.loc 3) (.con (.int 0))), .fldX 66 (.sub (.loc 3) (.con (.int 1))), .fldX 67 (.sub (.loc 3) (.con (.int 2))), .fldX 63 (.sub (.sub (.loc 0) (.con (.int 2))) (.con (.int 0)))]))]
def f1003 : Fn := ⟨1, [], 4, false, .fn, c1003⟩
/-- law._law_kinds -/
def c1004 : List S := [.set 1 (.lst false [.isX (.own 101) (.loc 0), .isX (.own 102) (.loc 0), .isX (.own 103) (.loc 0), .isX (.own 104) (.loc 0)]),
  .set 1 (.bin .add (.loc 1) (.lst false [.isX (.own 105) (.loc 0), .isX (.own 106) (.loc 0), .isX (.own 107) (.loc 0), .isX (.own 108) (.loc 0)])),
  .set 1 (.bin .add (.loc 1) (.lst false [.isX (.own 109) (.loc 0), .isX (.own 110) (.loc 0), .isX (.own 112) (.loc 0)])),
  .ret (.bin .add (.loc 1) (.lst false [.isX (.own 113) (.loc 0), .isX (.own 114) (.loc 0), .isX (.own 116) (.loc 0)]))]
def f1004 : Fn := ⟨1, [], 2, false, .fn, c1004⟩
/-- law.law -/
def c1005 : List S := [.set 1 (.call 900 [.loc 0]),
  .for_ true [2] (.range [.bi .min2 [.con (.int 12), .bin .add (.con (.int 3)) (.bi .len [.loc 0])]]) [.set 3 (.bin .sub (.call 902 [.loc 1, .con (.int 2001)]) (.con (.int 1000))),
  .set 4 (.sub (.lst false [.con (.non), .loc 3, .con (.str [119, 114, 111, 110, 103]), .tup [.loc 3, .con (.int 7)], .lst false [.loc 3], .tup [.con (.str [97]), .tup []], .dct false [] [], .con (.bl true)]) (.call 902 [.loc 1, .con (.int 8)])),
  .ite (.not_ (.call 1000 [.call 1001 [.loc 4]])) [.ret (.con (.bl false))] [],
  .ite (.or_ (.cmp .ne (.bi .repr [.call 1003 [.call 1001 [.loc 4]]]) (.bi .repr [.bin .mul (.lst false [.loc 4]) (.con (.int 14))])) (.cmp .ne (.bi .repr [.call 1002 [.loc 4]]) (.bi .repr [.bin .mul (.lst false [.loc 4]) (.con (.int 14))]))) [.ret (.con (.bl false))] []],
  .ret (.con (.bl true))]
def f1005 : Fn := ⟨1, [], 5, false, .fn, c1005⟩
end K01
end
section
set_option maxHeartbeats 0
namespace K01
open PySem PySem.Spec PyProof.Rows L2 PC
def tp (i : Nat) : Stmt := PySem.Challenge.pw_replinput_k01_error_classes.main.body.getD i (.Pass ⟨0, 0, 0, 0⟩)
def p900 : Pd := ⟨"_law_begin", .glo "_law_begin", ["_law_script"], ["_law_script"], PG.f900, "_law_begin", "_law_begin", defArgs (tp 19), defBody (tp 19), defScope (tp 19), [], []⟩
def p901 : Pd := ⟨"_law_mixed", .glo "_law_mixed", ["_law_cell", "_law_k"], ["_law_cell", "_law_k", "_law_mixed_here"], PG.f901, "_law_mixed", "_law_mixed", defArgs (tp 20), defBody (tp 20), defScope (tp 20), [], []⟩
def p902 : Pd := ⟨"_law_next", .glo "_law_next", ["_law_draw", "_law_bound"], ["_law_draw", "_law_bound", "_law_cells", "_law_cell", "_law_told"], PG.f902, "_law_next", "_law_next", defArgs (tp 21), defBody (tp 21), defScope (tp 21), [], []⟩
def p1000 : Pd := ⟨"_law_families_right", .glo "_law_families_right", ["_law_made_here"], ["_law_made_here", "_law_at", "_law_place_here", "_law_group", "_law_e", "_law_kinds_here", "_law_own", "_law_other", "_law_k"], f1000, "_law_families_right", "_law_families_right", defArgs (tp 24), defBody (tp 24), defScope (tp 24), [], []⟩
def p1001 : Pd := ⟨"_law_made", .glo "_law_made", ["_law_what"], ["_law_what", "_law_first"], f1001, "_law_made", "_law_made", defArgs (tp 22), defBody (tp 22), defScope (tp 22), [], []⟩
def p1002 : Pd := ⟨"_law_named", .glo "_law_named", ["_law_what"], ["_law_what", "_law_told"], f1002, "_law_named", "_law_named", defArgs (tp 26), defBody (tp 26), defScope (tp 26), [], []⟩
def p1003 : Pd := ⟨"_law_fields", .glo "_law_fields", ["_law_made_here"], ["_law_made_here", "_law_told", "_law_first", "_law_second"], f1003, "_law_fields", "_law_fields", defArgs (tp 25), defBody (tp 25), defScope (tp 25), [], []⟩
def p1004 : Pd := ⟨"_law_kinds", .glo "_law_kinds", ["_law_e"], ["_law_e", "_law_told"], f1004, "_law_kinds", "_law_kinds", defArgs (tp 23), defBody (tp 23), defScope (tp 23), [], []⟩
def p1005 : Pd := ⟨"law", .glo "law", ["_law_script"], ["_law_script", "_law_draw", "_law_turn", "_law_amount", "_law_what"], f1005, "law", "law", defArgs (tp 27), defBody (tp 27), defScope (tp 27), [], []⟩
def x101 : Xi := ⟨63, .val, "self", "given", "__init__", "BadText.__init__", defArgs (inClass (tp 2) 0), defBody (inClass (tp 2) 0), defScope (inClass (tp 2) 0)⟩
def x102 : Xi := ⟨63, .val, "self", "given", "__init__", "BadLine.__init__", defArgs (inClass (tp 3) 0), defBody (inClass (tp 3) 0), defScope (inClass (tp 3) 0)⟩
def x103 : Xi := ⟨63, .val, "self", "given", "__init__", "BadIndex.__init__", defArgs (inClass (tp 4) 0), defBody (inClass (tp 4) 0), defScope (inClass (tp 4) 0)⟩
def x104 : Xi := ⟨63, .val, "self", "given", "__init__", "BadCount.__init__", defArgs (inClass (tp 5) 0), defBody (inClass (tp 5) 0), defScope (inClass (tp 5) 0)⟩
def x105 : Xi := ⟨63, .val, "self", "given", "__init__", "BadName.__init__", defArgs (inClass (tp 6) 0), defBody (inClass (tp 6) 0), defScope (inClass (tp 6) 0)⟩
def x106 : Xi := ⟨64, .val, "self", "position", "__init__", "BadPair.__init__", defArgs (inClass (tp 7) 0), defBody (inClass (tp 7) 0), defScope (inClass (tp 7) 0)⟩
def x107 : Xi := ⟨64, .val, "self", "position", "__init__", "BadChange.__init__", defArgs (inClass (tp 8) 0), defBody (inClass (tp 8) 0), defScope (inClass (tp 8) 0)⟩
def x108 : Xi := ⟨63, .val, "self", "given", "__init__", "BadEntry.__init__", defArgs (inClass (tp 9) 0), defBody (inClass (tp 9) 0), defScope (inClass (tp 9) 0)⟩
def x109 : Xi := ⟨65, .val, "self", "found", "__init__", "NotEntry.__init__", defArgs (inClass (tp 10) 0), defBody (inClass (tp 10) 0), defScope (inClass (tp 10) 0)⟩
def x110 : Xi := ⟨63, .val, "self", "given", "__init__", "NotLead.__init__", defArgs (inClass (tp 11) 0), defBody (inClass (tp 11) 0), defScope (inClass (tp 11) 0)⟩
def x112 : Xi := ⟨64, .run, "self", "position", "__init__", "WrongAt.__init__", defArgs (inClass (tp 13) 0), defBody (inClass (tp 13) 0), defScope (inClass (tp 13) 0)⟩
def x113 : Xi := ⟨66, .run, "self", "limit", "__init__", "Full.__init__", defArgs (inClass (tp 14) 0), defBody (inClass (tp 14) 0), defScope (inClass (tp 14) 0)⟩
def x114 : Xi := ⟨67, .run, "self", "many", "__init__", "TooFew.__init__", defArgs (inClass (tp 15) 0), defBody (inClass (tp 15) 0), defScope (inClass (tp 15) 0)⟩
def x116 : Xi := ⟨63, .look, "self", "given", "__init__", "NoLine.__init__", defArgs (inClass (tp 17) 0), defBody (inClass (tp 17) 0), defScope (inClass (tp 17) 0)⟩
def prg : Prg := ⟨[],
  [(900, p900), (901, p901), (902, p902), (1000, p1000), (1001, p1001), (1002, p1002), (1003, p1003), (1004, p1004), (1005, p1005)],
  [],
  PG.nms, ["IndexError", "KeyError", "LookupError", "NotImplementedError", "RuntimeError", "ValueError", "enumerate", "isinstance", "len", "min", "range", "repr", "super"],
  [(100, ⟨"ReaderError", [.own 100, .val], none⟩), (101, ⟨"BadText", [.own 101, .own 100, .val], some x101⟩), (102, ⟨"BadLine", [.own 102, .own 100, .val], some x102⟩), (103, ⟨"BadIndex", [.own 103, .own 100, .val], some x103⟩), (104, ⟨"BadCount", [.own 104, .own 100, .val], some x104⟩), (105, ⟨"BadName", [.own 105, .own 100, .val], some x105⟩), (106, ⟨"BadPair", [.own 106, .own 100, .val], some x106⟩), (107, ⟨"BadChange", [.own 107, .own 100, .val], some x107⟩), (108, ⟨"BadEntry", [.own 108, .own 100, .val], some x108⟩), (109, ⟨"NotEntry", [.own 109, .own 100, .val], some x109⟩), (110, ⟨"NotLead", [.own 110, .own 100, .val], some x110⟩), (111, ⟨"ConsoleError", [.own 111, .run], none⟩), (112, ⟨"WrongAt", [.own 112, .own 111, .run], some x112⟩), (113, ⟨"Full", [.own 113, .own 111, .run], some x113⟩), (114, ⟨"TooFew", [.own 114, .own 111, .run], some x114⟩), (115, ⟨"AbsentError", [.own 115, .look], none⟩), (116, ⟨"NoLine", [.own 116, .own 115, .look], some x116⟩)], PySem.Challenge.pw_replinput_k01_error_classes.main.file⟩
def names0 : List String := ["__name__", "ReaderError", "BadText", "BadLine", "BadIndex", "BadCount", "BadName", "BadPair", "BadChange", "BadEntry", "NotEntry", "NotLead", "ConsoleError", "WrongAt", "Full", "TooFew", "AbsentError", "NoLine", "_law_begin", "_law_mixed", "_law_next", "_law_made", "_law_kinds", "_law_families_right", "_law_fields", "_law_named"]
def names : List PySem.Str := (names0).map PySem.Str.ofString
abbrev RR : PySem.W.OpenRow := PySem.W.OpenLaw.row PySem.Challenge.rw_replinput_k01_error_classes
def ob (s : PySem.W.SharedT) : He.AlT := prg.obsG 4000 (HandSHeadRun.getT s)
theorem ob_eq (s : PySem.W.SharedT) : ob s = (prg.hook 4000).obs s.abs := Prg.obs_eq (HandSHeadRun.getT_eq s)
theorem run (w : World) : HandSHeadRun.RunEq RR (PySem.W.view RR.prog [27]) (prg.hook 4000) ob 8000 names w := by
  intro os
  kernel_rfl
end K01
end
section
set_option maxHeartbeats 4000000
namespace PC
open PySem L2 PyProof.Rows
section
variable {N : Nm} {P : Program} {B : Heap} {T : Tab} {cf : CF} {k : Nat} {ns : List Str} {s0 sc : Scope} {W : XK} {X : Cx} {L L1 I I1 : Hp} {rs rs1 : List Addr} {g g1 : G} {H H1 : Hp} {Q : VK} {x y z : D} {u v : V}
/-! ### isinstance -/
theorem ty_lst {a : Addr} {vs : List V} (h : SqX N.K H a vs) : TyX N.K H (.ref a) (.type "list") := by
  rcases h with (h | ⟨o, h⟩) | ⟨its, n, h, _⟩
  · exact .base (.lst h)
  · exact .base (.frz h)
  · exact .kList h rfl
theorem ty_tup {a : Addr} {vs : List V} (h : SqT N.K H a vs) : TyX N.K H (.ref a) (.type "tuple") := by
  rcases h with (h | ⟨o, h⟩) | ⟨o, its, n, h, c, _⟩
  · exact .base (.tup h)
  · exact .fTuple h
  · exact .kTuple h c
theorem is_ok {t : Ty} {b : Bool} (hc : ∀ c, t ≠ .cls c) (h : isTyG T g t x = some b) (R : Rel N L I rs g H) (hu : VR N I rs x u) : ∃ tv, TyX N.K H u tv ∧ PySem.W.kitOne N.K tv (.type (tyN t)) = some b := by
  unfold isTyG at h
  split at h
  · cases t <;> first | exact absurd rfl (hc _) | cases h
  · have base : ∀ (n : String) (d : D), TyX N.K H u (.type n) → (kitB n (tyN t) = some (isTy t d)) → some (isTy t d) = some b → ∃ tv, TyX N.K H u tv ∧ PySem.W.kitOne N.K tv (.type (tyN t)) = some b :=
      fun n d ty k e => ⟨_, ty, by rw [← e]; exact kit_ty k⟩
    split at h
    · cases h
    · rename_i i e
      have := top_ne e (fun l => by simp)
      subst this
      split at h
      · rename_i ks ds q
        cases h
        cases hu with
        | ref hi =>
          obtain ⟨_, _, kvs, h2, _⟩ := R.cell _ _ _ hi q
          refine ⟨_, .base (.dK h2), kit_ty ?_⟩
          cases t <;> first | exact absurd rfl (hc _) | decide +kernel
      · cases h
    · cases h
    · cases h
    · rename_i d n1 n2 n3 n4
      cases e : top g x with
      | lst l =>
        rw [e] at h
        obtain ⟨a, vs, rfl, h2, h3⟩ := R.lst hu e
        refine base "list" _ (ty_lst h2) ?_ h
        rw [show isTy t (.lst l) = (t == .list) from rfl]
        cases t <;> first | exact absurd rfl (hc _) | decide +kernel
      | tup l =>
        rw [e] at h
        obtain ⟨a, vs, rfl, h2, h3⟩ := R.tup hu e
        refine base "tuple" (.tup l) (ty_tup h2) ?_ h
        rw [show isTy t (.tup l) = (t == .tuple) from rfl]
        cases t <;> first | exact absurd rfl (hc _) | decide +kernel
      | ref i => exact absurd e (n2 i)
      | obj c ns vs => exact absurd e (n1 c ns vs)
      | cls c => exact absurd e (n3 c)
      | xob c ns vs => exact absurd e (n4 c ns vs)
      | non =>
        rw [e] at h
        have := top_ne e (fun l => by simp)
        subst this
        cases hu
        refine base "NoneType" .non (.base .non) ?_ h
        cases t <;> first | exact absurd rfl (hc _) | decide +kernel
      | bl c =>
        rw [e] at h
        have := top_ne e (fun l => by simp)
        subst this
        cases hu
        refine base "bool" (.bl c) (.base (.bl c)) ?_ h
        rw [show isTy t (.bl c) = (t == .int || t == .bool) from rfl]
        cases t <;> first | exact absurd rfl (hc _) | decide +kernel
      | int c =>
        rw [e] at h
        have := top_ne e (fun l => by simp)
        subst this
        cases hu
        refine base "int" (.int c) (.base (.int c)) ?_ h
        rw [show isTy t (.int c) = (t == .int) from rfl]
        cases t <;> first | exact absurd rfl (hc _) | decide +kernel
      | str c =>
        rw [e] at h
        have := top_ne e (fun l => by simp)
        subst this
        cases hu
        refine base "str" (.str c) (.base (.str _)) ?_ h
        rw [show isTy t (.str c) = (t == .str) from rfl]
        cases t <;> first | exact absurd rfl (hc _) | decide +kernel
      | dct ks vs =>
        rw [e] at h
        have := top_ne e (fun l => by simp)
        subst this
        have ty : TyX N.K H u (.type "dict") := by
          cases hu with
          | dct h1 _ _ _ => exact .base (.dK (R.sub _ _ h1))
        refine base "dict" (.dct ks vs) ty ?_ h
        rw [show isTy t (.dct ks vs) = false from rfl]
        cases t <;> first | exact absurd rfl (hc _) | decide +kernel
      | mdc ks vs =>
        rw [e] at h
        have := top_ne e (fun l => by simp)
        subst this
        have ty : TyX N.K H u (.type "dict") := by
          cases hu with
          | kdc h1 _ _ _ _ => exact .kDict h1.at_ rfl
        refine base "dict" (.mdc ks vs) ty ?_ h
        rw [show isTy t (.mdc ks vs) = false from rfl]
        cases t <;> first | exact absurd rfl (hc _) | decide +kernel

/-! ### what a loop walks -/
/-- J walks xs, whatever comes -/
structure Wk (N : Nm) (L I : Hp) (rs : List Addr) (xs : List D) (J : It) : Prop where
  go : ∀ I' rs' g' H', Same I I' → rs <+: rs' → Rel N L I' rs' g' H' → ∀ i, i < xs.length → J.go i H'
  stop : ∀ I' rs' g' H', Same I I' → rs <+: rs' → Rel N L I' rs' g' H' → ∀ i, xs.length ≤ i → J.stop i H'
  yld : ∀ I' rs' g' H', Same I I' → rs <+: rs' → Rel N L I' rs' g' H' → ∀ i x H'', i < xs.length → J.yld i H' x H'' → ∃ I'', Ext I' rs' H' I'' rs' H'' ∧ Rel N L I'' rs' g' H'' ∧ ∃ d, xs[i]? = some d ∧ VR N I'' rs' d x
/-- what is locked meanwhile -/
def Lks (L : Hp) (rs : List Addr) (ko : Option Nat) (L1 : Hp) : Prop := (ko = none ∧ L1 = L) ∨ ∃ i a o, ko = some i ∧ rs[i]? = some a ∧ L a = none ∧ L1 = upd L a o
def OkI (N : Nm) (L I : Hp) (rs : List Addr) (H : Hp) (W : XK) (Q : It → Hp → Prop) : R (List D × Option Nat) → Prop
  | .ok p g1 => ∀ I1 rs1 H1 J L1, Ext I rs H I1 rs1 H1 → Rel N L1 I1 rs1 (lockG g1 p.2) H1 → Lks L rs1 p.2 L1 → Wk N L1 I1 rs1 p.1 J → Q J H1
  | .exc x g => ∀ I' rs' H' cls d, Ext I rs H I' rs' H' → Rel N L I' rs' g H' → XR N I' rs' x cls d → W cls d H'
  | .stk => False
theorem OkI.after {Q : It → Hp → Prop} {r : R (List D × Option Nat)} (h : OkI N L I rs H W Q r) (e : Ext I rs H I1 rs1 H1) : OkI N L I1 rs1 H1 W Q r := by
  cases r with
  | ok p g => exact fun I' rs' H' J L' e' R l w => h I' rs' H' J L' (e.trans e') R l w
  | exc x g => exact fun I' rs' H' c d e' R p => h I' rs' H' c d (e.trans e') R p
  | stk => exact h
theorem OkI.first {α γ : Type} {P1 : Hp → List Addr → α → γ → Prop} {Q : It → Hp → Prop} {r : R α} {k : α → G → R (List D × Option Nat)}
    (ok : OkI N L I rs H W Q (r.bind k)) : Ok N L P1 I rs H W (fun b H1 => ∃ a g1 I1 rs1, Ext I rs H I1 rs1 H1 ∧ Rel N L I1 rs1 g1 H1 ∧ P1 I1 rs1 a b ∧ OkI N L I1 rs1 H1 W Q (k a g1)) r := by
  cases r with
  | ok a g => exact fun I' rs' H' b e R p => ⟨a, g, I', rs', e, R, p, ok.after e⟩
  | exc x g => exact ok
  | stk => exact ok
/-- a list that stays -/
theorem wk_lst {a : Addr} {vs : List V} {xs : List D} (hs : ∀ I' rs' g' H', Same I I' → rs <+: rs' → Rel N L I' rs' g' H' → SqX N.K H' a vs) (hv : VRs N I rs xs vs) : Wk N L I rs xs (Itl N.K a) where
  go := fun I' rs' g' H' e p R i hi => by
    rw [hv.length] at hi
    exact ⟨vs, vs[i], (hs _ _ _ _ e p R).sq, List.getElem?_eq_getElem hi⟩
  stop := fun I' rs' g' H' e p R i hi => ⟨vs, (hs _ _ _ _ e p R).sq, by rw [← hv.length]; exact hi⟩
  yld := fun I' rs' g' H' e p R i x H'' hi h => by
    obtain ⟨rfl, h⟩ := h
    obtain ⟨d, h1, h2⟩ := (hv.mono e p).get' (h vs (hs _ _ _ _ e p R).sq)
    exact ⟨I', .refl, R, d, h1, h2⟩
theorem wk_tup {a : Addr} {vs : List V} {xs : List D} (hs : ∀ I' rs' g' H', Same I I' → rs <+: rs' → Rel N L I' rs' g' H' → SqT N.K H' a vs) (hv : VRs N I rs xs vs) : Wk N L I rs xs (Itt N.K a) where
  go := fun I' rs' g' H' e p R i hi => by
    rw [hv.length] at hi
    exact ⟨vs, vs[i], hs _ _ _ _ e p R, List.getElem?_eq_getElem hi⟩
  stop := fun I' rs' g' H' e p R i hi => ⟨vs, hs _ _ _ _ e p R, by rw [← hv.length]; exact hi⟩
  yld := fun I' rs' g' H' e p R i x H'' hi h => by
    obtain ⟨rfl, h⟩ := h
    obtain ⟨d, h1, h2⟩ := (hv.mono e p).get' (h vs (hs _ _ _ _ e p R))
    exact ⟨I', .refl, R, d, h1, h2⟩
theorem rangeL_len (lo : Int) (n : Nat) : (rangeL lo n).length = n := by
  induction n generalizing lo with
  | zero => rfl
  | succ n ih => simp [rangeL, ih]
theorem rangeL_get (lo : Int) (n i : Nat) (h : i < n) : (rangeL lo n)[i]? = some (.int (lo + i)) := by
  induction n generalizing lo i with
  | zero => omega
  | succ n ih =>
    cases i with
    | zero => simp [rangeL]
    | succ i =>
      simp only [rangeL, List.getElem?_cons_succ]
      rw [ih (lo + 1) i (by omega)]
      have : lo + 1 + (i : Int) = lo + ((i + 1 : Nat) : Int) := by omega
      rw [this]
theorem wk_range {lo : Int} {n : Nat} : Wk N L I rs (rangeL lo n) (Itr lo n) where
  go := fun _ _ _ _ _ _ _ i hi => by rw [rangeL_len] at hi; exact hi
  stop := fun _ _ _ _ _ _ _ i hi => by rw [rangeL_len] at hi; exact hi
  yld := fun I' rs' g' H' e p R i x H'' hi h => by
    obtain ⟨rfl, rfl⟩ := h
    rw [rangeL_len] at hi
    exact ⟨I', .refl, R, _, rangeL_get lo n i hi, .int _⟩
theorem wk_str {s : List Nat} : Wk N L I rs (s.map fun c => .str [c]) (Its (st s)) where
  go := fun _ _ _ _ _ _ _ i hi => by
    show i < (st s).cps.size
    simpa [st] using hi
  stop := fun _ _ _ _ _ _ _ i hi => by
    show (st s).cps.size ≤ i
    simpa [st] using hi
  yld := fun I' rs' g' H' e p R i x H'' hi h => by
    obtain ⟨rfl, c, h1, rfl⟩ := h
    have h2 : s[i]? = some c := by simpa [st] using h1
    exact ⟨I', .refl, R, .str [c], by simp [h2], .str [c]⟩
/-- what a value's walk is -/
theorem items_ok (S : XS N P B T cf k ns s0 sc W X) {p : List D × Option Nat} {R' : It → Hp → Prop} (h : itemsD g x = some p) (R : Rel N L I rs g H) (hu : VR N I rs x u) (ok : OkI N L I rs H W R' (.ok p g)) :
    (∃ a, u = .ref a ∧ (∃ xs, SqL X.K H a xs) ∧ R' (Itl X.K a) H) ∨ (∃ a, u = .ref a ∧ (∃ xs, SqT X.K H a xs) ∧ R' (Itt X.K a) H) ∨ ∃ z, u = .str z ∧ R' (Its z) H := by
  rw [S.F.hK]
  unfold itemsD at h
  split at h
  · cases h
    cases hu with
    | tup h2 h3 =>
      exact .inr (.inl ⟨_, rfl, ⟨_, same_t R.sub h2⟩, ok _ _ _ _ L .refl R (.inl ⟨rfl, rfl⟩) (wk_tup (fun I' rs' g' H' e p R' => same_t (e.trans R'.sub) h2) h3)⟩)
  · cases h
    cases hu with
    | lst h2 h3 =>
      exact .inl ⟨_, rfl, ⟨_, (same_x R.sub h2).sq⟩, ok _ _ _ _ L .refl R (.inl ⟨rfl, rfl⟩) (wk_lst (fun I' rs' g' H' e p R' => same_x (e.trans R'.sub) h2) h3)⟩
  · cases h
    cases hu
    exact .inr (.inr ⟨_, rfl, ok _ _ _ _ L .refl R (.inl ⟨rfl, rfl⟩) wk_str⟩)
  · rename_i i
    split at h
    · rename_i l q
      cases h
      cases hu with
      | ref hi =>
        obtain ⟨hL, hI, vs, h2, h3, hz⟩ := R.cell _ _ _ hi q
        have R1 := R.lock hi hI hL h2 h3 hz
        refine .inl ⟨_, rfl, ⟨vs, .of h2⟩, ok _ _ _ _ (upd L _ (.lst vs)) .refl (by simpa [lockG, q] using R1) (.inr ⟨i, _, _, rfl, hi, hL, rfl⟩) (wk_lst (fun I' rs' g' H' e p R' => .of (R'.lsub _ _ upd_same)) h3)⟩
    · cases h
  · cases h
end
end PC
end
section
set_option maxHeartbeats 4000000
namespace PC
open PySem L2 PyProof.Rows
section
variable {N : Nm} {P : Program} {B : Heap} {T : Tab} {cf : CF} {k : Nat} {ns : List Str} {s0 sc : Scope} {W : XK} {X : Cx} {L L1 I I1 I2 : Hp} {rs rs1 rs2 : List Addr} {g g1 : G} {H H1 H2 : Hp} {Q : VK} {x y z : D} {u v : V}
/-! ### a thing of ours that is not yet known to the data -/
theorem Rel.hid (R : Rel N L I rs g H) {p : Addr} {o : HO} (hn : p ∉ rs) (hI : I p = none) (hL : L p = none) : Rel N L I rs g (upd H p o) := by
  refine ⟨fun b u e => ?_, fun b u e => ?_, R.len, R.nd, fun a ha => ?_, fun i a c ha hc => ?_⟩
  · rw [upd_ne (ne_of_none e hI)]; exact R.sub b u e
  · rw [upd_ne (ne_of_none e hL)]; exact R.lsub b u e
  · rw [upd_ne (fun z => hn (by rw [← z]; exact ha))]; exact R.trk a ha
  · have ma : a ∈ rs := List.mem_of_getElem? ha
    exact (R.cell i a c ha hc).mono (Same.refl I) (List.prefix_refl _) (fun q h _ => by rw [upd_ne (fun z => hn (by rw [← z]; exact ma))]; exact h) fun h => h
theorem Ext.hid (E : Ext I rs H I1 rs1 H1) {p : Addr} {o : HO} (hp : H p = none) : Ext I rs H I1 rs1 (upd H1 p o) :=
  ⟨E.i, E.r, fun a u h n => by rw [upd_ne (ne_of_none h hp)]; exact E.fr a u h n, E.new, E.inew⟩
theorem Rel.adopt (R : Rel N L I rs g H) {p : Addr} {o : HO} (hn : p ∉ rs) (hI : I p = none) (ho : H p = some o) : Rel N L (upd I p o) rs g H := by
  have si : Same I (upd I p o) := fun b u e => by rw [upd_ne (ne_of_none e hI)]; exact e
  refine ⟨fun b u e => ?_, R.lsub, R.len, R.nd, R.trk, fun i a c ha hc => ?_⟩
  · by_cases z : b = p
    · subst z; rw [upd_same] at e; cases e; exact ho
    · rw [upd_ne z] at e; exact R.sub b u e
  · have ma : a ∈ rs := List.mem_of_getElem? ha
    exact (R.cell i a c ha hc).mono si (List.prefix_refl _) (fun q h _ => h) fun h => by rw [upd_ne (fun z => hn (by rw [← z]; exact ma))]; exact h
theorem Ext.adopt (E : Ext I rs H I1 rs1 H1) {p : Addr} {o : HO} (hp : H p = none) (hI : I1 p = none) : Ext I rs H (upd I1 p o) rs1 H1 :=
  ⟨E.i.trans fun b u e => by rw [upd_ne (ne_of_none e hI)]; exact e, E.r, E.fr, E.new, fun a u h => by
    by_cases z : a = p
    · subst z; exact .inr (.inl hp)
    · rw [upd_ne z] at h; exact E.inew a u h⟩
theorem Rel.cellNew (R : Rel N L I rs g H) {p : Addr} {o : HO} {c : Cell} (hn : p ∉ rs) (ho : H p = some o) (hc : CR N L I (rs ++ [p]) H p c) : Rel N L I (rs ++ [p]) (g ++ [c]) H := by
  have pre : rs <+: rs ++ [p] := List.prefix_append _ _
  refine ⟨R.sub, R.lsub, by simp [R.len], ?_, fun a ha => ?_, fun i a d ha hd => ?_⟩
  · rw [List.nodup_append]
    exact ⟨R.nd, by simp, fun a ha b hb => by rintro rfl; simp at hb; subst hb; exact hn ha⟩
  · rcases List.mem_append.mp ha with z | z
    · exact R.trk a z
    · simp at z; subst z; exact ⟨o, ho⟩
  · by_cases hi : i < g.length
    · rw [List.getElem?_append_left hi] at hd
      rw [List.getElem?_append_left (by rw [R.len]; exact hi)] at ha
      exact (R.cell i a d ha hd).mono (Same.refl I) pre (fun q h _ => h) fun h => h
    · rw [List.getElem?_append_right (by omega)] at hd
      rw [List.getElem?_append_right (by rw [R.len]; omega)] at ha
      rw [R.len] at ha
      cases q : i - g.length with
      | zero =>
        rw [q] at ha hd
        simp at ha hd
        subst ha; subst hd
        exact hc
      | succ n =>
        rw [q] at hd
        simp at hd
theorem Ext.cellNew (E : Ext I rs H I1 rs1 H1) {p : Addr} (hp : H p = none) : Ext I rs H I1 (rs1 ++ [p]) H1 :=
  ⟨E.i, E.r.trans (List.prefix_append _ _), E.fr, fun a h => by
    rcases List.mem_append.mp h with z | z
    · exact E.new a z
    · simp at z; subst z; exact .inr hp, E.inew⟩
/-- it stays unknown -/
theorem Ext.unk (E : Ext I rs H I1 rs1 H1) {p : Addr} {o : HO} (ho : H p = some o) (hn : p ∉ rs) (hI : I p = none) : H1 p = some o ∧ p ∉ rs1 ∧ I1 p = none := by
  refine ⟨E.fr p o ho hn, fun h => ?_, ?_⟩
  · rcases E.new p h with z | z
    · exact hn z
    · rw [ho] at z; cases z
  · cases q : I1 p with
    | none => rfl
    | some w =>
      rcases E.inew p w q with z | z | z
      · rw [hI] at z; cases z
      · rw [ho] at z; cases z
      · exact absurd z hn

/-! ### stores -/
theorem wipe_get : ∀ (vs : List Nat) (σ : L2.St) (j : Nat), (wipe σ vs)[j]? = if j ∈ vs then (σ[j]?).map (fun _ => none) else σ[j]?
  | [], σ, j => by simp [wipe]
  | v :: vs, σ, j => by
    unfold wipe
    have ih := wipe_get vs σ j
    by_cases h : v = j
    · subst h
      rw [if_pos List.mem_cons_self]
      by_cases hl : v < σ.length
      · rw [List.getElem?_set_self (by rw [wipe_length]; exact hl), List.getElem?_eq_getElem hl]
        rfl
      · rw [List.getElem?_eq_none (by simp [wipe_length]; omega), List.getElem?_eq_none (by omega)]
        rfl
    · rw [List.getElem?_set_ne h, ih]
      have : (j ∈ v :: vs) ↔ j ∈ vs := by simp [Ne.symm h]
      simp only [this]
/-- slots stored, of those that are to be forgotten -/
theorem wipe_of {σ σ2 : L2.St} {vs : List Nat} (hl : σ2.length = σ.length) (h : ∀ j, j ∉ vs → σ2[j]? = (wipe σ vs)[j]?) : wipe σ2 vs = wipe σ vs := by
  refine List.ext_getElem? fun j => ?_
  rw [wipe_get]
  by_cases hj : j ∈ vs
  · rw [if_pos hj, wipe_get, if_pos hj]
    by_cases hb : j < σ.length
    · rw [List.getElem?_eq_getElem hb, List.getElem?_eq_getElem (by rw [hl]; exact hb)]; rfl
    · rw [List.getElem?_eq_none (by omega), List.getElem?_eq_none (by omega)]
  · rw [if_neg hj, h j hj]
def WG (X : Cx) (t : Expr) : TG := fun v σ H Q => ∀ (pins : List (Addr × Obj)) (s : Shared) (u : Value), Inv X pins σ H s → RelV v u →
  wpAny (model X.prog X.w) X.A (assign t X.env u) (fun _ s' => ∃ σ' H', Inv X pins σ' H' s' ∧ Q σ' H') X.xe s
theorem wg {t : Expr} : PG X t (WG X t) := ⟨fun pins s _ _ _ u _ I r h => h pins s u I r⟩
theorem wg_of {t : Expr} {r : TG} (h : PG X t r) {v : V} {σ : L2.St} {H : Hp} {Q : L2.St → Hp → Prop} (q : r v σ H Q) : WG X t v σ H Q := fun pins s u I rv => h.run pins s σ H v u Q I rv q
/-- what changes of the slots -/
def Chg (is : List Nat) (σ σ2 : L2.St) : Prop := σ2.length = σ.length ∧ ∀ j, j ∉ is → σ2[j]? = σ[j]?
theorem nm_of (S : XS N P B T cf k ns s0 sc W X) {i : Nat} {y : Str} (h : nmB ns s0 sc i y = true) : X.N[i]? = some y ∧ Loc X.env.scope y ∧ (X.fn y = true ∨ X.env.scope.names.lookup y = some .local) := by
  unfold nmB at h
  simp only [Bool.and_eq_true, Bool.or_eq_true, beq_iff_eq] at h
  rw [S.hN, S.sc]
  refine ⟨h.1, ?_, ?_⟩
  · rcases h.2 with z | z
    · exact .inl z
    · exact .inr z.1
  · rcases h.2 with z | z
    · exact .inr z
    · exact .inl (S.hf y z.2)
theorem nms_ok (S : XS N P B T cf k ns s0 sc W X) : ∀ {is : List Nat} {es : List Expr}, nmsB ns s0 sc is es = true → (assignEach es X.env).length = is.length ∧ (assignEach es X.env).findIdx? (·.1) = none ∧
    ∃ r : TGs, PGs X es r ∧ ∀ {ds : List D} {vs : List V} {env : Env} {σ : L2.St} {Q : L2.St → Hp → Prop}, VRs N I rs ds vs → ds.length = is.length → ER N I rs env σ →
      (∀ σ2, ER N I rs ((is.zip ds).foldl (fun e p => e.set p.1 (some p.2)) env) σ2 → Chg is σ σ2 → Q σ2 H) → r vs σ H Q
  | [], [], _ => ⟨rfl, rfl, gNil, pgs_nil, fun {ds vs env σ Q} hv hl er q => by
    cases hv with
    | nil => exact ⟨rfl, q σ er ⟨rfl, fun _ _ => rfl⟩⟩
    | cons _ _ => simp at hl⟩
  | i :: is, .Name y p :: es, h => by
    simp only [nmsB, Bool.and_eq_true] at h
    obtain ⟨a1, a2, r, a3, a4⟩ := nms_ok S h.2
    obtain ⟨b1, b2, b3⟩ := nm_of S h.1
    refine ⟨by simp [assignEach, a1], ?_, gCons (gName i) r, pgs_cons (pg_name (by rw [S.hN]; exact S.nd) b1 b2 b3) a3 rfl, fun {ds vs env σ Q} hv hl er q => ?_⟩
    · simp only [assignEach, List.findIdx?_cons, Bool.false_eq_true, if_false, a2]
      rfl
    · cases hv with
      | nil => simp at hl
      | cons hd hr =>
        refine ⟨_, _, rfl, a4 hr (by simpa using hl) (er.set hd) fun σ2 e2 ch => q σ2 e2 ⟨by rw [ch.1, List.length_set], fun j hj => ?_⟩⟩
        simp only [List.mem_cons, not_or] at hj
        rw [ch.2 j hj.2, List.getElem?_set_ne (Ne.symm hj.1)]
  | [], .Name _ _ :: _, h => by simp [nmsB] at h
  | _ :: _, [], h => by simp [nmsB] at h
theorem tg_ok (S : XS N P B T cf k ns s0 sc W X) {one : Bool} {tg : List Nat} {t : Expr} (h : tgB ns s0 sc one tg t = true) {env env2 : Env} {σ : L2.St} {Q : L2.St → Hp → Prop} (R : Rel N L I rs g H) (hv : VR N I rs x v)
    (ha : asgD g one tg x env = some env2) (er : ER N I rs env σ) (q : ∀ σ2, ER N I rs env2 σ2 → Chg tg σ σ2 → Q σ2 H) : WG X t v σ H Q := by
  unfold tgB at h
  split at h
  · rename_i i y p
    obtain ⟨b1, b2, b3⟩ := nm_of S h
    simp only [asgD] at ha
    cases ha
    refine wg_of (pg_name (by rw [S.hN]; exact S.nd) b1 b2 b3) (q _ (er.set hv) ⟨by simp, fun j hj => ?_⟩)
    rw [List.getElem?_set_ne (by simpa using Ne.symm (by simpa using hj))]
  · rename_i es k' p
    obtain ⟨a1, a2, r, a3, a4⟩ := nms_ok (I := I) (rs := rs) (H := H) S h
    have h2 : ∃ ds, top g x = .tup ds ∧ ds.length = tg.length ∧ env2 = (tg.zip ds).foldl (fun e p => e.set p.1 (some p.2)) env := by
      cases x with
      | tup ds =>
        have ha' : (if ds.length = tg.length then some ((tg.zip ds).foldl (fun e p => e.set p.1 (some p.2)) env) else none) = some env2 := ha
        split at ha'
        · rename_i hl
          cases ha'
          exact ⟨ds, rfl, hl, rfl⟩
        · cases ha'
      | _ => cases (show none = some env2 from ha)
    obtain ⟨ds, e1, e2, rfl⟩ := h2
    obtain ⟨a, vs, rfl, h3, h4⟩ := R.tup hv e1
    exact wg_of (pg_tup S.F.hc a3 a1 a2) ⟨a, vs, rfl, by rw [S.F.hK]; exact h3, by rw [← h4.length]; exact e2, a4 h4 e2 er q⟩
  · cases h

theorem tgl_ok (S : XS N P B T cf k ns s0 sc W X) {is : List Nat} {es : List Expr} {kk : Nat} {p : Pos} (h : nmsB ns s0 sc is es = true) {l : List D} {env env2 : Env} {σ : L2.St} {Q : L2.St → Hp → Prop} (R : Rel N L I rs g H) (hv : VR N I rs x v)
    (ht : top g x = .lst l) (ha : asgD g false is (.tup l) env = some env2) (er : ER N I rs env σ) (q : ∀ σ2, ER N I rs env2 σ2 → Chg is σ σ2 → Q σ2 H) : WG X (.Tuple es kk p) v σ H Q := by
  obtain ⟨a1, a2, r, a3, a4⟩ := nms_ok (I := I) (rs := rs) (H := H) S h
  have ha' : (if l.length = is.length then some ((is.zip l).foldl (fun e p => e.set p.1 (some p.2)) env) else none) = some env2 := ha
  split at ha'
  · rename_i hl
    cases ha'
    obtain ⟨a, vs, rfl, h3, h4⟩ := R.lst hv ht
    exact wg_of (pg_unl S.F.hc a3 a1 a2) ⟨a, vs, rfl, by rw [S.F.hK]; exact h3.sq, by rw [← h4.length]; exact hl, a4 h4 hl er q⟩
  · cases ha'
/-! ### comprehensions -/
/-- the block's context -/
theorem XS.blk (S : XS N P B T cf k ns s0 sc W X) (s : Shared) (H0 : Hp) (scope : Scope) (C : Addr) (cl : List (Str × Addr)) (fp : List Addr) :
    XS N P B T cf k ns scope (relS sc scope) (fun _ _ _ => False) (X.blk s H0 scope (compEnvC scope cl C X.env) fp) := by
  obtain ⟨⟨a1, a2, a3, a4, a5⟩, b1, b2, b3, b4, b5, b6, b7, b8, b9, b10, b11, b12⟩ := S
  refine ⟨⟨a1, a2, a3, a4, a5⟩, b1, b2, b3, b4, b5, ?_, fun x hx => ?_, b8, b9, ?_, b11, b12⟩
  · subst b6
    rfl
  · show (scope.names.lookup x == some .cell) = true
    rw [show scope.names.lookup x = some .cell from hx]
    rfl
  · intro pins σ H s e s' _ h
    obtain ⟨_, _, _, _, _, _, _, _, _, _, _, _, h⟩ := h
    exact h.elim
def WTs (X : Cx) (ifs : List Expr) : TT := fun σ H Q => ∀ (pins : List (Addr × Obj)) (s : Shared), Inv X pins σ H s →
    wpAny (model X.prog X.w) X.A (forIn ifs true fun c r => if r = true then do let ok ← isTrue c X.env (eval c X.env); pure (ForInStep.yield ok) else pure (ForInStep.yield r)) (TP X pins σ Q) X.xe s
theorem wts {ifs : List Expr} : PTs X ifs (WTs X ifs) := ⟨fun pins s _ _ _ I h => h pins s I⟩
theorem wts_of {ifs : List Expr} {t : TT} (h : PTs X ifs t) {σ : L2.St} {H : Hp} {Q : Bool → Hp → Prop} (q : t σ H Q) : WTs X ifs σ H Q := fun pins s I => h.run pins s σ H Q I q
section
variable (X)
def WGb (scope : Scope) (t : Expr) : TG := fun v σ H Q => ∀ (s : Shared) (H0 : Hp) (C : Addr) (cl : List (Str × Addr)) (fp : List Addr), WG (X.blk s H0 scope (compEnvC scope cl C X.env) fp) t v σ H Q
def WEb (scope : Scope) (e : Expr) : TE := fun σ H Q => ∀ (s : Shared) (H0 : Hp) (C : Addr) (cl : List (Str × Addr)) (fp : List Addr), WE (X.blk s H0 scope (compEnvC scope cl C X.env) fp) e σ H Q
def WTb (scope : Scope) (es : List Expr) : TT := fun σ H Q => ∀ (s : Shared) (H0 : Hp) (C : Addr) (cl : List (Str × Addr)) (fp : List Addr), WTs (X.blk s H0 scope (compEnvC scope cl C X.env) fp) es σ H Q
end
theorem lock_fr {ko : Option Nat} {g' g2 : G} (hl : Lks L rs ko L1) (hr : rs <+: rs2) (h : freeG g' ko = some g2) (R : Rel N L1 I2 rs2 g' H2) : Rel N L I2 rs2 g2 H2 := by
  rcases hl with ⟨rfl, rfl⟩ | ⟨i, a, o, rfl, hi, hL, rfl⟩
  · simp [freeG] at h
    subst h
    exact R
  · have hi2 : rs2[i]? = some a := by
      obtain ⟨t, rfl⟩ := hr
      rw [List.getElem?_append_left (List.getElem?_eq_some_iff.mp hi).1]
      exact hi
    unfold freeG at h
    simp only at h
    split at h
    · rename_i l q
      cases h
      exact R.free hi2 q hL
    · cases h
/-- a comprehension, behind its iterator -/
theorem comp_ok (S : XS N P B T cf k ns s0 sc W X) {h one : Bool} {own tg : List Nat} {scope : Scope} {tg' elt' : Expr} {ifs : List Expr} {cond : Env → G → R Bool} {elt : Env → G → R D} {env : Env} {xs : List D × Option Nat} {σ : L2.St} {J : It}
    (htg : tgB ns scope (relS sc scope) one tg tg' = true) (hin : tg.all (fun i => own.contains i) = true)
    (hc : ∀ (s : Shared) (H0 : Hp) (C : Addr) (cl : List (Str × Addr)) (fp : List Addr) {env : Env} {g : G} {σ : L2.St} {L I : Hp} {rs : List Addr} {H : Hp} {Q : Bool → Hp → Prop}, Rel N L I rs g H → ER N I rs env σ → OkB N L I rs H (fun _ _ _ => False) Q (cond env g) → WTs (X.blk s H0 scope (compEnvC scope cl C X.env) fp) ifs σ H Q)
    (he : ∀ (s : Shared) (H0 : Hp) (C : Addr) (cl : List (Str × Addr)) (fp : List Addr) {env : Env} {g : G} {σ : L2.St} {L I : Hp} {rs : List Addr} {H : Hp} {Q : VK}, Rel N L I rs g H → ER N I rs env σ → OkV N L I rs H (fun _ _ _ => False) Q (elt env g) → WE (X.blk s H0 scope (compEnvC scope cl C X.env) fp) elt' σ H Q)
    (er : ER N I rs env σ) (R : Rel N L1 I rs (lockG g xs.2) H) (hl : Lks L rs xs.2 L1) (hw : Wk N L1 I rs xs.1 J) (ok : OkV N L I rs H W Q (compR h own tg one cond elt env xs g)) :
    ∀ D0, H D0 = none → ∃ W : Nat → Nat → Hp → Prop, (∃ m, W 0 m (upd H D0 (.lst []))) ∧ ∀ i m H, W i m H →
      (J.stop i H ∧ Q (.ref D0) H) ∨ (J.go i H ∧ ∃ Nx : Hp → Prop, (∀ H', Nx H' → ∃ m', m' < m ∧ W (i + 1) m' H') ∧ ∀ x H', J.yld i H x H' → WGb X scope tg' x (wipe σ own) H' fun σ2 H2 => wipe σ2 own = wipe σ own ∧ WTb X scope ifs σ2 H2 fun b H3 =>
        if b = true then WEb X scope elt' σ2 H3 fun y H4 => ∃ acc, H4 D0 = some (.lst acc) ∧ acc.length < sizeLine ∧ Nx (upd H4 D0 (.lst (acc ++ [y]))) else Nx H3) := by
  intro D0 hD
  have hID : I D0 = none := R.sub.free hD
  have hLD : L1 D0 = none := R.lsub.free hD
  have hnD : D0 ∉ rs := fun hm => by
    obtain ⟨u, e⟩ := R.trk D0 hm
    rw [hD] at e; cases e
  unfold compR at ok
  have hLL : L D0 = none := by
    rcases hl with ⟨_, rfl⟩ | ⟨i, a, o, _, _, _, rfl⟩
    · exact hLD
    · by_cases z : D0 = a
      · subst z; rw [upd_same] at hLD; cases hLD
      · rw [upd_ne z] at hLD; exact hLD
  generalize hf : compF own tg one cond elt env = f at ok
  cases hr : compL f xs.1 (lockG g xs.2) with
  | exc x g => rw [hr] at ok; exact ok.elim
  | stk => rw [hr] at ok; exact ok.elim
  | ok ys g2 =>
    rw [hr] at ok
    simp only at ok
    cases hfr : freeG g2 xs.2 with
    | none => rw [hfr] at ok; exact ok.elim
    | some g3 =>
      rw [hfr] at ok
      simp only [mkL] at ok
      split at ok
      · rename_i hz
        have hz : ys.length ≤ LIM := by simpa using hz
        refine ⟨fun i m Hc => i ≤ xs.1.length ∧ m = xs.1.length - i ∧ ∃ g' I' rs' acc vs yr, Rel N L1 I' rs' g' Hc ∧ Ext I rs H I' rs' Hc ∧ Hc D0 = some (.lst vs) ∧ D0 ∉ rs' ∧ I' D0 = none ∧ VRs N I' rs' acc vs ∧ compL f (xs.1.drop i) g' = .ok yr g2 ∧ ys = acc ++ yr, ?_, ?_⟩
        · exact ⟨_, Nat.zero_le _, rfl, _, I, rs, [], [], ys, R.hid hnD hID hLD, Ext.refl.hid hD, upd_same, hnD, hID, .nil, by simpa using hr, rfl⟩
        · rintro i m Hc ⟨hi, rfl, g', I', rs', acc, vs, yr, R', E', h1, h2, h3, h4, h5, h6⟩
          by_cases hii : i = xs.1.length
          · left
            refine ⟨hw.stop _ _ _ _ E'.i E'.r R' i (by omega), ?_⟩
            rw [hii, List.drop_length] at h5
            simp only [compL] at h5
            cases h5
            rw [List.append_nil] at h6
            subst h6
            have R2 : Rel N L I' rs' g3 Hc := lock_fr hl E'.r hfr R'
            cases h with
            | false =>
              exact ok _ _ _ _ (E'.adopt hD h3) (R2.adopt h2 h3 h1) (.lst (.inl (.inl upd_same)) (h4.mono (fun b u e => by rw [upd_ne (ne_of_none e h3)]; exact e) (List.prefix_refl _)))
            | true =>
              have hc : CR N L I' (rs' ++ [D0]) Hc D0 (.lst ys) := ⟨hLL, h3, vs, h1, h4.mono (Same.refl _) (List.prefix_append _ _), hz⟩
              refine ok _ _ _ _ (E'.cellNew hD) (R2.cellNew h2 h1 hc) (.ref ?_)
              rw [← R2.len, List.getElem?_append_right (Nat.le_refl _)]
              simp
          · right
            have hlt : i < xs.1.length := by omega
            refine ⟨hw.go _ _ _ _ E'.i E'.r R' i hlt, fun H' => ∃ g' I' rs' acc vs yr, Rel N L1 I' rs' g' H' ∧ Ext I rs H I' rs' H' ∧ H' D0 = some (.lst vs) ∧ D0 ∉ rs' ∧ I' D0 = none ∧ VRs N I' rs' acc vs ∧ compL f (xs.1.drop (i + 1)) g' = .ok yr g2 ∧ ys = acc ++ yr, fun H' hH => ⟨_, by omega, by omega, rfl, hH⟩, ?_⟩
            intro xv H' hy s H0 C cl fp
            obtain ⟨I2, E2, R2, d, hd, hv⟩ := hw.yld _ _ _ _ E'.i E'.r R' i xv H' hlt hy
            obtain ⟨h1', h2', h3'⟩ := E2.unk h1 h2 h3
            have E3 := E'.trans E2
            have hdr : xs.1.drop i = d :: xs.1.drop (i + 1) := by
              rw [← List.getElem_cons_drop (h := hlt)]
              rw [List.getElem?_eq_getElem hlt] at hd
              cases hd
              rfl
            rw [hdr] at h5
            simp only [compL] at h5
            have hfd : f d g' = compF own tg one cond elt env d g' := by rw [← hf]
            unfold compF at hfd
            cases ha : asgD g' one tg d (wipeD env own) with
            | none => rw [ha] at hfd; rw [hfd] at h5; cases h5
            | some env2 =>
              rw [ha] at hfd
              simp only at hfd
              refine tg_ok (S.blk s H0 scope C cl fp) htg R2 hv ha ((er.after E3).wipe own) fun σ2 er2 ch => ?_
              refine ⟨wipe_of (by rw [ch.1, wipe_length]) fun j hj => ch.2 j fun hm => hj (by simpa using List.all_eq_true.mp hin j hm), fun s H0 C cl fp => ?_⟩
              cases hcd : cond env2 g' with
              | exc x g => rw [hcd] at hfd; rw [hfd] at h5; cases h5
              | stk => rw [hcd] at hfd; rw [hfd] at h5; cases h5
              | ok b gb =>
                rw [hcd] at hfd
                refine hc s H0 C cl fp R2 er2 ?_
                rw [hcd]
                rintro I3 rs3 H3 b' E4 R3 rfl
                obtain ⟨k1, k2, k3⟩ := E4.unk h1' h2' h3'
                cases b with
                | false =>
                  simp only [PC.R.bind] at hfd
                  rw [hfd] at h5
                  simp only [Bool.false_eq_true, if_false]
                  exact ⟨_, _, _, acc, vs, yr, R3, E3.trans E4, k1, k2, k3, E4.vrs (E2.vrs h4), h5, h6⟩
                | true =>
                  simp only [PC.R.bind] at hfd
                  simp only [if_true]
                  intro s H0 C cl fp
                  cases hel : elt env2 gb with
                  | exc x g => rw [hel] at hfd; rw [hfd] at h5; cases h5
                  | stk => rw [hel] at hfd; rw [hfd] at h5; cases h5
                  | ok y gy =>
                    rw [hel] at hfd
                    simp only at hfd
                    rw [hfd] at h5
                    simp only at h5
                    refine he s H0 C cl fp R3 (er2.after E4) ?_
                    rw [hel]
                    intro I4 rs4 H4 yv E5 R4 hyv
                    obtain ⟨m1, m2, m3⟩ := E5.unk k1 k2 k3
                    have E6 := (E3.trans E4).trans E5
                    have v4 := E5.vrs (E4.vrs (E2.vrs h4))
                    cases hrest : compL f (xs.1.drop (i + 1)) gy with
                    | exc x g => rw [hrest] at h5; cases h5
                    | stk => rw [hrest] at h5; cases h5
                    | ok zs gz =>
                      rw [hrest] at h5
                      cases h5
                      have el := v4.length
                      refine ⟨vs, m1, ?_, gy, I4, rs4, acc ++ [y], vs ++ [yv], zs, R4.hid m2 m3 hLD, E6.hid hD, upd_same, m2, m3, v4.append (.one hyv), hrest, by rw [h6]; simp⟩
                      have : acc.length < ys.length := by rw [h6]; simp
                      have := lim_line hz
                      omega
      · exact ok.elim
end
end PC
end
section
set_option maxHeartbeats 4000000
namespace PC
open PySem L2 PyProof.Rows
@[simp] theorem R.bind_assoc {α β γ : Type} (r : R α) (k : α → G → R β) (l : β → G → R γ) : (r.bind k).bind l = r.bind fun a g => (k a g).bind l := by cases r <;> rfl
section
variable (N : Nm) (P : Program) (B : Heap) (T : Tab) (cf : CF) (k : Nat) (ns : List Str)
def SVp (c : E) : Prop := ∀ {s0 sc : Scope} {W : XK} {X : Cx}, XS N P B T cf k ns s0 sc W X → ∀ {e : Expr}, (chM N.toNz ns c).v s0 sc e = true → ∀ {env : Env} {g : G} {σ : L2.St} {L I : Hp} {rs : List Addr} {H : Hp} {Q : VK}, Rel N L I rs g H → ER N I rs env σ →
  OkV N L I rs H W Q ((evM T cf c).v env g) → WE X e σ H Q
def STp (c : E) : Prop := ∀ {s0 sc : Scope} {W : XK} {X : Cx}, XS N P B T cf k ns s0 sc W X → ∀ {e : Expr}, (chM N.toNz ns c).t s0 sc e = true → ∀ {env : Env} {g : G} {σ : L2.St} {L I : Hp} {rs : List Addr} {H : Hp} {Q : Bool → Hp → Prop}, Rel N L I rs g H → ER N I rs env σ →
  OkB N L I rs H W Q ((evM T cf c).t env g) → WT X e σ H Q
def SIp (c : E) : Prop := ∀ {s0 sc : Scope} {W : XK} {X : Cx}, XS N P B T cf k ns s0 sc W X → ∀ {tg e : Expr}, (chM N.toNz ns c).i s0 sc tg e = true → ∀ {env : Env} {g : G} {σ : L2.St} {L I : Hp} {rs : List Addr} {H : Hp} {Q : It → Hp → Prop}, Rel N L I rs g H → ER N I rs env σ →
  OkI N L I rs H W Q ((evM T cf c).i env g) → WI X tg e σ H Q ∧ ∀ x, foldedSetIterable e X.env x = pure x
def WK (X : Cx) (kws : List Keyword) : TA := fun σ H Q => ∀ (pos : Pos) (pins : List (Addr × Obj)) (s : Shared), Inv X pins σ H s → wpAny (model X.prog X.w) X.A (evalAll ((backToKw pos (keywordEach kws X.env)).map (·.2))) (AP X pins σ Q) X.xe s
def SAp (cs : List E) : Prop := ∀ {s0 sc : Scope} {W : XK} {X : Cx}, XS N P B T cf k ns s0 sc W X →
  (∀ {es : List Expr}, chs N.toNz ns cs s0 sc es = true → ∀ {env : Env} {g : G} {σ : L2.St} {L I : Hp} {rs : List Addr} {H : Hp} {Q : List V → Hp → Prop}, Rel N L I rs g H → ER N I rs env σ →
    OkVs N L I rs H W Q (evs T cf cs env g) → WA X es σ H Q) ∧
  (∀ {kws : List Keyword}, chs N.toNz ns cs s0 sc (kws.map (·.value)) = true → noSt (kws.map (·.value)) = true → ∀ {env : Env} {g : G} {σ : L2.St} {L I : Hp} {rs : List Addr} {H : Hp} {Q : List V → Hp → Prop}, Rel N L I rs g H → ER N I rs env σ →
    OkVs N L I rs H W Q (evs T cf cs env g) → WK X kws σ H Q)
end
section
variable {N : Nm} {P : Program} {B : Heap} {T : Tab} {cf : CF} {k : Nat} {ns : List Str}
variable {s0 sc : Scope} {W : XK} {X : Cx} {L L1 I I1 I2 : Hp} {rs rs1 rs2 : List Addr} {g g1 : G} {H H1 H2 : Hp} {Q : VK} {x y z : D} {u v : V} {env : Env} {σ : L2.St}
theorem wk' {kws : List Keyword} : PK X kws (WK X kws) := ⟨fun pos pins s _ _ _ I h => h pos pins s I⟩
theorem wk_of {kws : List Keyword} {t : TA} (h : PK X kws t) {σ : L2.St} {H : Hp} {Q : List V → Hp → Prop} (q : t σ H Q) : WK X kws σ H Q := fun pos pins s I => h.run pos pins s σ H Q I q
theorem wk_mono {kws : List Keyword} {σ : L2.St} {H : Hp} {Q Q' : List V → Hp → Prop} (h : WK X kws σ H Q) (k : ∀ v H', Q v H' → Q' v H') : WK X kws σ H Q' := fun pos pins s I => thn (h pos pins s I) fun _ _ ⟨v, H', I', r, q⟩ => ⟨v, H', I', r, k v H' q⟩
/-- the first value, then the rest -/
theorem SVp.go {a : E} (h : SVp N P B T cf k ns a) (S : XS N P B T cf k ns s0 sc W X) {e : Expr} (hc : (chM N.toNz ns a).v s0 sc e = true) (R : Rel N L I rs g H) (er : ER N I rs env σ) {β δ : Type} {P2 : Hp → List Addr → β → δ → Prop} {Q2 : δ → Hp → Prop} {kk : D → G → PC.R β}
    (ok : Ok N L P2 I rs H W Q2 (((evM T cf a).v env g).bind kk)) (q : ∀ v H1 d g1 I1 rs1, Rel N L I1 rs1 g1 H1 → ER N I1 rs1 env σ → Ext I rs H I1 rs1 H1 → VR N I1 rs1 d v → Ok N L P2 I1 rs1 H1 W Q2 (kk d g1) → Q v H1) : WE X e σ H Q :=
  we_mono (h S hc R er ok.first) fun v H1 ⟨d, g1, I1, rs1, e1, R1, v1, ok1⟩ => q v H1 d g1 I1 rs1 R1 (er.after e1) e1 v1 ok1
theorem STp.go {a : E} (h : STp N P B T cf k ns a) (S : XS N P B T cf k ns s0 sc W X) {e : Expr} (hc : (chM N.toNz ns a).t s0 sc e = true) (R : Rel N L I rs g H) (er : ER N I rs env σ) {β δ : Type} {P2 : Hp → List Addr → β → δ → Prop} {Q2 : δ → Hp → Prop} {Q1 : Bool → Hp → Prop} {kk : Bool → G → PC.R β}
    (ok : Ok N L P2 I rs H W Q2 (((evM T cf a).t env g).bind kk)) (q : ∀ b H1 g1 I1 rs1, Rel N L I1 rs1 g1 H1 → ER N I1 rs1 env σ → Ext I rs H I1 rs1 H1 → Ok N L P2 I1 rs1 H1 W Q2 (kk b g1) → Q1 b H1) : WT X e σ H Q1 :=
  wt_mono (h S hc R er ok.first) fun v H1 ⟨d, g1, I1, rs1, e1, R1, v1, ok1⟩ => q v H1 g1 I1 rs1 R1 (er.after e1) e1 (v1 ▸ ok1)
theorem SAp.go {as : List E} (h : SAp N P B T cf k ns as) (S : XS N P B T cf k ns s0 sc W X) {es : List Expr} (hc : chs N.toNz ns as s0 sc es = true) (R : Rel N L I rs g H) (er : ER N I rs env σ) {β δ : Type} {P2 : Hp → List Addr → β → δ → Prop} {Q2 : δ → Hp → Prop} {Q1 : List V → Hp → Prop} {kk : List D → G → PC.R β}
    (ok : Ok N L P2 I rs H W Q2 ((evs T cf as env g).bind kk)) (q : ∀ vs H1 ds g1 I1 rs1, Rel N L I1 rs1 g1 H1 → ER N I1 rs1 env σ → Ext I rs H I1 rs1 H1 → VRs N I1 rs1 ds vs → Ok N L P2 I1 rs1 H1 W Q2 (kk ds g1) → Q1 vs H1) : WA X es σ H Q1 :=
  wa_mono ((h S).1 hc R er ok.first) fun v H1 ⟨d, g1, I1, rs1, e1, R1, v1, ok1⟩ => q v H1 d g1 I1 rs1 R1 (er.after e1) e1 v1 ok1
theorem SAp.gk {as : List E} (h : SAp N P B T cf k ns as) (S : XS N P B T cf k ns s0 sc W X) {kws : List Keyword} (hc : chs N.toNz ns as s0 sc (kws.map (·.value)) = true) (hn : noSt (kws.map (·.value)) = true) (R : Rel N L I rs g H) (er : ER N I rs env σ) {β δ : Type} {P2 : Hp → List Addr → β → δ → Prop} {Q2 : δ → Hp → Prop} {Q1 : List V → Hp → Prop} {kk : List D → G → PC.R β}
    (ok : Ok N L P2 I rs H W Q2 ((evs T cf as env g).bind kk)) (q : ∀ vs H1 ds g1 I1 rs1, Rel N L I1 rs1 g1 H1 → ER N I1 rs1 env σ → Ext I rs H I1 rs1 H1 → VRs N I1 rs1 ds vs → Ok N L P2 I1 rs1 H1 W Q2 (kk ds g1) → Q1 vs H1) : WK X kws σ H Q1 :=
  wk_mono ((h S).2 hc hn R er ok.first) fun v H1 ⟨d, g1, I1, rs1, e1, R1, v1, ok1⟩ => q v H1 d g1 I1 rs1 R1 (er.after e1) e1 v1 ok1
theorem Ok.first' {α β γ δ : Type} {P1 : Hp → List Addr → α → γ → Prop} {P2 : Hp → List Addr → β → δ → Prop} {Q : δ → Hp → Prop} {r : PC.R α} {k : α → G → PC.R β}
    (ok : Ok N L P2 I rs H W Q (r.bind k)) : Ok N L P1 I rs H W (fun b H1 => ∃ a g1 I1 rs1, r = .ok a g1 ∧ Ext I rs H I1 rs1 H1 ∧ Rel N L I1 rs1 g1 H1 ∧ P1 I1 rs1 a b ∧ Ok N L P2 I1 rs1 H1 W Q (k a g1)) r := by
  cases r with
  | ok a g => exact fun I' rs' H' b e R p => ⟨a, g, I', rs', rfl, e, R, p, ok.after e⟩
  | exc x g => exact ok
  | stk => exact ok
/-- as many values as texts -/
theorem evs_len {z : Nz} : ∀ {as : List E} {es : List Expr} {env : Env} {g g1 : G} {ds : List D}, chs z ns as s0 sc es = true → noSt es = true → evs T cf as env g = .ok ds g1 → ds.length = es.length
  | [], es, env, g, g1, ds, h, hn, e => by
    simp only [chs, List.isEmpty_iff] at h
    subst h
    cases e
    rfl
  | a :: r, [], env, g, g1, ds, h, hn, e => by simp [chs] at h
  | a :: r, x :: es, env, g, g1, ds, h, hn, e => by
    simp only [noSt, List.all_cons, Bool.and_eq_true] at hn
    simp only [chs, Bool.and_eq_true] at h
    have hs : (evM T cf a).st = false := by
      have e1 : (chM z ns a).st = (evM T cf a).st := by cases a <;> rfl
      rw [← e1]
      cases q : (chM z ns a).st with
      | false => rfl
      | true =>
        rw [q] at h
        cases x <;> first | exact Bool.noConfusion h.1 | exact Bool.noConfusion hn.1
    have e : (((evM T cf a).v env g).bind fun x g1 => match (evM T cf a).st with
      | true => (match seqD g1 x with
        | some xs => (evs T cf r env g1).bind fun ys g2 => .ok (xs ++ ys) g2
        | none => .stk)
      | false => (evs T cf r env g1).bind fun ys g2 => .ok (x :: ys) g2) = .ok ds g1 := e
    rw [hs] at e
    cases q1 : (evM T cf a).v env g with
    | exc _ _ => rw [q1] at e; cases e
    | stk => rw [q1] at e; cases e
    | ok d gd =>
      rw [q1] at e
      simp only [PC.R.bind] at e
      cases q2 : evs T cf r env gd with
      | exc _ _ => rw [q2] at e; cases e
      | stk => rw [q2] at e; cases e
      | ok ys gy =>
        rw [q2] at e
        cases e
        simp [evs_len h.2 hn.2 q2]
/-- an answer that may lack -/
theorem Ok.opt' {α β : Type} {P1 : Hp → List Addr → α → β → Prop} {Q1 : β → Hp → Prop} {o : Option α} (ok : Ok N L P1 I rs H W Q1 (opt o g)) : ∃ a, o = some a ∧ Ok N L P1 I rs H W Q1 (.ok a g) := by
  cases o with
  | none => exact ok.elim
  | some a => exact ⟨a, rfl, ok⟩
theorem Ok.bl {Q1 : Bool → Hp → Prop} {b : Bool} (R : Rel N L I rs g H) (ok : OkB N L I rs H W Q1 (.ok b g)) : Q1 b H := ok I rs H b .refl R rfl
theorem Ok.now (R : Rel N L I rs g H) (ok : OkV N L I rs H W Q (.ok z g)) (h : VR N I rs z v) : Q v H := ok I rs H v .refl R h
/-- a test, a walk by a value -/
theorem t_of {a : E} (hv : SVp N P B T cf k ns a) (hm : (evM T cf a).t = fun env g => ((evM T cf a).v env g).bind fun x g1 => opt (tru g1 x) g1) (hc : (chM N.toNz ns a).t = fun s0 sc e => ptB e && (chM N.toNz ns a).v s0 sc e) : STp N P B T cf k ns a := by
  intro s0 sc W X S e h env g σ L I rs H Q R er ok
  rw [hc] at h
  rw [hm] at ok
  simp only [Bool.and_eq_true] at h
  refine wt_of (pt_truth we (pt_plain h.1)) (hv.go S h.2 R er ok fun v H1 d g1 I1 rs1 R1 er1 e1 v1 ok1 => ?_)
  obtain ⟨b, hb, ok2⟩ := ok1.opt'
  exact ⟨b, tru_ok S.F.hK hb R1 v1, ok2.bl R1⟩
theorem pi_any {e tg : Expr} : PI X tg e (fun σ H R => WE X e σ H fun u H => (∃ a, u = .ref a ∧ (∃ xs, SqL X.K H a xs) ∧ R (Itl X.K a) H) ∨ (∃ a, u = .ref a ∧ (∃ xs, SqT X.K H a xs) ∧ R (Itt X.K a) H) ∨ ∃ z, u = .str z ∧ R (Its z) H) := by
  refine ⟨fun pins s σ H R I h => ?_⟩
  refine thn (h pins s I) fun v s1 ⟨x, H1, I1, r1, q1⟩ => ?_
  rcases q1 with ⟨a, e, ⟨xs, hq⟩, q⟩ | ⟨a, e, ⟨xs, hq⟩, q⟩ | ⟨z, e, q⟩
  · subst e
    cases r1
    obtain ⟨its, rv, p, hz⟩ := I1.list hq
    refine wpAny_pyIter_list p.isList ?_
    refine ⟨s1.heap.objs.size, [s1.heap.objs.size], _, _, H1, rfl, I1.kept (t' := s1.toks) fun b o e => Heap.get?_push_of_some _ e, turn_list a _, ⟨_, Heap.get?_push_size _ rfl, rfl, rfl⟩, fun b hb => ?_, q⟩
    have e : b = s1.heap.objs.size := by simpa using hb
    subst e
    exact I1.fpOk (Nat.le_refl _) (I1.hok.fresh (Nat.le_refl _))
  · subst e
    cases r1
    obtain ⟨its, rv, p, hz⟩ := I1.tuple hq
    refine wpAny_pyIter_tuple (show s1.heap.IsTuple a its.toArray from p) ?_
    refine ⟨s1.heap.objs.size, [s1.heap.objs.size], _, _, H1, rfl, I1.kept (t' := s1.toks) fun b o e => Heap.get?_push_of_some _ e, turn_tuple a _, ⟨_, Heap.get?_push_size _ rfl, rfl, rfl⟩, fun b hb => ?_, q⟩
    have e : b = s1.heap.objs.size := by simpa using hb
    subst e
    exact I1.fpOk (Nat.le_refl _) (I1.hok.fresh (Nat.le_refl _))
  · subst e
    obtain ⟨t, rfl⟩ := r1
    cases ha : z.cps.all (· < 128)
    · exact wpAny_pyIter_wide ha (pi_one (tk := s1.toks) I1 _ (turn_str _ z t "str_iterator" (.inr rfl)) ⟨_, Heap.get?_push_size _ rfl, rfl, rfl⟩ q)
    · exact wpAny_pyIter_ascii ha (pi_one (tk := s1.toks) I1 _ (turn_str _ z t "str_ascii_iterator" (.inl rfl)) ⟨_, Heap.get?_push_size _ rfl, rfl, rfl⟩ q)
theorem i_of {a : E} (hv : SVp N P B T cf k ns a) (hm : (evM T cf a).i = fun env g => ((evM T cf a).v env g).bind fun x g1 => opt (itemsD g1 x) g1) (hc : (chM N.toNz ns a).i = fun s0 sc _ e => nsB e && (chM N.toNz ns a).v s0 sc e) : SIp N P B T cf k ns a := by
  intro s0 sc W X S tg e h env g σ L I rs H Q R er ok
  rw [hc] at h
  rw [hm] at ok
  simp only [Bool.and_eq_true] at h
  refine ⟨wi_of pi_any (we_mono (hv S h.2 R er ok.first) fun v H1 ⟨d, g1, I1, rs1, e1, R1, v1, ok1⟩ => ?_), ns_fold h.1⟩
  cases hi : itemsD g1 d with
  | none => rw [hi] at ok1; exact ok1.elim
  | some p => rw [hi] at ok1; exact items_ok S hi R1 v1 ok1
end
end PC
end
section
set_option maxHeartbeats 4000000
namespace PC
open PySem L2 PyProof.Rows
section
variable {N : Nm} {P : Program} {B : Heap} {T : Tab} {cf : CF} {k : Nat} {ns : List Str}
variable {s0 sc : Scope} {W : XK} {X : Cx} {L L1 I I1 I2 : Hp} {rs rs1 rs2 : List Addr} {g g1 : G} {H H1 H2 : Hp} {Q : VK} {x y z : D} {u v : V} {env : Env} {σ : L2.St}
theorem sv_loc (i : Nat) : SVp N P B T cf k ns (.loc i) := by
  intro s0 sc W X S e h env g σ L I rs H Q R er ok
  cases e <;> simp only [chM, Ck.of] at h <;> first | exact Bool.noConfusion h | skip
  simp only [Bool.and_eq_true, beq_iff_eq] at h
  obtain ⟨h1, h2, h3⟩ := vis_of h.2
  refine we_of (pe_var (by rw [S.hN]; exact h.1) (by rw [S.sc]; exact h1) h2 h3) ?_
  have ok : OkV N L I rs H W Q (match env[i]? with | some (some d) => .ok d g | _ => .stk) := ok
  split at ok
  · rename_i d q
    obtain ⟨v, e1, e2⟩ := er.2 _ _ q
    exact ⟨v, e1, ok.now R e2⟩
  · exact ok.elim
theorem sv_con (d : D) : SVp N P B T cf k ns (.con d) := by
  intro s0 sc W X S e h env g σ L I rs H Q R er ok
  have ok : OkV N L I rs H W Q (.ok d g) := ok
  cases e <;> simp only [chM, Ck.of] at h <;> first | exact Bool.noConfusion h | skip
  rename_i c j p
  unfold conB at h
  split at h
  · exact we_of pe_non (ok.now R .non)
  · have := eq_of_beq h; subst this
    exact we_of pe_bl (ok.now R (.bl _))
  · have := eq_of_beq h; subst this
    exact we_of pe_int (ok.now R (.int _))
  · rename_i s y
    have := eq_of_beq h
    subst this
    have q := ok.now R (.str _)
    rw [st_of] at q
    exact we_of pe_str q
  · exact Bool.noConfusion h
theorem sv_glo (n : Nat) : SVp N P B T cf k ns (.glo n) := by
  intro s0 sc W X S e h env g σ L I rs H Q R er ok
  have ok : OkV N L I rs H W Q (opt (T.glo n) g) := ok
  obtain ⟨d, hd, ok⟩ := ok.opt'
  cases e <;> simp only [chM, Ck.of] at h <;> first | exact Bool.noConfusion h | skip
  simp only [Bool.and_eq_true, beq_iff_eq] at h
  obtain ⟨h1, h2⟩ := gl_of (X := X) h.2 S.sc
  obtain ⟨v, u, e1, e2, e3⟩ := S.fa.glo n d hd
  exact we_of (pe_glob h1 (by rw [S.mg, ← h.1]; exact e1) e2 h2) (ok.now R (e3.mono (fun _ _ z => by cases z) (List.nil_prefix)))
theorem sv_bin {o : Bop} {a b : E} (ha : SVp N P B T cf k ns a) (hb : SVp N P B T cf k ns b) : SVp N P B T cf k ns (.bin o a b) := by
  intro s0 sc W X S e h env g σ L I rs H Q R er ok
  have ok : OkV N L I rs H W Q (((evM T cf a).v env g).bind fun x g1 => ((evM T cf b).v env g1).bind fun y g2 => opt (binD g2 o x y) g2) := ok
  cases e <;> simp only [chM, Ck.of] at h <;> first | exact Bool.noConfusion h | skip
  simp only [Bool.and_eq_true, beq_iff_eq] at h
  obtain ⟨rfl, h1, h2⟩ := h
  refine we_of (pe_op rw_op we we) (ha.go S h1 R er ok fun v1 H1 d1 g1 I1 rs1 R1 er1 e1 r1 ok1 => hb.go S h2 R1 er1 ok1 fun v2 H2 d2 g2 I2 rs2 R2 er2 e2 r2 ok2 => ?_)
  obtain ⟨z, hz, ok3⟩ := ok2.opt'
  exact bin_ok S.F.hK hz R2 (e2.vr r1) r2 ok3.gd
theorem sv_neg {a : E} (ha : SVp N P B T cf k ns a) : SVp N P B T cf k ns (.neg a) := by
  intro s0 sc W X S e h env g σ L I rs H Q R er ok
  have ok : OkV N L I rs H W Q (((evM T cf a).v env g).bind fun x g1 => match x with | .int i => .ok (.int (-i)) g1 | _ => .stk) := ok
  cases e <;> simp only [chM, Ck.of] at h <;> first | exact Bool.noConfusion h | skip
  rename_i op a' p
  cases op <;> first | exact Bool.noConfusion h | skip
  refine we_of (pe_un un_neg we) (ha.go S h R er ok fun v1 H1 d1 g1 I1 rs1 R1 er1 e1 r1 ok1 => ?_)
  split at ok1
  · cases r1
    exact ⟨_, rfl, ok1.now R1 (.int _)⟩
  · exact ok1.elim
theorem sv_not {a : E} (ha : SVp N P B T cf k ns a) : SVp N P B T cf k ns (.not_ a) := by
  intro s0 sc W X S e h env g σ L I rs H Q R er ok
  have ok : OkV N L I rs H W Q (((evM T cf a).v env g).bind fun x g1 => opt ((tru g1 x).map fun b => .bl (!b)) g1) := ok
  cases e <;> simp only [chM, Ck.of] at h <;> first | exact Bool.noConfusion h | skip
  rename_i op a' p
  cases op <;> first | exact Bool.noConfusion h | skip
  refine we_of (pe_notT we) (ha.go S h R er ok fun v1 H1 d1 g1 I1 rs1 R1 er1 e1 r1 ok1 => ?_)
  obtain ⟨z, hz, ok2⟩ := ok1.opt'
  simp only [Option.map_eq_some_iff] at hz
  obtain ⟨b, hb, rfl⟩ := hz
  exact ⟨b, tru_ok S.F.hK hb R1 r1, ok2.now R1 (.bl _)⟩
theorem sv_and {a b : E} (ha : SVp N P B T cf k ns a) (hb : SVp N P B T cf k ns b) : SVp N P B T cf k ns (.and_ a b) := by
  intro s0 sc W X S e h env g σ L I rs H Q R er ok
  have ok : OkV N L I rs H W Q (((evM T cf a).v env g).bind fun x g1 => match tru g1 x with | some true => (evM T cf b).v env g1 | some false => .ok x g1 | none => .stk) := ok
  cases e <;> simp only [chM, Ck.of] at h <;> first | exact Bool.noConfusion h | skip
  rename_i op es p
  cases op <;> first | exact Bool.noConfusion h | skip
  cases es with
  | nil => exact Bool.noConfusion h
  | cons a' rest =>
    simp only [Bool.and_eq_true] at h
    obtain ⟨h1, h2⟩ := h
    have key : ∀ v1 H1 d1 g1 I1 rs1, Rel N L I1 rs1 g1 H1 → ER N I1 rs1 env σ → Ext I rs H I1 rs1 H1 → VR N I1 rs1 d1 v1 → OkV N L I1 rs1 H1 W Q (match tru g1 d1 with | some true => (evM T cf b).v env g1 | some false => .ok d1 g1 | none => .stk) →
        ∀ {e2 : Expr}, (OkV N L I1 rs1 H1 W Q ((evM T cf b).v env g1) → WE X e2 σ H1 Q) → ∃ k, TruV X.K v1 H1 k ∧ if k = true then WE X e2 σ H1 Q else Q v1 H1 := by
      intro v1 H1 d1 g1 I1 rs1 R1 er1 e1 r1 ok1 e2 w
      split at ok1
      · rename_i q
        exact ⟨true, tru_ok S.F.hK q R1 r1, by simpa using w ok1⟩
      · rename_i q
        exact ⟨false, tru_ok S.F.hK q R1 r1, by simpa using ok1.now R1 r1⟩
      · exact ok1.elim
    cases rest with
    | nil => exact Bool.noConfusion h2
    | cons b' r =>
      cases r with
      | nil =>
        refine we_of (pe_andT we (pe_one we)) (ha.go S h1 R er ok fun v1 H1 d1 g1 I1 rs1 R1 er1 e1 r1 ok1 => key v1 H1 d1 g1 I1 rs1 R1 er1 e1 r1 ok1 fun ok2 => hb S h2 R1 er1 ok2)
      | cons c' r =>
        refine we_of (pe_andT we we) (ha.go S h1 R er ok fun v1 H1 d1 g1 I1 rs1 R1 er1 e1 r1 ok1 => key v1 H1 d1 g1 I1 rs1 R1 er1 e1 r1 ok1 fun ok2 => hb S h2 R1 er1 ok2)
theorem sv_or {a b : E} (ha : SVp N P B T cf k ns a) (hb : SVp N P B T cf k ns b) : SVp N P B T cf k ns (.or_ a b) := by
  intro s0 sc W X S e h env g σ L I rs H Q R er ok
  have ok : OkV N L I rs H W Q (((evM T cf a).v env g).bind fun x g1 => match tru g1 x with | some true => .ok x g1 | some false => (evM T cf b).v env g1 | none => .stk) := ok
  cases e <;> simp only [chM, Ck.of] at h <;> first | exact Bool.noConfusion h | skip
  rename_i op es p
  cases op <;> first | exact Bool.noConfusion h | skip
  cases es with
  | nil => exact Bool.noConfusion h
  | cons a' rest =>
    simp only [Bool.and_eq_true] at h
    obtain ⟨h1, h2⟩ := h
    have key : ∀ v1 H1 d1 g1 I1 rs1, Rel N L I1 rs1 g1 H1 → ER N I1 rs1 env σ → Ext I rs H I1 rs1 H1 → VR N I1 rs1 d1 v1 → OkV N L I1 rs1 H1 W Q (match tru g1 d1 with | some true => .ok d1 g1 | some false => (evM T cf b).v env g1 | none => .stk) →
        ∀ {e2 : Expr}, (OkV N L I1 rs1 H1 W Q ((evM T cf b).v env g1) → WE X e2 σ H1 Q) → ∃ k, TruV X.K v1 H1 k ∧ if k = true then Q v1 H1 else WE X e2 σ H1 Q := by
      intro v1 H1 d1 g1 I1 rs1 R1 er1 e1 r1 ok1 e2 w
      split at ok1
      · rename_i q
        exact ⟨true, tru_ok S.F.hK q R1 r1, by simpa using ok1.now R1 r1⟩
      · rename_i q
        exact ⟨false, tru_ok S.F.hK q R1 r1, by simpa using w ok1⟩
      · exact ok1.elim
    cases rest with
    | nil => exact Bool.noConfusion h2
    | cons b' r =>
      cases r with
      | nil =>
        refine we_of (pe_orT we (pe_one we)) (ha.go S h1 R er ok fun v1 H1 d1 g1 I1 rs1 R1 er1 e1 r1 ok1 => key v1 H1 d1 g1 I1 rs1 R1 er1 e1 r1 ok1 fun ok2 => hb S h2 R1 er1 ok2)
      | cons c' r =>
        refine we_of (pe_orT we we) (ha.go S h1 R er ok fun v1 H1 d1 g1 I1 rs1 R1 er1 e1 r1 ok1 => key v1 H1 d1 g1 I1 rs1 R1 er1 e1 r1 ok1 fun ok2 => hb S h2 R1 er1 ok2)
theorem cmp_bl (S : XS N P B T cf k ns s0 sc W X) {o : Cop} {b : Bool} (h : cmpD g o x y = some b) (R : Rel N L I rs g H) (hu : VR N I rs x u) (hv : VR N I rs y v) (q : Q (.bl b) H) : RW X (compareOp (copA o)) u v H Q := cmp_ok S.F.hK S.F.hw S.F.hU h R hu hv q
theorem sv_cmp {o : Cop} {a b : E} (ha : SVp N P B T cf k ns a) (hb : SVp N P B T cf k ns b) : SVp N P B T cf k ns (.cmp o a b) ∧ STp N P B T cf k ns (.cmp o a b) := by
  constructor
  · intro s0 sc W X S e h env g σ L I rs H Q R er ok
    have ok : OkV N L I rs H W Q (((evM T cf a).v env g).bind fun x g1 => ((evM T cf b).v env g1).bind fun y g2 => opt ((cmpD g2 o x y).map .bl) g2) := ok
    simp only [chM, Ck.cmp] at h
    split at h
    · simp only [Bool.and_eq_true, beq_iff_eq, Bool.not_eq_true'] at h
      obtain ⟨rfl, h0, h1, h2⟩ := h
      refine we_of (pe_cmpR rw_op we we h0) (ha.go S h1 R er ok fun v1 H1 d1 g1 I1 rs1 R1 er1 e1 r1 ok1 => hb.go S h2 R1 er1 ok1 fun v2 H2 d2 g2 I2 rs2 R2 er2 e2 r2 ok2 => ?_)
      obtain ⟨z, hz, ok3⟩ := ok2.opt'
      simp only [Option.map_eq_some_iff] at hz
      obtain ⟨c, hc, rfl⟩ := hz
      exact cmp_bl S hc R2 (e2.vr r1) r2 (ok3.now R2 (.bl _))
    · exact Bool.noConfusion h
  · intro s0 sc W X S e h env g σ L I rs H Q R er ok
    have ok : OkB N L I rs H W Q ((((evM T cf a).v env g).bind fun x g1 => ((evM T cf b).v env g1).bind fun y g2 => opt ((cmpD g2 o x y).map .bl) g2).bind fun x g1 => opt (tru g1 x) g1) := ok
    simp only [PC.R.bind_assoc] at ok
    simp only [chM, Ck.cmp] at h
    split at h
    · simp only [Bool.and_eq_true, beq_iff_eq, Bool.not_eq_true'] at h
      obtain ⟨rfl, h0, h1, h2⟩ := h
      refine wt_of (pt_cmpR rw_op we we h0) (ha.go S h1 R er ok fun v1 H1 d1 g1 I1 rs1 R1 er1 e1 r1 ok1 => hb.go S h2 R1 er1 ok1 fun v2 H2 d2 g2 I2 rs2 R2 er2 e2 r2 ok2 => ?_)
      cases hc : cmpD g2 o d1 d2 with
      | none => rw [hc] at ok2; exact ok2.elim
      | some c =>
        rw [hc] at ok2
        exact cmp_bl S hc R2 (e2.vr r1) r2 ⟨c, rfl, ok2.bl R2⟩
    · exact Bool.noConfusion h
theorem sv_chain {o p : Cop} {a b c : E} (ha : SVp N P B T cf k ns a) (hb : SVp N P B T cf k ns b) (hc : SVp N P B T cf k ns c) : SVp N P B T cf k ns (.chain o p a b c) ∧ STp N P B T cf k ns (.chain o p a b c) := by
  constructor
  · intro s0 sc W X S e h env g σ L I rs H Q R er ok
    have ok : OkV N L I rs H W Q (((evM T cf a).v env g).bind fun x g1 => ((evM T cf b).v env g1).bind fun y g2 => match cmpD g2 o x y with
      | some true => ((evM T cf c).v env g2).bind fun z g3 => opt ((cmpD g3 p y z).map .bl) g3
      | some false => .ok (.bl false) g2
      | none => .stk) := ok
    simp only [chM, Ck.cmp] at h
    split at h
    · simp only [Bool.and_eq_true, beq_iff_eq, Bool.not_eq_true'] at h
      obtain ⟨⟨rfl, rfl⟩, h0, h1, h2, h3⟩ := h
      refine we_of (pe_chain rw_op rw_op we we we h0) (ha.go S h1 R er ok fun v1 H1 d1 g1 I1 rs1 R1 er1 e1 r1 ok1 => hb.go S h2 R1 er1 ok1 fun v2 H2 d2 g2 I2 rs2 R2 er2 e2 r2 ok2 => ?_)
      split at ok2
      · rename_i q
        refine cmp_bl S q R2 (e2.vr r1) r2 ⟨true, rfl, ?_⟩
        rw [if_pos rfl]
        refine hc.go S h3 R2 er2 ok2 fun v3 H3 d3 g3 I3 rs3 R3 er3 e3 r3 ok3 => ?_
        obtain ⟨z, hz, ok4⟩ := ok3.opt'
        simp only [Option.map_eq_some_iff] at hz
        obtain ⟨c, hc, rfl⟩ := hz
        exact cmp_bl S hc R3 (e3.vr r2) r3 (ok4.now R3 (.bl _))
      · rename_i q
        refine cmp_bl S q R2 (e2.vr r1) r2 ⟨false, rfl, ?_⟩
        rw [if_neg Bool.false_ne_true]
        exact ok2.now R2 (.bl _)
      · exact ok2.elim
    · exact Bool.noConfusion h
  · intro s0 sc W X S e h env g σ L I rs H Q R er ok
    have ok : OkB N L I rs H W Q ((((evM T cf a).v env g).bind fun x g1 => ((evM T cf b).v env g1).bind fun y g2 => match cmpD g2 o x y with
      | some true => ((evM T cf c).v env g2).bind fun z g3 => opt ((cmpD g3 p y z).map .bl) g3
      | some false => .ok (.bl false) g2
      | none => .stk).bind fun x g1 => opt (tru g1 x) g1) := ok
    simp only [PC.R.bind_assoc] at ok
    simp only [chM, Ck.cmp] at h
    split at h
    · simp only [Bool.and_eq_true, beq_iff_eq, Bool.not_eq_true'] at h
      obtain ⟨⟨rfl, rfl⟩, h0, h1, h2, h3⟩ := h
      refine wt_of (pt_chain rw_op rw_op we we we h0) (ha.go S h1 R er ok fun v1 H1 d1 g1 I1 rs1 R1 er1 e1 r1 ok1 => hb.go S h2 R1 er1 ok1 fun v2 H2 d2 g2 I2 rs2 R2 er2 e2 r2 ok2 => ?_)
      cases q : cmpD g2 o d1 d2 with
      | none => rw [q] at ok2; exact ok2.elim
      | some bb =>
        rw [q] at ok2
        cases bb with
        | true =>
          simp only [PC.R.bind_assoc] at ok2
          refine cmp_bl S q R2 (e2.vr r1) r2 ⟨true, rfl, ?_⟩
          rw [if_pos rfl]
          refine hc.go S h3 R2 er2 ok2 fun v3 H3 d3 g3 I3 rs3 R3 er3 e3 r3 ok3 => ?_
          cases hd : cmpD g3 p d2 d3 with
          | none => rw [hd] at ok3; exact ok3.elim
          | some c =>
            rw [hd] at ok3
            exact cmp_bl S hd R3 (e3.vr r2) r3 ⟨c, rfl, ok3.bl R3⟩
        | false =>
          refine cmp_bl S q R2 (e2.vr r1) r2 ⟨false, rfl, ?_⟩
          rw [if_neg Bool.false_ne_true]
          exact ⟨false, rfl, ok2.bl R2⟩
    · exact Bool.noConfusion h
theorem sv_ite {a b c : E} (hc : STp N P B T cf k ns c) (ha : SVp N P B T cf k ns a) (hb : SVp N P B T cf k ns b) : SVp N P B T cf k ns (.ite c a b) := by
  intro s0 sc W X S e h env g σ L I rs H Q R er ok
  have ok : OkV N L I rs H W Q (((evM T cf c).t env g).bind fun t g1 => match t with | true => (evM T cf a).v env g1 | false => (evM T cf b).v env g1) := ok
  cases e <;> simp only [chM, Ck.of] at h <;> first | exact Bool.noConfusion h | skip
  simp only [Bool.and_eq_true] at h
  obtain ⟨h1, h2, h3⟩ := h
  refine we_of (pe_ifExp wt we we) (hc.go S h1 R er ok fun t H1 g1 I1 rs1 R1 er1 e1 ok1 => ?_)
  cases t with
  | true => exact ha S h2 R1 er1 ok1
  | false => exact hb S h3 R1 er1 ok1
end
end PC
end
section
set_option maxHeartbeats 4000000
namespace PC
open PySem L2 PyProof.Rows
section
variable {N : Nm} {P : Program} {B : Heap} {T : Tab} {cf : CF} {k : Nat} {ns : List Str}
variable {s0 sc : Scope} {W : XK} {X : Cx} {L L1 I I1 I2 : Hp} {rs rs1 rs2 : List Addr} {g g1 : G} {H H1 H2 : Hp} {Q : VK} {x y z : D} {u v : V} {env : Env} {σ : L2.St}
/-! ### calls -/
theorem chs_nil {z : Nz} {as : List E} (h : chs z ns as s0 sc [] = true) : as = [] := by
  cases as with
  | nil => rfl
  | cons a r => simp [chs] at h
/-- f(..), by values -/
theorem pe_callX0 {x : Str} {f : Addr} {p pos : Pos} (hg : Gl X x) (hd : (x == ("__debug__" : Str)) = false) (hm : X.mg x = some (.ref f)) (hk : PySem.W.keepIn X.K (.ref f) = true) :
    PE X (.Call (.Name x p) [] [] pos) (fun σ H Q => RC X (.ref f) [] H Q) :=
  ⟨fun pins s σ H Q I h => wpAny_Call_Name_kw (ld_glob I hg hm (PySem.W.callWith_K0 I.kIn hk (h pins s σ [] I .nil)) hd)⟩
theorem pe_callX {x : Str} {f : Addr} {p pos : Pos} {e : Expr} {es : List Expr} (hg : Gl X x) (hd : (x == ("__debug__" : Str)) = false) (hm : X.mg x = some (.ref f)) (hk : PySem.W.keepIn X.K (.ref f) = true) (hn : noSt (e :: es) = true) :
    PE X (.Call (.Name x p) (e :: es) [] pos) (tCB (RC X (.ref f)) (WA X (e :: es))) := by
  refine ⟨fun pins s σ H Q I h => ?_⟩
  refine wpAny_Call_Name_kw (ld_glob I hg hm ?_ hd)
  simp only [noSt, List.all_cons, Bool.and_eq_true] at hn
  exact PySem.W.callWith_K (h₀ := X.base) I.ok.mod.kin hk (thn (h pos pins s I) fun us s1 ⟨vs, H1, I1, r, q⟩ => ⟨I1.kIn, q pins s1 σ us I1 r⟩) (star_eq hn.1) (star_any hn.2)
/-- some arguments are starred, and there are two at least -/
theorem two_args {M : Model} {A : Around} {E : Value → Shared → Prop} {s : Shared} {fv : Value} {a b : Bool × Sem Value} {r : List (Bool × Sem Value)} {Q : Args → Shared → Prop}
    (hyp : wpAny M A (spliced (a :: b :: r)) (fun us s1 => Q ⟨us, []⟩ s1) E s) : wpAny M A (evalArgs fv true (a :: b :: r) []) Q E s := by
  obtain ⟨ab, ax⟩ := a
  cases ab <;>
  · unfold evalArgs
    show wpAny M A (spliced (_ :: b :: r) >>= _) Q E s
    refine wpAny_bind (wpAny_mono hyp (fun us s1 hq => wpAny_holding ?_) fun _ _ z => z)
    exact wpAny_bind (wpAny_pure (wpAny_bind (wpAny_pure (wpAny_pure hq))))
theorem st_form (e : Expr) (es : List Expr) (en : PySem.Env) : ∃ p, starEach (e :: es) en = p :: starEach es en := by
  by_cases h : nstB e = true
  · exact ⟨_, star_eq h⟩
  · cases e <;> first | exact absurd rfl h | exact ⟨_, rfl⟩
theorem st_some {en : PySem.Env} {pos : Pos} : ∀ {es : List Expr}, noSt es = false → (backTo pos (starEach es en)).any (·.1) = true
  | [], h => by cases h
  | e :: es, h => by
    by_cases hn : nstB e = true
    · rw [star_eq hn]
      have h2 : noSt es = false := by
        cases q : noSt es with
        | false => rfl
        | true =>
          have : noSt (e :: es) = true := by unfold noSt at q ⊢; rw [List.all_cons, hn, q]; rfl
          rw [this] at h; cases h
      have := st_some (en := en) (pos := pos) h2
      simp only [backTo, List.map_cons, List.any_cons, Bool.or_eq_true] at this ⊢
      exact .inr this
    · cases e <;> first | exact absurd rfl hn | rfl
theorem pe_callXS {x : Str} {f : Addr} {p pos : Pos} {e1 e2 : Expr} {es : List Expr} (hg : Gl X x) (hd : (x == ("__debug__" : Str)) = false) (hm : X.mg x = some (.ref f)) (hk : PySem.W.keepIn X.K (.ref f) = true) (hn : noSt (e1 :: e2 :: es) = false) :
    PE X (.Call (.Name x p) (e1 :: e2 :: es) [] pos) (tCB (RC X (.ref f)) (WA X (e1 :: e2 :: es))) := by
  refine ⟨fun pins s σ H Q I h => wpAny_Call_Name_kw (ld_glob I hg hm ?_ hd)⟩
  refine PySem.W.ks_call (st_some hn) (PySem.W.keeps_K hk) ?_
  have w := thn (h pos pins s I) fun us s1 ⟨vs, H1, I1, r, q⟩ => (⟨I1.kIn, q pins s1 σ us I1 r⟩ : X.K.In s1.heap ∧ wpAny (model X.prog X.w) X.A (PySem.call (.ref f) ([] ++ us)) (EP X pins σ Q) X.xe s1)
  obtain ⟨p1, h1⟩ := st_form e1 (e2 :: es) X.env
  obtain ⟨p2, h2⟩ := st_form e2 es X.env
  rw [h1, h2] at w ⊢
  exact two_args w
theorem sv_call {f : Nat} {as : List E} (ha : SAp N P B T cf k ns as) : SVp N P B T cf k ns (.call f as) := by
  intro s0 sc W X S e h env g σ L I rs H Q R er ok
  have ok : OkV N L I rs H W Q ((evs T cf as env g).bind fun vs g1 => cf f vs g1) := ok
  simp only [chM, Ck.of] at h
  split at h
  · rename_i x p es q
    simp only [Bool.and_eq_true, beq_iff_eq] at h
    obtain ⟨⟨h1, rfl, h2⟩, h3, h4⟩ := h
    obtain ⟨b1, b2⟩ := gl_of (X := X) h2 S.sc
    obtain ⟨c1, c2⟩ := S.fa.fn f h1
    rw [← S.mg] at c1
    rw [← S.F.hK] at c2
    cases es with
    | nil =>
      have := chs_nil h4
      subst this
      exact we_of (pe_callX0 b1 b2 c1 c2) (S.rc R .nil ok)
    | cons e es =>
      by_cases hn : noSt (e :: es) = true
      · exact we_of (pe_callX b1 b2 c1 c2 hn) (ha.go S h4 R er ok fun vs H1 ds g1 I1 rs1 R1 er1 e1 r1 ok1 => S.rc R1 r1 ok1)
      · have hn : noSt (e :: es) = false := by simpa using hn
        rw [hn, Bool.false_or, decide_eq_true_iff] at h3
        cases es with
        | nil => exact absurd h3 (by simp)
        | cons e2 es => exact we_of (pe_callXS b1 b2 c1 c2 hn) (ha.go S h4 R er ok fun vs H1 ds g1 I1 rs1 R1 er1 e1 r1 ok1 => S.rc R1 r1 ok1)
  · exact Bool.noConfusion h
/-! ### keywords -/
theorem kw_of {pos : Pos} {env : PySem.Env} : ∀ {kws : List Keyword} {xs : List Str}, kws.map (·.arg) = xs.map some → (backToKw pos (keywordEach kws env)).all (·.1.isSome) = true ∧ (backToKw pos (keywordEach kws env)).filterMap (·.1) = xs ∧ (backToKw pos (keywordEach kws env)).any (·.1.isNone) = false ∧ xs.length = kws.length
  | [], xs, h => by
    cases xs with
    | nil => exact ⟨rfl, rfl, rfl, rfl⟩
    | cons _ _ => simp at h
  | ⟨y, e, p⟩ :: r, xs, h => by
    cases xs with
    | nil => simp at h
    | cons n xs =>
      simp only [List.map_cons, List.cons.injEq] at h
      obtain ⟨rfl, h⟩ := h
      obtain ⟨a, b, c, d⟩ := kw_of h
      simp only [keywordEach, backToKw, List.map_cons, List.all_cons, List.filterMap_cons, List.any_cons, Option.isSome_some, Option.isNone_some, Bool.true_and, Bool.false_or, List.length_cons] at a b c d ⊢
      exact ⟨a, by rw [b], c, by rw [d]⟩
theorem sv_callK {f : Nat} {as ks : List E} (ha : SAp N P B T cf k ns as) (hk : SAp N P B T cf k ns ks) : SVp N P B T cf k ns (.callK f as ks) := by
  intro s0 sc W X S e h env g σ L I rs H Q R er ok
  have ok : OkV N L I rs H W Q ((evs T cf as env g).bind fun vs g1 => (evs T cf ks env g1).bind fun ws g2 => cf f (vs ++ ws) g2) := ok
  simp only [chM, Ck.of] at h
  split at h
  · rename_i x p es kws q
    simp only [Bool.and_eq_true, beq_iff_eq] at h
    obtain ⟨⟨h1, ⟨rfl, h8⟩, h2⟩, ⟨h3, h4⟩, h5, h6, h7⟩ := h
    have h8 : (es.length + kws.length, es.length) ∈ N.cs f := by simpa using h8
    obtain ⟨b1, b2⟩ := gl_of (X := X) h2 S.sc
    obtain ⟨c1, c2⟩ := S.fa.fn f h1
    rw [← S.mg] at c1
    rw [← S.F.hK] at c2
    obtain ⟨k1, k2, k3, k4⟩ := kw_of (pos := q) (env := X.env) (of_decide_eq_true (show decide (kws.map (·.arg) = _) = true from h5))
    have fin : ∀ (us ws : List Value), us.length = es.length → ws.length = kws.length → ∀ {u1 : List Value}, u1 = us ++ ws → u1.take us.length = us ∧ ((N.pn f).drop us.length).zip (u1.drop us.length) = ((backToKw q (keywordEach kws X.env)).filterMap (·.1)).zip ws := by
      intro us ws e1 e2 u1 e3
      subst e3
      refine ⟨by simp, ?_⟩
      rw [k2, e1, List.drop_append_of_le_length (by omega), ← e1, List.drop_length, List.nil_append]
      have h9 : ∀ (a : List Str) (b : List Value), (a.take b.length).zip b = a.zip b := by
        intro a
        induction a with
        | nil => intro b; simp
        | cons c a ih =>
          intro b
          cases b with
          | nil => simp
          | cons d b => simp [ih]
      rw [← e2, h9]
    have run : ∀ (vs : List V) (H1 : Hp) (ds : List D) (g1 : G) (I1 : Hp) (rs1 : List Addr), Rel N L I1 rs1 g1 H1 → ER N I1 rs1 env σ → VRs N I1 rs1 ds vs → ds.length = es.length → OkV N L I1 rs1 H1 W Q ((evs T cf ks env g1).bind fun ws g2 => cf f (ds ++ ws) g2) →
        ∀ (pins : List (Addr × Obj)) (s : Shared) (us : List Value), Inv X pins σ H1 s → Vals vs us →
        wpAny (model X.prog X.w) X.A (evalAll ((backToKw q (keywordEach kws X.env)).map (·.2))) (fun ws s2 => X.K.In s2.heap ∧ wpAny (model X.prog X.w) X.A (PySem.call (.ref (N.fa f)) ([] ++ us) (((backToKw q (keywordEach kws X.env)).filterMap (·.1)).zip ws)) (EP X pins σ Q) X.xe s2) X.xe s := by
      intro vs H1 ds g1 I1 rs1 R1 er1 r1 el ok1 pins s us J rv
      have w := wk_mono ((hk S).2 h7 h6 R1 er1 ok1.first') fun zs H2 ⟨ws, g2, I2, rs2, e0, e2, R2, r2, ok2⟩ => (show ∃ ws g2 I2 rs2, evs T cf ks env g1 = PC.R.ok ws g2 ∧ Ext I1 rs1 H1 I2 rs2 H2 ∧ Rel N L I2 rs2 g2 H2 ∧ VRs N I2 rs2 ws zs ∧ OkV N L I2 rs2 H2 W Q (cf f (ds ++ ws) g2) from ⟨ws, g2, I2, rs2, e0, e2, R2, r2, ok2⟩)
      refine thn (w q pins s J) fun us2 s2 ⟨zs, H2, J2, rz, ws, g2, I2, rs2, e0, e2, R2, r2, ok2⟩ => ⟨J2.kIn, ?_⟩
      have l1 := evs_len h7 h6 e0
      obtain ⟨f1, f2⟩ := fin us us2 (by rw [← rv.length, ← r1.length, el]) (by rw [← rz.length, ← r2.length, l1, List.length_map]) rfl
      have c := S.cp R2 ((e2.vrs r1).append r2) ok2 us.length (.inr (.inl (by
        have q1 : us.length = es.length := by rw [← rv.length, ← r1.length, el]
        have q2 : (vs ++ zs).length = es.length + kws.length := by rw [List.length_append, ← r1.length, el, ← r2.length, l1, List.length_map]
        rw [q1, q2]; exact ⟨by omega, h8⟩))) pins s2 σ (us ++ us2) J2 (rv.append rz)
      rw [argJ_le (by simp)] at c
      dsimp only at c
      rw [f1, f2] at c
      exact c
    cases es with
    | nil =>
      have := chs_nil h4
      subst this
      refine fun pins s J => wpAny_Call_Name_kw (ld_glob J b1 c1 ?_ b2)
      refine PySem.W.callWith_KW0 (h₀ := X.base) J.ok.mod.kin c2 k1 (run [] H [] g I rs R er .nil rfl ok pins s [] J .nil) ?_
      show (false || (backToKw q (keywordEach kws X.env)).any (·.1.isNone)) = false
      rw [k3]; rfl
    | cons e es =>
      have hn := h3
      simp only [noSt, List.all_cons, Bool.and_eq_true] at h3
      have w := wa_mono ((ha S).1 h4 R er ok.first') fun vs H1 ⟨ds, g1, I1, rs1, e0, e1, R1, r1, ok1⟩ => (show ∃ ds g1 I1 rs1, evs T cf as env g = PC.R.ok ds g1 ∧ Ext I rs H I1 rs1 H1 ∧ Rel N L I1 rs1 g1 H1 ∧ VRs N I1 rs1 ds vs ∧ OkV N L I1 rs1 H1 W Q ((evs T cf ks env g1).bind fun ws g2 => cf f (ds ++ ws) g2) from ⟨ds, g1, I1, rs1, e0, e1, R1, r1, ok1⟩)
      refine fun pins s J => wpAny_Call_Name_kw (ld_glob J b1 c1 ?_ b2)
      refine PySem.W.callWith_KW (h₀ := X.base) J.ok.mod.kin c2 k1 (thn (w q pins s J) fun us s1 ⟨vs, H1, J1, rv, ds, g1, I1, rs1, e0, e1, R1, r1, ok1⟩ => run vs H1 ds g1 I1 rs1 R1 (er.after e1) r1 (evs_len h4 hn e0) ok1 pins s1 us J1 rv) ?_ (star_eq h3.1)
      rw [star_any hn, k3]; rfl
  · exact Bool.noConfusion h
/-! ### built-in functions -/
theorem sv_bi {b : Bi} {as : List E} (ha : SAp N P B T cf k ns as) : SVp N P B T cf k ns (.bi b as) := by
  intro s0 sc W X S e h env g σ L I rs H Q R er ok
  have ok : OkV N L I rs H W Q ((evs T cf as env g).bind fun vs g1 => biD g1 b vs) := ok
  simp only [chM, Ck.of] at h
  split at h
  · rename_i x p a es q
    simp only [Bool.and_eq_true, beq_iff_eq] at h
    obtain ⟨⟨rfl, h2⟩, h3, h4⟩ := h
    obtain ⟨b1, b2, b3, b4⟩ := bl_of S h2
    simp only [noSt, List.all_cons, Bool.and_eq_true] at h3
    have key : WA X (a :: es) σ H (fun vs H1 => RC X (biV b) vs H1 Q) := ha.go S h4 R er ok fun vs H1 ds g1 I1 rs1 R1 er1 e1 r1 ok1 => bi_ok S.xf.sys S.F R1 r1 ok1
    cases b <;> first
      | exact we_of (pe_callB rc_op b1 b2 (by decide +kernel) wa b3 b4 (star_eq h3.1) (star_any h3.2)) key
      | exact we_of (pe_callTy rc_op b1 b2 (by decide +kernel) wa b3 b4 (star_eq h3.1) (star_any h3.2)) key
  · exact Bool.noConfusion h
theorem boot_ty (t : Ty) (h : ∀ c, t ≠ .cls c) : bootBuiltins (Str.ofString (tyN t)) = some (.type (tyN t)) := by
  cases t <;> first | exact absurd rfl (h _) | decide +kernel
/-! ### methods of built-in types -/
theorem few_of {es : List Expr} {pos : Pos} (h : noSt es = true) (hl : es.length < 29) : ((backTo pos (starEach es X.env)).all (fun x => !x.1) && (backToKw pos (keywordEach [] X.env)).all (fun x => x.1.isSome)
      && decide (es.length + ([] : List Keyword).length + (if ([] : List Keyword).isEmpty then 0 else 1) < 30)) = true := by
  rw [star_all h]
  simp [keywordEach, backToKw]
  omega
theorem bm_facts (m : Bm) (h : bmHas m = true) : PlainAttrs (bmTy m) ∧ Slot (bmTy m) (Str.ofString (bmN m)) (bmId m) ∧ typeOf (.builtin (bmId m)) = pure (.type "method_descriptor") := by
  cases m <;> first
    | exact ⟨PySem.F.plainAttrs_list, PySem.F.slot_list_append, PySem.F.type_list_append⟩
    | exact ⟨PySem.F.plainAttrs_list, PySem.F.slot_list_extend, PySem.F.type_list_extend⟩
    | exact ⟨PySem.F.plainAttrs_list, PySem.F.slot_list_pop, PySem.F.type_list_pop⟩
    | exact ⟨PySem.F.plainAttrs_list, PySem.F.slot_list_insert, PySem.F.type_list_insert⟩
    | exact ⟨PySem.F.plainAttrs_list, PySem.F.slot_list_count, PySem.F.type_list_count⟩
    | exact ⟨PySem.F.plainAttrs_str, PySem.F.slot_str_join, PySem.F.type_str_join⟩
    | exact ⟨PySem.F.plainAttrs_str, PySem.F.slot_str_startswith, PySem.F.type_str_startswith⟩
    | exact ⟨PySem.F.plainAttrs_str, PySem.F.slot_str_endswith, PySem.F.type_str_endswith⟩
    | exact ⟨PySem.F.plainAttrs_str, PySem.F.slot_str_split, PySem.F.type_str_split⟩
    | exact ⟨PySem.F.plainAttrs_str, PySem.F.slot_str_strip, PySem.F.type_str_strip⟩
    | exact ⟨PySem.F.plainAttrs_str, PySem.F.slot_str_lstrip, PySem.F.type_str_lstrip⟩
    | exact ⟨PySem.F.plainAttrs_str, PySem.F.slot_str_upper, PySem.F.type_str_upper⟩
    | exact ⟨PySem.F.plainAttrs_str, PySem.F.slot_str_find, PySem.F.type_str_find⟩
    | exact ⟨PySem.F.plainAttrs_str, PySem.F.slot_str_rfind, PySem.F.type_str_rfind⟩
    | exact ⟨PySem.F.plainAttrs_str, PySem.F.slot_str_count, PySem.F.type_str_count⟩
    | exact ⟨PySem.F.plainAttrs_str, PySem.F.slot_str_index, PySem.F.type_str_index⟩
    | exact ⟨PySem.F.plainAttrs_str, PySem.F.slot_str_replace, PySem.F.type_str_replace⟩
    | exact ⟨PySem.F.plainAttrs_str, PySem.F.slot_str_partition, PySem.F.type_str_partition⟩
    | exact Bool.noConfusion h
theorem sv_bm {m : Bm} {o : E} {as : List E} (ho : SVp N P B T cf k ns o) (ha : SAp N P B T cf k ns as) : SVp N P B T cf k ns (.bm m o as) := by
  intro s0 sc W X S e h env g σ L I rs H Q R er ok
  have ok : OkV N L I rs H W Q (((evM T cf o).v env g).bind fun x g1 => match bmT g1 m x with
    | true => (evs T cf as env g1).bind fun vs g2 => bmD g2 m x vs
    | false => .stk) := ok
  simp only [chM, Ck.of] at h
  split at h
  · rename_i o' x ap es p
    simp only [Bool.and_eq_true, beq_iff_eq, decide_eq_true_eq] at h
    obtain ⟨⟨h0, rfl, h1, h2⟩, ⟨h3, h4⟩, h5, h6⟩ := h
    obtain ⟨f1, f2, f3⟩ := bm_facts m h0
    cases es with
    | nil =>
      have := chs_nil h6
      subst this
      refine we_of (pe_bm0 f1 f2 f3 rm_op we (ab_eq h1) (by rw [h2]; exact beq_self_eq_true _)) (ho.go S h5 R er ok fun v1 H1 d1 g1 I1 rs1 R1 er1 e1 r1 ok1 => ?_)
      cases ht : bmT g1 m d1 with
      | false => rw [ht] at ok1; exact ok1.elim
      | true =>
        rw [ht] at ok1
        exact ⟨bmT_ok S.F ht R1 r1, bm_ok S.F R1 r1 .nil ok1⟩
    | cons e es =>
      have hn := h3
      simp only [noSt, List.all_cons, Bool.and_eq_true] at h3
      refine we_of (pe_bm f1 f2 f3 rm_op we wa (ab_eq h1) (few_of hn h4) (by rw [h2]; exact beq_self_eq_true _) (star_eq h3.1) (star_any h3.2)) (ho.go S h5 R er ok fun v1 H1 d1 g1 I1 rs1 R1 er1 e1 r1 ok1 => ?_)
      cases ht : bmT g1 m d1 with
      | false => rw [ht] at ok1; exact ok1.elim
      | true =>
        rw [ht] at ok1
        exact ⟨bmT_ok S.F ht R1 r1, ha.go S h6 R1 er1 ok1 fun vs H2 ds g2 I2 rs2 R2 er2 e2 r2 ok2 => bm_ok S.F R2 (e2.vr r1) r2 ok2⟩
  · exact Bool.noConfusion h
/-! ### items, slices -/
theorem sv_sub {o i : E} (ho : SVp N P B T cf k ns o) (hi : SVp N P B T cf k ns i) : SVp N P B T cf k ns (.sub o i) := by
  intro s0 sc W X S e h env g σ L I rs H Q R er ok
  have ok : OkV N L I rs H W Q (((evM T cf o).v env g).bind fun x g1 => ((evM T cf i).v env g1).bind fun y g2 => opt (subD g2 x y) g2) := ok
  simp only [chM, Ck.of] at h
  split at h
  · simp only [Bool.and_eq_true] at h
    obtain ⟨h0, h1, h2⟩ := h
    refine we_of (pe_ix rix_op we we (ix_plain h0)) (ho.go S h1 R er ok fun v1 H1 d1 g1 I1 rs1 R1 er1 e1 r1 ok1 => hi.go S h2 R1 er1 ok1 fun v2 H2 d2 g2 I2 rs2 R2 er2 e2 r2 ok2 => ?_)
    obtain ⟨z, hz, ok3⟩ := ok2.opt'
    exact sub_ok S.F.hK S.F.hw S.F.hU hz R2 (e2.vr r1) r2 ok3.gd
  · exact Bool.noConfusion h
theorem wo : ∀ {e : Option Expr}, PO X e (WO X e) := ⟨fun pins s _ _ _ I h => h pins s I⟩
theorem wo_of {e : Option Expr} {t : TO} (h : PO X e t) {σ : L2.St} {H : Hp} {Q : Option Int → Hp → Prop} (q : t σ H Q) : WO X e σ H Q := fun pins s I => h.run pins s σ H Q I q
/-- a bound -/
theorem SVp.bnd {a : E} (h : SVp N P B T cf k ns a) (S : XS N P B T cf k ns s0 sc W X) {e : Option Expr} (hc : (chM N.toNz ns a).o s0 sc e = true) (R : Rel N L I rs g H) (er : ER N I rs env σ) {β δ : Type} {P2 : Hp → List Addr → β → δ → Prop} {Q2 : δ → Hp → Prop} {Q1 : Option Int → Hp → Prop} {kk : D → G → PC.R β}
    (ok : Ok N L P2 I rs H W Q2 (((evM T cf a).o env g).bind kk))
    (q : ∀ i H1 d g1 I1 rs1, bnd d = some i → Rel N L I1 rs1 g1 H1 → ER N I1 rs1 env σ → Ext I rs H I1 rs1 H1 → Ok N L P2 I1 rs1 H1 W Q2 (kk d g1) → Q1 i H1) : WO X e σ H Q1 := by
  have hn : (chM N.toNz ns a).nl = (evM T cf a).nl := by
    cases a <;> rfl
  unfold Ck.o at hc
  unfold Md.o at ok
  rw [← hn] at ok
  split at hc
  · rename_i e1
    rw [e1] at ok
    exact wo_of po_none (q none H .non g I rs rfl R er .refl ok)
  · rename_i e' e1
    rw [e1] at ok
    simp only [PC.R.bind_assoc] at ok
    refine wo_of (po_some we) (h.go S hc R er ok fun v1 H1 d1 g1 I1 rs1 R1 er1 e1 r1 ok1 => ?_)
    cases d1 with
    | int i =>
      cases r1
      exact ⟨i, rfl, q (some i) H1 (.int i) g1 I1 rs1 rfl R1 er1 e1 ok1⟩
    | _ => exact ok1.elim
  · exact Bool.noConfusion hc
theorem sv_slc {o lo hi : E} (ho : SVp N P B T cf k ns o) (hl : SVp N P B T cf k ns lo) (hh : SVp N P B T cf k ns hi) : SVp N P B T cf k ns (.slc o lo hi) := by
  intro s0 sc W X S e h env g σ L I rs H Q R er ok
  have ok : OkV N L I rs H W Q (((evM T cf o).v env g).bind fun x g1 => ((evM T cf lo).o env g1).bind fun y g2 => ((evM T cf hi).o env g2).bind fun z g3 => opt (slcD g3 x y z) g3) := ok
  simp only [chM, Ck.of] at h
  split at h
  · simp only [Bool.and_eq_true] at h
    obtain ⟨h0, h1, h2⟩ := h
    refine we_of (pe_slice rsl_op we wo wo) (ho.go S h0 R er ok fun v1 H1 d1 g1 I1 rs1 R1 er1 e1 r1 ok1 => hl.bnd S h1 R1 er1 ok1 fun i H2 d2 g2 I2 rs2 b2 R2 er2 e2 ok2 => hh.bnd S h2 R2 er2 ok2 fun j H3 d3 g3 I3 rs3 b3 R3 er3 e3 ok3 => ?_)
    obtain ⟨z, hz, ok4⟩ := ok3.opt'
    exact slc_ok S.F b2 b3 hz R3 (e3.vr (e2.vr r1)) ok4.gd
  · exact Bool.noConfusion h
theorem sv_rev {o : E} (ho : SVp N P B T cf k ns o) : SVp N P B T cf k ns (.rev o) := by
  intro s0 sc W X S e h env g σ L I rs H Q R er ok
  have ok : OkV N L I rs H W Q (((evM T cf o).v env g).bind fun x g1 => match top g1 x with | .lst l => .ok (.lst l.reverse) g1 | _ => .stk) := ok
  simp only [chM, Ck.of] at h
  split at h
  · simp only [Bool.and_eq_true, beq_iff_eq] at h
    obtain ⟨rfl, h1⟩ := h
    refine we_of (pe_revL we) (ho.go S h1 R er ok fun v1 H1 d1 g1 I1 rs1 R1 er1 e1 r1 ok1 => ?_)
    split at ok1
    · rename_i l q
      obtain ⟨a, vs, rfl, h2, h3⟩ := R1.lst r1 q
      exact ⟨a, vs, rfl, by rw [S.F.hK]; exact h2.sq, fun p hp => ok1.gd.lst R1 h3.reverse hp⟩
    · exact ok1.elim
  · exact Bool.noConfusion h
end
end PC
end
section
set_option maxHeartbeats 4000000
namespace PC
open PySem L2 PyProof.Rows
section
variable {N : Nm} {P : Program} {B : Heap} {T : Tab} {cf : CF} {k : Nat} {ns : List Str}
variable {s0 sc : Scope} {W : XK} {X : Cx} {L L1 I I1 I2 : Hp} {rs rs1 rs2 : List Addr} {g g1 : G} {H H1 H2 : Hp} {Q : VK} {x y z : D} {u v : V} {env : Env} {σ : L2.St}
theorem sv_tup {as : List E} (ha : SAp N P B T cf k ns as) : SVp N P B T cf k ns (.tup as) := by
  intro s0 sc W X S e h env g σ L I rs H Q R er ok
  have ok : OkV N L I rs H W Q ((evs T cf as env g).bind fun vs g1 => if decide (vs.length ≤ LIM) then .ok (.tup vs) g1 else .stk) := ok
  simp only [chM, Ck.of] at h
  split at h
  · refine we_of (pe_tup wa) (ha.go S h R er ok fun vs H1 ds g1 I1 rs1 R1 er1 e1 r1 ok1 => ?_)
    split at ok1
    · rename_i hl
      have hl : ds.length ≤ LIM := by simpa using hl
      exact ⟨by rw [← r1.length]; exact lim_line hl, fun p hp => ok1.gd.tup R1 r1 hp⟩
    · exact ok1.elim
  · exact Bool.noConfusion h
/-- a new list -/
theorem mk_ok {h : Bool} {l : List D} {vs : List V} (R : Rel N L I rs g H) (hv : VRs N I rs l vs) (ok : OkV N L I rs H W Q (mkL h l g)) : vs.length ≤ sizeLine ∧ ∀ p, H p = none → Q (.ref p) (upd H p (.lst vs)) := by
  unfold mkL at ok
  split at ok
  · rename_i hl
    have hl : l.length ≤ LIM := by simpa using hl
    refine ⟨by rw [← hv.length]; exact lim_line hl, fun p hp => ?_⟩
    cases h with
    | false => exact ok.gd.lst R hv hp
    | true =>
      have pre : rs <+: rs ++ [p] := List.prefix_append _ _
      obtain ⟨R1, E1⟩ := R.new (c := .lst l) hp ⟨R.lsub.free hp, R.sub.free hp, vs, upd_same, hv.mono (Same.refl _) pre, hl⟩
      exact ok _ _ _ _ E1 R1 (.ref (by rw [← R.len, List.getElem?_append_right (Nat.le_refl _)]; simp))
  · exact ok.elim
theorem sv_lst {h : Bool} {as : List E} (ha : SAp N P B T cf k ns as) : SVp N P B T cf k ns (.lst h as) := by
  intro s0 sc W X S e hh env g σ L I rs H Q R er ok
  have ok : OkV N L I rs H W Q ((evs T cf as env g).bind fun vs g1 => mkL h vs g1) := ok
  simp only [chM, Ck.of] at hh
  split at hh
  · exact we_of (pe_lst wa) (ha.go S hh R er ok fun vs H1 ds g1 I1 rs1 R1 er1 e1 r1 ok1 => mk_ok R1 r1 ok1)
  · exact Bool.noConfusion hh
theorem sv_frz {a : E} (ha : SVp N P B T cf k ns a) : SVp N P B T cf k ns (.frz a) := by
  intro s0 sc W X S e h env g σ L I rs H Q R er ok
  have ok : OkV N L I rs H W Q (((evM T cf a).v env g).bind fun x g1 => frzD x g1) := ok
  have h : (chM N.toNz ns a).v s0 sc e = true := h
  refine ha.go S h R er ok fun v1 H1 d1 g1 I1 rs1 R1 er1 e1 r1 ok1 => ?_
  unfold frzD at ok1
  split at ok1
  · rename_i i
    cases r1 with
    | @ref _ a hi =>
      split at ok1
      · rename_i l q
        obtain ⟨hL, hI, vs, h2, h3, hz⟩ := R1.cell _ _ _ hi q
        obtain ⟨R2, E2⟩ := R1.frz hi hI hL h2
        exact ok1 _ _ _ _ E2 R2 (.lst (.inl (.inl upd_same)) (E2.vrs h3))
      · rename_i ks ds q
        obtain ⟨hL, hI, kvs, h2, h3, h4, h5, hz⟩ := R1.cell _ _ _ hi q
        obtain ⟨R2, E2⟩ := R1.frz hi hI hL h2
        exact ok1 _ _ _ _ E2 R2 (.dct upd_same h3 h4 (E2.vrs h5))
      · exact ok1.elim
  · exact ok1.elim
/-! ### dict displays -/
theorem kc_of {o : Option Expr} {k0 : DK} (h : kcB k0 o = true) : ∃ kx, o = some kx ∧ PE X kx (tC (kV (key k0))) := by
  unfold kcB at h
  split at h
  · have := eq_of_beq h
    subst this
    exact ⟨_, rfl, pe_int⟩
  · rename_i x y _ _
    have := eq_of_beq h
    subst this
    refine ⟨_, rfl, ?_⟩
    show PE X _ (tC (.str (st y.cps.toList)))
    rw [st_of]
    exact pe_str
  · exact Bool.noConfusion h
theorem st_no {z : Nz} {a : E} {e : Expr} (h : (match (chM z ns a).st, e with
      | true, .Starred e' _ => (chM z ns a).v s0 sc e'
      | false, e => nstB e && (chM z ns a).v s0 sc e
      | _, _ => false) = true) (hn : nstB e = true) : (evM T cf a).st = false ∧ (chM z ns a).v s0 sc e = true := by
  have e1 : (chM z ns a).st = (evM T cf a).st := by cases a <;> rfl
  rw [← e1]
  cases q : (chM z ns a).st with
  | true =>
    rw [q] at h
    cases e <;> first | exact Bool.noConfusion h | exact Bool.noConfusion hn
  | false =>
    rw [q] at h
    refine ⟨rfl, ?_⟩
    have h : (nstB e && (chM z ns a).v s0 sc e) = true := by cases e <;> exact h
    rw [hn, Bool.true_and] at h
    exact h
/-- the pairs of a display -/
theorem pairs_ok (S : XS N P B T cf k ns s0 sc W X) {pos : Pos} : ∀ {ks : List DK} {as : List E} {ks' : List (Option Expr)} {es : List Expr}, (∀ a ∈ as, SVp N P B T cf k ns a) → dkB ks ks' = true → ks'.length = es.length → chs N.toNz ns as s0 sc es = true → noSt es = true →
    ∃ trs, PPs X pos ks' es trs ∧ ks'.all (·.isSome) = true ∧ ∀ {env : Env} {g : G} {σ : L2.St} {L I : Hp} {rs : List Addr} {H : Hp} {Q : List (V × V) → Hp → Prop}, Rel N L I rs g H → ER N I rs env σ →
      OkVs N L I rs H W (fun vs H1 => ∀ kvs : List (Key × V), kvs.map (·.1) = ks.map key → kvs.map (·.2) = vs → Q (kvs.map fun kv => (kV kv.1, kv.2)) H1) (evs T cf as env g) → tPairs trs σ H Q
  | [], as, [], es, ha, h1, h2, h3, h4 => by
    have : es = [] := by cases es with | nil => rfl | cons _ _ => simp at h2
    subst this
    have := chs_nil h3
    subst this
    exact ⟨[], pps_nil, rfl, fun R er ok => (show OkVs N _ _ _ _ W _ (.ok [] _) from ok) _ _ _ _ .refl R .nil [] rfl rfl⟩
  | [], as, _ :: _, es, ha, h1, h2, h3, h4 => by simp [dkB] at h1
  | k0 :: ks, as, [], es, ha, h1, h2, h3, h4 => by simp [dkB] at h1
  | k0 :: ks, as, o :: ks', [], ha, h1, h2, h3, h4 => by simp at h2
  | k0 :: ks, [], o :: ks', e :: es, ha, h1, h2, h3, h4 => by simp [chs] at h3
  | k0 :: ks, a :: as, o :: ks', e :: es, ha, h1, h2, h3, h4 => by
    simp only [noSt, List.all_cons, Bool.and_eq_true] at h4
    simp only [chs, Bool.and_eq_true] at h3
    simp only [dkB, Bool.and_eq_true] at h1
    obtain ⟨hs2, hv⟩ := st_no (T := T) (cf := cf) h3.1 h4.1
    obtain ⟨kx, rfl, pk⟩ := kc_of (X := X) h1.1
    obtain ⟨trs, p1, p2, p3⟩ := pairs_ok S (pos := pos) (fun b hb => ha b (List.mem_cons_of_mem _ hb)) h1.2 (by simpa using h2) h3.2 (by simpa [noSt] using h4.2)
    refine ⟨_, pps_cons pk we p1, by simpa using p2, fun {env g σ L I rs H Q} R er ok => ?_⟩
    have ok : OkVs N L I rs H W (fun vs H1 => ∀ kvs : List (Key × V), kvs.map (·.1) = (k0 :: ks).map key → kvs.map (·.2) = vs → Q (kvs.map fun kv => (kV kv.1, kv.2)) H1) (((evM T cf a).v env g).bind fun x g1 => match (evM T cf a).st with
      | true => (match seqD g1 x with
        | some xs => (evs T cf as env g1).bind fun ys g2 => .ok (xs ++ ys) g2
        | none => .stk)
      | false => (evs T cf as env g1).bind fun ys g2 => .ok (x :: ys) g2) := ok
    rw [hs2] at ok
    have hva : SVp N P B T cf k ns a := ha a List.mem_cons_self
    refine SVp.go hva S hv R er ok fun v1 H1 d1 g1 I1 rs1 R1 er1 e1 r1 ok1 => p3 R1 er1 ?_
    cases q : evs T cf as env g1 with
    | exc x g => rw [q] at ok1; exact ok1
    | stk => rw [q] at ok1; exact ok1
    | ok ds gd =>
      rw [q] at ok1
      exact fun I' rs' H' b E R' r' kvs q1 q2 => ok1 I' rs' H' (v1 :: b) E R' (.cons (E.vr r1) r') ((key k0, v1) :: kvs) (by simp [q1]) (by simp [q2])
theorem Ext.under {p : Addr} {o : HO} (E : Ext I rs (upd H p o) I1 rs1 H1) (hp : H p = none) : Ext I rs H I1 rs1 H1 := by
  have back : ∀ a, upd H p o a = none → H a = none := fun a z => by
    by_cases q : a = p
    · subst q; exact hp
    · rw [upd_ne q] at z; exact z
  refine ⟨E.i, E.r, fun a u h n => E.fr a u (by rw [upd_ne (ne_of_none h hp)]; exact h) n, fun a h => (E.new a h).imp id (back a), fun a u h => ?_⟩
  rcases E.inew a u h with z | z | z
  · exact .inl z
  · exact .inr (.inl (back a z))
  · exact .inr (.inr z)
theorem merge_nd : ∀ (kvs acc : List (Key × V)), ((acc ++ kvs).map (·.1)).Nodup → mergeK acc kvs = acc ++ kvs
  | [], acc, _ => by simp [mergeK]
  | p :: r, acc, h => by
    have hn : ¬ (acc.any fun kv => decide (kv.1 = p.1)) = true := by
      intro z
      rw [List.any_eq_true] at z
      obtain ⟨q, hq, e⟩ := z
      have e : q.1 = p.1 := by simpa using e
      rw [List.map_append, List.nodup_append] at h
      exact h.2.2 q.1 (List.mem_map_of_mem hq) p.1 (by simp) e
    have e : putK acc p.1 p.2 = acc ++ [p] := by
      unfold putK
      rw [if_neg hn]
    show mergeK (putK acc p.1 p.2) r = _
    rw [e, merge_nd r (acc ++ [p]) (by simpa using h)]
    simp
theorem key_nd : ∀ {ks : List DK}, ks.Nodup → (ks.map key).Nodup
  | [], _ => List.nodup_nil
  | a :: ks, h => by
    rw [List.nodup_cons] at h
    rw [List.map_cons, List.nodup_cons]
    refine ⟨fun z => ?_, key_nd h.2⟩
    obtain ⟨b, hb, e⟩ := List.mem_map.mp z
    exact h.1 (key_inj e ▸ hb)
theorem sv_dct {h : Bool} {ks : List DK} {as : List E} (ha : ∀ a ∈ as, SVp N P B T cf k ns a) : SVp N P B T cf k ns (.dct h ks as) := by
  intro s0 sc W X S e hh env g σ L I rs H Q R er ok
  have ok : OkV N L I rs H W Q ((evs T cf as env g).bind fun vs g1 =>
    if decide (vs.length = ks.length ∧ ks.Nodup ∧ ks.length ≤ 15) then (if h then .ok (.ref g1.length) (g1 ++ [.dct ks vs]) else .ok (.dct ks vs) g1) else .stk) := ok
  simp only [chM, Ck.of] at hh
  -- the end, by the pairs
  have fin : ∀ {p : Addr} {o : HO} {ds : List D} {g1 : G} {I1 : Hp} {rs1 : List Addr} {H1 : Hp} {kvs : List (Key × V)}, H p = none → Ext I rs H I1 rs1 H1 → Rel N L I1 rs1 g1 H1 → H1 p = some o → p ∉ rs1 → I1 p = none → VRs N I1 rs1 ds (kvs.map (·.2)) → kvs.map (·.1) = ks.map key → ks.Nodup → ks.length ≤ 15 →
      OkV N L I rs H W Q (if h then .ok (.ref g1.length) (g1 ++ [.dct ks ds]) else .ok (.dct ks ds) g1) → Q (.ref p) (upd H1 p (.dK kvs)) := by
    intro p o ds g1 I1 rs1 H1 kvs hp E1 R1 ho hn hI hv hk nd hl ok
    have hL : L p = none := R.lsub.free hp
    have R2 : Rel N L I1 rs1 g1 (upd H1 p (.dK kvs)) := R1.hid hn hI hL
    have E2 : Ext I rs H I1 rs1 (upd H1 p (.dK kvs)) := E1.hid hp
    cases h with
    | false =>
      exact ok _ _ _ _ (E2.adopt hp hI) (R2.adopt hn hI upd_same) (.dct upd_same hk nd (hv.mono (fun b u e => by rw [upd_ne (ne_of_none e hI)]; exact e) (List.prefix_refl _)))
    | true =>
      have hc : CR N L I1 (rs1 ++ [p]) (upd H1 p (.dK kvs)) p (.dct ks ds) := ⟨hL, hI, kvs, upd_same, hk, nd, hv.mono (Same.refl _) (List.prefix_append _ _), Nat.le_trans hl (by decide)⟩
      exact ok _ _ _ _ (E2.cellNew hp) (R2.cellNew hn upd_same hc) (.ref (by rw [← R2.len, List.getElem?_append_right (Nat.le_refl _)]; simp))
  have np : ∀ {p : Addr}, H p = none → p ∉ rs := fun {p} hp hm => by
    obtain ⟨u, e⟩ := R.trk p hm
    rw [hp] at e; cases e
  split at hh
  · rename_i ks' es q
    simp only [Bool.and_eq_true, decide_eq_true_eq] at hh
    obtain ⟨⟨h1, h2, h15'⟩, h3, h4⟩ := hh
    cases ks' with
    | nil =>
      have : es = [] := by cases es with | nil => rfl | cons _ _ => simp at h2
      subst this
      have := chs_nil h4
      subst this
      have hk : ks = [] := by cases ks with | nil => rfl | cons _ _ => simp [dkB] at h1
      subst hk
      have ok : OkV N L I rs H W Q (if h then .ok (.ref g.length) (g ++ [.dct [] []]) else .ok (.dct [] []) g) := ok
      refine we_of pe_dnewK fun p hp => ?_
      have R1 : Rel N L I rs g (upd H p (.dK [])) := R.hid (np hp) (R.sub.free hp) (R.lsub.free hp)
      have := fin (o := .dK []) (kvs := []) hp (Ext.refl.hid hp) R1 upd_same (np hp) (R.sub.free hp) .nil rfl List.nodup_nil (by simp) ok
      have e : upd (upd H p (.dK [])) p (.dK []) = upd H p (.dK []) := by
        funext b
        by_cases z : b = p
        · subst z; rw [upd_same, upd_same]
        · rw [upd_ne z]
      rw [e] at this
      exact this
    | cons o ks' =>
      obtain ⟨trs, p1, p2, p3⟩ := pairs_ok S (pos := q) ha h1 h2 h4 h3
      have hkl : (o :: ks').length = ks.length := by
        have : ∀ (a : List DK) (b : List (Option Expr)), dkB a b = true → b.length = a.length := by
          intro a
          induction a with
          | nil => intro b; cases b <;> simp [dkB]
          | cons c a ih =>
            intro b
            cases b with
            | nil => simp [dkB]
            | cons d b => intro z; simp only [dkB, Bool.and_eq_true] at z; simp [ih b z.2]
        exact this _ _ h1
      have h15 : ks.length ≤ 15 := by rw [← hkl]; exact h15'
      · refine we_of (pe_disp p1 p2 h2 (by simp) (by rw [hkl]; exact h15)) fun p hp => ?_
        have hI := R.sub.free hp
        have R1 : Rel N L I rs g (upd H p (.dK [])) := R.hid (np hp) hI (R.lsub.free hp)
        refine p3 R1 er ?_
        cases qe : evs T cf as env g with
        | stk => rw [qe] at ok; exact ok
        | exc x gx =>
          rw [qe] at ok
          exact fun I' rs' H' c d E R' x' => ok I' rs' H' c d (E.under hp) R' x'
        | ok ds gd =>
          rw [qe] at ok
          intro I' rs' H' vs E R' r' kvs q1 q2
          obtain ⟨u1, u2, u3⟩ := E.unk upd_same (np hp) hI
          refine ⟨u1, kvs, rfl, ?_, ?_⟩
          · have := congrArg List.length q1
            simp only [List.length_map] at this
            omega
          · simp only [PC.R.bind] at ok
            split at ok
            · rename_i hc
              have hc : ds.length = ks.length ∧ ks.Nodup ∧ ks.length ≤ 15 := by simpa using hc
              rw [merge_nd kvs [] (by rw [List.nil_append, q1]; exact key_nd hc.2.1), List.nil_append]
              exact fin hp (E.under hp) R' u1 u2 u3 (by rw [q2]; exact r') q1 hc.2.1 hc.2.2 ok
            · exact ok.elim
  · exact Bool.noConfusion hh
end
end PC
end
section
set_option maxHeartbeats 4000000
namespace PC
open PySem L2 PyProof.Rows
section
variable {N : Nm} {P : Program} {B : Heap} {T : Tab} {cf : CF} {k : Nat} {ns : List Str}
variable {s0 sc : Scope} {W : XK} {X : Cx} {L L1 I I1 I2 : Hp} {rs rs1 rs2 : List Addr} {g g1 : G} {H H1 H2 : Hp} {Q : VK} {x y z : D} {u v : V} {env : Env} {σ : L2.St}
theorem lookF_v (inj : ∀ i j, N.nm i = N.nm j → i = j) : ∀ {ns : List Nat} {ds : List D} {fs : List (Str × V)} {f : Nat} {d : D}, fs.map (·.1) = ns.map N.nm → VRs N I rs ds (fs.map (·.2)) → lookF ns ds f = some d → ∃ v, fs.lookup (N.nm f) = some v ∧ VR N I rs d v
  | [], _, _, _, _, _, _, h => by simp [lookF] at h
  | _ :: _, [], _, _, _, _, _, h => by simp [lookF] at h
  | n :: ns, d0 :: ds, [], _, _, e, _, _ => by simp at e
  | n :: ns, d0 :: ds, (q, w) :: fs, f, d, e, r, h => by
    simp only [List.map_cons, List.cons.injEq] at e
    obtain ⟨e1, e2⟩ := e
    have e1 : q = N.nm n := e1
    subst e1
    simp only [List.map_cons] at r
    cases r with
    | cons r1 r2 =>
      unfold lookF at h
      by_cases hn : n = f
      · subst hn
        rw [if_pos rfl] at h
        cases h
        exact ⟨w, by simp [List.lookup], r1⟩
      · rw [if_neg hn] at h
        obtain ⟨v, h1, h2⟩ := lookF_v inj e2 r2 h
        have hb : (N.nm f == N.nm n) = false := beq_eq_false_iff_ne.mpr fun z => hn (inj _ _ z).symm
        exact ⟨v, by simp only [List.lookup, hb]; exact h1, h2⟩
theorem lookN_v (inj : ∀ i j, N.nm i = N.nm j → i = j) : ∀ {ns : List Nat} {fs : List (Str × V)} {m : Nat}, fs.map (·.1) = ns.map N.nm → ns.contains m = false → fs.lookup (N.nm m) = none
  | [], [], _, _, _ => rfl
  | [], _ :: _, _, e, _ => by simp at e
  | _ :: _, [], _, e, _ => by simp at e
  | n :: ns, (q, w) :: fs, m, e, h => by
    simp only [List.map_cons, List.cons.injEq] at e
    obtain ⟨e1, e2⟩ := e
    have e1 : q = N.nm n := e1
    subst e1
    simp only [List.contains_cons, Bool.or_eq_false_iff, beq_eq_false_iff_ne] at h
    have hb : (N.nm m == N.nm n) = false := beq_eq_false_iff_ne.mpr fun z => h.1 (inj _ _ z)
    simp only [List.lookup, hb]
    exact lookN_v inj e2 h.2
/-- an instance: a value, or a cell -/
theorem ins_cases (R : Rel N L I rs g H) {c : Nat} (h : clsD g x = some c) (hu : VR N I rs x u) : ∃ a dx fs ns ds, u = .ref a ∧ H a = some (.ins (N.ca c) dx fs) ∧ fs.map (·.1) = ns.map N.nm ∧ VRs N I rs ds (fs.map (·.2)) ∧ (∀ f, fldD g f x = lookF ns ds f) ∧ ∀ m, metD g m x = if ns.contains m then none else some c := by
  cases hu with
  | obj h1 h2 h3 =>
    cases h
    exact ⟨_, _, _, _, _, rfl, R.sub _ _ h1, h2, h3, fun _ => rfl, fun _ => rfl⟩
  | @ref i a h1 =>
    have h : (match g[i]? with
      | some (.ins c _ _) => some c
      | _ => none) = some c := h
    split at h
    · rename_i c' ns ds e
      cases h
      obtain ⟨_, _, dx, fs, h2, h3, h4⟩ := R.cell _ _ _ h1 e
      refine ⟨a, dx, fs, ns, ds, rfl, h2, h3, h4, fun f => by simp [fldD, e], fun m => by simp [metD, e]⟩
    · cases h
  | _ => cases h
theorem cls_met {m c : Nat} (h : metD g m x = some c) : clsD g x = some c := by
  unfold metD at h
  unfold clsD
  split at h
  · split at h
    · cases h
    · cases h; rfl
  · split at h
    · rename_i e
      split at h
      · cases h
      · cases h; simp [e]
    · cases h
  · cases h
/-- o.f -/
theorem pe_attrX {o : Expr} {x : Str} {p : Pos} (hb : abB o = true) : PE X (.Attribute o x p) (fun σ H Q => WE X o σ H fun v H1 => ∃ a, v = .ref a ∧ ∀ (b : Bool) (pins : List (Addr × Obj)) (s : Shared), Inv X pins σ H1 s → wpAny (model X.prog X.w) X.A (getAttr (.ref a) x b) (EP X pins σ Q) X.xe s) := by
  refine ⟨fun pins s σ H Q I h => ?_⟩
  refine attr_of (ab_eq hb) (thn (h pins s I) fun u s1 ⟨v, H1, I1, rx, a, ex, q⟩ => ?_)
  subst ex
  obtain rfl : u = Value.ref a := rx
  exact q true pins s1 I1
theorem sv_fld {f : Nat} {o : E} (ho : SVp N P B T cf k ns o) : SVp N P B T cf k ns (.fld f o) := by
  intro s0 sc W X S e h env g σ L I rs H Q R er ok
  have ok : OkV N L I rs H W Q (((evM T cf o).v env g).bind fun x g1 => flR T f x g1) := ok
  simp only [chM, Ck.of] at h
  split at h
  · rename_i o' x p
    simp only [Bool.and_eq_true, beq_iff_eq] at h
    obtain ⟨⟨rfl, h1⟩, h2⟩ := h
    refine we_of (pe_attrX h1) (ho.go S h2 R er ok fun v1 H1 d1 g1 I1 rs1 R1 er1 e1 r1 ok1 => ?_)
    unfold flR at ok1
    split at ok1
    · rename_i c hc
      split at ok1
      · rename_i hf
        obtain ⟨a, dx, fs, ns', ds, rfl, h3, h4, h5, h6, h7⟩ := ins_cases R1 hc r1
        obtain ⟨d, hd, ok2⟩ := ok1.opt'
        rw [h6] at hd
        obtain ⟨w, hw, rw_⟩ := lookF_v S.fa.nmi h4 h5 hd
        obtain ⟨c1, c2⟩ := S.fa.fl c f hf
        rw [← S.F.hK] at c1 c2
        exact ⟨a, rfl, fun b pins s J => getattr_ok J h3 c1 c2 hw fun uu s' J' ru => ⟨w, H1, J', ru, ok2.now R1 rw_⟩⟩
      · exact ok1.elim
    · exact ok1.elim
  · exact Bool.noConfusion h
/-- o.p, a property -/
theorem sv_prop {m : Nat} {o : E} (ho : SVp N P B T cf k ns o) : SVp N P B T cf k ns (.prop m o) := by
  intro s0 sc W X S e h env g σ L I rs H Q R er ok
  have ok : OkV N L I rs H W Q (((evM T cf o).v env g).bind fun x g1 => prR T cf m x g1) := ok
  simp only [chM, Ck.of] at h
  split at h
  · rename_i o' x p
    simp only [Bool.and_eq_true, beq_iff_eq] at h
    obtain ⟨⟨rfl, h1⟩, h2⟩ := h
    refine we_of (pe_attrX h1) (ho.go S h2 R er ok fun v1 H1 d1 g1 I1 rs1 R1 er1 e1 r1 ok1 => ?_)
    unfold prR at ok1
    split at ok1
    · rename_i c hc
      split at ok1
      · rename_i f hf
        split at ok1
        · rename_i d2 g2 hcf
          obtain ⟨a, dx, fs, ns', ds, rfl, h3, h4, h5, h6, h7⟩ := ins_cases R1 hc r1
          obtain ⟨c1, pp, hp⟩ := S.fa.pr c m f hf
          refine ⟨a, rfl, fun b pins s J => ?_⟩
          have J0 := J
          obtain ⟨mA, O, _, _, _, _⟩ := ins_get J.hok h3
          rw [← S.F.hK] at c1 hp
          obtain ⟨od, Jl, _⟩ := O.look
          obtain ⟨rest, hrec⟩ := hp.rec_
          have J1 := J.tok (s.toks + 1)
          have hcl : (PySem.W.clsIn X.K (N.ca c)).isSome = true := by
            obtain ⟨cd, hc, _⟩ := PySem.W.any_some c1.hd
            rw [hc]; rfl
          refine PySem.W.get_bind J.kIn Jl (PySem.W.plainGet_of (c1.get (N.nm m))).1 (PySem.W.findObj_data hcl hp.at_ hp.get hp.tak) (PySem.W.plainGet_of (c1.get (N.nm m))).2 (wpAny_call (PySem.W.prop_get (s := { s with toks := s.toks + 1 }) J.kIn hrec ?_))
          have pr := S.pr f [d1] g1 [.ref a] L I1 rs1 H1 Q (fun _ _ _ => False) R1 (.one r1) (by rw [hcf]; exact ok1) 1 (.inl rfl) X.A.in1 X.stack { s with toks := s.toks + 1 } [.ref a] ((S.room.mono (by omega : k + 1 ≤ k + 2)).in1) S.F.hg
          have e1 := S.prog
          have e2 := S.mg
          have e3 := S.base
          have e4 := S.F.hK
          have e5 := S.F.hw
          subst e1 e3
          rw [← e5, ← e4, ← e2] at pr
          have pr := pr J1.env0.in1 (.cons rfl .nil)
          have eargs : argJ (N.pn f) [Value.ref a] 1 = ⟨[.ref a], []⟩ := argJ_all (us := [.ref a])
          rw [eargs] at pr
          refine codeAny_mono pr fun r s' hq => ?_
          cases r with
          | error er =>
            obtain ⟨_, _, _, _, _, _, _, _, _, _, _, _, z⟩ := hq
            exact z.elim
          | ok fl =>
            cases fl with
            | ret u =>
              obtain ⟨v, H', I3, rv, q3⟩ := J1.after hq
              show wpAny _ _ (handedOut u) _ _ _
              rw [PySem.W.handedOut_of (handed_of rv)]
              exact wpAny_pure ⟨v, H', I3, rv, q3⟩
            | next => exact False.elim hq
            | brk => exact False.elim hq
            | cont => exact False.elim hq
        · exact ok1.elim
      · exact ok1.elim
    · exact ok1.elim
  · exact Bool.noConfusion h
/-- the tree of a method's call -/
theorem mc_tree {o : Expr} {m : Str} {ap p : Pos} {es : List Expr} {en : PySem.Env} (hb : abB o = true) (hn : noSt es = true) (hl : es.length < 29) (hp : (ap.endLine == p.line) = true) :
    eval (.Call (.Attribute o m ap) es [] p) en = (do
      let ov ← eval o en
      standAt ap.atName
      let (f, first) ← holding [ov] (getMethod ov m (do return (← importBound o en).getD true))
      callWith p f first (backTo p (starEach es en)) (backToKw p (keywordEach [] en))) := by
  have few : methodCallForm (es.length + ([] : List Keyword).length) (backTo p (starEach es en)) (backToKw p (keywordEach [] en)) = true := by
    unfold methodCallForm
    rw [star_all hn]
    simp [keywordEach, backToKw]
    omega
  rw [arm_eval_Call, ab_eq hb]
  unfold methodCall
  rw [few]
  unfold calleeOf methodCallPos
  rw [hp]
  simp only [if_true, Bool.not_true, Bool.or_true, Bool.or_false, pure_bind]
/-- the callee runs: a method -/
theorem cw_meth {pins : List (Addr × Obj)} {f a : Addr} {es : List Expr} {p : Pos} {s : Shared} (hk : PySem.W.keepIn X.K (.ref f) = true) (hn : noSt es = true) (J : Inv X pins σ H s)
    (hw : WA X es σ H (fun vs H1 => ∀ (pins : List (Addr × Obj)) (s : Shared) (us : List Value), Inv X pins σ H1 s → Vals vs us → wpAny (model X.prog X.w) X.A (PySem.call (.ref f) (.ref a :: us)) (EP X pins σ Q) X.xe s)) :
    wpAny (model X.prog X.w) X.A (callWith p (.ref f) [.ref a] (backTo p (starEach es X.env)) (backToKw p (keywordEach [] X.env))) (EP X pins σ Q) X.xe s := by
  cases es with
  | nil =>
    refine PySem.W.callWith_K0 (first := [.ref a]) J.kIn hk ?_
    have h := hw p pins s J
    have h1 := wpAny_bind (f := fun us => PySem.call (.ref f) (.ref a :: us)) (thn h fun us s1 ⟨vs, H1, J1, r, q⟩ => q pins s1 us J1 r)
    have e : (spliced (backTo p (starEach [] X.env)) : Sem (List Value)) = pure [] := rfl
    rw [e, pure_bind] at h1
    exact h1
  | cons e es =>
    simp only [noSt, List.all_cons, Bool.and_eq_true] at hn
    exact PySem.W.callWith_K (first := [.ref a]) (h₀ := X.base) J.ok.mod.kin hk (thn (hw p pins s J) fun us s2 ⟨vs, H2, J2, r, q2⟩ => ⟨J2.kIn, q2 pins s2 us J2 r⟩) (star_eq hn.1) (star_any hn.2)
theorem sv_meth {m : Nat} {o : E} {as : List E} (ho : SVp N P B T cf k ns o) (ha : SAp N P B T cf k ns as) : SVp N P B T cf k ns (.meth m o as) := by
  intro s0 sc W X S e h env g σ L I rs H Q R er ok
  have ok : OkV N L I rs H W Q (((evM T cf o).v env g).bind fun x g1 => match metF T g1 m x with
    | some f => (evs T cf as env g1).bind fun vs g2 => cf f (x :: vs) g2
    | none => .stk) := ok
  simp only [chM, Ck.of] at h
  split at h
  · rename_i o' x ap es p
    simp only [Bool.and_eq_true, beq_iff_eq, decide_eq_true_eq] at h
    obtain ⟨⟨rfl, h1, h1'⟩, ⟨h3, h4⟩, h5, h6⟩ := h
    refine fun pins s J => PySem.W.methodCall_KW (thn (ho.go S h5 R er ok (Q := fun v H1 => ∃ a dx fs c f, v = .ref a ∧ H1 a = some (.ins (N.ca c) dx fs) ∧ fs.lookup (N.nm m) = none ∧ T.mt c m = some f ∧
      WA X es σ H1 (fun vs H2 => ∀ (pins : List (Addr × Obj)) (s : Shared) (us : List Value), Inv X pins σ H2 s → Vals vs us → wpAny (model X.prog X.w) X.A (PySem.call (.ref (N.fa f)) (.ref a :: us)) (EP X pins σ Q) X.xe s)) (fun v1 H1 d1 g1 I1 rs1 R1 er1 e1 r1 ok1 => ?_) pins s J) fun u s1 ⟨v, H1, J1, rx, a, dx, fs, c, f, ex, h7, h8, h9, q⟩ => ?_) (mc_tree h1 h3 h4 (by rw [h1']; exact beq_self_eq_true _))
    · -- the receiver's class
      cases hm : metF T g1 m d1 with
      | none => rw [hm] at ok1; exact ok1.elim
      | some f =>
        rw [hm] at ok1
        simp only at ok1
        unfold metF at hm
        cases hd : metD g1 m d1 with
        | none => rw [hd] at hm; cases hm
        | some c =>
          rw [hd] at hm
          obtain ⟨a, dx, fs, ns', ds, rfl, h7, h8, h9, h10, h11⟩ := ins_cases R1 (cls_met hd) r1
          have hc : ns'.contains m = false := by
            have z := h11 m
            rw [hd] at z
            cases q : ns'.contains m with
            | false => rfl
            | true => rw [q] at z; cases z
          refine ⟨a, dx, fs, c, f, rfl, h7, lookN_v S.fa.nmi h8 hc, hm, ha.go S h6 R1 er1 ok1 fun vs H2 ds2 g2 I2 rs2 R2 er2 e2 r2 ok2 => fun pins s us J rv => ?_⟩
          exact S.rc R2 (.cons (e2.vr r1) r2) ok2 pins s σ (.ref a :: us) J (.cons rfl rv)
    · subst ex
      obtain rfl : u = Value.ref a := rx
      obtain ⟨c1, c2⟩ := S.fa.mt c m f h9
      rw [← S.F.hK] at c1 c2
      exact getmeth_ok J1 h7 c1 c2 h8 (cw_meth c2.kp h3 J1 q)
  · exact Bool.noConfusion h
end
end PC
end
section
set_option maxHeartbeats 4000000
namespace PC
open PySem L2 PyProof.Rows
/-! ### enumerate(text) -/
/-- the signs of x, each in a new pair -/
def Ites (x : Str) : It :=
  ⟨fun i H => i < x.cps.size, fun i H v H' => ∃ T c, v = .ref T ∧ H T = none ∧ x.cps[i]? = some c ∧ H' = upd H T (.tup [.int (i : Nat), .str ⟨#[c]⟩]), fun i H => x.cps.size ≤ i⟩
theorem draws_str {prog : Program} {w : World} {A : Around} (hh : A.handled = none) (it : Addr) (x : Str) (t : Tok) :
    Draws prog w A it [it] x.cps.size (fun i v => ∃ c u, x.cps[i]? = some c ∧ v = .str ⟨#[c]⟩ u) (fun i h => h.IsStrIter it (strIterType x) x t i) := by
  unfold strIterType
  cases x.cps.all (· < 128)
  · exact Draws.strWide hh it x t
  · exact Draws.strAscii hh it x t
theorem turn_enumS {P : Program} {w : World} {K : PySem.W.Frag} {elts : List Expr} {kk : Nat} {tpos : Pos} (x : Str) (t : Tok) (e it : Addr) :
    Turn P w K (.Tuple elts kk tpos) (Ites x) [e, it] e (fun i h => (∃ old, IsEnum h e it ((i : Nat) : Int) old) ∧ h.IsStrIter it (strIterType x) x t i ∧ e ≠ it) where
  mem := by simp
  obj := fun i h st b hb => by
    obtain ⟨⟨old, he⟩, ⟨o, ho, hc, hd⟩, _⟩ := st
    have e' : b = e ∨ b = it := by simpa using hb
    rcases e' with z | z
    · rw [z]; exact ⟨_, he, fun v q => nomatch q⟩
    · rw [z]; exact ⟨o, ho, fun v q => by rw [hd] at q; cases q⟩
  keep := fun i h h' st k => let ⟨⟨old, he⟩, ⟨o, ho, r⟩, hne⟩ := st; ⟨⟨old, k e (by simp) _ he⟩, ⟨o, k it (by simp) o ho, r⟩, hne⟩
  item := by
    intro X hP hw hK hc i pins s σ H E I hf st hg
    subst hP hw hK
    obtain ⟨⟨old, he⟩, hit, hne⟩ := st
    have hg : i < x.cps.size := hg
    have hel : e < s.heap.objs.size := Heap.lt_size he
    have hil : it < s.heap.objs.size := by obtain ⟨_, q, _⟩ := hit; exact Heap.lt_size q
    refine wpAny_pyNext_enum_itemD (draws_str (show X.A.in1.handled = none from I.ok.hd hc) it x t) he hit hg hne (by simp [hne]) fun v h' tk hv ho hit' hT hsz hk => ?_
    obtain ⟨c, uu, hcx, rfl⟩ := hv
    refine ⟨_, rfl, wpAny_letOwnedTupleGo_enum (s := { s with heap := h', toks := tk + 1 }) ho fun h'' he' sb => ?_⟩
    have hT2 : h''.get? s.heap.objs.size = some { cls := .type "tuple", data := .seq #[.int i tk, .str ⟨#[c]⟩ uu] } := (sb.2 _ (Nat.ne_of_gt hel)).trans hT
    have new : ObjOk X.prog X.w (upd H s.heap.objs.size (.tup [.int (i : Nat), .str ⟨#[c]⟩])) h'' s.heap.objs.size (.tup [.int (i : Nat), .str ⟨#[c]⟩]) :=
      ⟨by show 2 ≤ sizeLine; decide, [.int i tk, .str ⟨#[c]⟩ uu], .cons ⟨_, rfl⟩ (.cons ⟨uu, rfl⟩ .nil), ⟨_, hT2, rfl, _, rfl⟩⟩
    have I1 : Inv X pins σ (upd H s.heap.objs.size (.tup [.int (i : Nat), .str ⟨#[c]⟩])) { s with heap := h'', toks := tk + 1 } :=
      I.turnedNew (ch := [e, it]) (fun b ob hb q => (sb.2 b (fun z => hb (by simp [z]))).trans (hk b ob (fun z => hb (by simp [z])) (fun z => hb (by simp [z])) q)) hf (Nat.le_refl _) new
    refine ⟨.ref s.heap.objs.size, _, I1, rfl, ⟨_, c, rfl, I.hok.fresh (Nat.le_refl _), hcx, rfl⟩, ⟨⟨.str ⟨#[c]⟩ uu, ?_⟩, ?_, hne⟩, fun b hb => ?_⟩
    · have e1 : ((i + 1 : Nat) : Int) = (i : Int) + 1 := by omega
      rw [e1]; exact he'
    · obtain ⟨o, q, r⟩ := hit'
      exact ⟨o, (sb.2 it (Ne.symm hne)).trans q, r⟩
    · have hb' : b < s.heap.objs.size := by
        have e' : b = e ∨ b = it := by simpa using hb
        rcases e' with z | z
        · rw [z]; exact hel
        · rw [z]; exact hil
      rw [upd_ne (Nat.ne_of_lt hb')]
      exact (hf b hb).1
  done := by
    intro X hP hw hK hc i pins s σ H E I hf st hg
    subst hP hw hK
    obtain ⟨⟨old, he⟩, hit, hne⟩ := st
    obtain ⟨f0, f1, f2, f3, f4, f5⟩ := hf it (by simp)
    have hg : x.cps.size ≤ i := hg
    have hx : x.cps[i]? = none := Array.getElem?_eq_none hg
    have hT : s.TypeIs (.ref e) "enumerate" := ⟨_, he, rfl⟩
    unfold pyNext
    refine wpAny_bind (wpAny_attempt (wpAny_callSpecial?_slot (name := Str.ofString "__next__") hT F.slot_enumerate_next
      (wpAny_call_entry F.slot_enumerate_next hT F.entry_enumerate_next ?_ (F.args_enumerate_next_1 _))))
    show wpAny _ _ (field (.ref e) 2 >>= _) _ _ _
    refine wpAny_bind (wpAny_field he rfl (x := .ref it) rfl ?_)
    unfold strIterType at hit
    cases ha : x.cps.all (· < 128) with
    | true =>
      rw [ha] at hit
      refine wpAny_bind (wpAny_nextOf_ascii_end (show X.A.in1.handled = none from I.ok.hd hc) hit hx fun h' y he' hx' => ?_)
      obtain ⟨o, ho, hc'⟩ := hx'
      refine wpAny_bind (wpAny_isInstance (T := "StopIteration") (b := true) ⟨o, ho, hc'⟩ isSubtype_stop ?_)
      exact wpAny_pure ⟨rfl, I.turned (t' := s.toks) (fun b o hb q => he' b o hb q) f0 f1 f3 f4 f5⟩
    | false =>
      rw [ha] at hit
      refine wpAny_bind (wpAny_nextOf_wide_end (show X.A.in1.handled = none from I.ok.hd hc) hit hx fun h' y he' hx' => ?_)
      obtain ⟨o, ho, hc'⟩ := hx'
      refine wpAny_bind (wpAny_isInstance (T := "StopIteration") (b := true) ⟨o, ho, hc'⟩ isSubtype_stop ?_)
      exact wpAny_pure ⟨rfl, I.turned (t' := s.toks) (fun b o hb q => he' b o hb q) f0 f1 f3 f4 f5⟩
  self := fun A i s Q E st h => let ⟨⟨_, he⟩, _⟩ := st; wpAny_pyIter_enum he h
/-! ### enumerate(tuple) -/
/-- the items of the tuple at a, each in a new pair -/
def Itet (K : PySem.W.Frag) (a : Addr) : It :=
  ⟨fun i H => ∃ (xs : List V) (x : V), SqT K H a xs ∧ xs[i]? = some x, fun i H v H' => ∃ T x, v = .ref T ∧ H T = none ∧ H' = upd H T (.tup [.int (i : Nat), x]) ∧ ∀ xs, SqT K H a xs → xs[i]? = some x, fun i H => ∃ xs : List V, SqT K H a xs ∧ xs.length ≤ i⟩
theorem draws_tup {prog : Program} {w : World} {A : Around} (hh : A.handled = none) (it l : Addr) (hne : l ≠ it) (items : Array Value) :
    Draws prog w A it [it, l] items.size (fun i v => items[i]? = some v) (fun i h => h.IsTupleIter it l i ∧ h.IsTuple l items) where
  live := fun _ _ st => let ⟨o, ho, _⟩ := st.1; ⟨o, ho⟩
  frame := fun _ _ _ st hk => ⟨let ⟨o, ho, r⟩ := st.1; ⟨o, hk it (by simp) o ho, r⟩, let ⟨o, ho, r⟩ := st.2; ⟨o, hk l (by simp) o ho, r⟩⟩
  item := fun i s Q E hi st hQ => by
    refine RZ.nextOf_tuple_item st.1 st.2 (x := items[i]) (by simp [hi]) fun h' hit' hs' => ?_
    exact hQ _ h' s.toks (by simp [hi]) ⟨hit', let ⟨o, ho, r⟩ := st.2; ⟨o, (hs'.2 l hne).trans ho, r⟩⟩ hs'
  done := fun s Q E st hE => RZ.nextOf_tuple_end hh st.1 st.2 (by simp) hE
theorem meets_enumerate_newT (l : Addr) (items : Array Value) (n : Nat) (dct : Option Addr) (sl : Array (Option Value)) :
    Meets (Builtin.«enumerate.__new__» ⟨[.type "enumerate", .ref l], []⟩) (fun _ R s => s.heap.get? l = some { cls := .type "tuple", dict := dct, data := .seq items n, slots := sl } ∧
      R (.ok (.ret (.ref (s.heap.push { cls := .type "tuple_iterator", data := .fields #[.ref l, .int 0 0] }).objs.size)))
        { s with heap := (s.heap.push { cls := .type "tuple_iterator", data := .fields #[.ref l, .int 0 0] }).push { cls := .type "enumerate", data := .fields #[.none, .bool false, .ref s.heap.objs.size, rawInt 0, .none, .none] } }) :=
  .of_wp fun prog w A R s h => by
    obtain ⟨hp, g, d, tk, os⟩ := s; obtain ⟨hl, h⟩ := h
    have hsub := sub_enumerate
    have hL : Heap.IsTuple (Shared.heap ⟨hp, g, d, tk, os⟩) l items := ⟨_, hl, rfl, n, rfl⟩
    wp_walk using AutoSeq1.wpAny_loadPart' hl
    refine wpAny_stack_any fun st => wpAny_pure ?_
    split
    · rename_i c _ _ _ _ _
      cases (c == Value.type "enumerate")
      · wp_walk using AutoSeq1.wpAny_loadPart' hl, wpAny_pyIter_tuple hL
        exact ⟨_, rfl, h⟩
      · wp_walk using AutoSeq1.wpAny_loadPart' hl, wpAny_pyIter_tuple hL
        exact ⟨_, rfl, h⟩
    · wp_walk using AutoSeq1.wpAny_loadPart' hl, wpAny_pyIter_tuple hL
      exact ⟨_, rfl, h⟩
theorem call_enumerate_tup {prog : Program} {w : World} {A : Around} {E : Value → Shared → Prop} {s : Shared} {l : Addr} {items : Array Value} {Q : Value → Shared → Prop} (hL : s.heap.IsTuple l items)
    (h : ∀ h', IsEnum h' (s.heap.objs.size + 1) s.heap.objs.size 0 .none → h'.IsTupleIter s.heap.objs.size l 0 → h'.objs.size = s.heap.objs.size + 2 →
      (∀ b o, s.heap.get? b = some o → h'.get? b = some o) → Q (.ref (s.heap.objs.size + 1)) { s with heap := h' }) :
    wpAny (model prog w) A (PySem.call (.type "enumerate") [.ref l]) Q E s := by
  obtain ⟨⟨c, dct, dt, sl⟩, hl, hc, n, hd⟩ := hL
  replace hc : c = .type "tuple" := hc
  replace hd : dt = .seq items n := hd
  subst hc hd
  refine callType_new F.called_enumerate (by decide) (F.typeCall_enumerate_1 _) (F.newCall_enumerate_1 _) (fun obj => F.args_object_init_2 obj _) F.entry_enumerate_new
    (meets_enumerate_newT l items n dct sl) ⟨hl, ?_⟩
  have hz : (s.heap.push { cls := .type "tuple_iterator", data := .fields #[.ref l, .int 0 0] }).objs.size = s.heap.objs.size + 1 := Heap.size_push ..
  show _ ∧ _
  rw [hz]
  have he : IsEnum ((s.heap.push { cls := .type "tuple_iterator", data := .fields #[.ref l, .int 0 0] }).push
      { cls := .type "enumerate", data := .fields #[.none, .bool false, .ref s.heap.objs.size, rawInt 0, .none, .none] }) (s.heap.objs.size + 1) s.heap.objs.size 0 .none := by
    have := Heap.get?_push_size (s.heap.push { cls := .type "tuple_iterator", data := .fields #[.ref l, .int 0 0] })
      (o := { cls := .type "enumerate", data := .fields #[.none, .bool false, .ref s.heap.objs.size, rawInt 0, .none, .none] }) rfl
    rw [hz] at this; exact this
  refine ⟨⟨_, he, rfl⟩, h _ he ⟨_, Heap.get?_push_of_some _ (Heap.get?_push_size _ rfl), rfl, rfl⟩ (by rw [Heap.size_push, hz]) fun b o x => Heap.get?_push_of_some _ (Heap.get?_push_of_some _ x)⟩
theorem turn_enumT {P : Program} {w : World} {K : PySem.W.Frag} {elts : List Expr} {kk : Nat} {tpos : Pos} (a e it : Addr) :
    Turn P w K (.Tuple elts kk tpos) (Itet K a) [e, it] e (fun i h => (∃ old, IsEnum h e it ((i : Nat) : Int) old) ∧ h.IsTupleIter it a i ∧ e ≠ it) where
  mem := by simp
  obj := fun i h st b hb => by
    obtain ⟨⟨old, he⟩, ⟨o, ho, hc, hd⟩, _⟩ := st
    have e' : b = e ∨ b = it := by simpa using hb
    rcases e' with z | z
    · rw [z]; exact ⟨_, he, fun v q => nomatch q⟩
    · rw [z]; exact ⟨o, ho, fun v q => by rw [hd] at q; cases q⟩
  keep := fun i h h' st k => let ⟨⟨old, he⟩, ⟨o, ho, r⟩, hne⟩ := st; ⟨⟨old, k e (by simp) _ he⟩, ⟨o, k it (by simp) o ho, r⟩, hne⟩
  item := by
    intro X hP hw hK hc i pins s σ H E I hf st hg
    subst hP hw hK
    obtain ⟨⟨old, he⟩, hit, hne⟩ := st
    obtain ⟨xs, x, hq, hx⟩ := hg
    obtain ⟨its, rv, ht, hz⟩ := I.tuple hq
    obtain ⟨u, hu, ru⟩ := rv.get hx
    have hel : e < s.heap.objs.size := Heap.lt_size he
    have hil : it < s.heap.objs.size := by obtain ⟨_, q, _⟩ := hit; exact Heap.lt_size q
    have ha : a ≠ it := by
      obtain ⟨o1, q1, q2, _⟩ := ht
      obtain ⟨o2, r1, r2, _⟩ := hit
      intro z
      rw [z, r1] at q1
      cases q1
      rw [r2] at q2
      injection q2 with q3
      exact absurd q3 (by decide)
    have hae : e ≠ a := by
      obtain ⟨o1, q1, q2, _⟩ := ht
      intro z
      have he' : s.heap.get? e = some _ := he
      rw [z, q1] at he'
      cases he'
      injection q2 with q3
      exact absurd q3 (by decide)
    have hlt : i < its.toArray.size := by
      have := (List.getElem?_eq_some_iff.mp hu).1
      simpa using this
    refine wpAny_pyNext_enum_itemD (draws_tup (show X.A.in1.handled = none from I.ok.hd hc) it a ha its.toArray) he ⟨hit, ht⟩ hlt hne (by simp [hne, hae]) fun v h' tk hv ho hit' hT hsz hk => ?_
    have hvu : v = u := by
      have hv : its.toArray[i]? = some v := hv
      rw [List.getElem?_toArray, hu] at hv
      exact (Option.some.inj hv).symm
    subst hvu
    refine ⟨_, rfl, wpAny_letOwnedTupleGo_enum (s := { s with heap := h', toks := tk + 1 }) ho fun h'' he' sb => ?_⟩
    have hT2 : h''.get? s.heap.objs.size = some { cls := .type "tuple", data := .seq #[.int i tk, v] } := (sb.2 _ (Nat.ne_of_gt hel)).trans hT
    have new : ObjOk X.prog X.w (upd H s.heap.objs.size (.tup [.int (i : Nat), x])) h'' s.heap.objs.size (.tup [.int (i : Nat), x]) :=
      ⟨by show 2 ≤ sizeLine; decide, [.int i tk, v], .cons ⟨_, rfl⟩ (.cons ru .nil), ⟨_, hT2, rfl, _, rfl⟩⟩
    have I1 : Inv X pins σ (upd H s.heap.objs.size (.tup [.int (i : Nat), x])) { s with heap := h'', toks := tk + 1 } :=
      I.turnedNew (ch := [e, it]) (fun b ob hb q => (sb.2 b (fun z => hb (by simp [z]))).trans (hk b ob (fun z => hb (by simp [z])) (fun z => hb (by simp [z])) q)) hf (Nat.le_refl _) new
    refine ⟨.ref s.heap.objs.size, _, I1, rfl, ⟨_, x, rfl, I.hok.fresh (Nat.le_refl _), rfl, fun ys hy => by rw [I.tuple_inj hy hq]; exact hx⟩, ⟨⟨v, ?_⟩, ?_, hne⟩, fun b hb => ?_⟩
    · have e1 : ((i + 1 : Nat) : Int) = (i : Int) + 1 := by omega
      rw [e1]; exact he'
    · obtain ⟨⟨o, q, r⟩, _⟩ := hit'
      exact ⟨o, (sb.2 it (Ne.symm hne)).trans q, r⟩
    · have hb' : b < s.heap.objs.size := by
        have e' : b = e ∨ b = it := by simpa using hb
        rcases e' with z | z
        · rw [z]; exact hel
        · rw [z]; exact hil
      rw [upd_ne (Nat.ne_of_lt hb')]
      exact (hf b hb).1
  done := by
    intro X hP hw hK hc i pins s σ H E I hf st hg
    subst hP hw hK
    obtain ⟨⟨old, he⟩, hit, hne⟩ := st
    obtain ⟨f0, f1, f2, f3, f4, f5⟩ := hf it (by simp)
    obtain ⟨xs, hq, hx⟩ := hg
    obtain ⟨its, rv, ht, hz⟩ := I.tuple hq
    have hn : its.toArray[i]? = none := by
      rw [List.getElem?_toArray]
      exact List.getElem?_eq_none (by rw [← rv.length]; exact hx)
    have hT : s.TypeIs (.ref e) "enumerate" := ⟨_, he, rfl⟩
    unfold pyNext
    refine wpAny_bind (wpAny_attempt (wpAny_callSpecial?_slot (name := Str.ofString "__next__") hT F.slot_enumerate_next
      (wpAny_call_entry F.slot_enumerate_next hT F.entry_enumerate_next ?_ (F.args_enumerate_next_1 _))))
    show wpAny _ _ (field (.ref e) 2 >>= _) _ _ _
    refine wpAny_bind (wpAny_field he rfl (x := .ref it) rfl ?_)
    refine wpAny_bind (RZ.nextOf_tuple_end (show X.A.in1.handled = none from I.ok.hd hc) hit ht hn fun h' y he' hx' => ?_)
    obtain ⟨o, ho, hc'⟩ := hx'
    refine wpAny_bind (wpAny_isInstance (T := "StopIteration") (b := true) ⟨o, ho, hc'⟩ isSubtype_stop ?_)
    exact wpAny_pure ⟨rfl, I.turned (t' := s.toks) (fun b o hb q => he' b o hb q) f0 f1 f3 f4 f5⟩
  self := fun A i s Q E st h => let ⟨⟨_, he⟩, _⟩ := st; wpAny_pyIter_enum he h
section
variable {N : Nm} {P : Program} {B : Heap} {T : Tab} {cf : CF} {k : Nat} {ns : List Str}
variable {s0 sc : Scope} {W : XK} {X : Cx} {L L1 I I1 I2 : Hp} {rs rs1 rs2 : List Addr} {g g1 : G} {H H1 H2 : Hp} {Q : VK} {x y z : D} {u v : V} {env : Env} {σ : L2.St}
theorem pi_enumX {e : Expr} {p pos tpos : Pos} {elts : List Expr} {kk : Nat} (hg : Gl X "enumerate") (hm : X.mg "enumerate" = none) (hs : starEach [e] X.env = [(false, eval e X.env)]) :
    PI X (.Tuple elts kk tpos) (.Call (.Name "enumerate" p) [e] [] pos) (fun σ H R => WE X e σ H fun u H => (∃ a xs, u = .ref a ∧ SqL X.K H a xs ∧ R (Ite X.K a) H) ∨ (∃ z, u = .str z ∧ R (Ites z) H) ∨ ∃ a xs, u = .ref a ∧ SqT X.K H a xs ∧ R (Itet X.K a) H) := by
  refine ⟨fun pins s σ H R I h => ?_⟩
  have ha : PA X [e] (tCons (WE X e) tNil) := pa_cons we pa_nil hs
  have h2 : (tCons (WE X e) tNil) σ H (fun vs H1 => ∃ u, vs = [u] ∧ ((∃ a xs, u = V.ref a ∧ SqL X.K H1 a xs ∧ R (Ite X.K a) H1) ∨ (∃ z, u = V.str z ∧ R (Ites z) H1) ∨ ∃ a xs, u = V.ref a ∧ SqT X.K H1 a xs ∧ R (Itet X.K a) H1)) := fun pins s I => thn (h pins s I) fun _ _ ⟨v, H', I', r, q⟩ => ⟨v, H', I', r, v, rfl, q⟩
  refine Call_ (ld_blt I hg hm boot_enumerate (PyProof.Rows.callWith_type1 (thn (ha.run pos pins s σ H _ I h2) fun us s1 ⟨vs, H1, I1, r1, u, ex, q1⟩ => ?_) hs rfl))
  subst ex
  cases r1 with
  | cons r rr =>
    cases rr
    rcases q1 with ⟨a, xs, ex, hq, q⟩ | ⟨z, ex, q⟩ | ⟨a, xs, ex, hq, q⟩
    · subst ex
      cases r
      obtain ⟨its, rv, p', hz⟩ := I1.list hq
      refine call_enumerate_list p'.isList fun h' he hit hsz hk => wpAny_pyIter_enum he ?_
      have I2 : Inv X pins σ H1 { s1 with heap := h' } := I1.kept (t' := s1.toks) hk
      refine ⟨s1.heap.objs.size + 1, [s1.heap.objs.size + 1, s1.heap.objs.size], _, _, H1, rfl, I2, turn_enum a (s1.heap.objs.size + 1) s1.heap.objs.size, ⟨⟨.none, he⟩, hit, Nat.succ_ne_self _⟩, fun b hb => ?_, q⟩
      have e' : b = s1.heap.objs.size + 1 ∨ b = s1.heap.objs.size := by simpa using hb
      have hle : s1.heap.objs.size ≤ b := by
        rcases e' with z | z
        · rw [z]; exact Nat.le_add_right _ _
        · rw [z]; exact Nat.le_refl _
      exact I1.fpOk hle (I1.hok.fresh hle)
    · subst ex
      obtain ⟨t, rfl⟩ := r
      refine call_enumerate_str fun h' he hit hsz hk => wpAny_pyIter_enum he ?_
      have I2 : Inv X pins σ H1 { s1 with heap := h' } := I1.kept (t' := s1.toks) hk
      refine ⟨s1.heap.objs.size + 1, [s1.heap.objs.size + 1, s1.heap.objs.size], _, _, H1, rfl, I2, turn_enumS z t (s1.heap.objs.size + 1) s1.heap.objs.size, ⟨⟨.none, he⟩, hit, Nat.succ_ne_self _⟩, fun b hb => ?_, q⟩
      have e' : b = s1.heap.objs.size + 1 ∨ b = s1.heap.objs.size := by simpa using hb
      have hle : s1.heap.objs.size ≤ b := by
        rcases e' with z | z
        · rw [z]; exact Nat.le_add_right _ _
        · rw [z]; exact Nat.le_refl _
      exact I1.fpOk hle (I1.hok.fresh hle)
    · subst ex
      cases r
      obtain ⟨its, rv, p', hz⟩ := I1.tuple hq
      refine call_enumerate_tup p' fun h' he hit hsz hk => wpAny_pyIter_enum he ?_
      have I2 : Inv X pins σ H1 { s1 with heap := h' } := I1.kept (t' := s1.toks) hk
      refine ⟨s1.heap.objs.size + 1, [s1.heap.objs.size + 1, s1.heap.objs.size], _, _, H1, rfl, I2, turn_enumT a (s1.heap.objs.size + 1) s1.heap.objs.size, ⟨⟨.none, he⟩, hit, Nat.succ_ne_self _⟩, fun b hb => ?_, q⟩
      have e' : b = s1.heap.objs.size + 1 ∨ b = s1.heap.objs.size := by simpa using hb
      have hle : s1.heap.objs.size ≤ b := by
        rcases e' with z | z
        · rw [z]; exact Nat.le_add_right _ _
        · rw [z]; exact Nat.le_refl _
      exact I1.fpOk hle (I1.hok.fresh hle)
theorem enumL_len : ∀ (k : Nat) (l : List D), (enumL k l).length = l.length
  | _, [] => rfl
  | k, _ :: l => by simp [enumL, enumL_len (k + 1) l]
theorem enumL_get : ∀ (k : Nat) (l : List D) (i : Nat) (d : D), l[i]? = some d → (enumL k l)[i]? = some (.tup [.int ((k + i : Nat) : Int), d])
  | _, [], _, _, h => by simp at h
  | k, a :: l, 0, d, h => by simp at h; subst h; simp [enumL]
  | k, a :: l, i + 1, d, h => by
    have := enumL_get (k + 1) l i d (by simpa using h)
    simp only [enumL, List.getElem?_cons_succ]
    rw [this]
    have e : k + 1 + i = k + (i + 1) := by omega
    rw [e]
/-- a pair that is new -/
theorem pair_new (R : Rel N L I rs g H) {i : Nat} {d : D} {v : V} {p : Addr} (hv : VR N I rs d v) (hp : H p = none) : ∃ I'', Ext I rs H I'' rs (upd H p (.tup [.int (i : Nat), v])) ∧ Rel N L I'' rs g (upd H p (.tup [.int (i : Nat), v])) ∧ VR N I'' rs (.tup [.int (i : Nat), d]) (.ref p) := by
  obtain ⟨R1, E1⟩ := R.imm (o := .tup [.int (i : Nat), v]) hp
  exact ⟨_, E1, R1, .tup (.inl (.inl upd_same)) (.cons (.int _) (.cons (E1.vr hv) .nil))⟩
theorem wk_enumS {s : List Nat} : Wk N L I rs (enumL 0 (s.map fun c => .str [c])) (Ites (st s)) where
  go := fun _ _ _ _ _ _ _ i hi => by
    rw [enumL_len, List.length_map] at hi
    show i < (st s).cps.size
    simpa [st] using hi
  stop := fun _ _ _ _ _ _ _ i hi => by
    rw [enumL_len, List.length_map] at hi
    show (st s).cps.size ≤ i
    simpa [st] using hi
  yld := fun I' rs' g' H' e p R i x H'' hi h => by
    obtain ⟨T', c, rfl, hT, h1, rfl⟩ := h
    have h2 : s[i]? = some c := by simpa [st] using h1
    obtain ⟨I'', E1, R1, r1⟩ := pair_new (i := i) R (VR.str (N := N) (I := I') (rs := rs') [c]) hT
    refine ⟨I'', E1, R1, .tup [.int ((0 + i : Nat) : Int), .str [c]], enumL_get 0 _ i (.str [c]) (by simp [h2]), ?_⟩
    rw [Nat.zero_add]
    exact r1
theorem wk_enumL {a : Addr} {vs : List V} {xs : List D} (hs : ∀ I' rs' g' H', Same I I' → rs <+: rs' → Rel N L I' rs' g' H' → SqX N.K H' a vs) (hv : VRs N I rs xs vs) : Wk N L I rs (enumL 0 xs) (Ite N.K a) where
  go := fun I' rs' g' H' e p R i hi => by
    rw [enumL_len, hv.length] at hi
    exact ⟨vs, vs[i], (hs _ _ _ _ e p R).sq, List.getElem?_eq_getElem hi⟩
  stop := fun I' rs' g' H' e p R i hi => ⟨vs, (hs _ _ _ _ e p R).sq, by rw [enumL_len] at hi; rw [← hv.length]; exact hi⟩
  yld := fun I' rs' g' H' e p R i x H'' hi h => by
    obtain ⟨T', x', rfl, hT, rfl, h⟩ := h
    obtain ⟨d, h1, h2⟩ := (hv.mono e p).get' (h vs (hs _ _ _ _ e p R).sq)
    obtain ⟨I'', E1, R1, r1⟩ := pair_new (i := i) R h2 hT
    refine ⟨I'', E1, R1, _, enumL_get 0 _ i _ h1, ?_⟩
    rw [Nat.zero_add]
    exact r1
theorem wk_enumT {a : Addr} {vs : List V} {xs : List D} (hs : ∀ I' rs' g' H', Same I I' → rs <+: rs' → Rel N L I' rs' g' H' → SqT N.K H' a vs) (hv : VRs N I rs xs vs) : Wk N L I rs (enumL 0 xs) (Itet N.K a) where
  go := fun I' rs' g' H' e p R i hi => by
    rw [enumL_len, hv.length] at hi
    exact ⟨vs, vs[i], hs _ _ _ _ e p R, List.getElem?_eq_getElem hi⟩
  stop := fun I' rs' g' H' e p R i hi => ⟨vs, hs _ _ _ _ e p R, by rw [enumL_len] at hi; rw [← hv.length]; exact hi⟩
  yld := fun I' rs' g' H' e p R i x H'' hi h => by
    obtain ⟨T', x', rfl, hT, rfl, h⟩ := h
    obtain ⟨d, h1, h2⟩ := (hv.mono e p).get' (h vs (hs _ _ _ _ e p R))
    obtain ⟨I'', E1, R1, r1⟩ := pair_new (i := i) R h2 hT
    refine ⟨I'', E1, R1, _, enumL_get 0 _ i _ h1, ?_⟩
    rw [Nat.zero_add]
    exact r1
theorem si_enum {a : E} (ha : SVp N P B T cf k ns a) : SIp N P B T cf k ns (.enum a) := by
  intro s0 sc W X S tg e h env g σ L I rs H Q R er ok
  have ok : OkI N L I rs H W Q (((evM T cf a).v env g).bind fun x g1 => opt ((if tupD x then none else itemsD g1 x).map fun p => (enumL 0 p.1, p.2)) g1) := ok
  simp only [chM, Ck.it] at h
  split at h
  · rename_i x p a' q
    simp only [Bool.and_eq_true, beq_iff_eq] at h
    obtain ⟨⟨ht, hx, h2⟩, h3, h4⟩ := h
    subst hx
    obtain ⟨b1, b2, b3, b4⟩ := bl_of S h2
    refine ⟨?_, ns_fold rfl⟩
    cases tg with
    | Tuple elts kk tpos =>
      refine wi_of (pi_enumX b1 b2 (star_eq h3)) (we_mono (ha S h4 R er ok.first) fun u H1 ⟨d, g1, I1, rs1, e1, R1, v1, ok1⟩ => ?_)
      cases ht2 : tupD d with
      | true => rw [ht2] at ok1; exact ok1.elim
      | false =>
      rw [ht2, if_neg Bool.false_ne_true] at ok1
      cases hi : itemsD g1 d with
      | none => rw [hi] at ok1; exact ok1.elim
      | some p =>
        rw [hi] at ok1
        have ok1 : OkI N L I1 rs1 H1 W Q (.ok (enumL 0 p.1, p.2) g1) := ok1
        unfold itemsD at hi
        rw [S.F.hK]
        split at hi
        · cases hi
          cases v1 with
          | tup h2 h3 => exact .inr (.inr ⟨_, _, rfl, same_t R1.sub h2, ok1 _ _ _ _ L .refl R1 (.inl ⟨rfl, rfl⟩) (wk_enumT (fun I' rs' g' H' e p R' => same_t (e.trans R'.sub) h2) h3)⟩)
        · cases hi
          cases v1 with
          | lst h2 h3 => exact .inl ⟨_, _, rfl, (same_x R1.sub h2).sq, ok1 _ _ _ _ L .refl R1 (.inl ⟨rfl, rfl⟩) (wk_enumL (fun I' rs' g' H' e p R' => same_x (e.trans R'.sub) h2) h3)⟩
        · cases hi
          cases v1
          exact .inr (.inl ⟨_, rfl, ok1 _ _ _ _ L .refl R1 (.inl ⟨rfl, rfl⟩) wk_enumS⟩)
        · rename_i i
          split at hi
          · rename_i l q
            cases hi
            cases v1 with
            | ref hi =>
              obtain ⟨hL, hI, vs, h2, h3, hz⟩ := R1.cell _ _ _ hi q
              have R2 := R1.lock hi hI hL h2 h3 hz
              exact .inl ⟨_, vs, rfl, (SqX.of h2).sq, ok1 _ _ _ _ (upd L _ (.lst vs)) .refl (by simpa [lockG, q] using R2) (.inr ⟨i, _, _, rfl, hi, hL, rfl⟩) (wk_enumL (fun I' rs' g' H' e p R' => .of (R'.lsub _ _ upd_same)) h3)⟩
          · cases hi
        · cases hi
    | _ => exact Bool.noConfusion ht
  · exact Bool.noConfusion h
/-! ### d.get(k, y) -/
def DcA (K : PySem.W.Frag) (w : World) (H : Hp) (a : Addr) : Prop := (∃ kvs, H a = some (.dK kvs)) ∨ ∃ es n, KDict K w a es n
theorem dca_is {pins : List (Addr × Obj)} {s : Shared} {a : Addr} (J : Inv X pins σ H s) (h : DcA X.K X.w H a) : s.TypeIs (.ref a) "dict" ∧ ∀ b, Value.ref a = .ref b → ∃ ob, s.heap.get? b = some ob ∧ ob.dict = none := by
  rcases h with ⟨kvs, h⟩ | ⟨es, n, D⟩
  · exact tyV_is (x := .ref a) J rfl (.inr (.inr (.inl ⟨rfl, .inl ⟨kvs, h⟩⟩)))
  · refine ⟨kd_type D J, fun b e => ?_⟩
    cases e
    exact ⟨_, J.kIn _ _ D.at_, rfl⟩
theorem pe_dgetX {o e : Expr} {es : List Expr} {to : TE} {t : TA} {ap cpos : Pos} (ho : PE X o to) (ha : PA X (e :: es) t) (hbase : attributeBase o "get" X.env (eval o X.env) = eval o X.env)
    (hfew : ((backTo cpos (starEach (e :: es) X.env)).all (fun x => !x.1) && (backToKw cpos (keywordEach [] X.env)).all (fun x => x.1.isSome)
      && decide ((e :: es).length + ([] : List Keyword).length + (if ([] : List Keyword).isEmpty then 0 else 1) < 30)) = true)
    (hline : (ap.endLine == cpos.line) = true) (hs : starEach (e :: es) X.env = (false, eval e X.env) :: starEach es X.env) (hplain : (backTo cpos (starEach es X.env)).any (·.1) = false) :
    PE X (.Call (.Attribute o "get" ap) (e :: es) [] cpos) (fun σ H Q => to σ H fun x H1 => (∃ a, x = .ref a ∧ DcA X.K X.w H1 a) ∧ t σ H1 fun xs H2 => RM X "dict.get" x xs H2 Q) := by
  refine ⟨fun pins s σ H Q I h => ?_⟩
  refine wpAny_Call_method_late hbase hfew hline rfl (thn (ho.run pins s σ H _ I h) fun v s1 ⟨x, H1, I1, r1, ⟨a, ex, ty⟩, q1⟩ => ?_)
  subst ex
  cases r1
  obtain ⟨h1, h2⟩ := dca_is I1 ty
  refine ⟨"dict", "dict.get", PySem.F.plainAttrs_dict, PySem.F.slot_dict_get, PySem.F.type_dict_get, h1, h2, ?_⟩
  have hA := ha.run cpos pins s1 σ H1 _ I1 q1
  rw [hs] at hA ⊢
  refine Calls.callWith_builtin (by show (false || (backTo cpos (starEach es X.env)).any (·.1)) = false; rw [hplain] <;> rfl) (Calls.evalArgs_plain ?_)
  exact thn hA fun us s2 ⟨vs, H2, I2, r2, q2⟩ => q2 pins s2 σ (.ref a) us I2 rfl r2
theorem lookD_kk {t : List Nat} : ∀ {kk : List (List Nat)} {ds : List D} {d : D}, lookD (kk.map .s) ds (.s t) = some d → ∃ j, kk.findIdx? (· == t) = some j ∧ ds[j]? = some d
  | [], _, _, h => by simp [lookD] at h
  | _ :: _, [], _, h => by simp [lookD] at h
  | c :: kk, d' :: ds, d, h => by
    simp only [List.map_cons, lookD] at h
    by_cases ec : c = t
    · subst ec
      simp at h
      subst h
      exact ⟨0, by simp [List.findIdx?_cons], rfl⟩
    · rw [if_neg (by intro z; injection z with z; exact ec z)] at h
      obtain ⟨j, j1, j2⟩ := lookD_kk h
      exact ⟨j + 1, by simp [List.findIdx?_cons, ec, j1], by simpa using j2⟩
/-- d.get of a dict of the module -/
theorem kd_get2 {pins : List (Addr × Obj)} {s : Shared} {a : Addr} {es : Array DictEntry} {n : Nat} {t : Str} {tk : Tok} {r : Value} {o : Option Value} {E : Value → Shared → Prop} {Q : Value → Shared → Prop} (J : Inv X pins σ H s) (D : KDict X.K X.w a es n) (h : PySem.W.nsIn X.K a t = some o)
    (q : ∀ s', Inv X pins σ H s' → Q (o.getD r) s') : wpAny (model X.prog X.w) X.A (PySem.call (.builtin "dict.get") [.ref a, .str t tk, r]) Q E s := by
  have hm := PySem.W.mapOf_K (prog := X.prog) (w := X.w) J.kIn D.at_ D.lit
  refine call_meetsIn PySem.F.slot_dict_get hm.typeIs PySem.F.entry_dict_get (PySem.F.args_dict_get_3 _ _ _) (meets_dict_get_default (strKind X.prog X.w) a (PySem.strKind_is X.prog X.w t tk) D.low r) ⟨_, hm, ?_⟩
  rw [PySem.W.find_K D.at_ h]
  exact q _ (J.tok _)
theorem dget_ok (F : XF N X) {uw : V} (R : Rel N L I rs g H) (hu : VR N I rs x u) (hv : VR N I rs y v) (hw : VR N I rs z uw) (ok : OkV N L I rs H W Q (opt (dgetD g x y z) g)) : RM X "dict.get" u [v, uw] H Q := by
  obtain ⟨r, hr, ok2⟩ := ok.opt'
  unfold dgetD at hr
  split at hr
  · rename_i ks ds kx h1 h2
    split at hr
    · rename_i hk
      have ek := key_v h2 hv
      intro pins s σ vv us J rx rxs
      obtain ⟨u1, u2, rfl, r1, r2⟩ := Vals.two rxs
      rcases dct_cases R h1 hu with ⟨a, kvs, rfl, e, ea, nd, rr⟩ | ⟨a, es, n, vs, kk, rfl, kd, rfl, ne, el, kat, rr⟩
      · cases rx
        subst ek
        obtain ⟨a1, a2, a3⟩ := look_v ea rr kx
        refine d_get2 (by have := F.hV; omega) J (DGet.k (k := key kx) e) r1 r2 fun w' s' J' rw' => ⟨_, H, J', rw', ?_⟩
        split at hr
        · obtain ⟨w, b1, b2⟩ := a1 _ hr
          rw [b1]
          exact ok2.now R b2
        · rename_i hin
          cases hr
          rw [a2 (by simpa using hin)]
          exact ok2.now R hw
      · cases rx
        cases kx with
        | i j =>
          cases kk with
          | nil => exact absurd rfl ne
          | cons c kk => simp [kOk] at hk
        | s t =>
          subst ek
          obtain ⟨tk, rfl⟩ := (show ∃ tk, u1 = Value.str (st t) tk from r1)
          have h3 := kat t
          unfold KdAt at h3
          rw [← F.hK] at kd h3
          rw [← F.hw] at kd
          split at hr
          · obtain ⟨j, j1, j2⟩ := lookD_kk hr
            rw [j1] at h3
            obtain ⟨w, uw2, e1, e2, e3⟩ := h3
            obtain ⟨w', f1, f2⟩ := rr.get j2
            rw [e1] at f1
            cases f1
            exact kd_get2 (Q := EP X pins σ Q) J kd e2 fun s' J' => ⟨w, H, J', e3, ok2.now R f2⟩
          · rename_i hin
            cases hr
            have hin : t ∉ kk := fun hm => by simp [s_mem, hm] at hin
            have h0 : kk.findIdx? (· == t) = none := List.findIdx?_eq_none_iff.mpr fun b hb => by
              cases q : b == t with
              | false => rfl
              | true => exact absurd (eq_of_beq q ▸ hb) hin
            rw [h0] at h3
            exact kd_get2 (Q := EP X pins σ Q) J kd h3 fun s' J' => ⟨uw, H, J', r2, ok2.now R hw⟩
    · cases hr
  · cases hr
theorem sv_dget {o i d : E} (ho : SVp N P B T cf k ns o) (hi : SVp N P B T cf k ns i) (hd : SVp N P B T cf k ns d) : SVp N P B T cf k ns (.dget o i d) := by
  intro s0 sc W X S e h env g σ L I rs H Q R er ok
  have ok : OkV N L I rs H W Q (((evM T cf o).v env g).bind fun x g1 => match (dctD g1 x).isSome with
    | true => ((evM T cf i).v env g1).bind fun u g2 => ((evM T cf d).v env g2).bind fun z g3 => opt (dgetD g3 x u z) g3
    | false => .stk) := ok
  simp only [chM, Ck.of] at h
  split at h
  · rename_i o' x ap i' d' p
    simp only [Bool.and_eq_true, beq_iff_eq] at h
    obtain ⟨⟨rfl, h1, h1'⟩, ⟨h3, h4⟩, h5, h6, h7⟩ := h
    have hn : noSt [i', d'] = true := by simp [noSt, h3, h4]
    refine we_of (pe_dgetX (e := i') (es := [d']) we (pa_cons we (pa_cons we pa_nil (star_eq h4)) (star_eq h3)) (ab_eq h1) (few_of hn (by simp)) (by rw [h1']; exact beq_self_eq_true _) (star_eq h3) (star_any (by simp [noSt, h4]))) (ho.go S h5 R er ok fun v1 H1 d1 g1 I1 rs1 R1 er1 e1 r1 ok1 => ?_)
    cases hd1 : dctD g1 d1 with
    | none => rw [hd1] at ok1; exact ok1.elim
    | some kd =>
      rw [hd1] at ok1
      simp only [Option.isSome_some] at ok1
      obtain ⟨ks, ds⟩ := kd
      refine ⟨?_, hi.go S h6 R1 er1 ok1 fun v2 H2 d2 g2 I2 rs2 R2 er2 e2 r2 ok2 => hd.go S h7 R2 er2 ok2 fun v3 H3 d3 g3 I3 rs3 R3 er3 e3 r3 ok3 => dget_ok S.F R3 (e3.vr (e2.vr r1)) (e3.vr r2) r3 ok3⟩
      rcases dct_cases R1 hd1 r1 with ⟨a, kvs, rfl, e, _⟩ | ⟨a, es, n, vs, kk, rfl, kd, _⟩
      · exact ⟨a, rfl, .inl ⟨kvs, e⟩⟩
      · rw [← S.F.hK, ← S.F.hw] at kd
        exact ⟨a, rfl, .inr ⟨es, n, kd⟩⟩
  · exact Bool.noConfusion h
theorem vals_1 {v : V} {us : List Value} (h : Vals [v] us) : ∃ u, us = [u] ∧ RelV v u := by
  cases h with
  | cons a b => cases b; exact ⟨_, rfl, a⟩
/-- d.get(k) of a dict of the module -/
theorem kd_get1 {pins : List (Addr × Obj)} {s : Shared} {a : Addr} {es : Array DictEntry} {n : Nat} {t : Str} {tk : Tok} {o : Option Value} {E : Value → Shared → Prop} {Q : Value → Shared → Prop} (J : Inv X pins σ H s) (D : KDict X.K X.w a es n) (h : PySem.W.nsIn X.K a t = some o)
    (q : ∀ s', Inv X pins σ H s' → Q (o.getD .none) s') : wpAny (model X.prog X.w) X.A (PySem.call (.builtin "dict.get") [.ref a, .str t tk]) Q E s := by
  have hm := PySem.W.mapOf_K (prog := X.prog) (w := X.w) J.kIn D.at_ D.lit
  refine call_meetsIn PySem.F.slot_dict_get hm.typeIs PySem.F.entry_dict_get (PySem.F.args_dict_get_2 _ _) (meets_dict_get (strKind X.prog X.w) a (PySem.strKind_is X.prog X.w t tk) D.low) ⟨_, hm, ?_⟩
  rw [PySem.W.find_K D.at_ h]
  exact q _ (J.tok _)
theorem dget1_ok (F : XF N X) (R : Rel N L I rs g H) (hu : VR N I rs x u) (hv : VR N I rs y v) (ok : OkV N L I rs H W Q (opt (dgetD g x y .non) g)) : RM X "dict.get" u [v] H Q := by
  obtain ⟨r, hr, ok2⟩ := ok.opt'
  unfold dgetD at hr
  split at hr
  · rename_i ks ds kx h1 h2
    split at hr
    · rename_i hk
      have ek := key_v h2 hv
      intro pins s σ vv us J rx rxs
      obtain ⟨u1, rfl, r1⟩ := vals_1 rxs
      rcases dct_cases R h1 hu with ⟨a, kvs, rfl, e, ea, nd, rr⟩ | ⟨a, es, n, vs, kk, rfl, kd, rfl, ne, el, kat, rr⟩
      · cases rx
        subst ek
        obtain ⟨a1, a2, a3⟩ := look_v ea rr kx
        refine d_get1 (by have := F.hV; omega) J (DGet.k (k := key kx) e) r1 fun w' s' J' rw' => ⟨_, H, J', rw', ?_⟩
        split at hr
        · obtain ⟨w, b1, b2⟩ := a1 _ hr
          rw [b1]
          exact ok2.now R b2
        · rename_i hin
          cases hr
          rw [a2 (by simpa using hin)]
          exact ok2.now R .non
      · cases rx
        cases kx with
        | i j =>
          cases kk with
          | nil => exact absurd rfl ne
          | cons c kk => simp [kOk] at hk
        | s t =>
          subst ek
          obtain ⟨tk, rfl⟩ := (show ∃ tk, u1 = Value.str (st t) tk from r1)
          have h3 := kat t
          unfold KdAt at h3
          rw [← F.hK] at kd h3
          rw [← F.hw] at kd
          split at hr
          · obtain ⟨j, j1, j2⟩ := lookD_kk hr
            rw [j1] at h3
            obtain ⟨w, uw2, e1, e2, e3⟩ := h3
            obtain ⟨w', f1, f2⟩ := rr.get j2
            rw [e1] at f1
            cases f1
            exact kd_get1 (Q := EP X pins σ Q) J kd e2 fun s' J' => ⟨w, H, J', e3, ok2.now R f2⟩
          · rename_i hin
            cases hr
            have hin : t ∉ kk := fun hm => by simp [s_mem, hm] at hin
            have h0 : kk.findIdx? (· == t) = none := List.findIdx?_eq_none_iff.mpr fun b hb => by
              cases q : b == t with
              | false => rfl
              | true => exact absurd (eq_of_beq q ▸ hb) hin
            rw [h0] at h3
            exact kd_get1 (Q := EP X pins σ Q) J kd h3 fun s' J' => ⟨.non, H, J', rfl, ok2.now R .non⟩
    · cases hr
  · cases hr
theorem sv_dget1 {o i : E} (ho : SVp N P B T cf k ns o) (hi : SVp N P B T cf k ns i) : SVp N P B T cf k ns (.dget1 o i) := by
  intro s0 sc W X S e h env g σ L I rs H Q R er ok
  have ok : OkV N L I rs H W Q (((evM T cf o).v env g).bind fun x g1 => match (dctD g1 x).isSome with
    | true => ((evM T cf i).v env g1).bind fun u g2 => opt (dgetD g2 x u .non) g2
    | false => .stk) := ok
  simp only [chM, Ck.of] at h
  split at h
  · rename_i o' x ap i' p
    simp only [Bool.and_eq_true, beq_iff_eq] at h
    obtain ⟨⟨rfl, h1, h1'⟩, h3, h5, h6⟩ := h
    have hn : noSt [i'] = true := by simp [noSt, h3]
    refine we_of (pe_dgetX (e := i') (es := []) we (pa_cons we pa_nil (star_eq h3)) (ab_eq h1) (few_of hn (by simp)) (by rw [h1']; exact beq_self_eq_true _) (star_eq h3) (star_any (by simp [noSt]))) (ho.go S h5 R er ok fun v1 H1 d1 g1 I1 rs1 R1 er1 e1 r1 ok1 => ?_)
    cases hd1 : dctD g1 d1 with
    | none => rw [hd1] at ok1; exact ok1.elim
    | some kd =>
      rw [hd1] at ok1
      simp only [Option.isSome_some] at ok1
      obtain ⟨ks, ds⟩ := kd
      refine ⟨?_, hi.go S h6 R1 er1 ok1 fun v2 H2 d2 g2 I2 rs2 R2 er2 e2 r2 ok2 => dget1_ok S.F R2 (e2.vr r1) r2 ok2⟩
      rcases dct_cases R1 hd1 r1 with ⟨a, kvs, rfl, e, _⟩ | ⟨a, es, n, vs, kk, rfl, kd, _⟩
      · exact ⟨a, rfl, .inl ⟨kvs, e⟩⟩
      · rw [← S.F.hK, ← S.F.hw] at kd
        exact ⟨a, rfl, .inr ⟨es, n, kd⟩⟩
  · exact Bool.noConfusion h
end
end PC
end
section
set_option maxHeartbeats 4000000
namespace PC0
open PySem PyProof.Rows
section
variable {prog : Program} {w : World} {K : Type} [DecidableEq K] {knd : KeyKind prog w K} {A : Around} {E : Value → Shared → Prop} {s : Shared}
theorem dictPut_pairs {d : Addr} {kvs : List (K × Value)} {k : K} {key v : Value} {Q : Unit → Shared → Prop} (hkey : knd.is k key = true) (hm : s.heap.DictOf knd d kvs)
    (hQ : ∀ h', h'.DictOf knd d (stored kvs k v) → Heap.SameBut d s.heap h' → Q () { s with heap := h' })
    (hsz : kvs.length ≤ sizeLine) :
    wpAny (model prog w) A (dictPut d (knd.hash k) key v) Q E s := by
  obtain ⟨o, es, ep, ho, hc, hd, hk, hp, hn⟩ := hm
  have hes : es.size ≤ sizeLine := by have e1 := hp.length; have e2 : es.toList.length = es.size := by simp
                                      omega
  unfold dictPut
  refine wpAny_bind (wpAny_dictFind_of hkey ho hd hk ?_)
  have hidx : (es.findIdx? fun e => knd.is k e.key) = kvs.findIdx? fun kv => decide (kv.1 = k) := by
    rw [← hp.findIdx k]; obtain ⟨l⟩ := es; simp
  cases hi : es.findIdx? fun e => knd.is k e.key with
  | some i =>
    refine wpAny_updateDict ho hd (hQ _ ⟨_, _, ep, Heap.get?_update_self _ ho (Obj.isFreed_of_dict (Obj.data_mapDict hd _)),
      hc.mapDict _, Obj.data_mapDict hd _, hk.modify _ _, ?_, ?_⟩ (Heap.SameBut.update ..))
    · rw [stored, if_pos (any_of_findIdx_some (hidx ▸ hi))]
      have hl : (es.toList.findIdx? fun e => knd.is k e.key) = some i := by rw [← hi]; obtain ⟨l⟩ := es; simp
      have := hp.modify hn hl v
      obtain ⟨l⟩ := es
      simpa using this
    · rw [stored, if_pos (any_of_findIdx_some (hidx ▸ hi)), keys_map_store]; exact hn
  | none =>
    have hnot : k ∉ kvs.map (·.1) := not_mem_of_findIdx_none (hidx ▸ hi)
    have hany : ¬ (kvs.any fun kv => decide (kv.1 = k)) = true := by
      rw [List.any_eq_true]; rintro ⟨kv, hkv, he⟩
      exact hnot (List.mem_map.mpr ⟨kv, hkv, of_decide_eq_true he⟩)
    refine wpAny_updateDictKeys (hz := hes) ho hd (hQ _ ⟨_, _, ep + 1, Heap.get?_update_self _ ho (Obj.isFreed_of_dict (Obj.data_mapDictKeys hd _)),
      hc.mapDictKeys _, Obj.data_mapDictKeys hd _, hk.push hkey _, ?_, ?_⟩ (Heap.SameBut.update ..))
    · rw [stored, if_neg hany]
      have := hp.append hkey (knd.hash k) v
      obtain ⟨l⟩ := es
      simpa using this
    · rw [stored, if_neg hany, List.map_append, List.nodup_append]
      refine ⟨hn, by simp, ?_⟩
      intro a ha b hb
      simp only [List.map_cons, List.map_nil, List.mem_singleton] at hb
      subst hb
      exact fun e => hnot (e ▸ ha)
theorem sub_dict : isSubtype (.type "dict") (.type "dict") = (pure true : Sem Bool) := by rw [isSubtype_type]; kernel_rfl
theorem mergeMapping_pairs {d o : Addr} {kvs more : List (K × Value)} {Q : Unit → Shared → Prop} (hdo : d ≠ o) (hoS : (o == sysModules) = false)
    (hd : s.heap.DictOf knd d kvs) (ho : s.heap.DictOf knd o more)
    (hQ : ∀ h', h'.DictOf knd d (merged kvs more) → h'.DictOf knd o more → Heap.SameBut d s.heap h' → Q () { s with heap := h' })
    (hsz : kvs.length + more.length ≤ sizeLine) (hnr : ∀ k v, knd.is k v = true → ∀ a, v ≠ .ref a) :
    wpAny (model prog w) A (mergeMapping d (.ref o) false) Q E s := by
  obtain ⟨od, esd, epd, hod, hcd, hdd, hkd, hpd, hnd⟩ := id hd
  obtain ⟨oo, eso, epo, hoo, hco, hdo', hko, hpo, hno⟩ := id ho
  have hT : s.TypeIs (.ref o) "dict" := ho.typeIs
  have hlen : more.length = eso.size := by rw [← hpo.length]; simp
  have loop : wpAny (model prog w) A (do
      let __do_lift ← dictEntries o
      let epoch ← dictEpoch o
      forIn (List.range __do_lift.size) PUnit.unit fun i (_ : PUnit) => (do
          let l' ← dictEntries o
          match l'[i]? with
            | some e => do
              holding [e.key, e.val] (dictPut d e.hash e.key e.val)
              let ep' ← dictEpoch o
              if (ep' != epoch) = true then do
                  (unsupported "dict.changed-during-merge" : Sem PUnit)
                  pure (ForInStep.yield PUnit.unit)
                else pure (ForInStep.yield PUnit.unit)
            | _ => do
              (unsupported "dict.changed-during-merge" : Sem PUnit)
              pure (ForInStep.yield PUnit.unit) : Sem (ForInStep PUnit))
      pure ()) Q E s := by
    refine wpAny_bind (wpAny_dictEntries hoo hdo' ?_)
    refine wpAny_bind (wpAny_dictEpoch hoo hdo' ?_)
    refine wpAny_bind ?_
    rw [List.range_eq_range']
    refine wpAny_forIn_list _
      (fun rest _ s' => ∃ h' i, s' = { s with heap := h' } ∧ rest = List.range' i (eso.size - i) ∧ i ≤ eso.size ∧ h'.DictOf knd d (merged kvs (more.take i)) ∧ h'.get? o = some oo ∧ Heap.SameBut d s.heap h')
      _ ?_ ?_ _ _ ⟨s.heap, 0, rfl, by simp, Nat.zero_le _, by simpa [merged] using hd, hoo, Heap.SameBut.refl _ _⟩
    · rintro x rest b s' ⟨h', i, rfl, hr, hi, hd', hoo', hs'⟩
      have hlt : i < eso.size := by
        rcases Nat.lt_or_ge i eso.size with h | h
        · exact h
        · rw [Nat.sub_eq_zero_of_le h] at hr; simp at hr
      obtain ⟨rfl, hrest⟩ : x = i ∧ rest = List.range' (i + 1) (eso.size - (i + 1)) := by
        have e : eso.size - i = (eso.size - (i + 1)) + 1 := by omega
        rw [e, List.range'_succ] at hr
        injection hr with h1 h2
        exact ⟨h1, h2⟩
      refine wpAny_bind (wpAny_dictEntries hoo' hdo' ?_)
      rw [Array.getElem?_eq_getElem hlt]
      obtain ⟨kv, hkv⟩ : ∃ kv, more[x]? = some kv := ⟨more[x]'(by rw [hlen]; exact hlt), List.getElem?_eq_getElem _⟩
      obtain ⟨k, v⟩ := kv
      obtain ⟨hkey, hval⟩ := hpo.get? (e := eso[x]) (by simp [hlt]) hkv
      obtain ⟨k', hkey', hhash⟩ := hko eso[x] (Array.getElem_mem hlt)
      obtain rfl : k' = k := knd.inj _ _ _ hkey' hkey
      show wpAny _ _ (holding [eso[x].key, eso[x].val] (dictPut d eso[x].hash eso[x].key eso[x].val) >>= _) _ _ _
      rw [hhash, hval]
      have hmx : (merged kvs (more.take x)).length ≤ sizeLine := by
        have e1 := merged_length_le kvs (more.take x)
        have e2 : (more.take x).length ≤ more.length := by rw [List.length_take]; omega
        omega
      refine wpAny_bind (wpAny_holding (dictPut_pairs (hsz := hmx) hkey hd' fun h'' hd'' hs'' => ?_))
      have hoo'' : h''.get? o = some oo := (hs''.2 o (Ne.symm hdo)).trans hoo'
      refine wpAny_bind (wpAny_dictEpoch hoo'' hdo' ?_)
      rw [if_neg (by simp)]
      exact wpAny_pure ⟨h'', x + 1, rfl, hrest, hlt, by rw [merged_take_succ kvs more x (k', v) hkv]; exact hd'', hoo'', hs'.trans hs''⟩
    · rintro b s' ⟨h', i, rfl, hr, hi, hd', hoo', hs'⟩
      have hin : i = eso.size := by
        rcases Nat.lt_or_ge i eso.size with h | h
        · have e : eso.size - i = (eso.size - (i + 1)) + 1 := by omega
          rw [e, List.range'_succ] at hr; exact nomatch hr
        · exact Nat.le_antisymm hi h
      refine wpAny_pure (hQ h' ?_ ⟨oo, eso, epo, hoo', hco, hdo', hko, hpo, hno⟩ hs')
      rw [hin, ← hlen, List.take_length] at hd'; exact hd'
  unfold mergeMapping
  refine wpAny_bind (m := isInstance (.ref o) (.type "dict")) (wpAny_isInstance (T := "dict") (b := true) hT sub_dict ?_)
  dsimp only
  rw [if_pos rfl]
  refine wpAny_bind (m := specialOf (.ref o) (Str.ofString "__iter__")) (wpAny_specialOf hT PySem.F.slot_dict_iter.lookup ?_)
  refine wpAny_bind (wpAny_pure ?_)
  rw [show (some (Value.builtin "dict.__iter__") == some (Value.builtin "dict.__iter__")) = true from by decide]
  dsimp only
  rw [if_neg (by rw [hoS]; exact Bool.false_ne_true)]
  refine wpAny_bind (wpAny_dictEntries hod hdd ?_)
  simp only [Bool.false_eq_true, if_false]
  by_cases h0 : esd.isEmpty = true
  · rw [if_pos h0]
    refine wpAny_bind (wpAny_dictEntries hoo hdo' ?_)
    refine wpAny_bind (wpAny_of_eq (a := PUnit.unit) ?_ ?_)
    · rw [← Array.forIn_toList]
      refine forIn_yield_id _ fun e he c => ?_
      obtain ⟨k, hkey, _⟩ := hko e (Array.mem_toList_iff.mp he)
      have hb := hnr k e.key hkey
      revert hb
      cases e.key with
      | ref a => exact fun hb => absurd rfl (hb a)
      | _ => exact fun _ => rfl
    exact loop
  · rw [if_neg h0]
    exact loop
theorem gatherD (d : Addr) (f : (Option (Sem Value) × Sem Value) → (Option Addr × List (Sem Value × Sem Value)) → Sem (ForInStep (Option Addr × List (Sem Value × Sem Value))))
    (hf : ∀ (p : Sem Value × Sem Value) (run : List (Sem Value × Sem Value)), run.length + 1 < 17 → f (some p.1, p.2) (some d, run) = pure (.yield (some d, run ++ [p]))) :
    ∀ (items run : List (Sem Value × Sem Value)), run.length + items.length < 17 → forIn (items.map fun p => (some p.1, p.2)) (some d, run) f = pure (some d, run ++ items)
  | [], run, _ => by simp
  | p :: rest, run, h => by
    rw [List.map_cons, List.forIn_cons, hf p run (by simp at h; omega), pure_bind]
    have := gatherD d f hf rest (run ++ [p]) (by simp at h ⊢; omega)
    simpa using this
/-- the display {**t, pairs}: d the new dict -/
theorem display_star {t : Sem Value} {pairs : List (Sem Value × Sem Value)} {Q : Value → Shared → Prop} (h0 : pairs ≠ []) (hlen : pairs.length ≤ 15)
    (h : wpAny (model prog w) A t (fun m s1 => ∃ a, m = .ref a ∧ wpAny (model prog w) A (mergeMapping s.heap.objs.size (.ref a) false) (fun _ s2 =>
      wpAny (model prog w) A (subDict pairs) (fun sub s3 => wpAny (model prog w) A (mergeMapping s.heap.objs.size (.ref sub) false) (fun _ s4 => Q (.ref s.heap.objs.size) s4) (fun _ _ => False) s3) E s2) (fun _ _ => False) s1) E
      { s with heap := s.heap.push { cls := .type "dict", data := .dict #[] } }) :
    wpAny (model prog w) A (dictDisplay ((none, t) :: pairs.map fun p => (some p.1, p.2))) Q E s := by
  unfold dictDisplay
  dsimp only
  refine wpAny_bind ?_
  rw [List.forIn_cons]
  refine wpAny_bind ?_
  simp only [List.isEmpty_nil, if_true, pure_bind]
  refine wpAny_bind (wpAny_alloc ?_)
  refine wpAny_bind (wpAny_holding (wpAny_mono h (fun m s1 h1 => ?_) fun _ _ x => x))
  obtain ⟨a, rfl, h1⟩ := h1
  refine wpAny_bind (wpAny_onRaise (wpAny_tryCatch (wpAny_onRaise (wpAny_holding (wpAny_mono h1 (fun _ s2 h2 => ?_) fun _ _ x => x.elim)))))
  refine wpAny_pure ?_
  dsimp only
  rw [gatherD _ _ (fun p run h => by
    have hne : ((run ++ [(p.1, p.2)]).length == 17) = false := by simp; omega
    simp only [hne, Bool.false_eq_true, if_false]) pairs [] (by simpa using (by omega : pairs.length < 17))]
  refine wpAny_pure ?_
  simp only [List.nil_append]
  rw [if_neg (by simpa using h0)]
  refine wpAny_bind (wpAny_bind (wpAny_holding (wpAny_mono h2 (fun sub s3 h3 => ?_) fun _ _ x => x)))
  refine wpAny_bind (wpAny_onRaise (wpAny_holding (wpAny_mono h3 (fun _ s4 h4 => ?_) fun _ _ x => x.elim)))
  exact wpAny_pure (wpAny_pure h4)
end
end PC0
end
section
set_option maxHeartbeats 4000000
namespace PC
open PySem L2 PyProof.Rows
section
variable {N : Nm} {P : Program} {B : Heap} {T : Tab} {cf : CF} {k : Nat} {ns : List Str}
variable {s0 sc : Scope} {W : XK} {X : Cx} {L L1 I I1 I2 : Hp} {rs rs1 rs2 : List Addr} {g g1 : G} {H H1 H2 : Hp} {Q : VK} {x y z : D} {u v : V} {env : Env} {σ : L2.St}
theorem mix_nr {P : Program} {w : World} : ∀ (k : Key) (v : Value), (mixKind P w).is k v = true → ∀ a, v ≠ .ref a := fun k v h a e => by
  subst e
  rcases keyIs_shape h with ⟨i, t, _, e⟩ | ⟨x, t, _, e⟩ <;> cases e
/-- a tracked dict gets another one's entries -/
theorem mm_ok {d a : Addr} {kvs more : List (Key × V)} {A : Around} {E : Value → Shared → Prop} {Q : Unit → Shared → Prop} {pins : List (Addr × Obj)} {s : Shared} (J : Inv X pins σ H s) (hd : H d = some (.dK kvs)) (ha : H a = some (.dK more)) (hda : d ≠ a) (hz : kvs.length + more.length ≤ 40)
    (q : ∀ s', Inv X pins σ (upd H d (.dK (mergeK kvs more))) s' → Q () s') : wpAny (model X.prog X.w) A (mergeMapping d (.ref a) false) Q E s := by
  obtain ⟨z1, l1, vs1, r1, d1⟩ := dk_of J.hok hd
  obtain ⟨z2, l2, vs2, r2, d2⟩ := dk_of J.hok ha
  have e1 : vs1.length = kvs.length := (Paired.length r1).symm
  have e2 : vs2.length = more.length := (Paired.length r2).symm
  have hl : vs1.length + vs2.length ≤ sizeLine := by rw [e1, e2, sizeLine_eq]; omega
  refine PC0.mergeMapping_pairs (knd := mixKind X.prog X.w) hda l2 d1 d2 (fun h' m1 m2 sb => ?_) hl mix_nr
  refine q _ (d_write (t' := s.toks) J (by rw [hd]; exact True.intro) sb (let ⟨o, _, _, ho, _⟩ := m1; ⟨o, ho⟩) (dk_new ?_ l1 (r2.merge r1) m1))
  have := length_mergeK more kvs
  rw [sizeLine_eq]; omega
def tDstar (te : TE) (trs : List (TE × TE)) : TE := fun σ H Q => ∀ d, H d = none → te σ (upd H d (.dK [])) fun x H1 => ∃ a kvs, x = .ref a ∧ H1 a = some (.dK kvs) ∧ d ≠ a ∧ H1 d = some (.dK []) ∧ kvs.length ≤ 15 ∧ (kvs.map (·.1)).Nodup ∧
  ∀ p, H1 p = none → p ≠ d → tPairs trs σ (upd (upd H1 d (.dK kvs)) p (.dK [])) fun ps H2 => H2 p = some (.dK []) ∧ H2 d = some (.dK kvs) ∧ ∃ more : List (Key × V), ps = more.map (fun kv => (kV kv.1, kv.2)) ∧ more.length ≤ 15 ∧ (more.map (·.1)).Nodup ∧
    Q (.ref d) (upd (upd H2 p (.dK more)) d (.dK (mergeK kvs more)))
theorem pe_dstar {pos : Pos} {keys : List (Option Expr)} {e : Expr} {values : List Expr} {te : TE} {trs : List (TE × TE)} (he : PE X e te) (h : PPs X pos keys values trs) (hall : keys.all (·.isSome) = true) (hl : keys.length = values.length) (h0 : keys ≠ [])
    (h15 : keys.length ≤ 15) : PE X (.Dict (none :: keys) (e :: values) pos) (tDstar te trs) := by
  refine ⟨fun pins s σ H Q I q => ?_⟩
  have hn := I.hok.fresh (Nat.le_refl s.heap.objs.size)
  have I1 := I.laid (a := s.heap.objs.size) (o := .dK []) (h' := s.heap.push { cls := .type "dict", data := .dict #[] }) (t' := s.toks) (fun _ _ q => Heap.get?_push_of_some _ q) (Nat.le_refl _) (dk_empty s.heap I.big)
  have hz := zip_pairTrees keys values X.env pos hall hl
  have hpl := pairTrees_length keys values X.env pos hall hl
  rw [arm_eval_Dict]
  refine wpAny_bind (wpAny_standAt ?_)
  show wpAny _ _ (dictDisplay ((none, do let x ← eval e X.env; standAt pos; pure x) :: (evalEachOpt keys X.env).zip ((evalEach values X.env).map fun v => do let x ← v; standAt pos; pure x))) _ _ s
  rw [hz]
  refine PC0.display_star (fun z => ?_) (by rw [hpl]; exact h15) ?_
  · rw [z] at hpl
    exact h0 (List.length_eq_zero_iff.mp hpl.symm)
  refine wpAny_bind (thn (he.run pins _ σ _ _ I1 (q _ hn)) fun u s1 ⟨x, H1, J1, r1, a, kvs, ex, ha, hda, hd, l15, nd, q1⟩ => wpAny_bind (wpAny_standAt (wpAny_pure ?_)))
  subst ex
  cases r1
  refine ⟨a, rfl, mm_ok J1 hd ha hda (by simp; omega) fun s2 J2 => ?_⟩
  have em : mergeK [] kvs = kvs := by
    have := merge_nd kvs [] (by simpa using nd)
    simpa using this
  rw [em] at J2
  have hn2 := J2.hok.fresh (Nat.le_refl s2.heap.objs.size)
  have hne : s2.heap.objs.size ≠ s.heap.objs.size := fun z => by
    rw [z, upd_same] at hn2
    cases hn2
  have hn3 : H1 s2.heap.objs.size = none := by rw [upd_ne hne] at hn2; exact hn2
  have I3 := J2.laid (a := s2.heap.objs.size) (o := .dK []) (h' := s2.heap.push { cls := .type "dict", data := .dict #[] }) (t' := s2.toks) (fun _ _ q => Heap.get?_push_of_some _ q) (Nat.le_refl _) (dk_empty s2.heap J2.big)
  refine wpAny_subDict (knd := mixKind X.prog X.w) (by rw [hpl]; exact h15) (thn (h.run pins _ σ _ _ I3 (q1 _ hn3 hne)) fun ws s3 ⟨ps, H2, J3, rel, hp, hd2, more, ep, m15, nd2, q2⟩ => ?_)
  subst ep
  obtain ⟨rs, c, rk⟩ := carries_of (P := X.prog) (w := X.w) rel
  obtain ⟨z, hdl, vs0, r0, dd⟩ := dk_of J3.hok hp
  cases r0
  refine ⟨rs, c, dd, fun h' dd' hs => ?_⟩
  have em2 : mergeK [] more = more := by
    have := merge_nd more [] (by simpa using nd2)
    simpa using this
  have J4 : Inv X pins σ (upd H2 s2.heap.objs.size (.dK more)) { s3 with heap := h', toks := s3.toks + ws.length } := by
    have hz2 : (mergeK [] more).length ≤ sizeLine := by rw [em2, sizeLine_eq]; omega
    have := d_write (t' := s3.toks + ws.length) J3 (by rw [hp]; exact True.intro) hs (let ⟨q, _, _, hq, _⟩ := dd'; ⟨q, hq⟩) (dk_new hz2 hdl (rk.merge .nil) dd')
    rw [em2] at this
    exact this
  refine mm_ok J4 (kvs := kvs) (more := more) (by rw [upd_ne (Ne.symm hne)]; exact hd2) upd_same (Ne.symm hne) (by omega) fun s5 J5 => ?_
  exact ⟨.ref s.heap.objs.size, _, J5, rfl, q2⟩
theorem putA_v : ∀ {ks2 : List DK} {ds2 : List D} {more : List (Key × V)} {ks : List DK} {ds : List D} {kvs : List (Key × V)}, more.map (·.1) = ks2.map key → VRs N I rs ds2 (more.map (·.2)) → kvs.map (·.1) = ks.map key → ks.Nodup → VRs N I rs ds (kvs.map (·.2)) →
    (mergeK kvs more).map (·.1) = (putAk ks ks2).map key ∧ (putAk ks ks2).Nodup ∧ VRs N I rs (putAv ks ds ks2 ds2) ((mergeK kvs more).map (·.2))
  | [], ds2, more, ks, ds, kvs, h1, r1, h2, nd, r2 => by
    have : more = [] := by simpa using h1
    subst this
    cases r1
    exact ⟨h2, nd, r2⟩
  | a :: ks2, ds2, [], ks, ds, kvs, h1, r1, h2, nd, r2 => by simp at h1
  | a :: ks2, ds2, (q, w) :: more, ks, ds, kvs, h1, r1, h2, nd, r2 => by
    simp only [List.map_cons, List.cons.injEq] at h1
    obtain ⟨e1, e2⟩ := h1
    have e1 : q = key a := e1
    subst e1
    simp only [List.map_cons] at r1
    cases r1 with
    | cons h r =>
      obtain ⟨p1, p2, p3, _⟩ := put_v h a h2 nd r2
      have := putA_v e2 r p1 p2 p3
      exact this
theorem sv_dctS {a : E} {ks : List DK} {as : List E} (ha : SVp N P B T cf k ns a) (has : ∀ a ∈ as, SVp N P B T cf k ns a) : SVp N P B T cf k ns (.dctS a ks as) := by
  intro s0 sc W X S e hh env g σ L I rs H Q R er ok
  have ok : OkV N L I rs H W Q (((evM T cf a).v env g).bind fun x g1 => match x with
    | .dct kz vz => if decide (kz.length ≤ 15 ∧ vz.length = kz.length ∧ ks.Nodup ∧ ks.length ≤ 15) then (evs T cf as env g1).bind fun vs g2 => if decide (vs.length = ks.length) then .ok (.dct (putAk kz ks) (putAv kz vz ks vs)) g2 else .stk else .stk
    | _ => .stk) := ok
  simp only [chM, Ck.of] at hh
  split at hh
  · rename_i ks' a' es q
    simp only [Bool.and_eq_true, decide_eq_true_eq] at hh
    obtain ⟨⟨h1, h2, h15, hpos⟩, h3, ⟨h5, h6⟩, h4⟩ := hh
    obtain ⟨trs, p1, p2, p3⟩ := pairs_ok S (pos := q) has h1 h2 h4 h3
    refine we_of (pe_dstar we p1 p2 h2 (fun z => by rw [z] at hpos; simp at hpos) h15) fun d hd => ?_
    have hI := R.sub.free hd
    have np : ∀ {p : Addr}, H p = none → p ∉ rs := fun {p} hp hm => by
      obtain ⟨u, e⟩ := R.trk p hm
      rw [hp] at e; cases e
    have R1 : Rel N L I rs g (upd H d (.dK [])) := R.hid (np hd) hI (R.lsub.free hd)
    have hL : L d = none := R.lsub.free hd
    cases hva : (evM T cf a).v env g with
    | stk => rw [hva] at ok; exact ok.elim
    | exc xx gx =>
      rw [hva] at ok
      exact ha S h6 R1 er (by rw [hva]; exact fun I' rs' H' c dd E R' x' => ok I' rs' H' c dd (E.under hd) R' x')
    | ok d1 g1 =>
      rw [hva] at ok
      refine ha S h6 R1 er ?_
      rw [hva]
      intro I' rs' H' v1 E R' r'
      cases d1 with
      | dct kz vz =>
        have ok : OkV N L I rs H W Q (if decide (kz.length ≤ 15 ∧ vz.length = kz.length ∧ ks.Nodup ∧ ks.length ≤ 15) then (evs T cf as env g1).bind fun vs g2 => if decide (vs.length = ks.length) then .ok (.dct (putAk kz ks) (putAv kz vz ks vs)) g2 else .stk else .stk) := ok
        split at ok
        · rename_i hc
          obtain ⟨c1, c2, c3, c4⟩ := (by simpa using hc : kz.length ≤ 15 ∧ vz.length = kz.length ∧ ks.Nodup ∧ ks.length ≤ 15)
          obtain ⟨u1, u2, u3⟩ := E.unk upd_same (np hd) hI
          cases r' with
          | @dct aa kvs _ _ q1 q2 q3 q4 =>
            have hkl : kvs.length = kz.length := by simpa using congrArg List.length q2
            refine ⟨aa, kvs, rfl, R'.sub _ _ q1, fun z => (by rw [← z, u3] at q1; cases q1), u1, by omega, by rw [q2]; exact key_nd q3, fun p hp hpd => ?_⟩
            have hpr : p ∉ rs' := fun hm => by
              obtain ⟨u, e⟩ := R'.trk p hm
              rw [hp] at e; cases e
            have hpI : I' p = none := R'.sub.free hp
            have hpL : L p = none := R'.lsub.free hp
            have hpH : H p = none := by
              cases z : H p with
              | none => rfl
              | some o =>
                by_cases hm : p ∈ rs
                · obtain ⟨tt, e⟩ := E.r
                  exact absurd (by rw [← e]; exact List.mem_append_left _ hm) hpr
                · have := (E.under hd).fr p o z hm
                  rw [hp] at this; cases this
            have R2 : Rel N L I' rs' g1 (upd (upd H' d (.dK kvs)) p (.dK [])) := (R'.hid u2 u3 hL).hid hpr hpI hpL
            have E1 : Ext I rs H I' rs' (upd (upd H' d (.dK kvs)) p (.dK [])) := ((E.under hd).hid hd).hid hpH
            refine p3 R2 (er.after E1) ?_
            cases hes : evs T cf as env g1 with
            | stk => rw [hes] at ok; exact ok.elim
            | exc xx gx =>
              rw [hes] at ok
              exact fun I2 rs2 H2 c dd E2 R3 x' => ok I2 rs2 H2 c dd (E1.trans E2) R3 x'
            | ok ds g2 =>
              rw [hes] at ok
              intro I2 rs2 H2 vs E2 R3 r3 more m1 m2
              simp only [PC.R.bind] at ok
              split at ok
              · rename_i hlen
                have hlen : ds.length = ks.length := by simpa using hlen
                obtain ⟨w1, w2, w3⟩ := E2.unk upd_same hpr hpI
                obtain ⟨y1, y2, y3⟩ := E2.unk (p := d) (o := .dK kvs) (by rw [upd_ne (Ne.symm hpd), upd_same]) u2 u3
                have hml : more.length = ks.length := by simpa using congrArg List.length m1
                refine ⟨w1, y1, more, rfl, by omega, by rw [m1]; exact key_nd c3, ?_⟩
                have R4 : Rel N L I2 rs2 g2 (upd (upd H2 p (.dK more)) d (.dK (mergeK kvs more))) := (R3.hid w2 w3 hpL).hid y2 y3 hL
                have E4 : Ext I rs H I2 rs2 (upd (upd H2 p (.dK more)) d (.dK (mergeK kvs more))) := ((E1.trans E2).hid hpH).hid hd
                obtain ⟨f1, f2, f3⟩ := putA_v (N := N) (I := I2) (rs := rs2) m1 (by rw [m2]; exact r3) q2 q3 (E2.vrs q4)
                exact ok _ _ _ _ (E4.adopt hd y3) (R4.adopt y2 y3 upd_same) (.dct upd_same f1 f2 (f3.mono (fun b u e => by rw [upd_ne (ne_of_none e y3)]; exact e) (List.prefix_refl _)))
              · exact ok.elim
        · exact ok.elim
      | _ => exact ok.elim
  · exact Bool.noConfusion hh
end
end PC
end
section
set_option maxHeartbeats 4000000
namespace PC
open PySem L2 PyProof.Rows
section
variable {N : Nm} {P : Program} {B : Heap} {T : Tab} {cf : CF} {k : Nat} {ns : List Str}
variable {s0 sc : Scope} {W : XK} {X : Cx} {L L1 I I1 I2 : Hp} {rs rs1 rs2 : List Addr} {g g1 : G} {H H1 H2 : Hp} {Q : VK} {x y z : D} {u v : V} {env : Env} {σ : L2.St}
/-- new things that never change -/
theorem Rel.imms (R : Rel N L I rs g H) {H' : Hp} (S : List Addr) (hs : Same H H') (hn : ∀ a ∈ S, H a = none) :
    Rel N L (fun a => if a ∈ S then H' a else I a) rs g H' ∧ Ext I rs H (fun a => if a ∈ S then H' a else I a) rs H' := by
  have off : ∀ a o, H a = some o → a ∉ S := fun a o e z => by rw [hn a z] at e; cases e
  have si : Same I (fun a => if a ∈ S then H' a else I a) := fun b o e => by
    show (if b ∈ S then H' b else I b) = some o
    rw [if_neg (off b o (R.sub b o e))]; exact e
  refine ⟨⟨fun b o e => ?_, R.lsub.trans hs, R.len, R.nd, fun a ha => let ⟨o, e⟩ := R.trk a ha; ⟨o, hs a o e⟩, fun i a c ha hc => ?_⟩, ⟨si, List.prefix_refl _, fun a o h _ => hs a o h, fun _ h => .inl h, fun a o h => ?_⟩⟩
  · have e : (if b ∈ S then H' b else I b) = some o := e
    by_cases hb : b ∈ S
    · rw [if_pos hb] at e; exact e
    · rw [if_neg hb] at e; exact hs b o (R.sub b o e)
  · by_cases hd : c = .dead
    · subst hd; trivial
    · obtain ⟨o, ho⟩ := (R.cell i a c ha hc).tracked R hd
      exact (R.cell i a c ha hc).mono si (List.prefix_refl _) (fun q h _ => hs a q h) fun h => by
        show (if a ∈ S then H' a else I a) = none
        rw [if_neg (off a o ho)]; exact h
  · have h : (if a ∈ S then H' a else I a) = some o := h
    by_cases hb : a ∈ S
    · exact .inr (.inl (hn a hb))
    · rw [if_neg hb] at h; exact .inl h
theorem sv_addL {a b : E} (ha : SVp N P B T cf k ns a) (hb : SVp N P B T cf k ns b) : SVp N P B T cf k ns (.addL a b) := by
  intro s0 sc W X S e h env g σ L I rs H Q R er ok
  have ok : OkV N L I rs H W Q (((evM T cf a).v env g).bind fun x g1 => ((evM T cf b).v env g1).bind fun y g2 => addR x y g2) := ok
  cases e <;> simp only [chM, Ck.of] at h <;> first | exact Bool.noConfusion h | skip
  simp only [Bool.and_eq_true, beq_iff_eq] at h
  obtain ⟨rfl, h1, h2⟩ := h
  refine we_of (pe_op rw_op we we) (ha.go S h1 R er ok fun v1 H1 d1 g1 I1 rs1 R1 er1 e1 r1 ok1 => hb.go S h2 R1 er1 ok1 fun v2 H2 d2 g2 I2 rs2 R2 er2 e2 r2 ok2 => ?_)
  unfold addR at ok2
  split at ok2
  · rename_i x y q1 q2
    obtain ⟨p, xs, rfl, hx, kx⟩ := R2.lst (e2.vr r1) q1
    obtain ⟨p2, ys, rfl, hy, ky⟩ := R2.lst r2 q2
    obtain ⟨m1, m2⟩ := mk_ok R2 (kx.append ky) ok2
    exact rw_of op_catX ⟨_, _, xs, ys, rfl, rfl, by rw [S.F.hK]; exact hx, by rw [S.F.hK]; exact hy, by rw [List.length_append] at m1; exact m1, m2⟩
  · exact ok2.elim
theorem dkD_v (k : DK) : VR N I rs (dkD k) (kV (key k)) := by
  cases k with
  | i k => exact .int k
  | s x => exact .str x
theorem items_v {J H' : Hp} (S : List Addr) : ∀ {ts : List Addr} {kvs : List (Key × V)} {ks : List DK} {ds : List D}, Paired (fun (t : Addr) (q : Key × V) => H' t = some (.tup [kV q.1, q.2])) ts kvs → (∀ t ∈ ts, t ∈ S) → kvs.map (·.1) = ks.map key →
    VRs N (fun a => if a ∈ S then H' a else J a) rs ds (kvs.map (·.2)) → VRs N (fun a => if a ∈ S then H' a else J a) rs (itemsP ks ds) (ts.map V.ref)
  | [], [], ks, ds, .nil, hs, h1, r => by
    cases ks with
    | nil => exact .nil
    | cons _ _ => simp at h1
  | t :: ts, q :: kvs, ks, ds, .cons h p, hs, h1, r => by
    cases ks with
    | nil => simp at h1
    | cons k ks =>
      simp only [List.map_cons, List.cons.injEq] at h1
      obtain ⟨e1, e2⟩ := h1
      simp only [List.map_cons] at r
      cases r with
      | cons r0 r =>
        refine .cons (.tup (.inl (.inl ?_)) (.cons (dkD_v k) (.cons r0 .nil))) (items_v S p (fun a ha => hs a (List.mem_cons_of_mem _ ha)) e2 r)
        show (if t ∈ S then H' t else J t) = _
        rw [if_pos (hs t List.mem_cons_self), h, e1]
theorem sv_itemsL {o : E} (ho : SVp N P B T cf k ns o) : SVp N P B T cf k ns (.itemsL o) := by
  intro s0 sc W X S e h env g σ L I rs H Q R er ok
  have ok : OkV N L I rs H W Q (((evM T cf o).v env g).bind fun x g1 => itemsR x g1) := ok
  simp only [chM, Ck.of] at h
  split at h
  · rename_i x p o' y ap cp q
    simp only [Bool.and_eq_true, beq_iff_eq] at h
    obtain ⟨⟨⟨rfl, h2⟩, rfl, h3, h3'⟩, h4⟩ := h
    obtain ⟨b1, b2, b3, b4⟩ := bl_of S h2
    refine we_of (LiI.pe_listItems S.F.hc we b1 b2 (by decide +kernel) (ab_eq h3) (by rw [h3']; exact beq_self_eq_true _) rfl) (ho.go S h4 R er ok fun v1 H1 d1 g1 I1 rs1 R1 er1 e1 r1 ok1 => ?_)
    unfold itemsR at ok1
    split at ok1
    · rename_i ks vs
      split at ok1
      · cases r1 with
        | @dct a kvs _ _ q1 q2 q3 q4 =>
          refine ⟨a, kvs, rfl, R1.sub _ _ q1, fun H' p ts hk hp ht hpt hl hpr => ?_⟩
          obtain ⟨R2, E2⟩ := R1.imms (H' := H') (p :: ts) hk fun b hb => by
            rcases List.mem_cons.mp hb with z | z
            · rw [z]; exact hp
            · exact ht b z
          refine ok1 _ _ _ _ E2 R2 (.lst (SqX.of ?_) (items_v (p :: ts) hpr (fun t ht => List.mem_cons_of_mem _ ht) q2 (q4.mono E2.i E2.r)))
          show (if p ∈ p :: ts then H' p else I1 p) = _
          rw [if_pos List.mem_cons_self]; exact hl
      · exact ok1.elim
    · exact ok1.elim
  · exact Bool.noConfusion h
theorem pairs_v {J : Hp} {K : PySem.W.Frag} (hK : K = N.K) (hJ : Same J H) : ∀ {l : List D} {vs : List V} {p : List DK × List D}, pairsD l = some p → VRs N J rs l vs → ∃ (ps : List Addr) (kvs : List (Key × V)), vs = ps.map V.ref ∧ Paired (fun p kv => SqT K H p [kV kv.1, kv.2]) ps kvs ∧ kvs.map (·.1) = p.1.map key ∧ VRs N J rs p.2 (kvs.map (·.2))
  | [], _, p, h, .nil => by cases h; exact ⟨[], [], rfl, .nil, rfl, .nil⟩
  | d :: l, _, p, h, .cons r0 r => by
    unfold pairsD at h
    split at h
    · rename_i q; cases q
    · rename_i k w t q
      cases q
      simp only [Option.map_eq_some_iff] at h
      obtain ⟨p', hp', rfl⟩ := h
      obtain ⟨ps, kvs, e1, e2, e3, e4⟩ := pairs_v hK hJ hp' r
      cases r0 with
      | @tup a ws _ h1 h2 =>
        cases h2 with
        | cons a1 a2 =>
          cases a1
          obtain ⟨w', rfl, a3⟩ := v1 a2
          subst hK
          exact ⟨a :: ps, (key (.s k), w') :: kvs, by rw [e1]; rfl, .cons (same_t hJ h1) e2, by simp [e3], .cons a3 e4⟩
    · cases h
theorem sv_dictP {a : E} (ha : SVp N P B T cf k ns a) : SVp N P B T cf k ns (.dictP a) := by
  intro s0 sc W X S e h env g σ L I rs H Q R er ok
  have ok : OkV N L I rs H W Q (((evM T cf a).v env g).bind fun x g1 => dictR x g1) := ok
  simp only [chM, Ck.of] at h
  split at h
  · rename_i x p a' q
    simp only [Bool.and_eq_true, beq_iff_eq] at h
    obtain ⟨⟨rfl, h2⟩, h3, h4⟩ := h
    obtain ⟨b1, b2, b3, b4⟩ := bl_of S h2
    refine we_of (pe_callTy (call_dictP S.F.hc) b1 b2 (by decide +kernel) (pa_cons we pa_nil (star_eq h3)) b3 b4 (star_eq h3) rfl) (ha.go S h4 R er ok fun v1 H1 d1 g1 I1 rs1 R1 er1 e1 r1 ok1 => ?_)
    unfold dictR at ok1
    split at ok1
    · rename_i l hl
      obtain ⟨a, vs, rfl, q1, q2⟩ := R1.lst r1 hl
      split at ok1
      · rename_i pr hp
        obtain ⟨ps, kvs, rfl, e2, e3, e4⟩ := pairs_v (H := H1) S.F.hK R1.sub hp q2
        obtain ⟨m1, m2, m3⟩ := putA_v (ks := []) (ds := []) (kvs := []) e3 e4 rfl List.nodup_nil .nil
        refine ⟨a, ps, kvs, rfl, by rw [S.F.hK]; exact q1.sq, e2, fun p hp => ?_⟩
        obtain ⟨R2, E2⟩ := R1.imm (o := .dK (mergeK [] kvs)) hp
        exact ok1 _ _ _ _ E2 R2 (.dct upd_same m1 m2 (m3.mono E2.i E2.r))
      · exact ok1.elim
    · exact ok1.elim
  · exact Bool.noConfusion h
end
end PC
end
section
set_option maxHeartbeats 4000000
namespace PC
open PySem L2 PyProof.Rows
section
variable {prog : Program} {w : World} {A : Around} {E : Value → Shared → Prop} {s : Shared} {K : PySem.W.Frag} {x C f : Addr} {ox : Obj} {od : Option Obj} {b tb : Value}
/-- x.__ne__(b) where only __eq__ is an own def -/
theorem ne_call {Q : Value → Shared → Prop} (hu : A.units + 1 < cLine) (X : K.In s.heap) (J : PySem.W.InstAt s.heap x ox C od) (ho : PySem.W.subIn K (.ref C) (.type "object") = some true) (hs : PySem.W.findIn K (.ref C) "__eq__" = some (some (.ref f))) (hf : PySem.W.isFn K (.ref f) = true)
    (h : wpAny (model prog w) A.in1 (PySem.call (.ref f) [.ref x, b]) (fun v s' => ∃ c, v = .bool c ∧ Q (.bool (!c)) s') E s) : wpAny (model prog w) A (PySem.call (.builtin "object.__ne__") [.ref x, b]) Q E s := by
  have hi : PySem.W.Looks (model prog w) s.heap (isInstance (.ref x) (.type "object")) true := J.type.andThen (PySem.W.looks_subIn X ho)
  refine wpAny_call (codeAny_call_builtin PySem.F.cmp_object.ne.plain PySem.F.cmpEntry_ne (PySem.W.check_slot PySem.F.cmpKind_ne PySem.F.cmpSplit_ne hi (PySem.F.cmpArgs_ne _ _) ?_))
  obtain ⟨hp, gs, dr, tk, os⟩ := s
  unfold Builtin.«object.__ne__»
  have hu1 : A.in1.units < cLine := hu
  repeat (first
    | with_reducible refine wpAny_cRoomFor hu1 ?_
    | (refine wpAny_bind (m := callSpecialIfBound? (.ref x) (Str.ofString "__eq__") [b]) (PySem.W.ifBound_K X J hs hf (wpAny_mono h (fun r s' hr => by
        obtain ⟨c, e, hq⟩ := hr
        subst e
        repeat (first | exact hq | exact wpAny_pure hq | exact wpAny_truthy_bool hq | (refine wpAny_bind (m := truthy (.bool _)) (wpAny_truthy_bool ?_)) | exact ⟨_, rfl, hq⟩ | wp_step)) fun _ _ e => e)))
    | wp_step)
theorem ne_own {Q : Value → Shared → Prop} (hu : A.units + 1 < cLine) (X : K.In s.heap) (J : PySem.W.InstAt s.heap x ox C od) (hb : PySem.W.Looks (model prog w) s.heap (typeOf b) tb) (hn : PySem.W.notFirst K C tb = true) (ho : PySem.W.subIn K (.ref C) (.type "object") = some true)
    (hne : PySem.W.findIn K (.ref C) "__ne__" = some (some (.builtin "object.__ne__"))) (hs : PySem.W.findIn K (.ref C) "__eq__" = some (some (.ref f))) (hf : PySem.W.isFn K (.ref f) = true)
    (h : wpAny (model prog w) A.in1 (PySem.call (.ref f) [.ref x, b]) (fun v s' => ∃ c, v = .bool c ∧ Q (.bool (!c)) s') E s) : wpAny (model prog w) A (richCompare .NotEq (.ref x) b) Q E s := by
  have cl : wpAny (model prog w) A (PySem.call (.builtin "object.__ne__") [.ref x, b]) (fun v s' => ∃ c, v = .bool c ∧ Q (.bool c) s') E s :=
    ne_call hu X J ho hs hf (wpAny_mono h (fun v s' ⟨c, e, q⟩ => ⟨c, e, !c, rfl, q⟩) fun _ _ e => e)
  have one : wpAny (model prog w) A (tryCompare (.ref x) (cmpInfo .NotEq).2.1 b) (fun r s' => ∃ v, r = some v ∧ Q v s') E s := by
    show wpAny (model prog w) A (tryCompare (.ref x) "__ne__" b) _ E s
    unfold tryCompare callSpecialIfBound? bindSpecialIfBound?
    have fin : wpAny (model prog w) A (PySem.call (.builtin "object.__ne__") ([.ref x] ++ [b]) >>= fun v => pure (some v)) (fun r s' => ∃ c, r = some (Value.bool c) ∧ Q (.bool c) s') E s :=
      wpAny_bind (wpAny_mono cl (fun v s' ⟨c, e, q⟩ => wpAny_pure ⟨c, by rw [e], q⟩) fun _ _ e => e)
    refine wpAny_bind (wpAny_mono (Q := fun r s' => ∃ c, r = some (Value.bool c) ∧ Q (.bool c) s') ?_ (fun r s' ⟨c, e, q⟩ => by subst e; exact wpAny_pure ⟨_, rfl, q⟩) fun _ _ e => e)
    refine wpAny_holding (wpAny_bind (wpAny_bind (wpAny_bind (J.type.here ((PySem.W.looks_findIn X hne).here ?_)))))
    refine wpAny_bind (wpAny_askSetting (wpAny_ite ?_))
    have hbi := PySem.F.cmp_object.ne.bind (.ref x)
    split
    · rw [hbi]
      exact wpAny_bind (wpAny_pure (wpAny_pure (by exact fin)))
    · rw [hbi]
      exact wpAny_tryCatch (wpAny_bind (wpAny_pure (wpAny_pure (by exact fin))))
  have back : wpAny (model prog w) A (tryCompare (.ref x) (cmpInfo .NotEq).2.1 b) (fun r s' => ∃ v, r = some v ∧ Q v s') E s := one
  have nb : PySem.W.subIn K tb (.ref C) = some false ∨ (tb == Value.ref C) = true := by
    unfold PySem.W.notFirst at hn
    rcases Bool.or_eq_true_iff.mp hn with e | e
    · exact .inr e
    · exact .inl (beq_iff_eq.mp e)
  have hu0 : A.units < cLine := by omega
  unfold richCompare
  simp only [oneThing_ref]
  refine wpAny_holding (wpAny_bind (wpAny_cRoomFor hu0 (wpAny_bind (J.type.here (wpAny_bind (hb.here ?_))))))
  by_cases hq : (Value.ref C != tb) = true
  · have e : PySem.W.subIn K tb (.ref C) = some false := nb.resolve_right fun z => by rw [beq_iff_eq.mp z] at hq; simp at hq
    rw [if_pos hq]
    refine wpAny_bind ((PySem.W.looks_subIn X e).here ?_)
    simp only [Bool.false_eq_true, if_false]
    exact wpAny_bind (wpAny_mono back (fun r s' ⟨v, e, q⟩ => by subst e; exact wpAny_pure q) fun _ _ e => e)
  · rw [if_neg hq]
    refine wpAny_bind (wpAny_pure ?_)
    simp only [Bool.false_eq_true, if_false]
    exact wpAny_bind (wpAny_mono back (fun r s' ⟨v, e, q⟩ => by subst e; exact wpAny_pure q) fun _ _ e => e)
/-- bool(x) by an own __bool__ -/
theorem bool_own {Q : Value → Shared → Prop} (X : K.In s.heap) (J : PySem.W.InstAt s.heap x ox C od) (hs : PySem.W.findIn K (.ref C) "__bool__" = some (some (.ref f))) (hf : PySem.W.isFn K (.ref f) = true)
    (h : wpAny (model prog w) A.in1.in1 (PySem.call (.ref f) [.ref x]) (fun r s' => ∃ c, r = .bool c ∧ Q r s') E s) : wpAny (model prog w) A (PySem.call (.type "bool") [.ref x]) Q E s := by
  refine callType_codes (T := "bool") (Bi := Builtin.«object.__init__») (Q₁ := fun r s' => ∃ c, r = .bool c ∧ Q r s') PySem.F.called_bool (PySem.F.typeCall_bool_1 _) PySem.F.entry_object_init (codeAny_of_tree ?_) ?_
  · show wpAny _ A.in1.in1 (do checkBuiltinCall "bool.__new__" ⟨[.type "bool", .ref x], []⟩; again (.builtin "bool.__new__" ⟨[.type "bool", .ref x], []⟩)) _ _ s
    refine wpAny_bind (wpAny_of_eq (PySem.F.newCall_bool_1 _) (wpAny_pure ⟨plainId_quiet (by decide +kernel) _, codeAny_builtin PySem.F.entry_bool_new ?_⟩)); rw [Around.under_plainId (by decide +kernel) _]
    have tr : wpAny (model prog w) A.in1.in1 (truthy (.ref x)) (fun c s' => Q (.bool c) s') E s := by
      unfold truthy
      refine wpAny_bind (m := callSpecial? (.ref x) (Str.ofString "__bool__")) (PySem.W.special_fn X J hs (beq_iff_eq.mp hf) (wpAny_mono h (fun r s' ⟨c, e, q⟩ => ?_) fun _ _ e => e))
      subst e
      exact wpAny_pure q
    obtain ⟨hp, gs, dr, tk, os⟩ := s
    have f1 := PySem.F.conv_sub_bool
    unfold Builtin.«bool.__new__»
    repeat (first
      | (refine wpAny_bind (m := truthy (.ref x)) (wpAny_mono tr (fun c s' q => ?_) fun _ _ e => e))
      | assumption
      | wp_step)
    all_goals first | exact ⟨_, rfl, q⟩ | exact ⟨_, rfl, _, rfl, q⟩ | skip
  · rintro obj s₁ ⟨c, rfl, hq⟩
    exact ⟨PySem.typeIs_bool _ _, PySem.F.args_object_init_2 _ _, object_init_meets PySem.F.called_bool.init.lookup PySem.F.called_bool.made (by decide) prog w A.in1 _ s₁ ⟨PySem.typeIs_bool _ _, rfl, hq⟩⟩
end
section
variable {N : Nm} {P : Program} {B : Heap} {T : Tab} {cf : CF} {k : Nat} {ns : List Str}
variable {s0 sc : Scope} {W : XK} {X : Cx} {L L1 I I1 I2 : Hp} {rs rs1 rs2 : List Addr} {g g1 : G} {H H1 H2 : Hp} {Q : VK} {x y z : D} {u v : V} {env : Env} {σ : L2.St}
/-- the type of data that are no instances -/
theorem ty_data (R : Rel N L I rs g H) (hu : VR N I rs x u) (h : clsD g x = none) (h2 : okR g y x = true) : ∃ n ∈ tyNs, TyX N.K H u (.type n) := by
  unfold okR at h2
  rw [h] at h2
  cases e : top g x with
  | lst l =>
    obtain ⟨a, vs, rfl, q, _⟩ := R.lst hu e
    exact ⟨"list", by decide, ty_lst q⟩
  | tup l =>
    obtain ⟨a, vs, rfl, q, _⟩ := R.tup hu e
    exact ⟨"tuple", by decide, ty_tup q⟩
  | non =>
    have := top_ne e (fun l => by simp); subst this
    cases hu
    exact ⟨"NoneType", by decide, .base .non⟩
  | bl b =>
    have := top_ne e (fun l => by simp); subst this
    cases hu
    exact ⟨"bool", by decide, .base (.bl _)⟩
  | int i =>
    have := top_ne e (fun l => by simp); subst this
    cases hu
    exact ⟨"int", by decide, .base (.int _)⟩
  | str s =>
    have := top_ne e (fun l => by simp); subst this
    cases hu
    exact ⟨"str", by decide, .base (.str _)⟩
  | dct ks vs =>
    have := top_ne e (fun l => by simp); subst this
    cases hu with
    | dct h1 h2 h3 h4 => exact ⟨"dict", by decide, .base (.dK (R.sub _ _ h1))⟩
  | _ => rw [e] at h2; cases h2
theorem looks_of {pins : List (Addr × Obj)} {s : Shared} {x : V} {u t : Value} (J : Inv X pins σ H s) (rx : RelV x u) (ty : TyX X.K H x t) : PySem.W.Looks (model X.prog X.w) s.heap (typeOf u) t := by
  obtain ⟨P, Z, p, _⟩ := kit_of J rx ty
  exact Z.ty _ _ J.kIn p
/-- an own def, its receiver -/
structure OwnAt (N : Nm) (T : Tab) (H : Hp) (g : G) (m : Nat) (x : D) (v : V) (f c : Nat) : Prop where
  cls : clsD g x = some c
  ow : T.ow c = true
  mt : T.mt c m = some f
  at_ : ∃ a dx fs, v = .ref a ∧ H a = some (.ins (N.ca c) dx fs)
theorem own_at {f : Nat} (R : Rel N L I rs g H) (hx : VR N I rs x v) (h : ownF T g m x = some f) : ∃ c, OwnAt N T H g m x v f c := by
  unfold ownF at h
  split at h
  · rename_i c hc
    split at h
    · rename_i hw
      obtain ⟨a, dx, fs, _, _, rfl, h7, _⟩ := ins_cases R (cls_met hc) hx
      exact ⟨c, cls_met hc, hw, h, a, dx, fs, rfl, h7⟩
    · cases h
  · cases h
/-- what a bool answer promises -/
theorem bl_ok {r : R D} {φ : Bool → Bool} (ok : OkV N L I rs H W Q (blR φ r)) : OkV N L I rs H W (fun v H1 => ∃ b, v = .bl b ∧ Q (.bl (φ b)) H1) r := by
  unfold blR at ok
  cases r with
  | stk => exact ok
  | exc e g => exact ok
  | ok d g =>
    cases d with
    | bl b =>
      have ok : OkV N L I rs H W Q (.ok (.bl (φ b)) g) := ok
      intro I' rs' H' v E R1 r1
      cases r1
      exact ⟨_, rfl, ok I' rs' H' _ E R1 (.bl _)⟩
    | _ => exact ok.elim
theorem own_units (S : XS N P B T cf k ns s0 sc W X) : X.A.units + 1 < cLine := by have := S.F.hV; omega
theorem ownEq_ok (S : XS N P B T cf k ns s0 sc W X) {m : Nat} (hnm : N.nm m = Str.ofString "__eq__") (R : Rel N L I rs g H) (hx : VR N I rs x v) (hy : VR N I rs y u) (ok : OkV N L I rs H W Q (ownRC T cf .eq m x y g)) : RW X (compareOp .Eq) v u H Q := by
  unfold ownRC at ok
  simp only at ok
  split at ok
  · rename_i f hf
    split at ok
    · rename_i hr
      obtain ⟨c, O⟩ := own_at R hx hf
      obtain ⟨a, dx, fs, rfl, ha⟩ := O.at_
      have F := S.fa.ow c O.ow
      obtain ⟨c1, c2⟩ := S.fa.mt c m f O.mt
      rw [hnm] at c2
      intro pins s σ vv uu J rx ry
      cases (show vv = Value.ref a from rx)
      obtain ⟨mA, M, _⟩ := ins_get J.hok ha
      obtain ⟨od, J1, _⟩ := M.look
      obtain ⟨m', hF⟩ := J.fr
      have hK := S.F.hK
      have ty : ∃ tb, PySem.W.Looks (model X.prog X.w) s.heap (typeOf uu) tb ∧ PySem.W.notFirst N.K (N.ca c) tb = true := by
        cases hc : clsD g y with
        | none =>
          obtain ⟨n, hn, t⟩ := ty_data R hy hc hr
          exact ⟨_, looks_of J ry (by rw [hK]; exact t), F.nf n hn⟩
        | some c' =>
          have e : c' = c := by
            unfold okR at hr
            rw [hc, O.cls] at hr
            simpa [eq_comm] using hr
          subst e
          obtain ⟨b, dy, gs, _, _, rfl, hb, _⟩ := ins_cases R hc hy
          cases (show uu = Value.ref b from ry)
          obtain ⟨mB, M', _⟩ := ins_get J.hok hb
          obtain ⟨od', J2, _⟩ := M'.look
          exact ⟨_, J2.type, by unfold PySem.W.notFirst; simp⟩
      obtain ⟨tb, t1, t2⟩ := ty
      rw [← hK] at t2 c2
      show wpAny (model X.prog X.w) X.A (richCompare .Eq (.ref a) uu) _ _ _
      refine PySem.W.cmp_K (op := .Eq) (tb := tb) (by have := own_units S; omega) hF J.ok.mod.kin J1 t1 t2 c2.at_ c2.fn (thn (S.rc R (.cons hx (.one hy)) (bl_ok ok) pins s σ [.ref a, uu] J (.cons rfl (.cons ry .nil))) fun w s' ⟨v', H', J', r', b, e, q⟩ => ?_)
      subst e
      cases r'
      exact ⟨.bl b, H', J', rfl, q⟩
    · exact ok.elim
  · exact ok.elim
theorem ownNe_ok (S : XS N P B T cf k ns s0 sc W X) {m : Nat} (hnm : N.nm m = Str.ofString "__eq__") (R : Rel N L I rs g H) (hx : VR N I rs x v) (hy : VR N I rs y u) (ok : OkV N L I rs H W Q (ownRC T cf .ne m x y g)) : RW X (compareOp .NotEq) v u H Q := by
  unfold ownRC at ok
  simp only at ok
  split at ok
  · rename_i f hf
    split at ok
    · rename_i hr
      obtain ⟨c, O⟩ := own_at R hx hf
      obtain ⟨a, dx, fs, rfl, ha⟩ := O.at_
      have F := S.fa.ow c O.ow
      obtain ⟨c1, c2⟩ := S.fa.mt c m f O.mt
      rw [hnm] at c2
      intro pins s σ vv uu J rx ry
      cases (show vv = Value.ref a from rx)
      obtain ⟨mA, M, _⟩ := ins_get J.hok ha
      obtain ⟨od, J1, _⟩ := M.look
      have hK := S.F.hK
      have ty : ∃ tb, PySem.W.Looks (model X.prog X.w) s.heap (typeOf uu) tb ∧ PySem.W.notFirst N.K (N.ca c) tb = true := by
        cases hc : clsD g y with
        | none =>
          obtain ⟨n, hn, t⟩ := ty_data R hy hc hr
          exact ⟨_, looks_of J ry (by rw [hK]; exact t), F.nf n hn⟩
        | some c' =>
          have e : c' = c := by
            unfold okR at hr
            rw [hc, O.cls] at hr
            simpa [eq_comm] using hr
          subst e
          obtain ⟨b, dy, gs, _, _, rfl, hb, _⟩ := ins_cases R hc hy
          cases (show uu = Value.ref b from ry)
          obtain ⟨mB, M', _⟩ := ins_get J.hok hb
          obtain ⟨od', J2, _⟩ := M'.look
          exact ⟨_, J2.type, by unfold PySem.W.notFirst; simp⟩
      obtain ⟨tb, t1, t2⟩ := ty
      have k1 := F.ob
      have k2 := F.ne
      rw [← hK] at t2 c2 k1 k2
      show wpAny (model X.prog X.w) X.A (richCompare .NotEq (.ref a) uu) _ _ _
      refine ne_own (own_units S) J.kIn J1 t1 t2 k1 k2 c2.at_ c2.fn (thn (S.cb1 R (.cons hx (.one hy)) (bl_ok ok) pins s σ [.ref a, uu] J (.cons rfl (.cons ry .nil))) fun w s' ⟨v', H', J', r', b, e, q⟩ => ?_)
      subst e
      cases r'
      exact ⟨b, rfl, .bl (!b), H', J', rfl, q⟩
    · exact ok.elim
  · exact ok.elim
theorem ownIn_ok (S : XS N P B T cf k ns s0 sc W X) {m : Nat} (hnm : N.nm m = Str.ofString "__contains__") (R : Rel N L I rs g H) (hx : VR N I rs x v) (hy : VR N I rs y u) (ok : OkV N L I rs H W Q (ownRC T cf .in_ m x y g)) : RW X (compareOp .In) v u H Q := by
  unfold ownRC at ok
  simp only at ok
  split at ok
  · rename_i f hf
    obtain ⟨c, O⟩ := own_at R hy hf
    obtain ⟨a, dx, fs, rfl, ha⟩ := O.at_
    obtain ⟨c1, c2⟩ := S.fa.mt c m f O.mt
    rw [hnm] at c2
    intro pins s σ vv uu J rx ry
    cases (show uu = Value.ref a from ry)
    obtain ⟨mA, M, _⟩ := ins_get J.hok ha
    obtain ⟨od, J1, _⟩ := M.look
    obtain ⟨m', hF⟩ := J.fr
    rw [← S.F.hK] at c2
    refine PySem.W.in_K hF J.ok.mod.kin J1 c2.at_ c2.fn (thn (S.rc R (.cons hy (.one hx)) (bl_ok ok) pins s σ [.ref a, vv] J (.cons rfl (.cons rx .nil))) fun w s' ⟨v', H', J', r', b, e, q⟩ => ?_)
    subst e
    cases r'
    exact wpAny_truthy_bool ⟨.bl b, H', J', rfl, q⟩
  · exact ok.elim
theorem ownNi_ok (S : XS N P B T cf k ns s0 sc W X) {m : Nat} (hnm : N.nm m = Str.ofString "__contains__") (R : Rel N L I rs g H) (hx : VR N I rs x v) (hy : VR N I rs y u) (ok : OkV N L I rs H W Q (ownRC T cf .notin m x y g)) : RW X (compareOp .NotIn) v u H Q := by
  unfold ownRC at ok
  simp only at ok
  split at ok
  · rename_i f hf
    obtain ⟨c, O⟩ := own_at R hy hf
    obtain ⟨a, dx, fs, rfl, ha⟩ := O.at_
    obtain ⟨c1, c2⟩ := S.fa.mt c m f O.mt
    rw [hnm] at c2
    intro pins s σ vv uu J rx ry
    cases (show uu = Value.ref a from ry)
    obtain ⟨mA, M, _⟩ := ins_get J.hok ha
    obtain ⟨od, J1, _⟩ := M.look
    obtain ⟨m', hF⟩ := J.fr
    rw [← S.F.hK] at c2
    refine PySem.W.notIn_K hF J.ok.mod.kin J1 c2.at_ c2.fn (thn (S.rc R (.cons hy (.one hx)) (bl_ok ok) pins s σ [.ref a, vv] J (.cons rfl (.cons rx .nil))) fun w s' ⟨v', H', J', r', b, e, q⟩ => ?_)
    subst e
    cases r'
    exact wpAny_truthy_bool ⟨.bl (!b), H', J', rfl, q⟩
  · exact ok.elim
/-- a subscript by an own __getitem__ -/
theorem ownItem_ok (S : XS N P B T cf k ns s0 sc W X) {m : Nat} (hnm : N.nm m = Str.ofString "__getitem__") (R : Rel N L I rs g H) (hx : VR N I rs x v) (hy : VR N I rs y u) (ok : OkV N L I rs H W Q (ownR2 T cf .item m x y g)) {pins : List (Addr × Obj)} {s : Shared} {vv uu : Value} (J : Inv X pins σ H s) (rx : RelV v vv) (ry : RelV u uu)
    (value slice : Expr) (hs : ixB slice = true) : wpAny (model X.prog X.w) X.A (subscriptTail value slice vv uu) (EP X pins σ Q) X.xe s := by
  unfold ownR2 at ok
  split at ok
  · rename_i f hf
    have ok : OkV N L I rs H W Q (cf f [x, y] g) := ok
    obtain ⟨c, O⟩ := own_at R hx hf
    obtain ⟨a, dx, fs, rfl, ha⟩ := O.at_
    obtain ⟨c1, c2⟩ := S.fa.mt c m f O.mt
    have c3 := S.fa.fni c m f O.ow O.mt
    rw [hnm] at c2
    cases (show vv = Value.ref a from rx)
    obtain ⟨mA, M, _⟩ := ins_get J.hok ha
    obtain ⟨od, J1, _⟩ := M.look
    obtain ⟨m', hF⟩ := J.fr
    rw [← S.F.hK] at c2 c3
    exact PySem.W.sub_K hF J.ok.mod.kin J1 c2.at_ c3 c2.fn (S.cb1 R (.cons hx (.one hy)) ok pins s σ [.ref a, uu] J (.cons rfl (.cons ry .nil))) (by cases slice <;> first | rfl | cases hs)
  · exact ok.elim
theorem ownLen_ok (S : XS N P B T cf k ns s0 sc W X) {m : Nat} (hnm : N.nm m = Str.ofString "__len__") (R : Rel N L I rs g H) (hx : VR N I rs x v) (ok : OkV N L I rs H W Q (ownR1 T cf .len m x g)) : RC X (.builtin "len") [v] H Q := by
  unfold ownR1 at ok
  split at ok
  · rename_i f hf
    have ok : OkV N L I rs H W Q ((cf f [x] g).bind fun d g1 => (match d with
      | .int i => if decide (0 ≤ i ∧ i < 4611686018427387904) then .ok (.int i) g1 else .stk
      | _ => .stk)) := ok
    obtain ⟨c, O⟩ := own_at R hx hf
    obtain ⟨a, dx, fs, rfl, ha⟩ := O.at_
    obtain ⟨c1, c2⟩ := S.fa.mt c m f O.mt
    rw [hnm] at c2
    have ok2 : OkV N L I rs H W (fun v H1 => ∃ i : Int, v = .int i ∧ (0 ≤ i ∧ i < 4611686018427387904) ∧ Q (.int i) H1) (cf f [x] g) := by
      cases hr : cf f [x] g with
      | stk => rw [hr] at ok; exact ok
      | exc e g2 => rw [hr] at ok; exact ok
      | ok d g2 =>
        rw [hr] at ok
        cases d with
        | int i =>
          have ok : OkV N L I rs H W Q (if decide (0 ≤ i ∧ i < 4611686018427387904) then .ok (.int i) g2 else .stk) := ok
          split at ok
          · rename_i hi
            intro I' rs' H' v E R1 r1
            cases r1
            exact ⟨i, rfl, by simpa using hi, ok I' rs' H' _ E R1 (.int _)⟩
          · exact ok.elim
        | _ => exact ok.elim
    intro pins s σ us J r
    obtain ⟨vv, rfl, rx⟩ := r.one
    cases (show vv = Value.ref a from rx)
    obtain ⟨mA, M, _⟩ := ins_get J.hok ha
    obtain ⟨od, J1, _⟩ := M.look
    obtain ⟨m', hF⟩ := J.fr
    rw [← S.F.hK] at c2
    refine PySem.W.len_K hF J.ok.mod.kin J1 c2.at_ c2.fn (thn (S.cb1 R (.one hx) ok2 pins s σ [.ref a] J (.cons rfl .nil)) fun w s' ⟨v', H', J', r', i, e, hi, q⟩ => ?_)
    subst e
    obtain ⟨t, e⟩ := (show ∃ t, w = Value.int i t from r')
    subst e
    exact ⟨⟨hi.1, by omega⟩, .int i, H', J'.tok _, ⟨_, rfl⟩, q⟩
  · exact ok.elim
theorem ownBool_ok (S : XS N P B T cf k ns s0 sc W X) {m : Nat} (hnm : N.nm m = Str.ofString "__bool__") (R : Rel N L I rs g H) (hx : VR N I rs x v) (ok : OkV N L I rs H W Q (ownR1 T cf .bool m x g)) : RC X (.type "bool") [v] H Q := by
  unfold ownR1 at ok
  split at ok
  · rename_i f hf
    have ok : OkV N L I rs H W Q (blR id (cf f [x] g)) := ok
    obtain ⟨c, O⟩ := own_at R hx hf
    obtain ⟨a, dx, fs, rfl, ha⟩ := O.at_
    obtain ⟨c1, c2⟩ := S.fa.mt c m f O.mt
    rw [hnm] at c2
    intro pins s σ us J r
    obtain ⟨vv, rfl, rx⟩ := r.one
    cases (show vv = Value.ref a from rx)
    obtain ⟨mA, M, _⟩ := ins_get J.hok ha
    obtain ⟨od, J1, _⟩ := M.look
    rw [← S.F.hK] at c2
    refine bool_own J.kIn J1 c2.at_ c2.fn (thn (S.cb2 R (.one hx) (bl_ok ok) pins s σ [.ref a] J (.cons rfl .nil)) fun w s' ⟨v', H', J', r', b, e, q⟩ => ?_)
    subst e
    cases r'
    exact ⟨b, rfl, .bl b, H', J', rfl, q⟩
  · exact ok.elim
theorem ownAdd_ok (S : XS N P B T cf k ns s0 sc W X) {m : Nat} (hnm : N.nm m = Str.ofString "__add__") (R : Rel N L I rs g H) (hx : VR N I rs x v) (hy : VR N I rs y u) (ok : OkV N L I rs H W Q (ownR2 T cf .add m x y g)) : RW X (binaryOp .Add) v u H Q := by
  unfold ownR2 at ok
  split at ok
  · rename_i f hf
    have ok : OkV N L I rs H W Q (match top g y with
      | .str _ => cf f [x, y] g
      | _ => if decide (clsD g y = clsD g x) then cf f [x, y] g else .stk) := ok
    obtain ⟨c, O⟩ := own_at R hx hf
    obtain ⟨a, dx, fs, rfl, ha⟩ := O.at_
    have F := S.fa.ow c O.ow
    obtain ⟨c1, c2⟩ := S.fa.mt c m f O.mt
    rw [hnm] at c2
    have k1 := F.sf
    have k2 := F.ra
    have k3 := F.nf "str" (by decide)
    intro pins s σ vv uu J rx ry
    cases (show vv = Value.ref a from rx)
    obtain ⟨mA, M, _⟩ := ins_get J.hok ha
    obtain ⟨od, J1, _⟩ := M.look
    obtain ⟨m', hF⟩ := J.fr
    rw [← S.F.hK] at c2 k1 k2 k3
    have go : ∀ (ok : OkV N L I rs H W Q (cf f [x, y] g)), wpAny (model X.prog X.w) X.A (PySem.call (.ref (N.fa f)) [.ref a, uu]) (PySem.W.CmpBack (EP X pins σ Q)) X.xe s := fun ok =>
      thn (S.rc R (.cons hx (.one hy)) ok pins s σ [.ref a, uu] J (.cons rfl (.cons ry .nil))) fun w s' ⟨v', H', J', r', q⟩ => SlX.cmpback r' ⟨v', H', J', r', q⟩
    split at ok
    · rename_i t e
      rw [top_str e] at hy
      cases hy
      obtain ⟨tk, e2⟩ := (show ∃ tk, uu = Value.str (st t) tk from ry)
      subst e2
      have hsub : PySem.W.subIn X.K (.type "str") (.ref (N.ca c)) = some false := by
        unfold PySem.W.notFirst at k3
        rcases Bool.or_eq_true_iff.mp k3 with z | z
        · cases beq_iff_eq.mp z
        · exact beq_iff_eq.mp z
      exact PySem.W.ksp_binT (op := .Add) (T := "str") hF J.ok.mod.kin J1 rfl k1 c2.at_ c2.fn k2 (.inl rfl) (fo := some (.builtin "str.__add__")) (ro := none) (by kernel_rfl) (by kernel_rfl) hsub (go ok)
    · split at ok
      · rename_i hcc
        have hcc : clsD g y = clsD g x := by simpa using hcc
        obtain ⟨b, dy, gs, _, _, rfl, hb, _⟩ := ins_cases R (hcc.trans O.cls) hy
        cases (show uu = Value.ref b from ry)
        obtain ⟨mB, M', _⟩ := ins_get J.hok hb
        obtain ⟨od', J2, _⟩ := M'.look
        exact PySem.W.binop_K (op := .Add) hF J.ok.mod.kin J1 J2.type k1 c2.at_ c2.fn (go ok)
      · exact ok.elim
  · exact ok.elim
/-- the type of data that are asked for their class -/
theorem ty_all {t : Ty} {b : Bool} (R : Rel N L I rs g H) (hu : VR N I rs x u) (h : clsD g x = none) (h2 : isTyG T g t x = some b) : ∃ n ∈ tyNs, TyX N.K H u (.type n) := by
  unfold isTyG at h2
  rw [h] at h2
  simp only at h2
  split at h2
  · cases h2
  · rename_i i e
    have := top_ne e (fun l => by simp)
    subst this
    split at h2
    · rename_i ks ds q
      cases hu with
      | ref hi =>
        obtain ⟨_, _, kvs, h3, _⟩ := R.cell _ _ _ hi q
        exact ⟨"dict", by decide, .base (.dK h3)⟩
    · cases h2
  · cases h2
  · cases h2
  · rename_i n1 n2 n3 n4
    cases e : top g x with
    | cls c => exact absurd e (n3 c)
    | xob c ns vs => exact absurd e (n4 c ns vs)
    | mdc ks vs =>
      have := top_ne e (fun l => by simp); subst this
      cases hu with
      | kdc h1 _ _ _ _ => exact ⟨"dict", by decide, .kDict h1.at_ rfl⟩
    | ref i => exact absurd e (n2 i)
    | obj c ns vs => exact absurd e (n1 c ns vs)
    | lst l => exact ty_data (y := x) R hu h (by unfold okR; rw [h, e])
    | tup l => exact ty_data (y := x) R hu h (by unfold okR; rw [h, e])
    | non => exact ty_data (y := x) R hu h (by unfold okR; rw [h, e])
    | bl l => exact ty_data (y := x) R hu h (by unfold okR; rw [h, e])
    | int l => exact ty_data (y := x) R hu h (by unfold okR; rw [h, e])
    | str l => exact ty_data (y := x) R hu h (by unfold okR; rw [h, e])
    | dct ks l => exact ty_data (y := x) R hu h (by unfold okR; rw [h, e])
theorem no_cls {c : Nat} {b : Bool} (h : clsD g x = none) (h2 : isTyG T g (.cls c) x = some b) : b = false := by
  unfold isTyG at h2
  rw [h] at h2
  simp only at h2
  split at h2
  · cases h2
  · split at h2 <;> cases h2
    rfl
  · cases h2
  · cases h2
  · cases h2
    cases top g x <;> rfl
theorem tyB_of (S : XS N P B T cf k ns s0 sc W X) {t : Ty} {e : Expr} (hq : ∀ c, t ≠ .cls c) (h : tyB N.toNz sc t e = true) : (∀ c, t ≠ .cls c) ∧ PE X e (tC (.ty (tyN t))) := by
  unfold tyB at h
  split at h
  · exact absurd rfl (hq _)
  · rename_i hn
    simp only [Bool.and_eq_true, beq_iff_eq] at h
    obtain ⟨h1, rfl⟩ := h
    obtain ⟨b1, b2, b3, b4⟩ := bl_of S h1
    have hc : ∀ c, t ≠ .cls c := fun c e => hn c e
    exact ⟨hc, pe_bltn b1 b2 (boot_ty t hc) rfl b3 b4⟩
  · exact Bool.noConfusion h
theorem sv_isi {ts : List Ty} {a : E} (ha : SVp N P B T cf k ns a) : SVp N P B T cf k ns (.isi ts a) := by
  intro s0 sc W X S e h env g σ L I rs H Q R er ok
  have ok : OkV N L I rs H W Q (((evM T cf a).v env g).bind fun x g1 => opt ((anyTy T g1 x ts).map .bl) g1) := ok
  simp only [chM, Ck.of] at h
  split at h
  · rename_i x p a' c q
    simp only [Bool.and_eq_true, beq_iff_eq] at h
    obtain ⟨⟨rfl, h2⟩, ⟨h3, h4⟩, h5⟩ := h
    obtain ⟨b1, b2, b3, b4⟩ := bl_of S h2
    cases c with
    | Name y p2 =>
      cases ts with
      | nil => exact Bool.noConfusion h4
      | cons t ts =>
        cases ts with
        | cons _ _ => exact Bool.noConfusion h4
        | nil =>
          have one : ∀ {d1 : D} {g1 : G} {b : Bool}, anyTy T g1 d1 [t] = some b → isTyG T g1 t d1 = some b := by
            intro d1 g1 b hb
            simp only [anyTy] at hb
            split at hb
            · rename_i p1 q1 e1 e2
              cases e2
              cases hb
              rw [Bool.or_false]; exact e1
            · cases hb
          by_cases hcl : ∃ c', t = .cls c'
          · obtain ⟨c', rfl⟩ := hcl
            have h4 : (N.cg c' && (N.cn c' == y && glB sc y)) = true := h4
            simp only [Bool.and_eq_true, beq_iff_eq] at h4
            obtain ⟨h41, h42, h43⟩ := h4
            obtain ⟨k1, k2, k3⟩ := S.fa.cls c' h41
            obtain ⟨q1, q2⟩ := gl_of h43 S.sc
            have pc : PE X (.Name y p2) (tC (.ref (N.ca c'))) := pe_glob q1 (by rw [S.mg, ← h42]; exact k1) rfl q2
            refine we_of (pe_callB (call_isi) b1 b2 (by decide +kernel) (pa_cons we (pa_cons pc pa_nil rfl) (star_eq h3)) b3 b4 (star_eq h3) rfl) ?_
            refine ha.go S h5 R er ok fun v1 H1 d1 g1 I1 rs1 R1 er1 e1 r1 ok1 => ?_
            obtain ⟨z, hz, ok2⟩ := ok1.opt'
            simp only [Option.map_eq_some_iff] at hz
            obtain ⟨b, hb, rfl⟩ := hz
            have hb2 := one hb
            have hK := S.F.hK
            cases hcd : clsD g1 d1 with
            | some cc =>
              have hb3 := hb2
              unfold isTyG at hb3
              rw [hcd] at hb3
              simp only at hb3
              split at hb3
              · rename_i hw
                cases hb3
                obtain ⟨a, dx, fs, _, _, rfl, ha', _⟩ := ins_cases R1 hcd r1
                have F := S.fa.ow cc hw
                refine ⟨.ref a, .ref (N.ca c'), .ref (N.ca cc), .ref (N.ca c'), _, rfl, .own _, ?_, ?_, ok2.now R1 (.bl _)⟩
                · rw [hK]; exact .base (.ins ha' F.cl F.ca F.cn F.ct F.cm)
                · rw [hK]; exact k3 cc hw
              · cases hb3
            | none =>
              obtain ⟨n, hn, ty⟩ := ty_all R1 r1 hcd hb2
              have := no_cls hcd hb2
              subst this
              refine ⟨v1, .ref (N.ca c'), .type n, .ref (N.ca c'), false, rfl, .own _, ?_, ?_, ok2.now R1 (.bl _)⟩
              · rw [hK]; exact ty
              · rw [hK]; exact k2 n hn
          obtain ⟨hc, pc⟩ := tyB_of S (fun c e => hcl ⟨c, e⟩) (show tyB N.toNz sc t (.Name y p2) = true from h4)
          refine we_of (pe_callB (call_isi) b1 b2 (by decide +kernel) (pa_cons we (pa_cons pc pa_nil rfl) (star_eq h3)) b3 b4 (star_eq h3) rfl) ?_
          refine ha.go S h5 R er ok fun v1 H1 d1 g1 I1 rs1 R1 er1 e1 r1 ok1 => ?_
          obtain ⟨z, hz, ok2⟩ := ok1.opt'
          simp only [Option.map_eq_some_iff] at hz
          obtain ⟨b, hb, rfl⟩ := hz
          have hb2 : isTyG T g1 t d1 = some b := by
            simp only [anyTy] at hb
            split at hb
            · rename_i p1 q1 e1 e2
              cases e2
              cases hb
              rw [Bool.or_false]; exact e1
            · cases hb
          obtain ⟨tv, k1, k2⟩ := is_ok hc hb2 R1 r1
          rw [← S.F.hK] at k1 k2
          exact ⟨v1, _, tv, _, b, rfl, .ty _, k1, k2, ok2.now R1 (.bl _)⟩
    | _ => exact Bool.noConfusion (show false = true by cases ts with | nil => exact h4 | cons t ts => cases ts <;> exact h4)
  · exact Bool.noConfusion h
/-! ### as expressions -/
theorem bl_is {φ : Bool → Bool} {r : R D} {d : D} {g : G} (h : blR φ r = .ok d g) : ∃ b, d = .bl b := by
  unfold blR at h
  cases r with
  | ok d' g' => cases d' <;> cases h; exact ⟨_, rfl⟩
  | exc _ _ => cases h
  | stk => cases h
theorem own_bl {q : Ow} {m : Nat} {d : D} {g2 : G} (h : ownRC T cf q m x y g = .ok d g2) : ∃ b, d = .bl b := by
  unfold ownRC at h
  split at h
  · split at h
    · split at h
      · exact bl_is h
      · cases h
    · cases h
  · split at h
    · split at h
      · exact bl_is h
      · cases h
    · cases h
  · split at h
    · exact bl_is h
    · cases h
  · split at h
    · exact bl_is h
    · cases h
  · cases h
theorem pe_ixO {a b : Expr} {pos : Pos} {ta tb : TE} {r : R2} (hr : ∀ (pins : List (Addr × Obj)) (s : Shared) (σ : L2.St) (H : Hp) (x y : V) (v u : Value) (Q : VK), Inv X pins σ H s → RelV x v → RelV y u → r x y H Q → wpAny (model X.prog X.w) X.A (subscriptTail a b v u) (EP X pins σ Q) X.xe s) (ha : PE X a ta) (hb : PE X b tb) : PE X (.Subscript a b pos) (tOp r ta tb) :=
  ⟨fun pins s σ H Q I h => Subscript_ (binT ha hb I h fun v u s2 x y H2 I2 rx ry q => hr pins s2 σ H2 x y v u Q I2 rx ry q)⟩
theorem sv_own1 {q : Ow} {m : Nat} {a : E} (ha : SVp N P B T cf k ns a) : SVp N P B T cf k ns (.own1 q m a) := by
  intro s0 sc W X S e h env g σ L I rs H Q R er ok
  have ok : OkV N L I rs H W Q (((evM T cf a).v env g).bind fun x g1 => ownR1 T cf q m x g1) := ok
  simp only [chM, Ck.of] at h
  split at h
  · simp only [Bool.and_eq_true, beq_iff_eq] at h
    obtain ⟨⟨hm, rfl, h2⟩, h3, h4⟩ := h
    obtain ⟨b1, b2, b3, b4⟩ := bl_of S h2
    exact we_of (pe_callB rc_op b1 b2 (by decide +kernel) (pa_cons we pa_nil (star_eq h3)) b3 b4 (star_eq h3) rfl) (ha.go S h4 R er ok fun v1 H1 d1 g1 I1 rs1 R1 er1 e1 r1 ok1 => ownLen_ok S hm R1 r1 ok1)
  · simp only [Bool.and_eq_true, beq_iff_eq] at h
    obtain ⟨⟨hm, rfl, h2⟩, h3, h4⟩ := h
    obtain ⟨b1, b2, b3, b4⟩ := bl_of S h2
    exact we_of (pe_callTy rc_op b1 b2 (by decide +kernel) (pa_cons we pa_nil (star_eq h3)) b3 b4 (star_eq h3) rfl) (ha.go S h4 R er ok fun v1 H1 d1 g1 I1 rs1 R1 er1 e1 r1 ok1 => ownBool_ok S hm R1 r1 ok1)
  · exact Bool.noConfusion h
theorem sv_own2 {q : Ow} {m : Nat} {a b : E} (ha : SVp N P B T cf k ns a) (hb : SVp N P B T cf k ns b) : SVp N P B T cf k ns (.own2 q m a b) := by
  intro s0 sc W X S e h env g σ L I rs H Q R er ok
  have ok : OkV N L I rs H W Q (((evM T cf a).v env g).bind fun x g1 => ((evM T cf b).v env g1).bind fun y g2 => ownR2 T cf q m x y g2) := ok
  simp only [chM, Ck.of] at h
  split at h
  · simp only [Bool.and_eq_true, beq_iff_eq] at h
    obtain ⟨⟨hm, h0⟩, h1, h2⟩ := h
    rename_i a' b' p z
    refine we_of (pe_ixO (r := fun x y H2 Q2 => ∀ (pins : List (Addr × Obj)) (s : Shared) (σ : L2.St) (v u : Value), Inv X pins σ H2 s → RelV x v → RelV y u → wpAny (model X.prog X.w) X.A (subscriptTail a' b' v u) (EP X pins σ Q2) X.xe s) (fun pins s σ H x y v u Q J rx ry h => h pins s σ v u J rx ry) we we) ?_
    exact ha.go S h1 R er ok fun v1 H1 d1 g1 I1 rs1 R1 er1 e1 r1 ok1 => hb.go S h2 R1 er1 ok1 fun v2 H2 d2 g2 I2 rs2 R2 er2 e2 r2 ok2 => fun pins s σ v u J rx ry => ownItem_ok S hm R2 (e2.vr r1) r2 ok2 J rx ry a' b' h0
  · simp only [Bool.and_eq_true, beq_iff_eq] at h
    obtain ⟨hm, h1, h2⟩ := h
    exact we_of (pe_op rw_op we we) (ha.go S h1 R er ok fun v1 H1 d1 g1 I1 rs1 R1 er1 e1 r1 ok1 => hb.go S h2 R1 er1 ok1 fun v2 H2 d2 g2 I2 rs2 R2 er2 e2 r2 ok2 => ownAdd_ok S hm R2 (e2.vr r1) r2 ok2)
  · exact Bool.noConfusion h
theorem sv_ownC {q : Ow} {m : Nat} {a b : E} (ha : SVp N P B T cf k ns a) (hb : SVp N P B T cf k ns b) : SVp N P B T cf k ns (.ownC q m a b) ∧ STp N P B T cf k ns (.ownC q m a b) := by
  have key : ∀ {s0 sc : Scope} {W : XK} {X : Cx} (S : XS N P B T cf k ns s0 sc W X) {p : CmpOp} {g : G} {L I : Hp} {rs : List Addr} {H : Hp} {Q : VK} {x y : D} {v u : V}, owC q = some p → N.nm m = Str.ofString (owN q) → Rel N L I rs g H → VR N I rs x v → VR N I rs y u → OkV N L I rs H W Q (ownRC T cf q m x y g) → RW X (compareOp p) v u H Q := by
    intro s0 sc W X S p g L I rs H Q x y v u hp hm R hx hy ok
    cases q <;> cases hp
    · exact ownEq_ok S hm R hx hy ok
    · exact ownNe_ok S hm R hx hy ok
    · exact ownIn_ok S hm R hx hy ok
    · exact ownNi_ok S hm R hx hy ok
  constructor
  · intro s0 sc W X S e h env g σ L I rs H Q R er ok
    have ok : OkV N L I rs H W Q (((evM T cf a).v env g).bind fun x g1 => ((evM T cf b).v env g1).bind fun y g2 => ownRC T cf q m x y g2) := ok
    simp only [chM, Ck.cmp] at h
    split at h
    · simp only [Bool.and_eq_true, beq_iff_eq, Bool.not_eq_true'] at h
      obtain ⟨⟨hp, hm⟩, h0, h1, h2⟩ := h
      exact we_of (pe_cmpR rw_op we we h0) (ha.go S h1 R er ok fun v1 H1 d1 g1 I1 rs1 R1 er1 e1 r1 ok1 => hb.go S h2 R1 er1 ok1 fun v2 H2 d2 g2 I2 rs2 R2 er2 e2 r2 ok2 => key S hp hm R2 (e2.vr r1) r2 ok2)
    · exact Bool.noConfusion h
  · intro s0 sc W X S e h env g σ L I rs H Q R er ok
    have ok : OkB N L I rs H W Q ((((evM T cf a).v env g).bind fun x g1 => ((evM T cf b).v env g1).bind fun y g2 => ownRC T cf q m x y g2).bind fun x g1 => opt (tru g1 x) g1) := ok
    simp only [PC.R.bind_assoc] at ok
    simp only [chM, Ck.cmp] at h
    split at h
    · simp only [Bool.and_eq_true, beq_iff_eq, Bool.not_eq_true'] at h
      obtain ⟨⟨hp, hm⟩, h0, h1, h2⟩ := h
      refine wt_of (pt_cmpR rw_op we we h0) (ha.go S h1 R er ok fun v1 H1 d1 g1 I1 rs1 R1 er1 e1 r1 ok1 => hb.go S h2 R1 er1 ok1 fun v2 H2 d2 g2 I2 rs2 R2 er2 e2 r2 ok2 => key S hp hm R2 (e2.vr r1) r2 ?_)
      cases hr : ownRC T cf q m d1 d2 g2 with
      | stk => rw [hr] at ok2; exact ok2.elim
      | exc x g3 => rw [hr] at ok2; exact ok2
      | ok d g3 =>
        rw [hr] at ok2
        have hd : ∃ b, d = .bl b := own_bl hr
        obtain ⟨b, rfl⟩ := hd
        intro I' rs' H' v E R' r'
        cases r'
        exact ⟨b, rfl, ok2 I' rs' H' b E R' rfl⟩
    · exact Bool.noConfusion h
theorem mcK_tree {o : Expr} {m : Str} {ap p : Pos} {kws : List Keyword} {en : PySem.Env} (hb : abB o = true) (hk : (backToKw p (keywordEach kws en)).all (·.1.isSome) = true) (h0 : 0 < kws.length) (hl : kws.length < 20) (hp : (ap.endLine == p.line) = true) :
    eval (.Call (.Attribute o m ap) [] kws p) en = (do
      let ov ← eval o en
      standAt ap.atName
      let (f, first) ← holding [ov] (getMethod ov m (do return (← importBound o en).getD true))
      callWith p f first (backTo p (starEach [] en)) (backToKw p (keywordEach kws en))) := by
  have few : methodCallForm (([] : List Expr).length + kws.length) (backTo p (starEach [] en)) (backToKw p (keywordEach kws en)) = true := by
    have e : (backToKw p (keywordEach kws en)).isEmpty = false := by
      cases kws with
      | nil => simp at h0
      | cons q _ => cases q; rfl
    unfold methodCallForm
    rw [hk]
    simp [starEach, backTo, e]
    omega
  rw [arm_eval_Call, ab_eq hb]
  unfold methodCall
  rw [few]
  unfold calleeOf methodCallPos
  rw [hp]
  simp only [if_true, Bool.not_true, Bool.or_true, Bool.or_false, pure_bind]
theorem sv_methK {m f : Nat} {o : E} {ks : List E} (ho : SVp N P B T cf k ns o) (hk : SAp N P B T cf k ns ks) : SVp N P B T cf k ns (.methK m f o ks) := by
  intro s0 sc W X S e h env g σ L I rs H Q R er ok
  have ok : OkV N L I rs H W Q (((evM T cf o).v env g).bind fun x g1 => if decide (metF T g1 m x = some f) then (evs T cf ks env g1).bind fun ws g2 => if decide (ws.length = ks.length) then cf f (x :: ws) g2 else .stk else .stk) := ok
  simp only [chM, Ck.of] at h
  split at h
  · rename_i o' x ap kws p
    simp only [Bool.and_eq_true, beq_iff_eq, decide_eq_true_eq] at h
    obtain ⟨⟨rfl, h1, h1'⟩, ⟨h8, h5⟩, ⟨h6, h0, hl, hes⟩, h3, h4⟩ := h
    have h8 : (kws.length + 1, 1) ∈ N.cs f := by simpa using h8
    obtain ⟨k1, k2, k3, k4⟩ := kw_of (pos := p) (env := X.env) (of_decide_eq_true (show decide (kws.map (·.arg) = _) = true from h5))
    have zt : ∀ (a : List Str) (b : List Value), (a.take b.length).zip b = a.zip b := by
      intro a
      induction a with
      | nil => intro b; simp
      | cons c a ih =>
        intro b
        cases b with
        | nil => simp
        | cons d b => simp [ih]
    refine fun pins s J => PySem.W.methodCall_KW (thn (ho.go S h3 R er ok (Q := fun v H1 => ∃ a dx fs c, v = .ref a ∧ H1 a = some (.ins (N.ca c) dx fs) ∧ fs.lookup (N.nm m) = none ∧ T.mt c m = some f ∧
      WK X kws σ H1 (fun ws H2 => ws.length = kws.length ∧ ∀ (pins : List (Addr × Obj)) (s : Shared) (us : List Value), Inv X pins σ H2 s → Vals ws us → wpAny (model X.prog X.w) X.A (PySem.call (.ref (N.fa f)) [.ref a] (((N.pn f).drop 1).zip us)) (EP X pins σ Q) X.xe s)) (fun v1 H1 d1 g1 I1 rs1 R1 er1 e1 r1 ok1 => ?_) pins s J) fun u s1 ⟨v, H1, J1, rx, a, dx, fs, c, ex, h7, h9, h10, q⟩ => ?_) (mcK_tree h1 k1 h0 hl (by rw [h1']; exact beq_self_eq_true _))
    · split at ok1
      · rename_i hm
        have hm : metF T g1 m d1 = some f := by simpa using hm
        unfold metF at hm
        cases hd : metD g1 m d1 with
        | none => rw [hd] at hm; cases hm
        | some c =>
          rw [hd] at hm
          obtain ⟨a, dx, fs, ns', ds, rfl, h7, h9, h10, h11, h12⟩ := ins_cases R1 (cls_met hd) r1
          have hc : ns'.contains m = false := by
            have z := h12 m
            rw [hd] at z
            cases q : ns'.contains m with
            | false => rfl
            | true => rw [q] at z; cases z
          refine ⟨a, dx, fs, c, rfl, h7, lookN_v S.fa.nmi h9 hc, hm, wk_mono ((hk S).2 h4 h6 R1 er1 ok1.first') fun zs H2 ⟨ws, g2, I2, rs2, e0, e2, R2, r2, ok2⟩ => ?_⟩
          split at ok2
          · rename_i hws
            have hws : ws.length = ks.length := by simpa using hws
            have hz : zs.length = kws.length := by rw [← r2.length, hws, hes]
            refine ⟨hz, fun pins s us J rv => ?_⟩
            have c := S.cp R2 (.cons (e2.vr r1) r2) ok2 1 (.inr (.inl (by
              have q2 : (V.ref a :: zs).length = kws.length + 1 := by rw [List.length_cons, hz]
              rw [q2]; exact ⟨by omega, h8⟩))) pins s σ (.ref a :: us) J (.cons rfl rv)
            rw [argJ_le (by simp)] at c
            simpa using c
          · exact ok2.elim
      · exact ok1.elim
    · subst ex
      obtain rfl : u = Value.ref a := rx
      obtain ⟨c1, c2⟩ := S.fa.mt c m f h10
      rw [← S.F.hK] at c1 c2
      refine getmeth_ok J1 h7 c1 c2 h9 ?_
      refine PySem.W.callWith_KW0 (first := [.ref a]) (h₀ := X.base) J1.ok.mod.kin c2.kp k1 (thn (q p pins s1 J1) fun us s2 ⟨ws, H2, J2, rv, q2⟩ => ⟨J2.kIn, ?_⟩) ?_
      · have hlen : us.length = kws.length := by rw [← q2.1]; exact rv.length.symm
        have := q2.2 pins s2 us J2 rv
        rw [k2, ← hlen, zt]
        exact this
      · show (false || (backToKw p (keywordEach kws X.env)).any (·.1.isNone)) = false
        rw [k3]; rfl
  · exact Bool.noConfusion h
end
end PC
end
section
set_option maxHeartbeats 4000000
namespace PC
open PySem PySem.Spec PyProof.Rows L2 ClX
section
variable {N : Nm} {P : Program} {B : Heap} {T : Tab} {cf : CF} {k : Nat} {ns : List Str} {s0 sc : Scope} {W : XK} {X : Cx}
/-- the callee's code -/
theorem XS.cd (S : XS N P B T cf k ns s0 sc W X) {f : Nat} {ds : List D} {g : G} {ws : List V} {L I : Hp} {rs : List Addr} {H : Hp} {Q : VK} (R : Rel N L I rs g H) (hv : VRs N I rs ds ws) (ok : OkV N L I rs H W Q (cf f ds g)) (j : Nat) (cj : CsOk N f ws.length j) :
    ∀ (pins : List (Addr × Obj)) (s : Shared) (σ : L2.St) (us : List Value), Inv X pins σ H s → Vals ws us → codeAny (model X.prog X.w) X.A (.call (.ref (N.fa f)) (argJ (N.pn f) us j)) (fun r s' => match r with | .ok (.ret v) => EP X pins σ Q v s' | .ok _ => False | .error e => X.xe e s') s := by
  intro pins s σ us J r
  have e0 := J.env0
  have h := S.pr f ds g ws L I rs H Q W R hv ok j cj X.A X.stack s us (S.room.mono (by omega)) S.F.hg
  have hx := S.hx
  have e1 := S.prog
  have e2 := S.mg
  have e3 := S.base
  have e4 := S.F.hK
  have e5 := S.F.hw
  subst e1 e3
  rw [← e5, ← e4, ← e2] at h
  rw [← e5] at hx
  refine codeAny_mono (h e0 r) fun r s' hq => ?_
  cases r with
  | error e => exact hx pins σ H s e s' J hq
  | ok fl =>
    cases fl with
    | ret u => exact J.after hq
    | next => exact False.elim hq
    | brk => exact False.elim hq
    | cont => exact False.elim hq
theorem XS.cd0 (S : XS N P B T cf k ns s0 sc W X) {f : Nat} {ds : List D} {g : G} {ws : List V} {L I : Hp} {rs : List Addr} {H : Hp} {Q : VK} (R : Rel N L I rs g H) (hv : VRs N I rs ds ws) (ok : OkV N L I rs H W Q (cf f ds g))
    (pins : List (Addr × Obj)) (s : Shared) (σ : L2.St) (us : List Value) (J : Inv X pins σ H s) (r : Vals ws us) : codeAny (model X.prog X.w) X.A (.call (.ref (N.fa f)) ⟨us, []⟩) (fun r s' => match r with | .ok (.ret v) => EP X pins σ Q v s' | .ok _ => False | .error e => X.xe e s') s := by
  have h := S.cd R hv ok us.length (.inl r.length) pins s σ us J r
  rw [argJ_all] at h
  exact h
end
section
variable {N : Nm} {P : Program} {B : Heap} {T : Tab} {cf : CF} {k : Nat} {ns : List Str}
theorem sv_cmeth {m f c : Nat} {as : List E} (ha : SAp N P B T cf k ns as) : SVp N P B T cf k ns (.cmeth m f c as) := by
  intro s0 sc W X S e h env g σ L I rs H Q R er ok
  have ok : OkV N L I rs H W Q (if decide (T.cm c m = some f) then (evs T cf as env g).bind fun vs g1 => cf f (.cls c :: vs) g1 else .stk) := ok
  simp only [chM, Ck.of] at h
  split at h
  · rename_i x px y ap e1 es p
    simp only [Bool.and_eq_true, beq_iff_eq, decide_eq_true_eq] at h
    obtain ⟨⟨⟨h41, h42, h43⟩, rfl, h1'⟩, ⟨h3, h4⟩, h5⟩ := h
    split at ok
    · rename_i hT
      have hT : T.cm c m = some f := by simpa using hT
      obtain ⟨k1, k2, k3⟩ := S.fa.cls c h41
      obtain ⟨q1, q2⟩ := gl_of h43 S.sc
      have pc : PE X (.Name x px) (tC (.ref (N.ca c))) := pe_glob q1 (by rw [S.mg, ← h42]; exact k1) rfl q2
      obtain ⟨p0, rd, cm⟩ := S.fa.cm c m f hT
      rw [← S.F.hK] at rd cm
      have wa := ha.go S h5 R er ok (Q1 := fun vs H2 => ∀ (pins : List (Addr × Obj)) (s : Shared) (us : List Value), Inv X pins σ H2 s → Vals vs us → codeAny (model X.prog X.w) X.A (.call (.ref (N.fa f)) ⟨.ref (N.ca c) :: us, []⟩) (fun r s' => match r with | .ok (.ret v) => EP X pins σ Q v s' | .ok _ => False | .error e => X.xe e s') s)
        fun vs H2 ds2 g2 I2 rs2 R2 er2 e2 r2 ok2 => fun pins s us J rv => S.cd0 R2 (.cons (.cls c) r2) ok2 pins s σ (.ref (N.ca c) :: us) J (.cons rfl rv)
      have hn := h3
      simp only [noSt, List.all_cons, Bool.and_eq_true] at hn
      refine fun pins s J => PySem.W.methodCall_KW (thn (pc.run pins s σ H (fun v H1 => v = .ref (N.ca c) ∧ H1 = H) J ⟨rfl, rfl⟩) fun u s1 ⟨v, H1, J1, rx, ex, eH⟩ => ?_) (mc_tree rfl h3 (by simp; omega) (by rw [h1']; exact beq_self_eq_true _))
      subst ex eH
      obtain rfl : u = Value.ref (N.ca c) := rx
      refine getmethcm_ok J1 rd cm fun s2 J2 => ?_
      refine callwith_cm J2 (base_none J1 (Nat.le_refl _)) cm.fi (thn (wa p _ s2 J2) fun us s3 ⟨vs, H2, J3, rv, q3⟩ => ⟨⟨pin_at J3, J3.kIn⟩, ?_⟩) (star_eq hn.1) (star_any hn.2)
      exact thn (wpAny_call (PySem.W.method_call (pin_at J3) (q3 _ s3 us J3 rv))) fun _ _ y => unpinE y
    · exact ok.elim
  · exact Bool.noConfusion h
theorem sv_cmethK {m f c : Nat} {ks : List E} (ha : SAp N P B T cf k ns ks) : SVp N P B T cf k ns (.cmethK m f c ks) := by
  intro s0 sc W X S e h env g σ L I rs H Q R er ok
  have ok : OkV N L I rs H W Q (if decide (T.cm c m = some f) then (evs T cf ks env g).bind fun ws g1 => if decide (ws.length = ks.length) then cf f (.cls c :: ws) g1 else .stk else .stk) := ok
  simp only [chM, Ck.of] at h
  split at h
  · rename_i x px y ap kws p
    simp only [Bool.and_eq_true, beq_iff_eq, decide_eq_true_eq] at h
    obtain ⟨⟨⟨h41, h42, h43⟩, rfl, h1'⟩, ⟨h8, h5⟩, ⟨h6, h0, hl, hes⟩, h4⟩ := h
    have h8 : (kws.length + 1, 1) ∈ N.cs f := by simpa using h8
    obtain ⟨k1, k2, k3, k4⟩ := kw_of (pos := p) (env := X.env) (of_decide_eq_true (show decide (kws.map (·.arg) = _) = true from h5))
    have zt : ∀ (a : List Str) (b : List Value), (a.take b.length).zip b = a.zip b := by
      intro a
      induction a with
      | nil => intro b; simp
      | cons c a ih =>
        intro b
        cases b with
        | nil => simp
        | cons d b => simp [ih]
    split at ok
    · rename_i hT
      have hT : T.cm c m = some f := by simpa using hT
      obtain ⟨l1, l2, l3⟩ := S.fa.cls c h41
      obtain ⟨q1, q2⟩ := gl_of h43 S.sc
      have pc : PE X (.Name x px) (tC (.ref (N.ca c))) := pe_glob q1 (by rw [S.mg, ← h42]; exact l1) rfl q2
      obtain ⟨p0, rd, cm⟩ := S.fa.cm c m f hT
      rw [← S.F.hK] at rd cm
      have wk := ha.gk S h4 h6 R er ok (Q1 := fun ws H2 => ws.length = kws.length ∧ ∀ (pins : List (Addr × Obj)) (s : Shared) (us : List Value), Inv X pins σ H2 s → Vals ws us → codeAny (model X.prog X.w) X.A (.call (.ref (N.fa f)) ⟨[.ref (N.ca c)], ((N.pn f).drop 1).zip us⟩) (fun r s' => match r with | .ok (.ret v) => EP X pins σ Q v s' | .ok _ => False | .error e => X.xe e s') s)
        fun zs H2 ws g2 I2 rs2 R2 er2 e2 r2 ok2 => by
          split at ok2
          · rename_i hws
            have hws : ws.length = ks.length := by simpa using hws
            have hz : zs.length = kws.length := by rw [← r2.length, hws, hes]
            refine ⟨hz, fun pins s us J rv => ?_⟩
            have c := S.cd R2 (.cons (.cls c) r2) ok2 1 (.inr (.inl (by
              have q2 : (V.ref (N.ca c) :: zs).length = kws.length + 1 := by rw [List.length_cons, hz]
              rw [q2]; exact ⟨by omega, h8⟩))) pins s σ (.ref (N.ca c) :: us) J (.cons rfl rv)
            rw [argJ_le (by simp)] at c
            simpa using c
          · exact ok2.elim
      refine fun pins s J => PySem.W.methodCall_KW (thn (pc.run pins s σ H (fun v H1 => v = .ref (N.ca c) ∧ H1 = H) J ⟨rfl, rfl⟩) fun u s1 ⟨v, H1, J1, rx, ex, eH⟩ => ?_) (mcK_tree rfl k1 h0 hl (by rw [h1']; exact beq_self_eq_true _))
      subst ex eH
      obtain rfl : u = Value.ref (N.ca c) := rx
      refine getmethcm_ok J1 rd cm fun s2 J2 => ?_
      refine PySem.W.callWith_of (P := PySem.W.MethP X.K s1.heap.objs.size (N.fa f) (.ref (N.ca c))) (by
        show (false || (backToKw p (keywordEach kws X.env)).any (·.1.isNone)) = false
        rw [k3]; rfl) (PySem.W.keeps_M cm.fi) (evalArgs_kw2_nil k1 (thn (wk p _ s2 J2) fun us s3 ⟨ws, H2, J3, rv, q3⟩ => ⟨⟨pin_at J3, J3.kIn⟩, ?_⟩))
      have hlen : us.length = kws.length := by rw [← q3.1]; exact rv.length.symm
      rw [k2, ← hlen, zt]
      exact thn (wpAny_call (PySem.W.method_call (pin_at J3) (q3.2 _ s3 us J3 rv))) fun _ _ y => unpinE y
    · exact ok.elim
  · exact Bool.noConfusion h
theorem sv_callS {f : Nat} {o a : E} (ho : SVp N P B T cf k ns o) (ha : SVp N P B T cf k ns a) : SVp N P B T cf k ns (.callS f o a) := by
  intro s0 sc W X S e h env g σ L I rs H Q R er ok
  have ok : OkV N L I rs H W Q (((evM T cf o).v env g).bind fun x g1 => if kcD T f x = true then ((evM T cf a).v env g1).bind fun y g2 => match seqD g2 y with
    | some ys => cf f ys g2
    | none => .stk else .stk) := ok
  simp only [chM, Ck.of] at h
  split at h
  · rename_i x px e1 p1 p
    simp only [Bool.and_eq_true] at h
    obtain ⟨h1, h2, h3⟩ := h
    refine fun pins s J => wpAny_Call_Name_kw (thn (ho.go S h1 R er ok (Q := fun v H1 => v = .ref (N.fa f) ∧ PySem.W.keepIn X.K (.ref (N.fa f)) = true ∧ WE X e1 σ H1 (fun y H2 => ∃ b xs, y = .ref b ∧ (SqT X.K H2 b xs ∨ SqL X.K H2 b xs) ∧ RC X (.ref (N.fa f)) xs H2 Q)) (fun v1 H1 d1 g1 I1 rs1 R1 er1 e1' r1 ok1 => ?_) pins s J) fun u s1 ⟨v, H1, J1, rx, ex, hk, q⟩ => ?_)
    · split at ok1
      · rename_i hkc
        cases d1 with
        | cls c =>
          have hkc : T.kc f = some c := by simpa [kcD] using hkc
          obtain ⟨c1, c2⟩ := S.fa.kc f c hkc
          cases r1
          refine ⟨by rw [c1], by rw [S.F.hK]; exact c2, ha.go S h3 R1 er1 ok1 fun v2 H2 d2 g2 I2 rs2 R2 er2 e2 r2 ok2 => ?_⟩
          split at ok2
          · rename_i ys hys
            obtain ⟨b, vs, rfl, hs, hv⟩ := R2.seq r2 hys
            exact ⟨b, vs, rfl, by rw [S.F.hK]; exact hs.symm, S.rc R2 hv ok2⟩
          · exact ok2.elim
        | _ => exact Bool.noConfusion hkc
      · exact ok1.elim
    · subst ex
      obtain rfl : u = Value.ref (N.fa f) := rx
      refine PySem.W.callWith_S (h₀ := X.base) J1.ok.mod.kin hk (thn (q pins s1 J1) fun v s2 ⟨y, H2, J2, ry, b, xs, ey, hxs, q2⟩ => ?_) rfl
      subst ey
      obtain rfl : v = Value.ref b := ry
      exact StX.star_any J2 hxs fun us s3 J3 rv => ⟨J3.kIn, q2 pins s3 σ us J3 rv⟩
  · exact Bool.noConfusion h
end
end PC
end
section
set_option maxHeartbeats 4000000
namespace PC
open PySem PySem.Spec PyProof.Rows L2
section
variable {N : Nm} {P : Program} {B : Heap} {T : Tab} {cf : CF} {k : Nat} {ns : List Str} {s0 sc : Scope} {W : XK} {X : Cx}
theorem two_of {α : Type} {l : List α} (h : l.length = 2) : ∃ a b, l = [a, b] := by
  match l, h with
  | [a, b], _ => exact ⟨a, b, rfl⟩
theorem argJ_2 {pn : List Str} {a b : Value} : argJ pn [a, b] 3 = ⟨[], [(pn.getD 1 "", b), (pn.getD 0 "", a)]⟩ := rfl
theorem argJ_3 {pn : List Str} {x a b : Value} : argJ pn [x, a, b] 4 = ⟨[x], [(pn.getD 2 "", b), (pn.getD 1 "", a)]⟩ := rfl
theorem sv_methW {m f : Nat} {o : E} {ks : List E} (ho : SVp N P B T cf k ns o) (hk : SAp N P B T cf k ns ks) : SVp N P B T cf k ns (.methW m f o ks) := by
  intro s0 sc W X S e h env g σ L I rs H Q R er ok
  have ok : OkV N L I rs H W Q (((evM T cf o).v env g).bind fun x g1 => if decide (metF T g1 m x = some f) then (evs T cf ks env g1).bind fun ws g2 => (match ws with
    | [y, z] => cf f [x, z, y] g2
    | _ => .stk) else .stk) := ok
  simp only [chM, Ck.of] at h
  split at h
  · rename_i o' x ap kws p
    simp only [Bool.and_eq_true, beq_iff_eq, decide_eq_true_eq] at h
    obtain ⟨⟨rfl, h1, h1'⟩, ⟨h8, h5⟩, ⟨h6, h0, hes⟩, h3, h4⟩ := h
    have h8 : 3 ∈ N.cw f := by simpa using h8
    obtain ⟨k1, k2, k3, k4⟩ := kw_of (pos := p) (env := X.env) (of_decide_eq_true (show decide (kws.map (·.arg) = _) = true from h5))
    refine fun pins s J => PySem.W.methodCall_KW (thn (ho.go S h3 R er ok (Q := fun v H1 => ∃ a dx fs c, v = .ref a ∧ H1 a = some (.ins (N.ca c) dx fs) ∧ fs.lookup (N.nm m) = none ∧ T.mt c m = some f ∧
      WK X kws σ H1 (fun ws H2 => ∃ vy vz, ws = [vy, vz] ∧ ∀ (pins : List (Addr × Obj)) (s : Shared) (uy uz : Value), Inv X pins σ H2 s → RelV vy uy → RelV vz uz → wpAny (model X.prog X.w) X.A (PySem.call (.ref (N.fa f)) [.ref a] [((N.pn f).getD 2 "", uy), ((N.pn f).getD 1 "", uz)]) (EP X pins σ Q) X.xe s)) (fun v1 H1 d1 g1 I1 rs1 R1 er1 e1 r1 ok1 => ?_) pins s J) fun u s1 ⟨v, H1, J1, rx, a, dx, fs, c, ex, h7, h9, h10, q⟩ => ?_) (mcK_tree h1 k1 (by omega) (by omega) (by rw [h1']; exact beq_self_eq_true _))
    · split at ok1
      · rename_i hm
        have hm : metF T g1 m d1 = some f := by simpa using hm
        unfold metF at hm
        cases hd : metD g1 m d1 with
        | none => rw [hd] at hm; cases hm
        | some c =>
          rw [hd] at hm
          obtain ⟨a, dx, fs, ns', ds, rfl, h7, h9, h10, h11, h12⟩ := ins_cases R1 (cls_met hd) r1
          have hc : ns'.contains m = false := by
            have z := h12 m
            rw [hd] at z
            cases q : ns'.contains m with
            | false => rfl
            | true => rw [q] at z; cases z
          refine ⟨a, dx, fs, c, rfl, h7, lookN_v S.fa.nmi h9 hc, hm, wk_mono ((hk S).2 h4 h6 R1 er1 ok1.first') fun zs H2 ⟨ws, g2, I2, rs2, e0, e2, R2, r2, ok2⟩ => ?_⟩
          split at ok2
          · rename_i y z
            cases r2 with
            | cons ry r2 =>
              cases r2 with
              | cons rz r2 =>
                cases r2
                refine ⟨_, _, rfl, fun pins s uy uz J sy sz => ?_⟩
                have c := S.cp R2 (.cons (e2.vr r1) (.cons rz (.cons ry .nil))) ok2 4 (.inr (.inr ⟨rfl, h8⟩)) pins s σ [.ref a, uz, uy] J (.cons rfl (.cons sz (.cons sy .nil)))
                rw [argJ_3] at c
                exact c
          · exact ok2.elim
      · exact ok1.elim
    · subst ex
      obtain rfl : u = Value.ref a := rx
      obtain ⟨c1, c2⟩ := S.fa.mt c m f h10
      rw [← S.F.hK] at c1 c2
      refine getmeth_ok J1 h7 c1 c2 h9 ?_
      refine PySem.W.callWith_KW0 (first := [.ref a]) (h₀ := X.base) J1.ok.mod.kin c2.kp k1 (thn (q p pins s1 J1) fun us s2 ⟨ws, H2, J2, rv, vy, vz, ew, q2⟩ => ⟨J2.kIn, ?_⟩) ?_
      · subst ew
        cases rv with
        | cons sy rv =>
          cases rv with
          | cons sz rv =>
            cases rv
            rw [k2]
            exact q2 pins s2 _ _ J2 sy sz
      · show (false || (backToKw p (keywordEach kws X.env)).any (·.1.isNone)) = false
        rw [k3]; rfl
  · exact Bool.noConfusion h
theorem sv_callW {f : Nat} {ks : List E} (hk : SAp N P B T cf k ns ks) : SVp N P B T cf k ns (.callW f ks) := by
  intro s0 sc W X S e h env g σ L I rs H Q R er ok
  have ok : OkV N L I rs H W Q ((evs T cf ks env g).bind fun ws g1 => (match ws with
    | [y, z] => cf f [z, y] g1
    | _ => .stk)) := ok
  simp only [chM, Ck.of] at h
  split at h
  · rename_i x p kws q
    simp only [Bool.and_eq_true, beq_iff_eq, decide_eq_true_eq] at h
    obtain ⟨⟨h1, ⟨rfl, h8⟩, h2⟩, h5, ⟨h6, h0, hes⟩, h7⟩ := h
    have h8 : 2 ∈ N.cw f := by simpa using h8
    obtain ⟨b1, b2⟩ := gl_of (X := X) h2 S.sc
    obtain ⟨c1, c2⟩ := S.fa.fn f h1
    rw [← S.mg] at c1
    rw [← S.F.hK] at c2
    obtain ⟨k1, k2, k3, k4⟩ := kw_of (pos := q) (env := X.env) (of_decide_eq_true (show decide (kws.map (·.arg) = _) = true from h5))
    have w := wk_mono ((hk S).2 h7 h6 R er ok.first') fun zs H2 ⟨ws, g2, I2, rs2, e0, e2, R2, r2, ok2⟩ => (show ∃ vy vz, zs = [vy, vz] ∧ ∀ (pins : List (Addr × Obj)) (s : Shared) (uy uz : Value), Inv X pins σ H2 s → RelV vy uy → RelV vz uz → wpAny (model X.prog X.w) X.A (PySem.call (.ref (N.fa f)) ([] ++ []) [((N.pn f).getD 1 "", uy), ((N.pn f).getD 0 "", uz)]) (EP X pins σ Q) X.xe s from by
      split at ok2
      · rename_i y z
        cases r2 with
        | cons ry r2 =>
          cases r2 with
          | cons rz r2 =>
            cases r2
            refine ⟨_, _, rfl, fun pins s uy uz J sy sz => ?_⟩
            have c := S.cp R2 (.cons rz (.cons ry .nil)) ok2 3 (.inr (.inr ⟨rfl, h8⟩)) pins s σ [uz, uy] J (.cons sz (.cons sy .nil))
            rw [argJ_2] at c
            exact c
      · exact ok2.elim)
    refine fun pins s J => wpAny_Call_Name_kw (ld_glob J b1 c1 ?_ b2)
    refine PySem.W.callWith_KW0 (h₀ := X.base) J.ok.mod.kin c2 k1 (thn (w q pins s J) fun us s2 ⟨ws, H2, J2, rv, vy, vz, ew, q2⟩ => ⟨J2.kIn, ?_⟩) ?_
    · subst ew
      cases rv with
      | cons sy rv =>
        cases rv with
        | cons sz rv =>
          cases rv
          rw [k2]
          exact q2 pins s2 _ _ J2 sy sz
    · show (false || (backToKw q (keywordEach kws X.env)).any (·.1.isNone)) = false
      rw [k3]; rfl
  · exact Bool.noConfusion h
end
end PC
end
section
set_option maxHeartbeats 4000000
namespace PC
open PySem L2 PyProof.Rows
section
variable {N : Nm} {P : Program} {B : Heap} {T : Tab} {cf : CF} {k : Nat} {ns : List Str}
variable {s0 sc : Scope} {W : XK} {X : Cx} {L L1 I I1 I2 : Hp} {rs rs1 rs2 : List Addr} {g g1 : G} {H H1 H2 : Hp} {Q : VK} {x y z : D} {u v : V} {env : Env} {σ : L2.St}
theorem rangeL_map : ∀ (n : Nat) (lo : Int), rangeL lo n = (List.range n).map fun i => D.int (lo + (i : Nat))
  | 0, lo => rfl
  | n + 1, lo => by
    rw [List.range_succ_eq_map, List.map_cons, List.map_map]
    show D.int lo :: rangeL (lo + 1) n = _
    rw [rangeL_map n (lo + 1)]
    congr 1
    · simp
    · apply List.map_congr_left
      intro i _
      show D.int (lo + 1 + (i : Nat)) = D.int (lo + ((i + 1 : Nat) : Int))
      congr 1
      omega
theorem ints_v {I : Hp} {rs : List Addr} : ∀ (l : List Nat) (f : Nat → Int), VRs N I rs (l.map fun i => D.int (f i)) (l.map fun i => V.int (f i))
  | [], f => .nil
  | i :: l, f => .cons (.int _) (ints_v l f)
theorem sv_listR {a : E} (ha : SVp N P B T cf k ns a) : SVp N P B T cf k ns (.listR a) := by
  intro s0 sc W X S e h env g σ L I rs H Q R er ok
  have ok : OkV N L I rs H W Q (((evM T cf a).v env g).bind fun x g1 => listRD x g1) := ok
  simp only [chM, Ck.of] at h
  split at h
  · rename_i x p y p2 a' q q2
    simp only [Bool.and_eq_true, beq_iff_eq] at h
    obtain ⟨⟨⟨rfl, h1⟩, rfl, h2⟩, h3, h4⟩ := h
    obtain ⟨b1, b2, b3, b4⟩ := bl_of S h1
    obtain ⟨c1, c2, c3, c4⟩ := bl_of S h2
    refine we_of (pe_listRg S.F.hc b1 b2 (prg_1 c1 c2 we (star_eq h3)) (by rfl)) (ha.go S h4 R er ok fun v1 H1 d1 g1 I1 rs1 R1 er1 e1 r1 ok1 => ?_)
    unfold listRD at ok1
    split at ok1
    · rename_i n
      cases r1
      split at ok1
      · rename_i hn
        have hn : 0 ≤ n ∧ n ≤ 1000000 := by simpa using hn
        refine ⟨n, rfl, RgOk.of_le (by omega) (by omega) (by omega) (by omega), ?_⟩
        have hv : VRs N I1 rs1 (rangeL 0 n.toNat) (rgV 0 n) := by
          rw [rangeL_map]
          unfold rgV
          rw [Int.sub_zero]
          exact ints_v _ _
        exact (mk_ok R1 hv ok1).2
      · exact ok1.elim
    · exact ok1.elim
  · exact Bool.noConfusion h
end
end PC
end
section
set_option maxHeartbeats 4000000
namespace PC
open PySem L2 PyProof.Rows
section
variable {N : Nm} {P : Program} {B : Heap} {T : Tab} {cf : CF} {k : Nat} {ns : List Str}
theorem sv_fldX {f : Nat} {o : E} (ho : SVp N P B T cf k ns o) : SVp N P B T cf k ns (.fldX f o) := by
  intro s0 sc W X S e h env g σ L I rs H Q R er ok
  have ok : OkV N L I rs H W Q (((evM T cf o).v env g).bind fun x g1 => fldXR T f x g1) := ok
  simp only [chM, Ck.of] at h
  split at h
  · rename_i o' x p
    simp only [Bool.and_eq_true, beq_iff_eq] at h
    obtain ⟨⟨rfl, h1⟩, h2⟩ := h
    refine we_of (pe_xk we (ab_eq h1)) (ho.go S h2 R er ok fun v1 H1 d1 g1 I1 rs1 R1 er1 e1 r1 ok1 => ?_)
    unfold fldXR at ok1
    split at ok1
    · rename_i c f' d
      split at ok1
      · rename_i hf
        obtain ⟨hf, hff⟩ := of_decide_eq_true hf
        subst hff
        cases r1 with
        | @xob a dd _ _ fs _ h3 h4 h5 h6 =>
          obtain ⟨x1, x2, x3⟩ := S.xf.fld c f' hf
          rw [← S.F.hK] at x1 x2
          match fs, h5, h6, h4 with
          | [(n, v)], h5, h6, h4 =>
            have hn : n = N.nm f' := by simpa using h5
            subst hn
            cases h6 with
            | cons h7 _ => exact ⟨a, dd, N.ca c, _, v, rfl, R1.sub _ _ h3, R1.sub _ _ h4, by simp [List.lookup], x1, x2, ok1.now R1 h7⟩
          | [], h5, _, _ => simp at h5
          | _ :: _ :: _, h5, _, _ => simp at h5
      · exact ok1.elim
    · exact ok1.elim
  · exact Bool.noConfusion h
theorem xt_pe {s0 sc : Scope} {W : XK} {X : Cx} (S : XS N P B T cf k ns s0 sc W X) {t : XT} {y : Str} {p2 : Pos} (h4 : xtB N.toNz sc t y = true) : ∃ vv, PE X (.Name y p2) (tC vv) ∧ ∀ u, RelV vv u → u = xtV N t := by
  have blt : ∀ {nm : String}, (blB N.toNz sc y && Str.ofString nm == y) = true → bootBuiltins (Str.ofString nm) = some (.type nm) → (Str.ofString nm == ("__debug__" : Str)) = false → ∃ vv, PE X (.Name y p2) (tC vv) ∧ ∀ u, RelV vv u → u = .type nm := by
    intro nm h4 hb _
    simp only [Bool.and_eq_true, beq_iff_eq] at h4
    obtain ⟨h41, rfl⟩ := h4
    obtain ⟨c1, c2, c3, c4⟩ := bl_of S h41
    exact ⟨.ty nm, pe_bltn c1 c2 hb rfl c3 c4, fun u r => r⟩
  cases t with
  | own c' =>
    have h4 : (N.xg c' && (N.cn c' == y && glB sc y)) = true := h4
    simp only [Bool.and_eq_true, beq_iff_eq] at h4
    obtain ⟨h41, h42, h43⟩ := h4
    obtain ⟨q1, q2⟩ := gl_of h43 S.sc
    exact ⟨.ref (N.ca c'), pe_glob q1 (by rw [S.mg, ← h42]; exact S.xf.nm c' h41) rfl q2, fun u r => r⟩
  | val => exact blt (nm := "ValueError") h4 (by decide +kernel) (by decide)
  | run => exact blt (nm := "RuntimeError") h4 (by decide +kernel) (by decide)
  | look => exact blt (nm := "LookupError") h4 (by decide +kernel) (by decide)
  | key => exact blt (nm := "KeyError") h4 (by decide +kernel) (by decide)
  | idx => exact blt (nm := "IndexError") h4 (by decide +kernel) (by decide)
  | nyi => exact blt (nm := "NotImplementedError") h4 (by decide +kernel) (by decide)
theorem xt_own {z : Nz} {sc : Scope} {t : XT} {y : Str} (h4 : xtB z sc t y = true) : ∀ c', t = .own c' → z.xg c' = true := by
  intro c' e
  subst e
  have h4 : (z.xg c' && (z.cn c' == y && glB sc y)) = true := h4
  simp only [Bool.and_eq_true] at h4
  exact h4.1
theorem sv_isX {t : XT} {a : E} (ha : SVp N P B T cf k ns a) : SVp N P B T cf k ns (.isX t a) := by
  intro s0 sc W X S e h env g σ L I rs H Q R er ok
  have ok : OkV N L I rs H W Q (((evM T cf a).v env g).bind fun x g1 => isXR T t x g1) := ok
  simp only [chM, Ck.of] at h
  split at h
  · rename_i x p a' y p2 q
    simp only [Bool.and_eq_true, beq_iff_eq] at h
    obtain ⟨⟨rfl, h2⟩, ⟨h3, h4⟩, h5⟩ := h
    obtain ⟨b1, b2, b3, b4⟩ := bl_of S h2
    have hxo := xt_own h4
    have pc := xt_pe (p2 := p2) S h4
    obtain ⟨vv, pc, hvv⟩ := pc
    refine we_of (pe_callB (call_isK) b1 b2 (by decide +kernel) (pa_cons we (pa_cons pc pa_nil rfl) (star_eq h3)) b3 b4 (star_eq h3) rfl) ?_
    refine ha.go S h5 R er ok fun v1 H1 d1 g1 I1 rs1 R1 er1 e1 r1 ok1 => ?_
    unfold isXR at ok1
    split at ok1
    · rename_i c ns' vs'
      split at ok1
      · rename_i hb
        obtain ⟨f, hf⟩ := Option.isSome_iff_exists.mp hb
        cases r1 with
        | @xob a dd _ _ fs _ h3 h4 h5 h6 =>
          obtain ⟨_, _, x3⟩ := S.xf.fld c f hf
          have x4 := S.xf.xi c f t hf hxo
          have hK := S.F.hK
          exact ⟨a, dd, N.ca c, fs, vv, xtV N t, _, rfl, R1.sub _ _ h3, R1.sub _ _ h4, by rw [hK]; exact x3, hvv, by rw [hK]; exact x4, ok1.now R1 (.bl _)⟩
      · exact ok1.elim
    · exact ok1.elim
  · exact Bool.noConfusion h
/-! ### an error is made -/
theorem mk_leaf (S : XS N P B T cf k ns s0 sc W X) {c : Nat} {d1 : D} {v1 : V} {g1 : G} {L I1 H1 : Hp} {rs1 : List Addr} {Q : VK} (R1 : Rel N L I1 rs1 g1 H1) (r1 : VR N I1 rs1 d1 v1) (ok1 : OkV N L I1 rs1 H1 W Q (mkXR T c d1 g1)) {f : Nat} (hf : T.exf c = some f) :
    ∀ dx a, H1 dx = none → H1 a = none → dx ≠ a → Q (.ref a) (upd (upd H1 dx (.xd [(N.nm f, v1)])) a (ExK (.ref (N.ca c)) (some dx) a)) := by
  intro dx a hd ha hne
  unfold mkXR at ok1
  rw [hf] at ok1
  have ok1 : OkV N L I1 rs1 H1 W Q (.ok (.xob c [f] [d1]) g1) := ok1
  obtain ⟨R2, E2⟩ := R1.imm (o := .xd [(N.nm f, v1)]) hd
  have ha2 : upd H1 dx (.xd [(N.nm f, v1)]) a = none := by rw [upd_ne hne.symm]; exact ha
  obtain ⟨R3, E3⟩ := R2.imm (o := ExK (.ref (N.ca c)) (some dx) a) ha2
  refine ok1 _ _ _ _ (E2.trans E3) R3 (.xob (fs := [(N.nm f, v1)]) upd_same ?_ rfl (.one ((E2.trans E3).vr r1)))
  rw [upd_ne hne]
  exact upd_same
theorem sv_mkX {c : Nat} {a : E} (ha : SVp N P B T cf k ns a) : SVp N P B T cf k ns (.mkX c a) := by
  intro s0 sc W X S e h env g σ L I rs H Q R er ok
  have ok : OkV N L I rs H W Q (match T.exf c with
    | some _ => ((evM T cf a).v env g).bind fun x g1 => mkXR T c x g1
    | none => .stk) := ok
  simp only [chM, Ck.of] at h
  split at h
  · rename_i x p a' q
    simp only [Bool.and_eq_true, beq_iff_eq] at h
    obtain ⟨⟨h1, h2, h3⟩, h4, h5⟩ := h
    obtain ⟨q1, q2⟩ := gl_of h3 S.sc
    have hgl : X.mg x = some (.ref (N.ca c)) := by rw [S.mg, ← h2]; exact S.xf.nm c h1
    cases hf : T.exf c with
    | none => rw [hf] at ok; exact ok.elim
    | some f =>
      rw [hf] at ok
      obtain ⟨su, B', newId, initId, bmB, own⟩ := S.xf.mak c f hf
      rw [← S.prog, ← S.F.hK] at own
      refine we_of (pe_mkx (kr := k) own q1 hgl (by rw [S.mg]; exact su) S.room (pa_cons we pa_nil (star_eq h4)) (star_eq h4) q2) ?_
      refine ha.go S h5 R er ok fun v1 H1 d1 g1 I1 rs1 R1 er1 e1 r1 ok1 => ?_
      exact ⟨v1, rfl, mk_leaf S R1 r1 ok1 hf⟩
  · exact Bool.noConfusion h
theorem sv_mkXK {c : Nat} {as : List E} (ha : SAp N P B T cf k ns as) : SVp N P B T cf k ns (.mkXK c as) := by
  intro s0 sc W X S e h env g σ L I rs H Q R er ok
  have ok : OkV N L I rs H W Q (match T.exf c with
    | some _ => (evs T cf as env g).bind fun vs g1 => (match vs with
      | [x] => mkXR T c x g1
      | _ => .stk)
    | none => .stk) := ok
  simp only [chM, Ck.of] at h
  split at h
  · rename_i x p kws q
    simp only [Bool.and_eq_true, beq_iff_eq] at h
    obtain ⟨⟨h1, h2, h3⟩, ⟨h4, h6⟩, h7⟩ := h
    obtain ⟨q1, q2⟩ := gl_of (X := X) h3 S.sc
    have hgl : X.mg x = some (.ref (N.ca c)) := by rw [S.mg, ← h2]; exact S.xf.nm c h1
    obtain ⟨k1, k2, k3, k4⟩ := kw_of (pos := q) (env := X.env) (of_decide_eq_true (show decide (kws.map (·.arg) = [N.xp c].map some) = true from h4))
    cases hf : T.exf c with
    | none => rw [hf] at ok; exact ok.elim
    | some f =>
      rw [hf] at ok
      have w := (ha S).2 h7 h6 R er ok.first'
      obtain ⟨su, B', newId, initId, bmB, own⟩ := S.xf.mak c f hf
      rw [← S.prog, ← S.F.hK] at own
      refine mkxK_run (kr := k) own q1 hgl (by rw [S.mg]; exact su) S.room k1 k2 k3 (fun pins s J => w q pins s J) (fun zs H2 ⟨ws, g2, I2, rs2, e0, e2, R2, r2, ok2⟩ => ?_) q2
      split at ok2
      · cases r2 with
        | @cons _ v _ _ r3 r4 =>
          cases r4
          exact ⟨v, rfl, mk_leaf S R2 r3 ok2 hf⟩
      · exact ok2.elim
  · exact Bool.noConfusion h
/-- classes, one behind another -/
def tCs (vs : List V) : TA := fun _ H Q => Q vs H
theorem xts_pe {s0 sc : Scope} {W : XK} {X : Cx} (S : XS N P B T cf k ns s0 sc W X) : ∀ {ts : List XT} {es : List Expr}, xtsB N.toNz sc ts es = true → ∃ vvs, PA X es (tCs vvs) ∧ (∀ us, Vals vvs us → us = ts.map (xtV N)) ∧ vvs.length = ts.length ∧ ∀ (c f : Nat), T.exf c = some f → PySem.W.kitAny N.K (.ref (N.ca c)) (ts.map (xtV N)) = some (ts.any fun t => T.xi c t)
  | [], [], _ => ⟨[], pa_nil, fun us r => by cases r; rfl, rfl, fun _ _ _ => rfl⟩
  | [], _ :: _, h => Bool.noConfusion h
  | _ :: _, [], h => Bool.noConfusion h
  | t :: ts, e :: es, h => by
    cases e with
    | Name y p =>
      have h : (xtB N.toNz sc t y && xtsB N.toNz sc ts es) = true := h
      simp only [Bool.and_eq_true] at h
      obtain ⟨vv, q1, q2⟩ := xt_pe S h.1 (p2 := p)
      obtain ⟨vvs, p1, p2, p3, p4⟩ := xts_pe S h.2
      refine ⟨vv :: vvs, pa_cons q1 p1 rfl, fun us r => ?_, by simp [p3], fun c f hf => ?_⟩
      · cases r with
        | cons r1 r2 => rw [q2 _ r1, p2 _ r2]; rfl
      · have x := S.xf.xi c f t hf (xt_own h.1)
        have y := p4 c f hf
        show PySem.W.kitAny N.K _ (xtV N t :: ts.map (xtV N)) = _
        unfold PySem.W.kitAny
        rw [x]
        cases hx : T.xi c t with
        | true => simp [hx]
        | false => simp only [List.any_cons, hx, Bool.false_or]; exact y
    | _ => exact Bool.noConfusion h
theorem sv_isXs {ts : List XT} {a : E} (ha : SVp N P B T cf k ns a) : SVp N P B T cf k ns (.isXs ts a) := by
  intro s0 sc W X S e h env g σ L I rs H Q R er ok
  have ok : OkV N L I rs H W Q (((evM T cf a).v env g).bind fun x g1 => isXsR T ts x g1) := ok
  simp only [chM, Ck.of] at h
  split at h
  · rename_i x p a' es kk p3 q
    simp only [Bool.and_eq_true, beq_iff_eq, decide_eq_true_eq] at h
    obtain ⟨⟨rfl, h2⟩, ⟨h3, h4, h6⟩, h5⟩ := h
    obtain ⟨b1, b2, b3, b4⟩ := bl_of S h2
    obtain ⟨vvs, p1, p2, p3', p4⟩ := xts_pe S h4
    refine we_of (pe_callB (call_isKT) b1 b2 (by decide +kernel) (pa_cons we (pa_cons (pe_tup p1) pa_nil rfl) (star_eq h3)) b3 b4 (star_eq h3) rfl) ?_
    refine ha.go S h5 R er ok fun v1 H1 d1 g1 I1 rs1 R1 er1 e1 r1 ok1 => ?_
    refine ⟨by rw [p3', sizeLine_eq]; omega, fun tp htp => ?_⟩
    unfold isXsR at ok1
    split at ok1
    · rename_i c ns' vs'
      split at ok1
      · rename_i hb
        obtain ⟨f, hf⟩ := Option.isSome_iff_exists.mp hb
        cases r1 with
        | @xob a dd _ _ fs _ h3 h4 h5 h6 =>
          obtain ⟨_, _, x3⟩ := S.xf.fld c f hf
          have x4 := p4 c f hf
          have hK := S.F.hK
          obtain ⟨R2, E2⟩ := R1.imm (o := .tup vvs) htp
          have ne1 : a ≠ tp := ne_of_none (R1.sub _ _ h3) htp
          have ne2 : dd ≠ tp := ne_of_none (R1.sub _ _ h4) htp
          exact ⟨a, dd, N.ca c, tp, fs, vvs, ts.map (xtV N), _, rfl, by rw [upd_ne ne1]; exact R1.sub _ _ h3, by rw [upd_ne ne2]; exact R1.sub _ _ h4, by rw [hK]; exact x3, upd_same, p2, by rw [hK]; exact x4, ok1 _ _ _ _ E2 R2 (.bl _)⟩
      · exact ok1.elim
    · exact ok1.elim
  · exact Bool.noConfusion h
end
end PC
end
section
set_option maxHeartbeats 4000000
namespace PC
open PySem L2 PyProof.Rows
section
variable {N : Nm} {P : Program} {B : Heap} {T : Tab} {cf : CF} {k : Nat} {ns : List Str}
variable {s0 sc : Scope} {W : XK} {X : Cx} {L L1 I I1 I2 : Hp} {rs rs1 rs2 : List Addr} {g g1 : G} {H H1 H2 : Hp} {Q : VK} {x y z : D} {u v : V} {env : Env} {σ : L2.St}
theorem st_not {a : E} (ha : STp N P B T cf k ns a) : STp N P B T cf k ns (.not_ a) := by
  intro s0 sc W X S e h env g σ L I rs H Q R er ok
  have ok : OkB N L I rs H W Q (((evM T cf a).t env g).bind fun t g1 => .ok (!t) g1) := ok
  simp only [chM, Ck.of] at h
  split at h
  · exact wt_of (pt_not wt) (ha.go S h R er ok fun b H1 g1 I1 rs1 R1 er1 e1 ok1 => ok1.bl R1)
  · exact Bool.noConfusion h
theorem bool_whole {op : PySem.BoolOp} {es : List Expr} {pos : Pos} {env : PySem.Env} (w1 w2 : Sem Value) : isTrue (.BoolOp op es pos) env w1 = isTrue (.BoolOp op es pos) env w2 := rfl
theorem pw_of {op : PySem.BoolOp} {es : List Expr} {pos : Pos} {t : TT} (h : PT X (.BoolOp op es pos) t) : PW X (.BoolOp op es pos) t := ⟨fun wh pins s σ H Q I q => by
  rw [bool_whole wh (eval (.BoolOp op es pos) X.env)]
  exact h.run pins s σ H Q I q⟩
theorem st_and {a b : E} (ha : STp N P B T cf k ns a) (hb : STp N P B T cf k ns b) : STp N P B T cf k ns (.and_ a b) := by
  intro s0 sc W X S e h env g σ L I rs H Q R er ok
  have ok : OkB N L I rs H W Q (((evM T cf a).t env g).bind fun t g1 => match t with | true => (evM T cf b).t env g1 | false => .ok false g1) := ok
  simp only [chM, Ck.of] at h
  split at h
  · rename_i a' rest p
    simp only [Bool.and_eq_true] at h
    obtain ⟨h1, h2⟩ := h
    have key : ∀ {e2 : Expr}, (∀ {g1 : G} {I1 : Hp} {rs1 : List Addr} {H1 : Hp}, Rel N L I1 rs1 g1 H1 → ER N I1 rs1 env σ → OkB N L I1 rs1 H1 W Q ((evM T cf b).t env g1) → WT X e2 σ H1 Q) → tAnd (WT X a') (WT X e2) σ H Q := by
      intro e2 w
      refine ha.go S h1 R er ok fun t H1 g1 I1 rs1 R1 er1 e1 ok1 => ?_
      cases t with
      | true => rw [if_pos rfl]; exact w R1 er1 ok1
      | false => rw [if_neg Bool.false_ne_true]; exact ok1.bl R1
    cases rest with
    | nil => exact Bool.noConfusion h2
    | cons b' r =>
      cases r with
      | nil => exact wt_of (pw_and wt (pw_and1 wt)).pt (key fun R1 er1 ok1 => hb S h2 R1 er1 ok1)
      | cons c' r => exact wt_of (pw_and wt (pw_of wt)).pt (key fun R1 er1 ok1 => hb S h2 R1 er1 ok1)
  · exact Bool.noConfusion h
theorem st_or {a b : E} (ha : STp N P B T cf k ns a) (hb : STp N P B T cf k ns b) : STp N P B T cf k ns (.or_ a b) := by
  intro s0 sc W X S e h env g σ L I rs H Q R er ok
  have ok : OkB N L I rs H W Q (((evM T cf a).t env g).bind fun t g1 => match t with | true => .ok true g1 | false => (evM T cf b).t env g1) := ok
  simp only [chM, Ck.of] at h
  split at h
  · rename_i a' rest p
    simp only [Bool.and_eq_true] at h
    obtain ⟨h1, h2⟩ := h
    have key : ∀ {e2 : Expr}, (∀ {g1 : G} {I1 : Hp} {rs1 : List Addr} {H1 : Hp}, Rel N L I1 rs1 g1 H1 → ER N I1 rs1 env σ → OkB N L I1 rs1 H1 W Q ((evM T cf b).t env g1) → WT X e2 σ H1 Q) → tOr (WT X a') (WT X e2) σ H Q := by
      intro e2 w
      refine ha.go S h1 R er ok fun t H1 g1 I1 rs1 R1 er1 e1 ok1 => ?_
      cases t with
      | true => rw [if_pos rfl]; exact ok1.bl R1
      | false => rw [if_neg Bool.false_ne_true]; exact w R1 er1 ok1
    cases rest with
    | nil => exact Bool.noConfusion h2
    | cons b' r =>
      cases r with
      | nil => exact wt_of (pw_or wt (pw_or1 wt)).pt (key fun R1 er1 ok1 => hb S h2 R1 er1 ok1)
      | cons c' r => exact wt_of (pw_or wt (pw_of wt)).pt (key fun R1 er1 ok1 => hb S h2 R1 er1 ok1)
  · exact Bool.noConfusion h
/-! ### ranges -/
theorem OkI.first' {α γ : Type} {P1 : Hp → List Addr → α → γ → Prop} {Q : It → Hp → Prop} {r : PC.R α} {k : α → G → PC.R (List D × Option Nat)}
    (ok : OkI N L I rs H W Q (r.bind k)) : Ok N L P1 I rs H W (fun b H1 => ∃ a g1 I1 rs1, r = .ok a g1 ∧ Ext I rs H I1 rs1 H1 ∧ Rel N L I1 rs1 g1 H1 ∧ P1 I1 rs1 a b ∧ OkI N L I1 rs1 H1 W Q (k a g1)) r := by
  cases r with
  | ok a g => exact fun I' rs' H' b e R p => ⟨a, g, I', rs', rfl, e, R, p, ok.after e⟩
  | exc x g => exact ok
  | stk => exact ok
theorem si_range {as : List E} (ha : SAp N P B T cf k ns as) : SIp N P B T cf k ns (.range as) := by
  intro s0 sc W X S tg e h env g σ L I rs H Q R er ok
  have ok : OkI N L I rs H W Q ((evs T cf as env g).bind fun vs g1 => rangeR vs g1) := ok
  simp only [chM, Ck.it] at h
  split at h
  · rename_i x p es q
    simp only [Bool.and_eq_true, beq_iff_eq] at h
    obtain ⟨⟨rfl, h2⟩, h3, h4, h5⟩ := h
    obtain ⟨b1, b2, b3, b4⟩ := bl_of S h2
    refine ⟨?_, ns_fold rfl⟩
    cases es with
    | nil => simp at h4
    | cons a es =>
      have hn := h3
      simp only [noSt, List.all_cons, Bool.and_eq_true] at h3
      have w := wa_mono ((ha S).1 h5 R er (OkI.first' ok)) fun vs H1 ⟨ds, g1, I1, rs1, e0, e1, R1, r1, ok1⟩ => (show ∃ (ds : List D) (g1 : G) (I1 : Hp) (rs1 : List Addr), ds.length = (a :: es).length ∧ Rel N L I1 rs1 g1 H1 ∧ VRs N I1 rs1 ds vs ∧ OkI N L I1 rs1 H1 W Q (rangeR ds g1) from ⟨ds, g1, I1, rs1, evs_len h5 hn e0, R1, r1, ok1⟩)
      cases es with
      | nil =>
        refine wi_of (pi_range1 b1 b2 wa (star_eq h3.1)) (wa_mono w fun vs H1 ⟨ds, g1, I1, rs1, el, R1, r1, ok1⟩ => ?_)
        unfold rangeR at ok1
        split at ok1
        · split at ok1
          · rename_i n hc
            have hc : -4611686018427387904 ≤ n ∧ n < 4611686018427387904 := by simpa using hc
            obtain ⟨w, rfl, hw⟩ := v1 r1
            cases hw
            exact ⟨n, rfl, by omega, by omega, ok1 _ _ _ _ L .refl R1 (.inl ⟨rfl, rfl⟩) wk_range⟩
          · exact ok1.elim
        · simp at el
        · exact ok1.elim
      | cons b es =>
        cases es with
        | cons _ _ => simp at h4
        | nil =>
          have hb2 : nstB b = true := by simpa using h3.2
          refine wi_of (pi_range2 b1 b2 wa (by rw [star_eq h3.1, star_eq hb2]; rfl) (by rw [star_eq hb2]; rfl)) (wa_mono w fun vs H1 ⟨ds, g1, I1, rs1, el, R1, r1, ok1⟩ => ?_)
          unfold rangeR at ok1
          split at ok1
          · simp at el
          · split at ok1
            · rename_i a b hc
              have hc : -4611686018427387904 ≤ a ∧ a < 4611686018427387904 ∧ -4611686018427387904 ≤ b ∧ b < 4611686018427387904 := by simpa using hc
              obtain ⟨w, w2, rfl, hw, hw2⟩ := v2 r1
              cases hw; cases hw2
              exact ⟨a, b, rfl, by omega, ok1 _ _ _ _ L .refl R1 (.inl ⟨rfl, rfl⟩) wk_range⟩
            · exact ok1.elim
          · exact ok1.elim
  · exact Bool.noConfusion h
/-! ### comprehensions -/
theorem WTs.of (S : XS N P B T cf k ns s0 sc W X) {a : E} (ha : STp N P B T cf k ns a) {es : List Expr} (hc : (chM N.toNz ns a).c s0 sc es = true) (R : Rel N L I rs g H) (er : ER N I rs env σ) {Q : Bool → Hp → Prop}
    (ok : OkB N L I rs H W Q ((evM T cf a).c env g)) : WTs X es σ H Q := by
  have hn : (chM N.toNz ns a).nl = (evM T cf a).nl := by cases a <;> rfl
  unfold Ck.c at hc
  unfold Md.c at ok
  rw [← hn] at ok
  split at hc
  · rename_i e1
    rw [e1] at ok
    exact wts_of pts_nil (Ok.bl R ok)
  · rename_i e' e1
    rw [e1] at ok
    exact wts_of (pts_one wt) (ha S hc R er ok)
  · exact Bool.noConfusion hc
theorem own_ix {own : List Nat} : (ownN ns own).map (·.2) = own := by
  unfold ownN
  rw [List.map_map]
  exact (List.map_congr_left fun _ _ => rfl).trans (List.map_id _)
/-- what a comprehension is, behind its iterator -/
theorem lc_ok (S : XS N P B T cf k ns s0 sc W X) {h one : Bool} {own tg : List Nat} {it cond elt : E} (hi : SIp N P B T cf k ns it) (hc : STp N P B T cf k ns cond) (he : SVp N P B T cf k ns elt)
    {scope : Scope} {tg' it' elt' : Expr} {ifs : List Expr} (hb : blkC ns sc scope (ownN ns own) = true) (htg : tgB ns scope (relS sc scope) one tg tg' = true) (hin : tg.all (fun i => own.contains i) = true) (hi' : (chM N.toNz ns it).i s0 sc tg' it' = true)
    (hc' : (chM N.toNz ns cond).c scope (relS sc scope) ifs = true) (he' : (chM N.toNz ns elt).v scope (relS sc scope) elt' = true) (R : Rel N L I rs g H) (er : ER N I rs env σ)
    (ok : OkV N L I rs H W Q ((evM T cf (.comp h own tg one it cond elt)).v env g)) :
    tLc (WI X tg' it') (WGb X scope tg') (WTb X scope ifs) (WEb X scope elt') ((ownN ns own).map (·.2)) σ H Q ∧ BlkOk X.N X.env.scope scope (ownN ns own) ∧ (∀ x, foldedSetIterable it' X.env x = pure x) := by
  have ok : OkV N L I rs H W Q (((evM T cf it).i env g).bind fun xs g1 => compR h own tg one (evM T cf cond).c (evM T cf elt).v env xs g1) := ok
  have fs := (hi S hi' (Q := fun _ _ => True) R er (by
    revert ok
    cases (evM T cf it).i env g with
    | stk => exact fun h => h
    | exc x g => exact fun h => h
    | ok p g => exact fun _ _ _ _ _ _ _ _ _ _ => True.intro)).2
  refine ⟨?_, blkOk_by (by rw [S.hN, S.sc]; exact hb), fs⟩
  refine (hi S hi' R er (Q := fun J H1 => ∀ D, H1 D = none → ∃ W : Nat → Nat → Hp → Prop, (∃ m, W 0 m (upd H1 D (.lst []))) ∧ ∀ i m H, W i m H →
    (J.stop i H ∧ Q (.ref D) H) ∨ (J.go i H ∧ ∃ Nx : Hp → Prop, (∀ H', Nx H' → ∃ m', m' < m ∧ W (i + 1) m' H') ∧ ∀ x H', J.yld i H x H' → WGb X scope tg' x (wipe σ ((ownN ns own).map (·.2))) H' fun σ2 H2 => wipe σ2 ((ownN ns own).map (·.2)) = wipe σ ((ownN ns own).map (·.2)) ∧ WTb X scope ifs σ2 H2 fun b H3 =>
      if b = true then WEb X scope elt' σ2 H3 fun y H4 => ∃ acc, H4 D = some (.lst acc) ∧ acc.length < sizeLine ∧ Nx (upd H4 D (.lst (acc ++ [y]))) else Nx H3)) ?_).1
  rw [own_ix]
  revert ok
  cases (evM T cf it).i env g with
  | stk => exact fun h => h
  | exc x g => exact fun h => h
  | ok p g1 =>
    intro ok I1 rs1 H1 J L1 E1 R1 hl hw
    exact comp_ok S htg hin (fun s H0 C cl fp {env g σ L I rs H Q} R er ok => WTs.of (S.blk s H0 scope C cl fp) hc hc' R er ok) (fun s H0 C cl fp {env g σ L I rs H Q} R er ok => he (S.blk s H0 scope C cl fp) he' R er ok) (er.after E1) R1 hl hw (Ok.after (r := compR h own tg one (evM T cf cond).c (evM T cf elt).v env p g1) ok E1)
theorem sv_comp {h one : Bool} {own tg : List Nat} {it cond elt : E} (hi : SIp N P B T cf k ns it) (hc : STp N P B T cf k ns cond) (he : SVp N P B T cf k ns elt) : SVp N P B T cf k ns (.comp h own tg one it cond elt) := by
  intro s0 sc W X S e hh env g σ L I rs H Q R er ok
  simp only [chM, Ck.of] at hh
  split at hh
  · rename_i elt' tg' it' ifs isa scope p
    simp only [Bool.and_eq_true, beq_iff_eq] at hh
    obtain ⟨⟨rfl, h1, h2, h3⟩, h4, h5, h6, h7⟩ := hh
    obtain ⟨t, b, fs⟩ := lc_ok S hi hc he h2 h3 h4 h5 h6 h7 R er ok
    refine we_of (pe_lc S.F.hc (by rw [S.hN]; exact S.nd) wi b (fun s H C cl fp => ?_) (fun s H C cl fp => ?_) (fun s H C cl fp => ?_) fs) t
    · exact ⟨fun pins s' _ _ _ u _ I r h => h s H C cl fp pins s' u I r⟩
    · exact ⟨fun pins s' _ _ _ I h => h s H C cl fp pins s' I⟩
    · exact ⟨fun pins s' _ _ _ I h => h s H C cl fp pins s' I⟩
  · exact Bool.noConfusion hh
/-! ### rows of expressions -/
theorem sa_nil : SAp N P B T cf k ns [] := by
  intro s0 sc W X S
  refine ⟨fun {es} h env g σ L I rs H Q R er ok => ?_, fun {kws} h hn env g σ L I rs H Q R er ok => ?_⟩
  · have : es = [] := by simpa [chs] using h
    subst this
    exact wa_of pa_nil ((show OkVs N L I rs H W Q (.ok [] g) from ok) _ _ _ _ .refl R .nil)
  · have : kws = [] := by simpa [chs] using h
    subst this
    exact wk_of pk_nil ((show OkVs N L I rs H W Q (.ok [] g) from ok) _ _ _ _ .refl R .nil)
theorem sa_cons {a : E} {r : List E} (ha : SVp N P B T cf k ns a) (hr : SAp N P B T cf k ns r) : SAp N P B T cf k ns (a :: r) := by
  intro s0 sc W X S
  have un : ∀ {env : Env} {g : G} {L I : Hp} {rs : List Addr} {H : Hp} {Q : List V → Hp → Prop}, OkVs N L I rs H W Q (evs T cf (a :: r) env g) → OkVs N L I rs H W Q (((evM T cf a).v env g).bind fun x g1 => match (evM T cf a).st with
      | true => (match seqD g1 x with
        | some xs => (evs T cf r env g1).bind fun ys g2 => .ok (xs ++ ys) g2
        | none => .stk)
      | false => (evs T cf r env g1).bind fun ys g2 => .ok (x :: ys) g2) := fun ok => ok
  have fin : ∀ {Q : List V → Hp → Prop} {L I : Hp} {rs : List Addr} {H : Hp} {g1 : G} {xs : List D} {vs : List V} {env : Env}, VRs N I rs xs vs → OkVs N L I rs H W Q ((evs T cf r env g1).bind fun ys g2 => .ok (xs ++ ys) g2) → OkVs N L I rs H W (fun ws H2 => Q (vs ++ ws) H2) (evs T cf r env g1) := by
    intro Q L I rs H g1 xs vs env hv ok
    revert ok
    cases evs T cf r env g1 with
    | stk => exact fun h => h
    | exc x g => exact fun h => h
    | ok ys g2 => exact fun ok I' rs' H' b E R r => ok I' rs' H' (vs ++ b) E R ((E.vrs hv).append r)
  refine ⟨fun {es} h env g σ L I rs H Q R er ok => ?_, fun {kws} h hn env g σ L I rs H Q R er ok => ?_⟩
  · cases es with
    | nil => simp [chs] at h
    | cons e es =>
      simp only [chs, Bool.and_eq_true] at h
      have ok := un ok
      have e1 : (chM N.toNz ns a).st = (evM T cf a).st := by cases a <;> rfl
      cases q : (evM T cf a).st with
      | false =>
        rw [q] at ok
        rw [q] at e1
        have hh := h.1
        rw [e1] at hh
        have hh : (nstB e && (chM N.toNz ns a).v s0 sc e) = true := by cases e <;> exact hh
        simp only [Bool.and_eq_true] at hh
        refine wa_of (pa_cons we wa (star_eq hh.1)) (ha.go S hh.2 R er ok fun v1 H1 d1 g1 I1 rs1 R1 er1 e1 r1 ok1 => ?_)
        exact (hr S).1 h.2 R1 er1 (fin (vs := [v1]) (.one r1) ok1)
      | true =>
        rw [q] at ok
        rw [q] at e1
        have hh := h.1
        rw [e1] at hh
        cases e with
        | Starred e' p =>
          refine wa_of (StX.pa_star we wa rfl) (ha.go S hh R er ok fun v1 H1 d1 g1 I1 rs1 R1 er1 e1 r1 ok1 => ?_)
          cases hs : seqD g1 d1 with
          | none => rw [hs] at ok1; exact ok1.elim
          | some xs =>
            rw [hs] at ok1
            obtain ⟨p, vs, rfl, h2, h3⟩ := R1.seq r1 hs
            rw [← S.F.hK] at h2
            exact ⟨p, vs, rfl, h2.symm, (hr S).1 h.2 R1 er1 (fin h3 ok1)⟩
        | _ => exact Bool.noConfusion hh
  · cases kws with
    | nil => simp [chs] at h
    | cons kw kws =>
      obtain ⟨nm, e, p⟩ := kw
      simp only [List.map_cons, chs, Bool.and_eq_true] at h
      simp only [List.map_cons, noSt, List.all_cons, Bool.and_eq_true] at hn
      obtain ⟨hs, hv⟩ := st_no (T := T) (cf := cf) h.1 hn.1
      have ok := un ok
      rw [hs] at ok
      refine wk_of (pk_cons we wk') (ha.go S hv R er ok fun v1 H1 d1 g1 I1 rs1 R1 er1 e1 r1 ok1 => ?_)
      exact (hr S).2 h.2 hn.2 R1 er1 (fin (vs := [v1]) (.one r1) ok1)
/-! ### all -/
def SMp (N : Nm) (P : Program) (B : Heap) (T : Tab) (cf : CF) (k : Nat) (ns : List Str) (c : E) : Prop := SVp N P B T cf k ns c ∧ STp N P B T cf k ns c ∧ SIp N P B T cf k ns c
theorem sm_of {a : E} (hv : SVp N P B T cf k ns a) (h1 : (evM T cf a).t = fun env g => ((evM T cf a).v env g).bind fun x g1 => opt (tru g1 x) g1) (h2 : (chM N.toNz ns a).t = fun s0 sc e => ptB e && (chM N.toNz ns a).v s0 sc e)
    (h3 : (evM T cf a).i = fun env g => ((evM T cf a).v env g).bind fun x g1 => opt (itemsD g1 x) g1) (h4 : (chM N.toNz ns a).i = fun s0 sc _ e => nsB e && (chM N.toNz ns a).v s0 sc e) : SMp N P B T cf k ns a :=
  ⟨hv, t_of hv h1 h2, i_of hv h3 h4⟩
theorem sm_t {a : E} (hv : SVp N P B T cf k ns a) (ht : STp N P B T cf k ns a)
    (h3 : (evM T cf a).i = fun env g => ((evM T cf a).v env g).bind fun x g1 => opt (itemsD g1 x) g1) (h4 : (chM N.toNz ns a).i = fun s0 sc _ e => nsB e && (chM N.toNz ns a).v s0 sc e) : SMp N P B T cf k ns a :=
  ⟨hv, ht, i_of hv h3 h4⟩
theorem sv_no {a : E} (h : ∀ s0 sc e, (chM N.toNz ns a).v s0 sc e = false) : SVp N P B T cf k ns a := by
  intro s0 sc W X S e hc
  rw [h] at hc
  cases hc
theorem st_none {a : E} (h : ∀ s0 sc e, (chM N.toNz ns a).t s0 sc e = false) : STp N P B T cf k ns a := by
  intro s0 sc W X S e hc
  rw [h] at hc
  cases hc
theorem sm_no {a : E} (h1 : ∀ s0 sc e, (chM N.toNz ns a).v s0 sc e = false) (h2 : ∀ s0 sc e, (chM N.toNz ns a).t s0 sc e = false) (h3 : ∀ s0 sc tg e, (chM N.toNz ns a).i s0 sc tg e = false) : SMp N P B T cf k ns a := by
  refine ⟨sv_no h1, ?_, ?_⟩
  · intro s0 sc W X S e hc
    rw [h2] at hc
    cases hc
  · intro s0 sc W X S tg e hc
    rw [h3] at hc
    cases hc
mutual
theorem sm (N : Nm) (P : Program) (B : Heap) (T : Tab) (cf : CF) (k : Nat) (ns : List Str) : ∀ c : E, SMp N P B T cf k ns c
  | .nil => sm_no (fun _ _ _ => rfl) (fun _ _ _ => rfl) (fun _ _ _ _ => rfl)
  | .loc i => sm_of (sv_loc i) rfl rfl rfl rfl
  | .con d => sm_of (sv_con d) rfl rfl rfl rfl
  | .glo n => sm_of (sv_glo n) rfl rfl rfl rfl
  | .bin o a b => sm_of (sv_bin (sm N P B T cf k ns a).1 (sm N P B T cf k ns b).1) rfl rfl rfl rfl
  | .neg a => sm_of (sv_neg (sm N P B T cf k ns a).1) rfl rfl rfl rfl
  | .not_ a => sm_t (sv_not (sm N P B T cf k ns a).1) (st_not (sm N P B T cf k ns a).2.1) rfl rfl
  | .and_ a b => sm_t (sv_and (sm N P B T cf k ns a).1 (sm N P B T cf k ns b).1) (st_and (sm N P B T cf k ns a).2.1 (sm N P B T cf k ns b).2.1) rfl rfl
  | .or_ a b => sm_t (sv_or (sm N P B T cf k ns a).1 (sm N P B T cf k ns b).1) (st_or (sm N P B T cf k ns a).2.1 (sm N P B T cf k ns b).2.1) rfl rfl
  | .cmp o a b => sm_t (sv_cmp (sm N P B T cf k ns a).1 (sm N P B T cf k ns b).1).1 (sv_cmp (sm N P B T cf k ns a).1 (sm N P B T cf k ns b).1).2 rfl rfl
  | .chain o p a b c => sm_t (sv_chain (sm N P B T cf k ns a).1 (sm N P B T cf k ns b).1 (sm N P B T cf k ns c).1).1 (sv_chain (sm N P B T cf k ns a).1 (sm N P B T cf k ns b).1 (sm N P B T cf k ns c).1).2 rfl rfl
  | .ite c a b => sm_of (sv_ite (sm N P B T cf k ns c).2.1 (sm N P B T cf k ns a).1 (sm N P B T cf k ns b).1) rfl rfl rfl rfl
  | .call f as => sm_of (sv_call (sa N P B T cf k ns as)) rfl rfl rfl rfl
  | .callK f as es => sm_of (sv_callK (sa N P B T cf k ns as) (sa N P B T cf k ns es)) rfl rfl rfl rfl
  | .meth m o as => sm_of (sv_meth (sm N P B T cf k ns o).1 (sa N P B T cf k ns as)) rfl rfl rfl rfl
  | .fld f o => sm_of (sv_fld (sm N P B T cf k ns o).1) rfl rfl rfl rfl
  | .prop m o => sm_of (sv_prop (sm N P B T cf k ns o).1) rfl rfl rfl rfl
  | .bi b as => sm_of (sv_bi (sa N P B T cf k ns as)) rfl rfl rfl rfl
  | .isi t a => sm_of (sv_isi (sm N P B T cf k ns a).1) rfl rfl rfl rfl
  | .bm m o as => sm_of (sv_bm (sm N P B T cf k ns o).1 (sa N P B T cf k ns as)) rfl rfl rfl rfl
  | .sub o i => sm_of (sv_sub (sm N P B T cf k ns o).1 (sm N P B T cf k ns i).1) rfl rfl rfl rfl
  | .slc o lo hi => sm_of (sv_slc (sm N P B T cf k ns o).1 (sm N P B T cf k ns lo).1 (sm N P B T cf k ns hi).1) rfl rfl rfl rfl
  | .rev o => sm_of (sv_rev (sm N P B T cf k ns o).1) rfl rfl rfl rfl
  | .own1 q m a => sm_of (sv_own1 (sm N P B T cf k ns a).1) rfl rfl rfl rfl
  | .own2 q m a b => sm_of (sv_own2 (sm N P B T cf k ns a).1 (sm N P B T cf k ns b).1) rfl rfl rfl rfl
  | .ownC q m a b => sm_t (sv_ownC (sm N P B T cf k ns a).1 (sm N P B T cf k ns b).1).1 (sv_ownC (sm N P B T cf k ns a).1 (sm N P B T cf k ns b).1).2 rfl rfl
  | .methK m f o es => sm_of (sv_methK (sm N P B T cf k ns o).1 (sa N P B T cf k ns es)) rfl rfl rfl rfl
  | .cmeth m f c as => sm_of (sv_cmeth (sa N P B T cf k ns as)) rfl rfl rfl rfl
  | .cmethK m f c es => sm_of (sv_cmethK (sa N P B T cf k ns es)) rfl rfl rfl rfl
  | .callS f o a => sm_of (sv_callS (sm N P B T cf k ns o).1 (sm N P B T cf k ns a).1) rfl rfl rfl rfl
  | .listR a => sm_of (sv_listR (sm N P B T cf k ns a).1) rfl rfl rfl rfl
  | .fldX f o => sm_of (sv_fldX (sm N P B T cf k ns o).1) rfl rfl rfl rfl
  | .isX t a => sm_of (sv_isX (sm N P B T cf k ns a).1) rfl rfl rfl rfl
  | .isXs ts a => sm_of (sv_isXs (sm N P B T cf k ns a).1) rfl rfl rfl rfl
  | .mkX c a => sm_of (sv_mkX (sm N P B T cf k ns a).1) rfl rfl rfl rfl
  | .mkXK c as => sm_of (sv_mkXK (sa N P B T cf k ns as)) rfl rfl rfl rfl
  | .repl o y w => sm_of (sv_no fun _ _ _ => rfl) rfl rfl rfl rfl
  | .tup as => sm_of (sv_tup (sa N P B T cf k ns as)) rfl rfl rfl rfl
  | .lst h as => sm_of (sv_lst (sa N P B T cf k ns as)) rfl rfl rfl rfl
  | .dct h ks as => sm_of (sv_dct (sd N P B T cf k ns as)) rfl rfl rfl rfl
  | .dctS a ks as => sm_of (sv_dctS (sm N P B T cf k ns a).1 (sd N P B T cf k ns as)) rfl rfl rfl rfl
  | .dget1 o i => sm_of (sv_dget1 (sm N P B T cf k ns o).1 (sm N P B T cf k ns i).1) rfl rfl rfl rfl
  | .dget o i y => sm_of (sv_dget (sm N P B T cf k ns o).1 (sm N P B T cf k ns i).1 (sm N P B T cf k ns y).1) rfl rfl rfl rfl
  | .methW m f o ks => sm_of (sv_methW (sm N P B T cf k ns o).1 (sa N P B T cf k ns ks)) rfl rfl rfl rfl
  | .callW f ks => sm_of (sv_callW (sa N P B T cf k ns ks)) rfl rfl rfl rfl
  | .addL a b => sm_of (sv_addL (sm N P B T cf k ns a).1 (sm N P B T cf k ns b).1) rfl rfl rfl rfl
  | .itemsL o => sm_of (sv_itemsL (sm N P B T cf k ns o).1) rfl rfl rfl rfl
  | .dictP a => sm_of (sv_dictP (sm N P B T cf k ns a).1) rfl rfl rfl rfl
  | .star a => ⟨(sm N P B T cf k ns a).1, (sm N P B T cf k ns a).2.1, (sm N P B T cf k ns a).2.2⟩
  | .frz a => sm_of (sv_frz (sm N P B T cf k ns a).1) rfl rfl rfl rfl
  | .comp h own tg one it cond elt => sm_of (sv_comp (sm N P B T cf k ns it).2.2 (sm N P B T cf k ns cond).2.1 (sm N P B T cf k ns elt).1) rfl rfl rfl rfl
  | .range as => ⟨sv_no fun _ _ _ => rfl, st_none fun _ _ _ => rfl, si_range (sa N P B T cf k ns as)⟩
  | .enum a => ⟨sv_no fun _ _ _ => rfl, st_none fun _ _ _ => rfl, si_enum (sm N P B T cf k ns a).1⟩
  | .zip a b => sm_no (fun _ _ _ => rfl) (fun _ _ _ => rfl) (fun _ _ _ _ => rfl)
theorem sa (N : Nm) (P : Program) (B : Heap) (T : Tab) (cf : CF) (k : Nat) (ns : List Str) : ∀ cs : List E, SAp N P B T cf k ns cs
  | [] => sa_nil
  | a :: r => sa_cons (sm N P B T cf k ns a).1 (sa N P B T cf k ns r)
theorem sd (N : Nm) (P : Program) (B : Heap) (T : Tab) (cf : CF) (k : Nat) (ns : List Str) : ∀ (cs : List E), ∀ a ∈ cs, SVp N P B T cf k ns a
  | [] => fun a h => by cases h
  | a :: r => by
    intro b h
    rcases List.mem_cons.mp h with e | e
    · rw [e]
      exact (sm N P B T cf k ns a).1
    · exact sd N P B T cf k ns r b e
end
end
end PC
end
section
set_option maxHeartbeats 4000000
namespace PC
open PySem L2 PyProof.Rows
mutual
/-- the text may be read where a token is out -/
def chT (z : Nz) (ns : List Str) : E → Scope → Scope → Expr → Bool
  | .repl o y w, s0, sc, e => match e with
    | .Call (.Attribute o' x ap) [.Constant (.str y') _ _, .Constant (.str w') _ _] [] p => (Str.ofString "replace" == x && (abB o' && ap.endLine == p.line)) && ((st y == y' && (st w == w' && !(y' == w'))) && (chM z ns o).v s0 sc o')
    | _ => false
  | .bin o a b, s0, sc, e => match e with
    | .BinOp a' p b' _ => bopA o == p && ((chM z ns a).v s0 sc a' && chT z ns b s0 sc b')
    | _ => false
  | .lst h as, s0, sc, e => match e with
    | .List es _ => chTs z ns as s0 sc es
    | _ => false
  | .call f as, s0, sc, e => match e with
    | .Call (.Name x _) es [] _ => (z.fg f && (z.fnm f == x && glB sc x)) && (noSt es && chTs z ns as s0 sc es)
    | _ => false
  | _, _, _, _ => false
def chTs (z : Nz) (ns : List Str) : List E → Scope → Scope → List Expr → Bool
  | [], _, _, es => es.isEmpty
  | a :: r, s0, sc, es => match es with
    | [] => false
    | e :: es => ((nstB e && !(chM z ns a).st) && ((chM z ns a).v s0 sc e || chT z ns a s0 sc e)) && chTs z ns r s0 sc es
end
/-- it gives a token out -/
def givB : E → Expr → Bool
  | .bin _ _ (.con _), .BinOp _ _ (.Constant (.str _) _ _) _ => true
  | _, _ => false
/-- a row of which one gives a token out -/
def chGs (z : Nz) (ns : List Str) : List E → Scope → Scope → List Expr → Bool
  | a :: r, s0, sc, e :: es => ((nstB e && !(chM z ns a).st) && (chM z ns a).v s0 sc e) && (match givB a e with
    | true => chTs z ns r s0 sc es
    | false => chGs z ns r s0 sc es)
  | _, _, _, _ => false
def WET (X : Cx) (e : Expr) : TE := fun σ H Q => ∀ (pins : List (Addr × Obj)) (s : Shared), 1 ≤ s.toks → Inv X pins σ H s → wpAny (model X.prog X.w) X.A (eval e X.env) (EP X pins σ Q) X.xe s
def WAT (X : Cx) (es : List Expr) : TA := fun σ H Q => ∀ (pos : Pos) (pins : List (Addr × Obj)) (s : Shared), 1 ≤ s.toks → Inv X pins σ H s → wpAny (model X.prog X.w) X.A (spliced (backTo pos (starEach es X.env))) (AP X pins σ Q) X.xe s
def WEG (X : Cx) (e : Expr) : TE := fun σ H Q => ∀ (pins : List (Addr × Obj)) (s : Shared), Inv X pins σ H s → wpAny (model X.prog X.w) X.A (eval e X.env) (fun v s1 => 1 ≤ s1.toks ∧ EP X pins σ Q v s1) X.xe s
def WAG (X : Cx) (es : List Expr) : TA := fun σ H Q => ∀ (pos : Pos) (pins : List (Addr × Obj)) (s : Shared), Inv X pins σ H s → wpAny (model X.prog X.w) X.A (spliced (backTo pos (starEach es X.env))) (fun v s1 => 1 ≤ s1.toks ∧ AP X pins σ Q v s1) X.xe s
section
variable {X : Cx} {e a b : Expr} {es : List Expr} {σ : L2.St} {H : Hp}
theorem pet : PET X e (WET X e) := fun pins s _ _ _ h I q => q pins s h I
theorem pat : PAT X es (WAT X es) := fun pos pins s _ _ _ h I q => q pos pins s h I
theorem wet_of {t : TE} (h : PET X e t) {Q : VK} (q : t σ H Q) : WET X e σ H Q := fun pins s k I => h pins s σ H Q k I q
theorem wat_of {t : TA} (h : PAT X es t) {Q : List V → Hp → Prop} (q : t σ H Q) : WAT X es σ H Q := fun pos pins s k I => h pos pins s σ H Q k I q
theorem wet_we {Q : VK} (h : WE X e σ H Q) : WET X e σ H Q := fun pins s _ I => h pins s I
theorem wet_mono {Q Q' : VK} (h : WET X e σ H Q) (k : ∀ v H', Q v H' → Q' v H') : WET X e σ H Q' := fun pins s z I => thn (h pins s z I) fun _ _ ⟨v, H', I', r, q⟩ => ⟨v, H', I', r, k v H' q⟩
theorem wat_mono {Q Q' : List V → Hp → Prop} (h : WAT X es σ H Q) (k : ∀ v H', Q v H' → Q' v H') : WAT X es σ H Q' := fun pos pins s z I => thn (h pos pins s z I) fun _ _ ⟨v, H', I', r, q⟩ => ⟨v, H', I', r, k v H' q⟩
theorem pet_callX {x : Str} {f : Addr} {p pos : Pos} {e : Expr} {es : List Expr} (hg : Gl X x) (hd : (x == ("__debug__" : Str)) = false) (hm : X.mg x = some (.ref f)) (hk : PySem.W.keepIn X.K (.ref f) = true) (hn : noSt (e :: es) = true) :
    PET X (.Call (.Name x p) (e :: es) [] pos) (tCB (RC X (.ref f)) (WAT X (e :: es))) := by
  intro pins s σ H Q k I h
  refine wpAny_Call_Name_kw (ld_glob I hg hm ?_ hd)
  simp only [noSt, List.all_cons, Bool.and_eq_true] at hn
  exact PySem.W.callWith_K (h₀ := X.base) I.ok.mod.kin hk (thn (h pos pins s k I) fun us s1 ⟨vs, H1, I1, r, q⟩ => ⟨I1.kIn, q pins s1 σ us I1 r⟩) (star_eq hn.1) (star_any hn.2)
/-- a + "text" -/
theorem weg_add {op : Operator} {y : Str} {j : Nat} {cp pos : Pos} {Q : VK} (h : WE X a σ H fun v H1 => RW X (binaryOp op) v (.str y) H1 Q) : WEG X (.BinOp a op (.Constant (.str y) j cp) pos) σ H Q := by
  intro pins s I
  refine wpAny_BinOp (thn (h pins s I) fun v s1 ⟨x, H1, I1, r1, q1⟩ => Calls.Constant_str ?_)
  refine wpAny_mono (PySem.wpAny_toks (q1 pins { s1 with toks := s1.toks + 1 } σ v (.str y s1.toks) (I1.tok _) r1 ⟨s1.toks, rfl⟩)) (fun _ s2 q => ⟨?_, q.2⟩) fun _ _ z => z.2
  have hk : s1.toks + 1 ≤ s2.toks := q.1
  omega
theorem wag_here {Q : List V → Hp → Prop} (hs : starEach (e :: es) X.env = (false, eval e X.env) :: starEach es X.env) (h : WEG X e σ H fun v H1 => WAT X es σ H1 fun vs H2 => Q (v :: vs) H2) : WAG X (e :: es) σ H Q := by
  intro pos pins s I
  rw [hs]
  show wpAny _ _ (spliced ((false, eval e X.env) :: backTo pos (starEach es X.env))) _ _ s
  refine Calls.spliced_cons (thn (h pins s I) fun v s1 ⟨hk, x, H1, I1, r1, q1⟩ => ?_)
  refine wpAny_mono (PySem.wpAny_toks (q1 pos pins s1 hk I1)) (fun us s2 q => ?_) fun _ _ z => z.2
  obtain ⟨hk2, xs, H2, I2, r2, q2⟩ := q
  exact ⟨Nat.le_trans hk hk2, x :: xs, H2, I2, .cons r1 r2, q2⟩
theorem wag_skip {Q : List V → Hp → Prop} (hs : starEach (e :: es) X.env = (false, eval e X.env) :: starEach es X.env) (h : WE X e σ H fun v H1 => WAG X es σ H1 fun vs H2 => Q (v :: vs) H2) : WAG X (e :: es) σ H Q := by
  intro pos pins s I
  rw [hs]
  show wpAny _ _ (spliced ((false, eval e X.env) :: backTo pos (starEach es X.env))) _ _ s
  refine Calls.spliced_cons (thn (h pins s I) fun v s1 ⟨x, H1, I1, r1, q1⟩ => ?_)
  exact thn (q1 pos pins s1 I1) fun us s2 ⟨hk2, xs, H2, I2, r2, q2⟩ => ⟨hk2, x :: xs, H2, I2, .cons r1 r2, q2⟩
theorem weg_lst {pos : Pos} {Q : VK} (h : WAG X es σ H fun xs H1 => xs.length ≤ sizeLine ∧ ∀ p, H1 p = none → Q (.ref p) (upd H1 p (.lst xs))) : WEG X (.List es pos) σ H Q := by
  intro pins s I
  refine wpAny_List_spliced (thn (h pos pins s I) fun us s1 ⟨hk, xs, H1, I1, r, z, q⟩ => ⟨by rw [← r.length]; exact z, ?_⟩)
  have hf : H1 s1.heap.objs.size = none := I1.hok.fresh (Nat.le_refl _)
  refine ⟨hk, .ref s1.heap.objs.size, upd H1 s1.heap.objs.size (.lst xs), I1.laid (t' := s1.toks) (fun b u e => Heap.get?_push_of_some _ e) (Nat.le_refl _) ?_, rfl, q _ hf⟩
  exact ⟨z, us, 0, r, Heap.get?_push_size _ rfl⟩
/-- x = e, then a token is out -/
theorem wss_setG {i : Nat} {x : Str} {pos' pos : Pos} {rest : List Stmt} {D : Ends} (hN : X.N.Nodup) (hi : X.N[i]? = some x) (hx : Loc X.env.scope x)
    (hs : swapsWith e (some (.Name x pos')) pos.line X.env = pure false) (hf : X.fn x = true ∨ X.env.scope.names.lookup x = some .local)
    (h : WEG X e σ H fun v H1 => ∀ (pins : List (Addr × Obj)) (s : Shared), 1 ≤ s.toks → Inv X pins (σ.set i (some v)) H1 s → wpAny (model X.prog X.w) X.A (PySem.execs rest X.env) (SP X pins D) X.xe s) : WSs X (.Assign [.Name x pos'] e pos :: rest) D σ H := by
  intro pins s I
  refine wpAny_execs_cons (wpAny_Assign_Name (thn (h pins s I) fun u s1 ⟨hk, v, H1, I1, r1, q1⟩ => ?_) hs)
  refine wpAny_mono (PySem.wpAny_toks (store_ok (v := v) (u := u) (Q := fun _ s2 => Inv X pins (σ.set i (some v)) H1 s2) I1 hN hi hx r1 (fun _ I2 => I2) hf)) (fun _ s2 q => ?_) fun _ _ z => z.2
  exact q1 pins s2 (Nat.le_trans hk q.1) q.2
end
section
variable (N : Nm) (P : Program) (B : Heap) (T : Tab) (cf : CF) (k : Nat) (ns : List Str)
def SVt (c : E) : Prop := ∀ {s0 sc : Scope} {W : XK} {X : Cx}, XS N P B T cf k ns s0 sc W X → ∀ {e : Expr}, chT N.toNz ns c s0 sc e = true → ∀ {env : Env} {g : G} {σ : L2.St} {L I : Hp} {rs : List Addr} {H : Hp} {Q : VK}, Rel N L I rs g H → ER N I rs env σ →
  OkV N L I rs H W Q ((evM T cf c).v env g) → WET X e σ H Q
def SAt (cs : List E) : Prop := ∀ {s0 sc : Scope} {W : XK} {X : Cx}, XS N P B T cf k ns s0 sc W X → ∀ {es : List Expr}, chTs N.toNz ns cs s0 sc es = true → ∀ {env : Env} {g : G} {σ : L2.St} {L I : Hp} {rs : List Addr} {H : Hp} {Q : List V → Hp → Prop}, Rel N L I rs g H → ER N I rs env σ →
  OkVs N L I rs H W Q (evs T cf cs env g) → WAT X es σ H Q
end
section
variable {N : Nm} {P : Program} {B : Heap} {T : Tab} {cf : CF} {k : Nat} {ns : List Str}
variable {s0 sc : Scope} {W : XK} {X : Cx} {L L1 I I1 I2 : Hp} {rs rs1 rs2 : List Addr} {g g1 : G} {H H1 H2 : Hp} {Q : VK} {x y z : D} {u v : V} {env : Env} {σ : L2.St}
theorem SVt.go {a : E} (h : SVt N P B T cf k ns a) (S : XS N P B T cf k ns s0 sc W X) {e : Expr} (hc : chT N.toNz ns a s0 sc e = true) (R : Rel N L I rs g H) (er : ER N I rs env σ) {β δ : Type} {P2 : Hp → List Addr → β → δ → Prop} {Q2 : δ → Hp → Prop} {kk : D → G → PC.R β}
    (ok : Ok N L P2 I rs H W Q2 (((evM T cf a).v env g).bind kk)) (q : ∀ v H1 d g1 I1 rs1, Rel N L I1 rs1 g1 H1 → ER N I1 rs1 env σ → Ext I rs H I1 rs1 H1 → VR N I1 rs1 d v → Ok N L P2 I1 rs1 H1 W Q2 (kk d g1) → Q v H1) : WET X e σ H Q :=
  wet_mono (h S hc R er ok.first) fun v H1 ⟨d, g1, I1, rs1, e1, R1, v1, ok1⟩ => q v H1 d g1 I1 rs1 R1 (er.after e1) e1 v1 ok1
theorem SAt.go {as : List E} (h : SAt N P B T cf k ns as) (S : XS N P B T cf k ns s0 sc W X) {es : List Expr} (hc : chTs N.toNz ns as s0 sc es = true) (R : Rel N L I rs g H) (er : ER N I rs env σ) {β δ : Type} {P2 : Hp → List Addr → β → δ → Prop} {Q2 : δ → Hp → Prop} {Q1 : List V → Hp → Prop} {kk : List D → G → PC.R β}
    (ok : Ok N L P2 I rs H W Q2 ((evs T cf as env g).bind kk)) (q : ∀ vs H1 ds g1 I1 rs1, Rel N L I1 rs1 g1 H1 → ER N I1 rs1 env σ → Ext I rs H I1 rs1 H1 → VRs N I1 rs1 ds vs → Ok N L P2 I1 rs1 H1 W Q2 (kk ds g1) → Q1 vs H1) : WAT X es σ H Q1 :=
  wat_mono (h S hc R er ok.first) fun v H1 ⟨d, g1, I1, rs1, e1, R1, v1, ok1⟩ => q v H1 d g1 I1 rs1 R1 (er.after e1) e1 v1 ok1

theorem tv_repl {o : E} {y w : List Nat} : SVt N P B T cf k ns (.repl o y w) := by
  intro s0 sc W X S e h env g σ L I rs H Q R er ok
  have ok : OkV N L I rs H W Q (((evM T cf o).v env g).bind fun x g1 => replD y w x g1) := ok
  simp only [chT] at h
  split at h
  · rename_i o' x ap y' j c0 w' k' c1 p
    simp only [Bool.and_eq_true, beq_iff_eq, Bool.not_eq_true'] at h
    obtain ⟨⟨rfl, h1, h2⟩, ⟨rfl, rfl, hyw⟩, h3⟩ := h
    refine wet_of (CwR.pet_replC (to := WE X o') we hyw rfl (ab_eq h1) (by rw [h2]; exact beq_self_eq_true _)) ?_
    refine SVp.go (sm N P B T cf k ns o).1 S h3 R er ok fun v1 H1 d1 g1 I1 rs1 R1 er1 e1 r1 ok1 => ?_
    unfold replD at ok1
    split at ok1
    · rename_i a
      cases r1
      split at ok1
      · rename_i hl
        have hl : a.length ≤ LIM ∧ w.length ≤ 14 := by simpa using hl
        have q := ok1.now R1 (.str _)
        rw [st_of] at q
        refine ⟨st a, rfl, ?_, q⟩
        rw [st_length, st_length]
        have h4 : a.length ≤ 1000000 := hl.1
        have : (a.length + 1) * w.length ≤ (a.length + 1) * 14 := Nat.mul_le_mul_left _ hl.2
        omega
      · exact ok1.elim
    · exact ok1.elim
  · exact Bool.noConfusion h
theorem tv_bin {o : Bop} {a b : E} (hb : SVt N P B T cf k ns b) : SVt N P B T cf k ns (.bin o a b) := by
  intro s0 sc W X S e h env g σ L I rs H Q R er ok
  have ok : OkV N L I rs H W Q (((evM T cf a).v env g).bind fun x g1 => ((evM T cf b).v env g1).bind fun y g2 => opt (binD g2 o x y) g2) := ok
  simp only [chT] at h
  split at h
  · simp only [Bool.and_eq_true, beq_iff_eq] at h
    obtain ⟨rfl, h1, h2⟩ := h
    refine wet_of (CwR.pet_op rw_op (CwR.PET.of we) pet) (SVp.go (sm N P B T cf k ns a).1 S h1 R er ok fun v1 H1 d1 g1 I1 rs1 R1 er1 e1 r1 ok1 => hb.go S h2 R1 er1 ok1 fun v2 H2 d2 g2 I2 rs2 R2 er2 e2 r2 ok2 => ?_)
    obtain ⟨z, hz, ok3⟩ := ok2.opt'
    exact bin_ok S.F.hK hz R2 (e2.vr r1) r2 ok3.gd
  · exact Bool.noConfusion h
theorem tv_lst {h : Bool} {as : List E} (ha : SAt N P B T cf k ns as) : SVt N P B T cf k ns (.lst h as) := by
  intro s0 sc W X S e hh env g σ L I rs H Q R er ok
  have ok : OkV N L I rs H W Q ((evs T cf as env g).bind fun vs g1 => mkL h vs g1) := ok
  simp only [chT] at hh
  split at hh
  · exact wet_of (pet_lst pat) (ha.go S hh R er ok fun vs H1 ds g1 I1 rs1 R1 er1 e1 r1 ok1 => mk_ok R1 r1 ok1)
  · exact Bool.noConfusion hh
theorem tv_call {f : Nat} {as : List E} (ha : SAt N P B T cf k ns as) : SVt N P B T cf k ns (.call f as) := by
  intro s0 sc W X S e h env g σ L I rs H Q R er ok
  have ok : OkV N L I rs H W Q ((evs T cf as env g).bind fun vs g1 => cf f vs g1) := ok
  simp only [chT] at h
  split at h
  · rename_i x p es q
    simp only [Bool.and_eq_true, beq_iff_eq] at h
    obtain ⟨⟨h1, rfl, h2⟩, h3, h4⟩ := h
    obtain ⟨b1, b2⟩ := gl_of (X := X) h2 S.sc
    obtain ⟨c1, c2⟩ := S.fa.fn f h1
    rw [← S.mg] at c1
    rw [← S.F.hK] at c2
    cases es with
    | nil =>
      have : as = [] := by cases as with | nil => rfl | cons _ _ => simp [chTs] at h4
      subst this
      exact wet_we (we_of (pe_callX0 b1 b2 c1 c2) (S.rc R .nil ok))
    | cons e es => exact wet_of (pet_callX b1 b2 c1 c2 h3) (ha.go S h4 R er ok fun vs H1 ds g1 I1 rs1 R1 er1 e1 r1 ok1 => S.rc R1 r1 ok1)
  · exact Bool.noConfusion h
theorem tv_no {c : E} (h : ∀ s0 sc e, chT N.toNz ns c s0 sc e = false) : SVt N P B T cf k ns c := by
  intro s0 sc W X S e hc
  rw [h] at hc
  cases hc
/-- an item, then the rest -/
theorem row_un {a : E} {r : List E} {Q : List V → Hp → Prop} (hs : (evM T cf a).st = false) (ok : OkVs N L I rs H W Q (evs T cf (a :: r) env g)) : OkVs N L I rs H W Q (((evM T cf a).v env g).bind fun x g1 => (evs T cf r env g1).bind fun ys g2 => .ok (x :: ys) g2) := by
  have ok : OkVs N L I rs H W Q (((evM T cf a).v env g).bind fun x g1 => match (evM T cf a).st with
      | true => (match seqD g1 x with
        | some xs => (evs T cf r env g1).bind fun ys g2 => .ok (xs ++ ys) g2
        | none => .stk)
      | false => (evs T cf r env g1).bind fun ys g2 => .ok (x :: ys) g2) := ok
  rw [hs] at ok
  exact ok
theorem row_fin {r : List E} {Q : List V → Hp → Prop} {d : D} {v : V} (hv : VR N I rs d v) (ok : OkVs N L I rs H W Q ((evs T cf r env g1).bind fun ys g2 => .ok (d :: ys) g2)) : OkVs N L I rs H W (fun ws H2 => Q (v :: ws) H2) (evs T cf r env g1) := by
  revert ok
  cases evs T cf r env g1 with
  | stk => exact fun h => h
  | exc x g => exact fun h => h
  | ok ys g2 => exact fun ok I' rs' H' b E R r => ok I' rs' H' (v :: b) E R (.cons (E.vr hv) r)
theorem ta_nil : SAt N P B T cf k ns [] := by
  intro s0 sc W X S es h env g σ L I rs H Q R er ok
  have : es = [] := by simpa [chTs] using h
  subst this
  exact wat_of pat_nil ((show OkVs N L I rs H W Q (.ok [] g) from ok) _ _ _ _ .refl R .nil)
theorem ta_cons {a : E} {r : List E} (ha : SVt N P B T cf k ns a) (hr : SAt N P B T cf k ns r) : SAt N P B T cf k ns (a :: r) := by
  intro s0 sc W X S es h env g σ L I rs H Q R er ok
  cases es with
  | nil => simp [chTs] at h
  | cons e es =>
    simp only [chTs, Bool.and_eq_true, Bool.or_eq_true, Bool.not_eq_true'] at h
    obtain ⟨⟨⟨h1, h2⟩, h3⟩, h4⟩ := h
    have e1 : (chM N.toNz ns a).st = (evM T cf a).st := by cases a <;> rfl
    have ok := row_un (e1 ▸ h2) ok
    refine wat_of (pat_cons pet pat (star_eq h1)) ?_
    rcases h3 with h3 | h3
    · exact wet_we (SVp.go (sm N P B T cf k ns a).1 S h3 R er ok fun v1 H1 d1 g1 I1 rs1 R1 er1 e1 r1 ok1 => hr S h4 R1 er1 (row_fin r1 ok1))
    · exact ha.go S h3 R er ok fun v1 H1 d1 g1 I1 rs1 R1 er1 e1 r1 ok1 => hr S h4 R1 er1 (row_fin r1 ok1)
mutual
theorem tv (N : Nm) (P : Program) (B : Heap) (T : Tab) (cf : CF) (k : Nat) (ns : List Str) : ∀ c : E, SVt N P B T cf k ns c
  | .repl o y w => tv_repl
  | .bin o a b => tv_bin (tv N P B T cf k ns b)
  | .lst h as => tv_lst (ta N P B T cf k ns as)
  | .call f as => tv_call (ta N P B T cf k ns as)
  | .nil => tv_no fun _ _ _ => by simp [chT]
  | .loc _ => tv_no fun _ _ _ => by simp [chT]
  | .con _ => tv_no fun _ _ _ => by simp [chT]
  | .glo _ => tv_no fun _ _ _ => by simp [chT]
  | .neg _ => tv_no fun _ _ _ => by simp [chT]
  | .not_ _ => tv_no fun _ _ _ => by simp [chT]
  | .and_ _ _ => tv_no fun _ _ _ => by simp [chT]
  | .or_ _ _ => tv_no fun _ _ _ => by simp [chT]
  | .cmp _ _ _ => tv_no fun _ _ _ => by simp [chT]
  | .chain _ _ _ _ _ => tv_no fun _ _ _ => by simp [chT]
  | .ite _ _ _ => tv_no fun _ _ _ => by simp [chT]
  | .callK _ _ _ => tv_no fun _ _ _ => by simp [chT]
  | .meth _ _ _ => tv_no fun _ _ _ => by simp [chT]
  | .fld _ _ => tv_no fun _ _ _ => by simp [chT]
  | .prop _ _ => tv_no fun _ _ _ => by simp [chT]
  | .bi _ _ => tv_no fun _ _ _ => by simp [chT]
  | .isi _ _ => tv_no fun _ _ _ => by simp [chT]
  | .bm _ _ _ => tv_no fun _ _ _ => by simp [chT]
  | .sub _ _ => tv_no fun _ _ _ => by simp [chT]
  | .slc _ _ _ => tv_no fun _ _ _ => by simp [chT]
  | .rev _ => tv_no fun _ _ _ => by simp [chT]
  | .own1 _ _ _ => tv_no fun _ _ _ => by simp [chT]
  | .own2 _ _ _ _ => tv_no fun _ _ _ => by simp [chT]
  | .ownC _ _ _ _ => tv_no fun _ _ _ => by simp [chT]
  | .methK _ _ _ _ => tv_no fun _ _ _ => by simp [chT]
  | .methW _ _ _ _ => tv_no fun _ _ _ => by simp [chT]
  | .callW _ _ => tv_no fun _ _ _ => by simp [chT]
  | .cmeth _ _ _ _ => tv_no fun _ _ _ => by simp [chT]
  | .cmethK _ _ _ _ => tv_no fun _ _ _ => by simp [chT]
  | .callS _ _ _ => tv_no fun _ _ _ => by simp [chT]
  | .tup _ => tv_no fun _ _ _ => by simp [chT]
  | .dct _ _ _ => tv_no fun _ _ _ => by simp [chT]
  | .dctS _ _ _ => tv_no fun _ _ _ => by simp [chT]
  | .dget _ _ _ => tv_no fun _ _ _ => by simp [chT]
  | .dget1 _ _ => tv_no fun _ _ _ => by simp [chT]
  | .itemsL _ => tv_no fun _ _ _ => by simp [chT]
  | .addL _ _ => tv_no fun _ _ _ => by simp [chT]
  | .dictP _ => tv_no fun _ _ _ => by simp [chT]
  | .star _ => tv_no fun _ _ _ => by simp [chT]
  | .frz _ => tv_no fun _ _ _ => by simp [chT]
  | .comp _ _ _ _ _ _ _ => tv_no fun _ _ _ => by simp [chT]
  | .range _ => tv_no fun _ _ _ => by simp [chT]
  | .enum _ => tv_no fun _ _ _ => by simp [chT]
  | .zip _ _ => tv_no fun _ _ _ => by simp [chT]
  | .listR _ => tv_no fun _ _ _ => by simp [chT]
  | .fldX _ _ => tv_no fun _ _ _ => by simp [chT]
  | .isX _ _ => tv_no fun _ _ _ => by simp [chT]
  | .isXs _ _ => tv_no fun _ _ _ => by simp [chT]
  | .mkX _ _ => tv_no fun _ _ _ => by simp [chT]
  | .mkXK _ _ => tv_no fun _ _ _ => by simp [chT]
theorem ta (N : Nm) (P : Program) (B : Heap) (T : Tab) (cf : CF) (k : Nat) (ns : List Str) : ∀ cs : List E, SAt N P B T cf k ns cs
  | [] => ta_nil
  | a :: r => ta_cons (tv N P B T cf k ns a) (ta N P B T cf k ns r)
end
/-- a + "text" gives a token out -/
theorem giv_ok (S : XS N P B T cf k ns s0 sc W X) {a : E} {e : Expr} (hc : (chM N.toNz ns a).v s0 sc e = true) (hg : givB a e = true) (R : Rel N L I rs g H) (er : ER N I rs env σ) (ok : OkV N L I rs H W Q ((evM T cf a).v env g)) : WEG X e σ H Q := by
  unfold givB at hg
  split at hg
  · rename_i o c d a' p y j cp pos
    replace ok : OkV N L I rs H W Q (((evM T cf c).v env g).bind fun x g1 => (PC.R.ok d g1).bind fun y g2 => opt (binD g2 o x y) g2) := ok
    simp only [chM, Ck.of, Bool.and_eq_true, beq_iff_eq] at hc
    obtain ⟨rfl, h1, h2⟩ := hc
    refine weg_add (SVp.go (sm N P B T cf k ns c).1 S h1 R er ok fun v1 H1 d1 g1 I1 rs1 R1 er1 e1 r1 ok1 => ?_)
    cases d
    case str s' =>
     have h2 := eq_of_beq (show (s' == y.cps.toList) = true from h2)
     subst h2
     obtain ⟨z, hz, ok3⟩ := (show OkV N L I1 rs1 H1 W Q (opt (binD g1 o d1 (.str y.cps.toList)) g1) from ok1).opt'
     have r2 : VR N I1 rs1 (.str y.cps.toList) (.str y) := by
       have q : VR N I1 rs1 (.str y.cps.toList) (.str (st y.cps.toList)) := .str _
       rwa [st_of] at q
     exact bin_ok S.F.hK hz R1 r1 r2 ok3.gd
    all_goals exact Bool.noConfusion h2
  · exact Bool.noConfusion hg
theorem wag_ok (S : XS N P B T cf k ns s0 sc W X) (as : List E) : ∀ {es : List Expr}, chGs N.toNz ns as s0 sc es = true → ∀ {g : G} {I : Hp} {rs : List Addr} {H : Hp} {Q : List V → Hp → Prop}, Rel N L I rs g H → ER N I rs env σ → OkVs N L I rs H W Q (evs T cf as env g) → WAG X es σ H Q := by
  induction as with
  | nil => intro es h; simp [chGs] at h
  | cons a r ih =>
    intro es h g I rs H Q R er ok
    cases es with
    | nil => simp [chGs] at h
    | cons e es =>
      simp only [chGs, Bool.and_eq_true, Bool.not_eq_true'] at h
      obtain ⟨⟨⟨h1, h2⟩, h3⟩, h4⟩ := h
      have e1 : (chM N.toNz ns a).st = (evM T cf a).st := by cases a <;> rfl
      have ok := row_un (e1 ▸ h2) ok
      cases hg : givB a e with
      | true =>
        rw [hg] at h4
        refine wag_here (star_eq h1) fun pins s J => thn (giv_ok S h3 hg R er ok.first pins s J) fun v s1 ⟨hk, v1, H1, J1, rv, d1, g1, I1, rs1, E1, R1, r1, ok1⟩ => ⟨hk, v1, H1, J1, rv, ?_⟩
        exact ta N P B T cf k ns r S h4 R1 (er.after E1) (row_fin r1 ok1)
      | false =>
        rw [hg] at h4
        exact wag_skip (star_eq h1) (SVp.go (sm N P B T cf k ns a).1 S h3 R er ok fun v1 H1 d1 g1 I1 rs1 R1 er1 e1 r1 ok1 => ih h4 R1 er1 (row_fin r1 ok1))
end
/-! ### loops where a token is out -/
theorem thnk {α : Type} {M : Model} {A : Around} {t : Sem α} {Q R : α → Shared → Prop} {E : Value → Shared → Prop} {s : Shared} (hk : 1 ≤ s.toks) (h : wpAny M A t Q E s) (k : ∀ a s', 1 ≤ s'.toks → Q a s' → R a s') : wpAny M A t R E s :=
  wpAny_mono (PySem.wpAny_toks_of hk h) (fun a s' q => k a s' q.1 q.2) (fun _ _ z => z.2)
def PIG (X : Cx) (tg iter : Expr) (wi : TI) : Prop :=
  ∀ (pins : List (Addr × Obj)) (s : Shared) (σ : L2.St) (H : Hp) (R : It → Hp → Prop), Inv X pins σ H s → wi σ H R →
    wpAny (model X.prog X.w) X.A (eval iter X.env) (fun v s1 => wpAny (model X.prog X.w) X.A (pyIter v) (fun itv s2 => 1 ≤ s2.toks ∧ PIE X pins σ tg R itv s2) X.xe s1) X.xe s
section
variable {X : Cx} {tg : Expr}
theorem pig_range1 {a : Expr} {ta : TA} {p pos : Pos} (hg : Gl X "range") (hm : X.mg "range" = none) (ha : PA X [a] ta) (hs : starEach [a] X.env = [(false, eval a X.env)] := by rfl) : PIG X tg (.Call (.Name "range" p) [a] [] pos) (iRng1 ta) := by
  intro pins s σ H R I h
  refine Call_ (ld_blt I hg hm boot_range (PyProof.Rows.callWith_type1 (thn (ha.run pos pins s σ H _ I h) fun us s1 ⟨vs, H1, I1, r1, q1⟩ => ?_) hs rfl))
  obtain ⟨j, e, q1, q2, q⟩ := q1
  subst e
  cases r1 with
  | cons r rr =>
    cases rr
    obtain ⟨t, rfl⟩ := r
    exact call_range_1 (thnk (by show 1 ≤ _ + _; omega) (range_it I1 (by omega) (by omega) q1 q2 (by simpa using q)) fun _ _ hk q => ⟨hk, q⟩)
theorem ps_forG {iter : Expr} {body : List Stmt} {wi : TI} {g : TG} {tb : TS} {pos : Pos} (hp : PassesOwn (model X.prog X.w) X.A X.env X.xe) (hc : X.calm = true) (hi : PIG X tg iter wi) (hg : PG X tg g) (hb : PSsT X body tb)
    (hs : ∀ x, foldedSetIterable iter X.env x = pure x) : PS X (.For tg iter body [] pos) (tFor wi g tb) := by
  refine ⟨fun pins s σ H D I h => ?_⟩
  refine wpAny_For (thn (hi pins s σ H _ I h) fun v s1 h1 => thn h1 fun itv s2 h2 => ?_) hs
  obtain ⟨k2, it, fp, tn, J, H2, e, I2, T, st2, f2, W, ⟨m0, w0⟩, turn⟩ := h2
  subst e
  have stat : ∀ {H' : Hp}, (∀ b ∈ fp, H' b = none) → ∀ b ∈ fp, FpOk X pins H' b := fun hn b hb => ⟨hn b hb, (f2 b hb).2⟩
  refine codeAny_forLoop_any (fun n s' => 1 ≤ s'.toks ∧ ∃ i σ' H', Inv X pins σ' H' s' ∧ tn i s'.heap ∧ (∀ b ∈ fp, H' b = none) ∧ W i n σ' H') ?_ m0 ⟨k2, 0, σ, H2, I2, st2, fun b hb => (f2 b hb).1, w0⟩
  rintro n s3 ⟨k3, i, σ3, H3, I3, st3, fr3, w3⟩
  rcases turn i n σ3 H3 w3 with ⟨stop, qn⟩ | ⟨go, N, hN, step⟩
  · refine wpAny_passesOwn hp (thn (T.done X rfl rfl rfl hc i pins s3 σ3 H3 X.xe I3 (stat fr3) st3 stop) fun r s4 ⟨hr, I4⟩ => ?_)
    subst hr
    exact wpAny_execs_nil ⟨σ3, H3, I4, qn⟩
  · refine wpAny_passesOwn hp (thnk k3 (T.item X rfl rfl rfl hc i pins s3 σ3 H3 X.xe I3 (stat fr3) st3 go) fun r s4 k4 ⟨u, hr, h4⟩ => ?_)
    subst hr
    refine wpAny_passesOwn hp (thnk k4 h4 fun _ s5 k5 ⟨x, H5, I5, r5, y5, st5, fr5⟩ => ?_)
    have I5' := I5.pinned (stat fr5) (T.obj _ _ st5)
    refine wpAny_passesOwn hp (thnk k5 (hg.run _ s5 σ3 H5 x u _ I5' r5 (step x H5 y5)) fun _ s6 k6 ⟨σ6, H6, I6, q6⟩ => ?_)
    refine wpAny_passesOwn hp (thnk k6 (hb _ s6 σ6 H6 _ k6 I6 q6) fun f s7 k7 q7 => ?_)
    have again : ∀ {σ7 : L2.St} {H7 : Hp}, Inv X (pins ++ pinsAt fp s5.heap) σ7 H7 s7 → N σ7 H7 → ∃ m, m < n ∧ (1 ≤ s7.toks ∧ ∃ i σ' H', Inv X pins σ' H' s7 ∧ tn i s7.heap ∧ (∀ b ∈ fp, H' b = none) ∧ W i m σ' H') := fun {σ7 H7} I7 n7 => by
      obtain ⟨m', hm, w7⟩ := hN σ7 H7 n7
      refine ⟨m', hm, k7, i + 1, σ7, H7, I7.unpinned, T.keep _ _ _ st5 fun b hb o e => (I7.pin (b, o) (List.mem_append_right _ (List.mem_append_right _ (mem_pinsAt hb e)))).1, fun b hb => ?_, w7⟩
      obtain ⟨o, e, d⟩ := T.obj _ _ st5 b hb
      exact (I7.pin (b, o) (List.mem_append_right _ (List.mem_append_right _ (mem_pinsAt hb e)))).2.1
    cases f with
    | next => obtain ⟨σ7, H7, I7, n7⟩ := q7; exact again I7 n7
    | cont => obtain ⟨σ7, H7, I7, n7⟩ := q7; exact again I7 n7
    | brk => obtain ⟨σ7, H7, I7, q7⟩ := q7; exact ⟨σ7, H7, I7.unpinned, q7⟩
    | ret v => obtain ⟨x7, σ7, H7, I7, r7, q7⟩ := q7; exact ⟨x7, σ7, H7, I7.unpinned, r7, q7⟩
theorem pst_par {i j : Nat} {x y : Str} {a b : Expr} {ta : TA} {px py pt pos : Pos} {kt k2 pt2} (hc : X.calm = true) (hN : X.N.Nodup) (hi : X.N[i]? = some x) (hj : X.N[j]? = some y) (hij : i ≠ j)
    (hx : X.env.scope.names.lookup x = some .local) (hy : X.env.scope.names.lookup y = some .local) (ha : PAT X [a, b] ta)
    (hw : swappedStores [.Tuple [.Name x px, .Name y py] kt pt] (.Tuple [a, b] k2 pt2) X.env = pure (some [x, y]))
    (hs : swapsWithSole [.Tuple [.Name x px, .Name y py] kt pt] (.Tuple [a, b] k2 pt2) pos.line X.env = pure false := by rfl) :
    PST X (.Assign [.Tuple [.Name x px, .Name y py] kt pt] (.Tuple [a, b] k2 pt2) pos) (tPar i j ta) := by
  intro pins s σ H D k I h
  rw [exec_Assign_arm]
  refine wpAny_bind (wpAny_standAt ?_)
  rw [hs]
  refine wpAny_bind (wpAny_pure ?_)
  rw [if_neg (by decide)]
  refine wpAny_bind (Tuple_ (thn (ha _ pins s σ H _ k I h) fun us s1 ⟨vs, H1, I1, r1, q1⟩ => ?_))
  obtain ⟨v, w, e1, q1⟩ := q1
  subst e1
  obtain ⟨u1, u2, rfl, rv, rw'⟩ : ∃ u1 u2, us = [u1, u2] ∧ RelV v u1 ∧ RelV w u2 := by
    cases r1 with
    | cons p q =>
      cases q with
      | cons p' q' =>
        cases q'
        exact ⟨_, _, rfl, p, p'⟩
  refine wpAny_newObj_type ?_ (by show 2 ≤ sizeLine; decide)
  have I2 : Inv X pins σ H1 { s1 with heap := s1.heap.push { cls := .type "tuple", data := .seq [u1, u2].toArray } } := I1.kept (t' := s1.toks) fun b o e => Heap.get?_push_of_some _ e
  rw [hw]
  refine wpAny_bind (wpAny_pure ?_)
  show wpAny (model X.prog X.w) X.A (do rule "assign.swapped-stores"; let items ← unpackItems (.ref s1.heap.objs.size) 2 none; assignInOrder [fun v => bindName X.env y v, fun v => bindName X.env x v] items.reverse; pure Flow.next) _ _ _
  refine wpAny_bind (wpAny_rule (wpAny_bind (unpackItems_tuple (items := #[u1, u2]) (I.ok.hd hc) (IsTup.new s1.heap _) fun h' hx' => ?_)))
  have I3 := I2.kept (h' := h') (t' := s1.toks) fun b o e => hx' b o (Nat.ne_of_lt (Heap.lt_size e)) e
  show wpAny _ _ (assignInOrder [fun v => bindName X.env y v, fun v => bindName X.env x v] [u2, u1] >>= fun _ => pure Flow.next) _ _ _
  refine wpAny_bind (assignInOrder_cons (wpAny_bindName (store_ok I3 hN hj (.inl hy) rw' (fun s2 I4 => ?_) (.inr hy))))
  refine assignInOrder_cons (wpAny_bindName (store_ok I4 hN hi (.inl hx) rv (fun s3 I5 => assignInOrder_nil (wpAny_pure ?_)) (.inr hx)))
  rw [List.set_comm _ _ (Ne.symm hij)] at I5
  exact ⟨_, H1, I5, q1⟩
end
end PC
end
section
set_option maxHeartbeats 4000000
namespace PC
open PySem L2 PyProof.Rows
/-- no comprehension -/
def swB : Expr → Bool
  | .ListComp _ _ _ _ => false
  | .SetComp _ _ _ _ => false
  | .DictComp _ _ _ _ _ => false
  | _ => true
def tupB : Expr → Bool
  | .Tuple _ _ _ => false
  | _ => true
def swC (sc : Scope) (x : Str) (px p : Pos) (scope : Scope) : Bool := true && (lk sc x == some .local) && (px.line == p.line) && !(scope.names.any fun (n, k) => n == x && (k == .local || k == .cell))
def augB : Bop → Operator → Bool
  | .add, .Add => true
  | .sub, .Sub => true
  | _, _ => false
/-- two names that are stored at once -/
def parB (ns : List Str) (sc : Scope) (is : List Nat) (x y : Str) : Bool := match is with
  | [i, j] => (ns[i]? == some x && ns[j]? == some y) && (!(i == j) && (lk sc x == some .local && lk sc y == some .local))
  | _ => false
def par3B (ns : List Str) (sc : Scope) (is : List Nat) (x y w : Str) : Bool := match is with
  | [i, j, l] => (ns[i]? == some x && (ns[j]? == some y && ns[l]? == some w)) && ((!(i == j) && (!(i == l) && !(j == l))) && (lk sc x == some .local && (lk sc y == some .local && lk sc w == some .local)))
  | _ => false
/-- attributes of one name's object -/
def atsB (z : Nz) (ns : List Str) (sc : Scope) (i : Nat) : List Nat → List Expr → Bool
  | [], [] => true
  | f :: fs, .Attribute (.Name y _) x _ :: es => (ns[i]? == some y && (visB sc y && z.nm f == x)) && atsB z ns sc i fs es
  | _, _ => false
def litB (k : List Nat) : PySem.Pattern → Bool
  | .MatchValue (.Constant (.str x) _ _) _ => k == x.cps.toList
  | _ => false
def litsB : List (List Nat) → List PySem.Pattern → Bool
  | [], [] => true
  | k :: ks, p :: ps => litB k p && litsB ks ps
  | _, _ => false
/-- a written text, or several -/
def pat1B : List (List Nat) → PySem.Pattern → Bool
  | [k], p => litB k p
  | _, _ => false
def patB (ks : List (List Nat)) (p : PySem.Pattern) : Bool := match p with
  | .MatchOr ps _ => litsB ks ps
  | p => pat1B ks p
def noSwB (es : List Expr) (e : Expr) : Bool := match e with
  | .Tuple vs _ _ => !(es.length == 2 || es.length == 3) || vs.all (foldedForSure 8)
  | _ => true
/-- .. or a name among them is a cell -/
def celB (sc : Scope) : Expr → Bool
  | .Name x _ => lk sc x == some .cell
  | _ => false
def noSwC (sc : Scope) (es : List Expr) (e : Expr) : Bool := noSwB es e || es.any (celB sc)
/-- a list is stored, a token is out behind it -/
def chSG (z : Nz) (ns : List Str) (sc : Scope) : S → Stmt → Bool
  | .set i (.lst _ as), .Assign [.Name x _] (.List es _) _ => nmB ns sc sc i x && chGs z ns as sc sc es
  | _, _ => false
/-- what is read where a token is out -/
def chT1 (z : Nz) (ns : List Str) (sc : Scope) : S → Stmt → Bool
  | .ret c, .Return (some e) _ => chT z ns c sc sc e
  | .par is es, .Assign [.Tuple [.Name x px, .Name y py] k p] (.Tuple [e1, e2] k2 p2) _ => (parB ns sc is x y && ((px.line == py.line && !([e1, e2].all (foldedForSure 8))) && !([e1, e2].all (constantsAlone 8)))) && ((nstB e1 && nstB e2) && chTs z ns es sc sc [e1, e2])
  | _, _ => false
def rngB : E → Bool
  | .range [_] => true
  | _ => false
/-- errors' classes in an except clause -/
def xnB (z : Nz) (sc : Scope) : List Nat → List Expr → Bool
  | [], [] => true
  | c :: cs, .Name x _ :: es => (z.xg c && (z.cn c == x && glB sc x)) && xnB z sc cs es
  | _, _ => false
def tstB (z : Nz) (sc : Scope) (cs : List Nat) (t : Expr) : Bool := match t with
  | .Tuple es _ _ => xnB z sc cs es && (decide (2 ≤ cs.length) && decide (cs.length ≤ 4))
  | t => decide (cs.length = 1) && xnB z sc cs [t]
def hdsB (z : Nz) (ns : List Str) (sc : Scope) : List (List Nat × XHd) → List ExceptHandler → Bool
  | [], [] => true
  | (cs, .keep i j) :: r, .ExceptHandler (some t) (some n) [.Assign [.Name m _] (.Name n' _) _] _ :: hds => (tstB z sc cs t && ((n == n' && (ns[i]? == some n && lk sc n == some .local)) && ((ns[j]? == some m && lk sc m == some .local) && (!(i == j) && (!(n == ("__debug__" : Str)) && !(n == ("__classdict__" : Str))))))) && hdsB z ns sc r hds
  | (cs, .con d) :: r, .ExceptHandler (some t) none [.Return (some (.Constant c _ _)) _] _ :: hds => (tstB z sc cs t && conB d c) && hdsB z ns sc r hds
  | (cs, .pass) :: r, .ExceptHandler (some t) none [.Pass _] _ :: hds => tstB z sc cs t && hdsB z ns sc r hds
  | _, _ => false
def clB (z : Nz) (ns : List Str) (sc : Scope) (cl : XCl) (as : List E) (e : Expr) : Bool := match cl, as, e with
  | .fn f, as, .Call (.Name x _) es [] _ => (z.fg f && (z.fnm f == x && glB sc x)) && (noSt es && chs z ns as sc sc es)
  | .me m, o :: as, .Call (.Attribute o' x ap) es [] p => (z.nm m == x && (abB o' && ap.endLine == p.line)) && ((noSt es && decide (es.length < 29)) && ((chM z ns o).v sc sc o' && chs z ns as sc sc es))
  | _, _, _ => false
def tryB (z : Nz) (ns : List Str) (sc : Scope) (r : XTr) (cl : XCl) (as : List E) (s : Stmt) : Bool := match r, s with
  | .drop, .Expr e _ => swB e && clB z ns sc cl as e
  | .set i, .Assign [.Name x _] e _ => nmB ns sc sc i x && (swB e && clB z ns sc cl as e)
  | .ret, .Return (some e) _ => clB z ns sc cl as e
  | _, _ => false
mutual
def chS (z : Nz) (ns : List Str) (sc : Scope) : S → Stmt → Bool
  | .pass, s => match s with
    | .Pass _ => true
    | _ => false
  | .brk, s => match s with
    | .Break _ => true
    | _ => false
  | .cont, s => match s with
    | .Continue _ => true
    | _ => false
  | .ex c, s => match s with
    | .Expr e _ => swB e && (chM z ns c).v sc sc e
    | _ => false
  | .ret c, s => match s with
    | .Return (some e) _ => (chM z ns c).v sc sc e
    | _ => false
  | .retN, s => match s with
    | .Return none _ => true
    | _ => false
  | .set i c, s => match s with
    | .Assign [.Name x px] e _ => nmB ns sc sc i x && ((chM z ns c).v sc sc e && (swB e || (match c, e with
      | .comp _ _ _ _ _ _ _, .ListComp _ _ _ _ => true
      | _, _ => false)))
    | _ => false
  | .unp is c, s => match s with
    | .Assign [.Tuple es k p] e _ => (swB e && noSwC sc es e) && (nmsB ns sc sc is es && (chM z ns c).v sc sc e)
    | _ => false
  | .unpL is c, s => match s with
    | .Assign [.Tuple es k p] e _ => (swB e && noSwC sc es e) && (nmsB ns sc sc is es && (chM z ns c).v sc sc e)
    | _ => false
  | .par is es, s => match s with
    | .Assign [.Tuple [.Name x px, .Name y py] k p] (.Tuple [e1, e2] k2 p2) _ => (parB ns sc is x y && ((px.line == py.line && !([e1, e2].all (foldedForSure 8))) && !([e1, e2].all (constantsAlone 8)))) && ((nstB e1 && nstB e2) && chs z ns es sc sc [e1, e2])
    | .Assign [.Tuple [.Name x px, .Name y py, .Name w pw] k p] (.Tuple [e1, e2, e3] k2 p2) _ => (par3B ns sc is x y w && (((px.line == py.line && px.line == pw.line) && !([e1, e2, e3].all (foldedForSure 8))) && !([e1, e2, e3].all (constantsAlone 8)))) && ((nstB e1 && (nstB e2 && nstB e3)) && chs z ns es sc sc [e1, e2, e3])
    | _ => false
  | .setF f o c, s => match s with
    | .Assign [.Attribute o' x _] e _ => (swB e && z.nm f == x) && ((chM z ns c).v sc sc e && (chM z ns o).v sc sc o')
    | _ => false
  | .setI o i c, s => match s with
    | .Assign [.Subscript o' i' _] e _ => (swB e && ixB i') && ((chM z ns c).v sc sc e && ((chM z ns o).v sc sc o' && (chM z ns i).v sc sc i'))
    | _ => false
  | .aug i o c, s => match s with
    | .AugAssign (.Name x _) p e _ => (nmB ns sc sc i x && augB o p) && (chM z ns c).v sc sc e
    | _ => false
  | .augF f o p c, s => match s with
    | .AugAssign (.Attribute o' x _) q e _ => (z.nm f == x && augB p q) && ((chM z ns c).v sc sc e && (chM z ns o).v sc sc o')
    | _ => false
  | .ite c a b, s => match s with
    | .If c' a' b' _ => (chM z ns c).t sc sc c' && (chSs z ns sc a a' && chSs z ns sc b b')
    | _ => false
  | .while_ c b, s => match s with
    | .While c' b' [] _ => (chM z ns c).t sc sc c' && chSs z ns sc b b'
    | _ => false
  | .for_ one tg it b, s => match s with
    | .For tg' it' b' [] _ => (tgB ns sc sc one tg tg' && (chM z ns it).i sc sc tg' it') && (chSs z ns sc b b' || (rngB it && chTSs z ns sc b b'))
    | _ => false
  | .unpA i fs c, s => match s with
    | .Assign [.Tuple es k p] e _ => (swB e && noSwB es e) && (atsB z ns sc i fs es && (chM z ns c).v sc sc e)
    | _ => false
  | .mtch e ks bs, s => match s with
    | .Match e' cs _ => (chM z ns e).v sc sc e' && chC z ns sc ks bs cs
    | _ => false
  | .with_ i c en ex b, s => match s with
    | .With [⟨ctx, some (.Name y _)⟩] b' _ => (nmB ns sc sc i y && (z.nm en == ("__enter__" : Str) && z.nm ex == ("__exit__" : Str))) && ((chM z ns c).v sc sc ctx && chSs z ns sc b b')
    | _ => false
  | .raise c as, s => match s with
    | .Raise (some (.Call (.Name x _) [e] [] _)) none _ => (z.xg c && (z.cn c == x && glB sc x)) && (nstB e && chs z ns as sc sc [e])
    | _ => false
  | .try_ r cl as hs, s => match s with
    | .Try [st] (h0 :: hds) [] [] _ => tryB z ns sc r cl as st && hdsB z ns sc hs (h0 :: hds)
    | _ => false
  | .nev, s => true
/-- the cases of a match, then what is done if none is met -/
def chC (z : Nz) (ns : List Str) (sc : Scope) : List (List (List Nat)) → List (List S) → List MatchCase → Bool
  | [], [[]], [] => true
  | [], [b], [⟨.MatchAs none none _, none, b'⟩] => chSs z ns sc b b'
  | k :: ks, b :: bs, ⟨p, none, b'⟩ :: cs => patB k p && (chSs z ns sc b b' && chC z ns sc ks bs cs)
  | _, _, _ => false
def chSs (z : Nz) (ns : List Str) (sc : Scope) : List S → List Stmt → Bool
  | [], ss => ss.isEmpty
  | c :: cs, ss => match ss with
    | [] => false
    | s :: ss => (chS z ns sc c s && chSs z ns sc cs ss) || (chSG z ns sc c s && chTSs z ns sc cs ss)
def chTSs (z : Nz) (ns : List Str) (sc : Scope) : List S → List Stmt → Bool
  | [], ss => ss.isEmpty
  | c :: cs, ss => match ss with
    | [] => false
    | s :: ss => (chS z ns sc c s || chT1 z ns sc c s) && chTSs z ns sc cs ss
end
/-- the context of a def's statements -/
structure XD (N : Nm) (P : Program) (B : Heap) (T : Tab) (cf : CF) (k : Nat) (ns : List Str) (sc : Scope) (W : XK) (X : Cx) : Prop where
  S : XS N P B T cf k ns sc sc W X
  hp : PassesOwn (model X.prog X.w) X.A X.env X.xe
  tk : Takes X (fun cls d _ H => W cls d H)
  hs : X.stack = X.env :: X.outer
  hfr : X.env.frame = some X.env.locals
  hex : X.ex = []
/-- from (I, rs, H) the end of a statement serves D -/
def OkF (N : Nm) (L I : Hp) (rs : List Addr) (H : Hp) (W : XK) (D : Ends) : R Fl → Prop
  | .ok (.nx env) g => ∀ I' rs' H' σ, Ext I rs H I' rs' H' → Rel N L I' rs' g H' → ER N I' rs' env σ → D.nx σ H'
  | .ok (.ct env) g => ∀ I' rs' H' σ, Ext I rs H I' rs' H' → Rel N L I' rs' g H' → ER N I' rs' env σ → D.ct σ H'
  | .ok (.bk env) g => ∀ I' rs' H' σ, Ext I rs H I' rs' H' → Rel N L I' rs' g H' → ER N I' rs' env σ → D.bk σ H'
  | .ok (.rt d) g => ∀ I' rs' H' v, Ext I rs H I' rs' H' → Rel N L I' rs' g H' → VR N I' rs' d v → D.rt v H'
  | .exc x g => ∀ I' rs' H' cls d, Ext I rs H I' rs' H' → Rel N L I' rs' g H' → XR N I' rs' x cls d → W cls d H'
  | .stk => False
section
variable {N : Nm} {P : Program} {B : Heap} {T : Tab} {cf : CF} {k : Nat} {ns : List Str}
variable {s0 sc : Scope} {W : XK} {X : Cx} {L L1 I I1 I2 : Hp} {rs rs1 rs2 : List Addr} {g g1 : G} {H H1 H2 : Hp} {Q : VK} {x y z : D} {u v : V} {env : Env} {σ : L2.St} {D D' : Ends}
theorem OkF.after {r : R Fl} (h : OkF N L I rs H W D r) (e : Ext I rs H I1 rs1 H1) : OkF N L I1 rs1 H1 W D r := by
  cases r with
  | ok f g => cases f <;> exact fun I' rs' H' b e' R p => h I' rs' H' b (e.trans e') R p
  | exc x g => exact fun I' rs' H' c d e' R p => h I' rs' H' c d (e.trans e') R p
  | stk => exact h
/-- an expression, then the rest -/
theorem OkF.first {α γ : Type} {P1 : Hp → List Addr → α → γ → Prop} {r : R α} {kk : α → G → R Fl}
    (ok : OkF N L I rs H W D (r.bind kk)) : Ok N L P1 I rs H W (fun b H1 => ∃ a g1 I1 rs1, Ext I rs H I1 rs1 H1 ∧ Rel N L I1 rs1 g1 H1 ∧ P1 I1 rs1 a b ∧ OkF N L I1 rs1 H1 W D (kk a g1)) r := by
  cases r with
  | ok a g => exact fun I' rs' H' b e R p => ⟨a, g, I', rs', e, R, p, ok.after e⟩
  | exc x g => exact ok
  | stk => exact ok
theorem OkF.nx' (R : Rel N L I rs g H) (er : ER N I rs env σ) (ok : OkF N L I rs H W D (.ok (.nx env) g)) : D.nx σ H := ok I rs H σ .refl R er
/-- another end -/
theorem OkF.imp {r : R Fl} (h : OkF N L I rs H W D r) (h1 : ∀ σ H, D.nx σ H → D'.nx σ H) (h2 : ∀ v H, D.rt v H → D'.rt v H) (h3 : ∀ σ H, D.bk σ H → D'.bk σ H) (h4 : ∀ σ H, D.ct σ H → D'.ct σ H) : OkF N L I rs H W D' r := by
  cases r with
  | ok f g =>
    cases f with
    | nx _ => exact fun I' rs' H' b e' R p => h1 _ _ (h I' rs' H' b e' R p)
    | rt _ => exact fun I' rs' H' b e' R p => h2 _ _ (h I' rs' H' b e' R p)
    | bk _ => exact fun I' rs' H' b e' R p => h3 _ _ (h I' rs' H' b e' R p)
    | ct _ => exact fun I' rs' H' b e' R p => h4 _ _ (h I' rs' H' b e' R p)
  | exc x g => exact h
  | stk => exact h
theorem sw_no {e : Expr} {tg : Option Expr} {n : Nat} {en : PySem.Env} (h : swB e = true) : swapsWith e tg n en = pure false := by
  cases e <;> first | rfl | cases h
/-- nothing is stored from the right -/
theorem ss_tup2 {es : List Expr} {kk : Nat} {p : Pos} {e : Expr} {en : PySem.Env} (h : noSwB es e = true) : swappedStores [.Tuple es kk p] e en = pure none := by
  cases e with
  | Tuple vs k2 p2 =>
    have h : (!(es.length == 2 || es.length == 3) || vs.all (foldedForSure 8)) = true := h
    unfold swappedStores
    simp only [pure_bind]
    split
    · rfl
    · rename_i h1
      split
      · rfl
      · split
        · rfl
        · rw [if_pos ?_]
          simp only [Bool.or_eq_true, Bool.not_eq_true', not_or] at h h1
          rcases h with h | h
          · exact absurd h h1.1.1
          · exact h
  | _ => rfl
theorem fm_lt {α β : Type} {f : α → Option β} : ∀ {l : List α}, (∃ t ∈ l, f t = none) → (l.filterMap f).length < l.length
  | [], h => by obtain ⟨t, ht, _⟩ := h; cases ht
  | a :: l, h => by
    have le := List.length_filterMap_le f l
    cases ha : f a with
    | none => rw [List.filterMap_cons_none ha, List.length_cons]; omega
    | some b =>
      obtain ⟨t, ht, hf⟩ := h
      rcases List.mem_cons.mp ht with z | z
      · subst z; rw [ha] at hf; cases hf
      · have := fm_lt ⟨t, z, hf⟩
        rw [List.filterMap_cons_some ha, List.length_cons, List.length_cons]; omega
theorem ss_tup3 {sc : Scope} {es : List Expr} {kk : Nat} {p : Pos} {e : Expr} {en : PySem.Env} (h : noSwC sc es e = true) (hs : en.scope = sc) : swappedStores [.Tuple es kk p] e en = pure none := by
  unfold noSwC at h
  rw [Bool.or_eq_true] at h
  rcases h with h | h
  · exact ss_tup2 h
  · rw [List.any_eq_true] at h
    obtain ⟨t, ht, hc⟩ := h
    cases e with
    | Tuple vs k2 p2 =>
      unfold swappedStores
      simp only [pure_bind]
      split
      · rfl
      · split
        · rfl
        · split
          · rfl
          · rename_i hne
            exfalso
            apply hne
            rw [Bool.or_eq_true]
            left
            rw [bne_iff_ne]
            refine Nat.ne_of_lt (fm_lt ⟨t, ht, ?_⟩)
            cases t with
            | Name x px =>
              have hk : en.kindOf x = some .cell := by
                show en.scope.names.lookup x = _
                rw [hs]
                exact eq_of_beq hc
              simp [hk]
            | _ => cases hc
    | _ => rfl
theorem ss_tup {es : List Expr} {kk : Nat} {p : Pos} {e : Expr} {en : PySem.Env} (h : tupB e = true) : swappedStores [.Tuple es kk p] e en = pure none := by
  cases e <;> first | rfl | cases h
theorem ss_sub {o i : Expr} {p : Pos} {e : Expr} {en : PySem.Env} : swappedStores [.Subscript o i p] e en = pure none := by
  cases e <;> rfl
theorem sw_comp {elt : Expr} {gs : List Comprehension} {scope : Scope} {p px : Pos} {x : Str} {n : Nat} {en : PySem.Env} (h : en.scope.kind = .function) : swapsWith (.ListComp elt gs scope p) (some (.Name x px)) n en = pure (swC en.scope x px p scope) := by
  have e : en.blockKind = .function := by
    unfold PySem.Env.blockKind
    rw [h]
    rfl
  show pure (en.blockKind == .function && en.kindOf x == some .local && px.line == (Expr.ListComp elt gs scope p).pos.line && !(scope.names.any fun (n, k) => n == x && (k == .local || k == .cell))) = _
  rw [e]
  rfl
/-! ### loops -/
theorem while_ok (S : XD N P B T cf k ns sc W X) {c' : Expr} {b' : List Stmt} {p : Pos} {c : Env → G → R Bool} {f : Env → G → R Fl} {n : Nat}
    (hc : ∀ {env : Env} {g : G} {σ : L2.St} {I : Hp} {rs : List Addr} {H : Hp} {Q : Bool → Hp → Prop}, Rel N L I rs g H → ER N I rs env σ → OkB N L I rs H W Q (c env g) → WT X c' σ H Q)
    (hb : ∀ {env : Env} {g : G} {σ : L2.St} {I : Hp} {rs : List Addr} {H : Hp} {D : Ends}, Rel N L I rs g H → ER N I rs env σ → OkF N L I rs H W D (f env g) → WSs X b' D σ H)
    (R : Rel N L I rs g H) (er : ER N I rs env σ) (ok : OkF N L I rs H W D (whL c f n env g)) : WS X (.While c' b' [] p) D σ H := by
  refine ws_of (ps_while S.hp wt wss) ⟨fun m σ H => ∃ env g I rs, Rel N L I rs g H ∧ ER N I rs env σ ∧ OkF N L I rs H W D (whL c f m env g), ⟨n, env, g, I, rs, R, er, ok⟩, ?_⟩
  rintro m σ H ⟨env, g, I, rs, R, er, ok⟩
  cases m with
  | zero => exact ok.elim
  | succ m =>
    refine wt_mono (hc R er ok.first) fun b H1 ⟨b1, g1, I1, rs1, e1, R1, eb, ok1⟩ => ?_
    subst eb
    cases b1 with
    | false =>
      rw [if_neg Bool.false_ne_true]
      exact ok1.nx' R1 (er.after e1)
    | true =>
      rw [if_pos rfl]
      refine ⟨fun σ' H' => ∃ env g I rs, Rel N L I rs g H' ∧ ER N I rs env σ' ∧ OkF N L I rs H' W D (whL c f m env g), fun σ' H' h => ⟨m, Nat.lt_succ_self m, h⟩, hb R1 (er.after e1) ?_⟩
      simp only at ok1
      revert ok1
      cases f env g1 with
      | stk => exact fun h => h
      | exc x gx => exact fun h => h
      | ok fl g2 =>
        intro ok1
        cases fl with
        | nx env1 => exact fun I' rs' H' σ' E R' er' => ⟨env1, g2, I', rs', R', er', OkF.after (r := whL c f m env1 g2) ok1 E⟩
        | ct env1 => exact fun I' rs' H' σ' E R' er' => ⟨env1, g2, I', rs', R', er', OkF.after (r := whL c f m env1 g2) ok1 E⟩
        | bk env1 => exact ok1
        | rt d => exact ok1
/-- a free heap -/
theorem freeR_ok {r : R Fl} {ko : Option Nat} (ok : OkF N L I rs H W D (freeR r ko)) (hl : Lks L rs1 ko L1) (hr : rs1 <+: rs) : OkF N L1 I rs H W D r := by
  cases r with
  | stk => exact ok
  | exc x g =>
    unfold freeR at ok
    simp only at ok
    split at ok
    · rename_i g' q
      exact fun I' rs' H' c d e R p => ok I' rs' H' c d e (lock_fr hl (hr.trans e.r) q R) p
    · exact ok.elim
  | ok f g =>
    unfold freeR at ok
    simp only at ok
    split at ok
    · rename_i g' q
      cases f <;> exact fun I' rs' H' b e R p => ok I' rs' H' b e (lock_fr hl (hr.trans e.r) q R) p
    · exact ok.elim
/-- what a loop's walk asks -/
theorem for_ok' (S : XD N P B T cf k ns sc W X) {tb : TS} {wi : TI} {tg' it' : Expr} {b' : List Stmt} {p : Pos} {one : Bool} {tg : List Nat} {f : Env → G → R Fl} {i : Env → G → R (List PC.D × Option Nat)} (htg : tgB ns sc sc one tg tg' = true)
    (hi : ∀ {Q : It → Hp → Prop}, OkI N L I rs H W Q (i env g) → wi σ H Q ∧ ∀ x, foldedSetIterable it' X.env x = pure x)
    (hb : ∀ {L : Hp} {env : Env} {g : G} {σ : L2.St} {I : Hp} {rs : List Addr} {H : Hp} {D : Ends}, Rel N L I rs g H → ER N I rs env σ → OkF N L I rs H W D (f env g) → tb D σ H)
    (er : ER N I rs env σ) (ok : OkF N L I rs H W D ((i env g).bind fun xs g1 => freeR (forL (fun x env g => match asgD g one tg x env with
      | some env1 => f env1 g
      | none => .stk) xs.1 env (lockG g1 xs.2)) xs.2)) : (∀ x, foldedSetIterable it' X.env x = pure x) ∧ tFor wi (WG X tg') tb D σ H := by
  generalize hF : (fun (x : PC.D) env g => match asgD g one tg x env with
      | some env1 => f env1 g
      | none => PC.R.stk) = F at ok
  have fs := (hi (Q := fun _ _ => True) (by
    revert ok
    cases i env g with
    | stk => exact fun h => h
    | exc x g => exact fun h => h
    | ok p g => exact fun _ _ _ _ _ _ _ _ _ _ => True.intro)).2
  refine ⟨fs, ?_⟩
  refine (hi (Q := fun J H1 => ∃ W : Nat → Nat → L2.St → Hp → Prop, (∃ m, W 0 m σ H1) ∧ ∀ i m σ H, W i m σ H →
    (J.stop i H ∧ D.nx σ H) ∨ (J.go i H ∧ ∃ N : L2.St → Hp → Prop, (∀ σ' H', N σ' H' → ∃ m', m' < m ∧ W (i + 1) m' σ' H') ∧ ∀ x H', J.yld i H x H' → WG X tg' x σ H' fun σ2 H2 => tb { D with nx := N, ct := N, bk := D.nx } σ2 H2)) ?_).1
  revert ok
  cases i env g with
  | stk => exact fun h => h
  | exc x g => exact fun h => h
  | ok xs g1 =>
    intro ok I1 rs1 H1 J L1 E1 R1 hl hw
    have ok : OkF N L I rs H W D (freeR (forL F xs.1 env (lockG g1 xs.2)) xs.2) := ok
    refine ⟨fun i m σ Hc => i ≤ xs.1.length ∧ m = xs.1.length - i ∧ ∃ env g' I' rs', Rel N L1 I' rs' g' Hc ∧ ER N I' rs' env σ ∧ Ext I1 rs1 H1 I' rs' Hc ∧ OkF N L I' rs' Hc W D (freeR (forL F (xs.1.drop i) env g') xs.2),
      ⟨_, Nat.zero_le _, rfl, env, _, I1, rs1, R1, er.after E1, .refl, by simpa using ok.after E1⟩, ?_⟩
    rintro i m σ Hc ⟨hii, rfl, env, g', I', rs', R', er', E', ok'⟩
    by_cases he : i = xs.1.length
    · left
      refine ⟨hw.stop _ _ _ _ E'.i E'.r R' i (by omega), ?_⟩
      rw [he, List.drop_length] at ok'
      exact (freeR_ok ok' hl E'.r).nx' R' er'
    · right
      have hlt : i < xs.1.length := by omega
      refine ⟨hw.go _ _ _ _ E'.i E'.r R' i hlt, fun σ' H' => ∃ env g' I' rs', Rel N L1 I' rs' g' H' ∧ ER N I' rs' env σ' ∧ Ext I1 rs1 H1 I' rs' H' ∧ OkF N L I' rs' H' W D (freeR (forL F (xs.1.drop (i + 1)) env g') xs.2), fun σ' H' h => ⟨_, by omega, by omega, rfl, h⟩, ?_⟩
      intro xv H' hy
      obtain ⟨I2, E2, R2, d, hd, hv⟩ := hw.yld _ _ _ _ E'.i E'.r R' i xv H' hlt hy
      have hdr : xs.1.drop i = d :: xs.1.drop (i + 1) := by
        rw [← List.getElem_cons_drop (h := hlt)]
        rw [List.getElem?_eq_getElem hlt] at hd
        cases hd
        rfl
      rw [hdr] at ok'
      have E3 := E'.trans E2
      have ok2 := OkF.after ok' E2
      have hFd : F d env g' = match asgD g' one tg d env with
        | some env1 => f env1 g'
        | none => .stk := by rw [← hF]
      cases ha : asgD g' one tg d env with
      | none =>
        rw [ha] at hFd
        simp only [forL, hFd] at ok2
        exact ok2.elim
      | some env1 =>
        rw [ha] at hFd
        simp only at hFd
        refine tg_ok S.S htg R2 hv ha (er'.after E2) fun σ2 er2 ch => hb R2 er2 ?_
        rw [← hFd]
        simp only [forL] at ok2
        revert ok2
        cases F d env g' with
        | stk => exact fun h => h
        | exc x gx =>
          intro h
          have h2 : OkF N L1 I2 rs' H' W D (.exc x gx) := freeR_ok (r := .exc x gx) h hl E3.r
          exact h2
        | ok fl g2 =>
          intro ok2
          cases fl with
          | nx env2 =>
            have ok2 : OkF N L I2 rs' H' W D (freeR (forL F (xs.1.drop (i + 1)) env2 g2) xs.2) := ok2
            exact fun I3 rs3 H3 σ3 E4 R3 er3 => ⟨env2, g2, I3, rs3, R3, er3, E3.trans E4, ok2.after E4⟩
          | ct env2 =>
            have ok2 : OkF N L I2 rs' H' W D (freeR (forL F (xs.1.drop (i + 1)) env2 g2) xs.2) := ok2
            exact fun I3 rs3 H3 σ3 E4 R3 er3 => ⟨env2, g2, I3, rs3, R3, er3, E3.trans E4, ok2.after E4⟩
          | bk env2 =>
            have ok3 := freeR_ok (r := .ok (.nx env2) g2) ok2 hl E3.r
            exact ok3
          | rt d =>
            have ok3 := freeR_ok (r := .ok (.rt d) g2) ok2 hl E3.r
            exact ok3
theorem for_ok (S : XD N P B T cf k ns sc W X) {tg' it' : Expr} {b' : List Stmt} {p : Pos} {one : Bool} {tg : List Nat} {f : Env → G → R Fl} {i : Env → G → R (List PC.D × Option Nat)} (htg : tgB ns sc sc one tg tg' = true)
    (hi : ∀ {Q : It → Hp → Prop}, OkI N L I rs H W Q (i env g) → WI X tg' it' σ H Q ∧ ∀ x, foldedSetIterable it' X.env x = pure x)
    (hb : ∀ {L : Hp} {env : Env} {g : G} {σ : L2.St} {I : Hp} {rs : List Addr} {H : Hp} {D : Ends}, Rel N L I rs g H → ER N I rs env σ → OkF N L I rs H W D (f env g) → WSs X b' D σ H)
    (er : ER N I rs env σ) (ok : OkF N L I rs H W D ((i env g).bind fun xs g1 => freeR (forL (fun x env g => match asgD g one tg x env with
      | some env1 => f env1 g
      | none => .stk) xs.1 env (lockG g1 xs.2)) xs.2)) : WS X (.For tg' it' b' [] p) D σ H := by
  obtain ⟨fs, w⟩ := for_ok' (b' := b') (p := p) (tb := WSs X b') (wi := WI X tg' it') S htg hi hb er ok
  exact ws_of (ps_for S.hp S.S.F.hc wi wg wss fs) w
def WIG (X : Cx) (tg iter : Expr) : TI := fun σ H R => ∀ (pins : List (Addr × Obj)) (s : Shared), Inv X pins σ H s →
  wpAny (model X.prog X.w) X.A (eval iter X.env) (fun v s1 => wpAny (model X.prog X.w) X.A (pyIter v) (fun itv s2 => 1 ≤ s2.toks ∧ PIE X pins σ tg R itv s2) X.xe s1) X.xe s
theorem wig {X : Cx} {tg iter : Expr} : PIG X tg iter (WIG X tg iter) := fun pins s _ _ _ I h => h pins s I
theorem wig_of {X : Cx} {tg iter : Expr} {t : TI} (h : PIG X tg iter t) {σ : L2.St} {H : Hp} {R : It → Hp → Prop} (q : t σ H R) : WIG X tg iter σ H R := fun pins s I => h pins s σ H R I q
theorem si_rangeG {s0 sc : Scope} {a : E} (S : XS N P B T cf k ns s0 sc W X) {tg e : Expr} (h : (chM N.toNz ns (.range [a])).i s0 sc tg e = true) {Q : It → Hp → Prop} (R : Rel N L I rs g H) (er : ER N I rs env σ)
    (ok : OkI N L I rs H W Q ((evM T cf (.range [a])).i env g)) : WIG X tg e σ H Q ∧ ∀ x, foldedSetIterable e X.env x = pure x := by
  have ok : OkI N L I rs H W Q ((evs T cf [a] env g).bind fun vs g1 => rangeR vs g1) := ok
  simp only [chM, Ck.it] at h
  split at h
  · rename_i x p es q
    simp only [Bool.and_eq_true, beq_iff_eq] at h
    obtain ⟨⟨rfl, h2⟩, h3, h4, h5⟩ := h
    obtain ⟨b1, b2, b3, b4⟩ := bl_of S h2
    refine ⟨?_, ns_fold rfl⟩
    cases es with
    | nil => simp at h4
    | cons a' es =>
      have hn := h3
      simp only [noSt, List.all_cons, Bool.and_eq_true] at h3
      have w := wa_mono ((sa N P B T cf k ns [a] S).1 h5 R er (OkI.first' ok)) fun vs H1 ⟨ds, g1, I1, rs1, e0, e1, R1, r1, ok1⟩ => (show ∃ (ds : List D) (g1 : G) (I1 : Hp) (rs1 : List Addr), ds.length = (a' :: es).length ∧ Rel N L I1 rs1 g1 H1 ∧ VRs N I1 rs1 ds vs ∧ OkI N L I1 rs1 H1 W Q (rangeR ds g1) from ⟨ds, g1, I1, rs1, evs_len h5 hn e0, R1, r1, ok1⟩)
      cases es with
      | cons _ _ => simp [chs] at h5
      | nil =>
        refine wig_of (pig_range1 b1 b2 wa (star_eq h3.1)) (wa_mono w fun vs H1 ⟨ds, g1, I1, rs1, el, R1, r1, ok1⟩ => ?_)
        unfold rangeR at ok1
        split at ok1
        · split at ok1
          · rename_i n hc
            have hc : -4611686018427387904 ≤ n ∧ n < 4611686018427387904 := by simpa using hc
            obtain ⟨w, rfl, hw⟩ := v1 r1
            cases hw
            exact ⟨n, rfl, by omega, by omega, ok1 _ _ _ _ L .refl R1 (.inl ⟨rfl, rfl⟩) wk_range⟩
          · exact ok1.elim
        · simp at el
        · exact ok1.elim
  · exact Bool.noConfusion h
end
end PC
end
section
set_option maxHeartbeats 4000000
/-! EX3: try: the clauses keep the error, give a constant back, or pass. -/
namespace L2
open PySem PySem.Spec PyProof.Rows
inductive NamesOk (X : Cx) : List Expr → List Value → Prop
  | nil : NamesOk X [] []
  | cons {x : Str} {np : Pos} {c : Value} {ts : List Expr} {cs : List Value} (h : Names X x c) (r : NamesOk X ts cs) : NamesOk X (.Name x np :: ts) (c :: cs)
/-- what a clause tests: one class, or a tuple of two, three, four -/
inductive TestOk (X : Cx) : Expr → List Value → Prop
  | one {x : Str} {np : Pos} {c : Value} (h : Names X x c) : TestOk X (.Name x np) [c]
  | tup {ts : List Expr} {cs : List Value} {k : Nat} {pos : Pos} (h : NamesOk X ts cs) (h2 : 2 ≤ cs.length) (h4 : cs.length ≤ 4) : TestOk X (.Tuple ts k pos) cs
section
variable {X : Cx} {pins : List (Addr × Obj)} {σ : St} {H : Hp} {s : Shared}
theorem Inv.toSuite (I : Inv X pins σ H s) (a : Addr) : Inv (X.suite a (X.pn ++ pins)) [] σ H s :=
  ⟨I.ok.suite _ _, I.os, I.bare, I.base, I.loc, I.cell, I.free, I.freeC, fun p hp => I.pin p (by rw [List.append_nil] at hp; exact hp), I.hok, I.len⟩
theorem Inv.ofSuite {a : Addr} {pn' : List (Addr × Obj)} (I : Inv (X.suite a (X.pn ++ pins)) pn' σ H s) (ok : X.Ok) : Inv X pins σ H s :=
  ⟨ok, I.os, I.bare, I.base, I.loc, I.cell, I.free, I.freeC, fun p hp => I.pin p (List.mem_append_left _ hp), I.hok, I.len⟩
theorem name_ok {a : Addr} {x : Str} {c : Value} {np : Pos} (S : Inv (X.suite a (X.pn ++ pins)) [] σ H s) (hc : Names X x c) {Q : Value → Shared → Prop} {E : Value → Shared → Prop} (q : Q c s) : wpAny (model X.prog X.w) (X.A.mark (some (.ref a))) (eval (.Name x np) X.env) Q E s := by
  obtain ⟨hg, hdbg, hm | ⟨hm, hv, hnn⟩⟩ := hc
  · exact ld_glob (X := X.suite a (X.pn ++ pins)) S hg hm q hdbg
  · exact ld_blt (X := X.suite a (X.pn ++ pins)) S hg hm hv q hnn hdbg
theorem names_ok {a : Addr} {ts : List Expr} {cs : List Value} {pos : Pos} (h : NamesOk X ts cs) (S : Inv (X.suite a (X.pn ++ pins)) [] σ H s) {Q : List Value → Shared → Prop} {E : Value → Shared → Prop} (q : Q cs s) :
    wpAny (model X.prog X.w) (X.A.mark (some (.ref a))) (spliced (backTo pos (starEach ts X.env))) Q E s := by
  induction h generalizing Q with
  | nil => exact Calls.spliced_nil q
  | @cons x np c ts cs h r ih =>
    show wpAny _ _ (spliced ((false, eval (.Name x np) X.env) :: backTo pos (starEach ts X.env))) _ _ _
    exact Calls.spliced_cons (name_ok S h (ih q))
theorem test_ok {a : Addr} {t : Expr} {cs : List Value} {cls : Value} {d : Option Addr} {oe : Obj} {b : Bool} (h : TestOk X t cs) (S : Inv (X.suite a (X.pn ++ pins)) [] σ H s) (he : s.heap.get? a = some oe) (hz : Zc cls d oe) (hb : PySem.W.exmAny X.K cls cs = some b)
    {P : Bool → Shared → Prop} {E E2 : Value → Shared → Prop} (hq : ∀ h', (∀ b o, s.heap.get? b = some o → h'.get? b = some o) → P b { s with heap := h' }) :
    wpAny (model X.prog X.w) (X.A.mark (some (.ref a))) (eval t X.env) (fun c s₁ => wpAny (model X.prog X.w) (X.A.mark (some (.ref a))) (excMatches (.ref a) c) (fun b s₂ => P b s₂) E s₁) E2 s := by
  have LT : PySem.W.Looks (model X.prog X.w) s.heap (typeOf (.ref a)) cls := fun A Q E s k q => wpAny_typeOf_ref (k _ _ he) (by rw [hz.1]; exact q)
  have kin : X.K.In s.heap := S.kIn
  cases h with
  | one hc =>
    obtain ⟨b1, d1, x1, y1, z1⟩ := PySem.W.exmAny_cons hb
    cases y1
    rw [Bool.or_false] at z1
    subst z1
    refine name_ok S hc ((PySem.W.exm_one (M := model X.prog X.w) kin LT x1).here ?_)
    have := hq s.heap fun _ _ z => z
    exact this
  | tup hn h2 h4 =>
    refine Tuple_ (names_ok hn S ?_)
    obtain ⟨hp, g, dr, tk, os⟩ := s
    refine wpAny_newObj_type ?_
    have k : ∀ b o, hp.get? b = some o → (hp.push { cls := .type "tuple", data := .seq cs.toArray }).get? b = some o := fun b o z => Heap.get?_push_of_some _ z
    have hp' : (hp.push { cls := .type "tuple", data := .seq cs.toArray }).get? hp.objs.size = some { cls := .type "tuple", data := .seq cs.toArray } := Heap.get?_push_at rfl rfl
    have fin := hq _ k
    have LT' := LT.keeps k
    have kin' : X.K.In (hp.push { cls := .type "tuple", data := .seq cs.toArray }) := PySem.W.Frag.In.keeps kin k
    match cs, h2, h4, hb, hp', fin, LT', kin' with
    | [c1, c2], _, _, hb, hp', fin, LT', kin' => exact (PySem.W.exm_tup2 (M := model X.prog X.w) kin' LT' hp' hb).here fin
    | [c1, c2, c3], _, _, hb, hp', fin, LT', kin' => exact (PySem.W.exm_tup3 (M := model X.prog X.w) kin' LT' hp' hb).here fin
    | [c1, c2, c3, c4], _, _, hb, hp', fin, LT', kin' => exact (PySem.W.exm_tup4 (M := model X.prog X.w) kin' LT' hp' hb).here fin
end
/-- what a clause does -/
inductive Act where
  | keep (i j : Nat)
  | con (v : V)
  | pass
def Act.wish : Act → Ends → WX
  | .keep i j, D, cls, d, σ, H => ∀ a, H a = none → D.nx (((σ.set i (some (.ref a))).set j (some (.ref a))).set i none) (upd H a (ExK cls d a))
  | .con v, D, _, _, _, H => D.rt v H
  | .pass, D, _, _, σ, H => D.nx σ H
def wX (K : PySem.W.Frag) (Wout : WX) (D : Ends) : List (List Value × Act) → WX
  | [] => Wout
  | (cs, act) :: r => fun cls d σ H => ∃ b, PySem.W.exmAny K cls cs = some b ∧ (b = true → act.wish D cls d σ H) ∧ (b = false → wX K Wout D r cls d σ H)
inductive HdsX (X : Cx) : List ExceptHandler → List (List Value × Act) → Prop
  | nil : HdsX X [] []
  | keep {t : Expr} {cs : List Value} {n m : Str} {i j : Nat} {p1 p2 p3 pos : Pos} {hds : List ExceptHandler} {l : List (List Value × Act)} (ht : TestOk X t cs) (hi : X.N[i]? = some n) (hn : X.env.kindOf n = some .local) (hj : X.N[j]? = some m) (hm : X.env.kindOf m = some .local)
      (hij : i ≠ j) (d1 : (n == ("__debug__" : Str)) = false) (d2 : (n == ("__classdict__" : Str)) = false) (r : HdsX X hds l) : HdsX X (.ExceptHandler (some t) (some n) [.Assign [.Name m p1] (.Name n p2) p3] pos :: hds) ((cs, .keep i j) :: l)
  | con {t : Expr} {cs : List Value} {c : Const} {q : Nat} {v : V} {p1 p2 pos : Pos} {hds : List ExceptHandler} {l : List (List Value × Act)} (ht : TestOk X t cs) (hv : ∀ X : Cx, PE X (.Constant c q p1) (tC v)) (r : HdsX X hds l) :
      HdsX X (.ExceptHandler (some t) none [.Return (some (.Constant c q p1)) p2] pos :: hds) ((cs, .con v) :: l)
  | pass {t : Expr} {cs : List Value} {p1 pos : Pos} {hds : List ExceptHandler} {l : List (List Value × Act)} (ht : TestOk X t cs) (r : HdsX X hds l) :
      HdsX X (.ExceptHandler (some t) none [.Pass p1] pos :: hds) ((cs, .pass) :: l)
section
variable {X : Cx} {body : List Stmt} {h₀ : ExceptHandler} {hds : List ExceptHandler} {l : List (List Value × Act)} {pos : Pos} {tb : WX → TS} {Wout : WX}
theorem ps_tryX (hs : X.stack = X.env :: X.outer) (hf : X.env.frame = some X.env.locals) (hex : X.ex = []) (hN : X.N.Nodup) (tk : Takes X Wout)
    (hb : ∀ (W : WX) (pn : List (Addr × Obj)) (xe : Value → Shared → Prop), Takes (X.tr pn xe) W → PassesOwn (model X.prog X.w) X.A X.env xe → PSs (X.tr pn xe) body (tb W))
    (hh : HdsX X (h₀ :: hds) l) : PS X (.Try body (h₀ :: hds) [] [] pos) (fun D σ H => tb (wX X.K Wout D l) D σ H) := by
  refine ⟨fun pins s σ H D I h => ?_⟩
  have ok := I.ok
  have hfr : X.A.frames = some (X.env :: X.outer) := by rw [ok.frames, hs]
  refine wpAny_Try_except ?_
  refine wpAny_mono ((hb (wX X.K Wout D l) (X.pn ++ pins) (fun e s₁ => wpAny (model X.prog X.w) X.A (noteFrame e X.env) (fun _ s₂ => wpAny (model X.prog X.w) X.A (setFlight e none) (fun _ s₃ =>
    wpAny (model X.prog X.w) X.A (handleBy e X.env (h₀ :: hds)) (SP X pins D) X.xe s₃) X.xe s₂) X.xe s₁) (fun u s' xx => ?_) PassesOwn.looking).run [] s σ H D (I.toTry _) h) (fun f s1 hsp => ?_) (fun e s1 he => he)
  · -- the catch
    obtain ⟨a, B, sI, pins', σ', H', cls, d, rfl, J', nb, up, sky, na, os, ag, w⟩ := xx
    have J : Inv X pins σ' H' sI := J'.ofTry ok
    have sky' : Sky B (X.env :: X.outer) a (Zc cls d) X.env.locals s'.heap := by rw [← hs]; exact sky
    show wpAny (model X.prog X.w) X.A (noteFrame (.ref a) X.env) _ _ _
    refine Sky.land Zc.steady hfr hf sky' fun h3 fl3 up3 => ?_
    have notFr : ∀ {h : Heap} {o : Obj} {vs : Array Value}, h.FunFrames B (X.env :: X.outer) → h.get? a = some o → o.data = .fields vs → a ∉ frs (X.env :: X.outer) := fun {h o vs} ff e dd hm => by
      obtain ⟨_, o', e', hnf⟩ := ff.mem hm
      rw [e] at e'; cases e'
      exact hnf _ dd
    obtain ⟨oe3, vs3, he3, hz3, hd3⟩ := fl3.there
    have nfr := notFr fl3.2.2.1 he3 hd3
    have nL : a ≠ X.env.locals := fun z => nfr (List.mem_filterMap.mpr ⟨X.env, List.mem_cons_self, by rw [hf, z]⟩)
    have nF : a ∉ X.fs := fun hm => by
      obtain ⟨e, he, q⟩ := List.mem_filterMap.mp hm
      exact nfr (List.mem_filterMap.mpr ⟨e, List.mem_cons_of_mem _ he, q⟩)
    have inB : ∀ b o, sI.heap.get? b = some o → b ∉ frs X.stack → b ≠ a := fun b o e hb z => by
      have := nb b o e hb
      rw [z, fl3.2.1] at this; cases this
    have frS : ∀ b, b ≠ X.env.locals → b ∉ X.fs → b ∉ frs X.stack := fun b h1 h2 hm => by
      rw [hs] at hm
      obtain ⟨e, he, q⟩ := List.mem_filterMap.mp hm
      rcases List.mem_cons.mp he with z | z
      · rw [z, hf] at q; exact h1 (Option.some.inj q).symm
      · exact h2 (List.mem_filterMap.mpr ⟨e, z, q⟩)
    have n0 : X.s_0.heap.get? a = none := by
      cases e : X.s_0.heap.get? a with
      | none => rfl
      | some o =>
        obtain ⟨o', e'⟩ := J.base.there a o e (by rw [hex]; exact fun z => nomatch z)
        exact absurd rfl (inB a o' e' (frS a nL nF))
    have nP : ∀ p ∈ X.pn ++ pins, p.1 ≠ a := fun p hp => by
      obtain ⟨q1, _, q3, q4, _⟩ := J.pin p hp
      exact inB _ _ q1 (frS _ q3 q4)
    have go : ∀ {hds' : List ExceptHandler} {l' : List (List Value × Act)}, HdsX X hds' l' → ∀ (h3 : Heap), HandSPX.FlyingZ B (X.env :: X.outer) a (Zc cls d) h3 → sI.heap.UpToSlots h3 → wX X.K Wout D l' cls d σ' H' →
        wpAny (model X.prog X.w) X.A (handleBy (.ref a) X.env hds') (SP X pins D) X.xe { s' with heap := h3 } := by
      intro hds' l' hk
      induction hk with
      | nil =>
        intro h3 fl3 up3 w
        refine wpAny_handleBy_nil ?_
        obtain ⟨k1, k2, k3, oe, vs, T, oT, ts', he, hz, hd, h1, hr⟩ := id fl3
        unfold PySem.passOn
        refine wpAny_bind (wpAny_field he hd h1 ?_)
        rw [if_neg (show ¬ ((Value.ref T == Value.none) = true) from by simp)]
        have fin : wpAny (model X.prog X.w) X.A (setFlight (.ref a) X.env.frame) (fun _ s4 => wpAny (model X.prog X.w) X.A (throw (.ref a) : Sem Flow) (SP X pins D) X.xe s4) X.xe { s' with heap := h3 } := by
          rw [hf]
          refine HandSPX.setFlight_upZ fl3 fun h4 hh4 up4 => wpAny_throw (tk _ _ ?_)
          exact ⟨a, B, sI, pins, σ', H', cls, d, rfl, J, nb, up3.trans up4, .inr (.inr (by rw [hs]; exact hh4)), na, os, ag, w⟩
        first
          | exact wpAny_bind (wpAny_pure (wpAny_bind fin))
          | exact wpAny_bind fin
      | @keep t cs n m i j p1 p2 p3 pos' hds' l' ht hi hn hj hm hij d1 d2 r ih =>
        intro h3 fl3 up3 w
        obtain ⟨b, hb1, hyes, hno⟩ := w
        have J3 : Inv X pins σ' H' { s' with heap := h3 } := J.landed nb fl3.1 up3 os ag
        obtain ⟨oe3, vs3, he3, hz3, hd3⟩ := fl3.there
        refine wpAny_handleBy_cons (codeAny_handlers_test (test_ok ht (J3.toSuite a) he3 hz3 hb1 fun h4 k4 => ?_)) (by intro q; cases q)
        have fl4 : HandSPX.FlyingZ B (X.env :: X.outer) a (Zc cls d) h4 := FlyingZ.grow fl3 k4
        have up4 : sI.heap.UpToSlots h4 := up3.trans (Heap.UpToSlots.of_keeps k4)
        cases b with
        | true =>
          refine codeAny_handlers_suite_as ?_
          refine HandSPX.lands_againZ fl4 fun h5 fl5 up5 => ?_
          have J5 : Inv X pins σ' H' { s' with heap := h5 } := J.landed nb fl5.1 (up4.trans up5) os ag
          obtain ⟨oe5, vs5, he5, hz5, hd5⟩ := fl5.there
          have nC : ∀ x c, X.env.cells.lookup x = some c → c ≠ a := fun x c e z => by
            obtain ⟨v, o, ho, hd⟩ := J5.cell x c e
            rw [z] at ho
            have := he5.symm.trans ho
            cases this
            rw [hd5] at hd; cases hd
          have T5 : Inv X pins σ' (upd H' a (ExK cls d a)) { s' with heap := h5 } := J5.track n0 na nL nC nP (exK_ok _ he5 hz5 hd5)
          refine store_ok (X := X.suite a (X.pn ++ pins)) (v := .ref a) (T5.toSuite a) hN hi (.inl hn) rfl (fun s6 S6 => ?_) (.inr hn)
          have hset : PS (X.suite a (X.pn ++ pins)) (.Assign [.Name m p1] (.Name n p2) p3) (tAsg (tVar i) (gName j)) := ps_set hN hj (.inl hm) (pe_var hi (.inl hn) d1 d2) (by rfl) (.inr hm)
          refine wpAny_mono ((pss_one hset).run [] s6 _ (upd H' a (ExK cls d a)) { nx := fun σ6 H6 => D.nx (σ6.set i none) H6, rt := fun _ _ => False } S6 ⟨.ref a, ?_, hyes rfl a na⟩) (fun f s7 hsp => ?_) (fun _ _ z => False.elim z)
          · have hl : i < σ'.length := by rw [J5.len]; exact (List.getElem?_eq_some_iff.mp hi).1
            exact List.getElem?_set_self hl
          · cases f with
            | next =>
              obtain ⟨σ7, H7, S7, q7⟩ := hsp
              exact gone_ok (S7.ofSuite ok) hN hi hn fun s8 J8 => ⟨_, _, J8, q7⟩
            | ret u =>
              obtain ⟨_, _, _, _, _, z⟩ := hsp
              exact z.elim
            | brk =>
              obtain ⟨_, _, _, z⟩ := hsp
              exact z.elim
            | cont =>
              obtain ⟨_, _, _, z⟩ := hsp
              exact z.elim
        | false =>
          show wpAny _ X.A (handleBy (.ref a) X.env hds') _ _ _
          exact ih h4 fl4 up4 (hno rfl)
      | @con t cs c q v p1 p2 pos' hds' l' ht hv r ih =>
        intro h3 fl3 up3 w
        obtain ⟨b, hb1, hyes, hno⟩ := w
        have J3 : Inv X pins σ' H' { s' with heap := h3 } := J.landed nb fl3.1 up3 os ag
        obtain ⟨oe3, vs3, he3, hz3, hd3⟩ := fl3.there
        refine wpAny_handleBy_cons (codeAny_handlers_test (test_ok ht (J3.toSuite a) he3 hz3 hb1 fun h4 k4 => ?_)) (by intro q; cases q)
        have fl4 : HandSPX.FlyingZ B (X.env :: X.outer) a (Zc cls d) h4 := FlyingZ.grow fl3 k4
        have up4 : sI.heap.UpToSlots h4 := up3.trans (Heap.UpToSlots.of_keeps k4)
        cases b with
        | true =>
          refine codeAny_handlers_suite ?_
          refine HandSPX.lands_againZ fl4 fun h5 fl5 up5 => ?_
          have J5 : Inv X pins σ' H' { s' with heap := h5 } := J.landed nb fl5.1 (up4.trans up5) os ag
          refine wpAny_mono ((pss_one (ps_ret (pos := p2) (hv (X.suite a (X.pn ++ pins))))).run [] _ σ' H' D (J5.toSuite a) (hyes rfl)) (fun f s7 hsp => ?_) (fun _ _ z => False.elim z)
          cases f with
          | next =>
            obtain ⟨σ7, H7, S7, q7⟩ := hsp
            exact ⟨_, _, S7.ofSuite ok, q7⟩
          | ret u =>
            obtain ⟨v7, σ7, H7, S7, r7, q7⟩ := hsp
            exact ⟨_, _, _, S7.ofSuite ok, r7, q7⟩
          | brk =>
            obtain ⟨σ7, H7, S7, q7⟩ := hsp
            exact ⟨_, _, S7.ofSuite ok, q7⟩
          | cont =>
            obtain ⟨σ7, H7, S7, q7⟩ := hsp
            exact ⟨_, _, S7.ofSuite ok, q7⟩
        | false =>
          show wpAny _ X.A (handleBy (.ref a) X.env hds') _ _ _
          exact ih h4 fl4 up4 (hno rfl)
      | @pass t cs p1 pos' hds' l' ht r ih =>
        intro h3 fl3 up3 w
        obtain ⟨b, hb1, hyes, hno⟩ := w
        have J3 : Inv X pins σ' H' { s' with heap := h3 } := J.landed nb fl3.1 up3 os ag
        obtain ⟨oe3, vs3, he3, hz3, hd3⟩ := fl3.there
        refine wpAny_handleBy_cons (codeAny_handlers_test (test_ok ht (J3.toSuite a) he3 hz3 hb1 fun h4 k4 => ?_)) (by intro q; cases q)
        have fl4 : HandSPX.FlyingZ B (X.env :: X.outer) a (Zc cls d) h4 := FlyingZ.grow fl3 k4
        have up4 : sI.heap.UpToSlots h4 := up3.trans (Heap.UpToSlots.of_keeps k4)
        cases b with
        | true =>
          refine codeAny_handlers_suite ?_
          refine HandSPX.lands_againZ fl4 fun h5 fl5 up5 => ?_
          have J5 : Inv X pins σ' H' { s' with heap := h5 } := J.landed nb fl5.1 (up4.trans up5) os ag
          exact wpAny_execs_cons (wpAny_Pass (wpAny_execs_nil ⟨_, _, J5, hyes rfl⟩))
        | false =>
          show wpAny _ X.A (handleBy (.ref a) X.env hds') _ _ _
          exact ih h4 fl4 up4 (hno rfl)
    exact go hh h3 fl3 (up.trans up3) w
  · cases f with
    | next =>
      obtain ⟨σ', H', J', q⟩ := hsp
      exact wpAny_execs_nil ⟨σ', H', J'.ofTry ok, q⟩
    | brk =>
      obtain ⟨σ', H', J', q⟩ := hsp
      exact ⟨σ', H', J'.ofTry ok, q⟩
    | cont =>
      obtain ⟨σ', H', J', q⟩ := hsp
      exact ⟨σ', H', J'.ofTry ok, q⟩
    | ret u =>
      obtain ⟨v, σ', H', J', r, q⟩ := hsp
      exact ⟨v, σ', H', J'.ofTry ok, r, q⟩
end
end L2
end
section
set_option maxHeartbeats 4000000
namespace PC
open PySem L2 PyProof.Rows
section
variable {N : Nm} {P : Program} {B : Heap} {T : Tab} {cf : CF} {k : Nat} {ns : List Str}
variable {sc : Scope} {W : XK} {X : Cx} {L L1 I I1 I2 : Hp} {rs rs1 rs2 : List Addr} {g g1 : G} {H H1 H2 : Hp} {Q : VK} {x y z : D} {u v : V} {env : Env} {σ : L2.St} {D D' : Ends}
theorem raise_ok {c : Nat} {as : List E} (S : XD N P B T cf k ns sc W X) {s : Stmt} (h : chS N.toNz ns sc (.raise c as) s = true) (R : Rel N L I rs g H) (er : ER N I rs env σ) (ok : OkF N L I rs H W D (exec T cf (.raise c as) env g)) : WS X s D σ H := by
  have ok : OkF N L I rs H W D (match T.exf c with
    | some f => (evs T cf as env g).bind fun vs g1 => match vs with
      | [d] => .exc ⟨c, [f], [d]⟩ g1
      | _ => .stk
    | none => .stk) := ok
  simp only [chS] at h
  split at h
  · rename_i x p e q p2
    simp only [Bool.and_eq_true, beq_iff_eq] at h
    obtain ⟨⟨h1, h2, h3⟩, h4, h5⟩ := h
    obtain ⟨q1, q2⟩ := gl_of h3 S.S.sc
    have hgl : X.mg x = some (.ref (N.ca c)) := by rw [S.S.mg, ← h2]; exact S.S.xf.nm c h1
    cases hf : T.exf c with
    | none =>
      rw [hf] at ok
      exact ok.elim
    | some f =>
      rw [hf] at ok
      have ok : OkF N L I rs H W D ((evs T cf as env g).bind fun vs g1 => match vs with
        | [d] => .exc ⟨c, [f], [d]⟩ g1
        | _ => .stk) := ok
      obtain ⟨su, B', newId, initId, bmB, own⟩ := S.S.xf.mak c f hf
      rw [← S.S.prog, ← S.S.F.hK] at own
      refine ws_of (ps_raise S.S.F.hc S.tk (pmk_exA (kr := k) own q1 hgl (by rw [S.S.mg]; exact su) S.S.room wa (star_eq h4) q2)) ?_
      refine wa_mono ((sa N P B T cf k ns as S.S).1 h5 R er ok.first) fun vs H1 ⟨ds, g1, I1, rs1, E1, R1, r1, ok1⟩ => ?_
      cases r1 with
      | nil => exact ok1.elim
      | @cons d v ds' vs' r1 r2 =>
        cases r2 with
        | nil =>
          refine ⟨v, rfl, fun dx hdx => ?_⟩
          have ok1 : OkF N L I1 rs1 H1 W D (.exc ⟨c, [f], [d]⟩ g1) := ok1
          obtain ⟨R2, E2⟩ := R1.imm (o := .xd [(N.nm f, v)]) hdx
          exact ok1 _ _ _ _ _ E2 R2 ⟨rfl, dx, _, rfl, upd_same, rfl, .one (E2.vr r1)⟩
        | cons _ _ => exact ok1.elim
  · exact Bool.noConfusion h
/-! ### try -/
theorem xn_ok (S : XS N P B T cf k ns sc sc W X) : ∀ {cs : List Nat} {es : List Expr}, xnB N.toNz sc cs es = true → NamesOk X es (cs.map fun c => .ref (N.ca c)) ∧ ∀ (c f : Nat), T.exf c = some f → PySem.W.exmAny N.K (.ref (N.ca c)) (cs.map fun c => .ref (N.ca c)) = some (cs.any fun c2 => T.xi c (.own c2))
  | [], [], _ => ⟨.nil, fun _ _ _ => rfl⟩
  | [], _ :: _, h => Bool.noConfusion h
  | _ :: _, [], h => Bool.noConfusion h
  | c :: cs, e :: es, h => by
    unfold xnB at h
    split at h
    · rename_i hh; cases hh
    · rename_i c' cs' x p es' e1 e2
      cases e1; cases e2
      simp only [Bool.and_eq_true, beq_iff_eq] at h
      obtain ⟨⟨h1, h2, h3⟩, h4⟩ := h
      obtain ⟨q1, q2⟩ := gl_of h3 S.sc
      obtain ⟨n1, n2⟩ := xn_ok S h4
      refine ⟨.cons ⟨q1, q2, .inl (by rw [S.mg, ← h2]; exact S.xf.nm c h1)⟩ n1, fun cc f hf => ?_⟩
      have a1 := S.xf.sub cc f c hf h1
      have a2 := n2 cc f hf
      show PySem.W.exmAny N.K (.ref (N.ca cc)) (.ref (N.ca c) :: cs.map fun c => .ref (N.ca c)) = _
      unfold PySem.W.exmAny
      rw [a1, a2]
      rfl
    · exact Bool.noConfusion h
theorem tst_ok (S : XS N P B T cf k ns sc sc W X) {cs : List Nat} {t : Expr} (h : tstB N.toNz sc cs t = true) : TestOk X t (cs.map fun c => .ref (N.ca c)) ∧ ∀ (c f : Nat), T.exf c = some f → PySem.W.exmAny N.K (.ref (N.ca c)) (cs.map fun c => .ref (N.ca c)) = some (cs.any fun c2 => T.xi c (.own c2)) := by
  unfold tstB at h
  split at h
  · simp only [Bool.and_eq_true, decide_eq_true_eq] at h
    obtain ⟨h1, h2, h3⟩ := h
    obtain ⟨n1, n2⟩ := xn_ok S h1
    exact ⟨.tup n1 (by simpa using h2) (by simpa using h3), n2⟩
  · simp only [Bool.and_eq_true, decide_eq_true_eq] at h
    obtain ⟨h1, h2⟩ := h
    match cs, h1 with
    | [c], _ =>
      obtain ⟨n1, n2⟩ := xn_ok S h2
      cases n1 with
      | cons a b => exact ⟨.one a, n2⟩
theorem con_ok {d : PC.D} {c : Const} (h : conB d c = true) : ∃ v, (∀ (X : Cx) (q : Nat) (p : Pos), PE X (.Constant c q p) (tC v)) ∧ ∀ (I : Hp) (rs : List Addr), VR N I rs d v := by
  unfold conB at h
  split at h
  · exact ⟨.non, fun X q p => pe_non, fun _ _ => .non⟩
  · have := eq_of_beq h; subst this
    exact ⟨.bl _, fun X q p => pe_bl, fun _ _ => .bl _⟩
  · have := eq_of_beq h; subst this
    exact ⟨.int _, fun X q p => pe_int, fun _ _ => .int _⟩
  · rename_i s y
    have := eq_of_beq h
    subst this
    exact ⟨.str _, fun X q p => pe_str, fun I rs => by
      have q : VR N I rs (.str y.cps.toList) (.str (st y.cps.toList)) := .str _
      rw [st_of] at q
      exact q⟩
  · exact Bool.noConfusion h
theorem hds_ok (S : XS N P B T cf k ns sc sc W X) : ∀ {hs : List (List Nat × XHd)} {hds : List ExceptHandler}, hdsB N.toNz ns sc hs hds = true → ∃ l, HdsX X hds l ∧
    ∀ {I : Hp} {rs : List Addr} {g : G} {H : Hp} {env : Env} {σ : L2.St} {x : Ex} {cls : Value} {d : Option Addr} {f : Nat} {L : Hp} {D : Ends}, Rel N L I rs g H → ER N I rs env σ → XR N I rs x cls d → T.exf x.c = some f → OkF N L I rs H W D (hdR T hs x env g) →
      wX N.K (fun cls d _ H => W cls d H) D l cls d σ H
  | [], [], _ => ⟨[], .nil, fun {I rs g H env σ x cls d f L D} R er xr hf ok => ok I rs H cls d .refl R xr⟩
  | [], _ :: _, h => by simp [hdsB] at h
  | a :: r, [], h => by
    obtain ⟨cs, a⟩ := a
    cases a <;> simp [hdsB] at h
  | (cs, a) :: r, hd :: hds, h => by
    unfold hdsB at h
    split at h
    · rename_i e1 e2; cases e1
    · rename_i cs' i j r' t n m p1 n' p2 p3 p4 hds' e1 e2
      cases e1; cases e2
      simp only [Bool.and_eq_true, beq_iff_eq, Bool.not_eq_true', beq_eq_false_iff_ne] at h
      obtain ⟨⟨h1, ⟨rfl, h3, h4⟩, ⟨h5, h6⟩, h7, h8, h9⟩, h10⟩ := h
      obtain ⟨t1, t2⟩ := tst_ok S h1
      obtain ⟨l, k1, k2⟩ := hds_ok S h10
      refine ⟨(cs.map (fun c => .ref (N.ca c)), .keep i j) :: l, .keep t1 (by rw [S.hN]; exact h3) (by show X.env.scope.names.lookup _ = _; rw [S.sc]; exact h4) (by rw [S.hN]; exact h5) (by show X.env.scope.names.lookup _ = _; rw [S.sc]; exact h6) h7 (beq_eq_false_iff_ne.mpr h8) (beq_eq_false_iff_ne.mpr h9) k1, fun {I rs g H env σ x cls d f L D} R er xr hf ok => ?_⟩
      have xr0 := xr
      obtain ⟨rfl, dd, fs, rfl, x2, x3, x4⟩ := xr
      refine ⟨_, t2 _ f hf, fun hb => ?_, fun hb => ?_⟩
      · intro a ha
        unfold hdR at ok
        rw [hb, if_pos rfl] at ok
        obtain ⟨R2, E2⟩ := R.imm (o := ExK (.ref (N.ca x.c)) (some dd) a) ha
        have hv : VR N (upd I a (ExK (.ref (N.ca x.c)) (some dd) a)) rs (.xob x.c x.ns x.vs) (.ref a) := .xob upd_same (E2.i _ _ x2) x3 (E2.vrs x4)
        exact ok _ _ _ _ E2 R2 ((((er.after E2).set hv).set hv).wipe1 i)
      · unfold hdR at ok
        rw [hb, if_neg Bool.false_ne_true] at ok
        exact k2 R er xr0 hf ok
    · rename_i cs' dd r' t c q p1 p2 p3 hds' e1 e2
      cases e1; cases e2
      simp only [Bool.and_eq_true] at h
      obtain ⟨⟨h1, h2⟩, h3⟩ := h
      obtain ⟨t1, t2⟩ := tst_ok S h1
      obtain ⟨l, k1, k2⟩ := hds_ok S h3
      obtain ⟨v, c1, c2⟩ := con_ok (N := N) h2
      refine ⟨(cs.map (fun c => .ref (N.ca c)), .con v) :: l, .con t1 (fun X => c1 X _ _) k1, fun {I rs g H env σ x cls d f L D} R er xr hf ok => ?_⟩
      have xr0 := xr
      obtain ⟨rfl, _⟩ := xr
      refine ⟨_, t2 _ f hf, fun hb => ?_, fun hb => ?_⟩
      · unfold hdR at ok
        rw [hb, if_pos rfl] at ok
        exact ok _ _ _ _ .refl R (c2 _ _)
      · unfold hdR at ok
        rw [hb, if_neg Bool.false_ne_true] at ok
        exact k2 R er xr0 hf ok
    · rename_i cs' r' t p1 p3 hds' e1 e2
      cases e1; cases e2
      simp only [Bool.and_eq_true] at h
      obtain ⟨h1, h3⟩ := h
      obtain ⟨t1, t2⟩ := tst_ok S h1
      obtain ⟨l, k1, k2⟩ := hds_ok S h3
      refine ⟨(cs.map (fun c => .ref (N.ca c)), .pass) :: l, .pass t1 k1, fun {I rs g H env σ x cls d f L D} R er xr hf ok => ?_⟩
      have xr0 := xr
      obtain ⟨rfl, _⟩ := xr
      refine ⟨_, t2 _ f hf, fun hb => ?_, fun hb => ?_⟩
      · unfold hdR at ok
        rw [hb, if_pos rfl] at ok
        exact ok _ _ _ _ .refl R er
      · unfold hdR at ok
        rw [hb, if_neg Bool.false_ne_true] at ok
        exact k2 R er xr0 hf ok
    · exact Bool.noConfusion h
/-- what is wanted of the call's value -/
def trQ (r : XTr) (σ : L2.St) (D : Ends) : VK := match r with
  | .drop => fun _ H => D.nx σ H
  | .set i => fun v H => D.nx (σ.set i (some v)) H
  | .ret => fun v H => D.rt v H
theorem tr_conv {r : XTr} {hs : List (List Nat × XHd)} {Wx : WX} {rr : PC.R PC.D} (er : ER N I rs env σ)
    (hw : ∀ {I : Hp} {rs : List Addr} {g : G} {H : Hp} {x : Ex} {cls : Value} {d : Option Addr} {f : Nat}, Rel N L I rs g H → ER N I rs env σ → XR N I rs x cls d → T.exf x.c = some f → OkF N L I rs H W D (hdR T hs x env g) → Wx cls d σ H)
    (ok : OkF N L I rs H W D (tryR T r hs env rr)) : OkV N L I rs H (fun cls d H => Wx cls d σ H) (trQ r σ D) rr := by
  cases rr with
  | stk => exact ok
  | ok d g =>
    intro I' rs' H' v E' R' rv
    cases r with
    | drop => exact ok _ _ _ σ E' R' (er.after E')
    | set i => exact ok _ _ _ _ E' R' ((er.after E').set rv)
    | ret => exact ok _ _ _ v E' R' rv
  | exc x g =>
    intro I' rs' H' cls d E' R' xr
    have ok : OkF N L I rs H W D (if (T.exf x.c).isSome then hdR T hs x env g else .stk) := ok
    cases hf : T.exf x.c with
    | none => rw [hf] at ok; exact ok.elim
    | some f =>
      rw [hf] at ok
      exact hw R' (er.after E') xr hf (OkF.after (show OkF N L I rs H W D (hdR T hs x env g) from ok) E')
/-- the callee runs, the slots being σ -/
theorem XS.cpT {W0 : XK} (S : XS N P B T cf k ns sc sc W0 X) {Wx : WX} (tk : Takes X Wx) {f : Nat} {ds : List PC.D} {ws : List V} (R : Rel N L I rs g H) (hv : VRs N I rs ds ws) (ok : OkV N L I rs H (fun cls d H => Wx cls d σ H) Q (cf f ds g)) :
    ∀ (pins : List (Addr × Obj)) (s : Shared) (us : List Value), Inv X pins σ H s → Vals ws us → wpAny (model X.prog X.w) X.A (PySem.call (.ref (N.fa f)) us) (EP X pins σ Q) X.xe s := by
  intro pins s us J r
  have e0 := J.env0
  have h := S.pr f ds g ws L I rs H Q _ R hv ok us.length (.inl r.length) X.A X.stack s us (S.room.mono (by omega)) S.F.hg
  rw [argJ_all] at h
  have e1 := S.prog
  have e2 := S.mg
  have e3 := S.base
  have e4 := S.F.hK
  have e5 := S.F.hw
  subst e1 e3
  rw [← e5, ← e4, ← e2] at h
  refine wpAny_call (codeAny_mono (h e0 r) fun r s' hq => ?_)
  cases r with
  | error e => exact tk _ _ (XE.of_call J (fun _ _ _ z => z) hq)
  | ok fl =>
    cases fl with
    | ret u => exact J.after hq
    | next => exact False.elim hq
    | brk => exact False.elim hq
    | cont => exact False.elim hq
theorem XS.tr {W0 : XK} (S : XS N P B T cf k ns sc sc W0 X) (pn : List (Addr × Obj)) (xe : Value → Shared → Prop) : XS N P B T cf k ns sc sc (fun _ _ _ => False) (X.tr pn xe) := by
  refine ⟨⟨S.F.hK, S.F.hw, S.F.hV, S.F.hc, S.F.hg⟩, S.prog, S.mg, S.base, S.hN, S.nd, S.sc, S.hf, S.room, S.pr, ?_, S.fa, S.xf⟩
  intro pins σ H s e s' J c
  obtain ⟨_, _, _, _, _, _, _, _, _, _, _, _, z⟩ := c
  exact z.elim
theorem nox_first {α γ : Type} {P1 : Hp → List Addr → α → γ → Prop} {r : PC.R α} {kk : α → G → PC.R Fl} (ok : OkF N L I rs H W D (noxR r kk)) :
    Ok N L P1 I rs H (fun _ _ _ => False) (fun b H1 => ∃ a g1 I1 rs1, Ext I rs H I1 rs1 H1 ∧ Rel N L I1 rs1 g1 H1 ∧ P1 I1 rs1 a b ∧ OkF N L I1 rs1 H1 W D (kk a g1)) r := by
  cases r with
  | ok a g => exact fun I' rs' H' b e R p => ⟨a, g, I', rs', e, R, p, OkF.after (show OkF N L I rs H W D (kk a g) from ok) e⟩
  | exc x g => exact (show False from ok).elim
  | stk => exact ok
/-- what a try does, its calls and its clauses -/
def tryX (T : Tab) (cf : CF) (r : XTr) (hs : List (List Nat × XHd)) (env : Env) (cl : XCl) (as : List E) (g : G) : PC.R Fl := match cl, as with
  | .fn f, as => noxR (evs T cf as env g) fun vs g1 => tryR T r hs env (cf f vs g1)
  | .me m, o :: as => noxR (ev T cf o env g) fun x g1 => match metF T g1 m x with
    | some f => noxR (evs T cf as env g1) fun vs g2 => tryR T r hs env (cf f (x :: vs) g2)
    | none => .stk
  | .me _, [] => .stk
theorem cl_ok {W0 : XK} (S : XS N P B T cf k ns sc sc (fun _ _ _ => False) X) {Wx : WX} (tk : Takes X Wx) {r : XTr} {hs : List (List Nat × XHd)} {cl : XCl} {as : List E} {e : Expr} (h : clB N.toNz ns sc cl as e = true) (R : Rel N L I rs g H) (er : ER N I rs env σ)
    (hw : ∀ {I : Hp} {rs : List Addr} {g : G} {H : Hp} {x : Ex} {cls : Value} {d : Option Addr} {f : Nat}, Rel N L I rs g H → ER N I rs env σ → XR N I rs x cls d → T.exf x.c = some f → OkF N L I rs H W D (hdR T hs x env g) → Wx cls d σ H)
    (ok : OkF N L I rs H W D (tryX T cf r hs env cl as g)) : WE X e σ H (trQ r σ D) := by
  unfold clB at h
  split at h
  · rename_i f x p es q
    simp only [Bool.and_eq_true, beq_iff_eq] at h
    obtain ⟨⟨h1, rfl, h2⟩, h3, h4⟩ := h
    obtain ⟨b1, b2⟩ := gl_of (X := X) h2 S.sc
    obtain ⟨c1, c2⟩ := S.fa.fn f h1
    rw [← S.mg] at c1
    rw [← S.F.hK] at c2
    have ok : OkF N L I rs H W D (noxR (evs T cf as env g) fun vs g1 => tryR T r hs env (cf f vs g1)) := ok
    have w : WA X es σ H (fun vs H1 => ∀ (pins : List (Addr × Obj)) (s : Shared) (us : List Value), Inv X pins σ H1 s → Vals vs us → wpAny (model X.prog X.w) X.A (PySem.call (.ref (N.fa f)) us) (EP X pins σ (trQ r σ D)) X.xe s) :=
      wa_mono ((sa N P B T cf k ns as S).1 h4 R er (nox_first ok)) fun vs H1 ⟨ds, g1, I1, rs1, E1, R1, r1, ok1⟩ => S.cpT tk R1 r1 (tr_conv (er.after E1) hw ok1)
    intro pins s J
    refine wpAny_Call_Name_kw (ld_glob J b1 c1 ?_ b2)
    cases es with
    | nil =>
      refine PySem.W.callWith_K0 (first := []) J.kIn c2 ?_
      have h1 := wpAny_bind (f := fun us => PySem.call (.ref (N.fa f)) us) (thn (w q pins s J) fun us s1 ⟨vs, H1, J1, r, q⟩ => q pins s1 us J1 r)
      have e : (spliced (backTo q (starEach [] X.env)) : Sem (List Value)) = pure [] := rfl
      rw [e, pure_bind] at h1
      exact h1
    | cons e es =>
      simp only [noSt, List.all_cons, Bool.and_eq_true] at h3
      exact PySem.W.callWith_K (first := []) (h₀ := X.base) J.ok.mod.kin c2 (thn (w q pins s J) fun us s2 ⟨vs, H2, J2, r, q2⟩ => ⟨J2.kIn, q2 pins s2 us J2 r⟩) (star_eq h3.1) (star_any h3.2)
  · rename_i m o as o' x ap es p
    simp only [Bool.and_eq_true, beq_iff_eq, decide_eq_true_eq] at h
    obtain ⟨⟨rfl, h1, h1'⟩, ⟨h3, h4⟩, h5, h6⟩ := h
    have ok : OkF N L I rs H W D (noxR (ev T cf o env g) fun x g1 => match metF T g1 m x with
      | some f => noxR (evs T cf as env g1) fun vs g2 => tryR T r hs env (cf f (x :: vs) g2)
      | none => .stk) := ok
    refine fun pins s J => PySem.W.methodCall_KW (thn ((we_mono ((sm N P B T cf k ns o).1 S h5 R er (nox_first ok)) (Q' := fun v H1 => ∃ a dx fs c f, v = .ref a ∧ H1 a = some (.ins (N.ca c) dx fs) ∧ fs.lookup (N.nm m) = none ∧ T.mt c m = some f ∧
      WA X es σ H1 (fun vs H2 => ∀ (pins : List (Addr × Obj)) (s : Shared) (us : List Value), Inv X pins σ H2 s → Vals vs us → wpAny (model X.prog X.w) X.A (PySem.call (.ref (N.fa f)) (.ref a :: us)) (EP X pins σ (trQ r σ D)) X.xe s)) fun v1 H1 ⟨d1, g1, I1, rs1, E1, R1, r1, ok1⟩ => ?_) pins s J) fun u s1 ⟨v, H1, J1, rx, a, dx, fs, c, f, ex, h7, h8, h9, q⟩ => ?_) (mc_tree h1 h3 h4 (by rw [h1']; exact beq_self_eq_true _))
    · cases hm : metF T g1 m d1 with
      | none => rw [hm] at ok1; exact ok1.elim
      | some f =>
        rw [hm] at ok1
        simp only at ok1
        unfold metF at hm
        cases hd : metD g1 m d1 with
        | none => rw [hd] at hm; cases hm
        | some c =>
          rw [hd] at hm
          obtain ⟨a, dx, fs, ns', ds, rfl, h7, h8, h9, h10, h11⟩ := ins_cases R1 (cls_met hd) r1
          have hc : ns'.contains m = false := by
            have z := h11 m
            rw [hd] at z
            cases q : ns'.contains m with
            | false => rfl
            | true => rw [q] at z; cases z
          refine ⟨a, dx, fs, c, f, rfl, h7, lookN_v S.fa.nmi h8 hc, hm, wa_mono ((sa N P B T cf k ns as S).1 h6 R1 (er.after E1) (nox_first ok1)) fun vs H2 ⟨ds2, g2, I2, rs2, E2, R2, r2, ok2⟩ => fun pins s us J rv => ?_⟩
          exact S.cpT tk R2 (.cons (E2.vr r1) r2) (tr_conv ((er.after E1).after E2) hw ok2) pins s (.ref a :: us) J (.cons rfl rv)
    · subst ex
      obtain rfl : u = Value.ref a := rx
      obtain ⟨c1, c2⟩ := S.fa.mt c m f h9
      rw [← S.F.hK] at c1 c2
      exact getmeth_ok J1 h7 c1 c2 h8 (cw_meth c2.kp h3 J1 q)
  · exact Bool.noConfusion h
theorem try_ok {r : XTr} {cl : XCl} {as : List E} {hs : List (List Nat × XHd)} (S : XD N P B T cf k ns sc W X) {s : Stmt} (h : chS N.toNz ns sc (.try_ r cl as hs) s = true) (R : Rel N L I rs g H) (er : ER N I rs env σ) (ok : OkF N L I rs H W D (exec T cf (.try_ r cl as hs) env g)) : WS X s D σ H := by
  have ok : OkF N L I rs H W D (tryX T cf r hs env cl as g) := by
    cases cl with
    | fn f => exact ok
    | me m =>
      cases as with
      | nil => exact ok
      | cons o as => exact ok
  simp only [chS] at h
  split at h
  · rename_i st h0 hds p
    simp only [Bool.and_eq_true] at h
    obtain ⟨h1, h2⟩ := h
    obtain ⟨l, k1, k2⟩ := hds_ok S.S h2
    have nd : X.N.Nodup := by rw [S.S.hN]; exact S.S.nd
    refine ws_of (ps_tryX (tb := fun Wx D σ H => ∀ (pn : List (Addr × Obj)) (xe : Value → Shared → Prop), Takes (X.tr pn xe) Wx → PassesOwn (model X.prog X.w) X.A X.env xe → WSs (X.tr pn xe) [st] D σ H) S.hs S.hfr S.hex nd S.tk (fun Wx pn xe tk po => ⟨fun pins s σ H D I h => h pn xe tk po pins s I⟩) k1) ?_
    intro pn xe tk po
    have S' := S.S.tr pn xe
    have hK : X.K = N.K := S.S.F.hK
    rw [hK] at tk
    have key : ∀ {e : Expr}, clB N.toNz ns sc cl as e = true → WE (X.tr pn xe) e σ H (trQ r σ D) := fun hc => cl_ok (W0 := W) S' tk hc R er (fun {I rs g H x cls d f} R er xr hf ok => k2 R er xr hf ok) ok
    unfold tryB at h1
    split at h1
    · rename_i e q
      simp only [Bool.and_eq_true] at h1
      exact wss_of (pss_one (ps_expr we (sw_no h1.1))) (key h1.2)
    · rename_i x px e q
      simp only [Bool.and_eq_true] at h1
      obtain ⟨b1, b2, b3⟩ := nm_of S' h1.1
      exact wss_of (pss_one (ps_set (X := X.tr pn xe) nd b1 b2 we (sw_no h1.2.1) b3)) (key h1.2.2)
    · exact wss_of (pss_one (ps_ret we)) (key h1)
    · exact Bool.noConfusion h1
  · exact Bool.noConfusion h
end
end PC
end
section
set_option maxHeartbeats 4000000
namespace PC
open PySem L2 PyProof.Rows
section
variable (N : Nm) (P : Program) (B : Heap) (T : Tab) (cf : CF) (k : Nat) (ns : List Str)
def SSp (c : S) : Prop := ∀ {sc : Scope} {W : XK} {X : Cx}, XD N P B T cf k ns sc W X → ∀ {s : Stmt}, chS N.toNz ns sc c s = true → ∀ {env : Env} {g : G} {σ : L2.St} {L I : Hp} {rs : List Addr} {H : Hp} {D : Ends}, Rel N L I rs g H → ER N I rs env σ →
  OkF N L I rs H W D (exec T cf c env g) → WS X s D σ H
def SSsp (cs : List S) : Prop := ∀ {sc : Scope} {W : XK} {X : Cx}, XD N P B T cf k ns sc W X → ∀ {ss : List Stmt}, chSs N.toNz ns sc cs ss = true → ∀ {env : Env} {g : G} {σ : L2.St} {L I : Hp} {rs : List Addr} {H : Hp} {D : Ends}, Rel N L I rs g H → ER N I rs env σ →
  OkF N L I rs H W D (execs T cf cs env g) → WSs X ss D σ H
/-- .. where a token is out -/
def WTSs (X : Cx) (sts : List Stmt) : TS := fun D σ H => ∀ (pins : List (Addr × Obj)) (s : Shared), 1 ≤ s.toks → Inv X pins σ H s → wpAny (model X.prog X.w) X.A (PySem.execs sts X.env) (SP X pins D) X.xe s
def WTS (X : Cx) (st : Stmt) : TS := fun D σ H => ∀ (pins : List (Addr × Obj)) (s : Shared), 1 ≤ s.toks → Inv X pins σ H s → wpAny (model X.prog X.w) X.A (PySem.exec st X.env) (SP X pins D) X.xe s
def STsp (cs : List S) : Prop := ∀ {sc : Scope} {W : XK} {X : Cx}, XD N P B T cf k ns sc W X → ∀ {ss : List Stmt}, chTSs N.toNz ns sc cs ss = true → ∀ {env : Env} {g : G} {σ : L2.St} {L I : Hp} {rs : List Addr} {H : Hp} {D : Ends}, Rel N L I rs g H → ER N I rs env σ →
  OkF N L I rs H W D (execs T cf cs env g) → WTSs X ss D σ H
end
section
variable {N : Nm} {P : Program} {B : Heap} {T : Tab} {cf : CF} {k : Nat} {ns : List Str}
variable {sc : Scope} {W : XK} {X : Cx} {L L1 I I1 I2 : Hp} {rs rs1 rs2 : List Addr} {g g1 : G} {H H1 H2 : Hp} {Q : VK} {x y z : D} {u v : V} {env : Env} {σ : L2.St} {D D' : Ends}
/-- the value, then the rest -/
theorem ev_go {c : E} (S : XD N P B T cf k ns sc W X) {e : Expr} (hc : (chM N.toNz ns c).v sc sc e = true) (R : Rel N L I rs g H) (er : ER N I rs env σ) {kk : PC.D → G → PC.R Fl} {Q : VK}
    (ok : OkF N L I rs H W D (((evM T cf c).v env g).bind kk)) (q : ∀ v H1 d g1 I1 rs1, Rel N L I1 rs1 g1 H1 → ER N I1 rs1 env σ → Ext I rs H I1 rs1 H1 → VR N I1 rs1 d v → OkF N L I1 rs1 H1 W D (kk d g1) → Q v H1) : WE X e σ H Q :=
  we_mono ((sm N P B T cf k ns c).1 S.S hc R er ok.first) fun v H1 ⟨d, g1, I1, rs1, e1, R1, v1, ok1⟩ => q v H1 d g1 I1 rs1 R1 (er.after e1) e1 v1 ok1
theorem cell_dct (R : Rel N L I rs g H) {i : Nat} {a : Addr} {ks : List DK} {ds : List PC.D} {ks' : List DK} {ds' : List PC.D} {kvs' : List (Key × V)} (hi : rs[i]? = some a) (hg : g[i]? = some (.dct ks ds)) (h1 : kvs'.map (·.1) = ks'.map key) (nd : ks'.Nodup) (hv : VRs N I rs ds' (kvs'.map (·.2))) (hz : ks'.length ≤ LIM) :
    Rel N L I rs (g.set i (.dct ks' ds')) (upd H a (.dK kvs')) ∧ Ext I rs H I rs (upd H a (.dK kvs')) := by
  obtain ⟨hL, hI, _⟩ := R.cell i a _ hi hg
  exact R.put hi hL hI fun H' e => ⟨hL, hI, kvs', e, h1, nd, hv, hz⟩
theorem pset_any {X : Cx} (hU : X.A.units + 1 < cLine) : PSet X (fun o i v H Q => rSetD o i v H Q ∨ rSetL o i v H Q) := by
  intro pins s σ H o i v ov iv u Q I r1 r2 r3 h
  rcases h with h | h
  · exact set_dict hU pins s σ H o i v ov iv u Q I r1 r2 r3 h
  · exact set_list pins s σ H o i v ov iv u Q I r1 r2 r3 h
theorem setI_ok {i' y' : PC.D} {uo ui uv : V} {o : PC.D} {g2 : G} (R : Rel N L I rs g H) (ho : VR N I rs o uo) (hi : VR N I rs i' ui) (hv : VR N I rs y' uv) (h : setID g o i' y' = some g2) {Q : Hp → Prop}
    (q : ∀ H', Ext I rs H I rs H' → Rel N L I rs g2 H' → Q H') : rSetD uo ui uv H Q ∨ rSetL uo ui uv H Q := by
  unfold setID at h
  split at h
  · rename_i n
    cases ho with
    | @ref _ a ha =>
      split at h
      · rename_i ks ds hg
        split at h
        · rename_i kx hk
          split at h
          · rename_i hl
            cases h
            have hl : ks.length < LIM := by simpa using hl
            obtain ⟨hL, hI, kvs, h1, h2, h3, h4, h5⟩ := R.cell _ _ _ ha hg
            have ek := key_v hk hi
            subst ek
            obtain ⟨p1, p2, p3, p4, p5⟩ := put_v hv kx h2 h3 h4
            obtain ⟨R', E'⟩ := cell_dct R ha hg p1 p2 p3 (by omega)
            have el : kvs.length = ks.length := by simpa using congrArg List.length h2
            exact .inl ⟨a, _, rfl, DPut.k h1 (by have := lim_line (n := ks.length + 1) hl; omega), q _ E' R'⟩
          · cases h
        · cases h
      · rename_i l hg
        split at h
        · rename_i j
          split at h
          · rename_i n2 hn
            cases h
            cases hi
            obtain ⟨hL, hI, vs, h1, h2, h3⟩ := R.cell _ _ _ ha hg
            have el := h2.length
            obtain ⟨R', E'⟩ := lst_put R ha hg (h2.set n2 hv) (by simpa using h3)
            exact .inr ⟨a, vs, _, n2, rfl, rfl, h1, by rw [← el]; exact hn, q _ E' R'⟩
          · cases h
        · cases h
      · cases h
  · cases h
theorem sws_no {e t : Expr} {n : Nat} {en : PySem.Env} (h : swB e = true) : swapsWithSole [t] e n en = pure false := by
  cases e <;> first | rfl | cases h
theorem ss_set {i : Nat} {c : E} : SSp N P B T cf k ns (.set i c) := by
  intro sc W X S s h env g σ L I rs H D R er ok
  have ok : OkF N L I rs H W D (((evM T cf c).v env g).bind fun d g1 => .ok (.nx (env.set i (some d))) g1) := ok
  simp only [chS] at h
  split at h
  · rename_i x px e p
    simp only [Bool.and_eq_true, Bool.or_eq_true] at h
    obtain ⟨h1, h2, h3⟩ := h
    obtain ⟨b1, b2, b3⟩ := nm_of S.S h1
    have nd : X.N.Nodup := by rw [S.S.hN]; exact S.S.nd
    have key : WE X e σ H fun v H1 => gName i v σ H1 D.nx := ev_go S h2 R er ok fun v1 H1 d1 g1 I1 rs1 R1 er1 e1 r1 ok1 => ok1.nx' R1 (er1.set r1)
    by_cases hsw : swB e = true
    · exact ws_of (ps_set nd b1 b2 we (sw_no hsw) b3) key
    · have h3 := h3.resolve_left hsw
      cases c with
      | comp hh own tg one it cond elt =>
        cases e with
        | ListComp elt' gs scope lp =>
          -- a comprehension stored to a name
          have kind : X.env.scope.kind = .function ∨ ¬ X.env.scope.kind = .function := Classical.em _
          intro pins st J
          have hk : X.env.scope.kind = .function := J.ok.kind
          have sw := sw_comp (elt := elt') (gs := gs) (scope := scope) (p := lp) (px := px) (x := x) (n := p.line) hk
          cases hc : swC X.env.scope x px lp scope with
          | false =>
            rw [hc] at sw
            exact ws_of (ps_set nd b1 b2 we sw b3) key pins st J
          | true =>
            rw [hc] at sw
            have hyl : X.env.scope.names.lookup x = some .local := by
              unfold swC at hc
              simp only [Bool.and_eq_true, beq_iff_eq] at hc
              exact hc.1.1.2
            have hv := h2
            simp only [chM, Ck.of] at hv
            split at hv
            · rename_i elt2 tg2 it2 ifs isa scope2 p2 q2
              cases q2
              simp only [Bool.and_eq_true, beq_iff_eq] at hv
              obtain ⟨⟨rfl, a1, a2, a3⟩, a4, a5, a6, a7⟩ := hv
              have ok' : OkV N L I rs H W (fun v H1 => gName i v σ H1 D.nx) ((evM T cf (.comp hh own tg one it cond elt)).v env g) := by
                revert ok
                cases (evM T cf (.comp hh own tg one it cond elt)).v env g with
                | stk => exact fun h => h
                | exc x g => exact fun h => h
                | ok d g1 => exact fun ok I' rs' H' v E R' r' => ok I' rs' H' _ E R' ((er.after E).set r')
              obtain ⟨t, bk, fs⟩ := lc_ok S.S (sm N P B T cf k ns it).2.2 (sm N P B T cf k ns cond).2.1 (sm N P B T cf k ns elt).1 a2 a3 a4 a5 a6 a7 R er ok'
              refine ws_of (ps_setLc S.S.F.hc nd b1 hyl sw wi bk (fun s H C cl fp => ?_) (fun s H C cl fp => ?_) (fun s H C cl fp => ?_) fs) t pins st J
              · exact ⟨fun pins s' _ _ _ u _ I r h => h s H C cl fp pins s' u I r⟩
              · exact ⟨fun pins s' _ _ _ I h => h s H C cl fp pins s' I⟩
              · exact ⟨fun pins s' _ _ _ I h => h s H C cl fp pins s' I⟩
            · exact Bool.noConfusion hv
        | _ => exact Bool.noConfusion h3
      | _ => exact Bool.noConfusion h3
  · exact Bool.noConfusion h
theorem ss_unp {is : List Nat} {c : E} : SSp N P B T cf k ns (.unp is c) := by
  intro sc W X S s h env g σ L I rs H D R er ok
  have ok : OkF N L I rs H W D (((evM T cf c).v env g).bind fun d g1 => match asgD g1 false is d env with | some env1 => .ok (.nx env1) g1 | none => .stk) := ok
  simp only [chS] at h
  split at h
  · rename_i es kk p e p2
    simp only [Bool.and_eq_true] at h
    obtain ⟨⟨h1, h2⟩, h3, h4⟩ := h
    refine ws_of (ps_asg we wg (sws_no h1) (ss_tup3 h2 S.S.sc) rfl) (ev_go S h4 R er ok fun v1 H1 d1 g1 I1 rs1 R1 er1 e1 r1 ok1 => ?_)
    cases ha : asgD g1 false is d1 env with
    | none => rw [ha] at ok1; exact ok1.elim
    | some env1 =>
      rw [ha] at ok1
      exact tg_ok S.S (show tgB ns sc sc false is (.Tuple es kk p) = true from by unfold tgB; exact h3) R1 r1 ha er1 fun σ2 er2 ch => ok1.nx' R1 er2
  · exact Bool.noConfusion h
theorem ss_unpL {is : List Nat} {c : E} : SSp N P B T cf k ns (.unpL is c) := by
  intro sc W X S s h env g σ L I rs H D R er ok
  have ok : OkF N L I rs H W D (((evM T cf c).v env g).bind fun d g1 => match top g1 d with | .lst ds => (match asgD g1 false is (.tup ds) env with | some env1 => .ok (.nx env1) g1 | none => .stk) | _ => .stk) := ok
  simp only [chS] at h
  split at h
  · rename_i es kk p e p2
    simp only [Bool.and_eq_true] at h
    obtain ⟨⟨h1, h2⟩, h3, h4⟩ := h
    refine ws_of (ps_asg we wg (sws_no h1) (ss_tup3 h2 S.S.sc) rfl) (ev_go S h4 R er ok fun v1 H1 d1 g1 I1 rs1 R1 er1 e1 r1 ok1 => ?_)
    cases ht : top g1 d1 with
    | lst ds =>
      rw [ht] at ok1
      have ok1 : OkF N L I1 rs1 H1 W D (match asgD g1 false is (.tup ds) env with | some env1 => .ok (.nx env1) g1 | none => .stk) := ok1
      cases ha : asgD g1 false is (.tup ds) env with
      | none => rw [ha] at ok1; exact ok1.elim
      | some env1 =>
        rw [ha] at ok1
        exact tgl_ok S.S h3 R1 r1 ht ha er1 fun σ2 er2 ch => ok1.nx' R1 er2
    | _ => rw [ht] at ok1; exact ok1.elim
  · exact Bool.noConfusion h
theorem ss_setI {o i c : E} : SSp N P B T cf k ns (.setI o i c) := by
  intro sc W X S s h env g σ L I rs H D R er ok
  have ok : OkF N L I rs H W D (((evM T cf c).v env g).bind fun y g1 => ((evM T cf o).v env g1).bind fun x g2 => ((evM T cf i).v env g2).bind fun z g3 => match setID g3 x z y with | some g4 => .ok (.nx env) g4 | none => .stk) := ok
  simp only [chS] at h
  split at h
  · rename_i o' i' p e p2
    simp only [Bool.and_eq_true] at h
    obtain ⟨⟨h1, h2⟩, h3, h4, h5⟩ := h
    have hset : ∀ v, assign (.Subscript o' i' p) X.env v = (do
      let ov ← holding [v] (eval o' X.env)
      let iv ← holding [v, ov] (eval i' X.env)
      standAt p
      holding [v, ov, iv] (setItem ov iv v)
      release [v, ov, iv] []) := by
      intro v
      cases i' <;> first | rfl | cases h2
    refine ws_of (ps_asg we (pg_sub we we (pset_any (by have := S.S.F.hV; omega)) hset) (sws_no h1) ss_sub rfl) (ev_go S h3 R er ok fun v1 H1 d1 g1 I1 rs1 R1 er1 e1 r1 ok1 => ev_go S h4 R1 er1 ok1 fun v2 H2 d2 g2 I2 rs2 R2 er2 e2 r2 ok2 => ev_go S h5 R2 er2 ok2 fun v3 H3 d3 g3 I3 rs3 R3 er3 e3 r3 ok3 => ?_)
    cases hs : setID g3 d2 d3 d1 with
    | none => rw [hs] at ok3; exact ok3.elim
    | some g4 =>
      rw [hs] at ok3
      exact setI_ok R3 (e3.vr r2) r3 (e3.vr (e2.vr r1)) hs fun H' E' R' => ok3 _ _ _ σ E' R' (er3.after E')
  · exact Bool.noConfusion h
theorem ss_aug {i : Nat} {o : Bop} {c : E} : SSp N P B T cf k ns (.aug i o c) := by
  intro sc W X S s h env g σ L I rs H D R er ok
  have ok : OkF N L I rs H W D (match env[i]? with
    | some (some x) => ((evM T cf c).v env g).bind fun y g1 => match augD g1 o x y with
      | some z => .ok (.nx (env.set i (some z))) g1
      | none => .stk
    | _ => .stk) := ok
  split at ok
  · rename_i x hx
    simp only [chS] at h
    split at h
    · rename_i y py p e p2
      simp only [Bool.and_eq_true] at h
      obtain ⟨⟨h1, h2⟩, h3⟩ := h
      obtain ⟨b1, b2, b3⟩ := nm_of S.S h1
      have nd : X.N.Nodup := by rw [S.S.hN]; exact S.S.nd
      obtain ⟨v0, q1, q2⟩ := er.2 _ _ hx
      have go : ∀ (ti : TIp), PIp X p ti → (∀ {g1 : G} {I1 : Hp} {rs1 : List Addr} {H1 : Hp} {d1 : PC.D} {v1 : V} {z : PC.D} {Q : VK}, Rel N L I1 rs1 g1 H1 → VR N I1 rs1 x v0 → VR N I1 rs1 d1 v1 → augD g1 o x d1 = some z → (∀ v, VR N I1 rs1 z v → Q v H1) → ti v0 v1 H1 Q) → WS X (.AugAssign (.Name y py) p e p2) D σ H := by
        intro ti hp ht
        refine ws_of (ps_aug nd b1 b2 we hp b3) ⟨v0, q1, ev_go S h3 R er ok fun v1 H1 d1 g1 I1 rs1 R1 er1 e1 r1 ok1 => ?_⟩
        cases ha : augD g1 o x d1 with
        | none => rw [ha] at ok1; exact ok1.elim
        | some z =>
          rw [ha] at ok1
          exact ht R1 (e1.vr q2) r1 ha fun v hv => ok1.nx' R1 (er1.set hv)
      unfold augB at h2
      split at h2
      · refine go _ ip_add fun {g1 I1 rs1 H1 d1 v1 z Q} R1 r0 r1 ha q => ?_
        cases x <;> cases d1 <;> simp only [augD] at ha <;> cases ha
        cases r0; cases r1
        exact ⟨_, _, rfl, rfl, q _ (.int _)⟩
      · refine go _ ip_sub fun {g1 I1 rs1 H1 d1 v1 z Q} R1 r0 r1 ha q => ?_
        cases x <;> cases d1 <;> simp only [augD] at ha <;> cases ha
        cases r0; cases r1
        exact ⟨_, _, rfl, rfl, q _ (.int _)⟩
      · exact Bool.noConfusion h2
    · exact Bool.noConfusion h
  · exact ok.elim
theorem ss_no {c : S} (h : ∀ sc s, chS N.toNz ns sc c s = false) : SSp N P B T cf k ns c := by
  intro sc W X S s hc
  rw [h] at hc
  cases hc
theorem ss_pass  : SSp N P B T cf k ns (.pass) := by
  intro sc W X S s h env g σ L I rs H D R er ok
  simp only [chS] at h
  split at h
  · exact ws_of ps_pass ((show OkF N L I rs H W D (.ok (.nx env) g) from ok).nx' R er)
  · exact Bool.noConfusion h

theorem ss_brk  : SSp N P B T cf k ns (.brk) := by
  intro sc W X S s h env g σ L I rs H D R er ok
  simp only [chS] at h
  split at h
  · exact ws_of ps_break ((show OkF N L I rs H W D (.ok (.bk env) g) from ok) I rs H σ .refl R er)
  · exact Bool.noConfusion h

theorem ss_cont  : SSp N P B T cf k ns (.cont) := by
  intro sc W X S s h env g σ L I rs H D R er ok
  simp only [chS] at h
  split at h
  · exact ws_of ps_continue ((show OkF N L I rs H W D (.ok (.ct env) g) from ok) I rs H σ .refl R er)
  · exact Bool.noConfusion h

theorem ss_ex {c : E} : SSp N P B T cf k ns (.ex c) := by
  intro sc W X S s h env g σ L I rs H D R er ok
  have ok : OkF N L I rs H W D (((evM T cf c).v env g).bind fun _ g1 => .ok (.nx env) g1) := ok
  simp only [chS] at h
  split at h
  · simp only [Bool.and_eq_true] at h
    exact ws_of (ps_expr we (sw_no h.1)) (ev_go S h.2 R er ok fun v1 H1 d1 g1 I1 rs1 R1 er1 e1 r1 ok1 => ok1.nx' R1 er1)
  · exact Bool.noConfusion h

theorem ss_ret {c : E} : SSp N P B T cf k ns (.ret c) := by
  intro sc W X S s h env g σ L I rs H D R er ok
  have ok : OkF N L I rs H W D (((evM T cf c).v env g).bind fun d g1 => .ok (.rt d) g1) := ok
  simp only [chS] at h
  split at h
  · exact ws_of (ps_ret we) (ev_go S h R er ok fun v1 H1 d1 g1 I1 rs1 R1 er1 e1 r1 ok1 => ok1 I1 rs1 H1 v1 .refl R1 r1)
  · exact Bool.noConfusion h

theorem ss_retN  : SSp N P B T cf k ns (.retN) := by
  intro sc W X S s h env g σ L I rs H D R er ok
  simp only [chS] at h
  split at h
  · exact ws_of ps_retN ((show OkF N L I rs H W D (.ok (.rt .non) g) from ok) I rs H .non .refl R .non)
  · exact Bool.noConfusion h

theorem ss_ite {c : E} {a : List S} {b : List S} (ha : SSsp N P B T cf k ns a) (hb : SSsp N P B T cf k ns b) : SSp N P B T cf k ns (.ite c a b) := by
  intro sc W X S s h env g σ L I rs H D R er ok
  have ok : OkF N L I rs H W D (((evM T cf c).t env g).bind fun t g1 => match t with | true => execs T cf a env g1 | false => execs T cf b env g1) := ok
  simp only [chS] at h
  split at h
  · simp only [Bool.and_eq_true] at h
    obtain ⟨h1, h2, h3⟩ := h
    refine ws_of (ps_if wt wss wss) (wt_mono ((sm N P B T cf k ns c).2.1 S.S h1 R er ok.first) fun t H1 ⟨t', g1, I1, rs1, e1, R1, et, ok1⟩ => ?_)
    subst et
    cases t' with
    | true => rw [if_pos rfl]; exact ha S h2 R1 (er.after e1) ok1
    | false => rw [if_neg Bool.false_ne_true]; exact hb S h3 R1 (er.after e1) ok1
  · exact Bool.noConfusion h

theorem ss_while_ {c : E} {b : List S} (hb : SSsp N P B T cf k ns b) : SSp N P B T cf k ns (.while_ c b) := by
  intro sc W X S s h env g σ L I rs H D R er ok
  have ok : OkF N L I rs H W D (whL (fun env g => (evM T cf c).t env g) (fun env g => execs T cf b env g) TURNS env g) := ok
  simp only [chS] at h
  split at h
  · simp only [Bool.and_eq_true] at h
    exact while_ok S (fun R er ok => (sm N P B T cf k ns c).2.1 S.S h.1 R er ok) (fun R er ok => hb S h.2 R er ok) R er ok
  · exact Bool.noConfusion h

theorem ss_for_ {one : Bool} {tg : List Nat} {it : E} {b : List S} (hb : SSsp N P B T cf k ns b) (hbT : STsp N P B T cf k ns b) : SSp N P B T cf k ns (.for_ one tg it b) := by
  intro sc W X S s h env g σ L I rs H D R er ok
  have ok : OkF N L I rs H W D (((evM T cf it).i env g).bind fun xs g1 => freeR (forL (fun x env g => match asgD g one tg x env with
    | some env1 => execs T cf b env1 g
    | none => .stk) xs.1 env (lockG g1 xs.2)) xs.2) := ok
  simp only [chS] at h
  split at h
  · rename_i tg' it' b' p
    simp only [Bool.and_eq_true, Bool.or_eq_true] at h
    refine h.2.elim (fun h2 => for_ok S h.1.1 (fun ok => (sm N P B T cf k ns it).2.2 S.S h.1.2 R er ok) (fun R er ok => hb S h2 R er ok) er ok) fun h2 => ?_
    obtain ⟨h2, h3⟩ := h2
    unfold rngB at h2
    split at h2
    · rename_i a
      obtain ⟨fs, w⟩ := for_ok' (b' := b') (p := p) (tb := WTSs X b') (wi := WIG X tg' it') S h.1.1 (fun ok => si_rangeG S.S h.1.2 R er ok) (fun R er ok => hbT S h3 R er ok) er ok
      exact ws_of (ps_forG S.hp S.S.F.hc wig wg (fun pins s σ H D k I q => q pins s k I) fs) w
    · exact Bool.noConfusion h2
  · exact Bool.noConfusion h

theorem sss_nil : SSsp N P B T cf k ns [] := by
  intro sc W X S ss' h env g σ L I rs H D R er ok
  have : ss' = [] := by simpa [chSs] using h
  subst this
  exact wss_of pss_nil ((show OkF N L I rs H W D (.ok (.nx env) g) from ok).nx' R er)

theorem sg_ok (S : XD N P B T cf k ns sc W X) {c : PC.S} {cs : List PC.S} (hr : STsp N P B T cf k ns cs) {s : Stmt} {r : List Stmt} (h : chSG N.toNz ns sc c s = true) (h2 : chTSs N.toNz ns sc cs r = true) (R : Rel N L I rs g H) (er : ER N I rs env σ)
    (ok : OkF N L I rs H W D (execs T cf (c :: cs) env g)) : WSs X (s :: r) D σ H := by
  unfold chSG at h
  split at h
  · rename_i i hh as x px es p p2
    simp only [Bool.and_eq_true] at h
    obtain ⟨b1, b2, b3⟩ := nm_of S.S h.1
    have nd : X.N.Nodup := by rw [S.S.hN]; exact S.S.nd
    have eq : execs T cf (.set i (.lst hh as) :: cs) env g = (evs T cf as env g).bind fun vs g1 => (mkL hh vs g1).bind fun d g2 => execs T cf cs (env.set i (some d)) g2 := by
      show ((((evs T cf as env g).bind fun vs g1 => mkL hh vs g1).bind fun d g1 => PC.R.ok (Fl.nx (env.set i (some d))) g1).bind _) = _
      cases evs T cf as env g with
      | stk => rfl
      | exc x gx => rfl
      | ok vs g1 =>
        show (((mkL hh vs g1).bind fun d g1 => PC.R.ok (Fl.nx (env.set i (some d))) g1).bind _) = ((mkL hh vs g1).bind _)
        cases mkL hh vs g1 <;> rfl
    rw [eq] at ok
    refine wss_setG nd b1 b2 (sw_no rfl) b3 (weg_lst fun pos pins st J => thn (wag_ok S.S as h.2 R er ok.first pos pins st J) fun us s1 ⟨hk, vs, H1, J1, rv, ds, g1, I1, rs1, E1, R1, r1, ok1⟩ => ⟨hk, vs, H1, J1, rv, ?_⟩)
    obtain ⟨m1, m2⟩ := mk_ok R1 r1 ok1.first
    refine ⟨m1, fun a ha => ?_⟩
    obtain ⟨d, g2, I2, rs2, E2, R2, r2, ok2⟩ := m2 a ha
    exact hr S h2 R2 (((er.after E1).after E2).set r2) ok2
  · exact Bool.noConfusion h
/-- a statement where a token is out -/
theorem s1_ok (S : XD N P B T cf k ns sc W X) {c : PC.S} {s : Stmt} (h : chT1 N.toNz ns sc c s = true) (R : Rel N L I rs g H) (er : ER N I rs env σ) (ok : OkF N L I rs H W D (exec T cf c env g)) : WTS X s D σ H := by
  unfold chT1 at h
  split at h
  · rename_i c e p
    have ok : OkF N L I rs H W D (((evM T cf c).v env g).bind fun d g1 => .ok (.rt d) g1) := ok
    intro pins st k J
    refine CwR.pst_ret pet pins st σ H D k J ?_
    exact wet_mono (tv N P B T cf _ ns c S.S h R er ok.first) fun v H3 ⟨d3, g3, I3, rs3, E3, R3, r3, ok3⟩ => ok3 I3 rs3 H3 v .refl R3 r3
  · rename_i is es x px y py k1 p1 e1 e2 k2 p2 p3
    have ok : OkF N L I rs H W D ((evs T cf es env g).bind fun ds g1 => if decide (ds.length = is.length) then .ok (.nx ((is.zip ds).foldl (fun e p => e.set p.1 (some p.2)) env)) g1 else .stk) := ok
    simp only [Bool.and_eq_true, Bool.not_eq_true'] at h
    obtain ⟨⟨h1, ⟨h2, h2'⟩, h2''⟩, ⟨h3, h3'⟩, h4⟩ := h
    unfold parB at h1
    split at h1
    · rename_i i j okk
      simp only [Bool.and_eq_true, beq_iff_eq, Bool.not_eq_true', beq_eq_false_iff_ne] at h1
      obtain ⟨⟨a1, a2⟩, a3, a4, a5⟩ := h1
      intro pins st k J
      have nd : X.N.Nodup := by rw [S.S.hN]; exact S.S.nd
      have kind : X.env.scope.kind = .function := J.ok.kind
      have hx : X.env.scope.names.lookup x = some .local := by rw [S.S.sc]; exact a4
      have hy : X.env.scope.names.lookup y = some .local := by rw [S.S.sc]; exact a5
      have hxy : x ≠ y := fun z => by
        subst z
        have n1 := S.S.nd
        obtain ⟨l1, g1⟩ := List.getElem?_eq_some_iff.mp a1
        obtain ⟨l2, g2⟩ := List.getElem?_eq_some_iff.mp a2
        exact a3 ((List.getElem_inj n1).mp (g1.trans g2.symm))
      have hw : swappedStores [.Tuple [.Name x px, .Name y py] k1 p1] (.Tuple [e1, e2] k2 p2) X.env = pure (some [x, y]) := by
        have hb : X.env.blockKind = .function := by
          unfold PySem.Env.blockKind
          rw [kind]; rfl
        have kx : X.env.kindOf x = some .local := hx
        have ky : X.env.kindOf y = some .local := hy
        have st1 : ∀ (f : Expr → Bool), (∀ e, nstB e = true → f e = false) → [e1, e2].any f = false := fun f hf => by simp [hf e1 h3, hf e2 h3']
        unfold swappedStores
        simp only [pure_bind]
        rw [if_neg (by simp [hb]), if_neg (by rw [st1 _ (fun e he => by cases e <;> first | rfl | cases he)]; exact Bool.false_ne_true)]
        have hl' : py.line = px.line := (eq_of_beq h2).symm
        rw [if_neg (by simp [kx, ky, hl', hxy, hxy.symm, Expr.pos, List.eraseDups, List.eraseDupsBy, List.eraseDupsBy.loop, show (y == x) = false from beq_eq_false_iff_ne.mpr hxy.symm])]
        rw [if_neg (by rw [h2']; exact Bool.false_ne_true), if_neg (by rw [h2'']; exact Bool.false_ne_true)]
        simp [kx, ky, hl', hxy, Expr.pos]
      refine pst_par S.S.F.hc nd (by rw [S.S.hN]; exact a1) (by rw [S.S.hN]; exact a2) a3 hx hy pat hw rfl pins st σ H D k J ?_
      refine wat_mono (ta N P B T cf _ ns es S.S h4 R er ok.first) fun vs H1 ⟨ds, g1, I1, rs1, E1, R1, r1, ok1⟩ => ?_
      split at ok1
      · rename_i hl
        have hl : ds.length = 2 := by simpa using hl
        cases ds with
        | nil => simp at hl
        | cons d0 ds =>
          cases ds with
          | nil => simp at hl
          | cons d1 ds =>
            cases ds with
            | cons _ _ => simp at hl
            | nil =>
              obtain ⟨w0, w1, rfl, q0, q1⟩ := v2 r1
              exact ⟨w0, w1, rfl, (show OkF N L I1 rs1 H1 W D (.ok (.nx ((env.set i (some d0)).set j (some d1))) g1) from ok1).nx' R1 (((er.after E1).set q0).set q1)⟩
      · exact ok1.elim
    · exact Bool.noConfusion h1
  · exact Bool.noConfusion h
theorem sst_nil : STsp N P B T cf k ns [] := by
  intro sc W X S ss' h env g σ L I rs H D R er ok
  have : ss' = [] := by simpa [chTSs] using h
  subst this
  exact fun pins s _ J => wss_of pss_nil ((show OkF N L I rs H W D (.ok (.nx env) g) from ok).nx' R er) pins s J
theorem sst_cons {c : PC.S} {cs : List PC.S} (hc : SSp N P B T cf k ns c) (hr : STsp N P B T cf k ns cs) : STsp N P B T cf k ns (c :: cs) := by
  intro sc W X S ss' h env g σ L I rs H D R er ok
  cases ss' with
  | nil => simp [chTSs] at h
  | cons s r =>
    simp only [chTSs, Bool.or_eq_true, Bool.and_eq_true] at h
    have ok : OkF N L I rs H W D ((exec T cf c env g).bind fun fl g1 => match fl with
      | .nx env1 => execs T cf cs env1 g1
      | fl => .ok fl g1) := ok
    have ok2 : OkF N L I rs H W { D with nx := WTSs X r D } (exec T cf c env g) := by
      revert ok
      cases exec T cf c env g with
      | stk => exact fun h => h
      | exc x gx => exact fun h => h
      | ok fl g1 =>
        intro ok
        cases fl with
        | nx env1 => exact fun I' rs' H' σ' E R' er' => hr S h.2 R' er' (OkF.after (r := execs T cf cs env1 g1) ok E)
        | rt d => exact ok
        | bk env1 => exact ok
        | ct env1 => exact ok
    intro pins st k J
    have w : wpAny (model X.prog X.w) X.A (PySem.exec s X.env) (SP X pins { D with nx := WTSs X r D }) X.xe st :=
      h.1.elim (fun h1 => hc S h1 R er ok2 pins st J) (fun h1 => s1_ok S h1 R er ok2 pins st k J)
    refine wpAny_execs_cons (thnk k w fun f s1 hk q => ?_)
    cases f with
    | next =>
      obtain ⟨σ', H', J', q⟩ := q
      exact q pins s1 hk J'
    | ret v => exact q
    | brk => exact q
    | cont => exact q
theorem sss_cons {c : S} {cs : List S} (hc : SSp N P B T cf k ns c) (hr : SSsp N P B T cf k ns cs) (hrT : STsp N P B T cf k ns cs) : SSsp N P B T cf k ns (c :: cs) := by
  intro sc W X S ss' h env g σ L I rs H D R er ok
  cases ss' with
  | nil => simp [chSs] at h
  | cons s r =>
    simp only [chSs, Bool.or_eq_true, Bool.and_eq_true] at h
    refine h.elim (fun h => ?_) (fun h => sg_ok S hrT h.1 h.2 R er ok)
    have ok : OkF N L I rs H W D ((exec T cf c env g).bind fun fl g1 => match fl with
      | .nx env1 => execs T cf cs env1 g1
      | fl => .ok fl g1) := ok
    refine wss_of (pss_cons ws wss) (hc S h.1 R er ?_)
    revert ok
    cases exec T cf c env g with
    | stk => exact fun h => h
    | exc x gx => exact fun h => h
    | ok fl g1 =>
      intro ok
      cases fl with
      | nx env1 => exact fun I' rs' H' σ' E R' er' => hr S h.2 R' er' (OkF.after (r := execs T cf cs env1 g1) ok E)
      | rt d => exact ok
      | bk env1 => exact ok
      | ct env1 => exact ok
/-- a statement that is not reached -/
theorem ss_nev : SSp N P B T cf k ns .nev := by
  intro sc W X S s h env g σ L I rs H D R er ok
  exact ok.elim
/-! ### attributes stored -/
theorem putF_v (inj : ∀ i j, N.nm i = N.nm j → i = j) {f : Nat} {y : PC.D} {u : V} (hy : VR N I rs y u) : ∀ {ns : List Nat} {ds : List PC.D} {fs : List (Str × V)}, fs.map (·.1) = ns.map N.nm → VRs N I rs ds (fs.map (·.2)) →
    (putF (N.nm f) u fs).map (·.1) = (putFn ns f).map N.nm ∧ VRs N I rs (putFv ns ds f y) ((putF (N.nm f) u fs).map (·.2))
  | [], ds, [], _, r => by
    cases r
    exact ⟨rfl, .one hy⟩
  | [], _, _ :: _, e, _ => by simp at e
  | _ :: _, _, [], e, _ => by simp at e
  | n :: ns, ds, (q, w) :: fs, e, r => by
    simp only [List.map_cons, List.cons.injEq] at e
    obtain ⟨e1, e2⟩ := e
    have e1 : q = N.nm n := e1
    subst e1
    simp only [List.map_cons] at r
    cases r with
    | cons r1 r2 =>
      by_cases hn : n = f
      · subst hn
        simp only [putF, putFn, putFv, if_true, List.map_cons]
        exact ⟨by rw [e2], .cons hy r2⟩
      · have hn' : ¬ N.nm n = N.nm f := fun z => hn (inj _ _ z)
        obtain ⟨h1, h2⟩ := putF_v inj hy e2 r2
        simp only [putF, putFn, putFv, if_neg hn, if_neg hn', List.map_cons]
        exact ⟨by rw [h1], .cons r1 h2⟩
theorem setF_ok (fa : PFa N T) {f : Nat} {o y : PC.D} {uo uy : V} {g2 : G} (R : Rel N L I rs g H) (ho : VR N I rs o uo) (hy : VR N I rs y uy) (h : setFD T g f o y = some g2) :
    ∃ a C dx fs H', uo = .ref a ∧ H a = some (.ins C dx fs) ∧ Cls N.K C ∧ NoAttr N.K C (N.nm f) ∧ fs.length < 1000 ∧ H' = upd H a (.ins C dx (putF (N.nm f) uy fs)) ∧ Ext I rs H I rs H' ∧ Rel N L I rs g2 H' := by
  unfold setFD at h
  split at h
  · rename_i i
    cases ho with
    | @ref _ a ha =>
      split at h
      · rename_i c ns ds hg
        split at h
        · rename_i hl
          cases h
          simp only [Bool.and_eq_true, decide_eq_true_eq] at hl
          obtain ⟨hL, hI, dx, fs, h1, h2, h3⟩ := R.cell _ _ _ ha hg
          obtain ⟨p1, p2⟩ := putF_v fa.nmi hy h2 h3
          obtain ⟨c1, c2⟩ := fa.fl _ _ hl.1
          have el : fs.length = ns.length := by simpa using congrArg List.length h2
          obtain ⟨R', E'⟩ := R.put (o := .ins (N.ca c) dx (putF (N.nm f) uy fs)) (c := .ins c (putFn ns f) (putFv ns ds f y)) ha hL hI fun H' e => ⟨hL, hI, dx, _, e, p1, p2⟩
          exact ⟨a, _, dx, fs, _, rfl, h1, c1, c2, by omega, rfl, E', R'⟩
        · cases h
      · cases h
  · cases h
theorem ss_setF {f : Nat} {o c : E} : SSp N P B T cf k ns (.setF f o c) := by
  intro sc W X S s h env g σ L I rs H D R er ok
  have ok : OkF N L I rs H W D (((evM T cf c).v env g).bind fun y g1 => ((evM T cf o).v env g1).bind fun x g2 => match setFD T g2 f x y with | some g3 => .ok (.nx env) g3 | none => .stk) := ok
  simp only [chS] at h
  split at h
  · rename_i o' x px e p2
    simp only [Bool.and_eq_true, beq_iff_eq] at h
    obtain ⟨⟨h1, rfl⟩, h3, h4⟩ := h
    refine ws_of (ps_fld we we (sw_no h1)) (ev_go S h3 R er ok fun v1 H1 d1 g1 I1 rs1 R1 er1 e1 r1 ok1 => ev_go S h4 R1 er1 ok1 fun v2 H2 d2 g2 I2 rs2 R2 er2 e2 r2 ok2 => ?_)
    cases hs : setFD T g2 f d2 d1 with
    | none => rw [hs] at ok2; exact ok2.elim
    | some g3 =>
      rw [hs] at ok2
      obtain ⟨a, C, dx, fs, H', rfl, q1, q2, q3, q4, rfl, E', R'⟩ := setF_ok S.S.fa R2 r2 (e2.vr r1) hs
      rw [← S.S.F.hK] at q2 q3
      exact ⟨a, C, dx, fs, rfl, q1, q2, q3, q4, ok2 _ _ _ σ E' R' (er2.after E')⟩
  · exact Bool.noConfusion h
/-- o.f = .., a target -/
theorem pg_attr {o : Expr} {x : Str} {p : Pos} {to : TE} (ho : PE X o to) : PG X (.Attribute o x p) (fun v σ H Q => to σ H fun y H1 => ∃ a C dx fs, y = .ref a ∧ H1 a = some (.ins C dx fs) ∧ Cls X.K C ∧ NoAttr X.K C x ∧ fs.length < 1000 ∧ Q σ (upd H1 a (.ins C dx (putF x v fs)))) := by
  refine ⟨fun pins s σ H v u Q I r h => ?_⟩
  rw [arm_assign_Attribute]
  refine wpAny_bind (wpAny_holding (thn (ho.run pins s σ H _ I h) fun ov s1 ⟨y, H1, I1, r1, a, C, dx, fs, ey, q1, q2, q3, q4, q⟩ => ?_))
  subst ey
  cases r1
  refine wpAny_bind (wpAny_standAt (wpAny_bind (wpAny_holding (setattr_ok I1 q1 q2 q3 q4 r fun s2 I2 => ?_))))
  exact wpAny_release ⟨σ, _, I2, q⟩
theorem wgs_of {X : Cx} {es : List Expr} {t : TGs} (h : PGs X es t) {vs : List V} {σ : L2.St} {H : Hp} {Q : L2.St → Hp → Prop} (q : t vs σ H Q) : ∀ (pins : List (Addr × Obj)) (s : Shared) (us : List Value), Inv X pins σ H s → Vals vs us → wpAny (model X.prog X.w) X.A (assignInOrder ((assignEach es X.env).map (·.2)) us) (fun _ s' => ∃ σ' H', Inv X pins σ' H' s' ∧ Q σ' H') X.xe s := fun pins s us I r => h.run pins s σ H vs us Q I r q
theorem ats_ok (S : XD N P B T cf k ns sc W X) {i : Nat} {x : PC.D} : ∀ {fs : List Nat} {es : List Expr} {ds : List PC.D} {vs : List V} {I : Hp} {rs : List Addr} {H : Hp} {g g2 : G} {env : Env} {σ : L2.St}, atsB N.toNz ns sc i fs es = true → Rel N L I rs g H → ER N I rs env σ → env[i]? = some (some x) → VRs N I rs ds vs → setAD T g x fs ds = some g2 → ds.length = fs.length →
    ∃ t : TGs, PGs X es t ∧ (assignEach es X.env).length = fs.length ∧ (assignEach es X.env).findIdx? (·.1) = none ∧ ∀ {Q : L2.St → Hp → Prop}, (∀ H', Ext I rs H I rs H' → Rel N L I rs g2 H' → Q σ H') → t vs σ H Q
  | [], es, ds, vs, I, rs, H, g, g2, env, σ, h, R, er, hx, hv, hs, hl => by
    cases es with
    | cons _ _ => simp [atsB] at h
    | nil =>
      cases ds with
      | cons _ _ => simp at hl
      | nil =>
        cases hv
        cases hs
        exact ⟨gNil, pgs_nil, rfl, rfl, fun q => ⟨rfl, q H .refl R⟩⟩
  | f :: fs, es, ds, vs, I, rs, H, g, g2, env, σ, h, R, er, hx, hv, hs, hl => by
    cases es with
    | nil => simp [atsB] at h
    | cons e es =>
      cases e with
      | Attribute o y py =>
        cases o with
        | Name z pz =>
          simp only [atsB, Bool.and_eq_true, beq_iff_eq] at h
          obtain ⟨⟨h1, h2, rfl⟩, h4⟩ := h
          cases ds with
          | nil => simp at hl
          | cons d ds =>
            cases hv with
            | @cons _ v _ vs r1 r2 =>
              have hs : (setFD T g f x d).bind (fun g1 => setAD T g1 x fs ds) = some g2 := hs
              cases hf : setFD T g f x d with
              | none => rw [hf] at hs; cases hs
              | some g1 =>
                rw [hf] at hs
                obtain ⟨v0, q1, q2⟩ := er.2 _ _ hx
                obtain ⟨a, C, dx, fs', H', rfl, p1, p2, p3, p4, rfl, E', R'⟩ := setF_ok S.S.fa R q2 r1 hf
                obtain ⟨t, t1, t2, t3, t4⟩ := ats_ok S h4 R' (er.after E') hx (E'.vrs r2) hs (by simpa using hl)
                rw [← S.S.F.hK] at p2 p3
                obtain ⟨b1, b2, b3⟩ := vis_of h2
                have pv' : PE X (.Name z pz) (tVar i) := pe_var (by rw [S.S.hN]; exact h1) (by rw [S.S.sc]; exact b1) b2 b3
                refine ⟨gCons _ t, pgs_cons (pg_attr pv') t1, by show (assignEach es X.env).length + 1 = _; rw [t2]; rfl, ?_, fun {Q} q => ⟨v, vs, rfl, ⟨.ref a, q1, a, C, dx, fs', rfl, p1, p2, p3, p4, t4 fun H'' E'' R'' => q H'' (E'.trans E'') R''⟩⟩⟩
                show List.findIdx? (·.1) ((false, assign (.Attribute (.Name z pz) (N.nm f) py) X.env) :: assignEach es X.env) = none
                rw [List.findIdx?_cons]
                simp only [Bool.false_eq_true, if_false]
                rw [t3]; rfl
        | _ => simp [atsB] at h
      | _ => simp [atsB] at h
theorem ss_unpA {i : Nat} {fs : List Nat} {c : E} : SSp N P B T cf k ns (.unpA i fs c) := by
  intro sc W X S s h env g σ L I rs H D R er ok
  have ok : OkF N L I rs H W D (((evM T cf c).v env g).bind fun d g1 => match env[i]?, d with
    | some (some x), .tup ds => if decide (ds.length = fs.length) then (match setAD T g1 x fs ds with
      | some g2 => .ok (.nx env) g2
      | none => .stk) else .stk
    | _, _ => .stk) := ok
  simp only [chS] at h
  split at h
  · rename_i es kk p e p2
    simp only [Bool.and_eq_true] at h
    obtain ⟨⟨h1, h2⟩, h3, h4⟩ := h
    refine ws_of (ps_asg we wg (sws_no h1) (ss_tup2 h2) rfl) (ev_go S h4 R er ok fun v1 H1 d1 g1 I1 rs1 R1 er1 e1 r1 ok1 => ?_)
    split at ok1
    · rename_i x ds hx
      split at ok1
      · rename_i hl
        have hl : ds.length = fs.length := by simpa using hl
        cases hs : setAD T g1 x fs ds with
        | none => rw [hs] at ok1; exact ok1.elim
        | some g2 =>
          rw [hs] at ok1
          cases r1 with
          | @tup a vs _ q1 q2 =>
            obtain ⟨t, t1, t2, t3, t4⟩ := ats_ok S h3 R1 er1 hx q2 hs hl
            have el := q2.length
            have q1 := same_t R1.sub q1
            rw [← S.S.F.hK] at q1
            exact wg_of (pg_tup S.S.F.hc t1 t2 t3) ⟨a, vs, rfl, q1, by omega, t4 fun H' E' R' => ok1 _ _ _ _ E' R' (er1.after E')⟩
      · exact ok1.elim
    · exact ok1.elim
  · exact Bool.noConfusion h
/-! ### two names at once -/
theorem ss_par {is : List Nat} {es : List E} : SSp N P B T cf k ns (.par is es) := by
  intro sc W X S s h env g σ L I rs H D R er ok
  have ok : OkF N L I rs H W D ((evs T cf es env g).bind fun ds g1 => if decide (ds.length = is.length) then .ok (.nx ((is.zip ds).foldl (fun e p => e.set p.1 (some p.2)) env)) g1 else .stk) := ok
  simp only [chS] at h
  split at h
  · rename_i x px y py k1 p1 e1 e2 k2 p2 p3
    simp only [Bool.and_eq_true, Bool.not_eq_true'] at h
    obtain ⟨⟨h1, ⟨h2, h2'⟩, h2''⟩, ⟨h3, h3'⟩, h4⟩ := h
    unfold parB at h1
    split at h1
    · rename_i i j okk
      simp only [Bool.and_eq_true, beq_iff_eq, Bool.not_eq_true', beq_eq_false_iff_ne] at h1
      obtain ⟨⟨a1, a2⟩, a3, a4, a5⟩ := h1
      intro pins st J
      have nd : X.N.Nodup := by rw [S.S.hN]; exact S.S.nd
      have kind : X.env.scope.kind = .function := J.ok.kind
      have hx : X.env.scope.names.lookup x = some .local := by rw [S.S.sc]; exact a4
      have hy : X.env.scope.names.lookup y = some .local := by rw [S.S.sc]; exact a5
      have hxy : x ≠ y := fun z => by
        subst z
        have n1 := S.S.nd
        obtain ⟨l1, g1⟩ := List.getElem?_eq_some_iff.mp a1
        obtain ⟨l2, g2⟩ := List.getElem?_eq_some_iff.mp a2
        exact a3 ((List.getElem_inj n1).mp (g1.trans g2.symm))
      have hw : swappedStores [.Tuple [.Name x px, .Name y py] k1 p1] (.Tuple [e1, e2] k2 p2) X.env = pure (some [x, y]) := by
        have hb : X.env.blockKind = .function := by
          unfold PySem.Env.blockKind
          rw [kind]; rfl
        have kx : X.env.kindOf x = some .local := hx
        have ky : X.env.kindOf y = some .local := hy
        have hl : (py.line == px.line) = true := by rw [eq_of_beq h2]; exact beq_self_eq_true _
        have st1 : ∀ (f : Expr → Bool), (∀ e, nstB e = true → f e = false) → [e1, e2].any f = false := fun f hf => by simp [hf e1 h3, hf e2 h3']
        unfold swappedStores
        simp only [pure_bind]
        rw [if_neg (by simp [hb]), if_neg (by rw [st1 _ (fun e he => by cases e <;> first | rfl | cases he)]; exact Bool.false_ne_true)]
        have hl' : py.line = px.line := (eq_of_beq h2).symm
        rw [if_neg (by simp [kx, ky, hl', hxy, hxy.symm, Expr.pos, List.eraseDups, List.eraseDupsBy, List.eraseDupsBy.loop, show (y == x) = false from beq_eq_false_iff_ne.mpr hxy.symm])]
        rw [if_neg (by rw [h2']; exact Bool.false_ne_true), if_neg (by rw [h2'']; exact Bool.false_ne_true)]
        simp [kx, ky, hl', hxy, Expr.pos]
      refine ws_of (ps_par S.S.F.hc nd (by rw [S.S.hN]; exact a1) (by rw [S.S.hN]; exact a2) a3 hx hy wa hw) (wa_mono ((sa N P B T cf k ns es S.S).1 h4 R er ok.first) fun vs H1 ⟨ds, g1, I1, rs1, E1, R1, r1, ok1⟩ => ?_) pins st J
      split at ok1
      · rename_i hl
        have hl : ds.length = 2 := by simpa using hl
        cases ds with
        | nil => simp at hl
        | cons d0 ds =>
          cases ds with
          | nil => simp at hl
          | cons d1 ds =>
            cases ds with
            | cons _ _ => simp at hl
            | nil =>
              obtain ⟨w0, w1, rfl, q0, q1⟩ := v2 r1
              exact ⟨w0, w1, rfl, (show OkF N L I1 rs1 H1 W D (.ok (.nx ((env.set i (some d0)).set j (some d1))) g1) from ok1).nx' R1 (((er.after E1).set q0).set q1)⟩
      · exact ok1.elim
    · exact Bool.noConfusion h1
  · rename_i x px y py w pw k1 p1 e1 e2 e3 k2 p2 p3
    simp only [Bool.and_eq_true, Bool.not_eq_true'] at h
    obtain ⟨⟨h1, ⟨⟨h2, h2x⟩, h2'⟩, h2''⟩, ⟨h3, h3', h3''⟩, h4⟩ := h
    unfold par3B at h1
    split at h1
    · rename_i i j l okk
      simp only [Bool.and_eq_true, beq_iff_eq, Bool.not_eq_true', beq_eq_false_iff_ne] at h1
      obtain ⟨⟨a1, a2, a2x⟩, ⟨a3, a3', a3''⟩, a4, a5, a6⟩ := h1
      intro pins st J
      have nd : X.N.Nodup := by rw [S.S.hN]; exact S.S.nd
      have kind : X.env.scope.kind = .function := J.ok.kind
      have hx : X.env.scope.names.lookup x = some .local := by rw [S.S.sc]; exact a4
      have hy : X.env.scope.names.lookup y = some .local := by rw [S.S.sc]; exact a5
      have hz : X.env.scope.names.lookup w = some .local := by rw [S.S.sc]; exact a6
      have ne_ : ∀ {i j : Nat} {x y : Str}, ns[i]? = some x → ns[j]? = some y → i ≠ j → x ≠ y := fun a1 a2 a3 z => by
        subst z
        have n1 := S.S.nd
        obtain ⟨l1, g1⟩ := List.getElem?_eq_some_iff.mp a1
        obtain ⟨l2, g2⟩ := List.getElem?_eq_some_iff.mp a2
        exact a3 ((List.getElem_inj n1).mp (g1.trans g2.symm))
      have hxy : x ≠ y := ne_ a1 a2 a3
      have hxw : x ≠ w := ne_ a1 a2x a3'
      have hyw : y ≠ w := ne_ a2 a2x a3''
      have hw : swappedStores [.Tuple [.Name x px, .Name y py, .Name w pw] k1 p1] (.Tuple [e1, e2, e3] k2 p2) X.env = pure (some [x, y, w]) := by
        have hb : X.env.blockKind = .function := by
          unfold PySem.Env.blockKind
          rw [kind]; rfl
        have kx : X.env.kindOf x = some .local := hx
        have ky : X.env.kindOf y = some .local := hy
        have kw : X.env.kindOf w = some .local := hz
        have st1 : ∀ (f : Expr → Bool), (∀ e, nstB e = true → f e = false) → [e1, e2, e3].any f = false := fun f hf => by simp [hf e1 h3, hf e2 h3', hf e3 h3'']
        unfold swappedStores
        simp only [pure_bind]
        rw [if_neg (by simp [hb]), if_neg (by rw [st1 _ (fun e he => by cases e <;> first | rfl | cases he)]; exact Bool.false_ne_true)]
        have hl' : py.line = px.line := (eq_of_beq h2).symm
        have hl2 : pw.line = px.line := (eq_of_beq h2x).symm
        rw [if_neg (by simp [kx, ky, kw, hl', hl2, hxy, hxy.symm, Expr.pos, List.eraseDups, List.eraseDupsBy, List.eraseDupsBy.loop, show (y == x) = false from beq_eq_false_iff_ne.mpr hxy.symm, show (w == x) = false from beq_eq_false_iff_ne.mpr hxw.symm, show (w == y) = false from beq_eq_false_iff_ne.mpr hyw.symm])]
        rw [if_neg (by rw [h2']; exact Bool.false_ne_true), if_neg (by rw [h2'']; exact Bool.false_ne_true)]
        simp [kx, ky, kw, hl', hl2, hxy, Expr.pos]
      refine ws_of (ps_par3 S.S.F.hc nd (by rw [S.S.hN]; exact a1) (by rw [S.S.hN]; exact a2) (by rw [S.S.hN]; exact a2x) a3 a3' a3'' hx hy hz wa hw) (wa_mono ((sa N P B T cf k ns es S.S).1 h4 R er ok.first) fun vs H1 ⟨ds, g1, I1, rs1, E1, R1, r1, ok1⟩ => ?_) pins st J
      split at ok1
      · rename_i hl
        have hl : ds.length = 3 := by simpa using hl
        obtain ⟨d0, d1, d2, rfl⟩ : ∃ d0 d1 d2, ds = [d0, d1, d2] := by
          match ds, hl with
          | [a, b, c], _ => exact ⟨a, b, c, rfl⟩
        obtain ⟨w0, vs, rfl, q0, r1⟩ : ∃ w0 ws, vs = w0 :: ws ∧ VR N I1 rs1 d0 w0 ∧ VRs N I1 rs1 [d1, d2] ws := by
          cases r1 with
          | cons a b => exact ⟨_, _, rfl, a, b⟩
        obtain ⟨w1, w2, rfl, q1, q2⟩ := v2 r1
        exact ⟨w0, w1, w2, rfl, (show OkF N L I1 rs1 H1 W D (.ok (.nx (((env.set i (some d0)).set j (some d1)).set l (some d2))) g1) from ok1).nx' R1 ((((er.after E1).set q0).set q1).set q2)⟩
      · exact ok1.elim
    · exact Bool.noConfusion h1
  · exact Bool.noConfusion h
/-- o.f += .. -/
theorem ss_augF {f : Nat} {o c : E} {p : Bop} : SSp N P B T cf k ns (.augF f o p c) := by
  intro sc W X S s h env g σ L I rs H D R er ok
  have ok : OkF N L I rs H W D (((evM T cf o).v env g).bind fun x g1 => match fldT T g1 f x with
    | some y => ((evM T cf c).v env g1).bind fun z g2 => if decide (clsD g2 x = clsD g1 x) then (match augD g2 p y z with
      | some u => (match setFD T g2 f x u with
        | some g3 => .ok (.nx env) g3
        | none => .stk)
      | none => .stk) else .stk
    | none => .stk) := ok
  simp only [chS] at h
  split at h
  · rename_i o' x px q e p2
    simp only [Bool.and_eq_true, beq_iff_eq] at h
    obtain ⟨⟨rfl, h2⟩, h3, h4⟩ := h
    have go : ∀ (rd : V → V → Hp → VK → Prop), InOp X q rd → (∀ {g1 : G} {I1 : Hp} {rs1 : List Addr} {H1 : Hp} {d0 d1 : PC.D} {v0 v1 : V} {z : PC.D} {Q : VK}, Rel N L I1 rs1 g1 H1 → VR N I1 rs1 d0 v0 → VR N I1 rs1 d1 v1 → augD g1 p d0 d1 = some z → (∀ v, VR N I1 rs1 z v → Q v H1) → rd v0 v1 H1 Q) → WS X (.AugAssign (.Attribute o' (N.nm f) px) q e p2) D σ H := by
      intro rd hop ht
      refine ws_of (ps_fldaug we we hop) (ev_go S h4 R er ok fun v1 H1 d1 g1 I1 rs1 R1 er1 e1 r1 ok1 => ?_)
      unfold fldT at ok1
      cases hc : clsD g1 d1 with
      | none => rw [hc] at ok1; exact ok1.elim
      | some cc =>
        rw [hc] at ok1
        simp only at ok1
        by_cases hfl : T.fl cc f = true
        · rw [if_pos hfl] at ok1
          cases hd : fldD g1 f d1 with
          | none => rw [hd] at ok1; exact ok1.elim
          | some y =>
            rw [hd] at ok1
            simp only at ok1
            obtain ⟨a, dx, fs, ns', ds, rfl, q1, q2, q3, q4, q5⟩ := ins_cases R1 hc r1
            rw [q4] at hd
            obtain ⟨w, hw, rw_⟩ := lookF_v S.S.fa.nmi q2 q3 hd
            obtain ⟨c1, c2⟩ := S.S.fa.fl _ _ hfl
            have c1' := c1
            have c2' := c2
            rw [← S.S.F.hK] at c1' c2'
            refine ⟨a, _, dx, fs, w, rfl, q1, c1', c2', hw, ev_go S h3 R1 er1 ok1 fun v2 H2 d2 g2 I2 rs2 R2 er2 e2 r2 ok2 => ?_⟩
            by_cases hcc : clsD g2 d1 = some cc
            · rw [if_pos (decide_eq_true hcc)] at ok2
              cases ha : augD g2 p y d2 with
              | none => rw [ha] at ok2; exact ok2.elim
              | some z =>
                rw [ha] at ok2
                simp only at ok2
                refine ht R2 (e2.vr rw_) r2 ha fun vz hz => ?_
                cases hs : setFD T g2 f d1 z with
                | none => rw [hs] at ok2; exact ok2.elim
                | some g3 =>
                  rw [hs] at ok2
                  obtain ⟨a', C', dx', fs', H', ea, w1, w2, w3, w4, rfl, E', R'⟩ := setF_ok S.S.fa R2 (e2.vr r1) hz hs
                  cases ea
                  obtain ⟨b, dy, gs, _, _, eb, hb, _⟩ := ins_cases R2 hcc (e2.vr r1)
                  cases eb
                  rw [w1] at hb
                  cases hb
                  exact ⟨dx', fs', w1, w4, ok2 _ _ _ σ E' R' (er2.after E')⟩
            · rw [if_neg (by simpa using hcc)] at ok2
              exact ok2.elim
        · rw [if_neg hfl] at ok1
          exact ok1.elim
    unfold augB at h2
    split at h2
    · refine go _ in_add fun {g1 I1 rs1 H1 d0 d1 v0 v1 z Q} R1 r0 r1 ha q => ?_
      cases d0 <;> cases d1 <;> simp only [augD] at ha <;> cases ha
      cases r0; cases r1
      exact ⟨_, _, rfl, rfl, q _ (.int _)⟩
    · refine go _ in_sub fun {g1 I1 rs1 H1 d0 d1 v0 v1 z Q} R1 r0 r1 ha q => ?_
      cases d0 <;> cases d1 <;> simp only [augD] at ha <;> cases ha
      cases r0; cases r1
      exact ⟨_, _, rfl, rfl, q _ (.int _)⟩
    · exact Bool.noConfusion h2
  · exact Bool.noConfusion h
/-- an instance's own def, its receiver -/
theorem met_at {x : PC.D} {v : V} {m f : Nat} (fa : PFa N T) (R : Rel N L I rs g H) (hx : VR N I rs x v) (h : metF T g m x = some f) : ∃ a c dx fs, v = .ref a ∧ H a = some (.ins (N.ca c) dx fs) ∧ metD g m x = some c ∧ clsD g x = some c ∧ Meth N.K (N.ca c) (N.nm m) (N.fa f) := by
  unfold metF at h
  cases hd : metD g m x with
  | none => rw [hd] at h; cases h
  | some c =>
    rw [hd] at h
    have h : T.mt c m = some f := h
    obtain ⟨a, dx, fs, _, _, rfl, h7, _⟩ := ins_cases R (cls_met hd) hx
    exact ⟨a, c, dx, fs, rfl, h7, rfl, cls_met hd, (fa.mt c m f h).2⟩
theorem XS.nox (S : XS N P B T cf k ns sc sc W X) : XS N P B T cf k ns sc sc (fun _ _ _ => False) X.nox := by
  refine ⟨⟨S.F.hK, S.F.hw, S.F.hV, S.F.hc, S.F.hg⟩, S.prog, S.mg, S.base, S.hN, S.nd, S.sc, S.hf, S.room, S.pr, ?_, S.fa, S.xf⟩
  intro pins σ H s e s' J c
  obtain ⟨_, _, _, _, _, _, _, _, _, _, _, _, z⟩ := c
  exact z.elim
theorem XD.nox (S : XD N P B T cf k ns sc W X) : XD N P B T cf k ns sc (fun _ _ _ => False) X.nox := ⟨S.S.nox, PassesOwn.never, fun u s x => by
  obtain ⟨_, _, _, _, _, _, _, _, _, _, _, _, _, _, _, _, z⟩ := x
  exact z.elim, S.hs, S.hfr, S.hex⟩
/-- with o as x: .. -/
theorem ss_with {i : Nat} {c : E} {en ex : Nat} {b : List PC.S} (hb : SSsp N P B T cf k ns b) : SSp N P B T cf k ns (.with_ i c en ex b) := by
  intro sc W X S s h env g σ L I rs H D R er ok
  have ok : OkF N L I rs H W D (((evM T cf c).v env g).bind fun x g1 => match metF T g1 en x, metF T g1 ex x with
    | some f, some f2 => (cf f [x] g1).bind fun v g2 => noxR (execs T cf b (env.set i (some v)) g2) (outR cf f2 x)
    | _, _ => .stk) := ok
  simp only [chS] at h
  split at h
  · rename_i ctx y py b' p
    simp only [Bool.and_eq_true, beq_iff_eq] at h
    obtain ⟨⟨h1, h2, h2'⟩, h3, h4⟩ := h
    obtain ⟨b1, b2, b3⟩ := nm_of S.S h1
    have nd : X.N.Nodup := by rw [S.S.hN]; exact S.S.nd
    refine fun pins st J => PySem.W.kw_execN (thn (ev_go S h3 R er ok (Q := fun v1 H1 => ∃ x g1 I1 rs1 f f2, Rel N L I1 rs1 g1 H1 ∧ ER N I1 rs1 env σ ∧ VR N I1 rs1 x v1 ∧ metF T g1 en x = some f ∧ metF T g1 ex x = some f2 ∧
      OkF N L I1 rs1 H1 W D ((cf f [x] g1).bind fun v g2 => noxR (execs T cf b (env.set i (some v)) g2) (outR cf f2 x))) (fun v1 H1 d1 g1 I1 rs1 R1 er1 e1 r1 ok1 => ?_) pins st J) fun u s1 ⟨v1, H1, J1, ru, x, g1, I1, rs1, f, f2, R1, er1, r1, hm, hm2, ok1⟩ => ?_)
    · cases hm : metF T g1 en d1 with
      | none => rw [hm] at ok1; exact ok1.elim
      | some f =>
        cases hm2 : metF T g1 ex d1 with
        | none => rw [hm, hm2] at ok1; exact ok1.elim
        | some f2 =>
          rw [hm, hm2] at ok1
          exact ⟨d1, g1, I1, rs1, f, f2, R1, er1, r1, hm, hm2, ok1⟩
    · obtain ⟨a, c1, dx, fs, rfl, q1, _, w1, M1⟩ := met_at S.S.fa R1 r1 hm
      obtain ⟨a', c2, dx', fs', ea, q2, _, w2, M2⟩ := met_at S.S.fa R1 r1 hm2
      cases ea
      rw [w1] at w2
      cases w2
      rw [h2] at M1
      rw [h2'] at M2
      rw [← S.S.F.hK] at M1 M2
      obtain rfl : u = Value.ref a := ru
      obtain ⟨mA, M, _⟩ := ins_get J1.hok q1
      obtain ⟨od, J2, _⟩ := M.look
      refine PySem.W.kw_core (b := assign (.Name y py) X.env) J1.kIn J2 M1.at_ M1.fn M2.at_ M2.fn ?_
      refine wpAny_mono (S.S.rc R1 (.one r1) (Q := fun v2 H2 => ∃ d2 g2 I2 rs2, Ext I1 rs1 H1 I2 rs2 H2 ∧ Rel N L I2 rs2 g2 H2 ∧ VR N I2 rs2 d2 v2 ∧ OkF N L I2 rs2 H2 W D (noxR (execs T cf b (env.set i (some d2)) g2) (outR cf f2 x))) ok1.first pins s1 σ [.ref a] J1 (.cons rfl .nil)) (fun u2 s2 ⟨v2, H2, J3, r2, d2, g2, I2, rs2, E2, R2, rv2, ok2⟩ => ?_) fun _ _ z => z
      have J4 : Inv X.nox pins σ H2 s2 := J3.wish _
      refine wpAny_assign_Name (store_ok (X := X.nox) (v := v2) J4 nd b1 b2 r2 (fun s3 J5 => ?_) b3)
      refine wpAny_mono (hb S.nox h4 (D := { nx := fun σ3 H3 => RC X (.ref (N.fa f2)) [.ref a, .non, .non, .non] H3 fun _ H4 => D.nx σ3 H4, ct := fun σ3 H3 => RC X (.ref (N.fa f2)) [.ref a, .non, .non, .non] H3 fun _ H4 => D.ct σ3 H4, bk := fun σ3 H3 => RC X (.ref (N.fa f2)) [.ref a, .non, .non, .non] H3 fun _ H4 => D.bk σ3 H4, rt := fun v3 H3 => RC X (.ref (N.fa f2)) [.ref a, .non, .non, .non] H3 fun _ H4 => D.rt v3 H4 }) R2 ((er1.after E2).set rv2) ?_ pins s3 J5) (fun fl s4 hs => ?_) (fun _ _ z => False.elim z)
      · revert ok2
        cases execs T cf b (env.set i (some d2)) g2 with
        | stk => exact fun z => z
        | exc e ge => exact fun z => z.elim
        | ok fl g3 =>
          intro ok2
          have ok2 : OkF N L I2 rs2 H2 W D ((cf f2 [x, .non, .non, .non] g3).bind fun _ g4 => .ok fl g4) := ok2
          have r4 : ∀ {I' : Hp} {rs' : List Addr} {H' : Hp}, Ext I2 rs2 H2 I' rs' H' → VRs N I' rs' [x, .non, .non, .non] [.ref a, .non, .non, .non] := fun E' => .cons ((E2.trans E').vr r1) (.cons .non (.cons .non (.one .non)))
          cases fl with
          | nx env1 =>
            intro I' rs' H' σ' E' R' er'
            refine S.S.rc R' (r4 E') ?_
            have ok3 := OkF.after ok2 E'
            revert ok3
            cases cf f2 [x, .non, .non, .non] g3 with
            | stk => exact fun z => z
            | exc e ge => exact fun z => z
            | ok d g4 => exact fun ok3 I4 rs4 H4 v4 E4 R4 _ => ok3 I4 rs4 H4 σ' E4 R4 (er'.after E4)
          | ct env1 =>
            intro I' rs' H' σ' E' R' er'
            refine S.S.rc R' (r4 E') ?_
            have ok3 := OkF.after ok2 E'
            revert ok3
            cases cf f2 [x, .non, .non, .non] g3 with
            | stk => exact fun z => z
            | exc e ge => exact fun z => z
            | ok d g4 => exact fun ok3 I4 rs4 H4 v4 E4 R4 _ => ok3 I4 rs4 H4 σ' E4 R4 (er'.after E4)
          | bk env1 =>
            intro I' rs' H' σ' E' R' er'
            refine S.S.rc R' (r4 E') ?_
            have ok3 := OkF.after ok2 E'
            revert ok3
            cases cf f2 [x, .non, .non, .non] g3 with
            | stk => exact fun z => z
            | exc e ge => exact fun z => z
            | ok d g4 => exact fun ok3 I4 rs4 H4 v4 E4 R4 _ => ok3 I4 rs4 H4 σ' E4 R4 (er'.after E4)
          | rt d =>
            intro I' rs' H' v3 E' R' r3
            refine S.S.rc R' (r4 E') ?_
            have ok3 := OkF.after ok2 E'
            revert ok3
            cases cf f2 [x, .non, .non, .non] g3 with
            | stk => exact fun z => z
            | exc e ge => exact fun z => z
            | ok d g4 => exact fun ok3 I4 rs4 H4 v4 E4 R4 _ => ok3 I4 rs4 H4 v3 E4 R4 (E4.vr r3)
      · cases fl with
        | next =>
          obtain ⟨σ3, H3, J6, q⟩ := hs
          exact wpAny_mono (q pins s4 σ3 [.ref a, .none, .none, .none] J6.unwish (.cons rfl (.cons rfl (.cons rfl (.cons rfl .nil))))) (fun _ s5 ⟨v5, H5, J7, _, q5⟩ => ⟨σ3, H5, J7, q5⟩) fun _ _ z => z
        | brk =>
          obtain ⟨σ3, H3, J6, q⟩ := hs
          exact wpAny_mono (q pins s4 σ3 [.ref a, .none, .none, .none] J6.unwish (.cons rfl (.cons rfl (.cons rfl (.cons rfl .nil))))) (fun _ s5 ⟨v5, H5, J7, _, q5⟩ => ⟨σ3, H5, J7, q5⟩) fun _ _ z => z
        | cont =>
          obtain ⟨σ3, H3, J6, q⟩ := hs
          exact wpAny_mono (q pins s4 σ3 [.ref a, .none, .none, .none] J6.unwish (.cons rfl (.cons rfl (.cons rfl (.cons rfl .nil))))) (fun _ s5 ⟨v5, H5, J7, _, q5⟩ => ⟨σ3, H5, J7, q5⟩) fun _ _ z => z
        | ret u3 =>
          obtain ⟨v3, σ3, H3, J6, r3, q⟩ := hs
          exact wpAny_mono (q pins s4 σ3 [.ref a, .none, .none, .none] J6.unwish (.cons rfl (.cons rfl (.cons rfl (.cons rfl .nil))))) (fun _ s5 ⟨v5, H5, J7, _, q5⟩ => ⟨v3, σ3, H5, J7, r3, q5⟩) fun _ _ z => z
  · exact Bool.noConfusion h
/-! ### match -/
theorem lit_ok (S : XD N P B T cf k ns sc W X) {q x : List Nat} {p : PySem.Pattern} (h : litB q p = true) (R : Rel N L I rs g H) {t : Tok} {pins : List (Addr × Obj)} {s : Shared} (J : Inv X pins σ H s) :
    wpAny (model X.prog X.w) X.A (matchPattern p X.env (.str (st x) t)) (fun r s' => Inv X pins σ H s' ∧ r = if decide (x = q) then some [] else none) X.xe s := by
  cases p with
  | MatchValue e pos =>
    cases e with
    | Constant c kk cp =>
      cases c with
      | str y =>
        have hq : q = y.cps.toList := eq_of_beq h
        have hy : y = st q := by rw [hq, st_of]
        subst hy
        refine wpAny_matchPattern_Value (thn ((pe_str (X := X) (x := st q)).run pins s σ H (fun v H' => v = .str (st q) ∧ H' = H) J ⟨rfl, rfl⟩) fun u s1 ⟨v, H1, J1, r, ev, eH⟩ => ?_)
        subst ev eH
        have w := (eq_ok (Q := fun v H' => v = .bl (decide (x = q)) ∧ H' = H1) S.S.F.hK S.S.F.hU (b := decide (x = q)) rfl R (.str x) (.str q)).1 ⟨rfl, rfl⟩
        refine thn (w pins s1 σ (.str (st x) t) u J1 ⟨t, rfl⟩ r) fun c s2 ⟨v, H2, J2, rc, ev, eH⟩ => ?_
        subst ev eH
        obtain rfl : c = Value.bool (decide (x = q)) := rc
        refine wpAny_truthy_bool ?_
        cases decide (x = q) with
        | true => exact ⟨J2, rfl⟩
        | false => exact ⟨J2, rfl⟩
      | _ => exact Bool.noConfusion h
    | _ => exact Bool.noConfusion h
  | _ => exact Bool.noConfusion h
theorem lits_ok (S : XD N P B T cf k ns sc W X) {x : List Nat} (R : Rel N L I rs g H) {t : Tok} {pins : List (Addr × Obj)} : ∀ {qs : List (List Nat)} {ps : List PySem.Pattern} {s : Shared}, litsB qs ps = true → Inv X pins σ H s →
    wpAny (model X.prog X.w) X.A (matchFirst ps X.env (.str (st x) t)) (fun r s' => Inv X pins σ H s' ∧ r = if qs.contains x then some [] else none) X.xe s
  | [], [], s, h, J => wpAny_matchFirst_nil ⟨J, rfl⟩
  | [], _ :: _, s, h, J => Bool.noConfusion h
  | _ :: _, [], s, h, J => Bool.noConfusion h
  | q :: qs, p :: ps, s, h, J => by
    have h : (litB q p && litsB qs ps) = true := h
    simp only [Bool.and_eq_true] at h
    refine wpAny_matchFirst_cons (thn (lit_ok S h.1 R J) fun r s1 ⟨J1, er⟩ => ?_)
    subst er
    have e : (q :: qs).contains x = (decide (x = q) || qs.contains x) := by
      rw [List.contains_cons]
      congr 1
      by_cases z : x = q <;> simp [z]
    rw [e]
    cases decide (x = q) with
    | true => exact ⟨J1, rfl⟩
    | false => exact lits_ok S R h.2 J1
theorem pat_ok (S : XD N P B T cf k ns sc W X) {qs : List (List Nat)} {x : List Nat} {p : PySem.Pattern} (h : patB qs p = true) (R : Rel N L I rs g H) {t : Tok} {pins : List (Addr × Obj)} {s : Shared} (J : Inv X pins σ H s) :
    wpAny (model X.prog X.w) X.A (matchPattern p X.env (.str (st x) t)) (fun r s' => Inv X pins σ H s' ∧ r = if qs.contains x then some [] else none) X.xe s := by
  have one : ∀ p : PySem.Pattern, pat1B qs p = true → wpAny (model X.prog X.w) X.A (matchPattern p X.env (.str (st x) t)) (fun r s' => Inv X pins σ H s' ∧ r = if qs.contains x then some [] else none) X.xe s := by
    intro p h
    cases qs with
    | nil => exact Bool.noConfusion h
    | cons q qs =>
      cases qs with
      | cons _ _ => exact Bool.noConfusion h
      | nil =>
        refine wpAny_mono (lit_ok S (show litB q p = true from h) R J) (fun r s1 ⟨J1, er⟩ => ⟨J1, ?_⟩) fun _ _ z => z
        rw [er]
        have e : [q].contains x = decide (x = q) := by
          rw [List.contains_cons]
          by_cases z : x = q <;> simp [z]
        rw [e]
  cases p with
  | MatchOr ps pos =>
    refine wpAny_matchPattern_Or (thn (lits_ok S (qs := qs) R h J) fun r s1 ⟨J1, er⟩ => ?_)
    subst er
    cases qs.contains x with
    | true =>
      refine ⟨J1, ?_⟩
      have e : ∀ l : List Str, (l.filterMap fun n => (([] : List (Str × Value)).lookup n).map (n, ·)) = [] := by
        intro l
        induction l with
        | nil => rfl
        | cons a l ih => simp [ih]
      exact congrArg some (e _)
    | false => exact ⟨J1, rfl⟩
  | _ => exact one _ h
theorem cases_ok (S : XD N P B T cf k ns sc W X) {x : List Nat} (R : Rel N L I rs g H) (er : ER N I rs env σ) {t : Tok} {pins : List (Addr × Obj)} : ∀ {qs : List (List (List Nat))} {bs : List (List PC.S)} {cs : List MatchCase} {first : Bool} {s : Shared}, (∀ b ∈ bs, SSsp N P B T cf k ns b) → chC N.toNz ns sc qs bs cs = true →
    OkF N L I rs H W D (execM T cf bs (qs.findIdx fun k => k.contains x) env g) → Inv X pins σ H s → wpAny (model X.prog X.w) X.A (matchCases cs X.env (.str (st x) t) first) (SP X pins D) X.xe s
  | [], bs, cs, first, s, hb, h, ok, J => by
    cases bs with
    | nil => simp [chC] at h
    | cons b bs =>
      cases bs with
      | cons _ _ => simp [chC] at h
      | nil =>
        cases cs with
        | nil =>
          cases b with
          | cons _ _ => simp [chC] at h
          | nil => exact wpAny_matchCases_nil ⟨σ, H, J, (show OkF N L I rs H W D (.ok (.nx env) g) from ok).nx' R er⟩
        | cons c cs =>
          obtain ⟨p, gd, b'⟩ := c
          cases gd with
          | some _ => simp [chC] at h
          | none =>
            cases cs with
            | cons _ _ => simp [chC] at h
            | nil =>
              cases p with
              | MatchAs p1 n1 pos =>
                cases p1 with
                | some _ => simp [chC] at h
                | none =>
                  cases n1 with
                  | some _ => simp [chC] at h
                  | none =>
                    simp only [chC] at h
                    exact wpAny_matchCases_cons (wpAny_matchPattern_Capture (wpAny_assignInOrder_none (hb b List.mem_cons_self S h R er (show OkF N L I rs H W D (execs T cf b env g) from ok) _ s J)))
              | _ => simp [chC] at h
  | q :: qs, bs, cs, first, s, hb, h, ok, J => by
    cases bs with
    | nil => simp [chC] at h
    | cons b bs =>
      cases cs with
      | nil => simp [chC] at h
      | cons c cs =>
        obtain ⟨p, gd, b'⟩ := c
        cases gd with
        | some _ => simp [chC] at h
        | none =>
          simp only [chC, Bool.and_eq_true] at h
          obtain ⟨h1, h2, h3⟩ := h
          refine wpAny_matchCases_cons (thn (pat_ok S h1 R J) fun r s1 ⟨J1, er1⟩ => ?_)
          subst er1
          rw [List.findIdx_cons] at ok
          cases hc : q.contains x with
          | true =>
            rw [hc] at ok
            exact wpAny_assignInOrder_none (hb b List.mem_cons_self S h2 R er (show OkF N L I rs H W D (execs T cf b env g) from ok) pins s1 J1)
          | false =>
            rw [hc] at ok
            exact cases_ok S R er (fun b hb' => hb b (List.mem_cons_of_mem _ hb')) h3 (show OkF N L I rs H W D (execM T cf bs (qs.findIdx fun k => k.contains x) env g) from ok) J1
theorem ss_mtch {c : E} {qs : List (List (List Nat))} {bs : List (List PC.S)} (hb : ∀ b ∈ bs, SSsp N P B T cf k ns b) : SSp N P B T cf k ns (.mtch c qs bs) := by
  intro sc W X S s h env g σ L I rs H D R er ok
  have ok : OkF N L I rs H W D (((evM T cf c).v env g).bind fun x g1 => match x with
    | .str s => execM T cf bs (qs.findIdx fun k => k.contains s) env g1
    | _ => .stk) := ok
  simp only [chS] at h
  split at h
  · rename_i e cs p
    simp only [Bool.and_eq_true] at h
    refine fun pins st J => wpAny_Match (thn (ev_go S h.1 R er ok (Q := fun v H1 => ∃ x g1 I1 rs1, v = .str (PC.st x) ∧ Rel N L I1 rs1 g1 H1 ∧ ER N I1 rs1 env σ ∧ OkF N L I1 rs1 H1 W D (execM T cf bs (qs.findIdx fun k => k.contains x) env g1)) (fun v1 H1 d1 g1 I1 rs1 R1 er1 e1 r1 ok1 => ?_) pins st J) fun u s1 ⟨v, H1, J1, r, x, g1, I1, rs1, ev, R1, er1, ok1⟩ => ?_)
    · cases d1 with
      | str x =>
        cases r1
        exact ⟨x, g1, I1, rs1, rfl, R1, er1, ok1⟩
      | _ => exact ok1.elim
    · subst ev
      obtain ⟨t, rfl⟩ := r
      exact cases_ok S R1 er1 hb h.2 ok1 J1
  · exact Bool.noConfusion h
mutual
theorem ss (N : Nm) (P : Program) (B : Heap) (T : Tab) (cf : CF) (k : Nat) (ns : List Str) : ∀ c : S, SSp N P B T cf k ns c
  | .pass => ss_pass
  | .brk => ss_brk
  | .cont => ss_cont
  | .ex c => ss_ex
  | .ret c => ss_ret
  | .retN => ss_retN
  | .set i e => ss_set
  | .unp is e => ss_unp
  | .unpL is e => ss_unpL
  | .par is es => ss_par
  | .setF f o e => ss_setF
  | .setI o i e => ss_setI
  | .aug i o e => ss_aug
  | .augF f o p e => ss_augF
  | .with_ i c en ex b => ss_with (sss N P B T cf k ns b)
  | .ite c a b => ss_ite (sss N P B T cf k ns a) (sss N P B T cf k ns b)
  | .while_ c b => ss_while_ (sss N P B T cf k ns b)
  | .for_ one tg it b => ss_for_ (sss N P B T cf k ns b) (sst N P B T cf k ns b)
  | .unpA i fs e => ss_unpA
  | .mtch e ks bs => ss_mtch (ssM N P B T cf k ns bs)
  | .raise c as => fun S s h env g σ L I rs H D R er ok => raise_ok S h R er ok
  | .try_ r cl as hs => fun S s h env g σ L I rs H D R er ok => try_ok S h R er ok
  | .nev => ss_nev
theorem ssM (N : Nm) (P : Program) (B : Heap) (T : Tab) (cf : CF) (k : Nat) (ns : List Str) : ∀ bs : List (List S), ∀ b ∈ bs, SSsp N P B T cf k ns b
  | [] => fun b h => by cases h
  | c :: cs => by
    intro b h
    rcases List.mem_cons.mp h with e | e
    · rw [e]
      exact sss N P B T cf k ns c
    · exact ssM N P B T cf k ns cs b e
theorem sss (N : Nm) (P : Program) (B : Heap) (T : Tab) (cf : CF) (k : Nat) (ns : List Str) : ∀ cs : List S, SSsp N P B T cf k ns cs
  | [] => sss_nil
  | c :: cs => sss_cons (ss N P B T cf k ns c) (sss N P B T cf k ns cs) (sst N P B T cf k ns cs)
theorem sst (N : Nm) (P : Program) (B : Heap) (T : Tab) (cf : CF) (k : Nat) (ns : List Str) : ∀ cs : List S, STsp N P B T cf k ns cs
  | [] => sst_nil
  | c :: cs => sst_cons (ss N P B T cf k ns c) (sst N P B T cf k ns cs)
end
end
end PC
end
section
set_option maxHeartbeats 4000000
namespace PC
open PySem L2 PyProof.Rows
/-- a def's body run at a call, by its weakest reading; the guards around the call are none -/
theorem run_def {CX : CXT} {P : Program} {w : World} {K : PySem.W.Frag} {mg : Str → Option Value} {base : Heap} {k : Nat} {f : Addr} {name qual : Str} {params : Arguments} {body : List Stmt} {scope : Scope} {dV kV doc pm cdv ct oc : Value} {an od : Option Addr}
    {osl : Array (Option Value)} {N ps : List Str} (lk : K.lookup f = some ⟨oc, od, .func (PySem.W.fnOf name qual params body scope dV kV doc pm an cdv ct), osl⟩) (hcd : PySem.W.codeIn K cdv qual = true) (FS : FnScope N ps scope)
    {A : Around} {outer : List PySem.Env} {s : Shared} {H : Hp} {args : Args} {us : List Value} {vs : List V} {Q : VK} {E : XK} (room : Room (k + 1) A) (e0 : Env0 P w K mg base A outer s H)
    (bt : BindsTo s (PySem.W.fnOf name qual params body scope dV kV doc pm an cdv ct) args (ps.zip us)) (rv : Vals vs us) (len : vs.length = ps.length)
    (run : WSs (cxOf CX P w K mg base N qual scope f cdv A outer s H E) body { nx := fun _ H' => Q .non H', rt := Q } (L2.start N vs) H) :
    codeAny (model P w) A (.call (.ref f) args) (L2.CR CX outer P w H s Q E) s := by
  have inK : K.In s.heap := e0.mod.kin.keeps fun b o z => (e0.bs b o z).1
  have noLim : s.heap.NoLimit := e0.mod.nolimit.keeps fun b o z => (e0.bs b o z).1
  refine codeAny_call_function room.depth (inK _ _ lk) rfl FS.co FS.gen rfl (PySem.W.codeRec_of inK hcd) (bt _ _ _ _ ?_)
  have names : ∀ y ∈ ps.zip us, scope.names.lookup y.1 = some .local ∨ (scope.names.lookup y.1 = some .cell ∧ ((cellsFrom (s.heap.objs.size + 1) scope.names []).lookup y.1).isSome = true) := by
    rintro ⟨n, v⟩ hy
    rcases FS.par n (List.of_mem_zip hy).1 with z | z
    · exact .inl z
    · exact .inr ⟨z, PySem.W.cellsFrom_some _ _ _ (.inl z)⟩
  refine wpAny_newFunctionEnv_cells FS.kind names fun env he s1 x => ?_
  subst he
  refine ⟨noLim.keeps x.toInCall.keep, codeAny_func ?_⟩
  have J : Inv (cxOf CX P w K mg base N qual scope f cdv A outer s H E) [] (L2.start N vs) H s1 := inv_start FS room.hd e0 len rv x
  refine wpAny_mono (run [] s1 J) (fun fl s' hs => ?_) fun e s' hs => hs
  cases fl with
  | ret u =>
    obtain ⟨v, σ', H', J', r', q⟩ := hs
    exact ⟨v, H', J'.os, J'.bare, J'.base, J'.hok, r', q⟩
  | next =>
    obtain ⟨σ', H', J', q⟩ := hs
    exact ⟨.non, H', J'.os, J'.bare, J'.base, J'.hok, rfl, q⟩
  | brk => exact hs.elim fun _ h => h.elim fun _ h => h.2.elim
  | cont => exact hs.elim fun _ h => h.elim fun _ h => h.2.elim
/-- what is true of a def of the table -/
structure DFn (N : Nm) (f : Nat) (F : Fn) : Prop where
  np : (N.pn f).length = F.np
  ex : ∃ (x qual : Str) (params : Arguments) (body : List Stmt) (scope : Scope) (fd : FuncData) (ns : List Str) (dvs : List V), FunD N.K x qual params body scope dvs [] (N.fa f) fd ∧ FnScope ns (N.pn f) scope ∧ ns.length = F.nn ∧ chSs N.toNz ns scope F.body body = true ∧
    VRs N (fun _ => none) [] F.dfl dvs ∧
    (F.va = false → (F.dfl = [] → ∀ (kV doc pm : Value) (an : Option Addr) (cdv ct : Value) (us : List Value) (j : Nat), us.length = F.np → CsOk N f us.length j → bindArgs (PySem.W.fnOf x qual params body scope .none kV doc pm an cdv ct) (argJ (N.pn f) us j) = pure ((N.pn f).zip us)) ∧
      (F.dfl ≠ [] → ∀ (T : Addr) (kV doc pm : Value) (an : Option Addr) (cdv ct : Value) (us its : List Value) (j : Nat), its.length = F.dfl.length → us.length ≤ F.np → F.np ≤ us.length + its.length → CsOk N f us.length j →
        ∃ k, bindArgs (PySem.W.fnOf x qual params body scope (.ref T) kV doc pm an cdv ct) (argJ (N.pn f) us j) = seqItems? (.ref T) >>= k ∧ k (some its.toArray) = pure ((N.pn f).zip (us ++ its.drop (its.length - (F.np - us.length)))))) ∧
    (F.va = true → F.dfl = [] ∧ N.cs f = [] ∧ N.cw f = [] ∧ ∃ (ps : List Str) (pv : Str), N.pn f = ps ++ [pv] ∧ ∀ (kV doc pm : Value) (an : Option Addr) (cdv ct : Value) (us rest : List Value), us.length = ps.length →
      bindArgs (PySem.W.fnOf x qual params body scope .none kV doc pm an cdv ct) ⟨us ++ rest, []⟩ = (newTuple rest >>= fun t => pure (ps.zip us ++ [(pv, t)])))
/-- the body of a record's __init__: self.f1 = p1, .. -/
def rcS : Nat → List Nat → List S
  | _, [] => []
  | i, f :: fs => .setF f (.loc 0) (.loc i) :: rcS (i + 1) fs
/-- what is true of a class that is called -/
structure DCl (N : Nm) (T : Tab) (f : Nat) (F : Fn) (c ini : Nat) : Prop where
  mak : Mk N.K (N.fa f) (N.fa ini)
  ca : N.fa f = N.ca c
  pn : ∃ s, N.pn ini = s :: N.pn f
  cs : ∀ n j, (n, j) ∈ N.cs f → (n + 1, j + 1) ∈ N.cs ini
  cw : N.cw f = []
def DF (N : Nm) (T : Tab) (f : Nat) (F : Fn) : Prop := match F.kd with
  | .fn => DFn N f F
  | .rcd c fs i => DCl N T f F c i ∧ T.fn i = some ⟨fs.length + 1, F.dfl, fs.length + 1, false, .fn, rcS 1 fs⟩ ∧ F.np = fs.length ∧ F.va = false ∧ fs.Nodup ∧ fs.length < 900 ∧ F.dfl.length ≤ fs.length ∧ ∀ x ∈ fs, T.fl c x = true
  | .new c i => DCl N T f F c i
  | .cel c i => DCl N T f F c i
theorem er_start {N : Nm} {I : Hp} {rs : List Addr} {ds : List D} {vs : List V} {ns : List Str} (h : VRs N I rs ds vs) : ER N I rs (ds.map some ++ List.replicate (ns.length - ds.length) none) (L2.start ns vs) := by
  have e := h.length
  refine ⟨by simp [L2.start, e], fun i d q => ?_⟩
  by_cases hi : i < ds.length
  · rw [List.getElem?_append_left (by simpa using hi)] at q
    simp only [List.getElem?_map, Option.map_eq_some_iff] at q
    obtain ⟨d', q, q2⟩ := q
    cases q2
    obtain ⟨v, h1, h2⟩ := h.get q
    refine ⟨v, ?_, h2⟩
    unfold L2.start
    rw [List.getElem?_append_left (by simp; omega), List.getElem?_map, h1]
    rfl
  · rw [List.getElem?_append_right (by simp; omega)] at q
    rw [List.getElem?_replicate] at q
    split at q <;> cases q
theorem okF_end {N : Nm} {L I : Hp} {rs : List Addr} {H : Hp} {W : XK} {Q : VK} {r : R Fl} (ok : OkV N L I rs H W Q (endR r)) : OkF N L I rs H W { nx := fun _ H' => Q .non H', rt := Q } r := by
  cases r with
  | stk => exact ok
  | exc x g => exact ok
  | ok fl g =>
    cases fl with
    | nx env => exact fun I' rs' H' σ E R er => ok I' rs' H' .non E R .non
    | rt d => exact ok
    | bk env => exact ok.elim
    | ct env => exact ok.elim
theorem pr_zero {N : Nm} {P : Program} {B : Heap} {T : Tab} {k : Nat} : PR N P B k (call T 0) := fun f ds g ws L I rs H Q E R hv ok => ok.elim
section
variable {N : Nm} {P : Program} {B : Heap} {T : Tab} {k n : Nat}
/-- a def's body -/
theorem body_ok (fa : PFa N T) (xf : XcF N P T) (h : PR N P B k (call T n)) {f : Nat} {F : Fn} {qual : Str} {body : List Stmt} {scope : Scope} {ns : List Str} {cdv : Value} {A : Around} {outer : List PySem.Env} {s : Shared} (hg : A.guards = some [])
    (FS : FnScope ns (N.pn f) scope) (nn : ns.length = F.nn) (hc : chSs N.toNz ns scope F.body body = true) {as : List D} {vs : List V} {g : G} {L I : Hp} {rs : List Addr} {H : Hp} {Q : VK} {E : XK} (R : Rel N L I rs g H) (hv : VRs N I rs as vs) (room : Room (k + 2) (A.deeper (envOfC qual scope s.heap.objs.size (N.fa f) cdv)))
    (ok : OkV N L I rs H E Q (endR (execs T (call T n) F.body (as.map some ++ List.replicate (F.nn - as.length) none) g))) :
    WSs (cxOf (L2.CX P N.w) P N.w N.K N.mg B ns qual scope (N.fa f) cdv A outer s H E) body { nx := fun _ H' => Q .non H', rt := Q } (L2.start ns vs) H := by
  have X : XD N P B T (call T n) k ns scope E (cxOf (L2.CX P N.w) P N.w N.K N.mg B ns qual scope (N.fa f) cdv A outer s H E) := by
    refine ⟨⟨⟨rfl, rfl, ?_, rfl, ?_⟩, rfl, rfl, rfl, rfl, FS.nd, rfl, fun _ _ => rfl, room, h, ?_, fa, xf⟩, ?_, takes_of rfl rfl rfl rfl, rfl, rfl, rfl⟩
    · have := room.un
      show (A.deeper _).units + 80 < cLine
      omega
    · exact hg
    · intro pins σ H1 s1 e s2 J c
      exact passes_call (takes_of rfl rfl rfl rfl) (fun _ _ _ _ z => z) pins σ H1 s1 e s2 J c
    · exact passes_of rfl
  refine sss N P B T (call T n) k ns F.body X hc R (er_start hv) ?_
  rw [nn]
  exact okF_end ok
theorem none_vrs {N : Nm} {I : Hp} {rs : List Addr} {ds : List D} {vs : List V} (h : VRs N (fun _ => none) [] ds vs) : VRs N I rs ds vs := h.mono (fun _ _ e => by cases e) (List.nil_prefix)
theorem pr_fn (fa : PFa N T) (xf : XcF N P T) (h : PR N P B k (call T n)) {f : Nat} {F : Fn} (Df : DFn N f F) {ds : List D} {g : G} {ws : List V} {L I : Hp} {rs : List Addr} {H : Hp} {Q : VK} {E : XK} (R : Rel N L I rs g H) (hv : VRs N I rs ds ws)
    (ok : OkV N L I rs H E Q (match bindA F ds with
        | some as => endR (execs T (call T n) F.body (as.map some ++ List.replicate (F.nn - as.length) none) g)
        | none => .stk)) (j : Nat) (cj : CsOk N f ws.length j) (A : Around) (outer : List PySem.Env) (s : Shared) (us : List Value) (room : Room (k + 3) A) (hg : A.guards = some []) (e0 : Env0 P N.w N.K N.mg B A outer s H) (rv : Vals ws us) :
    codeAny (model P N.w) A (.call (.ref (N.fa f)) (argJ (N.pn f) us j)) (L2.CR (L2.CX P N.w) outer P N.w H s Q E) s := by
  obtain ⟨np, x, qual, params, body, scope, fd, ns, dvs, FD, FS, nn, hc, hdv, hb, hva⟩ := Df
  obtain ⟨oc, od, dV, kV, doc, pm, an, cdv, ct, osl, rfl, lk, hcd, hD, _⟩ := FD.ex
  have eu : us.length = ws.length := rv.length.symm
  have el : ws.length = ds.length := hv.length.symm
  unfold bindA at ok
  cases hv' : F.va with
  | false =>
    rw [hv'] at ok
    simp only [Bool.false_eq_true, if_false] at ok
    obtain ⟨b1, b2⟩ := hb hv'
    by_cases hl : ds.length ≤ F.np ∧ F.np ≤ ds.length + F.dfl.length
    · rw [if_pos hl] at ok
      simp only at ok
      rcases hD with ⟨e1, e2⟩ | ⟨e1, TT, o, its, m, e2, lT, oT, rT⟩
      · subst e1 e2
        have hd0 : F.dfl = [] := by
          cases q : F.dfl with
          | nil => rfl
          | cons _ _ => rw [q] at hdv; cases hdv
        rw [hd0] at ok hl
        simp only [List.length_nil, Nat.zero_sub, List.drop_nil, List.append_nil, Nat.add_zero] at ok hl
        refine run_def (N := ns) lk hcd FS (k := k + 2) room e0 (.of_eq (b1 hd0 kV doc pm an cdv ct us j (by omega) (by rw [eu]; exact cj))) rv (by rw [np]; omega) ?_
        exact body_ok fa xf h hg FS nn hc R hv (room.deeper _) ok
      · subst e2
        have hd0 : F.dfl ≠ [] := by
          intro z
          rw [z] at hdv
          cases hdv
          exact e1 rfl
        have l1 : its.length = F.dfl.length := by rw [← rT.length, ← hdv.length]
        obtain ⟨kk, q1, q2⟩ := b2 hd0 TT kV doc pm an cdv ct us its j l1 (by omega) (by omega) (by rw [eu]; exact cj)
        have e5 : F.np - us.length = F.np - ds.length := by omega
        rw [l1, e5] at q2
        have inK : N.K.In s.heap := e0.mod.kin.keeps fun b o z => (e0.bs b o z).1
        have hvs : VRs N I rs (ds ++ F.dfl.drop (F.dfl.length - (F.np - ds.length))) (ws ++ dvs.drop (F.dfl.length - (F.np - ds.length))) := hv.append ((none_vrs hdv).drop _)
        refine run_def (N := ns) (us := us ++ its.drop (F.dfl.length - (F.np - ds.length))) (vs := ws ++ dvs.drop (F.dfl.length - (F.np - ds.length))) lk hcd FS (k := k + 2) room e0 (BindsTo.of_looks fun M => ?_) (rv.append (rT.drop _)) ?_ ?_
        · rw [q1]
          exact looks_items inK lT oT (.of_pure q2)
        · rw [np, List.length_append, List.length_drop, ← hdv.length]
          omega
        · exact body_ok fa xf h hg FS nn hc R hvs (room.deeper _) ok
    · rw [if_neg hl] at ok
      exact ok.elim
  | true =>
    rw [hv'] at ok
    simp only [if_true] at ok
    obtain ⟨hd0, hcs, hcw, ps, pv, ep, hbv⟩ := hva hv'
    by_cases hl : F.np ≤ ds.length + 1 ∧ ds.length ≤ LIM ∧ 1 ≤ F.np
    · rw [if_pos hl] at ok
      simp only at ok
      have lp : ps.length + 1 = F.np := by rw [← np, ep]; simp
      have hj : j = us.length := by
        rcases cj with z | ⟨_, z⟩ | ⟨_, z⟩
        · omega
        · rw [hcs] at z; cases z
        · rw [hcw] at z; cases z
      subst hj
      rw [argJ_all]
      have dv0 : dV = .none := by
        rcases hD with ⟨_, e⟩ | ⟨e, _⟩
        · exact e
        · rw [hd0] at hdv
          cases hdv
          exact absurd rfl e
      subst dv0
      have hn : H s.heap.objs.size = none := e0.hok.fresh (Nat.le_refl _)
      have eus : us = us.take (F.np - 1) ++ us.drop (F.np - 1) := (List.take_append_drop _ _).symm
      have l1 : (us.take (F.np - 1)).length = ps.length := by rw [List.length_take]; omega
      have r1 : Vals (ws.take (F.np - 1)) (us.take (F.np - 1)) := rv.take _
      have r2 : Vals (ws.drop (F.np - 1)) (us.drop (F.np - 1)) := rv.drop _
      have hlim : (us.drop (F.np - 1)).length ≤ sizeLine := by
        have := lim_line hl.2.1
        rw [List.length_drop]
        omega
      refine StX.run_bnd (k := k + 2) (N := ns) (ps := N.pn f) lk hcd FS room e0 (G := fun xs H2 => ∃ p, H p = none ∧ xs = ws.take (F.np - 1) ++ [V.ref p] ∧ H2 = upd H p (.tup (ws.drop (F.np - 1)))) (fun A' Ex Q' hq => ?_) fun s2 H2 xs ⟨p, hp, ex, eH⟩ hr' => ⟨_, wss, ?_⟩
      · rw [eus, hbv kV doc pm an cdv ct (us.take (F.np - 1)) (us.drop (F.np - 1)) l1]
        refine wpAny_bind (wpAny_newTuple (wpAny_pure ?_) hlim)
        have new : ObjOk P N.w (upd H s.heap.objs.size (.tup (ws.drop (F.np - 1)))) (s.heap.push ({ cls := .type "tuple", data := .seq (us.drop (F.np - 1)).toArray } : Obj)) s.heap.objs.size (.tup (ws.drop (F.np - 1))) :=
          ⟨by rw [r2.length]; exact hlim, us.drop (F.np - 1), r2, ⟨_, Heap.get?_push_size _ rfl, rfl, _, rfl⟩⟩
        have un := StX.un_laid (fs := frs outer) (s := s) (o := ({ cls := .type "tuple", data := .seq (us.drop (F.np - 1)).toArray } : Obj)) (u := .tup (ws.drop (F.np - 1))) hn
        have z := hq _ _ (ws.take (F.np - 1) ++ [V.ref s.heap.objs.size]) (us.take (F.np - 1) ++ [Value.ref s.heap.objs.size]) (StX.env0_laid e0 new) un rfl (fun e s' => StX.cxUp outer s H _ _ E e s' un (fun b o q => Heap.get?_push_of_some _ q) rfl) (r1.append (.cons rfl .nil))
          (by rw [List.length_append, r1.length, l1, ep]; simp) ⟨_, hn, rfl, rfl⟩
        rw [ep, List.zip_append l1.symm] at z
        exact z
      · subst ex eH
        obtain ⟨R1, E1⟩ := R.imm (o := .tup (ws.drop (F.np - 1))) hp
        exact body_ok fa xf h hg FS nn hc R1 ((E1.vrs (hv.take _)).append (.one (.tup (.inl (.inl upd_same)) (E1.vrs (hv.drop _))))) hr' (Ok.after ok E1)
    · rw [if_neg hl] at ok
      exact ok.elim
/-! ### a class called -/
/-- a call of a class: a new instance and its dict, then __init__ -/
theorem make_cr {fC fi : Addr} {A : Around} {outer : List PySem.Env} {s : Shared} {H : Hp} {us : List Value} {kws : List (Str × Value)} {Q : VK} {E : XK} (M : Mk N.K fC fi) (e0 : Env0 P N.w N.K N.mg B A outer s H)
    (h : ∀ (s2 : Shared) (x dx : Addr), H x = none → H dx = none → dx ≠ x → Env0 P N.w N.K N.mg B (A.under (.builtin "type.__call__" ⟨.ref fC :: us, kws⟩)) outer s2 (upd (upd H dx (.own x)) x (.ins fC dx [])) →
      codeAny (model P N.w) (A.under (.builtin "type.__call__" ⟨.ref fC :: us, kws⟩)) (.call (.ref fi) ⟨.ref x :: us, kws⟩) (L2.CR (L2.CX P N.w) outer P N.w (upd (upd H dx (.own x)) x (.ins fC dx [])) s2 (fun v H3 => v = .non ∧ Q (.ref x) H3) E) s2) :
    codeAny (model P N.w) A (.call (.ref fC) ⟨us, kws⟩) (L2.CR (L2.CX P N.w) outer P N.w H s Q E) s := by
  have inK : N.K.In s.heap := e0.mod.kin.keeps fun b o z => (e0.bs b o z).1
  have n1 : H s.heap.objs.size = none := e0.hok.fresh (Nat.le_refl _)
  have n2 : H (s.heap.objs.size + 1) = none := e0.hok.fresh (Nat.le_succ _)
  have ne : s.heap.objs.size ≠ s.heap.objs.size + 1 := Nat.ne_of_lt (Nat.lt_succ_self _)
  have q1 : (s.heap.push PySem.W.emptyDict).get? s.heap.objs.size = some PySem.W.emptyDict := Heap.get?_push_size s.heap rfl
  have q2 : ((s.heap.push PySem.W.emptyDict).push (PySem.W.instObj fC s.heap.objs.size)).get? (s.heap.objs.size + 1) = some (PySem.W.instObj fC s.heap.objs.size) := by
    have := Heap.get?_push_size (s.heap.push PySem.W.emptyDict) (o := PySem.W.instObj fC s.heap.objs.size) rfl
    rwa [Heap.size_push] at this
  have q3 : (s.heap.push PySem.W.emptyDict).Ns s.heap.objs.size (fun _ => none) := ⟨PySem.W.emptyDict, #[], _, q1, rfl, (fun e he => absurd he (by simp)), fun _ => rfl⟩
  have e1 : Env0 P N.w N.K N.mg B A outer { s with heap := s.heap.push PySem.W.emptyDict } (upd H s.heap.objs.size (.own (s.heap.objs.size + 1))) := StX.env0_laid e0 ⟨_, q1⟩
  have u1 : Un (frs outer) [] H (upd H s.heap.objs.size (.own (s.heap.objs.size + 1))) s.heap (s.heap.push PySem.W.emptyDict) := StX.un_laid (s := s) n1
  have sz : (s.heap.push PySem.W.emptyDict).objs.size = s.heap.objs.size + 1 := Heap.size_push _ _
  have n3 : (upd H s.heap.objs.size (.own (s.heap.objs.size + 1))) (s.heap.push PySem.W.emptyDict).objs.size = none := by rw [sz, upd_ne (Ne.symm ne)]; exact n2
  have e2 := StX.env0_laid (u := .ins fC s.heap.objs.size []) (o := PySem.W.instObj fC s.heap.objs.size) e1 (by
    show ObjOk _ _ _ _ (s.heap.push PySem.W.emptyDict).objs.size _
    rw [sz]
    exact ⟨by rw [upd_ne ne, upd_same], Nat.zero_le _, ne, q2, fun _ => none, (Heap.Ns1.of_empty q3).at fun o q => Heap.get?_push_of_some _ q, fun _ => True.intro, fun y hy => absurd rfl hy⟩)
  have u2 := u1.trans (StX.un_laid (fs := frs outer) (s := { s with heap := s.heap.push PySem.W.emptyDict }) (o := PySem.W.instObj fC s.heap.objs.size) (u := .ins fC s.heap.objs.size []) n3)
  have e2 : Env0 P N.w N.K N.mg B A outer { s with heap := (s.heap.push PySem.W.emptyDict).push (PySem.W.instObj fC s.heap.objs.size) } (upd (upd H s.heap.objs.size (.own (s.heap.objs.size + 1))) (s.heap.objs.size + 1) (.ins fC s.heap.objs.size [])) := by
    have := e2
    rw [show (({ s with heap := s.heap.push PySem.W.emptyDict } : Shared).heap.objs.size) = s.heap.objs.size + 1 from sz] at this
    exact this
  have u2 : Un (frs outer) [] H (upd (upd H s.heap.objs.size (.own (s.heap.objs.size + 1))) (s.heap.objs.size + 1) (.ins fC s.heap.objs.size [])) s.heap ((s.heap.push PySem.W.emptyDict).push (PySem.W.instObj fC s.heap.objs.size)) := by
    have := u2
    rw [show (({ s with heap := s.heap.push PySem.W.emptyDict } : Shared).heap.objs.size) = s.heap.objs.size + 1 from sz] at this
    exact this
  refine make_map (f := fi) inK M.makes M.init (beq_iff_eq.mp M.fn) (codeAny_mono (h _ _ _ n2 n1 ne (e2.make fC us kws)) fun r s' hq => ?_)
  cases r with
  | error e =>
    have hq : L2.CX P N.w outer (upd (upd H s.heap.objs.size (.own (s.heap.objs.size + 1))) (s.heap.objs.size + 1) (.ins fC s.heap.objs.size [])) { s with heap := (s.heap.push PySem.W.emptyDict).push (PySem.W.instObj fC s.heap.objs.size) } E e s' := hq
    exact StX.cxUp outer s H { s with heap := (s.heap.push PySem.W.emptyDict).push (PySem.W.instObj fC s.heap.objs.size) } (upd (upd H s.heap.objs.size (.own (s.heap.objs.size + 1))) (s.heap.objs.size + 1) (.ins fC s.heap.objs.size [])) E e s' u2 (fun b o q => Heap.get?_push_of_some _ (Heap.get?_push_of_some _ q)) rfl hq
  | ok fl =>
    cases fl with
    | ret u =>
      obtain ⟨v, H', os, bare, un, hok, rv, ev, q⟩ := hq
      subst ev
      exact ⟨rv, .ref (s.heap.objs.size + 1), H', os, bare, u2.trans un, hok, rfl, q⟩
    | next => exact False.elim hq
    | brk => exact False.elim hq
    | cont => exact False.elim hq
theorem make_guards {A : Around} {C : Addr} {us : List Value} {kw : List (Str × Value)} : (A.under (.builtin "type.__call__" ⟨.ref C :: us, kw⟩)).guards = A.guards := by
  first | rfl | simp [Around.under, Code.weight, Code.isCreation, Code.isGuard, Code.isCaller, Code.frames, Code.isFrame, guardIds]
/-- a value that has no cell -/
theorem clo_vr : ∀ (n : Nat) {d : D} {v : V} {I : Hp} {rs ss : List Addr}, cloN n d = true → VR N I rs d v → VR N I ss d v
  | 0, d, v, I, rs, ss, h, r => by simp [cloN] at h
  | n + 1, d, v, I, rs, ss, h, r => by
    have many : ∀ {ds : List D} {vs : List V}, ds.all (cloN n) = true → VRs N I rs ds vs → VRs N I ss ds vs := by
      intro ds
      induction ds with
      | nil => intro vs _ r; cases r; exact .nil
      | cons d ds ih =>
        intro vs h r
        simp only [List.all_cons, Bool.and_eq_true] at h
        cases r with
        | cons r1 r2 => exact .cons (clo_vr n h.1 r1) (ih h.2 r2)
    cases r with
    | non => exact .non
    | bl b => exact .bl b
    | int i => exact .int i
    | str s => exact .str s
    | tup h1 h2 => exact .tup h1 (many h h2)
    | lst h1 h2 => exact .lst h1 (many h h2)
    | dct h1 h2 h3 h4 => exact .dct h1 h2 h3 (many h h4)
    | kdc h1 h2 h3 h4 h5 => exact .kdc h1 h2 h3 h4 (many h h5)
    | obj h1 h2 h3 => exact .obj h1 h2 (many h h3)
    | xob h1 h2 h3 h4 => exact .xob h1 h2 h3 (many h h4)
    | cls c => exact .cls c
    | ref h1 => simp [cloN] at h
theorem clos_vr {ds : List D} {vs : List V} {I : Hp} {rs ss : List Addr} (h : ds.all clo = true) (r : VRs N I rs ds vs) : VRs N I ss ds vs := by
  induction ds generalizing vs with
  | nil => cases r; exact .nil
  | cons d ds ih =>
    simp only [List.all_cons, Bool.and_eq_true] at h
    cases r with
    | cons r1 r2 => exact .cons (clo_vr 50 h.1 r1) (ih h.2 r2)
/-- nothing of a heap is tracked -/
theorem Rel.none_ (R : Rel N L I rs g H) : Rel N L I [] [] H := ⟨R.sub, R.lsub, rfl, List.nodup_nil, fun _ z => (by cases z), fun _ _ _ z => (by simp at z)⟩
/-- behind a run on a heap of its own: all cells are as before -/
theorem Rel.back (R : Rel N L I rs g H) {I' H' : Hp} {rs' : List Addr} (E : Ext I [] H I' rs' H') (s : Same I' H') : Rel N L I' rs g H' ∧ Ext I rs H I' rs H' := by
  have hf : ∀ a o, H a = some o → H' a = some o := fun a o h => E.fr a o h (by simp)
  refine ⟨⟨s, R.lsub.trans hf, R.len, R.nd, fun a ha => let ⟨o, e⟩ := R.trk a ha; ⟨o, hf a o e⟩, fun i a c ha hc => ?_⟩, ⟨E.i, List.prefix_refl _, fun a o h _ => hf a o h, fun _ h => .inl h, fun a o h => ?_⟩⟩
  · refine (R.cell i a c ha hc).mono E.i (List.prefix_refl _) (fun o h _ => hf a o h) fun hI => ?_
    obtain ⟨u, hu⟩ := R.trk a (List.mem_of_getElem? ha)
    cases q : I' a with
    | none => rfl
    | some o =>
      rcases E.inew a o q with z | z | z
      · rw [hI] at z; cases z
      · rw [hu] at z; cases z
      · cases z
  · rcases E.inew a o h with z | z | z
    · exact .inl z
    · exact .inr (.inl z)
    · cases z
/-- a new instance, its dict beside it, as a cell -/
theorem Rel.made (R : Rel N L I rs g H) {x dx : Addr} {c : Nat} (hx : H x = none) (hd : H dx = none) (ne : dx ≠ x) :
    Rel N L I (rs ++ [x]) (g ++ [.ins c [] []]) (upd (upd H dx (.own x)) x (.ins (N.ca c) dx [])) ∧ Ext I rs H I (rs ++ [x]) (upd (upd H dx (.own x)) x (.ins (N.ca c) dx [])) := by
  have np : dx ∉ rs := fun hm => by
    obtain ⟨u, e⟩ := R.trk dx hm
    rw [hd] at e; cases e
  have R1 : Rel N L I rs g (upd H dx (.own x)) := R.hid np (R.sub.free hd) (R.lsub.free hd)
  have E1 : Ext I rs H I rs (upd H dx (.own x)) := Ext.refl.hid hd
  have hx1 : (upd H dx (.own x)) x = none := by rw [upd_ne (Ne.symm ne)]; exact hx
  obtain ⟨R2, E2⟩ := R1.new (c := .ins c [] []) (o := .ins (N.ca c) dx []) hx1 ⟨R.lsub.free hx, R.sub.free hx, dx, [], upd_same, rfl, .nil⟩
  exact ⟨R2, E1.trans E2⟩
/-- a cell's instance is a value from now on -/
theorem Rel.frzI {x dx : Addr} {c : Nat} {ns : List Nat} {ds : List D} {I' H' : Hp} {rs' : List Addr} (R : Rel N L I' rs' [.ins c ns ds] H') (hx : rs'[0]? = some x) : ∃ dx fs, H' x = some (.ins (N.ca c) dx fs) ∧ I' x = none ∧ fs.map (·.1) = ns.map N.nm ∧ VRs N I' rs' ds (fs.map (·.2)) := by
  obtain ⟨_, hI, dx, fs, h1, h2, h3⟩ := R.cell 0 x _ hx rfl
  exact ⟨dx, fs, h1, hI, h2, h3⟩
theorem pr_new (fa : PFa N T) (xf : XcF N P T) (h : PR N P B k (call T n)) {f c i : Nat} {F : Fn} (Df : DCl N T f F c i) {ds : List D} {g : G} {ws : List V} {L I : Hp} {rs : List Addr} {H : Hp} {Q : VK} {E : XK} (R : Rel N L I rs g H) (hv : VRs N I rs ds ws)
    (ok : OkV N L I rs H E Q (if ds.all clo then newR (call T n i (.ref 0 :: ds) [.ins c [] []]) g else .stk)) (j : Nat) (cj : CsOk N f ws.length j) (A : Around) (outer : List PySem.Env) (s : Shared) (us : List Value) (room : Room (k + 3) A) (hg : A.guards = some []) (e0 : Env0 P N.w N.K N.mg B A outer s H) (rv : Vals ws us) :
    codeAny (model P N.w) A (.call (.ref (N.fa f)) (argJ (N.pn f) us j)) (L2.CR (L2.CX P N.w) outer P N.w H s Q E) s := by
  obtain ⟨mk, ca, ⟨sf, pn⟩, cs, cw⟩ := Df
  have hj : j ≤ us.length := by
    have := rv.length
    rcases cj with z | ⟨z, _⟩ | ⟨_, z⟩
    · omega
    · omega
    · rw [cw] at z; cases z
  split at ok
  · rename_i hc
    refine make_cr mk e0 fun s2 x dx hx hd ne e2 => ?_
    obtain ⟨R1, E1⟩ := R.none_.made (c := c) hx hd ne
    rw [ca] at e2 ⊢
    rw [List.nil_append] at R1
    have R1 : Rel N L I [x] [.ins c [] []] (upd (upd H dx (.own x)) x (.ins (N.ca c) dx [])) := R1
    have hv1 : VRs N I [x] (.ref 0 :: ds) (.ref x :: ws) := .cons (.ref rfl) (clos_vr hc hv)
    have rv1 : Vals (.ref x :: ws) (.ref x :: us) := .cons rfl rv
    have cj1 : CsOk N i (V.ref x :: ws).length (j + 1) := by
      rcases cj with z | ⟨z1, z⟩ | ⟨_, z⟩
      · exact .inl (by simpa using z)
      · exact .inr (.inl ⟨by simpa using z1, cs _ _ z⟩)
      · rw [cw] at z; cases z
    have room1 : Room k (A.under (.builtin "type.__call__" ⟨.ref (N.fa f) :: (argJ (N.pn f) us j).pos, (argJ (N.pn f) us j).kw⟩)) := (room.make _ _ _).mono (by omega)
    have p := h i (.ref 0 :: ds) [.ins c [] []] (.ref x :: ws) L I [x] _ (fun v H3 => v = .non ∧ Q (.ref x) H3) E R1 hv1 ?_ (j + 1) cj1 _ outer s2 (.ref x :: us) room1 (by rw [make_guards]; exact hg) e2 rv1
    · rw [pn, argJ_cons hj] at p
      rw [ca] at p
      exact p
    · have E1' : Ext I [] H I [x] (upd (upd H dx (.own x)) x (.ins (N.ca c) dx [])) := E1
      cases hr : call T n i (.ref 0 :: ds) [.ins c [] []] with
      | stk => rw [hr] at ok; exact ok.elim
      | exc xx gx =>
        rw [hr] at ok
        unfold newR at ok
        simp only at ok
        split at ok
        · rename_i hcx
          intro I' rs' H' cls d E2 R2 ⟨x1, a, fs, x2, x3, x4, x5⟩
          obtain ⟨R3, E3⟩ := R.back (I' := I') (H' := H') (rs' := rs') (E1'.trans E2) R2.sub
          exact ok _ _ _ _ _ E3 R3 ⟨x1, a, fs, x2, x3, x4, clos_vr hcx x5⟩
        · exact ok.elim
      | ok d g1 =>
        rw [hr] at ok
        unfold newR at ok
        split at ok
        · rename_i c2 ns vs e
          cases e
          split at ok
          · rename_i hcv
            intro I' rs' H' v E2 R2 r2
            cases r2
            refine ⟨rfl, ?_⟩
            have hx0 : rs'[0]? = some x := by
              obtain ⟨t, e⟩ := E2.r
              rw [← e]; rfl
            obtain ⟨dx', fs, h1, h2, h3, h4⟩ := R2.frzI (dx := dx) hx0
            obtain ⟨R3, E3⟩ := R.back (I' := I') (H' := H') (rs' := rs') (E1'.trans E2) R2.sub
            have hn : x ∉ rs := fun hm => by
              obtain ⟨u, e⟩ := R.trk x hm
              rw [hx] at e; cases e
            refine ok _ _ _ _ (E3.adopt hx h2) (R3.adopt hn h2 h1) (.obj upd_same h3 ?_)
            exact (clos_vr hcv h4).mono (fun b u e => by rw [upd_ne (ne_of_none e h2)]; exact e) (List.prefix_refl _)
          · exact ok.elim
        · rename_i e; cases e
        · exact ok.elim
  · exact ok.elim
theorem pr_cel (fa : PFa N T) (xf : XcF N P T) (h : PR N P B k (call T n)) {f c i : Nat} {F : Fn} (Df : DCl N T f F c i) {ds : List D} {g : G} {ws : List V} {L I : Hp} {rs : List Addr} {H : Hp} {Q : VK} {E : XK} (R : Rel N L I rs g H) (hv : VRs N I rs ds ws)
    (ok : OkV N L I rs H E Q (celR (call T n i (.ref g.length :: ds) (g ++ [.ins c [] []])) g.length)) (j : Nat) (cj : CsOk N f ws.length j) (A : Around) (outer : List PySem.Env) (s : Shared) (us : List Value) (room : Room (k + 3) A) (hg : A.guards = some []) (e0 : Env0 P N.w N.K N.mg B A outer s H) (rv : Vals ws us) :
    codeAny (model P N.w) A (.call (.ref (N.fa f)) (argJ (N.pn f) us j)) (L2.CR (L2.CX P N.w) outer P N.w H s Q E) s := by
  obtain ⟨mk, ca, ⟨sf, pn⟩, cs, cw⟩ := Df
  have hj : j ≤ us.length := by
    have := rv.length
    rcases cj with z | ⟨z, _⟩ | ⟨_, z⟩
    · omega
    · omega
    · rw [cw] at z; cases z
  refine make_cr mk e0 fun s2 x dx hx hd ne e2 => ?_
  obtain ⟨R1, E1⟩ := R.made (c := c) hx hd ne
  rw [ca] at e2 ⊢
  have hxl : (rs ++ [x])[g.length]? = some x := by rw [← R.len, List.getElem?_append_right (Nat.le_refl _)]; simp
  have hv1 : VRs N I (rs ++ [x]) (.ref g.length :: ds) (.ref x :: ws) := .cons (.ref hxl) (hv.mono (Same.refl _) (List.prefix_append _ _))
  have rv1 : Vals (.ref x :: ws) (.ref x :: us) := .cons rfl rv
  have cj1 : CsOk N i (V.ref x :: ws).length (j + 1) := by
    rcases cj with z | ⟨z1, z⟩ | ⟨_, z⟩
    · exact .inl (by simpa using z)
    · exact .inr (.inl ⟨by simpa using z1, cs _ _ z⟩)
    · rw [cw] at z; cases z
  have room1 : Room k (A.under (.builtin "type.__call__" ⟨.ref (N.fa f) :: (argJ (N.pn f) us j).pos, (argJ (N.pn f) us j).kw⟩)) := (room.make _ _ _).mono (by omega)
  have p := h i (.ref g.length :: ds) (g ++ [.ins c [] []]) (.ref x :: ws) L I (rs ++ [x]) _ (fun v H3 => v = .non ∧ Q (.ref x) H3) E R1 hv1 ?_ (j + 1) cj1 _ outer s2 (.ref x :: us) room1 (by rw [make_guards]; exact hg) e2 rv1
  · rw [pn, argJ_cons hj] at p
    rw [ca] at p
    exact p
  · cases hr : call T n i (.ref g.length :: ds) (g ++ [.ins c [] []]) with
    | stk => rw [hr] at ok; exact ok.elim
    | exc xx gx =>
      rw [hr] at ok
      exact fun I' rs' H' cls d E2 R2 x' => ok I' rs' H' cls d (E1.trans E2) R2 x'
    | ok d g1 =>
      rw [hr] at ok
      unfold celR at ok
      split at ok
      · rename_i e
        cases e
        intro I' rs' H' v E2 R2 r2
        cases r2
        refine ⟨rfl, ok _ _ _ _ (E1.trans E2) R2 (.ref ?_)⟩
        obtain ⟨t, e⟩ := E2.r
        rw [← e, List.getElem?_append_left (by simp [R.len])]
        exact hxl
      · exact ok.elim
      · rename_i e; cases e
      · exact ok.elim
end
/-! ### records -/
theorem map_s_inj : ∀ {a b : List (List Nat)}, a.map DK.s = b.map DK.s → a = b
  | [], [], _ => rfl
  | [], _ :: _, h => by simp at h
  | _ :: _, [], h => by simp at h
  | x :: a, y :: b, h => by
    simp only [List.map_cons, List.cons.injEq, DK.s.injEq] at h
    rw [h.1, map_s_inj h.2]
section
variable {N : Nm} {I I' : Hp} {rs ss : List Addr}
mutual
theorem VR.down : ∀ {d : D} {v0 v : V}, VR N I rs d v0 → VR N I' (rs ++ ss) d v → VR N I' rs d v
  | _, _, _, .non, h => by cases h; exact .non
  | _, _, _, .bl b, h => by cases h; exact .bl b
  | _, _, _, .int i, h => by cases h; exact .int i
  | _, _, _, .str s, h => by cases h; exact .str s
  | _, _, _, .tup _ k, h => by cases h with | tup h' k' => exact .tup h' (VRs.down k k')
  | _, _, _, .lst _ k, h => by cases h with | lst h' k' => exact .lst h' (VRs.down k k')
  | _, _, _, .dct _ _ _ k, h => by cases h with | dct h1 h2 h3 k' => exact .dct h1 h2 h3 (VRs.down k k')
  | _, _, _, .kdc _ _ _ _ k, h => by
    generalize hd : D.mdc _ _ = d at h
    cases h with
    | kdc h1 h2 h3 h4 k' =>
      injection hd with q1 q2
      have q3 := map_s_inj q1
      subst q3 q2
      exact .kdc h1 h2 h3 h4 (VRs.down k k')
    | _ => cases hd
  | _, _, _, .obj _ _ k, h => by cases h with | obj h1 h2 k' => exact .obj h1 h2 (VRs.down k k')
  | _, _, _, .xob _ _ _ k, h => by cases h with | xob h1 h2 h3 k' => exact .xob h1 h2 h3 (VRs.down k k')
  | _, _, _, .cls c, h => by cases h; exact .cls c
  | _, _, _, .ref hi, h => by
    cases h with
    | ref h' =>
      rw [List.getElem?_append_left (List.getElem?_eq_some_iff.mp hi).1] at h'
      exact .ref h'
theorem VRs.down : ∀ {ds : List D} {vs0 vs : List V}, VRs N I rs ds vs0 → VRs N I' (rs ++ ss) ds vs → VRs N I' rs ds vs
  | _, _, _, .nil, h => by cases h; exact .nil
  | _, _, _, .cons a b, h => by cases h with | cons a' b' => exact .cons (VR.down a a') (VRs.down b b')
end
end
theorem putFn_new {f : Nat} : ∀ {ns : List Nat}, f ∉ ns → putFn ns f = ns ++ [f]
  | [], _ => rfl
  | n :: ns, h => by
    simp only [List.mem_cons, not_or] at h
    simp [putFn, Ne.symm h.1, putFn_new h.2]
theorem putFv_new {f : Nat} {y : D} : ∀ {ns : List Nat} {vs : List D}, f ∉ ns → ns.length = vs.length → putFv ns vs f y = vs ++ [y]
  | [], [], _, _ => rfl
  | [], _ :: _, _, h => by simp at h
  | _ :: _, [], _, h => by simp at h
  | n :: ns, v :: vs, h, hl => by
    simp only [List.mem_cons, not_or] at h
    simp [putFv, Ne.symm h.1, putFv_new h.2 (by simpa using hl)]
section
variable {T : Tab} {cf : CF}
/-- the run of a record's __init__ -/
theorem rc_run {c r : Nat} : ∀ (fs : List Nat) (i : Nat) (as : List D) (ns : List Nat) (vs : List D) (env : Env) (g : G), fs.length = as.length → env[0]? = some (some (.ref r)) → (∀ t, t < as.length → env[i + t]? = some (as[t]?)) → g[r]? = some (.ins c ns vs) → ns.length = vs.length → (ns ++ fs).Nodup → (ns ++ fs).length < 900 → (∀ f ∈ fs, T.fl c f = true) →
    execs T cf (rcS i fs) env g = .ok (.nx env) (g.set r (.ins c (ns ++ fs) (vs ++ as)))
  | [], i, as, ns, vs, env, g, hl, h0, he, hg, hn, nd, hz, hf => by
    have : as = [] := by simpa using hl.symm
    subst this
    obtain ⟨hr, e⟩ := List.getElem?_eq_some_iff.mp hg
    simp only [List.append_nil]
    have : g.set r (.ins c ns vs) = g := by rw [← e]; exact List.set_getElem_self hr
    rw [this]
    rfl
  | f :: fs, i, [], ns, vs, env, g, hl, h0, he, hg, hn, nd, hz, hf => by simp at hl
  | f :: fs, i, a :: as, ns, vs, env, g, hl, h0, he, hg, hn, nd, hz, hf => by
    have hi := he 0 (by simp)
    simp only [Nat.add_zero, List.getElem?_cons_zero] at hi
    have hfn : f ∉ ns := fun hm => by
      rw [List.nodup_append] at nd
      exact nd.2.2 f hm f (by simp) rfl
    have hr : r < g.length := (List.getElem?_eq_some_iff.mp hg).1
    have hs : setFD T g f (.ref r) a = some (g.set r (.ins c (ns ++ [f]) (vs ++ [a]))) := by
      have hfl := hf f (by simp)
      have hz' : ns.length < 900 := by simp at hz; omega
      simp only [setFD, hg, hfl, Bool.true_and, decide_eq_true hz', if_true, putFn_new hfn, putFv_new hfn hn]
    have hx : exec T cf (.setF f (.loc 0) (.loc i)) env g = .ok (.nx env) (g.set r (.ins c (ns ++ [f]) (vs ++ [a]))) := by
      show ((ev T cf (.loc i) env g).bind fun y g1 => (ev T cf (.loc 0) env g1).bind fun x g2 => match setFD T g2 f x y with
        | some g3 => PC.R.ok (Fl.nx env) g3
        | none => .stk) = _
      have e1 : ev T cf (.loc i) env g = .ok a g := by
        show (match env[i]? with | some (some d) => R.ok d g | _ => .stk) = _
        rw [hi]
      have e2 : ev T cf (.loc 0) env g = .ok (.ref r) g := by
        show (match env[0]? with | some (some d) => R.ok d g | _ => .stk) = _
        rw [h0]
      rw [e1]
      show ((ev T cf (.loc 0) env g).bind fun x g2 => match setFD T g2 f x a with
        | some g3 => PC.R.ok (Fl.nx env) g3
        | none => .stk) = _
      rw [e2]
      show (match setFD T g f (.ref r) a with
        | some g3 => R.ok (Fl.nx env) g3
        | none => .stk) = _
      rw [hs]
    show ((exec T cf (.setF f (.loc 0) (.loc i)) env g).bind fun fl g1 => match fl with
      | .nx env1 => execs T cf (rcS (i + 1) fs) env1 g1
      | fl => .ok fl g1) = _
    rw [hx]
    show execs T cf (rcS (i + 1) fs) env (g.set r (.ins c (ns ++ [f]) (vs ++ [a]))) = _
    rw [rc_run fs (i + 1) as (ns ++ [f]) (vs ++ [a]) env _ (by simpa using hl) h0 (fun t ht => by
      have := he (t + 1) (by simp; omega)
      simp only [List.getElem?_cons_succ] at this
      rw [show i + 1 + t = i + (t + 1) by omega]
      exact this) (by rw [List.getElem?_set_self hr]) (by simp [hn]) (by simpa using nd) (by simpa using hz) (fun f' hf' => hf f' (by simp [hf']))]
    simp [List.set_set]
end
section
variable {N : Nm} {P : Program} {B : Heap} {T : Tab} {k n : Nat}
theorem pr_rcd (fa : PFa N T) (xf : XcF N P T) (h : PR N P B k (call T (n + 1))) {f c i : Nat} {fs : List Nat} {F : Fn} (Df : DCl N T f F c i) (hi : T.fn i = some ⟨fs.length + 1, F.dfl, fs.length + 1, false, .fn, rcS 1 fs⟩) (hnp : F.np = fs.length) (hva : F.va = false) (nd : fs.Nodup) (hz : fs.length < 900) (hdl : F.dfl.length ≤ fs.length) (hfl : ∀ x ∈ fs, T.fl c x = true)
    (hdf : ∃ dvs, VRs N (fun _ => none) [] F.dfl dvs) {ds : List D} {g : G} {ws : List V} {L I : Hp} {rs : List Addr} {H : Hp} {Q : VK} {E : XK} (R : Rel N L I rs g H) (hv : VRs N I rs ds ws)
    (ok : OkV N L I rs H E Q (match bindA F ds with
      | some as => .ok (.obj c fs as) g
      | none => .stk)) (j : Nat) (cj : CsOk N f ws.length j) (A : Around) (outer : List PySem.Env) (s : Shared) (us : List Value) (room : Room (k + 3) A) (hg : A.guards = some []) (e0 : Env0 P N.w N.K N.mg B A outer s H) (rv : Vals ws us) :
    codeAny (model P N.w) A (.call (.ref (N.fa f)) (argJ (N.pn f) us j)) (L2.CR (L2.CX P N.w) outer P N.w H s Q E) s := by
  obtain ⟨mk, ca, ⟨sf, pn⟩, cs, cw⟩ := Df
  have hj : j ≤ us.length := by
    have := rv.length
    rcases cj with z | ⟨z, _⟩ | ⟨_, z⟩
    · omega
    · omega
    · rw [cw] at z; cases z
  obtain ⟨dvs, hdf⟩ := hdf
  cases hb : bindA F ds with
  | none => rw [hb] at ok; exact ok.elim
  | some as =>
    rw [hb] at ok
    have hb' : ds.length ≤ F.np ∧ F.np ≤ ds.length + F.dfl.length ∧ as = ds ++ F.dfl.drop (F.dfl.length - (F.np - ds.length)) := by
      unfold bindA at hb
      rw [hva] at hb
      simp only [Bool.false_eq_true, if_false] at hb
      split at hb
      · rename_i q
        cases hb
        exact ⟨q.1, q.2, rfl⟩
      · cases hb
    obtain ⟨l1, l2, rfl⟩ := hb'
    have las : (ds ++ F.dfl.drop (F.dfl.length - (F.np - ds.length))).length = fs.length := by rw [List.length_append, List.length_drop]; omega
    have hvA : VRs N I rs (ds ++ F.dfl.drop (F.dfl.length - (F.np - ds.length))) (ws ++ dvs.drop (F.dfl.length - (F.np - ds.length))) := hv.append ((none_vrs hdf).drop _)
    generalize hA : ds ++ F.dfl.drop (F.dfl.length - (F.np - ds.length)) = as at ok las hvA
    have run : call T (n + 1) i (.ref g.length :: ds) (g ++ [Cell.ins c [] []]) = .ok .non (g ++ [Cell.ins c fs as]) := by
      have hbi : bindA ⟨fs.length + 1, F.dfl, fs.length + 1, false, .fn, rcS 1 fs⟩ (.ref g.length :: ds) = some (.ref g.length :: as) := by
        unfold bindA
        simp only [Bool.false_eq_true, if_false, List.length_cons]
        rw [if_pos ⟨by omega, by omega⟩, ← hA]
        rw [show fs.length + 1 - (ds.length + 1) = F.np - ds.length by omega]
        rfl
      have hc : call T (n + 1) i (.ref g.length :: ds) (g ++ [Cell.ins c [] []]) = endR (execs T (call T n) (rcS 1 fs) ((.ref g.length :: as).map some ++ List.replicate (fs.length + 1 - (as.length + 1)) none) (g ++ [Cell.ins c [] []])) := by
        show (match T.fn i with
          | some F => callK T n (call T n) F (.ref g.length :: ds) (g ++ [Cell.ins c [] []])
          | none => .stk) = _
        rw [hi]
        unfold callK
        simp only [hbi]
        rfl
      rw [hc, rc_run (c := c) (r := g.length) fs 1 as [] [] _ _ las.symm (by simp) (fun t ht => by
        rw [List.getElem?_append_left (by simp; omega), List.getElem?_map, show 1 + t = t + 1 by omega, List.getElem?_cons_succ, List.getElem?_eq_getElem ht]
        rfl) (by simp) rfl (by simpa using nd) (by simpa using hz) hfl]
      show PC.R.ok D.non _ = _
      simp
    refine make_cr mk e0 fun s2 x dx hx hd ne e2 => ?_
    obtain ⟨R1, E1⟩ := R.made (c := c) hx hd ne
    rw [ca] at e2 ⊢
    have hxl : (rs ++ [x])[g.length]? = some x := by rw [← R.len, List.getElem?_append_right (Nat.le_refl _)]; simp
    have hv1 : VRs N I (rs ++ [x]) (.ref g.length :: ds) (.ref x :: ws) := .cons (.ref hxl) (hv.mono (Same.refl _) (List.prefix_append _ _))
    have rv1 : Vals (.ref x :: ws) (.ref x :: us) := .cons rfl rv
    have cj1 : CsOk N i (V.ref x :: ws).length (j + 1) := by
      rcases cj with z | ⟨z1, z⟩ | ⟨_, z⟩
      · exact .inl (by simpa using z)
      · exact .inr (.inl ⟨by simpa using z1, cs _ _ z⟩)
      · rw [cw] at z; cases z
    have room1 : Room k (A.under (.builtin "type.__call__" ⟨.ref (N.fa f) :: (argJ (N.pn f) us j).pos, (argJ (N.pn f) us j).kw⟩)) := (room.make _ _ _).mono (by omega)
    have p := h i (.ref g.length :: ds) (g ++ [.ins c [] []]) (.ref x :: ws) L I (rs ++ [x]) _ (fun v H3 => v = .non ∧ Q (.ref x) H3) E R1 hv1 ?_ (j + 1) cj1 _ outer s2 (.ref x :: us) room1 (by rw [make_guards]; exact hg) e2 rv1
    · rw [pn, argJ_cons hj] at p
      rw [ca] at p
      exact p
    · rw [run]
      intro I' rs' H' v E2 R2 r2
      cases r2
      refine ⟨rfl, ?_⟩
      have hrs : rs' = rs ++ [x] := by
        obtain ⟨t, e⟩ := E2.r
        have := R2.len
        rw [← e] at this
        simp [R.len] at this
        rw [← e, this, List.append_nil]
      subst hrs
      have hn : x ∉ rs := fun hm => by
        obtain ⟨u, e⟩ := R.trk x hm
        rw [hx] at e; cases e
      obtain ⟨hLx, hIx, dx', fs', h1, h2, h3⟩ := R2.cell _ _ _ hxl (by simp : (g ++ [Cell.ins c fs as])[g.length]? = some (.ins c fs as))
      have si : Same I' (upd I' x (.ins (N.ca c) dx' fs')) := fun b u e => by rw [upd_ne (ne_of_none e hIx)]; exact e
      have R3 : Rel N L (upd I' x (.ins (N.ca c) dx' fs')) rs g H' := by
        refine ⟨fun b u e => ?_, R2.lsub, R.len, R.nd, fun a ha => R2.trk a (List.mem_append_left _ ha), fun q a cl ha hcl => ?_⟩
        · by_cases z : b = x
          · subst z; rw [upd_same] at e; cases e; exact h1
          · rw [upd_ne z] at e; exact R2.sub b u e
        · have hq : q < rs.length := (List.getElem?_eq_some_iff.mp ha).1
          have hq2 : q < g.length := (List.getElem?_eq_some_iff.mp hcl).1
          have c0 := R.cell q a cl ha hcl
          have c1 := R2.cell q a cl (by rw [List.getElem?_append_left hq]; exact ha) (by rw [List.getElem?_append_left hq2]; exact hcl)
          have hax : a ≠ x := fun z => hn (z ▸ List.mem_of_getElem? ha)
          cases cl with
          | lst l =>
            obtain ⟨_, _, vs0, _, r0, _⟩ := c0
            obtain ⟨b1, b2, vs1, b3, r1, b4⟩ := c1
            exact ⟨b1, by rw [upd_ne hax]; exact b2, vs1, b3, (r0.down r1).mono si (List.prefix_refl _), b4⟩
          | lck l =>
            obtain ⟨_, vs0, _, r0, _⟩ := c0
            obtain ⟨b2, vs1, b3, r1, b4⟩ := c1
            exact ⟨by rw [upd_ne hax]; exact b2, vs1, b3, (r0.down r1).mono si (List.prefix_refl _), b4⟩
          | dct ks dd =>
            obtain ⟨_, _, kv0, _, _, _, r0, _⟩ := c0
            obtain ⟨b1, b2, kv1, b3, b4, b5, r1, b6⟩ := c1
            exact ⟨b1, by rw [upd_ne hax]; exact b2, kv1, b3, b4, b5, (r0.down r1).mono si (List.prefix_refl _), b6⟩
          | ins c' nn dd =>
            obtain ⟨_, _, d0, f0, _, _, r0⟩ := c0
            obtain ⟨b1, b2, d1, f1, b3, b4, r1⟩ := c1
            exact ⟨b1, by rw [upd_ne hax]; exact b2, d1, f1, b3, b4, (r0.down r1).mono si (List.prefix_refl _)⟩
          | dead => trivial
      have E12 := E1.trans E2
      have E3 : Ext I rs H (upd I' x (.ins (N.ca c) dx' fs')) rs H' := by
        refine ⟨E12.i.trans si, List.prefix_refl _, E12.fr, fun _ h => .inl h, fun a o e => ?_⟩
        by_cases z : a = x
        · subst z; exact .inr (.inl hx)
        · rw [upd_ne z] at e; exact E12.inew a o e
      exact ok _ _ _ _ E3 R3 (.obj upd_same h2 ((hvA.down h3).mono si (List.prefix_refl _)))
/-- all defs and classes keep what calls promise -/
theorem pr_succ (fa : PFa N T) (xf : XcF N P T) (df : ∀ f F, T.fn f = some F → DF N T f F) (h : PR N P B k (call T n)) : PR N P B (k + 3) (call T (n + 1)) := by
  intro f ds g ws L I rs H Q E R hv ok j cj A outer s us room hg e0 rv
  have ok : OkV N L I rs H E Q (match T.fn f with
    | some F => callK T n (call T n) F ds g
    | none => .stk) := ok
  cases hF : T.fn f with
  | none => rw [hF] at ok; exact ok.elim
  | some F =>
    rw [hF] at ok
    have ok : OkV N L I rs H E Q (callK T n (call T n) F ds g) := ok
    unfold callK at ok
    have d := df f F hF
    unfold DF at d
    cases hk : F.kd with
    | fn =>
      rw [hk] at ok d
      exact pr_fn fa xf h d R hv ok j cj A outer s us room hg e0 rv
    | rcd c fs i =>
      rw [hk] at ok d
      obtain ⟨d1, d2, d3, d4, d5, d6, d7, d8⟩ := d
      cases n with
      | zero => exact ok.elim
      | succ n =>
        have di := df i _ d2
        have di : DFn N i ⟨fs.length + 1, F.dfl, fs.length + 1, false, .fn, rcS 1 fs⟩ := di
        obtain ⟨_, _, _, _, _, _, _, _, dvs, _, _, _, _, hdv, _⟩ := di
        exact pr_rcd fa xf h d1 d2 d3 d4 d5 d6 d7 d8 ⟨dvs, hdv⟩ R hv ok j cj A outer s us room hg e0 rv
    | new c i =>
      rw [hk] at ok d
      exact pr_new fa xf h d R hv ok j cj A outer s us room hg e0 rv
    | cel c i =>
      rw [hk] at ok d
      exact pr_cel fa xf h d R hv ok j cj A outer s us room hg e0 rv
theorem pr_all (fa : PFa N T) (xf : XcF N P T) (df : ∀ f F, T.fn f = some F → DF N T f F) : ∀ n : Nat, PR N P B (3 * n) (call T n)
  | 0 => pr_zero
  | n + 1 => pr_succ fa xf df (pr_all fa xf df n)
end
end PC
end
section
set_option maxHeartbeats 4000000
namespace PC
open PySem L2 PyProof.Rows
theorem vr_ints {N : Nm} {I : Hp} {rs : List Addr} : ∀ ns : List Int, VRs N I rs (ns.map D.int) (ns.map V.int)
  | [] => .nil
  | i :: ns => .cons (.int i) (vr_ints ns)
/-- one list that is known to be the script, or nothing -/
def oneH (a : Addr) (o : Obj) (xs : List V) (b : Addr) : Option HO := if b = a then some (.frz o (.lst xs)) else none
theorem law_run {N : Nm} {P : Program} {T : Tab} {n lw : Nat} {mb : Str → Option Value} {a : Addr} {s1 : Shared} {vs : List Value} {ns : List Int} (KX : N.K.In s1.heap) (hG : s1.heap.Ns mainGlobals N.mg) (hB : s1.heap.Ns builtinsNs mb)
    (hbb : ∀ x : Str, x ≠ "__name__" → mb x = bootBuiltins x) (noLim : s1.heap.NoLimit) (hg : s1.gens = #[]) (ha : s1.heap.get? a = some { cls := .type "list", data := .seq vs.toArray }) (hi : IntsAre vs ns) (hl : ns.length ≤ sizeLine)
    (room : Room (3 * n) callerA) (fa : PFa N T) (xf : XcF N P T) (df : ∀ f F, T.fn f = some F → DF N T f F) (hc : ∃ g, call T n lw [.lst (ns.map D.int)] [] = .ok (.bl true) g) :
    codeAny (model P N.w) callerA (.call (.ref (N.fa lw)) ⟨[.ref a], []⟩) (fun r s' => r = .ok (.ret (.bool true)) ∧ OldK s1.heap s'.heap ∧ s'.os = s1.os ∧ AllBare s'.gens) s1 := by
  obtain ⟨gE, hc⟩ := hc
  have rv := vals_ints hi
  have lenV := hi.length
  have from_ : ∀ H : Hp, SqX N.K H a (ns.map V.int) → HOk P N.w H s1.heap → (∀ b, H b ≠ none → b = a ∧ (∃ o xs, H b = some (.frz o (.lst xs))) ∧ N.K.lookup a = none) →
      codeAny (model P N.w) callerA (.call (.ref (N.fa lw)) ⟨[.ref a], []⟩) (fun r s' => r = .ok (.ret (.bool true)) ∧ OldK s1.heap s'.heap ∧ s'.os = s1.os ∧ AllBare s'.gens) s1 := by
    intro H hS hok hA
    have noD : ∀ {b : Addr} {o : Obj} {es : Array DictEntry} {ep : Nat}, s1.heap.get? b = some o → o.data = .dict es ep → H b = none := by
      intro b o es ep e d
      cases q : H b with
      | none => rfl
      | some u =>
        obtain ⟨z, _⟩ := hA b (by rw [q]; exact fun z => by cases z)
        rw [z, ha] at e
        cases e
        cases (show Data.seq vs.toArray _ = Data.dict es ep from d)
    have keepNs : ∀ {b : Addr} {m : Str → Option Value}, s1.heap.Ns b m → (hidT s1.heap H).Ns b m := by
      rintro b m ⟨o, es, ep, e, d, r⟩
      exact ⟨o, es, ep, hidT_get e (noD e d), d, r⟩
    have KB : N.K.In (hidT s1.heap H) := fun b o e => hidT_get (KX b o e) (by
      cases q : H b with
      | none => rfl
      | some u =>
        obtain ⟨z, _, z2⟩ := hA b (by rw [q]; exact fun z => by cases z)
        rw [z, z2] at e
        cases e)
    obtain ⟨mc, c1, c2⟩ := noLim
    have MB : Mod N.K N.mg (hidT s1.heap H) := ⟨KB, keepNs hG, ⟨mb, keepNs hB, hbb⟩, ⟨mc, keepNs c1, c2⟩⟩
    have e0 : Env0 P N.w N.K N.mg (hidT s1.heap H) callerA [] s1 H := ⟨rfl, MB, fun _ _ z => of_hidT z, Nat.le_of_eq (hidT_size _ _), trivial, fun b z => (by cases z), hok, .of_eq hg⟩
    have R0 : Rel N (fun _ => none) H [] [] H := ⟨Same.refl H, fun _ _ z => (by cases z), rfl, List.nodup_nil, fun _ z => (by cases z), fun _ _ _ z => (by cases z)⟩
    have pr := pr_all (P := P) (B := hidT s1.heap H) fa xf df n lw [.lst (ns.map D.int)] [] [.ref a] (fun _ => none) H [] H (fun v _ => v = .bl true) (fun _ _ _ => False) R0 (.one (.lst hS (vr_ints ns)))
      (by rw [hc]; exact fun I' rs' H' b _ _ r => by cases r; rfl) 1 (.inl rfl) callerA [] s1 [.ref a] room rfl e0 (.cons rfl .nil)
    rw [show argJ (N.pn lw) [Value.ref a] 1 = ⟨[.ref a], []⟩ from argJ_all (us := [.ref a])] at pr
    refine codeAny_mono pr fun r s' h => ?_
    cases r with
    | error e =>
      obtain ⟨_, _, _, _, _, _, _, _, _, _, _, _, z⟩ := h
      exact z.elim
    | ok fl =>
      cases fl with
      | next => exact False.elim h
      | brk => exact False.elim h
      | cont => exact False.elim h
      | ret u =>
        obtain ⟨v, H', os, bare, un, hok', r', q⟩ := h
        have q : v = .bl true := q
        subst q
        obtain rfl : u = Value.bool true := r'
        refine ⟨rfl, OldK.of_keep fun b o e => ?_, os, bare⟩
        cases q : H b with
        | none => exact un.keep b o e q (fun z => by cases z) (fun z => by cases z)
        | some t =>
          obtain ⟨_, ⟨ob, xs, z⟩, _⟩ := hA b (by rw [q]; exact fun z => by cases z)
          obtain ⟨e1, _⟩ := hok b _ z
          obtain ⟨e2, _⟩ := hok' b _ (un.frzs b ob _ z)
          rw [e] at e1
          cases e1
          exact e2
  cases hk : N.K.lookup a with
  | some o =>
    have e := KX a o hk
    rw [ha] at e
    cases e
    exact from_ (fun _ => none) (.inr ⟨vs.toArray, _, hk, by rw [List.size_toArray, lenV]; exact hl, by simpa using rv⟩) (fun b u z => by cases z) fun b z => absurd rfl z
  | none =>
    refine from_ (oneH a { cls := .type "list", data := .seq vs.toArray } (ns.map V.int)) (.inl (.inr ⟨_, if_pos rfl⟩)) (fun b u z => ?_) fun b z => ?_
    · unfold oneH at z
      split at z
      · rename_i hb
        cases z
        subst hb
        exact ⟨ha, by rw [List.length_map]; exact hl, vs, _, rv, ha⟩
      · cases z
    · unfold oneH at z ⊢
      by_cases hb : b = a
      · exact ⟨hb, ⟨_, _, if_pos hb⟩, hk⟩
      · exact absurd (if_neg hb) z
/-- the goal of the head, from the law's run on data -/
theorem law_walk {l : PySem.W.OpenLaw} {m n : Nat} {q : Program} {loose : List Str} {XP : (Str → Option Value) → Heap → Prop} {YP : World → Heap → Prop} {d : DefRec} {T : Tab} {lw : Nat}
    (hm : l.most = some m) (hm2 : m ≤ sizeLine) (hd : d.params.defaults = []) (room : Room (3 * n) callerA)
    (hF : ∀ w mg h, YP w h → h.Ns mainGlobals mg → ∃ N : Nm, N.w = w ∧ N.mg = mg ∧ N.K.In h ∧ PFa N T ∧ XcF N l.prog T ∧ (∀ f F, T.fn f = some F → DF N T f F) ∧ mg d.name = some (.ref (N.fa lw)))
    (hc : ∀ ns : List Int, ns.length ≤ m → ∃ g, call T n lw [.lst (ns.map D.int)] [] = .ok (.bl true) g) :
    PySem.W.WalkO q loose XP YP l.row.toRowW d [] (fun f vs => PySem.call f vs) := by
  refine Att.attach_call hm hd fun w s0 s1 mg mb fa o pm cd doc a vs ns G Y ho hfd hcd hmg hobj hints hlen hg => ?_
  obtain ⟨N, e1, e2, hK, f1, fx, f2, f3⟩ := hF w mg _ Y G.T.g
  have e : fa = N.fa lw := by
    rw [hmg] at f3
    cases f3
    rfl
  subst e
  have h := law_run (N := N) (P := l.prog) (T := T) (n := n) (lw := lw) hK (by rw [e2]; exact G.T.g) G.T.b G.T.builtins G.T.nolimit hg hobj hints (Nat.le_trans hlen hm2) room f1 fx f2 (hc ns hlen)
  rw [e1] at h
  exact h
end PC
end
section
set_option maxHeartbeats 4000000
namespace PC
open PySem L2 PyProof.Rows
theorem valB_ok {N : Nm} : ∀ (n : Nat) (d : D) (u : Value), valB N.K n d u = true → ∃ v, RelV v u ∧ VR N (fun _ => none) [] d v
  | 0, _, _, h => by simp [valB] at h
  | n + 1, d, u, h => by
    have many : ∀ (ds : List D) (us : List Value), valB.go N.K n ds us = true → ∃ vs, Vals vs us ∧ VRs N (fun _ => none) [] ds vs := by
      intro ds
      induction ds with
      | nil =>
        intro us h
        cases us with
        | nil => exact ⟨[], .nil, .nil⟩
        | cons _ _ => exact Bool.noConfusion h
      | cons d ds ih =>
        intro us h
        cases us with
        | nil => exact Bool.noConfusion h
        | cons u us =>
          have h : (valB N.K n d u && valB.go N.K n ds us) = true := h
          simp only [Bool.and_eq_true] at h
          obtain ⟨v, r1, r2⟩ := valB_ok n d u h.1
          obtain ⟨vs, q1, q2⟩ := ih us h.2
          exact ⟨v :: vs, .cons r1 q1, .cons r2 q2⟩
    unfold valB at h
    split at h
    · exact ⟨.non, rfl, .non⟩
    · have := eq_of_beq h; subst this
      exact ⟨.bl _, rfl, .bl _⟩
    · have := eq_of_beq h; subst this
      exact ⟨.int _, ⟨_, rfl⟩, .int _⟩
    · rename_i x t
      have := eq_of_beq h; subst this
      exact ⟨.str (st x.cps.toList), by rw [st_of]; exact ⟨t, rfl⟩, .str _⟩
    · rename_i ds a
      split at h
      · rename_i od its m sl e
        simp only [Bool.and_eq_true, decide_eq_true_eq] at h
        obtain ⟨vs, q1, q2⟩ := many ds _ h.2
        exact ⟨.ref a, rfl, .tup (.inr ⟨_, its, m, e, rfl, rfl, h.1, q1⟩) q2⟩
      · exact Bool.noConfusion h
    · rename_i ds a
      split at h
      · rename_i its m sl e
        simp only [Bool.and_eq_true, decide_eq_true_eq] at h
        obtain ⟨vs, q1, q2⟩ := many ds _ h.2
        have es : sl = #[] := by simpa using h.1.1
        subst es
        exact ⟨.ref a, rfl, .lst (.inr ⟨its, m, e, h.1.2, q1⟩) q2⟩
      · exact Bool.noConfusion h
    · exact Bool.noConfusion h
theorem valBs_ok {N : Nm} (n : Nat) : ∀ (ds : List D) (us : List Value), valB.go N.K n ds us = true → ∃ vs, Vals vs us ∧ VRs N (fun _ => none) [] ds vs := by
  intro ds
  induction ds with
  | nil =>
    intro us h
    cases us with
    | nil => exact ⟨[], .nil, .nil⟩
    | cons _ _ => exact Bool.noConfusion h
  | cons d ds ih =>
    intro us h
    cases us with
    | nil => exact Bool.noConfusion h
    | cons u us =>
      have h : (valB N.K n d u && valB.go N.K n ds us) = true := h
      simp only [Bool.and_eq_true] at h
      obtain ⟨v, r1, r2⟩ := valB_ok n d u h.1
      obtain ⟨vs, q1, q2⟩ := ih us h.2
      exact ⟨v :: vs, .cons r1 q1, .cons r2 q2⟩
/-! ### dicts of the module -/
theorem ent_ok {N : Nm} : ∀ {ks : List (List Nat)} {ds : List D} {l : List DictEntry}, entB N.K ks ds l = true → ∃ vs, VRs N (fun _ => none) [] ds vs ∧ ks.length = vs.length ∧ l.any (·.refKey) = false ∧ ∀ x : List Nat, match ks.findIdx? (· == x) with
    | some j => ∃ v u e, vs[j]? = some v ∧ l.find? (·.key.isStr (st x)) = some e ∧ e.val = u ∧ RelV v u
    | none => l.find? (·.key.isStr (st x)) = none
  | [], [], [], _ => ⟨[], .nil, rfl, rfl, fun x => rfl⟩
  | [], [], _ :: _, h => Bool.noConfusion h
  | [], _ :: _, _, h => Bool.noConfusion h
  | _ :: _, [], _, h => Bool.noConfusion h
  | _ :: _, _ :: _, [], h => Bool.noConfusion h
  | k :: ks, d :: ds, e :: l, h => by
    have h : ((match e.key with
      | .str y _ => k == y.cps.toList
      | _ => false) && (valB N.K 20 d e.val && entB N.K ks ds l)) = true := h
    simp only [Bool.and_eq_true] at h
    obtain ⟨h1, h2, h3⟩ := h
    obtain ⟨v, r1, r2⟩ := valB_ok 20 d e.val h2
    obtain ⟨vs, q1, q2, q3, q4⟩ := ent_ok h3
    cases hk : e.key with
    | str y t =>
      rw [hk] at h1
      have h1 : k = y.cps.toList := eq_of_beq h1
      have hy : y = st k := by rw [h1, st_of]
      refine ⟨v :: vs, .cons r2 q1, by simp [q2], ?_, fun x => ?_⟩
      · rw [List.any_cons, q3]
        unfold DictEntry.refKey
        rw [hk]; rfl
      · have e1 : e.key.isStr (st x) = (k == x) := by
          rw [hk, hy]
          show (st k == st x) = (k == x)
          by_cases z : k = x
          · subst z; rw [beq_self_eq_true, beq_self_eq_true]
          · rw [beq_eq_false_iff_ne.mpr z, beq_eq_false_iff_ne.mpr fun y => z (st_inj y)]
        rw [List.findIdx?_cons, List.find?_cons, e1]
        cases z : (k == x) with
        | true => exact ⟨v, e.val, e, rfl, rfl, rfl, r1⟩
        | false =>
          have := q4 x
          simp only [Bool.false_eq_true, if_false]
          cases w : ks.findIdx? (· == x) with
          | none =>
            rw [w] at this
            exact this
          | some j =>
            rw [w] at this
            obtain ⟨v', u', e', a1, a2, a3, a4⟩ := this
            exact ⟨v', u', e', by simpa using a1, a2, a3, a4⟩
    | _ => rw [hk] at h1; exact Bool.noConfusion h1
theorem md_ok {N : Nm} {a : Addr} {d : D} (h : mdB N.K a d = true) (hd : He.dicW N.K a = some (He.keysIn N.w.params (mdK d))) : VR N (fun _ => none) [] d (.ref a) := by
  cases d with
  | mdc ks ds =>
    have h : (match N.K.lookup a with
      | some ⟨_, _, .dict es _, _⟩ => !ks.isEmpty && (ks.all (fun k => match k with | .s _ => true | .i _ => false) && entB N.K (ks.filterMap fun k => match k with | .s x => some x | .i _ => none) ds es.toList)
      | _ => false) = true := h
    obtain ⟨es, n, kd⟩ := He.dicW_ok hd
    rw [kd.at_] at h
    simp only [Bool.and_eq_true, Bool.not_eq_true', List.isEmpty_eq_false_iff] at h
    obtain ⟨h1, h2, h3⟩ := h
    have e : ∀ l : List DK, (l.all (fun k => match k with | .s _ => true | .i _ => false)) = true → (l.filterMap fun k => match k with | .s x => some x | .i _ => none).map DK.s = l := by
      intro l
      induction l with
      | nil => intro _; rfl
      | cons c l ih =>
        intro h
        simp only [List.all_cons, Bool.and_eq_true] at h
        cases c with
        | i _ => exact Bool.noConfusion h.1
        | s x =>
          have := ih h.2
          simp only [List.filterMap_cons, List.map_cons, this]
    have ek := e ks h2
    generalize (ks.filterMap fun k => match k with | DK.s x => some x | DK.i _ => none) = kk at ek h3
    subst ek
    obtain ⟨vs, q1, q2, q3, q4⟩ := ent_ok h3
    refine .kdc kd (fun z => h1 (by rw [z]; rfl)) q2 (fun x => ?_) q1
    have := q4 x
    unfold KdAt
    cases w : kk.findIdx? (· == x) with
    | none =>
      rw [w] at this
      show PySem.W.nsIn N.K a (st x) = some none
      unfold PySem.W.nsIn
      rw [kd.at_]
      simp only [this, q3]
      rfl
    | some j =>
      rw [w] at this
      obtain ⟨v, u, e', a1, a2, a3, a4⟩ := this
      refine ⟨v, u, a1, ?_, a4⟩
      unfold PySem.W.nsIn
      rw [kd.at_]
      simp only [a2, a3]
  | _ => exact Bool.noConfusion h
/-! ### what is used of a text -/
theorem cmB_ok {K : PySem.W.Frag} {c m : Str} (h : cmB K c m = true) : ClX.CRead K (He.ga K c) (.type "type") ∧ ClX.CMet K (He.ga K c) (.type "type") m (He.ma K (He.ga K c) m) (adA K (.cmeth c m)) := by
  unfold cmB at h
  simp only [Bool.and_eq_true] at h
  obtain ⟨⟨h1, h2⟩, h3, h4, h5⟩ := h
  refine ⟨⟨h1, He.eqO_ok h2⟩, ?_, ?_, h5⟩
  · split at h3
    · rename_i b p C e
      simp only [Bool.and_eq_true, beq_iff_eq] at h3
      obtain ⟨rfl, rfl, rfl⟩ := h3
      exact e
    · exact Bool.noConfusion h3
  · split at h4
    · rename_i g rest e
      have h4 : g = adA K (.cmeth c m) := by simpa using h4
      exact ⟨rest, by rw [← h4]; exact e⟩
    · exact Bool.noConfusion h4
theorem owB_ok {K : PySem.W.Frag} {C : Addr} (h : owB K C = true) (c : Cls K C) : OwC K C := by
  unfold owB at h
  simp only [Bool.and_eq_true, decide_eq_true_eq, List.all_eq_true] at h
  obtain ⟨a1, a2, a3, a4, a5, a6, a7, a8, a9, a10⟩ := h
  exact ⟨a1, a2, a3, He.eqO_ok a4, He.eqO_ok a5, a6, He.eqO_ok a7, He.eqO_ok a8, a9, a10, c⟩
/-- what is written in an own __init__ -/
def xiOf : List Stmt → Option (Str × Str × Str)
  | [.Expr (.Call (.Attribute (.Call (.Name s p0) [] [] p1) m p2) [.Constant (.str txt) j p3] [] p4) p5, .Assign [.Attribute (.Name sf p6) f p7] (.Name p p8) p9] => if s = "super" ∧ m = "__init__" ∧ (p2.endLine == p4.line) = true then some (sf, p, f) else none
  | _ => none
theorem xiOf_ok {l : List Stmt} {sf p f : Str} (h : xiOf l = some (sf, p, f)) : ∃ (txt : Str) (j : Nat) (p0 p1 p2 p3 p4 p5 p6 p7 p8 p9 : Pos), (p2.endLine == p4.line) = true ∧
    l = [.Expr (.Call (.Attribute (.Call (.Name "super" p0) [] [] p1) "__init__" p2) [.Constant (.str txt) j p3] [] p4) p5, .Assign [.Attribute (.Name sf p6) f p7] (.Name p p8) p9] := by
  unfold xiOf at h
  split at h
  · split at h
    · rename_i hh
      obtain ⟨rfl, rfl, h3⟩ := hh
      cases h
      exact ⟨_, _, _, _, _, _, _, _, _, _, _, _, h3, rfl⟩
    · cases h
  · cases h
def Xi.chk (nm : List Str) (i : Xi) : Bool := decide (xiOf i.body = some (i.sf, i.pp, nmO nm i.f)) && ((match (i.params.posonlyargs ++ i.params.args).head? with
  | some ar => decide (ar.arg = i.sf)
  | none => false) && (decide (i.sf ≠ i.pp) && (((i.sf == ("__debug__" : Str)) == false && (i.pp == ("__debug__" : Str)) == false) && (((i.sf == ("__classdict__" : Str)) == false && (i.pp == ("__classdict__" : Str)) == false) &&
  ((match i.scope.names.lookup ("super" : Str), i.scope.names.lookup ("__class__" : Str), i.scope.names.lookup i.sf, i.scope.names.lookup i.pp, i.scope.kind with
    | some .globalImplicit, some .free, some .local, some .local, .function => true
    | _, _, _, _, _ => false) && (!i.scope.isCoroutine && (!i.scope.isGenerator && i.scope.names.all fun x => match x.2 with
    | .cell => false
    | _ => true)))))))
/-- how an own __init__ takes what is handed in -/
def Xi.binds (i : Xi) : Prop := ∀ (kV doc pm : Value) (an : Option Addr) (cda : Addr) (ct : Value) (cc : Addr) (a b : Value), bindArgs (PySem.W.ksFn i.name i.qual i.params i.body i.scope .none kV doc pm an (.ref cda) ct cc) ⟨[a, b], []⟩ = pure [(i.sf, a), (i.pp, b)] ∧ bindArgs (PySem.W.ksFn i.name i.qual i.params i.body i.scope .none kV doc pm an (.ref cda) ct cc) ⟨[a], [(i.pp, b)]⟩ = pure [(i.sf, a), (i.pp, b)]
theorem xb_facts (b : XT) : ExcBaseFacts (xbB b) (xbN b) (xbI b) (xbM b) ∧ StoreFacts (xbB b) (xbM b) "object.__setattr__" "object" ∧ PySem.W.KxsFacts (xbB b) (xbI b) := by
  cases b with
  | run => exact ⟨PySem.F.excBase_RuntimeError, PySem.F.store_RuntimeError, PySem.W.kxs_RuntimeError⟩
  | look => exact ⟨PySem.F.excBase_LookupError, PySem.F.store_LookupError, PySem.W.kxs_LookupError⟩
  | _ => exact ⟨PySem.F.excBase_ValueError, PySem.F.store_ValueError, PySem.W.kxs_ValueError⟩
theorem own_ok {P : Program} {K : PySem.W.Frag} {nm : List Str} {file : Str} {C : Addr} {i : Xi} (h : xcB K i.b (nmO nm i.f) C = true) (h2 : xfnB K file i.qual C (He.ma K C "__init__") = true) (h3 : fnK K (He.ma K C "__init__") = some (i.name, i.qual, i.params, .stmts i.body, i.scope, mainGlobals, [], builtinsNs)) (hc : i.chk nm = true) (hb : i.binds)
    (hfile : P.main.file = file) (hsup : (P.main.scope.names.lookup ("super" : Str)).isSome = false) :
    EX.Own P K (xbB i.b) (xbN i.b) (xbI i.b) (xbM i.b) C (nmO nm i.f) i.pp ∧ XfC K C ∧ PySem.W.findIn K (.ref C) (nmO nm i.f) = some none ∧ ExcC K C := by
  unfold xcB at h
  simp only [Bool.and_eq_true, decide_eq_true_eq] at h
  obtain ⟨a1, a2, a3, a4, a5, a6, a7, a8, a9, a10, a11, a12, a13, a14, a15, a16, a17, a18, a19, a20, a21⟩ := h
  obtain ⟨f1, f2, f3⟩ := xb_facts i.b
  refine ⟨⟨f1, f2, f3, a1, a2, He.eqO_ok a3, a4, He.eqO_ok a5, a6, a7, a8, a9, a10, He.eqO_ok a11, He.eqO_ok a12, hsup, ?_⟩, ⟨He.eqO_ok a15, He.eqO_ok a16, a7, a4⟩, He.eqO_ok a21, ⟨He.eqO_ok a15, He.eqO_ok a16, a7, a4, He.eqO_ok a17, He.eqO_ok a18, a19, a20⟩⟩
  unfold Xi.chk at hc
  simp only [Bool.and_eq_true, decide_eq_true_eq, beq_iff_eq, Bool.not_eq_true'] at hc
  obtain ⟨c1, c2, c3, ⟨c4, c5⟩, ⟨c6, c7⟩, c8, c9, c10, c11⟩ := hc
  obtain ⟨txt, j, p0, p1, p2, p3, p4, p5, p6, p7, p8, p9, hl, eb⟩ := xiOf_ok c1
  split at c2
  · rename_i ar har
    have c2 : ar.arg = i.sf := by simpa using c2
    unfold xfnB at h2
    unfold fnK at h3
    cases q : K.lookup (He.ma K C "__init__") with
    | none => rw [q] at h2; cases h2
    | some o =>
      obtain ⟨oc, od, dt, osl⟩ := o
      rw [q] at h2 h3
      cases dt with
      | func fd =>
        obtain ⟨n1, n2, n3, n4, n5, n6, n7, n8, n9, n10, n11, n12, n13, n14, n15⟩ := fd
        have e2 : (some (n1, n2, n3, n4, n5, n6, [], n15) : He.FnW) = some (i.name, i.qual, i.params, .stmts i.body, i.scope, mainGlobals, [], builtinsNs) := h3
        simp only [Option.some.injEq, Prod.mk.injEq] at e2
        obtain ⟨h31, h32, h33, h34, h35, h36, _, h38⟩ := e2
        subst h31 h32 h33 h34 h35 h36 h38
        dsimp only at h2
        split at h2
        · rename_i y cc cda
          simp only [Bool.and_eq_true, beq_iff_eq] at h2
          obtain ⟨rfl, g1, g2, g3⟩ := h2
          split at g1
          · rename_i ocl ocd2 C' csl ecc
            have g1 : C' = C := by simpa using g1
            subst g1
            split at g3
            · rename_i ocd odd vs osd ecd
              split at g3
              · rename_i g tg eg
                split at c8
                · rename_i l1 l2 l3 l4 l5
                  refine ⟨He.ma K C' "__init__", cc, cda, i.name, i.qual, i.sf, txt, g, tg, i.params, i.scope, .none, n9, n10, n11, n14, oc, n12, od, osl, ocd, odd, vs, osd, ocl, ocd2, csl, ar, j, p0, p1, p2, p3, p4, p5, p6, p7, p8, p9, hl, He.eqO_ok a13, a14, ?_, g2, ecd, eg, by rw [hfile]; exact g3, ecc, har, c2, c3, c4, c5, c6, c7, l1, l2, l3, l4, l5, c9, c10, ?_, fun a b => ?_, fun a b => ?_⟩
                  · rw [← eb]
                    exact q
                  · intro x hx z
                    have := List.all_eq_true.mp c11 x hx
                    rw [z] at this
                    cases this
                  · rw [← eb]
                    exact (hb _ _ _ _ _ _ _ a b).1
                  · rw [← eb]
                    exact (hb _ _ _ _ _ _ _ a b).2
                · cases c8
              · cases g3
            · cases g3
          · cases g1
        · cases h2
      | _ => cases h2
  · cases c2
/-- what is seen of the text alone -/
def Pd.chk (p : Prg) (d : Pd) : Bool := match d.F.kd with
  | .fn => (d.ps.length == d.F.np && d.ns.length == d.F.nn) && (C8.scC d.ns d.ps d.scope && chSs p.z d.ns d.scope d.F.body d.body)
  | .rcd c _ i => clB p d c i
  | .new c i => clB p d c i
  | .cel c i => clB p d c i
where clB (p : Prg) (d : Pd) (c i : Nat) : Bool := match p.cl.lookup c, p.fs.lookup i with
  | some k, some e => (decide (d.at_ = .glo k.x) && decide (e.at_ = .meth k.x "__init__")) && ((match e.ps with
    | _ :: ps => decide (ps = d.ps)
    | [] => false) && (d.cw.isEmpty && d.cs.all fun q => e.cs.contains (q.1 + 1, q.2 + 1)))
  | _, _ => false
/-- the methods and getters of the classes are the defs that they are said to be -/
def Prg.mtB (p : Prg) : Bool := p.cl.all fun q => q.2.mt.all (fun r => match p.fs.lookup r.2 with
    | some d => decide (d.at_ = .meth q.2.x (nmO p.nm r.1))
    | none => false) && q.2.pr.all (fun r => match p.fs.lookup r.2 with
    | some d => decide (d.at_ = .get q.2.x (nmO p.nm r.1))
    | none => false) && q.2.cm.all (fun r => match p.fs.lookup r.2 with
    | some d => decide (d.at_ = .cmeth q.2.x (nmO p.nm r.1))
    | none => false)
def Prg.nmB (p : Prg) : Bool := decide p.nm.Nodup && p.nm.all fun x => match x.cps.toList with
  | 0 :: _ => false
  | _ => true
theorem mem_lk {α : Type} {k : Nat} {v : α} : ∀ {l : List (Nat × α)}, l.lookup k = some v → (k, v) ∈ l
  | [], h => by simp at h
  | (a, b) :: l, h => by
    unfold List.lookup at h
    cases q : (k == a) with
    | true =>
      rw [q] at h
      cases h
      rw [eq_of_beq q]
      exact List.mem_cons_self
    | false =>
      rw [q] at h
      exact List.mem_cons_of_mem _ (mem_lk h)
/-- how a def's parameters are bound -/
def Pd.binds (d : Pd) : Prop := d.isFn = true →
  (d.F.va = false → (d.F.dfl = [] → ∀ (kV doc pm : Value) (an : Option Addr) (cdv ct : Value) (us : List Value) (j : Nat), us.length = d.F.np → (us.length = j ∨ (j ≤ us.length ∧ (us.length, j) ∈ d.cs) ∨ (j = us.length + 1 ∧ us.length ∈ d.cw)) → bindArgs (PySem.W.fnOf d.name d.qual d.params d.body d.scope .none kV doc pm an cdv ct) (argJ d.ps us j) = pure (d.ps.zip us)) ∧
      (d.F.dfl ≠ [] → ∀ (T : Addr) (kV doc pm : Value) (an : Option Addr) (cdv ct : Value) (us its : List Value) (j : Nat), its.length = d.F.dfl.length → us.length ≤ d.F.np → d.F.np ≤ us.length + its.length → (us.length = j ∨ (j ≤ us.length ∧ (us.length, j) ∈ d.cs) ∨ (j = us.length + 1 ∧ us.length ∈ d.cw)) →
        ∃ k, bindArgs (PySem.W.fnOf d.name d.qual d.params d.body d.scope (.ref T) kV doc pm an cdv ct) (argJ d.ps us j) = seqItems? (.ref T) >>= k ∧ k (some its.toArray) = pure (d.ps.zip (us ++ its.drop (its.length - (d.F.np - us.length)))))) ∧
    (d.F.va = true → d.F.dfl = [] ∧ d.cs = [] ∧ d.cw = [] ∧ ∃ (ps : List Str) (pv : Str), d.ps = ps ++ [pv] ∧ ∀ (kV doc pm : Value) (an : Option Addr) (cdv ct : Value) (us rest : List Value), us.length = ps.length →
      bindArgs (PySem.W.fnOf d.name d.qual d.params d.body d.scope .none kV doc pm an cdv ct) ⟨us ++ rest, []⟩ = (newTuple rest >>= fun t => pure (ps.zip us ++ [(pv, t)])))
/-- what is said of a record -/
def Prg.recs (p : Prg) : Prop := ∀ (f : Nat) (d : Pd), p.fs.lookup f = some d → match d.F.kd with
  | .rcd c fs i => p.T.fn i = some ⟨fs.length + 1, d.F.dfl, fs.length + 1, false, .fn, rcS 1 fs⟩ ∧ d.F.np = fs.length ∧ d.F.va = false ∧ fs.Nodup ∧ fs.length < 900 ∧ d.F.dfl.length ≤ fs.length ∧ ∀ x ∈ fs, p.T.fl c x = true
  | _ => True
theorem nm_inj {l : List Str} (hn : l.Nodup) (h0 : ∀ x ∈ l, (match x.cps.toList with | 0 :: _ => false | _ => true) = true) : ∀ i j, nmO l i = nmO l j → i = j := by
  intro i j h
  unfold nmO at h
  cases hi : l[i]? with
  | none =>
    cases hj : l[j]? with
    | none =>
      rw [hi, hj] at h
      have := st_inj h
      simpa using this
    | some y =>
      rw [hi, hj] at h
      have := h0 y (List.mem_of_getElem? hj)
      have h : st [0, i] = y := h
      rw [← h] at this
      simp at this
  | some x =>
    cases hj : l[j]? with
    | none =>
      rw [hi, hj] at h
      have := h0 x (List.mem_of_getElem? hi)
      have h : x = st [0, j] := h
      rw [h] at this
      simp at this
    | some y =>
      rw [hi, hj] at h
      have h : x = y := h
      subst h
      obtain ⟨l1, g1⟩ := List.getElem?_eq_some_iff.mp hi
      obtain ⟨l2, g2⟩ := List.getElem?_eq_some_iff.mp hj
      exact (List.getElem_inj hn).mp (g1.trans g2.symm)
theorem propB_ok {K : PySem.W.Frag} {c p : Str} (h : propB K c p = true) : PropOf K (He.ga K c) p (He.ma K (He.ga K c) p) (adA K (.get c p)) := by
  unfold propB at h
  simp only [Bool.and_eq_true, decide_eq_true_eq] at h
  obtain ⟨h1, h2, h3, h4⟩ := h
  refine ⟨He.eqO_ok h1, He.eqO_ok h2, h3, ?_⟩
  split at h4
  · rename_i g rest e
    have h4 : g = adA K (.get c p) := by simpa using h4
    exact ⟨rest, by rw [← h4]; exact e⟩
  · exact Bool.noConfusion h4
/-- what a program's names hold -/
def Prg.N (p : Prg) (K : PySem.W.Frag) (w : World) (mg : Str → Option Value) : Nm := { p.z with
  K := K, w := w, mg := mg
  fa := fun i => match p.fs.lookup i with
    | some d => adA K d.at_
    | none => 0
  ca := fun c => match p.cl.lookup c with
    | some k => He.ga K k.x
    | none => match p.xc.lookup c with
      | some k => He.ga K k.x
      | none => 0 }
theorem dfl_ok {N : Nm} {dV : Value} {ds : List D} (h : dflQ N.K dV ds = true) : ∃ vs, VRs N (fun _ => none) [] ds vs ∧ DflV N.K dV vs := by
  cases ds with
  | nil =>
    cases dV with
    | none => exact ⟨[], .nil, .inl ⟨rfl, rfl⟩⟩
    | _ => cases h
  | cons d ds =>
    cases dV with
    | ref T =>
      have h : (match N.K.lookup T with
        | some ⟨_, _, .seq its _, _⟩ => valB.go N.K 20 (d :: ds) its.toList
        | _ => false) = true := h
      split at h
      · rename_i c dd its n sl e
        obtain ⟨vs, q1, q2⟩ := valBs_ok (N := N) 20 _ _ h
        refine ⟨vs, q2, .inr ⟨fun z => (by rw [z] at q2; cases q2), T, _, its.toList, n, rfl, e, by simp, q1⟩⟩
      · exact Bool.noConfusion h
    | _ => cases h
theorem Prg.ok {p : Prg} (hc : p.fs.all (fun q => q.2.chk p) = true) (hm : p.mtB = true) (hn : p.nmB = true) (hr : p.recs) (hb : ∀ q ∈ p.fs, q.2.binds) {P : Program} (hx : ∀ q ∈ p.xc, ∀ i, q.2.i = some i → i.chk p.nm = true ∧ i.binds) (hfile : P.main.file = p.file) (hsup : (P.main.scope.names.lookup ("super" : Str)).isSome = false) {w : World} {mg : Str → Option Value} {h : Heap} {K : PySem.W.Frag} (X : K.In h) (G : h.Ns mainGlobals mg) (c : p.obs K = p.val w) :
    PFa (p.N K w mg) p.T ∧ XcF (p.N K w mg) P p.T ∧ (∀ f F, p.T.fn f = some F → DF (p.N K w mg) p.T f F) ∧ ∀ (i : Nat) (d : Pd) (x : Str), p.fs.lookup i = some d → d.at_ = .glo x → mg x = some (.ref ((p.N K w mg).fa i)) := by
  have c1 : p.look K = true := congrArg (fun z : He.AlT => z.1.1) c
  have c20 : ((p.fs.map fun q => if q.2.isFn then fnA K (adA K q.2.at_) else none) ++ p.xc.map (xiA K)) = ((p.fs.map fun q => if q.2.isFn then q.2.val else none) ++ p.xc.map xiW) := congrArg (fun z : He.AlT => z.1.2) c
  obtain ⟨c2, c4⟩ := List.append_inj c20 (by rw [List.length_map, List.length_map])
  have c3 : (p.mds.map fun q => He.dicW K (He.ga K q.1)) = p.mds.map fun q => some (He.keysIn w.params (mdK q.2)) := congrArg (fun z : He.AlT => z.2) c
  unfold Prg.look at c1
  simp only [Bool.and_eq_true, List.all_eq_true] at c1
  obtain ⟨⟨ks, k0⟩, k1, k2, ⟨k3, k5⟩, k4⟩ := c1
  have sys_ : SysD K := by
    unfold sysB at ks
    split at ks
    · rename_i o e
      exact ⟨o, e, by simpa using ks⟩
    · cases ks
  unfold Prg.nmB at hn
  simp only [Bool.and_eq_true, decide_eq_true_eq, List.all_eq_true] at hn
  unfold Prg.mtB at hm
  simp only [Bool.and_eq_true, List.all_eq_true] at hm
  have fae : ∀ {i : Nat} {d : Pd}, p.fs.lookup i = some d → (p.N K w mg).fa i = adA K d.at_ := fun {i d} e => by
    show (match p.fs.lookup i with
      | some d => adA K d.at_
      | none => 0) = _
    rw [e]
  have cae : ∀ {i : Nat} {d : Pc}, p.cl.lookup i = some d → (p.N K w mg).ca i = He.ga K d.x := fun {i d} e => by
    show (match p.cl.lookup i with
      | some k => He.ga K k.x
      | none => match p.xc.lookup i with
        | some k => He.ga K k.x
        | none => 0) = _
    rw [e]
  have glo1 : ∀ (i : Nat) (d : Pd) (x : Str), p.fs.lookup i = some d → d.at_ = .glo x → x = d.x ∧ mg x = some (.ref (He.ga K x)) := fun i d x e ha => by
    have ko := k1 _ (mem_lk e)
    unfold Pd.ok at ko
    simp only [Bool.and_eq_true] at ko
    have z := ko.1
    rw [ha] at z
    simp only [Bool.and_eq_true, decide_eq_true_eq] at z
    exact ⟨z.2, He.glo_ok X G z.1⟩
  have fun_ : ∀ (i : Nat) (d : Pd), p.fs.lookup i = some d → d.isFn = true → ∃ fd dvs, FunD K d.name d.qual d.params d.body d.scope dvs [] (adA K d.at_) fd ∧ VRs (p.N K w mg) (fun _ => none) [] d.F.dfl dvs := fun i d e hf => by
    have ko := k1 _ (mem_lk e)
    have cm : fnA K (adA K d.at_) = d.val := by
      have q : ∀ (l : List (Nat × Pd)), (l.map fun q => if q.2.isFn then fnA K (adA K q.2.at_) else none) = (l.map fun q => if q.2.isFn then q.2.val else none) → ∀ q ∈ l, q.2.isFn = true → fnA K (adA K q.2.at_) = q.2.val := by
        intro l
        induction l with
        | nil => intro _ q hq; cases hq
        | cons a l ih =>
          intro h q hq hf
          simp only [List.map_cons, List.cons.injEq] at h
          rcases List.mem_cons.mp hq with z | z
          · subst z
            have := h.1
            rw [if_pos hf, if_pos hf] at this
            exact this
          · exact ih h.2 q z hf
      exact q p.fs c2 _ (mem_lk e) hf
    unfold Pd.ok at ko
    rw [hf] at ko
    simp only [if_true, Bool.and_eq_true] at ko
    obtain ⟨_, kp, k5⟩ := ko
    unfold fnA at cm
    cases q : K.lookup (adA K d.at_) with
    | none => rw [q] at k5; cases k5
    | some o =>
      obtain ⟨oc, od, dt, osl⟩ := o
      rw [q] at k5 cm
      cases dt with
      | func fd =>
        obtain ⟨n1, n2, n3, n4, n5, n6, n7, n8, n9, n10, n11, n12, n13, n14, n15⟩ := fd
        have e2 : (some (n1, n2, n3, n4, n5, n6, n7, n15) : He.FnW) = some (d.name, d.qual, d.params, .stmts d.body, d.scope, mainGlobals, [], builtinsNs) := cm
        simp only [Option.some.injEq, Prod.mk.injEq] at e2
        obtain ⟨h1, h2, h3, h4, h5, h6, h7, h8⟩ := e2
        subst h1 h2 h3 h4 h5 h6 h7 h8
        have k5 : (PySem.W.codeIn K n13 d.qual && dflQ K n8 d.F.dfl) = true := k5
        simp only [Bool.and_eq_true] at k5
        obtain ⟨vs, v1, v2⟩ := dfl_ok (N := p.N K w mg) k5.2
        exact ⟨_, vs, ⟨⟨oc, od, n8, n9, n10, n11, n12, n13, n14, osl, rfl, q, k5.1, v2, .inl rfl⟩, kp⟩, v1⟩
      | _ => cases k5
  have mkr_ : ∀ (i : Nat) (d : Pd), p.fs.lookup i = some d → d.isFn = false → ∃ x, d.at_ = .glo x ∧ Mk K (He.ga K x) (He.ma K (He.ga K x) "__init__") := fun i d e hf => by
    have ko := k1 _ (mem_lk e)
    unfold Pd.ok at ko
    rw [hf] at ko
    simp only [Bool.false_eq_true, if_false, Bool.and_eq_true] at ko
    have z := ko.2
    split at z
    · rename_i x hx
      exact ⟨x, hx, He.mkr_ok z⟩
    · exact Bool.noConfusion z
  have cls_ : ∀ (i : Nat) (k : Pc), p.cl.lookup i = some k → Cls K (He.ga K k.x) ∧ (∀ q ∈ k.mt, Meth K (He.ga K k.x) (nmO p.nm q.1) (He.ma K (He.ga K k.x) (nmO p.nm q.1))) ∧ (∀ q ∈ k.pr, PropOf K (He.ga K k.x) (nmO p.nm q.1) (He.ma K (He.ga K k.x) (nmO p.nm q.1)) (adA K (.get k.x (nmO p.nm q.1)))) ∧ (∀ f ∈ k.fl, NoAttr K (He.ga K k.x) (nmO p.nm f)) ∧ ∀ q ∈ k.cm, ClX.CRead K (He.ga K k.x) (.type "type") ∧ ClX.CMet K (He.ga K k.x) (.type "type") (nmO p.nm q.1) (He.ma K (He.ga K k.x) (nmO p.nm q.1)) (adA K (.cmeth k.x (nmO p.nm q.1))) := fun i k e => by
    have ko := k3 _ (mem_lk e)
    unfold Pc.ok at ko
    simp only [Bool.and_eq_true, List.all_eq_true] at ko
    obtain ⟨a1, a2, ⟨a3, a5⟩, a4⟩ := ko
    exact ⟨He.cls_ok a1, fun q hq => He.meth_ok (a2 q hq), fun q hq => propB_ok (a3 q hq), fun f hf => He.noat_ok (a4 f hf), fun q hq => cmB_ok (a5 q hq)⟩
  have ow_ : ∀ (i : Nat), p.T.ow i = true → ∃ k, p.cl.lookup i = some k ∧ k.ow = true ∧ mg k.x = some (.ref (He.ga K k.x)) ∧ OwC K (He.ga K k.x) ∧ (∀ r ∈ k.mt, PySem.W.fnIn K (He.ma K (He.ga K k.x) (nmO p.nm r.1)) = true) ∧ (∀ n ∈ tyNs, PySem.W.kitOne K (.type n) (.ref (He.ga K k.x)) = some false) ∧
      ∀ (j : Nat) (k' : Pc), p.cl.lookup j = some k' → k'.ow = true → PySem.W.kitOne K (.ref (He.ga K k'.x)) (.ref (He.ga K k.x)) = some (decide (j = i)) := fun i hi => by
    have hi : (match p.cl.lookup i with
      | some k => k.ow
      | none => false) = true := hi
    split at hi
    · rename_i k e
      have q := k5
      unfold Prg.owQ at q
      rw [List.all_eq_true] at q
      have z := q _ (mem_lk e)
      simp only [hi, Bool.not_true, Bool.false_or, Bool.and_eq_true, List.all_eq_true, decide_eq_true_eq] at z
      obtain ⟨z1, z2, z3, z4, z5⟩ := z
      refine ⟨k, e, hi, He.glo_ok X G z1, owB_ok z2 (cls_ i k e).1, z3, z4, fun j k' e' h' => ?_⟩
      have y := z5 _ (mem_lk e')
      simp only [h', Bool.not_true, Bool.false_or, decide_eq_true_eq] at y
      exact y
    · cases hi
  have xcl_ : ∀ (c : Nat) (k : Xc), p.xc.lookup c = some k → (p.N K w mg).ca c = He.ga K k.x ∧ (p.N K w mg).cn c = k.x ∧ mg k.x = some (.ref (He.ga K k.x)) ∧ ∀ i, k.i = some i → p.bl.contains "super" = true ∧ xcB K i.b (nmO p.nm i.f) (He.ga K k.x) = true ∧ xfnB K p.file i.qual (He.ga K k.x) (He.ma K (He.ga K k.x) "__init__") = true ∧
      ((∀ t ∈ xtAll, PySem.W.kitOne K (.ref (He.ga K k.x)) (.type (xtN t)) = some (k.xi.contains t)) ∧ ∀ r ∈ p.xc, PySem.W.kitOne K (.ref (He.ga K k.x)) (.ref (He.ga K r.2.x)) = some (k.xi.contains (.own r.1))) ∧ (∀ r ∈ p.xc, PySem.W.exmOne K (.ref (He.ga K k.x)) (.ref (He.ga K r.2.x)) = some (k.xi.contains (.own r.1))) ∧ fnK K (He.ma K (He.ga K k.x) "__init__") = some (i.name, i.qual, i.params, .stmts i.body, i.scope, mainGlobals, [], builtinsNs) := fun c k e => by
    have q := k0
    unfold Prg.xcQ at q
    rw [List.all_eq_true] at q
    have z := q _ (mem_lk e)
    simp only [Bool.and_eq_true] at z
    obtain ⟨z1, z2, z3⟩ := z
    have ecl : p.cl.lookup c = none := by simpa using z2
    refine ⟨?_, ?_, He.glo_ok X G z1, fun i hi => ?_⟩
    · show (match p.cl.lookup c with
        | some k => He.ga K k.x
        | none => match p.xc.lookup c with
          | some k => He.ga K k.x
          | none => 0) = _
      rw [ecl, e]
    · show (match p.cl.lookup c with
        | some k => k.x
        | none => ((p.xc.lookup c).map fun z : Xc => z.x).getD "") = _
      rw [ecl, e]
      rfl
    · rw [hi] at z3
      simp only [Bool.and_eq_true, List.all_eq_true, decide_eq_true_eq] at z3
      obtain ⟨y1, y2, y3, y4, y4', y5⟩ := z3
      refine ⟨y1, y2, y3, ⟨y4, y4'⟩, y5, ?_⟩
      have qq : ∀ (l : List (Nat × Xc)), l.map (xiA K) = l.map xiW → ∀ q ∈ l, xiA K q = xiW q := by
        intro l
        induction l with
        | nil => intro _ q hq; cases hq
        | cons a l ih =>
          intro h q hq
          simp only [List.map_cons, List.cons.injEq] at h
          rcases List.mem_cons.mp hq with z | z
          · subst z; exact h.1
          · exact ih h.2 q z
      have z := qq p.xc c4 _ (mem_lk e)
      unfold xiA xiW at z
      simp only [hi] at z
      exact z
  have exf_ : ∀ (c f : Nat), p.T.exf c = some f → ∃ k i, p.xc.lookup c = some k ∧ k.i = some i ∧ i.f = f := fun c f hf => by
    have hf : (p.xc.lookup c).bind (fun k => k.i.map (·.f)) = some f := hf
    cases e : p.xc.lookup c with
    | none => rw [e] at hf; cases hf
    | some k =>
      rw [e] at hf
      have hf : k.i.map (·.f) = some f := hf
      cases ei : k.i with
      | none => rw [ei] at hf; cases hf
      | some i =>
        rw [ei] at hf
        exact ⟨k, i, rfl, ei, by simpa using hf⟩
  have xi_ : ∀ (c : Nat) (k : Xc) (t : XT), p.xc.lookup c = some k → p.T.xi c t = k.xi.contains t := fun c k t e => by
    show (match p.xc.lookup c with
      | some k => k.xi.contains t
      | none => false) = _
    rw [e]
  refine ⟨⟨fun cc m f hf => ?_, fun f c hf => ?_, fun c hw => ?_, fun c hw => ?_, fun c m f hw hf => ?_, fun x hx => ?_, fun i d hd => ?_, fun f hf => ?_, fun cc m f hf => ?_, fun cc m f hf => ?_, nm_inj hn.1 hn.2, fun cc f hf => ?_⟩, ⟨sys_, fun c hc' => ?_, fun c f hf => ?_, fun c f c' hf hc' => ?_, fun c f hf => ?_, fun c f t hf ht => ?_⟩, fun f F hF => ?_, fun i d x e ha => ?_⟩
  · have hf : (p.cl.lookup cc).bind (fun k => k.cm.lookup m) = some f := hf
    cases e : p.cl.lookup cc with
    | none => rw [e] at hf; cases hf
    | some k =>
      rw [e] at hf
      have hf : k.cm.lookup m = some f := hf
      obtain ⟨a1, a2, a3, a4, a5⟩ := cls_ cc k e
      have hq := (hm _ (mem_lk e)).2 _ (mem_lk hf)
      rw [cae e]
      have := a5 _ (mem_lk hf)
      split at hq
      · rename_i d ed
        have hq : d.at_ = .cmeth k.x (nmO p.nm m) := by simpa using hq
        rw [fae ed, hq]
        exact ⟨_, this⟩
      · exact Bool.noConfusion hq
  · have hf : (p.fs.lookup f).bind (fun d => match d.F.kd with
      | .cel c _ => some c
      | _ => none) = some c := hf
    cases e : p.fs.lookup f with
    | none => rw [e] at hf; cases hf
    | some d =>
      rw [e] at hf
      have hf : (match d.F.kd with
        | .cel c _ => some c
        | _ => none) = some c := hf
      have ck := List.all_eq_true.mp hc _ (mem_lk e)
      unfold Pd.chk at ck
      cases hk : d.F.kd with
      | cel c' i =>
        rw [hk] at hf ck
        cases hf
        have hfn : d.isFn = false := by unfold Pd.isFn; rw [hk]
        have ck : Pd.chk.clB p d c i = true := ck
        unfold Pd.chk.clB at ck
        split at ck
        · rename_i kk ee e1 e2
          simp only [Bool.and_eq_true, decide_eq_true_eq] at ck
          obtain ⟨⟨q1, q2⟩, q3, q4⟩ := ck
          obtain ⟨x', hx', M⟩ := mkr_ f d e hfn
          rw [q1] at hx'
          cases hx'
          rw [fae e, cae e1, q1]
          exact ⟨rfl, M.kp⟩
        · exact Bool.noConfusion ck
      | _ => rw [hk] at hf; cases hf
  · obtain ⟨k, e, _, _, z, _⟩ := ow_ c hw
    rw [cae e]
    exact z
  · obtain ⟨k, e, hk, g1, _, _, z4, z5⟩ := ow_ c hw
    rw [cae e]
    have en : (p.N K w mg).cn c = k.x := by
      show (match p.cl.lookup c with
        | some k => k.x
        | none => ((p.xc.lookup c).map fun z : Xc => z.x).getD "") = _
      rw [e]
    refine ⟨by rw [en]; exact g1, z4, fun c' hw' => ?_⟩
    obtain ⟨k', e', hk', _⟩ := ow_ c' hw'
    rw [cae e']
    exact z5 c' k' e' hk'
  · obtain ⟨k, e, hk, _, _, z3, _⟩ := ow_ c hw
    have hf : (p.cl.lookup c).bind (fun k => k.mt.lookup m) = some f := hf
    rw [e] at hf
    have hf : k.mt.lookup m = some f := hf
    have hq := (hm _ (mem_lk e)).1.1 _ (mem_lk hf)
    have := z3 _ (mem_lk hf)
    split at hq
    · rename_i d ed
      have hq : d.at_ = .meth k.x (nmO p.nm m) := by simpa using hq
      rw [fae ed, hq]
      exact this
    · exact Bool.noConfusion hq
  · have hx : p.bl.contains x = true := hx
    exact He.free_ok X G (k2 x (by simpa using hx))
  · have hd : (p.gl.lookup i).map (·.2) = some d := hd
    simp only [Option.map_eq_some_iff] at hd
    obtain ⟨q, hq, rfl⟩ := hd
    have h3 := k4 _ (mem_lk hq)
    have eg : (p.N K w mg).gn i = q.1 := by
      show ((p.gl.lookup i).map (·.1)).getD ("" : Str) = _
      rw [hq]; rfl
    split at h3
    · rename_i u hu
      have hu : PySem.W.nsIn K mainGlobals q.1 = some (some u) := hu
      have hmg : mg q.1 = some u := PySem.W.mg_of X G hu
      cases hmd : isMd q.2 with
      | false =>
        rw [hmd, if_neg Bool.false_ne_true] at h3
        obtain ⟨v, r1, r2⟩ := valB_ok (N := p.N K w mg) 20 q.2 u h3
        exact ⟨v, u, by rw [eg]; exact hmg, r1, r2⟩
      | true =>
        rw [hmd, if_pos rfl] at h3
        simp only [Bool.and_eq_true] at h3
        have e1 := He.glo_ok X G h3.1
        rw [hmg] at e1
        cases e1
        have hin : q ∈ p.mds := by
          unfold Prg.mds
          rw [List.mem_filterMap]
          exact ⟨(i, q), mem_lk hq, by rw [if_pos hmd]⟩
        have hdw : He.dicW K (He.ga K q.1) = some (He.keysIn w.params (mdK q.2)) := by
          have z : ∀ (l : List (Str × D)), (l.map fun q => He.dicW K (He.ga K q.1)) = (l.map fun q => some (He.keysIn w.params (mdK q.2))) → ∀ q ∈ l, He.dicW K (He.ga K q.1) = some (He.keysIn w.params (mdK q.2)) := by
            intro l
            induction l with
            | nil => intro _ q hq; cases hq
            | cons a l ih =>
              intro h q hq
              simp only [List.map_cons, List.cons.injEq] at h
              rcases List.mem_cons.mp hq with z | z
              · subst z; exact h.1
              · exact ih h.2 q z
          exact z _ c3 q hin
        exact ⟨.ref (He.ga K q.1), .ref (He.ga K q.1), by rw [eg]; exact hmg, rfl, md_ok (N := p.N K w mg) h3.2 hdw⟩
    · exact Bool.noConfusion h3
  · have hf : (match p.fs.lookup f with
      | some d => (match d.at_ with
        | .glo _ => true
        | _ => false)
      | none => false) = true := hf
    split at hf
    · rename_i d e
      split at hf
      · rename_i x ha
        obtain ⟨e1, e2⟩ := glo1 f d x e ha
        have ef : (p.N K w mg).fnm f = d.x := by
          show ((p.fs.lookup f).map (·.x)).getD ("" : Str) = _
          rw [e]; rfl
        rw [ef, ← e1, fae e, ha]
        refine ⟨e2, ?_⟩
        show PySem.W.keepIn K (.ref (He.ga K x)) = true
        cases hfn : d.isFn with
        | true =>
          obtain ⟨fd, dvs, FD, _⟩ := fun_ f d e hfn
          have := FD.kp
          rw [ha] at this
          exact this
        | false =>
          obtain ⟨x', hx', M⟩ := mkr_ f d e hfn
          rw [ha] at hx'
          cases hx'
          exact M.kp
      · exact Bool.noConfusion hf
    · exact Bool.noConfusion hf
  · have hf : (p.cl.lookup cc).bind (fun k => k.mt.lookup m) = some f := hf
    cases e : p.cl.lookup cc with
    | none => rw [e] at hf; cases hf
    | some k =>
      rw [e] at hf
      have hf : k.mt.lookup m = some f := hf
      obtain ⟨a1, a2, a3, a4, a5⟩ := cls_ cc k e
      have hq := (hm _ (mem_lk e)).1.1 _ (mem_lk hf)
      rw [cae e]
      refine ⟨a1, ?_⟩
      have := a2 _ (mem_lk hf)
      split at hq
      · rename_i d ed
        have hq : d.at_ = .meth k.x (nmO p.nm m) := by simpa using hq
        rw [fae ed, hq]
        exact this
      · exact Bool.noConfusion hq
  · have hf : (p.cl.lookup cc).bind (fun k => k.pr.lookup m) = some f := hf
    cases e : p.cl.lookup cc with
    | none => rw [e] at hf; cases hf
    | some k =>
      rw [e] at hf
      have hf : k.pr.lookup m = some f := hf
      obtain ⟨a1, a2, a3, a4, a5⟩ := cls_ cc k e
      have hq := (hm _ (mem_lk e)).1.2 _ (mem_lk hf)
      rw [cae e]
      refine ⟨a1, He.ma K (He.ga K k.x) (nmO p.nm m), ?_⟩
      have := a3 _ (mem_lk hf)
      split at hq
      · rename_i d ed
        have hq : d.at_ = .get k.x (nmO p.nm m) := by simpa using hq
        rw [fae ed, hq]
        exact this
      · exact Bool.noConfusion hq
  · have hf : (match p.cl.lookup cc with
      | some k => k.fl.contains f
      | none => false) = true := hf
    split at hf
    · rename_i k e
      obtain ⟨a1, a2, a3, a4, a5⟩ := cls_ cc k e
      rw [cae e]
      exact ⟨a1, a4 f (by simpa using hf)⟩
    · exact Bool.noConfusion hf
  · have hc' : (p.xc.lookup c).isSome = true := hc'
    obtain ⟨k, e⟩ := Option.isSome_iff_exists.mp hc'
    obtain ⟨e1, e2, e3, _⟩ := xcl_ c k e
    rw [e1, e2]
    exact e3
  · obtain ⟨k, i, e, ei, rfl⟩ := exf_ c f hf
    obtain ⟨e1, e2, e3, e4⟩ := xcl_ c k e
    obtain ⟨y1, y2, y3, y4, y5, y6⟩ := e4 i ei
    obtain ⟨h1, h2⟩ := hx _ (mem_lk e) i ei
    have exp : (p.N K w mg).xp c = i.pp := by
      show (match p.xc.lookup c with
        | some k => (match k.i with
          | some i => i.pp
          | none => "")
        | none => "") = _
      rw [e]
      simp only [ei]
    rw [e1, exp]
    exact ⟨He.free_ok X G (k2 _ (by simpa using y1)), _, _, _, _, (own_ok y2 y3 y6 h1 h2 hfile hsup).1⟩
  · obtain ⟨k, i, e, ei, rfl⟩ := exf_ c f hf
    obtain ⟨e1, e2, e3, e4⟩ := xcl_ c k e
    obtain ⟨y1, y2, y3, y4, y5, y6⟩ := e4 i ei
    have hc' : (p.xc.lookup c').isSome = true := hc'
    obtain ⟨k', e'⟩ := Option.isSome_iff_exists.mp hc'
    obtain ⟨e1', _⟩ := xcl_ c' k' e'
    rw [e1, e1', xi_ c k _ e]
    exact y5 _ (mem_lk e')
  · obtain ⟨k, i, e, ei, rfl⟩ := exf_ c f hf
    obtain ⟨e1, e2, e3, e4⟩ := xcl_ c k e
    obtain ⟨y1, y2, y3, y4, y5, y6⟩ := e4 i ei
    obtain ⟨h1, h2⟩ := hx _ (mem_lk e) i ei
    rw [e1]
    exact (own_ok (P := P) y2 y3 y6 h1 h2 hfile hsup).2
  · obtain ⟨k, i, e, ei, rfl⟩ := exf_ c f hf
    obtain ⟨e1, e2, e3, e4⟩ := xcl_ c k e
    obtain ⟨y1, y2, y3, y4, y5, y6⟩ := e4 i ei
    rw [xi_ c k _ e, e1]
    cases t with
    | own c' =>
      have hc' : (p.xc.lookup c').isSome = true := ht c' rfl
      obtain ⟨k', e'⟩ := Option.isSome_iff_exists.mp hc'
      show PySem.W.kitOne K _ (.ref ((p.N K w mg).ca c')) = _
      rw [(xcl_ c' k' e').1]
      exact y4.2 _ (mem_lk e')
    | val => exact y4.1 .val (by decide)
    | run => exact y4.1 .run (by decide)
    | look => exact y4.1 .look (by decide)
    | key => exact y4.1 .key (by decide)
    | idx => exact y4.1 .idx (by decide)
    | nyi => exact y4.1 .nyi (by decide)
  · have hF : (p.fs.lookup f).map (·.F) = some F := hF
    simp only [Option.map_eq_some_iff] at hF
    obtain ⟨d, e, rfl⟩ := hF
    have ck := List.all_eq_true.mp hc _ (mem_lk e)
    have ep : (p.N K w mg).pn f = d.ps := by
      show ((p.fs.lookup f).map (·.ps)).getD [] = _
      rw [e]; rfl
    have ecs : (p.N K w mg).cs f = d.cs := by
      show ((p.fs.lookup f).map (·.cs)).getD [] = _
      rw [e]; rfl
    have ecw : (p.N K w mg).cw f = d.cw := by
      show ((p.fs.lookup f).map (·.cw)).getD [] = _
      rw [e]; rfl
    unfold DF
    unfold Pd.chk at ck
    have cls2 : ∀ (c i : Nat), Pd.chk.clB p d c i = true → d.isFn = false → DCl (p.N K w mg) p.T f d.F c i := fun c i hcl hfn => by
      unfold Pd.chk.clB at hcl
      split at hcl
      · rename_i kk ee e1 e2
        simp only [Bool.and_eq_true, decide_eq_true_eq] at hcl
        obtain ⟨⟨q1, q2⟩, q3, q5, q4⟩ := hcl
        obtain ⟨x', hx', M⟩ := mkr_ f d e hfn
        rw [q1] at hx'
        cases hx'
        have ei : (p.N K w mg).pn i = ee.ps := by
          show ((p.fs.lookup i).map (·.ps)).getD [] = _
          rw [e2]; rfl
        have eci : (p.N K w mg).cs i = ee.cs := by
          show ((p.fs.lookup i).map (·.cs)).getD [] = _
          rw [e2]; rfl
        refine ⟨?_, ?_, ?_, fun n j hj => ?_, by rw [ecw]; simpa using q5⟩
        · rw [fae e, fae e2, q1, q2]
          exact M
        · rw [fae e, cae e1, q1]
          rfl
        · rw [ei, ep]
          split at q3
          · rename_i s0 ps0 e3
            have q3 : ps0 = d.ps := by simpa using q3
            exact ⟨s0, by rw [e3, q3]⟩
          · exact Bool.noConfusion q3
        · rw [ecs] at hj
          rw [eci]
          have := List.all_eq_true.mp q4 _ hj
          simpa using this
      · exact Bool.noConfusion hcl
    have hfnk : d.isFn = (match d.F.kd with | .fn => true | _ => false) := rfl
    cases hk : d.F.kd with
    | fn =>
      rw [hk] at ck hfnk
      have hfn : d.isFn = true := hfnk
      simp only [Bool.and_eq_true, beq_iff_eq] at ck
      obtain ⟨⟨a1, a2⟩, a3, a4⟩ := ck
      obtain ⟨fd, dvs, FD, hdv⟩ := fun_ f d e hfn
      obtain ⟨b1, b2⟩ := hb _ (mem_lk e) hfn
      refine ⟨by rw [ep]; exact a1, d.name, d.qual, d.params, d.body, d.scope, fd, d.ns, dvs, by rw [fae e]; exact FD, by rw [ep]; exact C8.fnScope_by a3, a2, a4, hdv, fun hv => ?_, fun hv => ?_⟩
      · obtain ⟨b3, b4⟩ := b1 hv
        unfold CsOk
        rw [ep, ecs, ecw]
        exact ⟨b3, b4⟩
      · rw [ep, ecs, ecw]
        exact b2 hv
    | rcd c fs i =>
      rw [hk] at ck hfnk
      have rr := hr f d e
      rw [hk] at rr
      exact ⟨cls2 c i ck hfnk, rr⟩
    | new c i =>
      rw [hk] at ck hfnk
      exact cls2 c i ck hfnk
    | cel c i =>
      rw [hk] at ck hfnk
      exact cls2 c i ck hfnk
  · obtain ⟨e1, e2⟩ := glo1 i d x e ha
    rw [fae e, ha]
    exact e2
end PC
end
section
set_option maxHeartbeats 4000000
namespace PC
/-- a turn of a loop -/
def forF (T : Tab) (cf : CF) (one : Bool) (tg : List Nat) (b : List S) (x : D) (env : Env) (g : G) : R Fl := match asgD g one tg x env with
  | some env1 => execs T cf b env1 g
  | none => .stk
theorem R.bind_if {α β : Type} (p : Prop) [Decidable p] (a b : R α) (k : α → G → R β) : (if p then a else b).bind k = if p then a.bind k else b.bind k := by split <;> rfl
theorem R.m_if {α : Type} (b : Bool) (x y : R α) : (match b with | true => x | false => y) = if b = true then x else y := by cases b <;> rfl
theorem endR_if (p : Prop) [Decidable p] (a b : R Fl) : endR (if p then a else b) = if p then endR a else endR b := by split <;> rfl
theorem ok_if {α : Type} (p : Prop) [Decidable p] (a b : α) (g : G) : R.ok (if p then a else b) g = if p then R.ok a g else R.ok b g := by split <;> rfl
theorem bind_fun {α β : Type} (m : R α) (k1 k2 : α → G → R β) (h : ∀ a g, k1 a g = k2 a g) : m.bind k1 = m.bind k2 := by cases m <;> simp [h]
section
variable (T : Tab) (cf : CF) (env : Env) (g : G)
theorem b_ok {α β : Type} (a : α) (g : G) (k : α → G → R β) : (R.ok a g).bind k = k a g := (rfl)
theorem b_stk {α β : Type} (k : α → G → R β) : (R.stk : R α).bind k = .stk := (rfl)
theorem v_loc (i : Nat) : (evM T cf (.loc i)).v env g = match env[i]? with | some (some d) => .ok d g | _ => .stk := (rfl)
theorem v_con (d : D) : (evM T cf (.con d)).v env g = .ok d g := (rfl)
theorem v_glo (n : Nat) : (evM T cf (.glo n)).v env g = opt (T.glo n) g := (rfl)
theorem v_bin (o : Bop) (a b : E) : (evM T cf (.bin o a b)).v env g = ((evM T cf a).v env g).bind fun x g1 => ((evM T cf b).v env g1).bind fun y g2 => opt (binD g2 o x y) g2 := (rfl)
theorem v_neg (a : E) : (evM T cf (.neg a)).v env g = ((evM T cf a).v env g).bind fun x g1 => match x with | .int i => .ok (.int (-i)) g1 | _ => .stk := (rfl)
theorem v_not_ (a : E) : (evM T cf (.not_ a)).v env g = ((evM T cf a).v env g).bind fun x g1 => opt ((tru g1 x).map fun b => .bl (!b)) g1 := (rfl)
theorem v_and_ (a b : E) : (evM T cf (.and_ a b)).v env g = ((evM T cf a).v env g).bind fun x g1 => match tru g1 x with | some true => (evM T cf b).v env g1 | some false => .ok x g1 | none => .stk := (rfl)
theorem v_or_ (a b : E) : (evM T cf (.or_ a b)).v env g = ((evM T cf a).v env g).bind fun x g1 => match tru g1 x with | some true => .ok x g1 | some false => (evM T cf b).v env g1 | none => .stk := (rfl)
theorem v_cmp (o : Cop) (a b : E) : (evM T cf (.cmp o a b)).v env g = ((evM T cf a).v env g).bind fun x g1 => ((evM T cf b).v env g1).bind fun y g2 => opt ((cmpD g2 o x y).map .bl) g2 := (rfl)
theorem v_chain (o p : Cop) (a b c : E) : (evM T cf (.chain o p a b c)).v env g = ((evM T cf a).v env g).bind fun x g1 => ((evM T cf b).v env g1).bind fun y g2 => match cmpD g2 o x y with | some true => ((evM T cf c).v env g2).bind fun z g3 => opt ((cmpD g3 p y z).map .bl) g3 | some false => .ok (.bl false) g2 | none => .stk := (rfl)
theorem w_ite (c a b : E) : (evM T cf (.ite c a b)).v env g = ((evM T cf c).t env g).bind fun t g1 => match t with | true => (evM T cf a).v env g1 | false => (evM T cf b).v env g1 := (rfl)
theorem v_ite (c a b : E) : (evM T cf (.ite c a b)).v env g = ((evM T cf c).t env g).bind fun t g1 => if t = true then (evM T cf a).v env g1 else (evM T cf b).v env g1 := by
  rw [w_ite]; exact bind_fun _ _ _ fun t g1 => by cases t <;> rfl
theorem v_call (f : Nat) (as : List E) : (evM T cf (.call f as)).v env g = (evs T cf as env g).bind fun vs g1 => cf f vs g1 := (rfl)
theorem v_callK (f : Nat) (as es : List E) : (evM T cf (.callK f as es)).v env g = (evs T cf as env g).bind fun vs g1 => (evs T cf es env g1).bind fun ws g2 => cf f (vs ++ ws) g2 := (rfl)
theorem v_meth (m : Nat) (o : E) (as : List E) : (evM T cf (.meth m o as)).v env g = ((evM T cf o).v env g).bind fun x g1 => match metF T g1 m x with | some f => (evs T cf as env g1).bind fun vs g2 => cf f (x :: vs) g2 | none => .stk := (rfl)
theorem v_fld (f : Nat) (o : E) : (evM T cf (.fld f o)).v env g = ((evM T cf o).v env g).bind fun x g1 => flR T f x g1 := (rfl)
theorem v_prop (m : Nat) (o : E) : (evM T cf (.prop m o)).v env g = ((evM T cf o).v env g).bind fun x g1 => prR T cf m x g1 := (rfl)
theorem v_bi (b : Bi) (as : List E) : (evM T cf (.bi b as)).v env g = (evs T cf as env g).bind fun vs g1 => biD g1 b vs := (rfl)
theorem v_isi (t : List Ty) (a : E) : (evM T cf (.isi t a)).v env g = ((evM T cf a).v env g).bind fun x g1 => opt ((anyTy T g1 x t).map .bl) g1 := (rfl)
theorem w_bm (m : Bm) (o : E) (as : List E) : (evM T cf (.bm m o as)).v env g = ((evM T cf o).v env g).bind fun x g1 => match bmT g1 m x with | true => (evs T cf as env g1).bind fun vs g2 => bmD g2 m x vs | false => .stk := (rfl)
theorem v_bm (m : Bm) (o : E) (as : List E) : (evM T cf (.bm m o as)).v env g = ((evM T cf o).v env g).bind fun x g1 => if bmT g1 m x = true then (evs T cf as env g1).bind fun vs g2 => bmD g2 m x vs else .stk := by
  rw [w_bm]; exact bind_fun _ _ _ fun x g1 => by cases bmT g1 m x <;> rfl
theorem v_sub (o i : E) : (evM T cf (.sub o i)).v env g = ((evM T cf o).v env g).bind fun x g1 => ((evM T cf i).v env g1).bind fun y g2 => opt (subD g2 x y) g2 := (rfl)
theorem v_slc (o lo hi : E) : (evM T cf (.slc o lo hi)).v env g = ((evM T cf o).v env g).bind fun x g1 => ((evM T cf lo).o env g1).bind fun y g2 => ((evM T cf hi).o env g2).bind fun z g3 => opt (slcD g3 x y z) g3 := (rfl)
theorem v_listR (a : E) : (evM T cf (.listR a)).v env g = ((evM T cf a).v env g).bind fun x g1 => listRD x g1 := (rfl)
theorem v_repl (o : E) (y z : List Nat) : (evM T cf (.repl o y z)).v env g = ((evM T cf o).v env g).bind fun x g1 => replD y z x g1 := (rfl)
theorem v_rev (o : E) : (evM T cf (.rev o)).v env g = ((evM T cf o).v env g).bind fun x g1 => match top g1 x with | .lst l => .ok (.lst l.reverse) g1 | _ => .stk := (rfl)
theorem v_own1 (k : Ow) (m : Nat) (a : E) : (evM T cf (.own1 k m a)).v env g = ((evM T cf a).v env g).bind fun x g1 => ownR1 T cf k m x g1 := (rfl)
theorem v_own2 (k : Ow) (m : Nat) (a b : E) : (evM T cf (.own2 k m a b)).v env g = ((evM T cf a).v env g).bind fun x g1 => ((evM T cf b).v env g1).bind fun y g2 => ownR2 T cf k m x y g2 := (rfl)
theorem v_ownC (k : Ow) (m : Nat) (a b : E) : (evM T cf (.ownC k m a b)).v env g = ((evM T cf a).v env g).bind fun x g1 => ((evM T cf b).v env g1).bind fun y g2 => ownRC T cf k m x y g2 := (rfl)
theorem w_methK (m f : Nat) (o : E) (es : List E) : (evM T cf (.methK m f o es)).v env g = ((evM T cf o).v env g).bind fun x g1 => if decide (metF T g1 m x = some f) then (evs T cf es env g1).bind fun ws g2 => if decide (ws.length = es.length) then cf f (x :: ws) g2 else .stk else .stk := (rfl)
theorem v_methK (m f : Nat) (o : E) (es : List E) : (evM T cf (.methK m f o es)).v env g = ((evM T cf o).v env g).bind fun x g1 => if metF T g1 m x = some f then (evs T cf es env g1).bind fun ws g2 => if ws.length = es.length then cf f (x :: ws) g2 else .stk else .stk := by
  rw [w_methK]; exact bind_fun _ _ _ fun x g1 => by simp only [decide_eq_true_eq]
theorem w_tup (as : List E) : (evM T cf (.tup as)).v env g = (evs T cf as env g).bind fun vs g1 => if decide (vs.length ≤ LIM) then .ok (.tup vs) g1 else .stk := (rfl)
theorem v_tup (as : List E) : (evM T cf (.tup as)).v env g = (evs T cf as env g).bind fun vs g1 => if vs.length ≤ LIM then .ok (.tup vs) g1 else .stk := by
  rw [w_tup]; exact bind_fun _ _ _ fun vs g1 => by simp only [decide_eq_true_eq]
theorem v_lst (h : Bool) (as : List E) : (evM T cf (.lst h as)).v env g = (evs T cf as env g).bind fun vs g1 => mkL h vs g1 := (rfl)
theorem w_dct (h : Bool) (ks : List DK) (es : List E) : (evM T cf (.dct h ks es)).v env g = (evs T cf es env g).bind fun vs g1 => if decide (vs.length = ks.length ∧ ks.Nodup ∧ ks.length ≤ 15) then (if h then .ok (.ref g1.length) (g1 ++ [.dct ks vs]) else .ok (.dct ks vs) g1) else .stk := (rfl)
theorem v_dct (h : Bool) (ks : List DK) (es : List E) : (evM T cf (.dct h ks es)).v env g = (evs T cf es env g).bind fun vs g1 => if vs.length = ks.length ∧ ks.Nodup ∧ ks.length ≤ 15 then (if h = true then .ok (.ref g1.length) (g1 ++ [.dct ks vs]) else .ok (.dct ks vs) g1) else .stk := by
  rw [w_dct]; exact bind_fun _ _ _ fun vs g1 => by simp only [decide_eq_true_eq]
theorem w_dctS (a : E) (ks : List DK) (es : List E) : (evM T cf (.dctS a ks es)).v env g = ((evM T cf a).v env g).bind fun x g1 => match x with | .dct kz vz => if decide (kz.length ≤ 15 ∧ vz.length = kz.length ∧ ks.Nodup ∧ ks.length ≤ 15) then (evs T cf es env g1).bind fun vs g2 => if decide (vs.length = ks.length) then .ok (.dct (putAk kz ks) (putAv kz vz ks vs)) g2 else .stk else .stk | _ => .stk := (rfl)
theorem v_dctS (a : E) (ks : List DK) (es : List E) : (evM T cf (.dctS a ks es)).v env g = ((evM T cf a).v env g).bind fun x g1 => match x with | .dct kz vz => if kz.length ≤ 15 ∧ vz.length = kz.length ∧ ks.Nodup ∧ ks.length ≤ 15 then (evs T cf es env g1).bind fun vs g2 => if vs.length = ks.length then .ok (.dct (putAk kz ks) (putAv kz vz ks vs)) g2 else .stk else .stk | _ => .stk := by
  rw [w_dctS]; exact bind_fun _ _ _ fun x g1 => by cases x <;> simp only [decide_eq_true_eq]
theorem w_dget (o i y : E) : (evM T cf (.dget o i y)).v env g = ((evM T cf o).v env g).bind fun x g1 => match (dctD g1 x).isSome with | true => ((evM T cf i).v env g1).bind fun u g2 => ((evM T cf y).v env g2).bind fun z g3 => opt (dgetD g3 x u z) g3 | false => .stk := (rfl)
theorem v_dget (o i y : E) : (evM T cf (.dget o i y)).v env g = ((evM T cf o).v env g).bind fun x g1 => if (dctD g1 x).isSome = true then ((evM T cf i).v env g1).bind fun u g2 => ((evM T cf y).v env g2).bind fun z g3 => opt (dgetD g3 x u z) g3 else .stk := by
  rw [w_dget]; exact bind_fun _ _ _ fun x g1 => by cases (dctD g1 x).isSome <;> rfl
theorem w_dget1 (o i : E) : (evM T cf (.dget1 o i)).v env g = ((evM T cf o).v env g).bind fun x g1 => match (dctD g1 x).isSome with | true => ((evM T cf i).v env g1).bind fun u g2 => opt (dgetD g2 x u .non) g2 | false => .stk := (rfl)
theorem v_dget1 (o i : E) : (evM T cf (.dget1 o i)).v env g = ((evM T cf o).v env g).bind fun x g1 => if (dctD g1 x).isSome = true then ((evM T cf i).v env g1).bind fun u g2 => opt (dgetD g2 x u .non) g2 else .stk := by
  rw [w_dget1]; exact bind_fun _ _ _ fun x g1 => by cases (dctD g1 x).isSome <;> rfl
theorem v_itemsL (o : E) : (evM T cf (.itemsL o)).v env g = ((evM T cf o).v env g).bind fun x g1 => itemsR x g1 := (rfl)
theorem v_addL (a b : E) : (evM T cf (.addL a b)).v env g = ((evM T cf a).v env g).bind fun x g1 => ((evM T cf b).v env g1).bind fun y g2 => addR x y g2 := (rfl)
theorem v_dictP (a : E) : (evM T cf (.dictP a)).v env g = ((evM T cf a).v env g).bind fun x g1 => dictR x g1 := (rfl)
theorem v_frz (a : E) : (evM T cf (.frz a)).v env g = ((evM T cf a).v env g).bind fun x g1 => frzD x g1 := (rfl)
theorem v_comp (h : Bool) (own tg : List Nat) (one : Bool) (it cond elt : E) : (evM T cf (.comp h own tg one it cond elt)).v env g = ((evM T cf it).i env g).bind fun xs g1 => compR h own tg one (evM T cf cond).c (evM T cf elt).v env xs g1 := (rfl)
theorem t_not (a : E) : (evM T cf (.not_ a)).t env g = ((evM T cf a).t env g).bind fun t g1 => .ok (!t) g1 := (rfl)
theorem t_and (a b : E) : (evM T cf (.and_ a b)).t env g = ((evM T cf a).t env g).bind fun t g1 => if t = true then (evM T cf b).t env g1 else .ok false g1 := by
  exact bind_fun _ _ _ fun t g1 => by cases t <;> rfl
theorem t_or (a b : E) : (evM T cf (.or_ a b)).t env g = ((evM T cf a).t env g).bind fun t g1 => if t = true then .ok true g1 else (evM T cf b).t env g1 := by
  exact bind_fun _ _ _ fun t g1 => by cases t <;> rfl
theorem t_loc (i : Nat) : (evM T cf (.loc i)).t env g = ((evM T cf (.loc i)).v env g).bind fun x g1 => opt (tru g1 x) g1 := (rfl)
theorem t_con (d : D) : (evM T cf (.con d)).t env g = ((evM T cf (.con d)).v env g).bind fun x g1 => opt (tru g1 x) g1 := (rfl)
theorem t_glo (n : Nat) : (evM T cf (.glo n)).t env g = ((evM T cf (.glo n)).v env g).bind fun x g1 => opt (tru g1 x) g1 := (rfl)
theorem t_bin (o : Bop) (a b : E) : (evM T cf (.bin o a b)).t env g = ((evM T cf (.bin o a b)).v env g).bind fun x g1 => opt (tru g1 x) g1 := (rfl)
theorem t_neg (a : E) : (evM T cf (.neg a)).t env g = ((evM T cf (.neg a)).v env g).bind fun x g1 => opt (tru g1 x) g1 := (rfl)
theorem t_cmp (o : Cop) (a b : E) : (evM T cf (.cmp o a b)).t env g = ((evM T cf (.cmp o a b)).v env g).bind fun x g1 => opt (tru g1 x) g1 := (rfl)
theorem t_chain (o p : Cop) (a b c : E) : (evM T cf (.chain o p a b c)).t env g = ((evM T cf (.chain o p a b c)).v env g).bind fun x g1 => opt (tru g1 x) g1 := (rfl)
theorem t_ite (c a b : E) : (evM T cf (.ite c a b)).t env g = ((evM T cf (.ite c a b)).v env g).bind fun x g1 => opt (tru g1 x) g1 := (rfl)
theorem t_call (f : Nat) (as : List E) : (evM T cf (.call f as)).t env g = ((evM T cf (.call f as)).v env g).bind fun x g1 => opt (tru g1 x) g1 := (rfl)
theorem t_callK (f : Nat) (as es : List E) : (evM T cf (.callK f as es)).t env g = ((evM T cf (.callK f as es)).v env g).bind fun x g1 => opt (tru g1 x) g1 := (rfl)
theorem t_meth (m : Nat) (o : E) (as : List E) : (evM T cf (.meth m o as)).t env g = ((evM T cf (.meth m o as)).v env g).bind fun x g1 => opt (tru g1 x) g1 := (rfl)
theorem t_fld (f : Nat) (o : E) : (evM T cf (.fld f o)).t env g = ((evM T cf (.fld f o)).v env g).bind fun x g1 => opt (tru g1 x) g1 := (rfl)
theorem t_prop (m : Nat) (o : E) : (evM T cf (.prop m o)).t env g = ((evM T cf (.prop m o)).v env g).bind fun x g1 => opt (tru g1 x) g1 := (rfl)
theorem t_bi (b : Bi) (as : List E) : (evM T cf (.bi b as)).t env g = ((evM T cf (.bi b as)).v env g).bind fun x g1 => opt (tru g1 x) g1 := (rfl)
theorem t_isi (t : List Ty) (a : E) : (evM T cf (.isi t a)).t env g = ((evM T cf (.isi t a)).v env g).bind fun x g1 => opt (tru g1 x) g1 := (rfl)
theorem t_bm (m : Bm) (o : E) (as : List E) : (evM T cf (.bm m o as)).t env g = ((evM T cf (.bm m o as)).v env g).bind fun x g1 => opt (tru g1 x) g1 := (rfl)
theorem t_sub (o i : E) : (evM T cf (.sub o i)).t env g = ((evM T cf (.sub o i)).v env g).bind fun x g1 => opt (tru g1 x) g1 := (rfl)
theorem t_slc (o lo hi : E) : (evM T cf (.slc o lo hi)).t env g = ((evM T cf (.slc o lo hi)).v env g).bind fun x g1 => opt (tru g1 x) g1 := (rfl)
theorem t_rev (o : E) : (evM T cf (.rev o)).t env g = ((evM T cf (.rev o)).v env g).bind fun x g1 => opt (tru g1 x) g1 := (rfl)
theorem t_own1 (k : Ow) (m : Nat) (a : E) : (evM T cf (.own1 k m a)).t env g = ((evM T cf (.own1 k m a)).v env g).bind fun x g1 => opt (tru g1 x) g1 := (rfl)
theorem t_own2 (k : Ow) (m : Nat) (a b : E) : (evM T cf (.own2 k m a b)).t env g = ((evM T cf (.own2 k m a b)).v env g).bind fun x g1 => opt (tru g1 x) g1 := (rfl)
theorem t_ownC (k : Ow) (m : Nat) (a b : E) : (evM T cf (.ownC k m a b)).t env g = ((evM T cf (.ownC k m a b)).v env g).bind fun x g1 => opt (tru g1 x) g1 := (rfl)
theorem t_methK (m f : Nat) (o : E) (es : List E) : (evM T cf (.methK m f o es)).t env g = ((evM T cf (.methK m f o es)).v env g).bind fun x g1 => opt (tru g1 x) g1 := (rfl)
theorem t_tup (as : List E) : (evM T cf (.tup as)).t env g = ((evM T cf (.tup as)).v env g).bind fun x g1 => opt (tru g1 x) g1 := (rfl)
theorem t_lst (h : Bool) (as : List E) : (evM T cf (.lst h as)).t env g = ((evM T cf (.lst h as)).v env g).bind fun x g1 => opt (tru g1 x) g1 := (rfl)
theorem t_dct (h : Bool) (ks : List DK) (es : List E) : (evM T cf (.dct h ks es)).t env g = ((evM T cf (.dct h ks es)).v env g).bind fun x g1 => opt (tru g1 x) g1 := (rfl)
theorem t_dctS (a : E) (ks : List DK) (es : List E) : (evM T cf (.dctS a ks es)).t env g = ((evM T cf (.dctS a ks es)).v env g).bind fun x g1 => opt (tru g1 x) g1 := (rfl)
theorem t_dget (o i y : E) : (evM T cf (.dget o i y)).t env g = ((evM T cf (.dget o i y)).v env g).bind fun x g1 => opt (tru g1 x) g1 := (rfl)
theorem t_dget1 (o i : E) : (evM T cf (.dget1 o i)).t env g = ((evM T cf (.dget1 o i)).v env g).bind fun x g1 => opt (tru g1 x) g1 := (rfl)
theorem t_itemsL (o : E) : (evM T cf (.itemsL o)).t env g = ((evM T cf (.itemsL o)).v env g).bind fun x g1 => opt (tru g1 x) g1 := (rfl)
theorem t_addL (a b : E) : (evM T cf (.addL a b)).t env g = ((evM T cf (.addL a b)).v env g).bind fun x g1 => opt (tru g1 x) g1 := (rfl)
theorem t_dictP (a : E) : (evM T cf (.dictP a)).t env g = ((evM T cf (.dictP a)).v env g).bind fun x g1 => opt (tru g1 x) g1 := (rfl)
theorem v_fldX (f : Nat) (o : E) : (evM T cf (.fldX f o)).v env g = ((evM T cf o).v env g).bind fun x g1 => fldXR T f x g1 := (rfl)
theorem v_isX (t : XT) (a : E) : (evM T cf (.isX t a)).v env g = ((evM T cf a).v env g).bind fun x g1 => isXR T t x g1 := (rfl)
theorem v_isXs (ts : List XT) (a : E) : (evM T cf (.isXs ts a)).v env g = ((evM T cf a).v env g).bind fun x g1 => isXsR T ts x g1 := (rfl)
theorem v_mkX (c : Nat) (a : E) : (evM T cf (.mkX c a)).v env g = match T.exf c with | some _ => ((evM T cf a).v env g).bind (fun x g1 => mkXR T c x g1) | none => .stk := (rfl)
theorem v_mkXK (c : Nat) (as : List E) : (evM T cf (.mkXK c as)).v env g = match T.exf c with | some _ => (evs T cf as env g).bind (fun vs g1 => match vs with | [x] => mkXR T c x g1 | _ => .stk) | none => .stk := (rfl)
theorem t_isX (t : XT) (a : E) : (evM T cf (.isX t a)).t env g = ((evM T cf (.isX t a)).v env g).bind fun x g1 => opt (tru g1 x) g1 := (rfl)
theorem t_frz (a : E) : (evM T cf (.frz a)).t env g = ((evM T cf (.frz a)).v env g).bind fun x g1 => opt (tru g1 x) g1 := (rfl)
theorem t_comp (h : Bool) (own tg : List Nat) (one : Bool) (it cond elt : E) : (evM T cf (.comp h own tg one it cond elt)).t env g = ((evM T cf (.comp h own tg one it cond elt)).v env g).bind fun x g1 => opt (tru g1 x) g1 := (rfl)
theorem i_loc (i : Nat) : (evM T cf (.loc i)).i env g = ((evM T cf (.loc i)).v env g).bind fun x g1 => opt (itemsD g1 x) g1 := (rfl)
theorem i_con (d : D) : (evM T cf (.con d)).i env g = ((evM T cf (.con d)).v env g).bind fun x g1 => opt (itemsD g1 x) g1 := (rfl)
theorem i_glo (n : Nat) : (evM T cf (.glo n)).i env g = ((evM T cf (.glo n)).v env g).bind fun x g1 => opt (itemsD g1 x) g1 := (rfl)
theorem i_bin (o : Bop) (a b : E) : (evM T cf (.bin o a b)).i env g = ((evM T cf (.bin o a b)).v env g).bind fun x g1 => opt (itemsD g1 x) g1 := (rfl)
theorem i_ite (c a b : E) : (evM T cf (.ite c a b)).i env g = ((evM T cf (.ite c a b)).v env g).bind fun x g1 => opt (itemsD g1 x) g1 := (rfl)
theorem i_call (f : Nat) (as : List E) : (evM T cf (.call f as)).i env g = ((evM T cf (.call f as)).v env g).bind fun x g1 => opt (itemsD g1 x) g1 := (rfl)
theorem i_callK (f : Nat) (as es : List E) : (evM T cf (.callK f as es)).i env g = ((evM T cf (.callK f as es)).v env g).bind fun x g1 => opt (itemsD g1 x) g1 := (rfl)
theorem i_meth (m : Nat) (o : E) (as : List E) : (evM T cf (.meth m o as)).i env g = ((evM T cf (.meth m o as)).v env g).bind fun x g1 => opt (itemsD g1 x) g1 := (rfl)
theorem i_fld (f : Nat) (o : E) : (evM T cf (.fld f o)).i env g = ((evM T cf (.fld f o)).v env g).bind fun x g1 => opt (itemsD g1 x) g1 := (rfl)
theorem i_prop (m : Nat) (o : E) : (evM T cf (.prop m o)).i env g = ((evM T cf (.prop m o)).v env g).bind fun x g1 => opt (itemsD g1 x) g1 := (rfl)
theorem i_bi (b : Bi) (as : List E) : (evM T cf (.bi b as)).i env g = ((evM T cf (.bi b as)).v env g).bind fun x g1 => opt (itemsD g1 x) g1 := (rfl)
theorem i_bm (m : Bm) (o : E) (as : List E) : (evM T cf (.bm m o as)).i env g = ((evM T cf (.bm m o as)).v env g).bind fun x g1 => opt (itemsD g1 x) g1 := (rfl)
theorem i_sub (o i : E) : (evM T cf (.sub o i)).i env g = ((evM T cf (.sub o i)).v env g).bind fun x g1 => opt (itemsD g1 x) g1 := (rfl)
theorem i_slc (o lo hi : E) : (evM T cf (.slc o lo hi)).i env g = ((evM T cf (.slc o lo hi)).v env g).bind fun x g1 => opt (itemsD g1 x) g1 := (rfl)
theorem i_rev (o : E) : (evM T cf (.rev o)).i env g = ((evM T cf (.rev o)).v env g).bind fun x g1 => opt (itemsD g1 x) g1 := (rfl)
theorem i_own2 (k : Ow) (m : Nat) (a b : E) : (evM T cf (.own2 k m a b)).i env g = ((evM T cf (.own2 k m a b)).v env g).bind fun x g1 => opt (itemsD g1 x) g1 := (rfl)
theorem i_methK (m f : Nat) (o : E) (es : List E) : (evM T cf (.methK m f o es)).i env g = ((evM T cf (.methK m f o es)).v env g).bind fun x g1 => opt (itemsD g1 x) g1 := (rfl)
theorem i_tup (as : List E) : (evM T cf (.tup as)).i env g = ((evM T cf (.tup as)).v env g).bind fun x g1 => opt (itemsD g1 x) g1 := (rfl)
theorem i_lst (h : Bool) (as : List E) : (evM T cf (.lst h as)).i env g = ((evM T cf (.lst h as)).v env g).bind fun x g1 => opt (itemsD g1 x) g1 := (rfl)
theorem i_dct (h : Bool) (ks : List DK) (es : List E) : (evM T cf (.dct h ks es)).i env g = ((evM T cf (.dct h ks es)).v env g).bind fun x g1 => opt (itemsD g1 x) g1 := (rfl)
theorem i_dctS (a : E) (ks : List DK) (es : List E) : (evM T cf (.dctS a ks es)).i env g = ((evM T cf (.dctS a ks es)).v env g).bind fun x g1 => opt (itemsD g1 x) g1 := (rfl)
theorem i_dget (o i y : E) : (evM T cf (.dget o i y)).i env g = ((evM T cf (.dget o i y)).v env g).bind fun x g1 => opt (itemsD g1 x) g1 := (rfl)
theorem i_dget1 (o i : E) : (evM T cf (.dget1 o i)).i env g = ((evM T cf (.dget1 o i)).v env g).bind fun x g1 => opt (itemsD g1 x) g1 := (rfl)
theorem i_itemsL (o : E) : (evM T cf (.itemsL o)).i env g = ((evM T cf (.itemsL o)).v env g).bind fun x g1 => opt (itemsD g1 x) g1 := (rfl)
theorem i_addL (a b : E) : (evM T cf (.addL a b)).i env g = ((evM T cf (.addL a b)).v env g).bind fun x g1 => opt (itemsD g1 x) g1 := (rfl)
theorem i_dictP (a : E) : (evM T cf (.dictP a)).i env g = ((evM T cf (.dictP a)).v env g).bind fun x g1 => opt (itemsD g1 x) g1 := (rfl)
theorem i_frz (a : E) : (evM T cf (.frz a)).i env g = ((evM T cf (.frz a)).v env g).bind fun x g1 => opt (itemsD g1 x) g1 := (rfl)
theorem i_comp (h : Bool) (own tg : List Nat) (one : Bool) (it cond elt : E) : (evM T cf (.comp h own tg one it cond elt)).i env g = ((evM T cf (.comp h own tg one it cond elt)).v env g).bind fun x g1 => opt (itemsD g1 x) g1 := (rfl)
theorem i_range (as : List E) : (evM T cf (.range as)).i env g = (evs T cf as env g).bind fun vs g1 => rangeR vs g1 := (rfl)
theorem i_enum (a : E) : (evM T cf (.enum a)).i env g = ((evM T cf a).v env g).bind fun x g1 => opt ((if tupD x then none else itemsD g1 x).map fun p => (enumL 0 p.1, p.2)) g1 := (rfl)
theorem o_nil  : (evM T cf .nil).o env g = .ok .non g := (rfl)
theorem o_loc (i : Nat) : (evM T cf (.loc i)).o env g = ((evM T cf (.loc i)).v env g).bind fun x g1 => match x with | .int i => .ok (.int i) g1 | _ => .stk := (rfl)
theorem o_con (d : D) : (evM T cf (.con d)).o env g = ((evM T cf (.con d)).v env g).bind fun x g1 => match x with | .int i => .ok (.int i) g1 | _ => .stk := (rfl)
theorem o_glo (n : Nat) : (evM T cf (.glo n)).o env g = ((evM T cf (.glo n)).v env g).bind fun x g1 => match x with | .int i => .ok (.int i) g1 | _ => .stk := (rfl)
theorem o_bin (o : Bop) (a b : E) : (evM T cf (.bin o a b)).o env g = ((evM T cf (.bin o a b)).v env g).bind fun x g1 => match x with | .int i => .ok (.int i) g1 | _ => .stk := (rfl)
theorem o_neg (a : E) : (evM T cf (.neg a)).o env g = ((evM T cf (.neg a)).v env g).bind fun x g1 => match x with | .int i => .ok (.int i) g1 | _ => .stk := (rfl)
theorem o_call (f : Nat) (as : List E) : (evM T cf (.call f as)).o env g = ((evM T cf (.call f as)).v env g).bind fun x g1 => match x with | .int i => .ok (.int i) g1 | _ => .stk := (rfl)
theorem o_sub (o i : E) : (evM T cf (.sub o i)).o env g = ((evM T cf (.sub o i)).v env g).bind fun x g1 => match x with | .int i => .ok (.int i) g1 | _ => .stk := (rfl)
theorem c_nil  : (evM T cf .nil).c env g = .ok true g := (rfl)
theorem c_loc (i : Nat) : (evM T cf (.loc i)).c env g = (evM T cf (.loc i)).t env g := (rfl)
theorem c_con (d : D) : (evM T cf (.con d)).c env g = (evM T cf (.con d)).t env g := (rfl)
theorem c_glo (n : Nat) : (evM T cf (.glo n)).c env g = (evM T cf (.glo n)).t env g := (rfl)
theorem c_bin (o : Bop) (a b : E) : (evM T cf (.bin o a b)).c env g = (evM T cf (.bin o a b)).t env g := (rfl)
theorem c_neg (a : E) : (evM T cf (.neg a)).c env g = (evM T cf (.neg a)).t env g := (rfl)
theorem c_not_ (a : E) : (evM T cf (.not_ a)).c env g = (evM T cf (.not_ a)).t env g := (rfl)
theorem c_and_ (a b : E) : (evM T cf (.and_ a b)).c env g = (evM T cf (.and_ a b)).t env g := (rfl)
theorem c_or_ (a b : E) : (evM T cf (.or_ a b)).c env g = (evM T cf (.or_ a b)).t env g := (rfl)
theorem c_cmp (o : Cop) (a b : E) : (evM T cf (.cmp o a b)).c env g = (evM T cf (.cmp o a b)).t env g := (rfl)
theorem c_chain (o p : Cop) (a b c : E) : (evM T cf (.chain o p a b c)).c env g = (evM T cf (.chain o p a b c)).t env g := (rfl)
theorem c_ite (c a b : E) : (evM T cf (.ite c a b)).c env g = (evM T cf (.ite c a b)).t env g := (rfl)
theorem c_call (f : Nat) (as : List E) : (evM T cf (.call f as)).c env g = (evM T cf (.call f as)).t env g := (rfl)
theorem c_callK (f : Nat) (as es : List E) : (evM T cf (.callK f as es)).c env g = (evM T cf (.callK f as es)).t env g := (rfl)
theorem c_meth (m : Nat) (o : E) (as : List E) : (evM T cf (.meth m o as)).c env g = (evM T cf (.meth m o as)).t env g := (rfl)
theorem c_fld (f : Nat) (o : E) : (evM T cf (.fld f o)).c env g = (evM T cf (.fld f o)).t env g := (rfl)
theorem c_prop (m : Nat) (o : E) : (evM T cf (.prop m o)).c env g = (evM T cf (.prop m o)).t env g := (rfl)
theorem c_bi (b : Bi) (as : List E) : (evM T cf (.bi b as)).c env g = (evM T cf (.bi b as)).t env g := (rfl)
theorem c_isi (t : List Ty) (a : E) : (evM T cf (.isi t a)).c env g = (evM T cf (.isi t a)).t env g := (rfl)
theorem c_bm (m : Bm) (o : E) (as : List E) : (evM T cf (.bm m o as)).c env g = (evM T cf (.bm m o as)).t env g := (rfl)
theorem c_sub (o i : E) : (evM T cf (.sub o i)).c env g = (evM T cf (.sub o i)).t env g := (rfl)
theorem c_slc (o lo hi : E) : (evM T cf (.slc o lo hi)).c env g = (evM T cf (.slc o lo hi)).t env g := (rfl)
theorem c_rev (o : E) : (evM T cf (.rev o)).c env g = (evM T cf (.rev o)).t env g := (rfl)
theorem c_own1 (k : Ow) (m : Nat) (a : E) : (evM T cf (.own1 k m a)).c env g = (evM T cf (.own1 k m a)).t env g := (rfl)
theorem c_ownC (k : Ow) (m : Nat) (a b : E) : (evM T cf (.ownC k m a b)).c env g = (evM T cf (.ownC k m a b)).t env g := (rfl)
theorem c_methK (m f : Nat) (o : E) (es : List E) : (evM T cf (.methK m f o es)).c env g = (evM T cf (.methK m f o es)).t env g := (rfl)
theorem s_nil  : evs T cf [] env g = .ok [] g := (rfl)
theorem s_loc (i : Nat) (r : List E) : evs T cf (.loc i :: r) env g = ((evM T cf (.loc i)).v env g).bind fun x g1 => (evs T cf r env g1).bind fun ys g2 => .ok (x :: ys) g2 := (rfl)
theorem s_con (d : D) (r : List E) : evs T cf (.con d :: r) env g = ((evM T cf (.con d)).v env g).bind fun x g1 => (evs T cf r env g1).bind fun ys g2 => .ok (x :: ys) g2 := (rfl)
theorem s_glo (n : Nat) (r : List E) : evs T cf (.glo n :: r) env g = ((evM T cf (.glo n)).v env g).bind fun x g1 => (evs T cf r env g1).bind fun ys g2 => .ok (x :: ys) g2 := (rfl)
theorem s_bin (o : Bop) (a b : E) (r : List E) : evs T cf (.bin o a b :: r) env g = ((evM T cf (.bin o a b)).v env g).bind fun x g1 => (evs T cf r env g1).bind fun ys g2 => .ok (x :: ys) g2 := (rfl)
theorem s_neg (a : E) (r : List E) : evs T cf (.neg a :: r) env g = ((evM T cf (.neg a)).v env g).bind fun x g1 => (evs T cf r env g1).bind fun ys g2 => .ok (x :: ys) g2 := (rfl)
theorem s_not_ (a : E) (r : List E) : evs T cf (.not_ a :: r) env g = ((evM T cf (.not_ a)).v env g).bind fun x g1 => (evs T cf r env g1).bind fun ys g2 => .ok (x :: ys) g2 := (rfl)
theorem s_and_ (a b : E) (r : List E) : evs T cf (.and_ a b :: r) env g = ((evM T cf (.and_ a b)).v env g).bind fun x g1 => (evs T cf r env g1).bind fun ys g2 => .ok (x :: ys) g2 := (rfl)
theorem s_or_ (a b : E) (r : List E) : evs T cf (.or_ a b :: r) env g = ((evM T cf (.or_ a b)).v env g).bind fun x g1 => (evs T cf r env g1).bind fun ys g2 => .ok (x :: ys) g2 := (rfl)
theorem s_cmp (o : Cop) (a b : E) (r : List E) : evs T cf (.cmp o a b :: r) env g = ((evM T cf (.cmp o a b)).v env g).bind fun x g1 => (evs T cf r env g1).bind fun ys g2 => .ok (x :: ys) g2 := (rfl)
theorem s_chain (o p : Cop) (a b c : E) (r : List E) : evs T cf (.chain o p a b c :: r) env g = ((evM T cf (.chain o p a b c)).v env g).bind fun x g1 => (evs T cf r env g1).bind fun ys g2 => .ok (x :: ys) g2 := (rfl)
theorem s_ite (c a b : E) (r : List E) : evs T cf (.ite c a b :: r) env g = ((evM T cf (.ite c a b)).v env g).bind fun x g1 => (evs T cf r env g1).bind fun ys g2 => .ok (x :: ys) g2 := (rfl)
theorem s_call (f : Nat) (as : List E) (r : List E) : evs T cf (.call f as :: r) env g = ((evM T cf (.call f as)).v env g).bind fun x g1 => (evs T cf r env g1).bind fun ys g2 => .ok (x :: ys) g2 := (rfl)
theorem s_callK (f : Nat) (as es : List E) (r : List E) : evs T cf (.callK f as es :: r) env g = ((evM T cf (.callK f as es)).v env g).bind fun x g1 => (evs T cf r env g1).bind fun ys g2 => .ok (x :: ys) g2 := (rfl)
theorem s_meth (m : Nat) (o : E) (as : List E) (r : List E) : evs T cf (.meth m o as :: r) env g = ((evM T cf (.meth m o as)).v env g).bind fun x g1 => (evs T cf r env g1).bind fun ys g2 => .ok (x :: ys) g2 := (rfl)
theorem s_fld (f : Nat) (o : E) (r : List E) : evs T cf (.fld f o :: r) env g = ((evM T cf (.fld f o)).v env g).bind fun x g1 => (evs T cf r env g1).bind fun ys g2 => .ok (x :: ys) g2 := (rfl)
theorem s_prop (m : Nat) (o : E) (r : List E) : evs T cf (.prop m o :: r) env g = ((evM T cf (.prop m o)).v env g).bind fun x g1 => (evs T cf r env g1).bind fun ys g2 => .ok (x :: ys) g2 := (rfl)
theorem s_bi (b : Bi) (as : List E) (r : List E) : evs T cf (.bi b as :: r) env g = ((evM T cf (.bi b as)).v env g).bind fun x g1 => (evs T cf r env g1).bind fun ys g2 => .ok (x :: ys) g2 := (rfl)
theorem s_isi (t : List Ty) (a : E) (r : List E) : evs T cf (.isi t a :: r) env g = ((evM T cf (.isi t a)).v env g).bind fun x g1 => (evs T cf r env g1).bind fun ys g2 => .ok (x :: ys) g2 := (rfl)
theorem s_bm (m : Bm) (o : E) (as : List E) (r : List E) : evs T cf (.bm m o as :: r) env g = ((evM T cf (.bm m o as)).v env g).bind fun x g1 => (evs T cf r env g1).bind fun ys g2 => .ok (x :: ys) g2 := (rfl)
theorem s_sub (o i : E) (r : List E) : evs T cf (.sub o i :: r) env g = ((evM T cf (.sub o i)).v env g).bind fun x g1 => (evs T cf r env g1).bind fun ys g2 => .ok (x :: ys) g2 := (rfl)
theorem s_slc (o lo hi : E) (r : List E) : evs T cf (.slc o lo hi :: r) env g = ((evM T cf (.slc o lo hi)).v env g).bind fun x g1 => (evs T cf r env g1).bind fun ys g2 => .ok (x :: ys) g2 := (rfl)
theorem s_rev (o : E) (r : List E) : evs T cf (.rev o :: r) env g = ((evM T cf (.rev o)).v env g).bind fun x g1 => (evs T cf r env g1).bind fun ys g2 => .ok (x :: ys) g2 := (rfl)
theorem s_own1 (k : Ow) (m : Nat) (a : E) (r : List E) : evs T cf (.own1 k m a :: r) env g = ((evM T cf (.own1 k m a)).v env g).bind fun x g1 => (evs T cf r env g1).bind fun ys g2 => .ok (x :: ys) g2 := (rfl)
theorem s_own2 (k : Ow) (m : Nat) (a b : E) (r : List E) : evs T cf (.own2 k m a b :: r) env g = ((evM T cf (.own2 k m a b)).v env g).bind fun x g1 => (evs T cf r env g1).bind fun ys g2 => .ok (x :: ys) g2 := (rfl)
theorem s_ownC (k : Ow) (m : Nat) (a b : E) (r : List E) : evs T cf (.ownC k m a b :: r) env g = ((evM T cf (.ownC k m a b)).v env g).bind fun x g1 => (evs T cf r env g1).bind fun ys g2 => .ok (x :: ys) g2 := (rfl)
theorem s_methK (m f : Nat) (o : E) (es : List E) (r : List E) : evs T cf (.methK m f o es :: r) env g = ((evM T cf (.methK m f o es)).v env g).bind fun x g1 => (evs T cf r env g1).bind fun ys g2 => .ok (x :: ys) g2 := (rfl)
theorem s_tup (as : List E) (r : List E) : evs T cf (.tup as :: r) env g = ((evM T cf (.tup as)).v env g).bind fun x g1 => (evs T cf r env g1).bind fun ys g2 => .ok (x :: ys) g2 := (rfl)
theorem s_lst (h : Bool) (as : List E) (r : List E) : evs T cf (.lst h as :: r) env g = ((evM T cf (.lst h as)).v env g).bind fun x g1 => (evs T cf r env g1).bind fun ys g2 => .ok (x :: ys) g2 := (rfl)
theorem s_dct (h : Bool) (ks : List DK) (es : List E) (r : List E) : evs T cf (.dct h ks es :: r) env g = ((evM T cf (.dct h ks es)).v env g).bind fun x g1 => (evs T cf r env g1).bind fun ys g2 => .ok (x :: ys) g2 := (rfl)
theorem s_dctS (a : E) (ks : List DK) (es : List E) (r : List E) : evs T cf (.dctS a ks es :: r) env g = ((evM T cf (.dctS a ks es)).v env g).bind fun x g1 => (evs T cf r env g1).bind fun ys g2 => .ok (x :: ys) g2 := (rfl)
theorem s_dget (o i y : E) (r : List E) : evs T cf (.dget o i y :: r) env g = ((evM T cf (.dget o i y)).v env g).bind fun x g1 => (evs T cf r env g1).bind fun ys g2 => .ok (x :: ys) g2 := (rfl)
theorem s_dget1 (o i : E) (r : List E) : evs T cf (.dget1 o i :: r) env g = ((evM T cf (.dget1 o i)).v env g).bind fun x g1 => (evs T cf r env g1).bind fun ys g2 => .ok (x :: ys) g2 := (rfl)
theorem s_itemsL (o : E) (r : List E) : evs T cf (.itemsL o :: r) env g = ((evM T cf (.itemsL o)).v env g).bind fun x g1 => (evs T cf r env g1).bind fun ys g2 => .ok (x :: ys) g2 := (rfl)
theorem s_addL (a b : E) (r : List E) : evs T cf (.addL a b :: r) env g = ((evM T cf (.addL a b)).v env g).bind fun x g1 => (evs T cf r env g1).bind fun ys g2 => .ok (x :: ys) g2 := (rfl)
theorem s_dictP (a : E) (r : List E) : evs T cf (.dictP a :: r) env g = ((evM T cf (.dictP a)).v env g).bind fun x g1 => (evs T cf r env g1).bind fun ys g2 => .ok (x :: ys) g2 := (rfl)
theorem s_frz (a : E) (r : List E) : evs T cf (.frz a :: r) env g = ((evM T cf (.frz a)).v env g).bind fun x g1 => (evs T cf r env g1).bind fun ys g2 => .ok (x :: ys) g2 := (rfl)
theorem s_comp (h : Bool) (own tg : List Nat) (one : Bool) (it cond elt : E) (r : List E) : evs T cf (.comp h own tg one it cond elt :: r) env g = ((evM T cf (.comp h own tg one it cond elt)).v env g).bind fun x g1 => (evs T cf r env g1).bind fun ys g2 => .ok (x :: ys) g2 := (rfl)
theorem s_star (a : E) (r : List E) : evs T cf (.star a :: r) env g = ((evM T cf a).v env g).bind fun x g1 => match seqD g1 x with | some xs => (evs T cf r env g1).bind fun ys g2 => .ok (xs ++ ys) g2 | none => .stk := (rfl)
theorem x_nil  : execs T cf [] env g = .ok (.nx env) g := (rfl)
theorem x_cons (s : S) (r : List S) : execs T cf (s :: r) env g = (exec T cf s env g).bind fun fl g1 => match fl with | .nx env1 => execs T cf r env1 g1 | fl => .ok fl g1 := (rfl)
theorem x_set (i : Nat) (e : E) : exec T cf (.set i e) env g = ((evM T cf e).v env g).bind fun d g1 => .ok (.nx (env.set i (some d))) g1 := (rfl)
theorem x_ret (e : E) : exec T cf (.ret e) env g = ((evM T cf e).v env g).bind fun d g1 => .ok (.rt d) g1 := (rfl)
theorem x_retN  : exec T cf .retN env g = .ok (.rt .non) g := (rfl)
theorem x_pass  : exec T cf .pass env g = .ok (.nx env) g := (rfl)
theorem x_brk  : exec T cf .brk env g = .ok (.bk env) g := (rfl)
theorem x_cont  : exec T cf .cont env g = .ok (.ct env) g := (rfl)
theorem x_ex (e : E) : exec T cf (.ex e) env g = ((evM T cf e).v env g).bind fun _ g1 => .ok (.nx env) g1 := (rfl)
theorem x_ite (c : E) (a b : List S) : exec T cf (.ite c a b) env g = ((evM T cf c).t env g).bind fun t g1 => if t = true then execs T cf a env g1 else execs T cf b env g1 := by
  exact bind_fun _ _ _ fun t g1 => by cases t <;> rfl
theorem x_unp (is : List Nat) (e : E) : exec T cf (.unp is e) env g = ((evM T cf e).v env g).bind fun d g1 => match asgD g1 false is d env with | some env1 => .ok (.nx env1) g1 | none => .stk := (rfl)
theorem x_par (is : List Nat) (es : List E) : exec T cf (.par is es) env g = (evs T cf es env g).bind fun ds g1 => if ds.length = is.length then .ok (.nx ((is.zip ds).foldl (fun e p => e.set p.1 (some p.2)) env)) g1 else .stk := by
  exact bind_fun _ _ _ fun ds g1 => by simp only [decide_eq_true_eq]
theorem x_setF (f : Nat) (o e : E) : exec T cf (.setF f o e) env g = ((evM T cf e).v env g).bind fun y g1 => ((evM T cf o).v env g1).bind fun x g2 => match setFD T g2 f x y with | some g3 => .ok (.nx env) g3 | none => .stk := (rfl)
theorem x_setI (o i e : E) : exec T cf (.setI o i e) env g = ((evM T cf e).v env g).bind fun y g1 => ((evM T cf o).v env g1).bind fun x g2 => ((evM T cf i).v env g2).bind fun z g3 => match setID g3 x z y with | some g4 => .ok (.nx env) g4 | none => .stk := (rfl)
theorem x_aug (i : Nat) (o : Bop) (e : E) : exec T cf (.aug i o e) env g = match env[i]? with | some (some x) => ((evM T cf e).v env g).bind (fun y g1 => match augD g1 o x y with | some z => .ok (.nx (env.set i (some z))) g1 | none => .stk) | _ => .stk := (rfl)
theorem x_for (one : Bool) (tg : List Nat) (it : E) (b : List S) : exec T cf (.for_ one tg it b) env g = ((evM T cf it).i env g).bind fun xs g1 => freeR (forL (forF T cf one tg b) xs.1 env (lockG g1 xs.2)) xs.2 := (rfl)
theorem x_while (c : E) (b : List S) : exec T cf (.while_ c b) env g = whL (fun env g => evT T cf c env g) (fun env g => execs T cf b env g) TURNS env g := (rfl)
theorem x_unpA (i : Nat) (fs : List Nat) (e : E) : exec T cf (.unpA i fs e) env g = ((evM T cf e).v env g).bind fun d g1 => match env[i]?, d with | some (some x), .tup ds => if decide (ds.length = fs.length) then (match setAD T g1 x fs ds with | some g2 => .ok (.nx env) g2 | none => .stk) else .stk | _, _ => .stk := (rfl)
theorem x_mtch (e : E) (ks : List (List (List Nat))) (bs : List (List S)) : exec T cf (.mtch e ks bs) env g = ((evM T cf e).v env g).bind fun x g1 => match x with | .str s => execM T cf bs (ks.findIdx fun k => k.contains s) env g1 | _ => .stk := (rfl)
theorem b_exc {α β : Type} (x : Ex) (g : G) (k : α → G → R β) : (R.exc x g : R α).bind k = .exc x g := (rfl)
theorem x_raise (c : Nat) (as : List E) : exec T cf (.raise c as) env g = match T.exf c with | some f => (evs T cf as env g).bind (fun vs g1 => match vs with | [d] => .exc ⟨c, [f], [d]⟩ g1 | _ => .stk) | none => .stk := (rfl)
theorem x_tryf (r : XTr) (f : Nat) (as : List E) (hs : List (List Nat × XHd)) : exec T cf (.try_ r (.fn f) as hs) env g = noxR (evs T cf as env g) fun vs g1 => tryR T r hs env (cf f vs g1) := (rfl)
theorem x_m0 (b : List S) (bs : List (List S)) : execM T cf (b :: bs) 0 env g = execs T cf b env g := (rfl)
theorem x_mS (b : List S) (bs : List (List S)) (n : Nat) : execM T cf (b :: bs) (n + 1) env g = execM T cf bs n env g := (rfl)
theorem range_1 (r : Nat) (h : (r : Int) < 1000000000) : rangeR [.int r] g = .ok (rangeL 0 r, none) g := by
  have h1 : decide (-4611686018427387904 ≤ (r : Int) ∧ (r : Int) < 4611686018427387904) = true := decide_eq_true (by omega)
  simp only [rangeR, h1, if_true, Int.toNat_natCast]
theorem lock_n : lockG g none = g := (rfl)
theorem free_n (fl : Fl) : freeR (.ok fl g) none = .ok fl g := (rfl)
theorem forL_nil (f : D → Env → G → R Fl) : forL f [] env g = .ok (.nx env) g := (rfl)
theorem forL_cons (f : D → Env → G → R Fl) (x : D) (r : List D) : forL f (x :: r) env g = (f x env g).bind fun fl g1 => match fl with
    | .nx env1 => forL f r env1 g1
    | .ct env1 => forL f r env1 g1
    | .bk env1 => .ok (.nx env1) g1
    | .rt d => .ok (.rt d) g1 := (rfl)
theorem forF_one (i : Nat) (b : List S) (x : D) : forF T cf true [i] b x env g = execs T cf b (env.set i (some x)) g := (rfl)
theorem forF_two (i j : Nat) (b : List S) (x y : D) : forF T cf false [i, j] b (.tup [x, y]) env g = execs T cf b ((env.set i (some x)).set j (some y)) g := (rfl)
theorem add_i (a b : Int) : binD g .add (.int a) (.int b) = some (.int (a + b)) := (rfl)
theorem sub_i (a b : Int) : binD g .sub (.int a) (.int b) = some (.int (a - b)) := (rfl)
theorem gt_i (a b : Int) : cmpD g .gt (.int a) (.int b) = some (decide (b < a)) := (rfl)
theorem ge_i (a b : Int) : cmpD g .ge (.int a) (.int b) = some (decide (b ≤ a)) := (rfl)
theorem lt_i (a b : Int) : cmpD g .lt (.int a) (.int b) = some (decide (a < b)) := (rfl)
theorem le_i (a b : Int) : cmpD g .le (.int a) (.int b) = some (decide (a ≤ b)) := (rfl)
theorem eq_i (a b : Int) : cmpD g .eq (.int a) (.int b) = some (decide (a = b)) := (rfl)
theorem ne_i (a b : Int) : cmpD g .ne (.int a) (.int b) = some (!decide (a = b)) := (rfl)
theorem le_s (a b : List Nat) : cmpD g .le (.str a) (.str b) = some (!decide (b < a)) := (rfl)
theorem eq_s (a b : List Nat) : cmpD g .eq (.str a) (.str b) = some (decide (a = b)) := (rfl)
theorem ne_s (a b : List Nat) : cmpD g .ne (.str a) (.str b) = some (!decide (a = b)) := (rfl)
theorem tru_b (b : Bool) : tru g (.bl b) = some b := (rfl)
theorem len_l (l : List D) : biD g .len [.lst l] = .ok (.int l.length) g := (rfl)
theorem len_t (l : List D) : biD g .len [.tup l] = .ok (.int l.length) g := (rfl)
theorem seq_t (l : List D) : seqD g (.tup l) = some l := (rfl)
theorem seq_l (l : List D) : seqD g (.lst l) = some l := (rfl)
theorem in_gd (x y : D) : cmpD g .in_ x y = inD g x y := (rfl)
theorem notin_gd (x y : D) : cmpD g .notin x y = (inD g x y).map not := (rfl)
theorem is_non (x : D) : cmpD g .is_ x .non = some (isNon x) := (rfl)
theorem isnot_non (x : D) : cmpD g .isnot x .non = some (!isNon x) := (rfl)
theorem mul_i (a b : Int) (h : sml a = true) : binD g .mul (.int a) (.int b) = some (.int (a * b)) := by show (if sml a = true then _ else _) = _; rw [if_pos h]
theorem fdiv_i (a b : Int) (h : 0 < b) (h2 : b < 1073741824) : binD g .fdiv (.int a) (.int b) = some (.int (a / b)) := by
  show (if (decide (0 < b) && decide (b < 1073741824)) = true then _ else _) = _
  rw [decide_eq_true h, decide_eq_true h2]; rfl
theorem mod_i (a b : Int) (h : 0 < b) : binD g .mod (.int a) (.int b) = some (.int (a % b)) := by
  show (if decide (0 < b) = true then _ else _) = _
  rw [decide_eq_true h]; rfl
theorem add_s (a b : List Nat) (h : a.length + b.length ≤ LIM) : binD g .add (.str a) (.str b) = some (.str (a ++ b)) := by
  show (if decide (a.length + b.length ≤ LIM) = true then _ else _) = _
  rw [decide_eq_true h]; rfl
theorem add_l (a b : List D) (h : a.length + b.length ≤ LIM) : binD g .add (.lst a) (.lst b) = some (.lst (a ++ b)) := by
  show (if decide (a.length + b.length ≤ LIM) = true then _ else _) = _
  rw [decide_eq_true h]; rfl
theorem add_t (a b : List D) (h : a.length + b.length ≤ LIM) : binD g .add (.tup a) (.tup b) = some (.tup (a ++ b)) := by
  show (if decide (a.length + b.length ≤ LIM) = true then _ else _) = _
  rw [decide_eq_true h]; rfl
end
/-- a def without defaults -/
theorem run_is (T : Tab) (cf : CF) (n np nn : Nat) (b : List S) (vs : List D) (g : G) (h : vs.length = np) : callK T n cf ⟨np, [], nn, false, .fn, b⟩ vs g = endR (execs T cf b (vs.map some ++ List.replicate (nn - np) none) g) := by
  subst h
  unfold callK bindA
  simp
theorem end_rt (d : D) (g : G) : endR (.ok (.rt d) g) = .ok d g := (rfl)
theorem end_nx (env : Env) (g : G) : endR (.ok (.nx env) g) = .ok .non g := (rfl)
theorem call_is {T : Tab} {f : Nat} {F : Fn} (n : Nat) (vs : List D) (g : G) (h : T.fn f = some F) : call T (n + 1) f vs g = callK T n (call T n) F vs g := by
  show (match T.fn f with
    | some F => callK T n (call T n) F vs g
    | none => .stk) = _
  rw [h]
/-- a def of the table -/
theorem call_fn {T : Tab} {f : Nat} {np nn : Nat} {b : List S} (n : Nat) (vs : List D) (g : G) (h : T.fn f = some ⟨np, [], nn, false, .fn, b⟩) (hl : vs.length = np) : call T (n + 1) f vs g = endR (execs T (call T n) b (vs.map some ++ List.replicate (nn - np) none) g) := by
  rw [call_is n vs g h, run_is T (call T n) n np nn b vs g hl]
theorem call_rcd {T : Tab} {f : Nat} {np nn c i : Nat} {dfl : List D} {fs : List Nat} {b : List S} (n : Nat) (vs : List D) (g : G) (h : T.fn f = some ⟨np, dfl, nn, false, .rcd c fs i, b⟩) (h1 : vs.length ≤ np) (h2 : np ≤ vs.length + dfl.length) :
    call T (n + 2) f vs g = .ok (.obj c fs (vs ++ dfl.drop (dfl.length - (np - vs.length)))) g := by
  rw [call_is (n + 1) vs g h]
  unfold callK bindA
  simp only [Bool.false_eq_true, if_false]
  rw [if_pos ⟨h1, h2⟩]
end PC
end
section
set_option maxHeartbeats 4000000
namespace PC
open PySem L2 PyProof.Rows
section
variable {α : Type} {l : List α}
theorem ex0 (h : l.length = 0) : l = [] := List.length_eq_zero_iff.mp h
theorem ex1 (h : l.length = 1) : ∃ a, l = [a] := by
  cases l with
  | nil => cases h
  | cons a l => exact ⟨a, by rw [ex0 (Nat.succ.inj h)]⟩
theorem ex2 (h : l.length = 2) : ∃ a b, l = [a, b] := by
  cases l with
  | nil => cases h
  | cons a l =>
    obtain ⟨b, rfl⟩ := ex1 (Nat.succ.inj h)
    exact ⟨a, b, rfl⟩
theorem ex3 (h : l.length = 3) : ∃ a b c, l = [a, b, c] := by
  cases l with
  | nil => cases h
  | cons a l =>
    obtain ⟨b, c, rfl⟩ := ex2 (Nat.succ.inj h)
    exact ⟨a, b, c, rfl⟩
theorem ex4 (h : l.length = 4) : ∃ a b c d, l = [a, b, c, d] := by
  cases l with
  | nil => cases h
  | cons a l =>
    obtain ⟨b, c, d, rfl⟩ := ex3 (Nat.succ.inj h)
    exact ⟨a, b, c, d, rfl⟩
theorem ex5 (h : l.length = 5) : ∃ a b c d e, l = [a, b, c, d, e] := by
  cases l with
  | nil => cases h
  | cons a l =>
    obtain ⟨b, c, d, e, rfl⟩ := ex4 (Nat.succ.inj h)
    exact ⟨a, b, c, d, e, rfl⟩
theorem ex6 (h : l.length = 6) : ∃ a b c d e f, l = [a, b, c, d, e, f] := by
  cases l with
  | nil => cases h
  | cons a l =>
    obtain ⟨b, c, d, e, f, rfl⟩ := ex5 (Nat.succ.inj h)
    exact ⟨a, b, c, d, e, f, rfl⟩
theorem ex7 (h : l.length = 7) : ∃ a b c d e f g, l = [a, b, c, d, e, f, g] := by
  cases l with
  | nil => cases h
  | cons a l =>
    obtain ⟨b, c, d, e, f, g, rfl⟩ := ex6 (Nat.succ.inj h)
    exact ⟨a, b, c, d, e, f, g, rfl⟩
end
theorem pos_args {ps : List Str} {us : List Value} {j : Nat} (h : us.length = j) : argJ ps us j = ⟨us, []⟩ := by
  subst h
  exact argJ_all
theorem Pd.binds_0 {d : Pd} (h0 : d.F.va = false) (h1 : d.F.dfl = [])
    (hp : ∀ (kV doc pm : Value) (an : Option Addr) (cdv ct : Value) (us : List Value), us.length = d.F.np → bindArgs (PySem.W.fnOf d.name d.qual d.params d.body d.scope .none kV doc pm an cdv ct) ⟨us, []⟩ = pure (d.ps.zip us))
    (hk : ∀ q ∈ d.cs, ∀ (kV doc pm : Value) (an : Option Addr) (cdv ct : Value) (us : List Value), us.length = d.F.np → us.length = q.1 → bindArgs (PySem.W.fnOf d.name d.qual d.params d.body d.scope .none kV doc pm an cdv ct) ⟨us.take q.2, (d.ps.drop q.2).zip (us.drop q.2)⟩ = pure (d.ps.zip us))
    (hw : d.cw = [] ∨ ∀ (kV doc pm : Value) (an : Option Addr) (cdv ct : Value) (us : List Value), us.length = d.F.np → bindArgs (PySem.W.fnOf d.name d.qual d.params d.body d.scope .none kV doc pm an cdv ct) (argJ d.ps us (us.length + 1)) = pure (d.ps.zip us) := by exact .inl rfl) : d.binds := by
  refine fun _ => ⟨fun _ => ⟨fun _ kV doc pm an cdv ct us j hl hj => ?_, fun z => absurd h1 z⟩, fun z => by rw [h0] at z; cases z⟩
  rcases hj with z | ⟨z1, z⟩ | ⟨z1, z⟩
  · rw [pos_args z]
    exact hp kV doc pm an cdv ct us hl
  · rw [argJ_le z1]
    exact hk _ z kV doc pm an cdv ct us hl rfl
  · rcases hw with w | w
    · rw [w] at z; cases z
    · rw [z1]; exact w kV doc pm an cdv ct us hl
theorem Pd.binds_d {d : Pd} (h0 : d.F.va = false) (h1 : d.F.dfl ≠ []) (hc : d.cs = [])
    (hp : ∀ (T : Addr) (kV doc pm : Value) (an : Option Addr) (cdv ct : Value) (us its : List Value), its.length = d.F.dfl.length → us.length ≤ d.F.np → d.F.np ≤ us.length + d.F.dfl.length →
      ∃ k, bindArgs (PySem.W.fnOf d.name d.qual d.params d.body d.scope (.ref T) kV doc pm an cdv ct) ⟨us, []⟩ = seqItems? (.ref T) >>= k ∧ k (some its.toArray) = pure (d.ps.zip (us ++ its.drop (its.length - (d.F.np - us.length)))))
    (hw : d.cw = [] := by rfl) : d.binds := by
  refine fun _ => ⟨fun _ => ⟨fun z => absurd z h1, fun _ T kV doc pm an cdv ct us its j hl h2 h3 hj => ?_⟩, fun z => by rw [h0] at z; cases z⟩
  rcases hj with z | ⟨_, z⟩ | ⟨_, z⟩
  · rw [pos_args z]
    exact hp T kV doc pm an cdv ct us its hl h2 (by rw [← hl]; exact h3)
  · rw [hc] at z
    cases z
  · rw [hw] at z
    cases z
theorem Pd.binds_dk {d : Pd} (h0 : d.F.va = false) (h1 : d.F.dfl ≠ [])
    (hk : ∀ q ∈ d.cs, ∀ (T : Addr) (kV doc pm : Value) (an : Option Addr) (cdv ct : Value) (us its : List Value), its.length = d.F.dfl.length → us.length = q.1 →
      ∃ k, bindArgs (PySem.W.fnOf d.name d.qual d.params d.body d.scope (.ref T) kV doc pm an cdv ct) ⟨us.take q.2, (d.ps.drop q.2).zip (us.drop q.2)⟩ = seqItems? (.ref T) >>= k ∧ k (some its.toArray) = pure (d.ps.zip (us ++ its.drop (its.length - (d.F.np - us.length)))))
    (hp : ∀ (T : Addr) (kV doc pm : Value) (an : Option Addr) (cdv ct : Value) (us its : List Value), its.length = d.F.dfl.length → us.length ≤ d.F.np → d.F.np ≤ us.length + d.F.dfl.length →
      ∃ k, bindArgs (PySem.W.fnOf d.name d.qual d.params d.body d.scope (.ref T) kV doc pm an cdv ct) ⟨us, []⟩ = seqItems? (.ref T) >>= k ∧ k (some its.toArray) = pure (d.ps.zip (us ++ its.drop (its.length - (d.F.np - us.length)))))
    (hw : d.cw = [] := by rfl) : d.binds := by
  refine fun _ => ⟨fun _ => ⟨fun z => absurd z h1, fun _ T kV doc pm an cdv ct us its j hl h2 h3 hj => ?_⟩, fun z => by rw [h0] at z; cases z⟩
  rcases hj with z | ⟨z1, z⟩ | ⟨_, z⟩
  · rw [pos_args z]
    exact hp T kV doc pm an cdv ct us its hl h2 (by rw [← hl]; exact h3)
  · rw [argJ_le z1]
    exact hk _ z T kV doc pm an cdv ct us its hl rfl
  · rw [hw] at z
    cases z
theorem Pd.binds_v {d : Pd} {ps : List Str} {pv : Str} (h0 : d.F.va = true) (h1 : d.F.dfl = []) (hc : d.cs = []) (hps : d.ps = ps ++ [pv])
    (hp : ∀ (kV doc pm : Value) (an : Option Addr) (cdv ct : Value) (us rest : List Value), us.length = ps.length →
      bindArgs (PySem.W.fnOf d.name d.qual d.params d.body d.scope .none kV doc pm an cdv ct) ⟨us ++ rest, []⟩ = (newTuple rest >>= fun t => pure (ps.zip us ++ [(pv, t)])))
    (hw : d.cw = [] := by rfl) : d.binds :=
  fun _ => ⟨fun z => (by rw [h0] at z; cases z), fun _ => ⟨h1, hc, hw, ps, pv, hps, hp⟩⟩
/-- what is said of one record -/
def Prg.rec1 (p : Prg) (d : Pd) : Prop := match d.F.kd with
  | .rcd c fs i => p.T.fn i = some ⟨fs.length + 1, d.F.dfl, fs.length + 1, false, .fn, rcS 1 fs⟩ ∧ d.F.np = fs.length ∧ d.F.va = false ∧ fs.Nodup ∧ fs.length < 900 ∧ d.F.dfl.length ≤ fs.length ∧ ∀ x ∈ fs, p.T.fl c x = true
  | _ => True
theorem Prg.recs_of {p : Prg} (h : ∀ q ∈ p.fs, p.rec1 q.2) : p.recs := fun f d e => h _ (mem_lk e)
end PC
end
section
set_option maxHeartbeats 4000000
namespace PC
theorem e1_ : (type_of% @b_ok) ∧ (type_of% @R.bind_if) ∧ (type_of% @endR_if) ∧ (type_of% @v_loc) ∧ (type_of% @v_con) ∧ (type_of% @v_glo) ∧ (type_of% @v_bin) ∧ (type_of% @v_neg) ∧ (type_of% @v_not_) ∧ (type_of% @v_and_) ∧ (type_of% @v_or_) ∧ (type_of% @v_cmp) ∧ (type_of% @v_chain) ∧ (type_of% @v_ite) ∧ (type_of% @v_call) ∧ (type_of% @v_callK) ∧ (type_of% @v_meth) ∧ (type_of% @v_fld) ∧ (type_of% @v_prop) ∧ (type_of% @v_bi) ∧ (type_of% @v_isi) ∧ (type_of% @v_bm) ∧ (type_of% @v_sub) ∧ (type_of% @v_slc) ∧ (type_of% @v_rev) ∧ (type_of% @v_repl) ∧ (type_of% @v_listR) ∧ (type_of% @v_own1) ∧ (type_of% @v_own2) ∧ (type_of% @v_ownC) ∧ (type_of% @v_methK) ∧ (type_of% @v_tup) ∧ (type_of% @v_lst) ∧ (type_of% @v_dct) ∧ (type_of% @v_dctS) ∧ (type_of% @v_dget) ∧ (type_of% @v_dget1) ∧ (type_of% @v_itemsL) ∧ (type_of% @v_addL) ∧ (type_of% @v_dictP) ∧ (type_of% @v_frz) ∧ (type_of% @t_not) ∧ (type_of% @t_loc) ∧ (type_of% @t_con) ∧ (type_of% @t_glo) ∧ (type_of% @t_bin) ∧ (type_of% @t_neg) ∧ (type_of% @t_cmp) ∧ (type_of% @t_chain) ∧ (type_of% @t_ite) ∧ (type_of% @t_call) ∧ (type_of% @t_callK) ∧ (type_of% @t_meth) ∧ (type_of% @t_fld) ∧ (type_of% @t_prop) ∧ (type_of% @t_bi) ∧ (type_of% @t_isi) ∧ (type_of% @t_bm) ∧ (type_of% @t_sub) ∧ (type_of% @t_slc) ∧ (type_of% @t_rev) ∧ (type_of% @t_own1) ∧ (type_of% @t_own2) ∧ (type_of% @t_ownC) ∧ (type_of% @t_methK) ∧ (type_of% @t_tup) ∧ (type_of% @t_lst) ∧ (type_of% @t_dct) ∧ (type_of% @t_dctS) ∧ (type_of% @t_dget) ∧ (type_of% @t_dget1) ∧ (type_of% @t_itemsL) ∧ (type_of% @t_addL) ∧ (type_of% @t_dictP) ∧ (type_of% @t_frz) ∧ (type_of% @t_comp) ∧ (type_of% @i_loc) ∧ (type_of% @i_con) ∧ (type_of% @i_glo) ∧ (type_of% @i_bin) ∧ (type_of% @i_ite) ∧ (type_of% @i_call) ∧ (type_of% @i_callK) ∧ (type_of% @i_meth) ∧ (type_of% @i_fld) ∧ (type_of% @i_prop) ∧ (type_of% @i_bi) ∧ (type_of% @i_bm) ∧ (type_of% @i_sub) ∧ (type_of% @i_slc) ∧ (type_of% @i_rev) ∧ (type_of% @i_own2) ∧ (type_of% @i_methK) ∧ (type_of% @i_tup) ∧ (type_of% @i_lst) ∧ (type_of% @i_dct) ∧ (type_of% @i_dctS) ∧ (type_of% @i_dget) ∧ (type_of% @i_dget1) ∧ (type_of% @i_itemsL) ∧ (type_of% @i_addL) ∧ (type_of% @i_dictP) ∧ (type_of% @i_frz) ∧ (type_of% @i_comp) ∧ (type_of% @i_range) ∧ (type_of% @i_enum) ∧ (type_of% @o_nil) ∧ (type_of% @o_loc) ∧ (type_of% @o_con) ∧ (type_of% @o_glo) ∧ (type_of% @o_bin) ∧ (type_of% @o_neg) ∧ (type_of% @o_call) ∧ (type_of% @o_sub) ∧ (type_of% @c_nil) ∧ (type_of% @c_loc) ∧ (type_of% @c_con) ∧ (type_of% @c_glo) ∧ (type_of% @c_bin) ∧ (type_of% @c_neg) ∧ (type_of% @c_not_) ∧ (type_of% @c_and_) ∧ (type_of% @c_or_) ∧ (type_of% @c_cmp) ∧ (type_of% @c_chain) ∧ (type_of% @c_ite) ∧ (type_of% @c_call) ∧ (type_of% @c_callK) ∧ (type_of% @c_meth) ∧ (type_of% @c_fld) ∧ (type_of% @c_prop) ∧ (type_of% @c_bi) ∧ (type_of% @c_isi) ∧ (type_of% @c_bm) ∧ (type_of% @c_sub) ∧ (type_of% @c_slc) ∧ (type_of% @c_rev) ∧ (type_of% @c_own1) ∧ (type_of% @c_ownC) ∧ (type_of% @c_methK) ∧ (type_of% @s_nil) ∧ (type_of% @s_loc) ∧ (type_of% @s_con) ∧ (type_of% @s_glo) ∧ (type_of% @s_bin) ∧ (type_of% @s_neg) ∧ (type_of% @s_not_) ∧ (type_of% @s_and_) ∧ (type_of% @s_or_) ∧ (type_of% @s_cmp) ∧ (type_of% @s_chain) ∧ (type_of% @s_ite) ∧ (type_of% @s_call) ∧ (type_of% @s_callK) ∧ (type_of% @s_meth) ∧ (type_of% @s_fld) ∧ (type_of% @s_prop) ∧ (type_of% @s_bi) ∧ (type_of% @s_isi) ∧ (type_of% @s_bm) ∧ (type_of% @s_sub) ∧ (type_of% @s_slc) ∧ (type_of% @s_rev) ∧ (type_of% @s_own1) ∧ (type_of% @s_own2) ∧ (type_of% @s_ownC) ∧ (type_of% @s_methK) ∧ (type_of% @s_tup) ∧ (type_of% @s_lst) ∧ (type_of% @s_dct) ∧ (type_of% @s_dctS) ∧ (type_of% @s_dget) ∧ (type_of% @s_dget1) ∧ (type_of% @s_itemsL) ∧ (type_of% @s_addL) ∧ (type_of% @s_dictP) ∧ (type_of% @s_frz) ∧ (type_of% @s_comp) ∧ (type_of% @s_star) ∧ (type_of% @x_nil) ∧ (type_of% @x_cons) ∧ (type_of% @x_set) ∧ (type_of% @x_ret) ∧ (type_of% @x_retN) ∧ (type_of% @x_pass) ∧ (type_of% @x_brk) ∧ (type_of% @x_cont) ∧ (type_of% @x_ex) ∧ (type_of% @x_ite) ∧ (type_of% @x_unp) ∧ (type_of% @x_setF) ∧ (type_of% @x_setI) ∧ (type_of% @x_aug) ∧ (type_of% @x_for) ∧ (type_of% @x_unpA) ∧ (type_of% @x_mtch) ∧ (type_of% @x_m0) ∧ (type_of% @x_mS) ∧ (type_of% @add_i) ∧ (type_of% @sub_i) ∧ (type_of% @gt_i) ∧ (type_of% @ge_i) ∧ (type_of% @lt_i) ∧ (type_of% @le_i) ∧ (type_of% @eq_i) ∧ (type_of% @ne_i) ∧ (type_of% @le_s) ∧ (type_of% @eq_s) ∧ (type_of% @ne_s) ∧ (type_of% @tru_b) ∧ (type_of% @len_l) ∧ (type_of% @len_t) ∧ (type_of% @seq_t) ∧ (type_of% @seq_l) ∧ (type_of% @in_gd) ∧ (type_of% @notin_gd) ∧ (type_of% @is_non) ∧ (type_of% @isnot_non) ∧ (type_of% @end_rt) ∧ (type_of% @end_nx) ∧ (type_of% @opt_some) := ⟨@b_ok, @R.bind_if, @endR_if, @v_loc, @v_con, @v_glo, @v_bin, @v_neg, @v_not_, @v_and_, @v_or_, @v_cmp, @v_chain, @v_ite, @v_call, @v_callK, @v_meth, @v_fld, @v_prop, @v_bi, @v_isi, @v_bm, @v_sub, @v_slc, @v_rev, @v_repl, @v_listR, @v_own1, @v_own2, @v_ownC, @v_methK, @v_tup, @v_lst, @v_dct, @v_dctS, @v_dget, @v_dget1, @v_itemsL, @v_addL, @v_dictP, @v_frz, @t_not, @t_loc, @t_con, @t_glo, @t_bin, @t_neg, @t_cmp, @t_chain, @t_ite, @t_call, @t_callK, @t_meth, @t_fld, @t_prop, @t_bi, @t_isi, @t_bm, @t_sub, @t_slc, @t_rev, @t_own1, @t_own2, @t_ownC, @t_methK, @t_tup, @t_lst, @t_dct, @t_dctS, @t_dget, @t_dget1, @t_itemsL, @t_addL, @t_dictP, @t_frz, @t_comp, @i_loc, @i_con, @i_glo, @i_bin, @i_ite, @i_call, @i_callK, @i_meth, @i_fld, @i_prop, @i_bi, @i_bm, @i_sub, @i_slc, @i_rev, @i_own2, @i_methK, @i_tup, @i_lst, @i_dct, @i_dctS, @i_dget, @i_dget1, @i_itemsL, @i_addL, @i_dictP, @i_frz, @i_comp, @i_range, @i_enum, @o_nil, @o_loc, @o_con, @o_glo, @o_bin, @o_neg, @o_call, @o_sub, @c_nil, @c_loc, @c_con, @c_glo, @c_bin, @c_neg, @c_not_, @c_and_, @c_or_, @c_cmp, @c_chain, @c_ite, @c_call, @c_callK, @c_meth, @c_fld, @c_prop, @c_bi, @c_isi, @c_bm, @c_sub, @c_slc, @c_rev, @c_own1, @c_ownC, @c_methK, @s_nil, @s_loc, @s_con, @s_glo, @s_bin, @s_neg, @s_not_, @s_and_, @s_or_, @s_cmp, @s_chain, @s_ite, @s_call, @s_callK, @s_meth, @s_fld, @s_prop, @s_bi, @s_isi, @s_bm, @s_sub, @s_slc, @s_rev, @s_own1, @s_own2, @s_ownC, @s_methK, @s_tup, @s_lst, @s_dct, @s_dctS, @s_dget, @s_dget1, @s_itemsL, @s_addL, @s_dictP, @s_frz, @s_comp, @s_star, @x_nil, @x_cons, @x_set, @x_ret, @x_retN, @x_pass, @x_brk, @x_cont, @x_ex, @x_ite, @x_unp, @x_setF, @x_setI, @x_aug, @x_for, @x_unpA, @x_mtch, @x_m0, @x_mS, @add_i, @sub_i, @gt_i, @ge_i, @lt_i, @le_i, @eq_i, @ne_i, @le_s, @eq_s, @ne_s, @tru_b, @len_l, @len_t, @seq_t, @seq_l, @in_gd, @notin_gd, @is_non, @isnot_non, @end_rt, @end_nx, @opt_some⟩
end PC
end
section
set_option maxHeartbeats 0
namespace K01
open PySem PySem.Spec PyProof.Rows L2 PC
theorem b900 : p900.binds := Pd.binds_0 rfl rfl (fun kV doc pm an cdv ct us h => by
  obtain ⟨a0, rfl⟩ := ex1 h
  kernel_rfl) fun q hq kV doc pm an cdv ct us h hn => by
  cases hq
theorem b901 : p901.binds := Pd.binds_0 rfl rfl (fun kV doc pm an cdv ct us h => by
  obtain ⟨a0, a1, rfl⟩ := ex2 h
  kernel_rfl) fun q hq kV doc pm an cdv ct us h hn => by
  cases hq
theorem b902 : p902.binds := Pd.binds_0 rfl rfl (fun kV doc pm an cdv ct us h => by
  obtain ⟨a0, a1, rfl⟩ := ex2 h
  kernel_rfl) fun q hq kV doc pm an cdv ct us h hn => by
  cases hq
theorem b1000 : p1000.binds := Pd.binds_0 rfl rfl (fun kV doc pm an cdv ct us h => by
  obtain ⟨a0, rfl⟩ := ex1 h
  kernel_rfl) fun q hq kV doc pm an cdv ct us h hn => by
  cases hq
theorem b1001 : p1001.binds := Pd.binds_0 rfl rfl (fun kV doc pm an cdv ct us h => by
  obtain ⟨a0, rfl⟩ := ex1 h
  kernel_rfl) fun q hq kV doc pm an cdv ct us h hn => by
  cases hq
theorem b1002 : p1002.binds := Pd.binds_0 rfl rfl (fun kV doc pm an cdv ct us h => by
  obtain ⟨a0, rfl⟩ := ex1 h
  kernel_rfl) fun q hq kV doc pm an cdv ct us h hn => by
  cases hq
theorem b1003 : p1003.binds := Pd.binds_0 rfl rfl (fun kV doc pm an cdv ct us h => by
  obtain ⟨a0, rfl⟩ := ex1 h
  kernel_rfl) fun q hq kV doc pm an cdv ct us h hn => by
  cases hq
theorem b1004 : p1004.binds := Pd.binds_0 rfl rfl (fun kV doc pm an cdv ct us h => by
  obtain ⟨a0, rfl⟩ := ex1 h
  kernel_rfl) fun q hq kV doc pm an cdv ct us h hn => by
  cases hq
theorem b1005 : p1005.binds := Pd.binds_0 rfl rfl (fun kV doc pm an cdv ct us h => by
  obtain ⟨a0, rfl⟩ := ex1 h
  kernel_rfl) fun q hq kV doc pm an cdv ct us h hn => by
  cases hq
theorem bx101 : x101.chk PG.nms = true ∧ x101.binds := ⟨by kernel_rfl, fun kV doc pm an cda ct cc a b => ⟨by kernel_rfl, by kernel_rfl⟩⟩
theorem bx102 : x102.chk PG.nms = true ∧ x102.binds := ⟨by kernel_rfl, fun kV doc pm an cda ct cc a b => ⟨by kernel_rfl, by kernel_rfl⟩⟩
theorem bx103 : x103.chk PG.nms = true ∧ x103.binds := ⟨by kernel_rfl, fun kV doc pm an cda ct cc a b => ⟨by kernel_rfl, by kernel_rfl⟩⟩
theorem bx104 : x104.chk PG.nms = true ∧ x104.binds := ⟨by kernel_rfl, fun kV doc pm an cda ct cc a b => ⟨by kernel_rfl, by kernel_rfl⟩⟩
theorem bx105 : x105.chk PG.nms = true ∧ x105.binds := ⟨by kernel_rfl, fun kV doc pm an cda ct cc a b => ⟨by kernel_rfl, by kernel_rfl⟩⟩
theorem bx106 : x106.chk PG.nms = true ∧ x106.binds := ⟨by kernel_rfl, fun kV doc pm an cda ct cc a b => ⟨by kernel_rfl, by kernel_rfl⟩⟩
theorem bx107 : x107.chk PG.nms = true ∧ x107.binds := ⟨by kernel_rfl, fun kV doc pm an cda ct cc a b => ⟨by kernel_rfl, by kernel_rfl⟩⟩
theorem bx108 : x108.chk PG.nms = true ∧ x108.binds := ⟨by kernel_rfl, fun kV doc pm an cda ct cc a b => ⟨by kernel_rfl, by kernel_rfl⟩⟩
theorem bx109 : x109.chk PG.nms = true ∧ x109.binds := ⟨by kernel_rfl, fun kV doc pm an cda ct cc a b => ⟨by kernel_rfl, by kernel_rfl⟩⟩
theorem bx110 : x110.chk PG.nms = true ∧ x110.binds := ⟨by kernel_rfl, fun kV doc pm an cda ct cc a b => ⟨by kernel_rfl, by kernel_rfl⟩⟩
theorem bx112 : x112.chk PG.nms = true ∧ x112.binds := ⟨by kernel_rfl, fun kV doc pm an cda ct cc a b => ⟨by kernel_rfl, by kernel_rfl⟩⟩
theorem bx113 : x113.chk PG.nms = true ∧ x113.binds := ⟨by kernel_rfl, fun kV doc pm an cda ct cc a b => ⟨by kernel_rfl, by kernel_rfl⟩⟩
theorem bx114 : x114.chk PG.nms = true ∧ x114.binds := ⟨by kernel_rfl, fun kV doc pm an cda ct cc a b => ⟨by kernel_rfl, by kernel_rfl⟩⟩
theorem bx116 : x116.chk PG.nms = true ∧ x116.binds := ⟨by kernel_rfl, fun kV doc pm an cda ct cc a b => ⟨by kernel_rfl, by kernel_rfl⟩⟩
theorem seen : prg.fs.all (fun q => q.2.chk prg) = true := by kernel_rfl
theorem mts : prg.mtB = true := by kernel_rfl
theorem nmb : prg.nmB = true := by decide +kernel
theorem bs : ∀ q ∈ prg.fs, q.2.binds := by
  intro q hq
  simp only [prg, List.mem_cons, List.not_mem_nil, or_false] at hq
  rcases hq with rfl | rfl | rfl | rfl | rfl | rfl | rfl | rfl | rfl
  · exact b900
  · exact b901
  · exact b902
  · exact b1000
  · exact b1001
  · exact b1002
  · exact b1003
  · exact b1004
  · exact b1005
theorem xcs : ∀ q ∈ prg.xc, ∀ i, q.2.i = some i → i.chk prg.nm = true ∧ i.binds := by
  intro q hq i hi
  simp only [prg, List.mem_cons, List.not_mem_nil, or_false] at hq
  rcases hq with rfl | rfl | rfl | rfl | rfl | rfl | rfl | rfl | rfl | rfl | rfl | rfl | rfl | rfl | rfl | rfl | rfl
  · cases hi
  · cases hi; exact bx101
  · cases hi; exact bx102
  · cases hi; exact bx103
  · cases hi; exact bx104
  · cases hi; exact bx105
  · cases hi; exact bx106
  · cases hi; exact bx107
  · cases hi; exact bx108
  · cases hi; exact bx109
  · cases hi; exact bx110
  · cases hi
  · cases hi; exact bx112
  · cases hi; exact bx113
  · cases hi; exact bx114
  · cases hi
  · cases hi; exact bx116
theorem rcs : prg.recs := Prg.recs_of fun q hq => by
  simp only [prg, List.mem_cons, List.not_mem_nil, or_false] at hq
  rcases hq with rfl | rfl | rfl | rfl | rfl | rfl | rfl | rfl | rfl
  · exact True.intro
  · exact True.intro
  · exact True.intro
  · exact True.intro
  · exact True.intro
  · exact True.intro
  · exact True.intro
  · exact True.intro
  · exact True.intro
end K01
end
section
set_option maxHeartbeats 4000000
/-! DRW: the laws' draw. -/
namespace DRW
open PC
structure HasD (T : Tab) : Prop where
  f0 : T.fn 900 = some PG.f900
  f1 : T.fn 901 = some PG.f901
  f2 : T.fn 902 = some PG.f902
theorem sml_of {i : Int} (h1 : -(2 ^ 64) < i) (h2 : i < 2 ^ 64) : sml i = true := by
  unfold sml
  rw [decide_eq_true h1, decide_eq_true h2]
  rfl
/-- the draw -/
def KS : List DK := [.s [99, 101, 108, 108, 115], .s [97, 116], .s [108, 101, 102, 116], .s [117, 115, 101, 100]]
def drw (cs : List Int) (a l u : Int) : Cell := .dct KS [.lst (cs.map .int), .int a, .int l, .int u]
section
variable {g : G} {cs : List Int} {a l u : Int}
theorem d_cells (h : g[0]? = some (drw cs a l u)) : subD g (.ref 0) (.str [99, 101, 108, 108, 115]) = some (.lst (cs.map .int)) := by simp [subD, top, h, drw, dctD, keyD, kOk, KS, lookD]
theorem d_at (h : g[0]? = some (drw cs a l u)) : subD g (.ref 0) (.str [97, 116]) = some (.int a) := by simp [subD, top, h, drw, dctD, keyD, kOk, KS, lookD]
theorem d_left (h : g[0]? = some (drw cs a l u)) : subD g (.ref 0) (.str [108, 101, 102, 116]) = some (.int l) := by simp [subD, top, h, drw, dctD, keyD, kOk, KS, lookD]
theorem d_used (h : g[0]? = some (drw cs a l u)) : subD g (.ref 0) (.str [117, 115, 101, 100]) = some (.int u) := by simp [subD, top, h, drw, dctD, keyD, kOk, KS, lookD]
theorem p_at (h : g[0]? = some (drw cs a l u)) (v : Int) : setID g (.ref 0) (.str [97, 116]) (.int v) = some (g.set 0 (drw cs v l u)) := by simp [setID, h, drw, keyD, KS, putDk, putDv, LIM]
theorem p_left (h : g[0]? = some (drw cs a l u)) (v : Int) : setID g (.ref 0) (.str [108, 101, 102, 116]) (.int v) = some (g.set 0 (drw cs a v u)) := by simp [setID, h, drw, keyD, KS, putDk, putDv, LIM]
theorem p_used (h : g[0]? = some (drw cs a l u)) (v : Int) : setID g (.ref 0) (.str [117, 115, 101, 100]) (.int v) = some (g.set 0 (drw cs a l v)) := by simp [setID, h, drw, keyD, KS, putDk, putDv, LIM]
theorem s_0 {c d : Cell} (h : g[0]? = some c) : (g.set 0 d)[0]? = some d := by
  obtain ⟨hl, _⟩ := List.getElem?_eq_some_iff.mp h
  rw [List.getElem?_set_self hl]
theorem s_at {i : Nat} {d : D} {l : List D} (h : l[i]? = some d) (g : G) : subD g (.lst l) (.int i) = some d := by
  obtain ⟨hl, hd⟩ := List.getElem?_eq_some_iff.mp h
  simp [subD, top, L2.ixN, hl]
  exact hd
end
section
variable {T : Tab} (HD : HasD T)
include HD
/-- _law_mixed -/
theorem mixed (n : Nat) (c k : Int) (g : G) (h0 : 0 ≤ k) (h1 : k < 1000000) : ∃ r, call T (n + 1) 901 [.int c, .int k] g = .ok (.int r) g ∧ 0 ≤ r ∧ r < 2147483647 := by
  obtain ⟨x1, e1⟩ : ∃ x1, x1 = (c % 1000000007 + 7919 * k * k + 31 * k + 7) % 2147483647 := ⟨_, rfl⟩
  have b1 : 0 ≤ x1 ∧ x1 < 2147483647 := by rw [e1]; exact ⟨Int.emod_nonneg _ (by decide), Int.emod_lt_of_pos _ (by decide)⟩
  obtain ⟨y, e3⟩ : ∃ y, y = x1 * x1 % 2147483647 := ⟨_, rfl⟩
  have b3 : 0 ≤ y ∧ y < 2147483647 := by rw [e3]; exact ⟨Int.emod_nonneg _ (by decide), Int.emod_lt_of_pos _ (by decide)⟩
  obtain ⟨x2, e2⟩ : ∃ x2, x2 = y * x1 % 2147483629 := ⟨_, rfl⟩
  have b2 : 0 ≤ x2 ∧ x2 < 2147483629 := by rw [e2]; exact ⟨Int.emod_nonneg _ (by decide), Int.emod_lt_of_pos _ (by decide)⟩
  obtain ⟨z, e4⟩ : ∃ z, z = x2 * (69621 + 2 * (k % 1000)) % 2147483647 := ⟨_, rfl⟩
  have b4 : 0 ≤ z ∧ z < 2147483647 := by rw [e4]; exact ⟨Int.emod_nonneg _ (by decide), Int.emod_lt_of_pos _ (by decide)⟩
  refine ⟨z / 7, ?_, by omega, by omega⟩
  have s1 : sml (7919 * k) = true := sml_of (by omega) (by omega)
  have s2 : sml x1 = true := sml_of (by omega) (by omega)
  have s3 : sml y = true := sml_of (by omega) (by omega)
  have s4 : sml x2 = true := sml_of (by omega) (by omega)
  rw [call_fn n _ g HD.f1 rfl]
  show endR (execs T (call T n) PG.c901 [some (.int c), some (.int k), none] g) = _
  simp [PG.c901, execs, exec, ev, evT, evI, evM, evs, Md.of, binD, top, s1, s2, s3, s4, endR, ← e1, ← e2, ← e3, ← e4, show sml 7919 = true from rfl, show sml 31 = true from rfl, show sml 2 = true from rfl]
/-- _law_next -/
theorem next (n : Nat) {g : G} {cs : List Int} {a l u b : Int} (hg : g[0]? = some (drw cs a l u)) (hc : 0 < cs.length) (hl : cs.length ≤ 64) (ha : 0 ≤ a) (ha2 : a < 500000) (hll : 0 ≤ l) (hu : 0 ≤ u) (hu2 : u < 500000) (hb : 0 < b) (hb2 : b < 1000000) :
    ∃ r a' l' u', call T (n + 2) 902 [.ref 0, .int b] g = .ok (.int r) (g.set 0 (drw cs a' l' u')) ∧ 0 ≤ r ∧ r < b ∧ 0 ≤ a' ∧ a' ≤ a + 1 ∧ 0 ≤ l' ∧ 0 ≤ u' ∧ u' ≤ u + 1 := by
  have hb3 : b < 1073741824 := by omega
  by_cases h : 0 < l
  · refine ⟨l % b, a, l / b, u, ?_, Int.emod_nonneg _ (by omega), Int.emod_lt_of_pos _ hb, ha, by omega, Int.ediv_nonneg hll (by omega), hu, by omega⟩
    rw [call_fn (n + 1) _ _ HD.f2 rfl]
    show endR (execs T (call T (n + 1)) PG.c902 [some (.ref 0), some (.int b), none, none, none] g) = _
    simp only [PG.c902, b_ok, R.bind_if, endR_if, v_loc, v_con, v_glo, v_bin, v_neg, v_not_, v_and_, v_or_, v_cmp, v_chain, v_ite, v_call, v_callK, v_meth, v_fld, v_prop, v_bi, v_isi, v_bm, v_sub, v_slc, v_rev, v_own1, v_own2, v_ownC, v_methK, v_tup, v_lst, v_dct, v_dctS, v_dget, v_dget1, v_itemsL, v_addL, v_dictP, v_frz, v_comp, t_not, t_and, t_or, t_loc, t_con, t_glo, t_bin, t_neg, t_cmp, t_chain, t_ite, t_call, t_callK, t_meth, t_fld, t_prop, t_bi, t_isi, t_bm, t_sub, t_slc, t_rev, t_own1, t_own2, t_ownC, t_methK, t_tup, t_lst, t_dct, t_dctS, t_dget, t_dget1, t_itemsL, t_addL, t_dictP, t_frz, t_comp, i_loc, i_con, i_glo, i_bin, i_ite, i_call, i_callK, i_meth, i_fld, i_prop, i_bi, i_bm, i_sub, i_slc, i_rev, i_own2, i_methK, i_tup, i_lst, i_dct, i_dctS, i_dget, i_dget1, i_itemsL, i_addL, i_dictP, i_frz, i_comp, i_range, i_enum, o_nil, o_loc, o_con, o_glo, o_bin, o_neg, o_call, o_sub, c_nil, c_loc, c_con, c_glo, c_bin, c_neg, c_not_, c_and_, c_or_, c_cmp, c_chain, c_ite, c_call, c_callK, c_meth, c_fld, c_prop, c_bi, c_isi, c_bm, c_sub, c_slc, c_rev, c_own1, c_ownC, c_methK, s_nil, s_loc, s_con, s_glo, s_bin, s_neg, s_not_, s_and_, s_or_, s_cmp, s_chain, s_ite, s_call, s_callK, s_meth, s_fld, s_prop, s_bi, s_isi, s_bm, s_sub, s_slc, s_rev, s_own1, s_own2, s_ownC, s_methK, s_tup, s_lst, s_dct, s_dctS, s_dget, s_dget1, s_itemsL, s_addL, s_dictP, s_frz, s_comp, s_star, x_nil, x_cons, x_set, x_ret, x_retN, x_pass, x_brk, x_cont, x_ex, x_ite, x_unp, x_par, x_setF, x_setI, x_aug, x_for, x_while, x_unpA, x_mtch, x_m0, x_mS, add_i, sub_i, gt_i, ge_i, lt_i, le_i, eq_i, ne_i, le_s, eq_s, ne_s, tru_b, len_l, len_t, seq_t, seq_l, in_gd, notin_gd, is_non, isnot_non, end_rt, end_nx, opt_some, Option.map_some, List.getElem?_cons_zero, List.getElem?_cons_succ, List.set_cons_zero, List.set_cons_succ, List.map_cons, List.map_nil, List.replicate_succ, List.replicate_zero, List.cons_append, List.nil_append, List.append_nil, Bool.false_eq_true, if_true, if_false, d_left hg, p_left hg, decide_eq_true h, mod_i _ _ _ hb, fdiv_i _ _ _ hb hb3]
  · have hl0 : l = 0 := by omega
    subst hl0
    obtain ⟨i, hi⟩ : ∃ i : Nat, a % (cs.length : Int) = i := ⟨(a % (cs.length : Int)).toNat, by rw [Int.toNat_of_nonneg (Int.emod_nonneg _ (by omega))]⟩
    have hi2 : i < cs.length := by
      have := Int.emod_lt_of_pos a (show (0 : Int) < cs.length by omega)
      omega
    have hci : (cs.map D.int)[i]? = some (.int cs[i]) := by rw [List.getElem?_map, List.getElem?_eq_getElem hi2]; rfl
    generalize cs[i] = c at hci
    have hg2 : (g.set 0 (drw cs (a + 1) 0 u))[0]? = some (drw cs (a + 1) 0 u) := s_0 hg
    have hlen : (0 : Int) < ((cs.map D.int).length : Nat) := by rw [List.length_map]; omega
    have hi : a % (((cs.map D.int).length : Nat) : Int) = i := by rw [List.length_map]; exact hi
    have sa : ∀ g : G, subD g (.lst (cs.map D.int)) (.int i) = some (.int c) := s_at hci
    have pw : ∀ g : G, binD g .pow (.int 10) (.int 18) = some (.int 1000000000000000000) := fun _ => rfl
    by_cases hb1 : 1000000000000000000 ≤ c
    · by_cases hb4 : a + 1 ≤ (((cs.map D.int).length : Nat) : Int)
      · refine ⟨c % b, a + 1, c / b, u, ?_, Int.emod_nonneg _ (by omega), Int.emod_lt_of_pos _ hb, by omega, by omega, Int.ediv_nonneg (by omega) (by omega), hu, by omega⟩
        rw [call_fn (n + 1) _ _ HD.f2 rfl]
        show endR (execs T (call T (n + 1)) PG.c902 [some (.ref 0), some (.int b), none, none, none] g) = _
        simp only [PG.c902, b_ok, R.bind_if, endR_if, v_loc, v_con, v_glo, v_bin, v_neg, v_not_, v_and_, v_or_, v_cmp, v_chain, v_ite, v_call, v_callK, v_meth, v_fld, v_prop, v_bi, v_isi, v_bm, v_sub, v_slc, v_rev, v_own1, v_own2, v_ownC, v_methK, v_tup, v_lst, v_dct, v_dctS, v_dget, v_dget1, v_itemsL, v_addL, v_dictP, v_frz, v_comp, t_not, t_and, t_or, t_loc, t_con, t_glo, t_bin, t_neg, t_cmp, t_chain, t_ite, t_call, t_callK, t_meth, t_fld, t_prop, t_bi, t_isi, t_bm, t_sub, t_slc, t_rev, t_own1, t_own2, t_ownC, t_methK, t_tup, t_lst, t_dct, t_dctS, t_dget, t_dget1, t_itemsL, t_addL, t_dictP, t_frz, t_comp, i_loc, i_con, i_glo, i_bin, i_ite, i_call, i_callK, i_meth, i_fld, i_prop, i_bi, i_bm, i_sub, i_slc, i_rev, i_own2, i_methK, i_tup, i_lst, i_dct, i_dctS, i_dget, i_dget1, i_itemsL, i_addL, i_dictP, i_frz, i_comp, i_range, i_enum, o_nil, o_loc, o_con, o_glo, o_bin, o_neg, o_call, o_sub, c_nil, c_loc, c_con, c_glo, c_bin, c_neg, c_not_, c_and_, c_or_, c_cmp, c_chain, c_ite, c_call, c_callK, c_meth, c_fld, c_prop, c_bi, c_isi, c_bm, c_sub, c_slc, c_rev, c_own1, c_ownC, c_methK, s_nil, s_loc, s_con, s_glo, s_bin, s_neg, s_not_, s_and_, s_or_, s_cmp, s_chain, s_ite, s_call, s_callK, s_meth, s_fld, s_prop, s_bi, s_isi, s_bm, s_sub, s_slc, s_rev, s_own1, s_own2, s_ownC, s_methK, s_tup, s_lst, s_dct, s_dctS, s_dget, s_dget1, s_itemsL, s_addL, s_dictP, s_frz, s_comp, s_star, x_nil, x_cons, x_set, x_ret, x_retN, x_pass, x_brk, x_cont, x_ex, x_ite, x_unp, x_par, x_setF, x_setI, x_aug, x_for, x_while, x_unpA, x_mtch, x_m0, x_mS, add_i, sub_i, gt_i, ge_i, lt_i, le_i, eq_i, ne_i, le_s, eq_s, ne_s, tru_b, len_l, len_t, seq_t, seq_l, in_gd, notin_gd, is_non, isnot_non, end_rt, end_nx, opt_some, Option.map_some, List.getElem?_cons_zero, List.getElem?_cons_succ, List.set_cons_zero, List.set_cons_succ, List.map_cons, List.map_nil, List.replicate_succ, List.replicate_zero, List.cons_append, List.nil_append, List.append_nil, Bool.false_eq_true, if_true, if_false, d_left hg, d_cells hg, d_at hg, p_at hg, d_at hg2, p_left hg2, decide_eq_false h, mod_i _ _ _ hb, fdiv_i _ _ _ hb hb3, mod_i _ _ _ hlen, hi, sa, pw, decide_eq_true hb1, decide_eq_true hb4, List.set_set]
      · have hg3 : (g.set 0 (drw cs (a + 1) 0 (u + 1)))[0]? = some (drw cs (a + 1) 0 (u + 1)) := s_0 hg
        obtain ⟨r1, q1, q2, q3⟩ := mixed HD n c (a + 1) (g.set 0 (drw cs (a + 1) 0 (u + 1))) (by omega) (by omega)
        obtain ⟨r2, w1, w2, w3⟩ := mixed HD n r1 (u + 1) (g.set 0 (drw cs (a + 1) 0 (u + 1))) (by omega) (by omega)
        refine ⟨r2 % b, a + 1, 0, u + 1, ?_, Int.emod_nonneg _ (by omega), Int.emod_lt_of_pos _ hb, by omega, by omega, by omega, by omega, by omega⟩
        rw [call_fn (n + 1) _ _ HD.f2 rfl]
        show endR (execs T (call T (n + 1)) PG.c902 [some (.ref 0), some (.int b), none, none, none] g) = _
        simp only [PG.c902, b_ok, R.bind_if, endR_if, v_loc, v_con, v_glo, v_bin, v_neg, v_not_, v_and_, v_or_, v_cmp, v_chain, v_ite, v_call, v_callK, v_meth, v_fld, v_prop, v_bi, v_isi, v_bm, v_sub, v_slc, v_rev, v_own1, v_own2, v_ownC, v_methK, v_tup, v_lst, v_dct, v_dctS, v_dget, v_dget1, v_itemsL, v_addL, v_dictP, v_frz, v_comp, t_not, t_and, t_or, t_loc, t_con, t_glo, t_bin, t_neg, t_cmp, t_chain, t_ite, t_call, t_callK, t_meth, t_fld, t_prop, t_bi, t_isi, t_bm, t_sub, t_slc, t_rev, t_own1, t_own2, t_ownC, t_methK, t_tup, t_lst, t_dct, t_dctS, t_dget, t_dget1, t_itemsL, t_addL, t_dictP, t_frz, t_comp, i_loc, i_con, i_glo, i_bin, i_ite, i_call, i_callK, i_meth, i_fld, i_prop, i_bi, i_bm, i_sub, i_slc, i_rev, i_own2, i_methK, i_tup, i_lst, i_dct, i_dctS, i_dget, i_dget1, i_itemsL, i_addL, i_dictP, i_frz, i_comp, i_range, i_enum, o_nil, o_loc, o_con, o_glo, o_bin, o_neg, o_call, o_sub, c_nil, c_loc, c_con, c_glo, c_bin, c_neg, c_not_, c_and_, c_or_, c_cmp, c_chain, c_ite, c_call, c_callK, c_meth, c_fld, c_prop, c_bi, c_isi, c_bm, c_sub, c_slc, c_rev, c_own1, c_ownC, c_methK, s_nil, s_loc, s_con, s_glo, s_bin, s_neg, s_not_, s_and_, s_or_, s_cmp, s_chain, s_ite, s_call, s_callK, s_meth, s_fld, s_prop, s_bi, s_isi, s_bm, s_sub, s_slc, s_rev, s_own1, s_own2, s_ownC, s_methK, s_tup, s_lst, s_dct, s_dctS, s_dget, s_dget1, s_itemsL, s_addL, s_dictP, s_frz, s_comp, s_star, x_nil, x_cons, x_set, x_ret, x_retN, x_pass, x_brk, x_cont, x_ex, x_ite, x_unp, x_par, x_setF, x_setI, x_aug, x_for, x_while, x_unpA, x_mtch, x_m0, x_mS, add_i, sub_i, gt_i, ge_i, lt_i, le_i, eq_i, ne_i, le_s, eq_s, ne_s, tru_b, len_l, len_t, seq_t, seq_l, in_gd, notin_gd, is_non, isnot_non, end_rt, end_nx, opt_some, Option.map_some, List.getElem?_cons_zero, List.getElem?_cons_succ, List.set_cons_zero, List.set_cons_succ, List.map_cons, List.map_nil, List.replicate_succ, List.replicate_zero, List.cons_append, List.nil_append, List.append_nil, Bool.false_eq_true, if_true, if_false, d_left hg, d_cells hg, d_at hg, p_at hg, d_at hg2, d_used hg2, p_used hg2, decide_eq_false h, mod_i _ _ _ hb, mod_i _ _ _ hlen, hi, sa, pw, decide_eq_true hb1, decide_eq_false hb4, List.set_set, d_at hg3, d_used hg3, q1, w1]
    · have hg3 : (g.set 0 (drw cs (a + 1) 0 (u + 1)))[0]? = some (drw cs (a + 1) 0 (u + 1)) := s_0 hg
      obtain ⟨r1, q1, q2, q3⟩ := mixed HD n c (a + 1) (g.set 0 (drw cs (a + 1) 0 (u + 1))) (by omega) (by omega)
      obtain ⟨r2, w1, w2, w3⟩ := mixed HD n r1 (u + 1) (g.set 0 (drw cs (a + 1) 0 (u + 1))) (by omega) (by omega)
      refine ⟨r2 % b, a + 1, 0, u + 1, ?_, Int.emod_nonneg _ (by omega), Int.emod_lt_of_pos _ hb, by omega, by omega, by omega, by omega, by omega⟩
      rw [call_fn (n + 1) _ _ HD.f2 rfl]
      show endR (execs T (call T (n + 1)) PG.c902 [some (.ref 0), some (.int b), none, none, none] g) = _
      simp only [PG.c902, b_ok, R.bind_if, endR_if, v_loc, v_con, v_glo, v_bin, v_neg, v_not_, v_and_, v_or_, v_cmp, v_chain, v_ite, v_call, v_callK, v_meth, v_fld, v_prop, v_bi, v_isi, v_bm, v_sub, v_slc, v_rev, v_own1, v_own2, v_ownC, v_methK, v_tup, v_lst, v_dct, v_dctS, v_dget, v_dget1, v_itemsL, v_addL, v_dictP, v_frz, v_comp, t_not, t_and, t_or, t_loc, t_con, t_glo, t_bin, t_neg, t_cmp, t_chain, t_ite, t_call, t_callK, t_meth, t_fld, t_prop, t_bi, t_isi, t_bm, t_sub, t_slc, t_rev, t_own1, t_own2, t_ownC, t_methK, t_tup, t_lst, t_dct, t_dctS, t_dget, t_dget1, t_itemsL, t_addL, t_dictP, t_frz, t_comp, i_loc, i_con, i_glo, i_bin, i_ite, i_call, i_callK, i_meth, i_fld, i_prop, i_bi, i_bm, i_sub, i_slc, i_rev, i_own2, i_methK, i_tup, i_lst, i_dct, i_dctS, i_dget, i_dget1, i_itemsL, i_addL, i_dictP, i_frz, i_comp, i_range, i_enum, o_nil, o_loc, o_con, o_glo, o_bin, o_neg, o_call, o_sub, c_nil, c_loc, c_con, c_glo, c_bin, c_neg, c_not_, c_and_, c_or_, c_cmp, c_chain, c_ite, c_call, c_callK, c_meth, c_fld, c_prop, c_bi, c_isi, c_bm, c_sub, c_slc, c_rev, c_own1, c_ownC, c_methK, s_nil, s_loc, s_con, s_glo, s_bin, s_neg, s_not_, s_and_, s_or_, s_cmp, s_chain, s_ite, s_call, s_callK, s_meth, s_fld, s_prop, s_bi, s_isi, s_bm, s_sub, s_slc, s_rev, s_own1, s_own2, s_ownC, s_methK, s_tup, s_lst, s_dct, s_dctS, s_dget, s_dget1, s_itemsL, s_addL, s_dictP, s_frz, s_comp, s_star, x_nil, x_cons, x_set, x_ret, x_retN, x_pass, x_brk, x_cont, x_ex, x_ite, x_unp, x_par, x_setF, x_setI, x_aug, x_for, x_while, x_unpA, x_mtch, x_m0, x_mS, add_i, sub_i, gt_i, ge_i, lt_i, le_i, eq_i, ne_i, le_s, eq_s, ne_s, tru_b, len_l, len_t, seq_t, seq_l, in_gd, notin_gd, is_non, isnot_non, end_rt, end_nx, opt_some, Option.map_some, List.getElem?_cons_zero, List.getElem?_cons_succ, List.set_cons_zero, List.set_cons_succ, List.map_cons, List.map_nil, List.replicate_succ, List.replicate_zero, List.cons_append, List.nil_append, List.append_nil, Bool.false_eq_true, if_true, if_false, d_left hg, d_cells hg, d_at hg, p_at hg, d_at hg2, d_used hg2, p_used hg2, decide_eq_false h, mod_i _ _ _ hb, mod_i _ _ _ hlen, hi, sa, pw, decide_eq_false hb1, List.set_set, d_at hg3, d_used hg3, q1, w1]
end
/-- a heap with a draw that was asked at most so often -/
def Dr (B : Int) (g : G) : Prop := ∃ cs a l u, g[0]? = some (drw cs a l u) ∧ 0 < cs.length ∧ cs.length ≤ 64 ∧ 0 ≤ a ∧ a ≤ B ∧ 0 ≤ l ∧ 0 ≤ u ∧ u ≤ B
theorem Dr.le {B C : Int} {g : G} (h : Dr B g) (hb : B ≤ C) : Dr C g := by
  obtain ⟨cs, a, l, u, h1, h2, h3, h4, h5, h6, h7, h8⟩ := h
  exact ⟨cs, a, l, u, h1, h2, h3, h4, by omega, h6, h7, by omega⟩
/-- the i-th of a list -/
theorem at_mem {l : List D} {r : Nat} (h : r < l.length) (g : G) : ∃ d, d ∈ l ∧ subD g (.lst l) (.int r) = some d := ⟨l[r], List.getElem_mem _, s_at (List.getElem?_eq_getElem h) g⟩
theorem Dr.app {B : Int} {g : G} (h : Dr B g) (c : Cell) : Dr B (g ++ [c]) := by
  obtain ⟨cs, a, l, u, h1, h2⟩ := h
  refine ⟨cs, a, l, u, ?_, h2⟩
  obtain ⟨hl, e⟩ := List.getElem?_eq_some_iff.mp h1
  rw [List.getElem?_append_left hl]
  exact h1
theorem mk_f (l : List D) (g : G) (h : l.length ≤ LIM) : mkL false l g = .ok (.lst l) g := by
  unfold mkL
  rw [if_pos (by simpa using h)]
  rfl
section
variable {T : Tab} (HD : HasD T)
include HD
theorem nextD (n : Nat) {B b : Int} {g : G} (h : Dr B g) (hB : B < 400000) (hb : 0 < b) (hb2 : b < 1000000) : ∃ (r : Nat) (g' : G), call T (n + 2) 902 [.ref 0, .int b] g = .ok (.int r) g' ∧ (r : Int) < b ∧ Dr (B + 1) g' := by
  obtain ⟨cs, a, l, u, h1, h2, h3, h4, h5, h6, h7, h8⟩ := h
  obtain ⟨r, a', l', u', e, e1, e2, e3, e4, e5, e6, e7⟩ := next HD n h1 h2 h3 h4 (by omega) h6 h7 (by omega) hb hb2
  refine ⟨r.toNat, _, by rw [Int.toNat_of_nonneg e1]; exact e, by rw [Int.toNat_of_nonneg e1]; exact e2, cs, a', l', u', s_0 h1, h2, h3, e3, by omega, e5, e6, by omega⟩
theorem begin_ (n : Nat) (ns : List Int) (h : ns.length ≤ 63) : call T (n + 1) 900 [.lst (ns.map .int)] [] = .ok (.ref 0) [drw (ns ++ [0]) 0 0 0] := by
  have hL : LIM = 1000000 := rfl
  have a := add_l [] (ns.map D.int) [.int 0] (by rw [List.length_map]; simp; omega)
  have m : mkL false [D.int 0] [] = .ok (.lst [.int 0]) [] := mk_f _ _ (by decide)
  have hk : (([D.lst (ns.map D.int ++ [.int 0]), .int 0, .int 0, .int 0] : List D).length = KS.length ∧ KS.Nodup ∧ KS.length ≤ 15) := ⟨rfl, by decide, by decide⟩
  rw [call_fn n _ _ HD.f0 rfl]
  show endR (execs T (call T n) [.ret (.dct true KS [.bin .add (.loc 0) (.lst false [.con (.int 0)]), .con (.int 0), .con (.int 0), .con (.int 0)])] [some (.lst (ns.map .int))] []) = _
  simp only [b_ok, R.bind_if, endR_if, v_loc, v_con, v_glo, v_bin, v_neg, v_not_, v_and_, v_or_, v_cmp, v_chain, v_ite, v_call, v_callK, v_meth, v_fld, v_prop, v_bi, v_isi, v_bm, v_sub, v_slc, v_rev, v_own1, v_own2, v_ownC, v_methK, v_tup, v_lst, v_dct, v_dctS, v_dget, v_dget1, v_itemsL, v_addL, v_dictP, v_frz, v_comp, t_not, t_and, t_or, t_loc, t_con, t_glo, t_bin, t_neg, t_cmp, t_chain, t_ite, t_call, t_callK, t_meth, t_fld, t_prop, t_bi, t_isi, t_bm, t_sub, t_slc, t_rev, t_own1, t_own2, t_ownC, t_methK, t_tup, t_lst, t_dct, t_dctS, t_dget, t_dget1, t_itemsL, t_addL, t_dictP, t_frz, t_comp, i_loc, i_con, i_glo, i_bin, i_ite, i_call, i_callK, i_meth, i_fld, i_prop, i_bi, i_bm, i_sub, i_slc, i_rev, i_own2, i_methK, i_tup, i_lst, i_dct, i_dctS, i_dget, i_dget1, i_itemsL, i_addL, i_dictP, i_frz, i_comp, i_range, i_enum, o_nil, o_loc, o_con, o_glo, o_bin, o_neg, o_call, o_sub, c_nil, c_loc, c_con, c_glo, c_bin, c_neg, c_not_, c_and_, c_or_, c_cmp, c_chain, c_ite, c_call, c_callK, c_meth, c_fld, c_prop, c_bi, c_isi, c_bm, c_sub, c_slc, c_rev, c_own1, c_ownC, c_methK, s_nil, s_loc, s_con, s_glo, s_bin, s_neg, s_not_, s_and_, s_or_, s_cmp, s_chain, s_ite, s_call, s_callK, s_meth, s_fld, s_prop, s_bi, s_isi, s_bm, s_sub, s_slc, s_rev, s_own1, s_own2, s_ownC, s_methK, s_tup, s_lst, s_dct, s_dctS, s_dget, s_dget1, s_itemsL, s_addL, s_dictP, s_frz, s_comp, s_star, x_nil, x_cons, x_set, x_ret, x_retN, x_pass, x_brk, x_cont, x_ex, x_ite, x_unp, x_par, x_setF, x_setI, x_aug, x_for, x_while, x_unpA, x_mtch, x_m0, x_mS, add_i, sub_i, gt_i, ge_i, lt_i, le_i, eq_i, ne_i, le_s, eq_s, ne_s, tru_b, len_l, len_t, seq_t, seq_l, in_gd, notin_gd, is_non, isnot_non, end_rt, end_nx, opt_some, Option.map_some, List.getElem?_cons_zero, List.getElem?_cons_succ, List.set_cons_zero, List.set_cons_succ, List.map_cons, List.map_nil, List.replicate_succ, List.replicate_zero, List.cons_append, List.nil_append, List.append_nil, m, a, if_pos hk, if_true, drw, List.map_append, List.length_nil]
theorem Dr.begin (ns : List Int) (h : ns.length ≤ 63) : Dr 0 [drw (ns ++ [0]) 0 0 0] :=
  ⟨ns ++ [0], 0, 0, 0, rfl, by simp, by simp; omega, by omega, by omega, by omega, by omega, by omega⟩
end
end DRW
end
section
set_option maxHeartbeats 4000000
/-! K01R: repr of the law's lists ends. -/
namespace K01L
open PC
open PySem (PyData)
/-- small data: ints are counts -/
def smR : Nat → D → Bool
  | 0, _ => false
  | n + 1, d => match d with
    | .non => true
    | .bl _ => true
    | .int i => decide (-1000 ≤ i ∧ i ≤ 1000)
    | .str s => s.all fun c => decide (c < 1114112)
    | .tup l => l.all (smR n)
    | .lst l => l.all (smR n)
    | .dct [] [] => true
    | _ => false
def cst : Nat → D → Nat
  | 0, _ => 0
  | n + 1, d => match d with
    | .str s => 10 * s.length + 2
    | .tup l => (l.map fun x => cst n x + 2).sum + 6
    | .lst l => (l.map fun x => cst n x + 2).sum + 6
    | _ => 8
theorem int_len : ∀ k < 2001, (toP (.int ((k : Nat) - 1000 : Int))).shown.length ≤ 8 ∧ (toP (.int ((k : Nat) - 1000 : Int))).showable = true := by decide +kernel
theorem sm_pl : ∀ (n : Nat) (d : D), smR n d = true → plR n d = true
  | 0, d, h => by cases h
  | n + 1, d, h => by
    have many : ∀ l : List D, l.all (smR n) = true → l.all (plR n) = true := fun l h => by
      rw [List.all_eq_true] at h ⊢
      exact fun x hx => sm_pl n x (h x hx)
    cases d with
    | non => rfl
    | bl b => rfl
    | int i => rfl
    | str s => exact h
    | tup l => exact many l h
    | lst l => exact many l h
    | dct ks vs =>
      cases ks with
      | nil =>
        cases vs with
        | nil => rfl
        | cons _ _ => cases h
      | cons _ _ => cases vs <;> cases h
    | _ => cases h
theorem piled_le : ∀ ts : List PySem.Str, PySem.piled ts = (ts.map fun t => t.length + 2).sum
  | [] => rfl
  | t :: ts => by
    have ih := piled_le ts
    show _ = (t.length + 2) + (ts.map fun t => t.length + 2).sum
    rw [← ih]
    rfl
theorem join_le (ts : List PySem.Str) : (PySem.Str.join ", " ts).length ≤ (ts.map fun t => t.length + 2).sum := by
  by_cases h : ts = []
  · subst h; exact Nat.zero_le _
  · have := PySem.join_length_add ts h
    rw [piled_le] at this
    omega
theorem rep_sz : ∀ (n : Nat) (d : D), smR n d = true → (toP d).showable = true ∧ (toP d).shown.length ≤ cst n d
  | 0, d, h => by cases h
  | n + 1, d, h => by
    have many : ∀ l : List D, l.all (smR n) = true → PyData.showableAll (toPs l) = true ∧ ((PyData.shownAll (toPs l)).map fun t => t.length + 2).sum ≤ (l.map fun x => cst n x + 2).sum := by
      intro l
      induction l with
      | nil => intro _; exact ⟨rfl, Nat.le_refl _⟩
      | cons x l ih =>
        intro h
        rw [List.all_cons, Bool.and_eq_true] at h
        obtain ⟨a1, a2⟩ := rep_sz n x h.1
        obtain ⟨b1, b2⟩ := ih h.2
        refine ⟨?_, ?_⟩
        · show ((toP x).showable && PyData.showableAll (toPs l)) = true
          rw [a1, b1]; rfl
        · show ((toP x).shown.length + 2) + ((PyData.shownAll (toPs l)).map fun t => t.length + 2).sum ≤ (cst n x + 2) + (l.map fun x => cst n x + 2).sum
          omega
    cases d with
    | non => exact ⟨rfl, by show (PyData.shown .none).length ≤ 8; decide +kernel⟩
    | bl b => cases b <;> exact ⟨rfl, by show _ ≤ 8; decide +kernel⟩
    | int i =>
      have h : decide (-1000 ≤ i ∧ i ≤ 1000) = true := h
      rw [decide_eq_true_iff] at h
      obtain ⟨k, rfl⟩ : ∃ k : Nat, i = (k : Int) - 1000 := ⟨(i + 1000).toNat, by omega⟩
      obtain ⟨a, b⟩ := int_len k (by omega)
      exact ⟨b, a⟩
    | str s =>
      refine ⟨rfl, ?_⟩
      have h : (s.all fun c => decide (c < 1114112)) = true := h
      have := PySem.StrLaws.reprText_len (st s) (fun c hc => by
        rw [st_list] at hc
        have := List.all_eq_true.mp h c hc
        rw [decide_eq_true_iff] at this
        exact Nat.lt_trans this (by decide))
      rw [st_length] at this
      exact this
    | tup l =>
      obtain ⟨a, b⟩ := many l h
      refine ⟨a, ?_⟩
      have e : (toP (.tup l)).shown = (PyData.tuple (toPs l)).shown := rfl
      rw [e, PySem.PyData.shown_tuple]
      have j := join_le (PyData.shownAll (toPs l))
      have t2 : ∀ b : Bool, ((if b = true then ",)" else ")" : String) : PySem.Str).length ≤ 2 := by decide +kernel
      have e2 : ∀ a b : PySem.Str, (a ++ b).length = a.length + b.length := fun a b => by
        show (a.cps ++ b.cps).size = _
        rw [Array.size_append]; rfl
      rw [e2, e2]
      have := t2 ((toPs l).length == 1)
      have t1 : (("(" : String) : PySem.Str).length = 1 := by decide +kernel
      show _ + _ + _ ≤ (l.map fun x => cst n x + 2).sum + 6
      omega
    | lst l =>
      obtain ⟨a, b⟩ := many l h
      refine ⟨a, ?_⟩
      have e : (toP (.lst l)).shown = (PyData.list (toPs l)).shown := rfl
      rw [e, PySem.PyData.shown_list]
      have j := join_le (PyData.shownAll (toPs l))
      have e2 : ∀ a b : PySem.Str, (a ++ b).length = a.length + b.length := fun a b => by
        show (a.cps ++ b.cps).size = _
        rw [Array.size_append]; rfl
      rw [e2, e2]
      have t1 : (("[" : String) : PySem.Str).length = 1 := by decide +kernel
      have t3 : (("]" : String) : PySem.Str).length = 1 := by decide +kernel
      show _ + _ + _ ≤ (l.map fun x => cst n x + 2).sum + 6
      omega
    | dct ks vs =>
      cases ks with
      | nil =>
        cases vs with
        | nil => exact ⟨rfl, by show _ ≤ 8; decide +kernel⟩
        | cons _ _ => cases h
      | cons _ _ => cases vs <;> cases h
    | _ => cases h
theorem some_of {g : G} (d : D) (ht : top g d = d) (h : smR 50 d = true) (hc : cst 50 d ≤ 1000000) : (reprD g d).isSome = true := by
  obtain ⟨a, b⟩ := rep_sz 50 d h
  unfold reprD
  rw [ht, sm_pl 50 d h, a, if_pos]
  · rfl
  · show (true && (true && decide (_ ≤ LIM))) = true
    rw [decide_eq_true (show (toP d).shown.length ≤ LIM from Nat.le_trans b hc)]; rfl
end K01L
end
section
set_option maxHeartbeats 4000000
/-! K01V: the law's run on data. -/
namespace K01L
open PC DRW
abbrev T : Tab := K01.prg.T
theorem hd : HasD T := by
  constructor
  all_goals rfl
def MD (d : D) : D := .lst [.lst [.xob 101 [63] [d], .xob 102 [63] [d], .xob 103 [63] [d], .xob 104 [63] [d], .xob 105 [63] [d], .xob 106 [64] [d], .xob 107 [64] [d], .xob 108 [63] [d], .xob 109 [65] [d], .xob 110 [63] [d]],
  .lst [.xob 112 [64] [d], .xob 113 [66] [d], .xob 114 [67] [d]], .lst [.xob 116 [63] [d]]]
theorem made (d : D) (g : G) (n : Nat) : call T (n + 1) 1001 [d] g = .ok (MD d) g := by kernel_rfl
theorem fields (d : D) (g : G) (n : Nat) : call T (n + 1) 1003 [MD d] g = .ok (.lst (List.replicate 14 d)) g := by kernel_rfl
theorem named (d : D) (g : G) (n : Nat) : call T (n + 1) 1002 [d] g = .ok (.lst (List.replicate 14 d)) g := by kernel_rfl
theorem families (d : D) (g : G) (n : Nat) : call T (n + 2) 1000 [MD d] g = .ok (.bl true) g := by kernel_rfl
theorem times (d : D) (g : G) : binD g .mul (.lst [d]) (.int 14) = some (.lst (List.replicate 14 d)) := by kernel_rfl
def IT (a : Int) : List D := [.non, .int a, .str [119, 114, 111, 110, 103], .tup [.int a, .int 7], .lst [.int a], .tup [.str [97], .tup []], .dct [] [], .bl true]
theorem all14 {d : D} (h : smR 49 d = true) : smR 50 (.lst (List.replicate 14 d)) = true := by
  show (List.replicate 14 d).all (smR 49) = true
  rw [List.all_eq_true]
  intro x hx
  rw [List.eq_of_mem_replicate hx]
  exact h
theorem repr_ok (g : G) {r : Nat} (hr : r < 2001) : ∀ d ∈ IT ((r : Int) - 1000), ∃ s, biD g .repr [.lst (List.replicate 14 d)] = .ok (.str s) g := by
  have go : ∀ d, (reprD [] (.lst (List.replicate 14 d))).isSome = true → ∃ s, biD g .repr [.lst (List.replicate 14 d)] = .ok (.str s) g := fun d h => by
    obtain ⟨s, hs⟩ := Option.isSome_iff_exists.mp h
    refine ⟨s, ?_⟩
    show opt ((reprD [] (.lst (List.replicate 14 d))).map D.str) g = _
    rw [hs]; rfl
  intro d hd
  simp only [IT, List.mem_cons, List.not_mem_nil, or_false] at hd
  rcases hd with rfl | rfl | rfl | rfl | rfl | rfl | rfl | rfl
  · exact go _ (some_of _ rfl (by decide +kernel) (by decide +kernel))
  · exact go _ (some_of _ rfl (all14 (by show decide (_ ∧ _) = true; rw [decide_eq_true_iff]; omega)) (by exact (by decide +kernel : cst 50 (D.lst (List.replicate 14 (.int 0))) ≤ 1000000)))
  · exact go _ (some_of _ rfl (by decide +kernel) (by decide +kernel))
  · exact go _ (some_of _ rfl (all14 (by show (decide (_ ∧ _) && (true && true)) = true; rw [Bool.and_true, Bool.and_true, decide_eq_true_iff]; omega)) (by exact (by decide +kernel : cst 50 (D.lst (List.replicate 14 (.tup [.int 0, .int 7]))) ≤ 1000000)))
  · exact go _ (some_of _ rfl (all14 (by show (decide (_ ∧ _) && true) = true; rw [Bool.and_true, decide_eq_true_iff]; omega)) (by exact (by decide +kernel : cst 50 (D.lst (List.replicate 14 (.lst [.int 0]))) ≤ 1000000)))
  · exact go _ (some_of _ rfl (by decide +kernel) (by decide +kernel))
  · exact go _ (some_of _ rfl (by decide +kernel) (by decide +kernel))
  · exact go _ (some_of _ rfl (by decide +kernel) (by decide +kernel))
theorem pick (l : List D) (g : G) {r : Nat} (hr : r < l.length) : ∃ d, d ∈ l ∧ subD g (.lst l) (.int r) = some d := by
  refine ⟨l[r], List.getElem_mem hr, ?_⟩
  show ((L2.ixN l.length r).bind fun j => l[j]?) = _
  have : L2.ixN l.length ((r : Nat) : Int) = some r := by
    unfold L2.ixN
    rw [if_pos (by omega), if_pos (by omega)]
    simp
  rw [this]
  simp [hr]
abbrev bodyL : List S := [.set 3 (.bin .sub (.call 902 [.loc 1, .con (.int 2001)]) (.con (.int 1000))),
  .set 4 (.sub (.lst false [.con (.non), .loc 3, .con (.str [119, 114, 111, 110, 103]), .tup [.loc 3, .con (.int 7)], .lst false [.loc 3], .tup [.con (.str [97]), .tup []], .dct false [] [], .con (.bl true)]) (.call 902 [.loc 1, .con (.int 8)])),
  .ite (.not_ (.call 1000 [.call 1001 [.loc 4]])) [.ret (.con (.bl false))] [],
  .ite (.or_ (.cmp .ne (.bi .repr [.call 1003 [.call 1001 [.loc 4]]]) (.bi .repr [.bin .mul (.lst false [.loc 4]) (.con (.int 14))])) (.cmp .ne (.bi .repr [.call 1002 [.loc 4]]) (.bi .repr [.bin .mul (.lst false [.loc 4]) (.con (.int 14))]))) [.ret (.con (.bl false))] []]
theorem turns (n : Nat) (x0 : Option D) : ∀ (m : Nat) (lo B : Int) (g : G) (x2 x3 x4 : Option D), Dr B g → B + 40 * m < 190000 → ∃ y2 y3 y4 g', Dr (B + 40 * m) g' ∧
    forL (forF T (call T (n + 3)) true [2] bodyL) (rangeL lo m) [x0, some (.ref 0), x2, x3, x4] g = .ok (.nx [x0, some (.ref 0), y2, y3, y4]) g'
  | 0, lo, B, g, x2, x3, x4, h, hB => ⟨x2, x3, x4, g, by simpa using h, rfl⟩
  | m + 1, lo, B, g, x2, x3, x4, h, hB => by
    obtain ⟨r, g1, r1, r2, r3⟩ := nextD hd (n + 1) h (by omega) (b := 2001) (by omega) (by omega)
    obtain ⟨q, g2, s1, s2, s3⟩ := nextD hd (n + 1) r3 (by omega) (b := 8) (by omega) (by omega)
    have r1 : call T (n + 3) 902 [.ref 0, .int 2001] g = .ok (.int r) g1 := r1
    have s1 : call T (n + 3) 902 [.ref 0, .int 8] g1 = .ok (.int q) g2 := s1
    obtain ⟨d, d1, d2⟩ := pick (IT ((r : Int) - 1000)) g2 (r := q) (by show q < 8; omega)
    have d2 : subD g2 (.lst [.non, .int ((r : Int) - 1000), .str [119, 114, 111, 110, 103], .tup [.int ((r : Int) - 1000), .int 7], .lst [.int ((r : Int) - 1000)], .tup [.str [97], .tup []], .dct [] [], .bl true]) (.int q) = some d := d2
    obtain ⟨s, hs⟩ := repr_ok g2 (r := r) (by omega) d d1
    have c1 : call T (n + 3) 1001 [d] g2 = .ok (MD d) g2 := made d g2 (n + 2)
    have c2 : call T (n + 3) 1000 [MD d] g2 = .ok (.bl true) g2 := families d g2 (n + 1)
    have c3 : call T (n + 3) 1003 [MD d] g2 = .ok (.lst (List.replicate 14 d)) g2 := fields d g2 (n + 2)
    have c4 : call T (n + 3) 1002 [d] g2 = .ok (.lst (List.replicate 14 d)) g2 := named d g2 (n + 2)
    have m1 : mkL false [d] g2 = .ok (.lst [d]) g2 := rfl
    have m2 : ∀ a : D, mkL false [a] g1 = .ok (.lst [a]) g1 := fun _ => rfl
    have m3 : ∀ a b c e f h i j : D, mkL false [a, b, c, e, f, h, i, j] g1 = .ok (.lst [a, b, c, e, f, h, i, j]) g1 := fun _ _ _ _ _ _ _ _ => rfl
    have ne : cmpD g2 .ne (.str s) (.str s) = some false := by rw [ne_s]; simp
    have z0 : (([] : List D).length = ([] : List DK).length ∧ ([] : List DK).Nodup ∧ ([] : List DK).length ≤ 15) = True := by simp
    have z1 : (([] : List D).length ≤ LIM) = True := by simp
    have z2 : ∀ a b : D, ([a, b].length ≤ LIM) = True := fun a b => eq_true (by show 2 ≤ 1000000; decide)
    obtain ⟨w2, w3, w4, g3, q1, q2⟩ := turns n x0 m (lo + 1) (B + 40) g2 (some (.int lo)) (some (.int ((r : Int) - 1000))) (some d) (s3.le (by omega)) (by omega)
    refine ⟨w2, w3, w4, g3, q1.le (by omega), ?_⟩
    show forL _ (.int lo :: rangeL (lo + 1) m) _ g = _
    rw [forL_cons, forF_one]
    have tm := fun g => times d g
    simp only [List.replicate_succ, List.replicate_zero] at c3 c4 hs tm
    simp only [e1_, x_while, v_comp, x_par, t_and, t_or, Option.map_some, List.getElem?_cons_zero, List.getElem?_cons_succ, List.set_cons_zero, List.set_cons_succ, List.map_cons, List.map_nil, List.replicate_succ, List.replicate_zero, List.cons_append, List.nil_append, List.append_nil, r1, s1, m1, m2, m3, z0, z1, z2, d2, c1, c2, c3, c4, tm, hs, ne, Bool.decide_eq_true, ok_if, decide_true, decide_false, Bool.not_true, Bool.not_false, Bool.or_self, Bool.and_self, Bool.true_and, Bool.and_true, Bool.false_and, Bool.and_false, Bool.true_or, Bool.or_true, Bool.false_or, Bool.or_false, Bool.false_eq_true, if_true, if_false, ne_eq, not_true_eq_false, not_false_eq_true]
    exact q2
theorem law_true : ∀ ns : List Int, ns.length ≤ 63 → ∃ g, call T 30 1005 [.lst (ns.map D.int)] [] = .ok (.bl true) g := by
  intro ns h
  have hb := begin_ hd 28 ns h
  have hd0 := Dr.begin hd ns h
  generalize [drw (ns ++ [0]) 0 0 0] = g at hb hd0
  have hb : call T 29 900 [.lst (ns.map .int)] [] = .ok (.ref 0) g := hb
  have hl : (((ns.map D.int).length : Nat) : Int) = ns.length := by rw [List.length_map]
  obtain ⟨m, mn, m1, m2⟩ : ∃ m : Int, biD g .min2 [.int 12, .int (3 + (((ns.map D.int).length : Nat) : Int))] = .ok (.int m) g ∧ m ≤ 12 ∧ (m = 12 ∨ m = 3 + (((ns.map D.int).length : Nat) : Int)) := by
    refine ⟨if (3 + (((ns.map D.int).length : Nat) : Int)) < 12 then 3 + (((ns.map D.int).length : Nat) : Int) else 12, rfl, ?_⟩
    split <;> omega
  obtain ⟨k, rfl⟩ : ∃ k : Nat, m = k := ⟨m.toNat, by omega⟩
  obtain ⟨y2, y3, y4, g', p1, p2⟩ := turns 26 (some (.lst (ns.map .int))) k 0 0 g none none none hd0 (by omega)
  have p2 : forL (forF T (call T 29) true [2] bodyL) (rangeL 0 k) [some (.lst (ns.map .int)), some (.ref 0), none, none, none] g = .ok (.nx [some (.lst (ns.map .int)), some (.ref 0), y2, y3, y4]) g' := p2
  refine ⟨g', ?_⟩
  rw [call_fn 29 _ [] (show T.fn 1005 = some K01.f1005 from rfl) rfl]
  show endR (execs T (call T 29) K01.c1005 [some (.lst (ns.map .int)), none, none, none, none] []) = _
  simp only [K01.c1005, e1_, x_while, v_comp, x_par, t_and, t_or, Option.map_some, List.getElem?_cons_zero, List.getElem?_cons_succ, List.set_cons_zero, List.set_cons_succ, List.map_cons, List.map_nil, List.replicate_succ, List.replicate_zero, List.cons_append, List.nil_append, List.append_nil, hb, mn, range_1 g k (by omega), lock_n, p2, free_n]
end K01L
end
section
set_option maxHeartbeats 0
open PySem PySem.W PySem.Calls PyProof.Rows
theorem PySem.Challenge.cw_replinput_k01_error_classes_holds : PySem.Challenge.rw_replinput_k01_error_classes.Holds := by
  w_on; o_law
  refine HandSHeadRun.head_any (r := K01.RR) (q := view K01.RR.prog [27]) (H := K01.prg.hook 4000) (ob := K01.ob) (M := 8000) (loose := K01.names) (d := HandSHeadRun.topDef K01.RR.prog 27) (kwd := []) K01.ob_eq
    (by kernel_rfl) (fun s => by kernel_rfl) K01.run (by kernel_rfl) (by kernel_rfl) (by kernel_rfl) (by rfl) (by first | assumption | decide +kernel) (by decide +kernel) ⟨rfl, rfl, rfl, rfl, rfl, by decide +kernel⟩ ?hw ?hc
  case hw => w_witness2
  case hc =>
    refine PC.law_walk (l := PySem.Challenge.rw_replinput_k01_error_classes) (m := 63) (n := 30) (T := K01.prg.T) (lw := 1005) rfl (by decide) (by kernel_rfl) ⟨rfl, by decide, by decide⟩ ?hF K01L.law_true
    intro w mg h Y G
    obtain ⟨K, KX, c⟩ := Y
    obtain ⟨e4, ex, e5, e6⟩ := PC.Prg.ok (w := w) (P := K01.RR.prog) K01.seen K01.mts K01.nmb K01.rcs K01.bs K01.xcs rfl (by kernel_rfl) KX G c
    have e7 : (HandSHeadRun.topDef K01.RR.prog 27).name = K01.p1005.x := by kernel_rfl
    refine ⟨K01.prg.N K w mg, rfl, rfl, KX, e4, ex, e5, ?_⟩
    rw [e7]
    exact e6 1005 K01.p1005 K01.p1005.x rfl rfl
end
