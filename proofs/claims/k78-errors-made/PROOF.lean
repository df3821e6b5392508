import PyProof.Rows.All
import Wide.All
import OpenK.AllK
import Wide.FinOn
import HandS.ForMost
import HandS.ForExc
import HandS.ExcInit
import HandS.Defaults
import HandS.TupAny
import HandS.Deep
import HandS.IsInst
import HandS.WordsDict
import KE.KExcIs
import HandS.ExcValue
import HandS.ExcOwn
import HandS.HeadHook1
import HandS.Flow
import HandS.Small
import HandS.Comp
import HandS.Head0
import HandS.Head1
import HandS.Head2
import HandS.HeadEnd
import HandS.HeadHook2
import PyProof.FString2
import HandS.ClsMeth
import PySem.Challenge.RW_returnsdue_k78_errors_made
set_option Elab.async false
set_option linter.all false
set_option maxRecDepth 100000
set_option maxHeartbeats 0
set_option autoImplicit false
/-! EvA: an own small language, its values, its memory, its evaluator. -/
namespace Ev
open PySem

/-! ### values -/
/-- a value: scalars, tuples by their items, a place of the memory, a def, an own class, a built-in type, an exception, a table of the module's own -/
inductive D where
  | non | bl (b : Bool) | int (i : Int) | str (s : Str)
  | tup (ds : List D)
  | ref (i : Nat)
  | fn (x : Str) | cls (x : Str) | ty (n : String)
  | exc (c : Str) (fs : List (Str × D))
  | con (x : Str)
  deriving Inhabited
mutual
def D.beq : D → D → Bool
  | .non, .non => true
  | .bl a, .bl b => a == b
  | .int a, .int b => a == b
  | .str a, .str b => decide (a = b)
  | .tup a, .tup b => D.beqs a b
  | .ref a, .ref b => a == b
  | .fn a, .fn b => decide (a = b)
  | .cls a, .cls b => decide (a = b)
  | .ty a, .ty b => a == b
  | .exc a b, .exc c d => decide (a = c) && D.beqf b d
  | .con a, .con b => decide (a = b)
  | _, _ => false
def D.beqs : List D → List D → Bool
  | [], [] => true
  | a :: r, b :: s => D.beq a b && D.beqs r s
  | _, _ => false
def D.beqf : List (Str × D) → List (Str × D) → Bool
  | [], [] => true
  | (x, a) :: r, (y, b) :: s => decide (x = y) && D.beq a b && D.beqf r s
  | _, _ => false
end
/-- a cell of the memory: a list, a list that is read alone, a dict, an instance, a set -/
inductive Cell where
  | lst (xs : List D) | ro (xs : List D)
  | dct (kvs : List (L2.Key × D))
  | dctT (kvs : List (List L2.Key × D))
  | ins (c : Str) (fs : List (Str × D))
  | set (xs : List D)
  deriving Inhabited
abbrev Mem := List Cell

/-! ### runs -/
inductive R (α : Type) where
  | ok (a : α) (m : Mem)
  | exn (c : Str) (fs : List (Str × D)) (m : Mem)
  | bad
def M (α : Type) := Mem → R α
def ret {α : Type} (a : α) : M α := fun m => .ok a m
def bad {α : Type} : M α := fun _ => .bad
def bind {α β : Type} (x : M α) (f : α → M β) : M β := fun m => match x m with
  | .ok a m' => f a m'
  | .exn c fs m' => .exn c fs m'
  | .bad => .bad
def opt {α : Type} : Option α → M α
  | some a => ret a
  | none => bad
/-- what a memory tells -/
def ask {α : Type} (f : Mem → Option α) : M α := fun m => match f m with
  | some a => .ok a m
  | none => .bad
def cellM (i : Nat) : M Cell := ask fun m => m[i]?
def alloc (c : Cell) : M D := fun m => .ok (.ref m.length) (m ++ [c])
def put (i : Nat) (c : Cell) : M Unit := fun m => .ok () (m.set i c)

/-! ### the language -/
inductive Bin where
  | add | sub | mul | fdiv | mod | pow
  deriving DecidableEq, Inhabited, Repr
inductive Cp where
  | eq | ne | lt | le | gt | ge | is | isnot | in_ | notin
  deriving DecidableEq, Inhabited, Repr
/-- what is walked -/
inductive Wk where
  | of | range1 | range2 | zip | enum | rev | items | values
  deriving DecidableEq, Inhabited, Repr
/-- a built-in -/
inductive B where
  | len | abs | int | isinstance | min | max | sum | sorted | set | list | tuple | dict | str | repr | all | any | bool | range | zip | enum | rev
  deriving DecidableEq, Inhabited, Repr
inductive Tg where
  | v (i : Nat) | tup (ts : List Tg)
  deriving Inhabited
inductive E where
  | v (i : Nat)
  | k (d : D)
  | g (x : Str)
  | tup (es : List E) | lst (es : List E)
  | dct (ks : List L2.Key) (vs : List E) | dctT
  | bin (o : Bin) (a b : E) | neg (a : E) | not (a : E)
  | cmp (o : Cp) (a b : E) | cmp2 (o p : Cp) (a b c : E)
  | and (es : List E) | or (es : List E) | ite (c a b : E)
  | ix (a i : E) | sl (a : E) (lo hi : Option E) | back (a : E)
  | att (a : E) (f : Str)
  | call (f : Str) (es : List E) (ns : List Str) (ks : List E)
  | bi (b : B) (es : List E)
  | meth (o : E) (f : Str) (es : List E) (ns : List Str) (ks : List E)
  | dyn (f : E) (es : List E)
  | lc (elt : E) (own : List Nat) (t : Tg) (wk : Wk) (its : List E) (ifs : List E)
  | fs (es : List E)
  deriving Inhabited
inductive S where
  | expr (e : E) | asg (t : Tg) (e : E)
  | setIx (o i e : E) | setAt (o : E) (f : Str) (e : E)
  | aug (i : Nat) (b : Bin) (e : E) | augIx (o i : E) (b : Bin) (e : E) | augAt (o : E) (f : Str) (b : Bin) (e : E)
  | ret (e : Option E)
  | ifs (c : E) (a b : List S)
  | whl (c : E) (b : List S)
  | for_ (t : Tg) (wk : Wk) (its : List E) (b : List S)
  | brk | cont | pass
  | raise (e : E)
  | try_ (b : List S) (x : Str) (n : Option Nat) (h : List S)
  deriving Inhabited
structure Def where
  ps : List Str
  dfl : List D
  n : Nat
  body : List S
  deriving Inhabited
/-- a class: its own bases, the fields of its exceptions if it is one -/
structure Cls where
  base : Option Str
  exc : Option (List Str)
  init : Bool
  flds : List Str
  deriving Inhabited
structure Prog where
  defs : Str → Option Def
  glob : Str → Option D
  tab : Str → Option (List (D × D))
  cls : Str → Option Cls
  /-- how n values and keywords come to a def's parameters -/
  plan : Str → Nat → List Str → Option (List (Nat ⊕ Nat))

/-! ### data: what == and the others look at -/
mutual
def D.pure : D → Option PyData
  | .non => some .none
  | .bl b => some (.bool b)
  | .int i => some (.int i)
  | .str x => some (.str x)
  | .tup ds => (D.pures ds).map .tuple
  | _ => none
def D.pures : List D → Option (List PyData)
  | [] => some []
  | d :: r => match D.pure d, D.pures r with
    | some a, some b => some (a :: b)
    | _, _ => none
end
mutual
/-- a value as data, through the lists of the memory, to a depth of n lists -/
def rdD (m : Mem) (n : Nat) : D → Option PyData
  | .non => some .none
  | .bl b => some (.bool b)
  | .int i => some (.int i)
  | .str x => some (.str x)
  | .tup ds => (rdDs m n ds).map .tuple
  | .ref i => match n with
    | 0 => none
    | n + 1 => match m[i]? with
      | some (.lst xs) => (rdDs m n xs).map .list
      | some (.ro xs) => (rdDs m n xs).map .list
      | _ => none
  | _ => none
  termination_by d => (n, sizeOf d)
def rdDs (m : Mem) (n : Nat) : List D → Option (List PyData)
  | [] => some []
  | d :: r => match rdD m n d, rdDs m n r with
    | some a, some b => some (a :: b)
    | _, _ => none
  termination_by ds => (n, sizeOf ds)
end
def rd (d : D) : M PyData := ask fun m => rdD m 8 d
def shaped (d : PyData) : M Unit := if SeqAt.shaped d then ret () else bad
def eqM (a b : D) : M Bool := bind (rd a) fun x => bind (rd b) fun y => bind (shaped x) fun _ => bind (shaped y) fun _ => ret (PyData.eqv x y)
/-- a value's truth -/
def truth (P : Prog) (d : D) : M Bool := match d with
  | .non => ret false
  | .bl b => ret b
  | .int i => ret (i != 0)
  | .str x => if x.length ≤ sizeLine then ret ((x.length : Int) != 0) else bad
  | .tup ds => ret (!ds.isEmpty)
  | .ref i => bind (cellM i) fun c => match c with
    | .lst xs => ret (!xs.isEmpty)
    | .ro xs => ret (!xs.isEmpty)
    | .dct kvs => ret (!kvs.isEmpty)
    | _ => bad
  | _ => bad
end Ev

/-! EvB: what operations and built-ins do; the evaluator. -/
namespace Ev
open PySem

/-! ### tables -/
def getA {κ α : Type} [DecidableEq κ] (kvs : List (κ × α)) (k : κ) : Option α := (kvs.find? fun kv => decide (kv.1 = k)).map (·.2)
def putA {κ α : Type} [DecidableEq κ] (kvs : List (κ × α)) (k : κ) (v : α) : List (κ × α) :=
  if (kvs.any fun kv => decide (kv.1 = k)) = true then kvs.map (fun kv => if kv.1 = k then (kv.1, v) else kv) else kvs ++ [(k, v)]
def putF {α : Type} (f : Str) (v : α) : List (Str × α) → List (Str × α)
  | [] => [(f, v)]
  | (g, x) :: r => if g = f then (g, v) :: r else (g, x) :: putF f v r
def keyD : D → Option L2.Key
  | .int i => some (.inl i)
  | .str x => some (.inr x)
  | _ => none
def keysD : List D → Option (List L2.Key)
  | [] => some []
  | d :: r => match keyD d, keysD r with
    | some a, some b => some (a :: b)
    | _, _ => none
def tkeyD : D → Option (List L2.Key)
  | .tup ds => keysD ds
  | _ => none
def kD : L2.Key → D
  | .inl i => .int i
  | .inr x => .str x

/-! ### two-place operations -/
def small (n : Nat) : Bool := decide (n ≤ sizeLine)
def guard (b : Bool) : M Unit := if b then ret () else bad
def mulOk (i j : Int) : Bool := (decide (-(2 ^ 64) < i) && decide (i < 2 ^ 64)) || (decide (-(2 ^ 64) < j) && decide (j < 2 ^ 64))
/-- a list that may change -/
def lstM (i : Nat) : M (List D) := bind (cellM i) fun c => match c with
  | .lst xs => ret xs
  | _ => bad
/-- a list -/
def seqM (i : Nat) : M (List D) := bind (cellM i) fun c => match c with
  | .lst xs => ret xs
  | .ro xs => ret xs
  | _ => bad
def binM (o : Bin) (a b : D) : M D := match o, a, b with
  | .add, .int i, .int j => ret (.int (i + j))
  | .add, .str x, .str y => if small (x.length + y.length) then ret (.str (x ++ y)) else bad
  | .add, .tup xs, .tup ys => if small (xs.length + ys.length) then ret (.tup (xs ++ ys)) else bad
  | .add, .ref i, .ref j => bind (lstM i) fun xs => bind (lstM j) fun ys => if small (xs.length + ys.length) then alloc (.lst (xs ++ ys)) else bad
  | .sub, .int i, .int j => ret (.int (i - j))
  | .mul, .int i, .int j => if mulOk i j then ret (.int (i * j)) else bad
  | .mul, .ref i, .int j => bind (lstM i) fun xs => if decide (-(2 ^ 63) ≤ j) && decide (j < 2 ^ 63) && small (xs.length * j.toNat) then alloc (.lst (List.replicate j.toNat xs).flatten) else bad
  | .fdiv, .int i, .int j => if decide (j ≠ 0) && decide (j.natAbs < 1073741824) then ret (.int (i.fdiv j)) else bad
  | .mod, .int i, .int j => if decide (j ≠ 0) then ret (.int (i.fmod j)) else bad
  | .pow, .int i, .int j => if decide (0 ≤ j) && decide (j ≤ 1000000) && decide (i.natAbs < 2 ^ 64) then ret (.int (i ^ j.toNat)) else bad
  | _, _, _ => bad

/-! ### comparisons -/
def flatD : D → Bool
  | .non => true
  | .bl _ => true
  | .int _ => true
  | .str _ => true
  | _ => false
/-- == of flat values -/
def eqF : D → D → Bool
  | .non, .non => true
  | .bl a, .bl b => a == b
  | .bl a, .int b => (if a then 1 else 0) == b
  | .int a, .bl b => a == (if b then 1 else 0)
  | .int a, .int b => a == b
  | .str a, .str b => a == b
  | _, _ => false
/-- the items of a list, of a tuple -/
def itemsM (d : D) : M (List D) := match d with
  | .tup ds => ret ds
  | .ref i => seqM i
  | _ => bad
/-- a table of the module's own -/
def tabGet (P : Prog) (x : Str) (k : D) : M (Option D) := match P.tab x with
  | none => bad
  | some kvs => match k with
    | .int _ => ret ((kvs.find? fun kv => D.beq kv.1 k).map (·.2))
    | .str _ => ret ((kvs.find? fun kv => D.beq kv.1 k).map (·.2))
    | .tup ds => match keysD ds with
      | some _ => ret ((kvs.find? fun kv => D.beq kv.1 k).map (·.2))
      | none => bad
    | _ => bad
/-- what a dict holds at a key -/
def dictGet (P : Prog) (d k : D) : M (Option D) := match d with
  | .con x => tabGet P x k
  | .ref i => bind (cellM i) fun c => match c with
    | .dct kvs => bind (opt (keyD k)) fun q => ret (getA kvs q)
    | _ => bad
  | _ => bad
/-- is it a dict -/
def isDictM : D → M Bool
  | .con _ => bad
  | .ref i => bind (cellM i) fun c => match c with
    | .dct _ => ret true
    | .dctT _ => bad
    | _ => ret false
  | _ => ret false
def inM (P : Prog) (x c : D) : M Bool := bind (isDictM c) fun b => if b then bind (dictGet P c x) fun o => ret o.isSome else match x, c with
  | .str a, .str b => ret (!(Builtin.Str.occurrences b a 0 b.length 1).isEmpty)
  | _, _ => bind (itemsM c) fun ds => if flatD x && ds.all flatD then ret (ds.any fun y => eqF y x) else bad
def cmpM (P : Prog) (o : Cp) (a b : D) : M Bool := match o with
  | .eq => eqM a b
  | .ne => bind (eqM a b) fun c => ret !c
  | .lt => match a, b with
    | .int i, .int j => ret (decide (i < j))
    | .str x, .str y => ret (decide (x.cps.toList < y.cps.toList))
    | _, _ => bad
  | .le => match a, b with
    | .int i, .int j => ret (decide (i ≤ j))
    | _, _ => bad
  | .gt => match a, b with
    | .int i, .int j => ret (decide (j < i))
    | _, _ => bad
  | .ge => match a, b with
    | .int i, .int j => ret (decide (j ≤ i))
    | _, _ => bad
  | .is => match b with
    | .non => ret (match a with | .non => true | _ => false)
    | _ => bad
  | .isnot => match b with
    | .non => ret (match a with | .non => false | _ => true)
    | _ => bad
  | .in_ => inM P a b
  | .notin => bind (inM P a b) fun c => ret !c

/-! ### items, slices, fields -/
def ixM (P : Prog) (a i : D) : M D := match a, i with
  | .tup ds, .int k => opt (L2.atI ds k)
  | .str z, .int k => if small z.length then opt ((L2.atI z.cps.toList k).map fun c => .str ⟨#[c]⟩) else bad
  | .ref r, k => bind (cellM r) fun c => match c, k with
    | .lst xs, .int j => opt (L2.atI xs j)
    | .ro xs, .int j => opt (L2.atI xs j)
    | .dct kvs, k => bind (opt (keyD k)) fun q => opt (getA kvs q)
    | _, _ => bad
  | .con x, k => bind (tabGet P x k) opt
  | _, _ => bad
def setIxM (o i v : D) : M Unit := match o with
  | .ref r => bind (cellM r) fun c => match c with
    | .lst xs => (match i with
      | .int j => bind (opt (L2.ixN xs.length j)) fun n => put r (.lst (xs.set n v))
      | _ => bad)
    | .dct kvs => bind (opt (keyD i)) fun q => if decide (kvs.length < sizeLine) then put r (.dct (putA kvs q v)) else bad
    | _ => bad
  | _ => bad
def partI : Option D → Option (Option Int)
  | none => some none
  | some (.int i) => some (some i)
  | _ => none
def cutD {α : Type} (xs : List α) (lo hi : Option Int) : List α := (xs.drop (HT.sIx xs.length 0 lo)).take (HT.sIx xs.length xs.length hi - HT.sIx xs.length 0 lo)
def slM (a : D) (lo hi : Option D) : M D := match partI lo, partI hi with
  | some l, some h => match a with
    | .tup ds => ret (.tup (cutD ds l h))
    | .str z => if small z.length then ret (.str (L2.cutS z l h)) else bad
    | .ref i => bind (lstM i) fun xs => alloc (.lst (cutD xs l h))
    | _ => bad
  | _, _ => bad
def backM (a : D) : M D := match a with
  | .tup ds => ret (.tup ds.reverse)
  | .ref i => bind (lstM i) fun xs => alloc (.lst xs.reverse)
  | _ => bad
def Prog.isC (P : Prog) (c : Str) : Bool := (P.cls c).isSome
def Prog.isX (P : Prog) (c : Str) : Bool := match P.cls c with
  | some k => k.exc.isSome
  | none => false
def Prog.isI (P : Prog) (c : Str) : Bool := match P.cls c with
  | some k => k.exc.isNone
  | none => false
def Prog.hasF (P : Prog) (c f : Str) : Bool := match P.cls c with
  | some k => k.flds.contains f
  | none => false
def attM (P : Prog) (a : D) (f : Str) : M D := match a with
  | .ref i => bind (cellM i) fun c => match c with
    | .ins c fs => if P.isI c && P.hasF c f then opt (fs.lookup f) else bad
    | _ => bad
  | .exc c fs => if P.isX c && P.hasF c f then opt (fs.lookup f) else bad
  | _ => bad
def setAtM (P : Prog) (a : D) (f : Str) (v : D) : M Unit := match a with
  | .ref i => bind (cellM i) fun c => match c with
    | .ins c fs => if P.isI c && P.hasF c f && decide (fs.length < 1000) then put i (.ins c (putF f v fs)) else bad
    | _ => bad
  | _ => bad

/-! ### built-ins -/
/-- is a class the other one, or below it -/
def below (P : Prog) : Nat → Str → Str → Bool
  | 0, _, _ => false
  | n + 1, c, d => decide (c = d) || (match P.cls c with
    | some k => (match k.base with
      | some b => below P n b d
      | none => false)
    | none => false)
def tyNames : List String := ["int", "bool", "str", "tuple", "list", "dict", "ValueError"]
/-- the built-in type of a value -/
def tyD (m : Mem) : D → Option String
  | .non => some "NoneType"
  | .bl _ => some "bool"
  | .int _ => some "int"
  | .str _ => some "str"
  | .tup _ => some "tuple"
  | .ref i => match m[i]? with
    | some (.lst _) => some "list"
    | some (.dct _) => some "dict"
    | some (.dctT _) => some "dict"
    | _ => none
  | _ => none
/-- a built-in type below another one -/
def subT (t n : String) : Bool := t == n || (t == "bool" && n == "int")
/-- isinstance of a value and a class -/
def isa (P : Prog) (m : Mem) (v : D) : D → Option Bool
  | .ty n => if tyNames.contains n then (match v with
      | .exc d _ => if P.isX d then some (n == "ValueError") else none
      | v => (tyD m v).map fun t => subT t n) else none
  | .cls c => if P.isC c then (match v with
      | .exc d _ => if P.isX d then some (below P 3 d c) else none
      | v => (tyD m v).map fun _ => false) else none
  | _ => none
def isas (P : Prog) (m : Mem) (v : D) : List D → Option Bool
  | [] => none
  | c :: r => match isa P m v c with
    | some true => some true
    | some false => if r.isEmpty then some false else isas P m v r
    | none => none
def lenM (P : Prog) (d : D) : M D := match d with
  | .str x => if small x.length then ret (.int x.length) else bad
  | .tup ds => ret (.int ds.length)
  | .ref i => bind (cellM i) fun c => match c with
    | .lst xs => ret (.int xs.length)
    | .ro xs => ret (.int xs.length)
    | .dct kvs => ret (.int kvs.length)
    | _ => bad
  | _ => bad
def biM (P : Prog) (b : B) (args : List D) : M D := match b, args with
  | .len, [d] => lenM P d
  | .abs, [.int i] => ret (.int (if i < 0 then -i else i))
  | .int, [.int i] => ret (.int i)
  | .int, [.bl c] => ret (.int (if c then 1 else 0))
  | .isinstance, [v, .tup cs] => bind (ask fun m => isas P m v cs) fun c => ret (.bl c)
  | .isinstance, [v, c] => bind (ask fun m => isa P m v c) fun c => ret (.bl c)
  | _, _ => bad

/-! ### methods of built-in types -/
def popEnd (r : Nat) (xs : List D) : M D := bind (opt xs.getLast?) fun v => bind (put r (.lst xs.dropLast)) fun _ => ret v
def popAt (r : Nat) (xs : List D) (i : Int) : M D := if decide (-(2 ^ 63) ≤ i) && decide (i < 2 ^ 63) then
  bind (opt (L2.ixN xs.length i)) fun n => bind (opt xs[n]?) fun v => bind (put r (.lst (xs.eraseIdx n))) fun _ => ret v else bad
def listM (r : Nat) (xs : List D) (f : Str) (args : List D) : M D :=
  if f = "append" then (match args with
    | [v] => if decide (xs.length < sizeLine) then bind (put r (.lst (xs ++ [v]))) fun _ => ret .non else bad
    | _ => bad)
  else if f = "pop" then (match args with
    | [] => popEnd r xs
    | [.int i] => popAt r xs i
    | _ => bad)
  else bad
def getM (P : Prog) (o : D) (args : List D) : M D := match args with
  | [k] => bind (dictGet P o k) fun v => ret (v.getD .non)
  | [k, z] => bind (dictGet P o k) fun v => ret (v.getD z)
  | _ => bad
/-- whose method it is -/
inductive Mt where
  | lst | dct | ins (c : Str)
/-- methods of built-in types -/
def bMeth (f : Str) : Bool := decide (f = "append") || decide (f = "pop") || decide (f = "get")
def headM (P : Prog) (o : D) (f : Str) : M Mt := match o with
  | .ref r => bind (cellM r) fun c => match c with
    | .lst _ => if f = "append" ∨ f = "pop" then ret .lst else bad
    | .dct _ => if f = "get" then ret .dct else bad
    | .ins c fs => if P.isI c && (fs.lookup f).isNone && !bMeth f then ret (.ins c) else bad
    | _ => bad
  | _ => bad

/-! ### walks -/
/-- what is walked: values that are there, or a list of the memory -/
inductive Src where
  | vals (ds : List D) | cell (r : Nat)
/-- an item at a turn, none if there is none -/
def Src.at_ : Src → Nat → Mem → Option (Option D)
  | .vals ds, i, _ => some ds[i]?
  | .cell r, i, m => match m[r]? with
    | some (.lst xs) => some xs[i]?
    | some (.ro xs) => some xs[i]?
    | _ => none
def Src.len : Src → Mem → Nat
  | .vals ds, _ => ds.length
  | .cell r, m => match m[r]? with
    | some (.lst xs) => xs.length
    | some (.ro xs) => xs.length
    | _ => 0
inductive It where
  | one (s : Src) | zip (s t : Src) | enum (s : Src) | rev (s : Src)
/-- the item of a walk at a turn: none: bad; some none: the end -/
def It.at_ : It → Nat → Mem → Option (Option D)
  | .one s, i, m => s.at_ i m
  | .zip s t, i, m => match s.at_ i m with
    | some (some a) => (match t.at_ i m with
      | some (some b) => some (some (.tup [a, b]))
      | some none => some none
      | none => none)
    | some none => (match t.at_ i m with
      | some _ => some none
      | none => none)
    | none => none
  | .enum s, i, m => match s.at_ i m with
    | some (some a) => some (some (.tup [.int i, a]))
    | some none => some none
    | none => none
  | .rev s, i, m => if i < s.len m then s.at_ (s.len m - 1 - i) m else some none
def srcM (d : D) : M Src := match d with
  | .tup ds => ret (.vals ds)
  | .ref i => bind (seqM i) fun _ => ret (.cell i)
  | _ => bad
def intsD (lo : Int) (n : Nat) : List D := (List.range n).map fun i => .int (lo + (i : Nat))
def walkM (P : Prog) (wk : Wk) (args : List D) : M It := match wk, args with
  | .of, [d] => bind (srcM d) fun s => ret (.one s)
  | .range1, [.int j] => if decide (-(2 ^ 62) ≤ j) && decide (j < 2 ^ 62) then ret (.one (.vals (intsD 0 j.toNat))) else bad
  | .range2, [.int i, .int j] => if decide (-(2 ^ 62) ≤ i) && decide (i < 2 ^ 62) && decide (-(2 ^ 62) ≤ j) && decide (j < 2 ^ 62) then ret (.one (.vals (intsD i (j - i).toNat))) else bad
  | .zip, [a, b] => bind (srcM a) fun s => bind (srcM b) fun t => ret (.zip s t)
  | .enum, [a] => bind (srcM a) fun s => ret (.enum s)
  | .rev, [a] => bind (srcM a) fun s => ret (.rev s)
  | _, _ => bad

/-! ### names -/
abbrev Env := List (Option D)
mutual
def asgT : Tg → D → Env → Option Env
  | .v i, d, ρ => if i < ρ.length then some (ρ.set i (some d)) else none
  | .tup ts, .tup ds, ρ => asgTs ts ds ρ
  | .tup _, _, _ => none
def asgTs : List Tg → List D → Env → Option Env
  | [], [], ρ => some ρ
  | t :: ts, d :: ds, ρ => match asgT t d ρ with
    | some ρ' => asgTs ts ds ρ'
    | none => none
  | _, _, _ => none
end
def wipe (ρ : Env) : List Nat → Env
  | [] => ρ
  | v :: vs => (wipe ρ vs).set v none

/-! ### the evaluator -/
structure Ctx where
  P : Prog
  call : Str → List D → List Str → List D → M D
  w : Nat
def pickA {α : Type} (xs ys : List α) : Nat ⊕ Nat → Option α
  | .inl i => xs[i]?
  | .inr j => ys[j]?
/-- values and keywords' values in the parameters' order -/
def arrange {α : Type} (xs ys : List α) : List (Nat ⊕ Nat) → Option (List α)
  | [] => some []
  | p :: r => match pickA xs ys p, arrange xs ys r with
    | some a, some b => some (a :: b)
    | _, _ => none
/-- what f'{x}' takes -/
def fmtD : D → Bool
  | .non => true
  | .int i => decide (i.natAbs.log2 < 1920)
  | .str x => decide (x.length ≤ 1000000)
  | _ => false
def notSelf : Nat ⊕ Nat → Bool
  | .inl 0 => false
  | _ => true
/-- what an own exception is made of -/
def excArgs (P : Prog) (c : Str) (fs : List Str) (args : List D) (ns : List Str) (qs : List D) : Option (List D) := match P.plan (c ++ ".__init__") (args.length + 1) ns with
  | some (.inl 0 :: pl) => (match arrange (.non :: args) qs pl with
    | some ws => if decide (ws.length = fs.length) && ws.all fmtD && decide (args.length ≤ 20) && pl.all notSelf && decide (qs.length = ns.length) then some ws else none
    | none => none)
  | _ => none
/-- a call of an own class; the fields of an exception stand in turned order -/
def makeM (X : Ctx) (c : Str) (args : List D) (ns : List Str) (qs : List D) : M D := match X.P.cls c with
  | none => bad
  | some k => match k.exc with
    | some [] => if ns.isEmpty && qs.isEmpty && decide (args.length ≤ 20) then ret (.exc c []) else bad
    | some fs => bind (opt (excArgs X.P c fs args ns qs)) fun ws => ret (.exc c (fs.zip ws.reverse))
    | none => if k.init then bind (alloc (.ins c [])) fun o => bind (X.call (c ++ ".__init__") (o :: args) ns qs) fun _ => ret o else bad
def calleeM (P : Prog) (f : Str) : M D := match P.glob f with
  | some (.fn x) => ret (.fn x)
  | some (.cls c) => ret (.cls c)
  | _ => bad
def callM (X : Ctx) (g : D) (args : List D) (ns : List Str) (qs : List D) : M D := match g with
  | .fn x => X.call x args ns qs
  | .cls c => makeM X c args ns qs
  | _ => bad
def sendM (X : Ctx) (h : Mt) (o : D) (f : Str) (args : List D) (ns : List Str) (qs : List D) : M D := match h with
  | .lst => (match o with
    | .ref r => bind (lstM r) fun xs => if ns.isEmpty && qs.isEmpty then listM r xs f args else bad
    | _ => bad)
  | .dct => if ns.isEmpty && qs.isEmpty && decide (f = "get") then getM X.P o args else bad
  | .ins c => X.call (c ++ "." ++ f) (o :: args) ns qs

def varM (ρ : Env) (i : Nat) : M D := match ρ[i]? with
  | some (some d) => ret d
  | _ => bad
/-- the item at a turn -/
def nextM (it : It) (i : Nat) : M (Option D) := ask fun m => it.at_ i m
/-- an item behind a list that is being made -/
def pushM (r : Nat) (y : D) : M Unit := bind (lstM r) fun acc => if decide (acc.length < sizeLine) then put r (.lst (acc ++ [y])) else bad
/-- n turns of a comprehension that fills the list at r -/
def lcLoop (it : It) (turn : D → M (Option D)) (r : Nat) : Nat → Nat → M Unit
  | 0, i => bind (nextM it i) fun o => match o with
    | none => ret ()
    | some _ => bad
  | n + 1, i => bind (nextM it i) fun o => match o with
    | some d => bind (turn d) fun o => (match o with
      | some y => bind (pushM r y) fun _ => lcLoop it turn r n (i + 1)
      | none => lcLoop it turn r n (i + 1))
    | none => ret ()
/-- a new list, filled -/
def lcM (it : It) (turn : D → M (Option D)) (n : Nat) : M D := bind (alloc (.lst [])) fun o => match o with
  | .ref r => bind (lcLoop it turn r n 0) fun _ => ret (.ref r)
  | _ => bad
/-- the entries of a dict that was just laid -/
def fillM (o : D) (ks : List L2.Key) (ds : List D) : M D := match o with
  | .ref r => bind (cellM r) fun c => match c with
    | .dct [] => if decide (ks.length = ds.length) && decide (ks.length ≤ 15) then bind (put r (.dct ((ks.zip ds).foldl (fun acc kv => putA acc kv.1 kv.2) []))) fun _ => ret (.ref r) else bad
    | _ => bad
  | _ => bad
def It.len (m : Mem) : It → Nat
  | .one s => s.len m
  | .zip s t => min (s.len m) (t.len m)
  | .enum s => s.len m
  | .rev s => s.len m
/-- no exception comes out -/
def quiet {α : Type} (x : M α) : M α := fun m => match x m with
  | .exn _ _ _ => .bad
  | r => r
mutual
def evE (X : Ctx) (ρ : Env) : E → M D
  | .v i => varM ρ i
  | .k d => ret d
  | .g x => opt (X.P.glob x)
  | .tup es => bind (evEs X ρ es) fun ds => if small ds.length then ret (.tup ds) else bad
  | .lst es => bind (evEs X ρ es) fun ds => if small ds.length then alloc (.lst ds) else bad
  | .dct ks vs => bind (alloc (.dct [])) fun o => bind (evEs X ρ vs) fun ds => fillM o ks ds
  | .dctT => alloc (.dctT [])
  | .bin o a b => bind (evE X ρ a) fun x => bind (evE X ρ b) fun y => binM o x y
  | .neg a => bind (evE X ρ a) fun x => match x with
    | .int i => ret (.int (-i))
    | _ => bad
  | .not a => bind (evE X ρ a) fun x => bind (truth X.P x) fun c => ret (.bl !c)
  | .cmp o a b => bind (evE X ρ a) fun x => bind (evE X ρ b) fun y => bind (cmpM X.P o x y) fun c => ret (.bl c)
  | .cmp2 o p a b c => bind (evE X ρ a) fun x => bind (evE X ρ b) fun y => bind (cmpM X.P o x y) fun r => if r then bind (evE X ρ c) fun z => bind (cmpM X.P p y z) fun s => ret (.bl s) else ret (.bl false)
  | .and es => evAnd X ρ es
  | .or es => evOr X ρ es
  | .ite c a b => bind (evE X ρ c) fun x => bind (truth X.P x) fun r => if r then evE X ρ a else evE X ρ b
  | .ix a i => bind (evE X ρ a) fun x => bind (evE X ρ i) fun y => ixM X.P x y
  | .sl a lo hi => bind (evE X ρ a) fun x => bind (evO X ρ lo) fun l => bind (evO X ρ hi) fun h => slM x l h
  | .back a => bind (evE X ρ a) backM
  | .att a f => bind (evE X ρ a) fun x => attM X.P x f
  | .call f es ns ks => bind (calleeM X.P f) fun g => bind (evEs X ρ es) fun ds => bind (evEs X ρ ks) fun qs => callM X g ds ns qs
  | .bi b es => bind (evEs X ρ es) (biM X.P b)
  | .meth o f es ns ks => bind (evE X ρ o) fun x => bind (headM X.P x f) fun h => bind (evEs X ρ es) fun ds => bind (evEs X ρ ks) fun qs => sendM X h x f ds ns qs
  | .dyn f es => bind (evE X ρ f) fun x => bind (evEs X ρ es) fun ds => match x with
    | .fn y => X.call y ds [] []
    | _ => bad
  | .lc elt own t wk its ifs => bind (evEs X ρ its) fun ds => bind (walkM X.P wk ds) fun it => bind (ask fun m => some (it.len m)) fun n =>
      lcM it (fun d => match asgT t d (wipe ρ own) with
        | some ρ' => quiet (bind (evIfs X ρ' ifs) fun c => if c then bind (evE X ρ' elt) fun y => ret (some y) else ret none)
        | none => bad) n
  | .fs es => bad
def evEs (X : Ctx) (ρ : Env) : List E → M (List D)
  | [] => ret []
  | e :: r => bind (evE X ρ e) fun d => bind (evEs X ρ r) fun ds => ret (d :: ds)
def evO (X : Ctx) (ρ : Env) : Option E → M (Option D)
  | none => ret none
  | some e => bind (evE X ρ e) fun d => ret (some d)
def evIfs (X : Ctx) (ρ : Env) : List E → M Bool
  | [] => ret true
  | e :: r => bind (evE X ρ e) fun x => bind (truth X.P x) fun c => if c then evIfs X ρ r else ret false
def evAnd (X : Ctx) (ρ : Env) : List E → M D
  | [] => bad
  | e :: r => bind (evE X ρ e) fun x => if r.isEmpty then ret x else bind (truth X.P x) fun c => if c then evAnd X ρ r else ret x
def evOr (X : Ctx) (ρ : Env) : List E → M D
  | [] => bad
  | e :: r => bind (evE X ρ e) fun x => if r.isEmpty then ret x else bind (truth X.P x) fun c => if c then ret x else evOr X ρ r
end
end Ev

/-! EvC: statements, calls, the translation from the text. -/
namespace Ev
open PySem

inductive Fl where
  | nx (ρ : Env) | ret (d : D) | brk (ρ : Env) | ct (ρ : Env)
def whileN (t : Env → M Bool) (b : Env → M Fl) : Nat → Env → M Fl
  | 0, _ => bad
  | n + 1, ρ => bind (t ρ) fun c => if c then bind (b ρ) (fun f => match f with
      | .nx ρ' => whileN t b n ρ'
      | .ct ρ' => whileN t b n ρ'
      | .brk ρ' => ret (.nx ρ')
      | .ret d => ret (.ret d)) else ret (.nx ρ)
def forLoop (it : It) (b : D → Env → M Fl) : Nat → Nat → Env → M Fl
  | 0, i, ρ => bind (nextM it i) fun o => match o with
    | none => ret (.nx ρ)
    | some _ => bad
  | n + 1, i, ρ => bind (nextM it i) fun o => match o with
    | some d => bind (b d ρ) fun f => (match f with
      | .nx ρ' => forLoop it b n (i + 1) ρ'
      | .ct ρ' => forLoop it b n (i + 1) ρ'
      | .brk ρ' => ret (.nx ρ')
      | .ret d => ret (.ret d))
    | none => ret (.nx ρ)
/-- try: x, except c as n: h -/
def tryM (P : Prog) (x : M Fl) (ρ : Env) (c : Str) (h : D → M Fl) : M Fl := fun m => match x m with
  | .ok f m' => .ok f m'
  | .exn d fs m' => if below P 3 d c then h (.exc d fs) m' else .exn d fs m'
  | .bad => .bad
def setV (i : Nat) (d : D) (ρ : Env) : M Env := if i < ρ.length then ret (ρ.set i (some d)) else bad
mutual
def evS (X : Ctx) : S → Env → M Fl
  | .expr e, ρ => bind (evE X ρ e) fun _ => ret (.nx ρ)
  | .asg t e, ρ => bind (evE X ρ e) fun d => match asgT t d ρ with
    | some ρ' => ret (.nx ρ')
    | none => bad
  | .setIx o i e, ρ => bind (evE X ρ e) fun d => bind (evE X ρ o) fun x => bind (evE X ρ i) fun y => bind (setIxM x y d) fun _ => ret (.nx ρ)
  | .setAt o f e, ρ => bind (evE X ρ e) fun d => bind (evE X ρ o) fun x => bind (setAtM X.P x f d) fun _ => ret (.nx ρ)
  | .aug i b e, ρ => bind (varM ρ i) fun x => bind (evE X ρ e) fun y => bind (binM b x y) fun z => bind (setV i z ρ) fun ρ' => ret (.nx ρ')
  | .augIx o i b e, ρ => bind (evE X ρ o) fun x => bind (evE X ρ i) fun y => bind (ixM X.P x y) fun old => bind (evE X ρ e) fun d => bind (binM b old d) fun z => bind (setIxM x y z) fun _ => ret (.nx ρ)
  | .augAt o f b e, ρ => bind (evE X ρ o) fun x => bind (attM X.P x f) fun old => bind (evE X ρ e) fun d => bind (binM b old d) fun z => bind (setAtM X.P x f z) fun _ => ret (.nx ρ)
  | .ret none, _ => ret (.ret .non)
  | .ret (some e), ρ => bind (evE X ρ e) fun d => ret (.ret d)
  | .ifs c a b, ρ => bind (evE X ρ c) fun x => bind (truth X.P x) fun r => if r then evSs X a ρ else evSs X b ρ
  | .whl c b, ρ => whileN (fun ρ => bind (evE X ρ c) (truth X.P)) (fun ρ => evSs X b ρ) X.w ρ
  | .for_ t wk its b, ρ => bind (evEs X ρ its) fun ds => bind (walkM X.P wk ds) fun it => bind (ask fun m => some (it.len m)) fun n =>
      forLoop it (fun d ρ => match asgT t d ρ with
        | some ρ' => evSs X b ρ'
        | none => bad) n 0 ρ
  | .brk, ρ => ret (.brk ρ)
  | .cont, ρ => ret (.ct ρ)
  | .pass, ρ => ret (.nx ρ)
  | .raise e, ρ => bind (evE X ρ e) fun d => match d with
    | .exc c fs => fun m => .exn c fs m
    | _ => bad
  | .try_ b c n h, ρ => tryM X.P (evSs X b ρ) ρ c fun d => bad
def evSs (X : Ctx) : List S → Env → M Fl
  | [], ρ => ret (.nx ρ)
  | s :: r, ρ => bind (evS X s ρ) fun f => match f with
    | .nx ρ' => evSs X r ρ'
    | g => ret g
end

/-! ### calls -/
def startE (n : Nat) (args : List D) : Env := args.map some ++ List.replicate (n - args.length) none
def bodyM (X : Ctx) (d : Def) (args : List D) : M D := bind (evSs X d.body (startE d.n args)) fun f => match f with
  | .nx _ => ret .non
  | .ret v => ret v
  | _ => bad
def callK (P : Prog) (w : Nat) : Nat → Str → List D → List Str → List D → M D
  | 0, _, _, _, _ => bad
  | k + 1, f, args, ns, qs => match P.defs f, P.plan f args.length ns with
    | some d, some pl => (match arrange args qs pl with
      | some as => if decide (as.length = d.ps.length) && decide (ns.length = qs.length) then bodyM ⟨P, callK P w k, w⟩ d as else bad
      | none => bad)
    | _, _ => bad
end Ev

/-! EvD: from the text. -/
namespace Ev
open PySem

structure TrC where
  N : List Str
  sc : Str → Option NameKind
  own : Str → Bool
  isT : Pos → Bool := fun _ => false
def ix (N : List Str) (x : Str) : Option Nat := let i := N.idxOf x; if i < N.length then some i else none
def TrC.slot (T : TrC) (x : Str) : Option Nat := match T.sc x with
  | some .local => ix T.N x
  | some .cell => ix T.N x
  | some .free => ix T.N x
  | _ => none
def isGlob (T : TrC) (x : Str) : Bool := match T.sc x with
  | some .globalImplicit => true
  | _ => false
def tyOf (x : Str) : Option String := if x = "int" then some "int" else if x = "bool" then some "bool" else if x = "str" then some "str" else if x = "tuple" then some "tuple" else if x = "list" then some "list" else if x = "dict" then some "dict" else if x = "ValueError" then some "ValueError" else none
def biOf (x : Str) : Option B := if x = "len" then some .len else if x = "abs" then some .abs else if x = "int" then some .int else if x = "isinstance" then some .isinstance
  else if x = "min" then some .min else if x = "max" then some .max else if x = "sum" then some .sum else if x = "sorted" then some .sorted else if x = "set" then some .set else if x = "list" then some .list
  else if x = "tuple" then some .tuple else if x = "dict" then some .dict else if x = "str" then some .str else if x = "repr" then some .repr else if x = "all" then some .all else if x = "any" then some .any else if x = "bool" then some .bool else if x = "range" then some .range else if x = "zip" then some .zip else if x = "enumerate" then some .enum else if x = "reversed" then some .rev else none
def trName (T : TrC) (x : Str) : Option E := match T.slot x with
  | some i => some (.v i)
  | none => if isGlob T x then (if T.own x then some (.g x) else (tyOf x).map fun n => .k (.ty n)) else none
def trBin : Operator → Option Bin
  | .Add => some .add
  | .Sub => some .sub
  | .Mult => some .mul
  | .FloorDiv => some .fdiv
  | .Mod => some .mod
  | .Pow => some .pow
  | _ => none
def trCp : CmpOp → Cp
  | .Eq => .eq
  | .NotEq => .ne
  | .Lt => .lt
  | .LtE => .le
  | .Gt => .gt
  | .GtE => .ge
  | .Is => .is
  | .IsNot => .isnot
  | .In => .in_
  | .NotIn => .notin
def trC : Const → Option D
  | .none => some .non
  | .bool b => some (.bl b)
  | .int i => some (.int i)
  | .str x => some (.str x)
  | _ => none
mutual
def trT (T : TrC) : Expr → Option Tg
  | .Name x _ => (T.slot x).map .v
  | .Tuple es _ _ => (trTs T es).map .tup
  | _ => none
def trTs (T : TrC) : List Expr → Option (List Tg)
  | [] => some []
  | e :: r => match trT T e, trTs T r with
    | some a, some b => some (a :: b)
    | _, _ => none
end
def keyC : Const → Option L2.Key
  | .int i => some (.inl i)
  | .str x => some (.inr x)
  | _ => none
def trKeys : List (Option Expr) → Option (List L2.Key)
  | [] => some []
  | some (.Constant c _ _) :: r => match keyC c, trKeys r with
    | some a, some b => some (a :: b)
    | _, _ => none
  | _ => none
/-- the names of a comprehension's block that are its own -/
def ownOf (T : TrC) (sc : Scope) : List Nat := sc.names.filterMap fun y => match y.2 with
  | .local => ix T.N y.1
  | .cell => ix T.N y.1
  | _ => none
/-- names within a comprehension's block -/
def TrC.blk (T : TrC) (sc : Scope) : TrC := { T with sc := fun x => sc.names.lookup x }
/-- what a loop walks -/
def toW : E → Wk × List E
  | .bi .range [a] => (.range1, [a])
  | .bi .range [a, b] => (.range2, [a, b])
  | .bi .zip [a, b] => (.zip, [a, b])
  | .bi .enum [a] => (.enum, [a])
  | .bi .rev [a] => (.rev, [a])
  | e => (.of, [e])
def isM1 : Expr → Bool
  | .UnaryOp .USub (.Constant (.int 1) _ _) _ => true
  | _ => false
mutual
def trE (T : TrC) : Expr → Option E
  | .Name x _ => trName T x
  | .Constant c _ _ => (trC c).map .k
  | .Tuple es _ _ => (trEs T es).map .tup
  | .List es _ => (trEs T es).map .lst
  | .Dict ks vs p => match ks, vs with
    | [], [] => if T.isT p then some .dctT else some (.dct [] [])
    | _, _ => match trKeys ks, trEs T vs with
      | some a, some b => some (.dct a b)
      | _, _ => none
  | .BinOp a o b _ => match trBin o, trE T a, trE T b with
    | some o, some x, some y => some (.bin o x y)
    | _, _, _ => none
  | .UnaryOp .Not a _ => (trE T a).map .not
  | .UnaryOp .USub a _ => (trE T a).map .neg
  | .BoolOp .And es _ => (trEs T es).map .and
  | .BoolOp .Or es _ => (trEs T es).map .or
  | .IfExp c a b _ => match trE T c, trE T a, trE T b with
    | some x, some y, some z => some (.ite x y z)
    | _, _, _ => none
  | .Compare a ops bs _ => match ops, trE T a, trEs T bs with
    | [o], some x, some [y] => some (.cmp (trCp o) x y)
    | [o, p], some x, some [y, z] => some (.cmp2 (trCp o) (trCp p) x y z)
    | _, _, _ => none
  | .Subscript a i _ => match trE T a with
    | none => none
    | some x => match i with
      | .Slice none none (some st) _ => if isM1 st then some (.back x) else none
      | .Slice lo hi none _ => match trO T lo, trO T hi with
        | some l, some h => some (.sl x l h)
        | _, _ => none
      | .Slice _ _ _ _ => none
      | i => (trE T i).map fun y => .ix x y
  | .Attribute a f _ => (trE T a).map fun x => .att x f
  | .Call f es ks _ => match trEs T es, trK T ks with
    | some ds, some (ns, qs) => (match f with
      | .Name x _ => (match T.slot x with
        | some i => if ns.isEmpty then some (.dyn (.v i) ds) else none
        | none => if isGlob T x then (if T.own x then some (.call x ds ns qs) else if ns.isEmpty then (biOf x).map fun b => .bi b ds else none) else none)
      | .Attribute o m _ => (trE T o).map fun x => .meth x m ds ns qs
      | f => if ns.isEmpty then (trE T f).map fun x => .dyn x ds else none)
    | _, _ => none
  | .ListComp elt gs sc _ => match trG T (T.blk sc) gs, trE (T.blk sc) elt with
    | some (t, it, ifs), some e => some (.lc e (ownOf T sc) t (toW it).1 (toW it).2 ifs)
    | _, _ => none
  | _ => none
def trEs (T : TrC) : List Expr → Option (List E)
  | [] => some []
  | e :: r => match trE T e, trEs T r with
    | some a, some b => some (a :: b)
    | _, _ => none
def trO (T : TrC) : Option Expr → Option (Option E)
  | none => some none
  | some e => (trE T e).map some
def trK (T : TrC) : List Keyword → Option (List Str × List E)
  | [] => some ([], [])
  | ⟨n, v, _⟩ :: r => match n, trE T v, trK T r with
    | some x, some e, some (xs, es) => some (x :: xs, e :: es)
    | _, _, _ => none
def trG (T U : TrC) : List Comprehension → Option (Tg × E × List E)
  | [⟨t, it, ifs, a⟩] => match trT U t, trE T it, trEs U ifs with
    | some t, some x, some b => if a = 0 then some (t, x, b) else none
    | _, _, _ => none
  | _ => none
end
mutual
def trS (T : TrC) : Stmt → Option S
  | .Expr e _ => (trE T e).map .expr
  | .Assign ts e _ => match ts with
    | [.Subscript o i _] => (match trE T e, trE T o, trE T i with
      | some d, some x, some y => some (.setIx x y d)
      | _, _, _ => none)
    | [.Attribute o f _] => (match trE T e, trE T o with
      | some d, some x => some (.setAt x f d)
      | _, _ => none)
    | [t] => (match trT T t, trE T e with
      | some t, some d => some (.asg t d)
      | _, _ => none)
    | _ => none
  | .AugAssign t o e _ => match trBin o, trE T e with
    | some b, some d => (match t with
      | .Name x _ => (T.slot x).map fun i => .aug i b d
      | .Subscript o i _ => (match trE T o, trE T i with
        | some x, some y => some (.augIx x y b d)
        | _, _ => none)
      | .Attribute o f _ => (trE T o).map fun x => .augAt x f b d
      | _ => none)
    | _, _ => none
  | .Return none _ => some (.ret none)
  | .Return (some e) _ => (trE T e).map fun x => .ret (some x)
  | .If c a b _ => match trE T c, trSs T a, trSs T b with
    | some x, some y, some z => some (.ifs x y z)
    | _, _, _ => none
  | .While c b [] _ => match trE T c, trSs T b with
    | some x, some y => some (.whl x y)
    | _, _ => none
  | .For t it b [] _ => match trT T t, trE T it, trSs T b with
    | some t, some it, some b => some (.for_ t (toW it).1 (toW it).2 b)
    | _, _, _ => none
  | .Break _ => some .brk
  | .Continue _ => some .cont
  | .Pass _ => some .pass
  | .Raise (some e) none _ => (trE T e).map .raise
  | _ => none
def trSs (T : TrC) : List Stmt → Option (List S)
  | [] => some []
  | s :: r => match trS T s, trSs T r with
    | some a, some b => some (a :: b)
    | _, _ => none
end
/-- all names of comprehension blocks: those that the def has not are slots behind -/
def trDef (own : Str → Bool) (isT : Pos → Bool) (N : List Str) (ps : List Str) (dfl : List D) (sc : Scope) (body : List Stmt) : Option Def :=
  (trSs ⟨N, fun x => sc.names.lookup x, own, isT⟩ body).map fun b => ⟨ps, dfl, N.length, b⟩
end Ev

/-! EvR: how values and memories of ours stand for the model's. -/
namespace Ev
open PySem L2
abbrev Frag := PySem.W.Frag
abbrev Map := Nat → Option Addr

/-- an exception object at a, of the class at C, its dict d -/
def exvP (a C : Addr) (d : Option Addr) (h : Heap) : Prop := ∃ (oe : Obj) (vs : Array Value), h.get? a = some oe ∧ oe.cls = .ref C ∧ oe.dict = d ∧ oe.data = .fields vs
def exv (a C : Addr) (d : Option Addr) : HO := .ext (exvP a C d)

section
variable (K : Frag) (mg : Str → Option Value) (ι : Map) (H : Hp)
mutual
/-- a value of ours stands for one of the model's -/
inductive VR : D → V → Prop where
  | non : VR .non .non
  | bl (b : Bool) : VR (.bl b) (.bl b)
  | int (i : Int) : VR (.int i) (.int i)
  | str (x : Str) : VR (.str x) (.str x)
  | tup {ds : List D} {a : Addr} {vs : List V} : SqT K H a vs → VRs ds vs → VR (.tup ds) (.ref a)
  | ref {i : Nat} {a : Addr} : ι i = some a → VR (.ref i) (.ref a)
  | fn {x : Str} {a : Addr} : mg x = some (.ref a) → VR (.fn x) (.ref a)
  | cls {x : Str} {a : Addr} : mg x = some (.ref a) → VR (.cls x) (.ref a)
  | ty (n : String) : VR (.ty n) (.ty n)
  | con {x : Str} {a : Addr} : mg x = some (.ref a) → VR (.con x) (.ref a)
  | exc0 {c : Str} {a C : Addr} : mg c = some (.ref C) → H a = some (exv a C none) → VR (.exc c []) (.ref a)
  | excF {c : Str} {fs : List (Str × D)} {a C d : Addr} {vs : List V} : mg c = some (.ref C) → H a = some (exv a C (some d)) → H d = some (.xd ((fs.map (·.1)).zip vs)) → VRs (fs.map (·.2)) vs → VR (.exc c fs) (.ref a)
inductive VRs : List D → List V → Prop where
  | nil : VRs [] []
  | cons {d : D} {v : V} {ds : List D} {vs : List V} : VR d v → VRs ds vs → VRs (d :: ds) (v :: vs)
end
/-- the entries of a dict -/
inductive KR {κ : Type} : List (κ × D) → List (κ × V) → Prop where
  | nil : KR [] []
  | cons {k : κ} {d : D} {v : V} {r : List (κ × D)} {s : List (κ × V)} : VR K mg ι H d v → KR r s → KR ((k, d) :: r) ((k, v) :: s)
def isRo : Cell → Bool
  | .ro _ => true
  | _ => false
/-- a cell stands at an address -/
def CR (a : Addr) : Cell → Prop
  | .lst xs => ∃ vs, H a = some (.lst vs) ∧ VRs K mg ι H xs vs
  | .ro xs => ∃ vs, ((∃ o, H a = some (.frz o (.lst vs))) ∨ ∀ H' : Hp, SqL K H' a vs) ∧ VRs K mg ι H xs vs
  | .dct kvs => ∃ us, H a = some (.dK us) ∧ KR K mg ι H kvs us
  | .dctT kvs => ∃ us, H a = some (.dT us) ∧ KR K mg ι H kvs us
  | .ins c fs => ∃ C dx us, mg c = some (.ref C) ∧ H a = some (.ins C dx us) ∧ KR K mg ι H fs us
  | .set _ => False
/-- the memory stands in the heap -/
structure HR (m : Mem) : Prop where
  dom : ∀ i a, ι i = some a → i < m.length
  cell : ∀ (i : Nat) (c : Cell), m[i]? = some c → ∃ a, ι i = some a ∧ CR K mg ι H a c
  inj : ∀ (i j : Nat) (a : Addr) (c d : Cell), m[i]? = some c → m[j]? = some d → isRo c = false → isRo d = false → ι i = some a → ι j = some a → i = j
/-- the names' values -/
def ER (ρ : Env) (σ : St) : Prop := ρ.length = σ.length ∧ ∀ (i : Nat) (d : D), ρ[i]? = some (some d) → ∃ v, σ[i]? = some (some v) ∧ VR K mg ι H d v
end
/-- an address is a changing cell's -/
def Own (ι : Map) (m : Mem) (a : Addr) : Prop := ∃ (i : Nat) (c : Cell), m[i]? = some c ∧ ι i = some a ∧ isRo c = false
/-- what a step keeps -/
structure Step (m : Mem) (ι : Map) (H : Hp) (m' : Mem) (ι' : Map) (H' : Hp) : Prop where
  sub : ∀ i a, ι i = some a → ι' i = some a
  new : ∀ i a, ι' i = some a → ι i = some a ∨ H a = none
  kind : ∀ (i : Nat) (c : Cell), m[i]? = some c → ∃ c', m'[i]? = some c' ∧ isRo c' = isRo c
  keep : ∀ a o, H a = some o → ¬ Own ι m a → H' a = some o
theorem Step.refl {m : Mem} {ι : Map} {H : Hp} : Step m ι H m ι H := ⟨fun _ _ h => h, fun _ _ h => .inl h, fun _ c h => ⟨c, h, rfl⟩, fun _ _ h _ => h⟩
theorem CR.tracked {K : Frag} {mg : Str → Option Value} {ι : Map} {H : Hp} {a : Addr} {c : Cell} (h : CR K mg ι H a c) (hr : isRo c = false) : ∃ o, H a = some o := by
  cases c with
  | lst xs => obtain ⟨vs, e, _⟩ := h; exact ⟨_, e⟩
  | ro xs => cases hr
  | dct kvs => obtain ⟨vs, e, _⟩ := h; exact ⟨_, e⟩
  | dctT kvs => obtain ⟨vs, e, _⟩ := h; exact ⟨_, e⟩
  | ins c fs => obtain ⟨C, dx, us, _, e, _⟩ := h; exact ⟨_, e⟩
  | set xs => exact h.elim
section
variable {m m1 m2 : Mem} {ι ι1 ι2 : Map} {H H1 H2 : Hp} {K : Frag} {mg : Str → Option Value}
theorem HR.get (r : HR K mg ι H m) {i : Nat} {c : Cell} {a : Addr} (h : m[i]? = some c) (e : ι i = some a) : CR K mg ι H a c := by
  obtain ⟨b, e', q⟩ := r.cell i c h
  rw [e] at e'; cases e'; exact q
theorem Step.trans (r : HR K mg ι H m) (a : Step m ι H m1 ι1 H1) (r1 : HR K mg ι1 H1 m1) (b : Step m1 ι1 H1 m2 ι2 H2) : Step m ι H m2 ι2 H2 where
  sub := fun i x h => b.sub i x (a.sub i x h)
  new := fun i x h => by
    rcases b.new i x h with h | h
    · exact a.new i x h
    · cases e : H x with
      | none => exact .inr rfl
      | some o =>
        by_cases w : Own ι m x
        · obtain ⟨j, c, hc, hj, hr⟩ := w
          obtain ⟨c1, hc1, e1⟩ := a.kind j c hc
          obtain ⟨o1, q⟩ := (r1.get hc1 (a.sub j x hj)).tracked (e1.trans hr)
          rw [h] at q; cases q
        · rw [a.keep x o e w] at h; cases h
  kind := fun i c h => by
    obtain ⟨c1, h1, e1⟩ := a.kind i c h
    obtain ⟨c2, h2, e2⟩ := b.kind i c1 h1
    exact ⟨c2, h2, e2.trans e1⟩
  keep := fun x o h w => by
    refine b.keep x o (a.keep x o h w) fun ⟨i, c, hc, hi, hr⟩ => ?_
    rcases a.new i x hi with q | q
    · cases e : m[i]? with
      | none => exact absurd (r.dom i x q) (by simpa using e)
      | some c0 =>
        obtain ⟨c1, h1, e1⟩ := a.kind i c0 e
        rw [hc] at h1; cases h1
        exact w ⟨i, c0, e, q, e1 ▸ hr⟩
    · rw [h] at q; cases q

/-- what is no changing cell's object -/
def fixed : HO → Prop
  | .lst _ => False
  | .dK _ => False
  | .dT _ => False
  | .ins _ _ _ => False
  | _ => True
theorem HR.notOwn (r : HR K mg ι H m) {a : Addr} {o : HO} (h : H a = some o) (f : fixed o) : ¬ Own ι m a := fun ⟨i, c, hc, hi, hr⟩ => by
  have q := r.get hc hi
  cases c with
  | lst xs => obtain ⟨vs, e, _⟩ := q; rw [h] at e; cases e; exact f
  | ro xs => cases hr
  | dct kvs => obtain ⟨vs, e, _⟩ := q; rw [h] at e; cases e; exact f
  | dctT kvs => obtain ⟨vs, e, _⟩ := q; rw [h] at e; cases e; exact f
  | ins c fs => obtain ⟨C, dx, us, _, e, _⟩ := q; rw [h] at e; cases e; exact f
  | set xs => exact q.elim
theorem Step.fix (r : HR K mg ι H m) (s : Step m ι H m1 ι1 H1) {a : Addr} {o : HO} (h : H a = some o) (f : fixed o) : H1 a = some o := s.keep a o h (r.notOwn h f)
theorem Step.sqT (r : HR K mg ι H m) (s : Step m ι H m1 ι1 H1) {a : Addr} {vs : List V} (h : SqT K H a vs) : SqT K H1 a vs := by
  rcases h with (h | ⟨o, h⟩) | h
  · exact .inl (.inl (s.fix r h trivial))
  · exact .inl (.inr ⟨o, s.fix r h trivial⟩)
  · exact .inr h
mutual
theorem VR.step (r : HR K mg ι H m) (s : Step m ι H m1 ι1 H1) {d : D} {v : V} : VR K mg ι H d v → VR K mg ι1 H1 d v
  | .non => .non
  | .bl b => .bl b
  | .int i => .int i
  | .str x => .str x
  | .tup h t => .tup (s.sqT r h) (VRs.step r s t)
  | .ref h => .ref (s.sub _ _ h)
  | .fn h => .fn h
  | .cls h => .cls h
  | .ty n => .ty n
  | .con h => .con h
  | .exc0 h e => .exc0 h (s.fix r e trivial)
  | .excF h e f t => .excF h (s.fix r e trivial) (s.fix r f trivial) (VRs.step r s t)
theorem VRs.step (r : HR K mg ι H m) (s : Step m ι H m1 ι1 H1) {ds : List D} {vs : List V} : VRs K mg ι H ds vs → VRs K mg ι1 H1 ds vs
  | .nil => .nil
  | .cons h t => .cons (VR.step r s h) (VRs.step r s t)
end
theorem KR.step {κ : Type} (r : HR K mg ι H m) (s : Step m ι H m1 ι1 H1) {ks : List (κ × D)} {us : List (κ × V)} (h : KR K mg ι H ks us) : KR K mg ι1 H1 ks us := by
  induction h with
  | nil => exact .nil
  | cons h _ ih => exact .cons (h.step r s) ih
theorem ER.step (r : HR K mg ι H m) (s : Step m ι H m1 ι1 H1) {ρ : Env} {σ : St} (h : ER K mg ι H ρ σ) : ER K mg ι1 H1 ρ σ :=
  ⟨h.1, fun i d e => let ⟨v, e', q⟩ := h.2 i d e; ⟨v, e', q.step r s⟩⟩

theorem VRs.length {ds : List D} {vs : List V} (h : VRs K mg ι H ds vs) : ds.length = vs.length := by
  induction ds generalizing vs with
  | nil => cases h; rfl
  | cons d ds ih => cases h with | cons _ t => simp [ih t]
theorem VRs.get {ds : List D} {vs : List V} (h : VRs K mg ι H ds vs) {i : Nat} {d : D} (e : ds[i]? = some d) : ∃ v, vs[i]? = some v ∧ VR K mg ι H d v := by
  induction ds generalizing vs i with
  | nil => cases e
  | cons x ds ih =>
    cases h with
    | cons q t =>
      cases i with
      | zero => simp at e; subst e; exact ⟨_, rfl, q⟩
      | succ i => simpa using ih t (by simpa using e)
theorem VRs.append {ds es : List D} {vs us : List V} (h : VRs K mg ι H ds vs) (g : VRs K mg ι H es us) : VRs K mg ι H (ds ++ es) (vs ++ us) := by
  induction ds generalizing vs with
  | nil => cases h; exact g
  | cons d ds ih => cases h with | cons q t => exact .cons q (ih t)
theorem VRs.take {ds : List D} {vs : List V} (h : VRs K mg ι H ds vs) (n : Nat) : VRs K mg ι H (ds.take n) (vs.take n) := by
  induction ds generalizing vs n with
  | nil => cases h; simp; exact .nil
  | cons d ds ih => cases h with | cons q t => cases n with
    | zero => simp; exact .nil
    | succ n => simp; exact .cons q (ih t n)
theorem VRs.drop {ds : List D} {vs : List V} (h : VRs K mg ι H ds vs) (n : Nat) : VRs K mg ι H (ds.drop n) (vs.drop n) := by
  induction ds generalizing vs n with
  | nil => cases h; simp; exact .nil
  | cons d ds ih => cases n with
    | zero => simpa using h
    | succ n => cases h with | cons q t => simpa using ih t n
theorem VRs.reverse {ds : List D} {vs : List V} (h : VRs K mg ι H ds vs) : VRs K mg ι H ds.reverse vs.reverse := by
  induction ds generalizing vs with
  | nil => cases h; exact .nil
  | cons d ds ih => cases h with | cons q t => simp; exact (ih t).append (.cons q .nil)
theorem VRs.set {ds : List D} {vs : List V} (h : VRs K mg ι H ds vs) {d : D} {v : V} (q : VR K mg ι H d v) (n : Nat) : VRs K mg ι H (ds.set n d) (vs.set n v) := by
  induction ds generalizing vs n with
  | nil => cases h; simp; exact .nil
  | cons x ds ih => cases h with | cons q' t => cases n with
    | zero => exact .cons q t
    | succ n => exact .cons q' (ih t n)
theorem VRs.eraseIdx {ds : List D} {vs : List V} (h : VRs K mg ι H ds vs) (n : Nat) : VRs K mg ι H (ds.eraseIdx n) (vs.eraseIdx n) := by
  induction ds generalizing vs n with
  | nil => cases h; simp; exact .nil
  | cons x ds ih => cases h with | cons q' t => cases n with
    | zero => exact t
    | succ n => exact .cons q' (ih t n)
end
end Ev

/-! EvS: steps of the memory; what is wanted of a run; the judgements. -/
namespace Ev
open PySem L2
def ext (ι : Map) (n : Nat) (p : Addr) : Map := fun i => if i = n then some p else ι i
section
variable {m m1 m2 : Mem} {ι ι1 ι2 : Map} {H H1 H2 : Hp} {K : Frag} {mg : Str → Option Value} {a p : Addr} {c : Cell} {o : HO}
theorem CR.keep (r : HR K mg ι H m) (s : Step m ι H m1 ι1 H1) (h : isRo c = false → H1 a = H a) (q : CR K mg ι H a c) : CR K mg ι1 H1 a c := by
  cases c with
  | lst xs => obtain ⟨vs, e, t⟩ := q; exact ⟨vs, (h rfl).trans e, t.step r s⟩
  | ro xs =>
    obtain ⟨vs, e, t⟩ := q
    refine ⟨vs, ?_, t.step r s⟩
    rcases e with ⟨o, e⟩ | e
    · exact .inl ⟨o, s.fix r e trivial⟩
    · exact .inr e
  | dct kvs => obtain ⟨vs, e, t⟩ := q; exact ⟨vs, (h rfl).trans e, t.step r s⟩
  | dctT kvs => obtain ⟨vs, e, t⟩ := q; exact ⟨vs, (h rfl).trans e, t.step r s⟩
  | ins x fs => obtain ⟨C, dx, us, g, e, t⟩ := q; exact ⟨C, dx, us, g, (h rfl).trans e, t.step r s⟩
  | set xs => exact q.elim
/-- a thing that never changes is laid -/
theorem Step.lay (r : HR K mg ι H m) (hp : H p = none) : Step m ι H m ι (upd H p o) := by
  refine ⟨fun _ _ h => h, fun _ _ h => .inl h, fun _ c h => ⟨c, h, rfl⟩, fun b o' h _ => ?_⟩
  rw [upd_ne (ne_of_none h hp)]; exact h
theorem HR.lay (r : HR K mg ι H m) (hp : H p = none) : HR K mg ι (upd H p o) m := by
  refine ⟨r.dom, fun i c h => ?_, r.inj⟩
  obtain ⟨b, e, q⟩ := r.cell i c h
  refine ⟨b, e, q.keep r (Step.lay r hp) fun hr => ?_⟩
  obtain ⟨u, hu⟩ := q.tracked hr
  exact upd_ne (ne_of_none hu hp)
/-- a new cell -/
theorem Step.alloc (r : HR K mg ι H m) (hp : H p = none) : Step m ι H (m ++ [c]) (ext ι m.length p) (upd H p o) := by
  refine ⟨fun i x h => ?_, fun i x h => ?_, fun i d h => ⟨d, ?_, rfl⟩, fun b o' h _ => ?_⟩
  · unfold ext
    rw [if_neg (Nat.ne_of_lt (r.dom i x h))]; exact h
  · unfold ext at h
    split at h
    · cases h; exact .inr hp
    · exact .inl h
  · rw [List.getElem?_append_left (List.getElem?_eq_some_iff.mp h).1]; exact h
  · rw [upd_ne (ne_of_none h hp)]; exact h
theorem HR.alloc (r : HR K mg ι H m) (hp : H p = none) (hc : isRo c = false) (q : CR K mg (ext ι m.length p) (upd H p o) p c) : HR K mg (ext ι m.length p) (upd H p o) (m ++ [c]) := by
  have s : Step m ι H (m ++ [c]) (ext ι m.length p) (upd H p o) := Step.alloc r hp
  have at_ : ∀ (i : Nat) (d : Cell), (m ++ [c])[i]? = some d → (m[i]? = some d) ∨ (i = m.length ∧ d = c) := fun i d h => by
    by_cases hi : i < m.length
    · rw [List.getElem?_append_left hi] at h; exact .inl h
    · rw [List.getElem?_append_right (by omega)] at h
      have : i - m.length = 0 := by
        cases hh : i - m.length with
        | zero => rfl
        | succ n => rw [hh] at h; simp at h
      rw [this] at h; simp at h
      exact .inr ⟨by omega, h.symm⟩
  have lo : ∀ {i : Nat} {d : Cell}, m[i]? = some d → i ≠ m.length := fun h => Nat.ne_of_lt (List.getElem?_eq_some_iff.mp h).1
  refine ⟨fun i x h => ?_, fun i d h => ?_, fun i j x d e hi hj h1 h2 g1 g2 => ?_⟩
  · unfold ext at h
    rw [List.length_append, List.length_singleton]
    split at h
    · omega
    · have := r.dom i x h; omega
  · rcases at_ i d h with h | ⟨rfl, rfl⟩
    · obtain ⟨b, e, q'⟩ := r.cell i d h
      refine ⟨b, s.sub i b e, q'.keep r s fun hr => ?_⟩
      obtain ⟨u, hu⟩ := q'.tracked hr
      exact upd_ne (ne_of_none hu hp)
    · exact ⟨p, if_pos rfl, q⟩
  · have ne : ∀ {i : Nat} {d : Cell}, m[i]? = some d → isRo d = false → ι i = some p → False := fun h hr g => by
      obtain ⟨u, hu⟩ := (r.get h g).tracked hr
      rw [hp] at hu; cases hu
    rcases at_ i d hi with qi | ⟨qi, qd⟩
    · rw [show ext ι m.length p i = ι i from if_neg (lo qi)] at g1
      rcases at_ j e hj with qj | ⟨qj, qe⟩
      · rw [show ext ι m.length p j = ι j from if_neg (lo qj)] at g2
        exact r.inj i j x d e qi qj h1 h2 g1 g2
      · rw [qj, show ext ι m.length p m.length = some p from if_pos rfl] at g2
        rw [← Option.some.inj g2] at g1
        exact (ne qi h1 g1).elim
    · rw [qi, show ext ι m.length p m.length = some p from if_pos rfl] at g1
      rcases at_ j e hj with qj | ⟨qj, qe⟩
      · rw [show ext ι m.length p j = ι j from if_neg (lo qj)] at g2
        rw [← Option.some.inj g1] at g2
        exact (ne qj h2 g2).elim
      · exact qi.trans qj.symm
/-- a cell changes -/
theorem Step.write (r : HR K mg ι H m) {i : Nat} {d : Cell} (hi : m[i]? = some d) (e : ι i = some a) (hd : isRo d = false) (hc : isRo c = false) : Step m ι H (m.set i c) ι (upd H a o) := by
  refine ⟨fun _ _ h => h, fun _ _ h => .inl h, fun j f h => ?_, fun b o' h w => ?_⟩
  · by_cases hj : i = j
    · subst hj
      rw [hi] at h; cases h
      exact ⟨c, by rw [List.getElem?_set_self (List.getElem?_eq_some_iff.mp hi).1], hc.trans hd.symm⟩
    · exact ⟨f, by rw [List.getElem?_set_ne hj]; exact h, rfl⟩
  · rw [upd_ne]; exact h
    rintro rfl
    exact w ⟨i, d, hi, e, hd⟩
theorem HR.write (r : HR K mg ι H m) {i : Nat} {d : Cell} (hi : m[i]? = some d) (e : ι i = some a) (hd : isRo d = false) (hc : isRo c = false) (q : CR K mg ι (upd H a o) a c) : HR K mg ι (upd H a o) (m.set i c) := by
  have s : Step m ι H (m.set i c) ι (upd H a o) := Step.write r hi e hd hc
  have at_ : ∀ (j : Nat) (f : Cell), (m.set i c)[j]? = some f → (j = i ∧ f = c) ∨ (j ≠ i ∧ m[j]? = some f) := fun j f h => by
    by_cases hj : i = j
    · subst hj
      rw [List.getElem?_set_self (List.getElem?_eq_some_iff.mp hi).1] at h
      exact .inl ⟨rfl, (Option.some.inj h).symm⟩
    · rw [List.getElem?_set_ne hj] at h; exact .inr ⟨Ne.symm hj, h⟩
  refine ⟨fun j x h => by rw [List.length_set]; exact r.dom j x h, fun j f h => ?_, fun j k x f g hj hk h1 h2 g1 g2 => ?_⟩
  · rcases at_ j f h with ⟨rfl, rfl⟩ | ⟨hj, h⟩
    · exact ⟨a, e, q⟩
    · obtain ⟨b, e', q'⟩ := r.cell j f h
      refine ⟨b, e', q'.keep r s fun hr => upd_ne ?_⟩
      rintro rfl
      exact hj (r.inj j i b f d h hi hr hd e' e)
  · have un : ∀ {j : Nat} {f : Cell}, (m.set i c)[j]? = some f → isRo f = false → ∃ f', m[j]? = some f' ∧ isRo f' = false := fun {j f} h hr => by
      rcases at_ j f h with ⟨rfl, rfl⟩ | ⟨_, h⟩
      · exact ⟨d, hi, hd⟩
      · exact ⟨f, h, hr⟩
    obtain ⟨f', hj', h1'⟩ := un hj h1
    obtain ⟨g', hk', h2'⟩ := un hk h2
    exact r.inj j k x f' g' hj' hk' h1' h2' g1 g2
end

/-! ### what is wanted of a run -/
/-- what is wanted of an exception that leaves: its class, its fields, the heap -/
abbrev XW := Value → Option Addr → Hp → Prop
/-- an exception in the air: its class at C, its dict d -/
def XR (K : Frag) (mg : Str → Option Value) (ι : Map) (H : Hp) (c : Str) (fs : List (Str × D)) (cls : Value) (d : Option Addr) : Prop :=
  ∃ C, mg c = some (.ref C) ∧ cls = .ref C ∧ ((d = none ∧ fs = []) ∨ ∃ dx vs, d = some dx ∧ H dx = some (.xd ((fs.map (·.1)).zip vs)) ∧ VRs K mg ι H (fs.map (·.2)) vs)
def RM (K : Frag) (mg : Str → Option Value) (W : XW) {α : Type} (x : M α) (m : Mem) (ι : Map) (H : Hp) (P : α → Mem → Map → Hp → Prop) : Prop := match x m with
  | .ok a m' => ∀ ι' H', Step m ι H m' ι' H' → HR K mg ι' H' m' → P a m' ι' H'
  | .exn c fs m' => ∀ ι' H' cls d, Step m ι H m' ι' H' → HR K mg ι' H' m' → XR K mg ι' H' c fs cls d → W cls d H'
  | .bad => False
section
variable {K : Frag} {mg : Str → Option Value} {W : XW} {α β : Type} {x : M α} {f : α → M β} {m : Mem} {ι : Map} {H : Hp}
theorem RM.ret {a : α} {P : α → Mem → Map → Hp → Prop} (r : HR K mg ι H m) (h : RM K mg W (Ev.ret a) m ι H P) : P a m ι H := h ι H .refl r
theorem RM.bind {P : β → Mem → Map → Hp → Prop} (r : HR K mg ι H m) (h : RM K mg W (Ev.bind x f) m ι H P) : RM K mg W x m ι H fun a m1 ι1 H1 => RM K mg W (f a) m1 ι1 H1 P := by
  unfold RM Ev.bind at h
  unfold RM
  cases e : x m with
  | ok a m1 =>
    rw [e] at h
    intro ι1 H1 s1 r1
    dsimp only at h
    show match f a m1 with | _ => _
    cases e2 : f a m1 with
    | ok b m2 => rw [e2] at h; exact fun ι2 H2 s2 r2 => h ι2 H2 (s1.trans r r1 s2) r2
    | exn c fs m2 => rw [e2] at h; exact fun ι2 H2 cls d s2 r2 xr => h ι2 H2 cls d (s1.trans r r1 s2) r2 xr
    | bad => rw [e2] at h; exact h
  | exn c fs m1 => rw [e] at h; exact h
  | bad => rw [e] at h; exact h
theorem RM.mono {P P' : α → Mem → Map → Hp → Prop} (h : RM K mg W x m ι H P) (k : ∀ a m' ι' H', Step m ι H m' ι' H' → HR K mg ι' H' m' → P a m' ι' H' → P' a m' ι' H') : RM K mg W x m ι H P' := by
  unfold RM at h ⊢
  cases e : x m with
  | ok a m1 => rw [e] at h; exact fun ι1 H1 s1 r1 => k a m1 ι1 H1 s1 r1 (h ι1 H1 s1 r1)
  | exn c fs m1 => rw [e] at h; exact h
  | bad => rw [e] at h; exact h
theorem RM.bad {P : α → Mem → Map → Hp → Prop} (h : RM K mg W (Ev.bad : M α) m ι H P) : False := h
theorem RM.opt {o : Option α} {P : α → Mem → Map → Hp → Prop} (r : HR K mg ι H m) (h : RM K mg W (Ev.opt o) m ι H P) : ∃ a, o = some a ∧ P a m ι H := by
  cases o with
  | none => exact (RM.bad h).elim
  | some a => exact ⟨a, rfl, RM.ret r h⟩
theorem RM.ask {g : Mem → Option α} {P : α → Mem → Map → Hp → Prop} (r : HR K mg ι H m) (h : RM K mg W (Ev.ask g) m ι H P) : ∃ a, g m = some a ∧ P a m ι H := by
  unfold RM Ev.ask at h
  cases e : g m with
  | none => rw [e] at h; exact h.elim
  | some a => rw [e] at h; exact ⟨a, rfl, h ι H .refl r⟩
theorem RM.cell {i : Nat} {f : Cell → M β} {P : β → Mem → Map → Hp → Prop} (r : HR K mg ι H m) (h : RM K mg W (Ev.bind (cellM i) f) m ι H P) : ∃ c, m[i]? = some c ∧ RM K mg W (f c) m ι H P := by
  obtain ⟨c, e, q⟩ := RM.ask r (RM.bind r h)
  exact ⟨c, e, q⟩
theorem RM.lst {i : Nat} {f : List D → M β} {P : β → Mem → Map → Hp → Prop} (r : HR K mg ι H m) (h : RM K mg W (Ev.bind (lstM i) f) m ι H P) : ∃ xs, m[i]? = some (.lst xs) ∧ RM K mg W (f xs) m ι H P := by
  have h1 := RM.bind r h
  obtain ⟨c, e, q⟩ := RM.cell r h1
  cases c with
  | lst xs => exact ⟨xs, e, RM.ret r q⟩
  | _ => exact (RM.bad q).elim
theorem RM.seq {i : Nat} {f : List D → M β} {P : β → Mem → Map → Hp → Prop} (r : HR K mg ι H m) (h : RM K mg W (Ev.bind (seqM i) f) m ι H P) : ∃ xs, (m[i]? = some (.lst xs) ∨ m[i]? = some (.ro xs)) ∧ RM K mg W (f xs) m ι H P := by
  have h1 := RM.bind r h
  obtain ⟨c, e, q⟩ := RM.cell r h1
  cases c with
  | lst xs => exact ⟨xs, .inl e, RM.ret r q⟩
  | ro xs => exact ⟨xs, .inr e, RM.ret r q⟩
  | _ => exact (RM.bad q).elim
theorem RM.optB {o : Option α} {f : α → M β} {P : β → Mem → Map → Hp → Prop} (r : HR K mg ι H m) (h : RM K mg W (Ev.bind (Ev.opt o) f) m ι H P) : ∃ a, o = some a ∧ RM K mg W (f a) m ι H P := by
  obtain ⟨a, e, q⟩ := RM.opt r (RM.bind r h)
  exact ⟨a, e, q⟩
theorem RM.retB {a : α} {f : α → M β} {P : β → Mem → Map → Hp → Prop} (r : HR K mg ι H m) (h : RM K mg W (Ev.bind (Ev.ret a) f) m ι H P) : RM K mg W (f a) m ι H P := RM.ret r (RM.bind r h)
end
end Ev

/-! EvT: the judgement of an expression, its rules. -/
namespace Ev
open PySem L2 PySem.Spec PyProof.Rows

/-- a value comes out -/
def VP (X : Cx) (pins : List (Addr × Obj)) (σ : L2.St) (m : Mem) (ι : Map) (H : Hp) (P : D → Mem → Map → Hp → Prop) (u : Value) (s' : Shared) : Prop :=
  ∃ d v m' ι' H', Inv X pins σ H' s' ∧ RelV v u ∧ HR X.K X.mg ι' H' m' ∧ VR X.K X.mg ι' H' d v ∧ Step m ι H m' ι' H' ∧ P d m' ι' H'
/-- a truth value comes out -/
def BP (X : Cx) (pins : List (Addr × Obj)) (σ : L2.St) (m : Mem) (ι : Map) (H : Hp) (P : Bool → Mem → Map → Hp → Prop) (c : Bool) (s' : Shared) : Prop :=
  ∃ m' ι' H', Inv X pins σ H' s' ∧ HR X.K X.mg ι' H' m' ∧ Step m ι H m' ι' H' ∧ P c m' ι' H'
abbrev XRM (X : Cx) (W : WX) (σ : L2.St) {α : Type} (x : M α) (m : Mem) (ι : Map) (H : Hp) (P : α → Mem → Map → Hp → Prop) : Prop := RM X.K X.mg (fun c d H => W c d σ H) x m ι H P
structure SE (X : Cx) (W : WX) (e : Expr) (f : Env → M D) : Prop where
  run : ∀ (pins : List (Addr × Obj)) (s : Shared) (σ : L2.St) (H : Hp) (ρ : Env) (m : Mem) (ι : Map) (P : D → Mem → Map → Hp → Prop), Inv X pins σ H s → HR X.K X.mg ι H m → ER X.K X.mg ι H ρ σ → XRM X W σ (f ρ) m ι H P →
    wpAny (model X.prog X.w) X.A (eval e X.env) (VP X pins σ m ι H P) X.xe s
/-- as a test -/
structure ST (X : Cx) (W : WX) (e : Expr) (f : Env → M Bool) : Prop where
  run : ∀ (whole : Sem Value) (pins : List (Addr × Obj)) (s : Shared) (σ : L2.St) (H : Hp) (ρ : Env) (m : Mem) (ι : Map) (P : Bool → Mem → Map → Hp → Prop), whole = eval e X.env → Inv X pins σ H s → HR X.K X.mg ι H m → ER X.K X.mg ι H ρ σ → XRM X W σ (f ρ) m ι H P →
    wpAny (model X.prog X.w) X.A (isTrue e X.env whole) (BP X pins σ m ι H P) X.xe s
section
variable {X : Cx} {W : WX} {pins : List (Addr × Obj)} {σ : L2.St} {s : Shared} {m m1 : Mem} {ι ι1 : Map} {H H1 : Hp} {ρ : Env} {a b c e : Expr} {fa fb fc : Env → M D} {pos : Pos}
theorem VP.lift {P : D → Mem → Map → Hp → Prop} {u : Value} {s' : Shared} (r : HR X.K X.mg ι H m) (st : Step m ι H m1 ι1 H1) (r1 : HR X.K X.mg ι1 H1 m1) (h : VP X pins σ m1 ι1 H1 P u s') : VP X pins σ m ι H P u s' :=
  let ⟨d, v, m', ι', H', I, q, r', vr, st', p⟩ := h
  ⟨d, v, m', ι', H', I, q, r', vr, st.trans r r1 st', p⟩
theorem BP.lift {P : Bool → Mem → Map → Hp → Prop} {u : Bool} {s' : Shared} (r : HR X.K X.mg ι H m) (st : Step m ι H m1 ι1 H1) (r1 : HR X.K X.mg ι1 H1 m1) (h : BP X pins σ m1 ι1 H1 P u s') : BP X pins σ m ι H P u s' :=
  let ⟨m', ι', H', I, r', st', p⟩ := h
  ⟨m', ι', H', I, r', st.trans r r1 st', p⟩
/-- a plain value is handed on -/
theorem VP.now {P : D → Mem → Map → Hp → Prop} {u : Value} {s' : Shared} {d : D} {v : V} (I : Inv X pins σ H s') (r : HR X.K X.mg ι H m) (q : RelV v u) (vr : VR X.K X.mg ι H d v) (p : P d m ι H) : VP X pins σ m ι H P u s' :=
  ⟨d, v, m, ι, H, I, q, r, vr, .refl, p⟩
/-- what a run of an expression is followed by -/
theorem SE.then {β : Type} {f : Env → M D} {g : D → M β} {P : β → Mem → Map → Hp → Prop} {Q : Value → Shared → Prop} (h : SE X W e f) (I : Inv X pins σ H s) (r : HR X.K X.mg ι H m) (er : ER X.K X.mg ι H ρ σ) (hh : XRM X W σ (bind (f ρ) g) m ι H P)
    (k : ∀ u s1 d v m1 ι1 H1, Inv X pins σ H1 s1 → RelV v u → HR X.K X.mg ι1 H1 m1 → ER X.K X.mg ι1 H1 ρ σ → VR X.K X.mg ι1 H1 d v → Step m ι H m1 ι1 H1 → XRM X W σ (g d) m1 ι1 H1 P → Q u s1) :
    wpAny (model X.prog X.w) X.A (eval e X.env) Q X.xe s :=
  thn (h.run pins s σ H ρ m ι _ I r er (RM.bind r hh)) fun u s1 ⟨d, v, m1, ι1, H1, I1, q, r1, vr, st, p⟩ => k u s1 d v m1 ι1 H1 I1 q r1 (er.step r st) vr st p
theorem ST.then {β : Type} {f : Env → M Bool} {g : Bool → M β} {P : β → Mem → Map → Hp → Prop} {Q : Bool → Shared → Prop} (h : ST X W e f) (I : Inv X pins σ H s) (r : HR X.K X.mg ι H m) (er : ER X.K X.mg ι H ρ σ) (hh : XRM X W σ (bind (f ρ) g) m ι H P)
    (k : ∀ c s1 m1 ι1 H1, Inv X pins σ H1 s1 → HR X.K X.mg ι1 H1 m1 → ER X.K X.mg ι1 H1 ρ σ → Step m ι H m1 ι1 H1 → XRM X W σ (g c) m1 ι1 H1 P → Q c s1) :
    wpAny (model X.prog X.w) X.A (isTrue e X.env (eval e X.env)) Q X.xe s :=
  thn (h.run _ pins s σ H ρ m ι _ rfl I r er (RM.bind r hh)) fun c s1 ⟨m1, ι1, H1, I1, r1, st, p⟩ => k c s1 m1 ι1 H1 I1 r1 (er.step r st) st p

/-! ### names, constants -/
theorem se_var {i : Nat} {x : Str} (hN : X.N[i]? = some x) (hv : Vis X.env.scope x) (hd : (x == ("__debug__" : Str)) = false) (hcd : (x == ("__classdict__" : Str)) = false) : SE X W (.Name x pos) (fun ρ => varM ρ i) := by
  refine ⟨fun pins s σ H ρ m ι P I r er h => ?_⟩
  unfold varM at h
  split at h
  · rename_i d e
    obtain ⟨v, e', vr⟩ := er.2 i d e
    refine thn ((pe_var (pos := pos) hN hv hd hcd).run pins s σ H (fun v' H' => v' = v ∧ H' = H) I ⟨v, e', rfl, rfl⟩) fun u s1 ⟨v', H', I1, q, e1, e2⟩ => ?_
    subst e1; subst e2
    exact VP.now I1 r q vr (RM.ret r h)
  · exact (RM.bad h).elim
theorem se_of {t : TE} {v : V} {d : D} (h : PE X e t) (ht : ∀ σ H Q, Q v H → t σ H Q) (vr : ∀ ι H, VR X.K X.mg ι H d v) : SE X W e (fun _ => ret d) := by
  refine ⟨fun pins s σ H ρ m ι P I r er hh => ?_⟩
  refine thn (h.run pins s σ H (fun v' H' => v' = v ∧ H' = H) I (ht _ _ _ ⟨rfl, rfl⟩)) fun u s1 ⟨v', H', I1, q, e1, e2⟩ => ?_
  subst e1; subst e2
  exact VP.now I1 r q (vr _ _) (RM.ret r hh)
theorem se_const {x : Const} {j : Nat} {d : D} (hd : trC x = some d) : SE X W (.Constant x j pos) (fun _ => ret d) := by
  cases x with
  | none => cases hd; exact se_of pe_non (fun _ _ _ q => q) fun _ _ => .non
  | bool b => cases hd; exact se_of pe_bl (fun _ _ _ q => q) fun _ _ => .bl b
  | int i => cases hd; exact se_of pe_int (fun _ _ _ q => q) fun _ _ => .int i
  | str x => cases hd; exact se_of pe_str (fun _ _ _ q => q) fun _ _ => .str x
  | _ => cases hd

/-! ### two-place operations -/
theorem Vals.flatten_rep {xs : List V} {us : List Value} (r : Vals xs us) : ∀ n : Nat, Vals (List.replicate n xs).flatten (List.replicate n us).flatten
  | 0 => .nil
  | n + 1 => by simp only [List.replicate_succ, List.flatten_cons]; exact Vals.append r (Vals.flatten_rep r n)
theorem VRs.flatten_rep {K : Frag} {mg : Str → Option Value} {ι : Map} {H : Hp} {xs : List D} {us : List V} (r : VRs K mg ι H xs us) : ∀ n : Nat, VRs K mg ι H (List.replicate n xs).flatten (List.replicate n us).flatten
  | 0 => .nil
  | n + 1 => by simp only [List.replicate_succ, List.flatten_cons]; exact VRs.append r (VRs.flatten_rep r n)
/-- from what a rule by values leaves -/
theorem ep_vp {P : D → Mem → Map → Hp → Prop} {u : Value} {s' : Shared} (h : EP X pins σ (fun v H' => ∃ d m' ι', HR X.K X.mg ι' H' m' ∧ VR X.K X.mg ι' H' d v ∧ Step m ι H m' ι' H' ∧ P d m' ι' H') u s') : VP X pins σ m ι H P u s' :=
  let ⟨v, H', I, q, d, m', ι', r, vr, st, p⟩ := h
  ⟨d, v, m', ι', H', I, q, r, vr, st, p⟩
/-- a new list: a new cell -/
theorem new_list {P : D → Mem → Map → Hp → Prop} {xs : List D} {vs : List V} {p : Addr} (r : HR X.K X.mg ι H m) (vr : VRs X.K X.mg ι H xs vs) (hp : H p = none) (h : XRM X W σ (alloc (.lst xs)) m ι H P) :
    ∃ d m' ι', HR X.K X.mg ι' (upd H p (.lst vs)) m' ∧ VR X.K X.mg ι' (upd H p (.lst vs)) d (.ref p) ∧ Step m ι H m' ι' (upd H p (.lst vs)) ∧ P d m' ι' (upd H p (.lst vs)) := by
  have st : Step m ι H (m ++ [.lst xs]) (ext ι m.length p) (upd H p (.lst vs)) := Step.alloc r hp
  have r' : HR X.K X.mg (ext ι m.length p) (upd H p (.lst vs)) (m ++ [.lst xs]) := HR.alloc r hp rfl ⟨vs, upd_same, vr.step r st⟩
  exact ⟨_, _, _, r', .ref (if_pos rfl), st, h _ _ st r'⟩
/-- a new tuple -/
theorem new_tup {P : D → Mem → Map → Hp → Prop} {xs : List D} {vs : List V} {p : Addr} (r : HR X.K X.mg ι H m) (vr : VRs X.K X.mg ι H xs vs) (hp : H p = none) (h : XRM X W σ (ret (.tup xs)) m ι H P) :
    ∃ d m' ι', HR X.K X.mg ι' (upd H p (.tup vs)) m' ∧ VR X.K X.mg ι' (upd H p (.tup vs)) d (.ref p) ∧ Step m ι H m' ι' (upd H p (.tup vs)) ∧ P d m' ι' (upd H p (.tup vs)) := by
  have st : Step m ι H m ι (upd H p (.tup vs)) := Step.lay r hp
  have r' : HR X.K X.mg ι (upd H p (.tup vs)) m := HR.lay r hp
  exact ⟨_, _, _, r', .tup (.inl (.inl upd_same)) (vr.step r st), st, h _ _ st r'⟩
theorem mulOk_ok {i j : Int} (hs : mulOk i j = true) : CMul i j := by
  unfold mulOk at hs
  simp only [Bool.or_eq_true, Bool.and_eq_true, decide_eq_true_eq] at hs
  exact hs
theorem bin_ok {op : Operator} {o : Bin} (ho : trBin op = some o) {d1 d2 : D} {v1 v2 : V} {u1 u2 : Value} {P : D → Mem → Map → Hp → Prop} (I : Inv X pins σ H s) (r : HR X.K X.mg ι H m) (h1 : VR X.K X.mg ι H d1 v1) (h2 : VR X.K X.mg ι H d2 v2)
    (q1 : RelV v1 u1) (q2 : RelV v2 u2) (h : XRM X W σ (binM o d1 d2) m ι H P) : wpAny (model X.prog X.w) X.A (binaryOp op u1 u2) (VP X pins σ m ι H P) X.xe s := by
  have fin : ∀ {rr : R2}, OpR X (binaryOp op) rr → rr v1 v2 H (fun v H' => ∃ d m' ι', HR X.K X.mg ι' H' m' ∧ VR X.K X.mg ι' H' d v ∧ Step m ι H m' ι' H' ∧ P d m' ι' H') → wpAny (model X.prog X.w) X.A (binaryOp op u1 u2) (VP X pins σ m ι H P) X.xe s :=
    fun ro hr => thn (ro pins s σ H v1 v2 u1 u2 _ I q1 q2 hr) fun u s1 hq => ep_vp hq
  have one : ∀ {k : Int}, P (.int k) m ι H → ∃ d m' ι', HR X.K X.mg ι' H m' ∧ VR X.K X.mg ι' H d (.int k) ∧ Step m ι H m' ι' H ∧ P d m' ι' H := fun p => ⟨_, m, ι, r, .int _, .refl, p⟩
  unfold binM at h
  split at h
  · cases h1; cases h2
    have eo : op = .Add := by cases op <;> first | rfl | cases ho
    subst eo
    exact fin op_add ⟨_, _, rfl, rfl, one (RM.ret r h)⟩
  · cases h1; cases h2
    have eo : op = .Add := by cases op <;> first | rfl | cases ho
    subst eo
    split at h
    · rename_i hs
      exact fin op_add_str ⟨_, _, rfl, rfl, of_decide_eq_true hs, _, m, ι, r, .str _, .refl, RM.ret r h⟩
    · exact (RM.bad h).elim
  · cases h1 with
    | tup sq1 t1 =>
    cases h2 with
    | tup sq2 t2 =>
    have eo : op = .Add := by cases op <;> first | rfl | cases ho
    subst eo
    split at h
    · rename_i hs
      have hz := of_decide_eq_true hs
      rw [t1.length, t2.length] at hz
      refine fin op_catA ⟨_, _, _, _, rfl, rfl, sq1, sq2, hz, fun e => ?_, fun e1 e2 => ?_, fun _ _ p hp => new_tup r (t1.append t2) hp h⟩
      · subst e
        cases t1
        exact ⟨_, m, ι, r, .tup sq2 t2, .refl, RM.ret r h⟩
      · subst e2
        cases t2
        rw [List.append_nil] at h
        exact ⟨_, m, ι, r, .tup sq1 t1, .refl, RM.ret r h⟩
    · exact (RM.bad h).elim
  · cases h1 with
    | ref e1 =>
    cases h2 with
    | ref e2 =>
    have eo : op = .Add := by cases op <;> first | rfl | cases ho
    subst eo
    obtain ⟨xs, c1, h⟩ := RM.lst r h
    obtain ⟨ys, c2, h⟩ := RM.lst r h
    obtain ⟨vs, g1, t1⟩ := r.get c1 e1
    obtain ⟨us, g2, t2⟩ := r.get c2 e2
    split at h
    · rename_i hs
      have hz := of_decide_eq_true hs
      rw [t1.length, t2.length] at hz
      exact fin op_cat ⟨_, _, _, _, rfl, rfl, g1, g2, hz, fun p hp => new_list r (t1.append t2) hp h⟩
    · exact (RM.bad h).elim
  · cases h1; cases h2
    have eo : op = .Sub := by cases op <;> first | rfl | cases ho
    subst eo
    exact fin op_sub ⟨_, _, rfl, rfl, one (RM.ret r h)⟩
  · cases h1; cases h2
    have eo : op = .Mult := by cases op <;> first | rfl | cases ho
    subst eo
    split at h
    · rename_i hs
      exact fin op_mul ⟨_, _, rfl, rfl, mulOk_ok hs, one (RM.ret r h)⟩
    · exact (RM.bad h).elim
  · cases h1 with
    | ref e1 =>
    cases h2
    have eo : op = .Mult := by cases op <;> first | rfl | cases ho
    subst eo
    obtain ⟨xs, c1, h⟩ := RM.lst r h
    obtain ⟨vs, g1, t1⟩ := r.get c1 e1
    split at h
    · rename_i hs
      simp only [Bool.and_eq_true, decide_eq_true_eq] at hs
      have hz := of_decide_eq_true hs.2
      rw [t1.length] at hz
      exact fin op_rep ⟨_, _, _, rfl, rfl, g1, hs.1.1, hs.1.2, hz, fun p hp => new_list r (t1.flatten_rep _) hp h⟩
    · exact (RM.bad h).elim
  · cases h1; cases h2
    have eo : op = .FloorDiv := by cases op <;> first | rfl | cases ho
    subst eo
    split at h
    · rename_i hs
      simp only [Bool.and_eq_true, decide_eq_true_eq] at hs
      exact fin op_fdivN ⟨_, _, rfl, rfl, hs, one (RM.ret r h)⟩
    · exact (RM.bad h).elim
  · cases h1; cases h2
    have eo : op = .Mod := by cases op <;> first | rfl | cases ho
    subst eo
    split at h
    · rename_i hs
      exact fin op_modN ⟨_, _, rfl, rfl, of_decide_eq_true hs, one (RM.ret r h)⟩
    · exact (RM.bad h).elim
  · cases h1; cases h2
    have eo : op = .Pow := by cases op <;> first | rfl | cases ho
    subst eo
    split at h
    · rename_i hs
      simp only [Bool.and_eq_true, decide_eq_true_eq] at hs
      exact fin op_pow ⟨_, _, rfl, rfl, ⟨hs.1.1, hs.1.2, hs.2⟩, one (RM.ret r h)⟩
    · exact (RM.bad h).elim
  · exact (RM.bad h).elim
theorem se_bin {op : Operator} {o : Bin} (ho : trBin op = some o) (ha : SE X W a fa) (hb : SE X W b fb) : SE X W (.BinOp a op b pos) (fun ρ => bind (fa ρ) fun x => bind (fb ρ) fun y => binM o x y) := by
  refine ⟨fun pins s σ H ρ m ι P I r er h => ?_⟩
  refine wpAny_BinOp (ha.then I r er h fun u1 s1 d1 v1 m1 ι1 H1 I1 q1 r1 er1 vr1 st1 h => hb.then I1 r1 er1 h fun u2 s2 d2 v2 m2 ι2 H2 I2 q2 r2 er2 vr2 st2 h => ?_)
  exact thn (bin_ok ho I2 r2 (vr1.step r1 st2) vr2 q1 q2 h) fun u s3 hq => (hq.lift r1 st2 r2).lift r st1 r1
end
end Ev

/-! EvU: truth, comparisons, displays, items. -/
namespace Ev
open PySem L2 PySem.Spec PyProof.Rows
section
variable {X : Cx} {W : WX} {pins : List (Addr × Obj)} {σ : L2.St} {s : Shared} {m m1 : Mem} {ι ι1 : Map} {H H1 : Hp} {ρ : Env} {a b c e : Expr} {fa fb fc : Env → M D} {pos : Pos} {Pg : Prog}
theorem RM.of_eq {α : Type} {x y : M α} {K : Frag} {mg : Str → Option Value} {W : XW} {P : α → Mem → Map → Hp → Prop} (e : x m = y m) (h : RM K mg W x m ι H P) : RM K mg W y m ι H P := by
  unfold RM at h ⊢
  rw [← e]; exact h
theorem bind_ret {α : Type} (x : M α) (m : Mem) : bind x ret m = x m := by
  unfold bind ret
  cases x m <;> rfl
/-! ### truth -/
theorem truth_det (d : D) (m : Mem) : truth Pg d m = .bad ∨ ∃ c, truth Pg d m = .ok c m := by
  cases d with
  | non => exact .inr ⟨_, rfl⟩
  | bl b => exact .inr ⟨_, rfl⟩
  | int i => exact .inr ⟨_, rfl⟩
  | str x => unfold truth; dsimp only; split
             · exact .inr ⟨_, rfl⟩
             · exact .inl rfl
  | tup ds => exact .inr ⟨_, rfl⟩
  | ref i =>
    unfold truth bind cellM ask; dsimp only
    cases m[i]? with
    | none => exact .inl rfl
    | some c => cases c <;> first | exact .inr ⟨_, rfl⟩ | exact .inl rfl
  | _ => exact .inl rfl
theorem truth_ok {d : D} {v : V} {u : Value} {P : Bool → Mem → Map → Hp → Prop} (I : Inv X pins σ H s) (r : HR X.K X.mg ι H m) (vr : VR X.K X.mg ι H d v) (q : RelV v u) (h : XRM X W σ (truth Pg d) m ι H P) :
    wpAny (model X.prog X.w) X.A (truthy u) (BP X pins σ m ι H P) X.xe s := by
  have fin : ∀ {k : Bool}, TruV X.K v H k → P k m ι H → wpAny (model X.prog X.w) X.A (truthy u) (BP X pins σ m ι H P) X.xe s := fun hk hp =>
    thn (tru_ok pins s σ H v u (fun c H' => H' = H ∧ P c m ι H) I q ⟨_, hk, rfl, hp⟩) fun c s1 ⟨H', I', e, p⟩ => by subst e; exact ⟨m, ι, H', I', r, .refl, p⟩
  cases vr with
  | non => exact fin (show TruV X.K .non H false from rfl) (RM.ret r h)
  | bl b => exact fin (show TruV X.K (.bl b) H b from rfl) (RM.ret r h)
  | int i => exact fin (show TruV X.K (.int i) H (i != 0) from rfl) (RM.ret r h)
  | str x =>
    unfold truth at h
    dsimp only at h
    split at h
    · rename_i hs
      exact fin (show TruV X.K (.str x) H ((x.length : Int) != 0) from ⟨hs, rfl⟩) (RM.ret r h)
    · exact (RM.bad h).elim
  | tup sq t =>
    rename_i ds a vs
    refine fin (k := !ds.isEmpty) (.inr (.inl ⟨vs, sq, ?_⟩)) (RM.ret r h)
    cases t <;> rfl
  | ref e =>
    obtain ⟨c, hc, h⟩ := RM.cell r h
    have cr := r.get hc e
    cases c with
    | lst xs =>
      obtain ⟨vs, g, t⟩ := cr
      refine fin (k := !xs.isEmpty) (.inl ⟨vs, SqL.of g, ?_⟩) (RM.ret r h)
      cases t <;> rfl
    | ro xs =>
      obtain ⟨vs, g, t⟩ := cr
      refine fin (k := !xs.isEmpty) (.inl ⟨vs, ?_, ?_⟩) (RM.ret r h)
      · rcases g with ⟨o, g⟩ | g
        · exact .inl (.inr ⟨o, g⟩)
        · exact g H
      · cases t <;> rfl
    | dct kvs =>
      obtain ⟨us, g, t⟩ := cr
      refine fin (k := !kvs.isEmpty) (.inr (.inr ⟨us, g, ?_⟩)) (RM.ret r h)
      cases t <;> rfl
    | _ => exact (RM.bad h).elim
  | _ => exact (RM.bad h).elim
theorem cell_seqL {K : Frag} {mg : Str → Option Value} {i : Nat} {a : Addr} {xs : List D} (r : HR K mg ι H m) (e : ι i = some a) (hc : m[i]? = some (.lst xs) ∨ m[i]? = some (.ro xs)) : ∃ vs, SqL K H a vs ∧ VRs K mg ι H xs vs := by
  rcases hc with hc | hc
  · obtain ⟨vs, g, t⟩ := r.get hc e
    exact ⟨vs, SqL.of g, t⟩
  · obtain ⟨vs, g, t⟩ := r.get hc e
    rcases g with ⟨o, g⟩ | g
    · exact ⟨vs, .inl (.inr ⟨o, g⟩), t⟩
    · exact ⟨vs, g H, t⟩

/-! ### data -/
mutual
theorem rdD_ok {K : Frag} {mg : Str → Option Value} (r : HR K mg ι H m) : ∀ (n : Nat) (d : D) (v : V) (x : PyData), rdD m n d = some x → VR K mg ι H d v → Dp K H v x
  | n, .non, v, x, e, h => by rw [rdD] at e; cases e; cases h; exact .non
  | n, .bl b, v, x, e, h => by rw [rdD] at e; cases e; cases h; exact .bl b
  | n, .int b, v, x, e, h => by rw [rdD] at e; cases e; cases h; exact .int b
  | n, .str b, v, x, e, h => by rw [rdD] at e; cases e; cases h; exact .str b
  | n, .tup ds, v, x, e, h => by
    rw [rdD] at e
    cases q : rdDs m n ds with
    | none => rw [q] at e; cases e
    | some xs =>
      rw [q] at e; cases e
      cases h with
      | tup sq t => exact .tup sq (rdDs_ok r n ds _ xs q t)
  | 0, .ref i, v, x, e, h => by rw [rdD] at e; cases e
  | n + 1, .ref i, v, x, e, h => by
    rw [rdD] at e
    cases h with
    | ref g =>
      cases hc : m[i]? with
      | none => rw [hc] at e; cases e
      | some c =>
        rw [hc] at e
        cases c with
        | lst xs =>
          dsimp only at e
          cases q : rdDs m n xs with
          | none => rw [q] at e; cases e
          | some ys =>
            rw [q] at e; cases e
            obtain ⟨vs, sq, t⟩ := cell_seqL r g (.inl hc)
            exact .lst sq (rdDs_ok r n xs _ ys q t)
        | ro xs =>
          dsimp only at e
          cases q : rdDs m n xs with
          | none => rw [q] at e; cases e
          | some ys =>
            rw [q] at e; cases e
            obtain ⟨vs, sq, t⟩ := cell_seqL r g (.inr hc)
            exact .lst sq (rdDs_ok r n xs _ ys q t)
        | _ => cases e
  | n, .fn _, v, x, e, h => by rw [rdD] at e <;> first | cases e | (intros; contradiction)
  | n, .cls _, v, x, e, h => by rw [rdD] at e <;> first | cases e | (intros; contradiction)
  | n, .ty _, v, x, e, h => by rw [rdD] at e <;> first | cases e | (intros; contradiction)
  | n, .exc _ _, v, x, e, h => by rw [rdD] at e <;> first | cases e | (intros; contradiction)
  | n, .con _, v, x, e, h => by rw [rdD] at e <;> first | cases e | (intros; contradiction)
  termination_by n d => (n, sizeOf d)
theorem rdDs_ok {K : Frag} {mg : Str → Option Value} (r : HR K mg ι H m) : ∀ (n : Nat) (ds : List D) (vs : List V) (xs : List PyData), rdDs m n ds = some xs → VRs K mg ι H ds vs → DpAll K H vs xs
  | n, [], vs, xs, e, h => by rw [rdDs] at e; cases e; cases h; exact .nil
  | n, d :: ds, vs, xs, e, h => by
    rw [rdDs] at e
    cases q : rdD m n d with
    | none => rw [q] at e; cases e
    | some x =>
      cases q2 : rdDs m n ds with
      | none => rw [q, q2] at e; cases e
      | some ys =>
        rw [q, q2] at e; cases e
        cases h with
        | cons h t => exact .cons (rdD_ok r n d _ x q h) (rdDs_ok r n ds _ ys q2 t)
  termination_by n ds => (n, sizeOf ds)
end
theorem RM_shaped {β : Type} {x : PyData} {f : Unit → M β} {K : Frag} {mg : Str → Option Value} {W : XW} {P : β → Mem → Map → Hp → Prop} (r : HR K mg ι H m) (h : RM K mg W (bind (shaped x) f) m ι H P) : SeqAt.shaped x = true ∧ RM K mg W (f ()) m ι H P := by
  have h1 := RM.bind r h
  unfold Ev.shaped at h1
  split at h1
  · rename_i hs; exact ⟨hs, RM.ret r h1⟩
  · exact (RM.bad h1).elim
theorem eq_data {β : Type} {d1 d2 : D} {v1 v2 : V} {f : Bool → M β} {K : Frag} {mg : Str → Option Value} {W : XW} {P : β → Mem → Map → Hp → Prop} (r : HR K mg ι H m) (h1 : VR K mg ι H d1 v1) (h2 : VR K mg ι H d2 v2) (h : RM K mg W (bind (eqM d1 d2) f) m ι H P) :
    ∃ x y, Dp K H v1 x ∧ Dp K H v2 y ∧ SeqAt.shaped x = true ∧ SeqAt.shaped y = true ∧ RM K mg W (f (PyData.eqv x y)) m ι H P := by
  have h := RM.bind r h
  obtain ⟨x, ex, h⟩ := RM.ask r (RM.bind r h)
  obtain ⟨y, ey, h⟩ := RM.ask r (RM.bind r h)
  obtain ⟨sx, h⟩ := RM_shaped r h
  obtain ⟨sy, h⟩ := RM_shaped r h
  exact ⟨x, y, rdD_ok r 8 d1 v1 x ex h1, rdD_ok r 8 d2 v2 y ey h2, sx, sy, RM.ret r h⟩

/-! ### comparisons -/
/-- a truth value comes out, as a value -/
def CP (X : Cx) (pins : List (Addr × Obj)) (σ : L2.St) (m : Mem) (ι : Map) (H : Hp) (P : Bool → Mem → Map → Hp → Prop) (u : Value) (s' : Shared) : Prop :=
  ∃ c, u = .bool c ∧ BP X pins σ m ι H P c s'
theorem eqF_V {K : Frag} {mg : Str → Option Value} {x y : D} {v u : V} (h1 : VR K mg ι H x v) (h2 : VR K mg ι H y u) (f1 : flatD x = true) (f2 : flatD y = true) : flatV v = true ∧ flatV u = true ∧ eqF x y = eqV v u := by
  cases h1 <;> first | (cases f1; done) | (cases h2 <;> first | (cases f2; done) | exact ⟨rfl, rfl, rfl⟩)
theorem flat_V {K : Frag} {mg : Str → Option Value} {x : D} {v : V} (h1 : VR K mg ι H x v) (f1 : flatD x = true) : flatV v = true := (eqF_V h1 h1 f1 f1).1
theorem any_V {K : Frag} {mg : Str → Option Value} {x : D} {v : V} (h1 : VR K mg ι H x v) (f1 : flatD x = true) : ∀ {ds : List D} {vs : List V}, VRs K mg ι H ds vs → ds.all flatD = true → vs.all flatV = true ∧ (ds.any fun y => eqF y x) = inV v vs
  | _, _, .nil, _ => ⟨rfl, rfl⟩
  | _, _, .cons h t, f => by
    simp only [List.all_cons, Bool.and_eq_true] at f
    obtain ⟨a1, a2⟩ := any_V h1 f1 t f.2
    obtain ⟨b1, b2, b3⟩ := eqF_V h h1 f.1 f1
    refine ⟨by simp [b1, a1], ?_⟩
    unfold inV at a2 ⊢
    rw [List.any_cons, List.any_cons, b3, a2]
theorem seq_of {d : D} {v : V} {β : Type} {f : List D → M β} {K : Frag} {mg : Str → Option Value} {W : XW} {P : β → Mem → Map → Hp → Prop} (r : HR K mg ι H m) (vr : VR K mg ι H d v) (h : RM K mg W (bind (itemsM d) f) m ι H P) :
    ∃ ds vs p, v = .ref p ∧ (SqL K H p vs ∨ SqT K H p vs) ∧ VRs K mg ι H ds vs ∧ RM K mg W (f ds) m ι H P := by
  cases vr with
  | tup sq t => exact ⟨_, _, _, rfl, .inr sq, t, RM.retB r h⟩
  | ref e =>
    obtain ⟨xs, hc, h⟩ := RM.seq r h
    obtain ⟨vs, sq, t⟩ := cell_seqL r e hc
    exact ⟨xs, vs, _, rfl, .inl sq, t, h⟩
  | _ => exact (RM.bad (RM.bind r h)).elim
theorem beq_bool {k k' : Bool} (h : k = k') : Value.bool k = .bool k' := by rw [h]
/-- what a dict tells at a key: cells with int and text keys -/
theorem kv_get {κ : Type} [DecidableEq κ] {K : Frag} {mg : Str → Option Value} {ks : List (κ × D)} {us : List (κ × V)} (h : KR K mg ι H ks us) (k : κ) :
    (∀ d, getA ks k = some d → ∃ v, valV us k = some v ∧ VR K mg ι H d v) ∧ (getA ks k = none → valV us k = none) := by
  induction h with
  | nil => exact ⟨fun d e => (by cases e), fun _ => rfl⟩
  | @cons q d v r t hv _ ih =>
    unfold getA valV at *
    by_cases e : q = k
    · subst e
      simp only [List.find?_cons, decide_true, Option.map_some]
      exact ⟨fun d' e' => by cases e'; exact ⟨_, rfl, hv⟩, fun e' => by cases e'⟩
    · simp only [List.find?_cons, decide_eq_false e]
      exact ih
theorem key_V {K : Frag} {mg : Str → Option Value} {d : D} {v : V} {q : Key} (h : VR K mg ι H d v) (e : keyD d = some q) : v = kV q := by
  cases h <;> first | (cases e; rfl) | cases e
theorem getA_some {κ : Type} [DecidableEq κ] {K : Frag} {mg : Str → Option Value} {ks : List (κ × D)} {us : List (κ × V)} (h : KR K mg ι H ks us) (k : κ) : (getA ks k).isSome = (valV us k).isSome := by
  obtain ⟨h1, h2⟩ := kv_get h k
  cases e : getA ks k with
  | none => rw [h2 e]; rfl
  | some d => obtain ⟨v, e', _⟩ := h1 d e; rw [e']; rfl
theorem cmp_ok {op : CmpOp} {d1 d2 : D} {v1 v2 : V} {u1 u2 : Value} {P : Bool → Mem → Map → Hp → Prop} (hu : X.A.units + 65 < cLine) (I : Inv X pins σ H s) (r : HR X.K X.mg ι H m) (h1 : VR X.K X.mg ι H d1 v1) (h2 : VR X.K X.mg ι H d2 v2)
    (q1 : RelV v1 u1) (q2 : RelV v2 u2) (h : XRM X W σ (cmpM Pg (trCp op) d1 d2) m ι H P) : wpAny (model X.prog X.w) X.A (compareOp op u1 u2) (CP X pins σ m ι H P) X.xe s := by
  have fin : ∀ {rr : R2}, OpR X (compareOp op) rr → rr v1 v2 H (fun v H' => H' = H ∧ ∃ c, v = .bl c ∧ P c m ι H) → wpAny (model X.prog X.w) X.A (compareOp op u1 u2) (CP X pins σ m ι H P) X.xe s :=
    fun ro hr => thn (ro pins s σ H v1 v2 u1 u2 _ I q1 q2 hr) fun u s1 ⟨v, H', I', q, eH, c, ec, p⟩ => by
      subst eH; subst ec; cases q
      exact ⟨c, rfl, m, ι, H', I', r, .refl, p⟩
  have one : ∀ {k : Bool}, P k m ι H → H = H ∧ ∃ c, V.bl k = .bl c ∧ P c m ι H := fun p => ⟨rfl, _, rfl, p⟩
  have inn : ∀ {neg : Bool}, XRM X W σ (bind (inM Pg d1 d2) fun c => ret (if neg then !c else c)) m ι H P →
      ((∃ i j, v1 = .str i ∧ v2 = .str j ∧ P (if neg then !(!(Builtin.Str.occurrences j i 0 j.length 1).isEmpty) else !(Builtin.Str.occurrences j i 0 j.length 1).isEmpty) m ι H) ∨
       (rIn X.K neg v1 v2 H (fun v H' => H' = H ∧ ∃ c, v = .bl c ∧ P c m ι H)) ∨ ∃ a o, v2 = .ref a ∧ DGet H a v1 o ∧ P (if neg then !o.isSome else o.isSome) m ι H) := by
    intro neg h
    have h := RM.bind r (RM.bind r h)
    have seq : ∀ {neg : Bool}, XRM X W σ (bind (itemsM d2) fun ds => if flatD d1 && ds.all flatD then ret (ds.any fun y => eqF y d1) else bad) m ι H (fun c m1 ι1 H1 => XRM X W σ (ret (if neg then !c else c)) m1 ι1 H1 P) →
        rIn X.K neg v1 v2 H (fun v H' => H' = H ∧ ∃ c, v = .bl c ∧ P c m ι H) := fun {neg} h => by
      obtain ⟨ds, vs, p, ev, sq, t, h⟩ := seq_of r h2 h
      split at h
      · rename_i hf
        simp only [Bool.and_eq_true] at hf
        obtain ⟨a1, a2⟩ := any_V h1 hf.1 t hf.2
        refine ⟨p, vs, ev, sq, flat_V h1 hf.1, a1, ?_⟩
        rw [← a2]
        exact one (RM.ret r (RM.ret r h))
      · exact (RM.bad h).elim
    have dct : ∀ {i : Nat} {a : Addr} {neg : Bool}, d2 = .ref i → v2 = .ref a → ι i = some a → (∃ kvs, m[i]? = some (.dct kvs)) → XRM X W σ (bind (dictGet Pg d2 d1) fun o => ret o.isSome) m ι H (fun c m1 ι1 H1 => XRM X W σ (ret (if neg then !c else c)) m1 ι1 H1 P) →
        ∃ a o, v2 = .ref a ∧ DGet H a v1 o ∧ P (if neg then !o.isSome else o.isSome) m ι H := by
      intro i a neg e1 e2 e3 ⟨kvs, hc⟩ h
      subst e1; subst e2
      obtain ⟨c, hc', h⟩ := RM.cell r (RM.bind r h)
      rw [hc] at hc'; cases hc'
      obtain ⟨q, eq, h⟩ := RM.optB r h
      obtain ⟨us, g, t⟩ := r.get hc e3
      refine ⟨a, valV us q, rfl, ?_, ?_⟩
      · rw [key_V h1 eq]; exact DGet.k g
      · rw [← getA_some t q]
        exact RM.ret r (RM.ret r (RM.ret r h))
    cases h2 with
    | con e => exact False.elim h
    | ref e =>
      obtain ⟨c, hc, h⟩ := RM.cell r h
      cases c with
      | dct kvs => exact .inr (.inr (dct rfl rfl e ⟨kvs, hc⟩ (RM.ret r h)))
      | dctT kvs => exact (RM.bad h).elim
      | _ =>
        have h := RM.ret r h
        refine .inr (.inl (seq ?_))
        cases d1 <;> exact h
    | str y =>
      have h := RM.ret r h
      cases h1 with
      | str x => exact .inl ⟨x, y, rfl, rfl, RM.ret r (RM.ret r h)⟩
      | _ => exact False.elim h
    | _ =>
      have h := RM.ret r h
      refine .inr (.inl (seq ?_))
      cases h1 <;> exact h
  cases op with
  | Eq =>
    have h' : XRM X W σ (bind (eqM d1 d2) fun c => ret c) m ι H P := by
      exact RM.of_eq (x := eqM d1 d2) (bind_ret (eqM d1 d2) m).symm h
    obtain ⟨x, y, e1, e2, s1, s2, h⟩ := eq_data r h1 h2 h'
    exact fin (op_eqD (by omega)) ⟨x, y, e1, e2, s1, s2, one (RM.ret r h)⟩
  | NotEq =>
    obtain ⟨x, y, e1, e2, s1, s2, h⟩ := eq_data r h1 h2 h
    exact fin (op_neD (by omega)) ⟨x, y, e1, e2, s1, s2, one (RM.ret r h)⟩
  | Lt =>
    cases h1 with
    | int i => cases h2 with
      | int j => exact fin op_lt ⟨i, j, rfl, rfl, one (RM.ret r h)⟩
      | _ => exact (RM.bad h).elim
    | str i => cases h2 with
      | str j => exact fin op_lt_str ⟨i, j, rfl, rfl, one (RM.ret r h)⟩
      | _ => exact (RM.bad h).elim
    | _ => exact (RM.bad h).elim
  | LtE =>
    cases h1 with
    | int i => cases h2 with
      | int j => exact fin op_le ⟨i, j, rfl, rfl, one (RM.ret r h)⟩
      | _ => exact (RM.bad h).elim
    | _ => exact (RM.bad h).elim
  | Gt =>
    cases h1 with
    | int i => cases h2 with
      | int j => exact fin op_gt ⟨i, j, rfl, rfl, one (RM.ret r h)⟩
      | _ => exact (RM.bad h).elim
    | _ => exact (RM.bad h).elim
  | GtE =>
    cases h1 with
    | int i => cases h2 with
      | int j => exact fin op_ge ⟨i, j, rfl, rfl, one (RM.ret r h)⟩
      | _ => exact (RM.bad h).elim
    | _ => exact (RM.bad h).elim
  | Is =>
    cases h2 with
    | non =>
      refine fin op_isN ⟨rfl, ?_⟩
      cases h1 <;> exact one (RM.ret r h)
    | _ => exact (RM.bad h).elim
  | IsNot =>
    cases h2 with
    | non =>
      refine fin op_notN ⟨rfl, ?_⟩
      cases h1 <;> exact one (RM.ret r h)
    | _ => exact (RM.bad h).elim
  | In =>
    have h' : XRM X W σ (bind (inM Pg d1 d2) fun c => ret (if false then !c else c)) m ι H P := by
      exact RM.of_eq (x := inM Pg d1 d2) (bind_ret (inM Pg d1 d2) m).symm h
    rcases inn h' with ⟨i, j, e1, e2, p⟩ | h | ⟨a, o, e, g, p⟩
    · exact fin op_in_str ⟨i, j, e1, e2, one p⟩
    · exact fin op_in_seq h
    · subst e
      obtain rfl : u2 = Value.ref a := q2
      exact d_in (by omega) I g q1 fun s' I' => ⟨_, rfl, m, ι, H, I', r, .refl, p⟩
  | NotIn =>
    have h' : XRM X W σ (bind (inM Pg d1 d2) fun c => ret (if true then !c else c)) m ι H P := h
    rcases inn h' with ⟨i, j, e1, e2, p⟩ | h | ⟨a, o, e, g, p⟩
    · exact fin op_notin_str ⟨i, j, e1, e2, one p⟩
    · exact fin op_notIn_seq h
    · subst e
      obtain rfl : u2 = Value.ref a := q2
      exact d_notIn (by omega) I g q1 fun s' I' => ⟨_, rfl, m, ι, H, I', r, .refl, p⟩
end
end Ev

/-! EvV: rules of expressions. -/
namespace Ev
open PySem L2 PySem.Spec PyProof.Rows
/-- values come out -/
def LP (X : Cx) (pins : List (Addr × Obj)) (σ : L2.St) (m : Mem) (ι : Map) (H : Hp) (P : List D → Mem → Map → Hp → Prop) (us : List Value) (s' : Shared) : Prop :=
  ∃ ds vs m' ι' H', Inv X pins σ H' s' ∧ Vals vs us ∧ HR X.K X.mg ι' H' m' ∧ VRs X.K X.mg ι' H' ds vs ∧ Step m ι H m' ι' H' ∧ P ds m' ι' H'
structure SEs (X : Cx) (W : WX) (es : List Expr) (f : Env → M (List D)) : Prop where
  run : ∀ (pos : Pos) (pins : List (Addr × Obj)) (s : Shared) (σ : L2.St) (H : Hp) (ρ : Env) (m : Mem) (ι : Map) (P : List D → Mem → Map → Hp → Prop), Inv X pins σ H s → HR X.K X.mg ι H m → ER X.K X.mg ι H ρ σ → XRM X W σ (f ρ) m ι H P →
    wpAny (model X.prog X.w) X.A (spliced (backTo pos (starEach es X.env))) (LP X pins σ m ι H P) X.xe s
def noStar : Expr → Bool
  | .Starred _ _ => false
  | _ => true
theorem star_cons {e : Expr} {es : List Expr} {env : PySem.Env} (h : noStar e = true) : starEach (e :: es) env = (false, eval e env) :: starEach es env := by
  cases e <;> first | (cases h; done) | rfl
section
variable {X : Cx} {W : WX} {pins : List (Addr × Obj)} {σ : L2.St} {s : Shared} {m m1 : Mem} {ι ι1 : Map} {H H1 : Hp} {ρ : Env} {a b c e : Expr} {es : List Expr} {fa fb fc : Env → M D} {fs : Env → M (List D)} {pos : Pos} {Pg : Prog}
theorem ses_nil : SEs X W [] (fun _ => ret []) := ⟨fun pos pins s σ H ρ m ι P I r er h => Calls.spliced_nil ⟨[], [], m, ι, H, I, .nil, r, .nil, .refl, RM.ret r h⟩⟩
theorem ses_cons (ha : SE X W a fa) (hs : SEs X W es fs) (hn : noStar a = true) : SEs X W (a :: es) (fun ρ => bind (fa ρ) fun d => bind (fs ρ) fun ds => ret (d :: ds)) := by
  refine ⟨fun pos pins s σ H ρ m ι P I r er h => ?_⟩
  rw [star_cons hn]
  show wpAny _ _ (spliced ((false, eval a X.env) :: backTo pos (starEach es X.env))) _ _ s
  refine Calls.spliced_cons (ha.then I r er h fun u1 s1 d1 v1 m1 ι1 H1 I1 q1 r1 er1 vr1 st1 h => ?_)
  refine thn (hs.run pos pins s1 σ H1 ρ m1 ι1 _ I1 r1 er1 (RM.bind r1 h)) fun us s2 ⟨ds, vs, m2, ι2, H2, I2, q2, r2, vr2, st2, p⟩ => ?_
  exact ⟨d1 :: ds, v1 :: vs, m2, ι2, H2, I2, .cons q1 q2, r2, .cons (vr1.step r1 st2) vr2, st1.trans r r1 st2, RM.ret r2 p⟩
/-- what a row of values is followed by -/
theorem SEs.then {β : Type} {f : Env → M (List D)} {g : List D → M β} {P : β → Mem → Map → Hp → Prop} {Q : List Value → Shared → Prop} {pos : Pos} (h : SEs X W es f) (I : Inv X pins σ H s) (r : HR X.K X.mg ι H m) (er : ER X.K X.mg ι H ρ σ) (hh : XRM X W σ (bind (f ρ) g) m ι H P)
    (k : ∀ us s1 ds vs m1 ι1 H1, Inv X pins σ H1 s1 → Vals vs us → HR X.K X.mg ι1 H1 m1 → ER X.K X.mg ι1 H1 ρ σ → VRs X.K X.mg ι1 H1 ds vs → Step m ι H m1 ι1 H1 → XRM X W σ (g ds) m1 ι1 H1 P → Q us s1) :
    wpAny (model X.prog X.w) X.A (spliced (backTo pos (starEach es X.env))) Q X.xe s :=
  thn (h.run pos pins s σ H ρ m ι _ I r er (RM.bind r hh)) fun us s1 ⟨ds, vs, m1, ι1, H1, I1, q, r1, vr, st, p⟩ => k us s1 ds vs m1 ι1 H1 I1 q r1 (er.step r st) vr st p

/-! ### displays -/
theorem laid_tup {xs : List V} {us : List Value} (I : Inv X pins σ H s) (r : Vals xs us) (z : xs.length ≤ sizeLine) :
    H s.heap.objs.size = none ∧ Inv X pins σ (upd H s.heap.objs.size (.tup xs)) { s with heap := s.heap.push { cls := .type "tuple", data := .seq us.toArray } } :=
  ⟨I.hok.fresh (Nat.le_refl _), I.laid (t' := s.toks) (fun b u e => Heap.get?_push_of_some _ e) (Nat.le_refl _) ⟨z, us, r, ⟨_, Heap.get?_push_size _ rfl, rfl, _, rfl⟩⟩⟩
theorem laid_lst {xs : List V} {us : List Value} (I : Inv X pins σ H s) (r : Vals xs us) (z : xs.length ≤ sizeLine) :
    H s.heap.objs.size = none ∧ Inv X pins σ (upd H s.heap.objs.size (.lst xs)) { s with heap := s.heap.push { cls := .type "list", data := .seq us.toArray } } :=
  ⟨I.hok.fresh (Nat.le_refl _), I.laid (t' := s.toks) (fun b u e => Heap.get?_push_of_some _ e) (Nat.le_refl _) ⟨z, us, 0, r, Heap.get?_push_size _ rfl⟩⟩
theorem se_tup {k : Nat} (h : SEs X W es fs) : SE X W (.Tuple es k pos) (fun ρ => bind (fs ρ) fun ds => if small ds.length then ret (.tup ds) else bad) := by
  refine ⟨fun pins s σ H ρ m ι P I r er hh => ?_⟩
  refine wpAny_Tuple_spliced (h.then I r er hh fun us s1 ds vs m1 ι1 H1 I1 q r1 er1 vr st h => ?_)
  split at h
  · rename_i hs
    have hz : vs.length ≤ sizeLine := by rw [← vr.length]; exact of_decide_eq_true hs
    obtain ⟨hf, I2⟩ := laid_tup I1 q hz
    refine ⟨by rw [← q.length]; exact hz, ?_⟩
    obtain ⟨d, m2, ι2, r2, vr2, st2, p⟩ := new_tup r1 vr hf h
    exact ⟨d, .ref s1.heap.objs.size, m2, ι2, _, I2, rfl, r2, vr2, st.trans r r1 st2, p⟩
  · exact (RM.bad h).elim
theorem se_lst (h : SEs X W es fs) : SE X W (.List es pos) (fun ρ => bind (fs ρ) fun ds => if small ds.length then alloc (.lst ds) else bad) := by
  refine ⟨fun pins s σ H ρ m ι P I r er hh => ?_⟩
  refine wpAny_List_spliced (h.then I r er hh fun us s1 ds vs m1 ι1 H1 I1 q r1 er1 vr st h => ?_)
  split at h
  · rename_i hs
    have hz : vs.length ≤ sizeLine := by rw [← vr.length]; exact of_decide_eq_true hs
    obtain ⟨hf, I2⟩ := laid_lst I1 q hz
    refine ⟨by rw [← q.length]; exact hz, ?_⟩
    obtain ⟨d, m2, ι2, r2, vr2, st2, p⟩ := new_list r1 vr hf h
    exact ⟨d, .ref s1.heap.objs.size, m2, ι2, _, I2, rfl, r2, vr2, st.trans r r1 st2, p⟩
  · exact (RM.bad h).elim

/-! ### comparisons, tests -/
theorem behind_ok {op : CmpOp} {b : Expr} (h : ∀ es k p, b ≠ .Set es k p) : behindInMarks op b = false := by
  cases b <;> first | rfl | exact (h _ _ _ rfl).elim
def noSet : Expr → Bool
  | .Set _ _ _ => false
  | _ => true
theorem noSet_ok {op : CmpOp} {b : Expr} (h : noSet b = true) : behindInMarks op b = false := by
  cases b <;> first | rfl | cases h
theorem CP.lift {P : Bool → Mem → Map → Hp → Prop} {u : Value} {s' : Shared} (r : HR X.K X.mg ι H m) (st : Step m ι H m1 ι1 H1) (r1 : HR X.K X.mg ι1 H1 m1) (h : CP X pins σ m1 ι1 H1 P u s') : CP X pins σ m ι H P u s' :=
  let ⟨c, e, b⟩ := h
  ⟨c, e, b.lift r st r1⟩
theorem CP.vp {P : D → Mem → Map → Hp → Prop} {u : Value} {s' : Shared} (r : HR X.K X.mg ι H m) (h : CP X pins σ m ι H (fun c m' ι' H' => XRM X W σ (ret (.bl c)) m' ι' H' P) u s') : VP X pins σ m ι H P u s' :=
  let ⟨c, e, m', ι', H', I, r', st, p⟩ := h
  ⟨.bl c, .bl c, m', ι', H', I, e, r', .bl c, st, RM.ret r' p⟩
theorem se_cmp {op : CmpOp} (hu : X.A.units + 65 < cLine) (ha : SE X W a fa) (hb : SE X W b fb) (hn : noSet b = true) :
    SE X W (.Compare a [op] [b] pos) (fun ρ => bind (fa ρ) fun x => bind (fb ρ) fun y => bind (cmpM Pg (trCp op) x y) fun c => ret (.bl c)) := by
  refine ⟨fun pins s σ H ρ m ι P I r er h => ?_⟩
  refine wpAny_Compare1 (ha.then I r er h fun u1 s1 d1 v1 m1 ι1 H1 I1 q1 r1 er1 vr1 st1 h => hb.then I1 r1 er1 h fun u2 s2 d2 v2 m2 ι2 H2 I2 q2 r2 er2 vr2 st2 h => ?_) (noSet_ok hn)
  refine thn (cmp_ok hu I2 r2 (vr1.step r1 st2) vr2 q1 q2 (RM.bind r2 h)) fun u s3 hq => ?_
  exact ((hq.vp r2).lift r1 st2 r2).lift r st1 r1
theorem st_cmp {op : CmpOp} (hu : X.A.units + 65 < cLine) (ha : SE X W a fa) (hb : SE X W b fb) (hn : noSet b = true) :
    ST X W (.Compare a [op] [b] pos) (fun ρ => bind (bind (fa ρ) fun x => bind (fb ρ) fun y => bind (cmpM Pg (trCp op) x y) fun c => ret (.bl c)) (truth Pg)) := by
  refine ⟨fun wh pins s σ H ρ m ι P _ I r er h => ?_⟩
  refine wpAny_isTrue_Compare1 (ha.then I r er (RM.bind r h) fun u1 s1 d1 v1 m1 ι1 H1 I1 q1 r1 er1 vr1 st1 h => hb.then I1 r1 er1 h fun u2 s2 d2 v2 m2 ι2 H2 I2 q2 r2 er2 vr2 st2 h => ?_) (noSet_ok hn)
  refine thn (cmp_ok hu I2 r2 (vr1.step r1 st2) vr2 q1 q2 (RM.bind r2 h)) fun u s3 ⟨c, e, m3, ι3, H3, I3, r3, st3, p⟩ => ?_
  subst e
  exact wpAny_truthy_bool ⟨m3, ι3, H3, I3, r3, (st1.trans r r1 (st2.trans r1 r2 st3)), RM.ret r3 (RM.ret r3 p)⟩
/-- any test, by its value's truth -/
theorem st_plain {f : Env → M D} (h : SE X W e f) (he : ∀ whole, isTrue e X.env whole = (do let v ← whole; standAt e.pos; holding [v] (truthy v))) : ST X W e (fun ρ => bind (f ρ) (truth Pg)) := by
  refine ⟨fun wh pins s σ H ρ m ι P hw I r er hh => ?_⟩
  subst hw
  refine isTrue_plain (h.then I r er hh fun u s1 d v m1 ι1 H1 I1 q r1 er1 vr st hh => ?_) (he _)
  exact thn (truth_ok I1 r1 vr q hh) fun c s2 hc => hc.lift r st r1

/-! ### not, -, and, or, if else -/
theorem se_not (ha : SE X W a fa) : SE X W (.UnaryOp .Not a pos) (fun ρ => bind (fa ρ) fun x => bind (truth Pg x) fun c => ret (.bl !c)) := by
  refine ⟨fun pins s σ H ρ m ι P I r er h => ?_⟩
  refine UnaryOp_ (ha.then I r er h fun u1 s1 d1 v1 m1 ι1 H1 I1 q1 r1 er1 vr1 st1 h => not_of ?_)
  exact thn (truth_ok I1 r1 vr1 q1 (RM.bind r1 h)) fun c s2 ⟨m2, ι2, H2, I2, r2, st2, p⟩ => ⟨.bl !c, .bl !c, m2, ι2, H2, I2, rfl, r2, .bl _, st1.trans r r1 st2, RM.ret r2 p⟩
theorem st_not {ft : Env → M Bool} (ha : ST X W a ft) : ST X W (.UnaryOp .Not a pos) (fun ρ => bind (ft ρ) fun c => ret !c) := by
  refine ⟨fun wh pins s σ H ρ m ι P _ I r er h => ?_⟩
  exact isTrue_not (ha.then I r er h fun c s1 m1 ι1 H1 I1 r1 er1 st1 h => ⟨m1, ι1, H1, I1, r1, st1, RM.ret r1 h⟩)
theorem se_neg (ha : SE X W a fa) : SE X W (.UnaryOp .USub a pos) (fun ρ => bind (fa ρ) fun x => match x with
    | .int i => ret (.int (-i))
    | _ => bad) := by
  refine ⟨fun pins s σ H ρ m ι P I r er h => ?_⟩
  refine UnaryOp_ (ha.then I r er h fun u1 s1 d1 v1 m1 ι1 H1 I1 q1 r1 er1 vr1 st1 h => ?_)
  cases vr1 with
  | int i =>
    refine thn (un_neg pins s1 σ H1 (.int i) u1 (fun v H' => H' = H1 ∧ v = .int (-i)) I1 q1 ⟨i, rfl, rfl, rfl⟩) fun u s2 ⟨v, H2, I2, q2, e1, e2⟩ => ?_
    subst e1; subst e2
    exact ⟨_, _, m1, ι1, H2, I2, q2, r1, .int _, st1, RM.ret r1 h⟩
  | _ => exact (RM.bad h).elim
theorem se_ite {ft : Env → M Bool} (hc : ST X W c ft) (ha : SE X W a fa) (hb : SE X W b fb) : SE X W (.IfExp c a b pos) (fun ρ => bind (ft ρ) fun r => if r then fa ρ else fb ρ) := by
  refine ⟨fun pins s σ H ρ m ι P I r er h => ?_⟩
  refine IfExp_ (hc.then I r er h fun t s1 m1 ι1 H1 I1 r1 er1 st1 h => ?_)
  cases t with
  | true => exact thn (ha.run pins s1 σ H1 ρ m1 ι1 P I1 r1 er1 h) fun u s2 hq => hq.lift r st1 r1
  | false => exact thn (hb.run pins s1 σ H1 ρ m1 ι1 P I1 r1 er1 h) fun u s2 hq => hq.lift r st1 r1
theorem st_ite {ft ga gb : Env → M Bool} (hc : ST X W c ft) (ha : ST X W a ga) (hb : ST X W b gb) : ST X W (.IfExp c a b pos) (fun ρ => bind (ft ρ) fun r => if r then ga ρ else gb ρ) := by
  refine ⟨fun wh pins s σ H ρ m ι P _ I r er h => ?_⟩
  refine isTrue_IfExp (hc.then I r er h fun t s1 m1 ι1 H1 I1 r1 er1 st1 h => ?_)
  cases t with
  | true => exact thn (ha.run _ pins s1 σ H1 ρ m1 ι1 P rfl I1 r1 er1 h) fun u s2 hq => hq.lift r st1 r1
  | false => exact thn (hb.run _ pins s1 σ H1 ρ m1 ι1 P rfl I1 r1 er1 h) fun u s2 hq => hq.lift r st1 r1
/-- and, or: the parts as values -/
inductive Parts (X : Cx) (W : WX) (Pg : Prog) : List Expr → List (Env → M D) → Prop where
  | nil : Parts X W Pg [] []
  | cons {e : Expr} {f : Env → M D} {es : List Expr} {fs : List (Env → M D)} : SE X W e f → ST X W e (fun ρ => bind (f ρ) (truth Pg)) → Parts X W Pg es fs → Parts X W Pg (e :: es) (f :: fs)
def andF (Pg : Prog) : List (Env → M D) → Env → M D
  | [], _ => bad
  | f :: r, ρ => bind (f ρ) fun x => if r.isEmpty then ret x else bind (truth Pg x) fun c => if c then andF Pg r ρ else ret x
def orF (Pg : Prog) : List (Env → M D) → Env → M D
  | [], _ => bad
  | f :: r, ρ => bind (f ρ) fun x => if r.isEmpty then ret x else bind (truth Pg x) fun c => if c then ret x else orF Pg r ρ
theorem bind_assoc' {α β γ : Type} (x : M α) (f : α → M β) (g : β → M γ) (m : Mem) : bind (bind x f) g m = bind x (fun a => bind (f a) g) m := by
  unfold bind
  cases x m <;> rfl
theorem bind_congr {α β : Type} (x : M α) {f g : α → M β} (h : ∀ a m, f a m = g a m) (m : Mem) : bind x f m = bind x g m := by
  unfold bind
  cases x m with
  | ok a m' => exact h a m'
  | _ => rfl
theorem se_and : ∀ {es : List Expr} {fs : List (Env → M D)}, Parts X W Pg es fs → es ≠ [] → SE X W (.BoolOp .And es pos) (andF Pg fs)
  | [], _, _, hn => absurd rfl hn
  | [e], _, .cons (f := f) h1 _ .nil, _ => ⟨fun pins s σ H ρ m ι P I r er h => by
      refine BoolOp_one (h1.run pins s σ H ρ m ι P I r er (RM.of_eq (y := f ρ) ?_ h))
      show bind (f ρ) (fun x => ret x) m = f ρ m
      exact bind_ret _ _⟩
  | e :: e2 :: es, _, .cons (f := f) h1 _ (.cons (f := f2) (fs := fs) h2 h3 t), _ => ⟨fun pins s σ H ρ m ι P I r er h => by
      have ih : SE X W (.BoolOp .And (e2 :: es) pos) (andF Pg (f2 :: fs)) := se_and (.cons h2 h3 t) (by simp)
      have h : XRM X W σ (bind (f ρ) fun x => bind (truth Pg x) fun c => if c then andF Pg (f2 :: fs) ρ else ret x) m ι H P := h
      refine BoolOp_and (h1.then I r er h fun u1 s1 d1 v1 m1 ι1 H1 I1 q1 r1 er1 vr1 st1 h => ?_)
      refine thn (truth_ok I1 r1 vr1 q1 (RM.bind r1 h)) fun c s2 ⟨m2, ι2, H2, I2, r2, st2, p⟩ => ?_
      cases c with
      | true => exact thn (ih.run pins s2 σ H2 ρ m2 ι2 P I2 r2 (er1.step r1 st2) p) fun u s3 hq => hq.lift r (st1.trans r r1 st2) r2
      | false => exact ⟨d1, v1, m2, ι2, H2, I2, q1, r2, vr1.step r1 st2, st1.trans r r1 st2, RM.ret r2 p⟩⟩
theorem se_or : ∀ {es : List Expr} {fs : List (Env → M D)}, Parts X W Pg es fs → es ≠ [] → SE X W (.BoolOp .Or es pos) (orF Pg fs)
  | [], _, _, hn => absurd rfl hn
  | [e], _, .cons (f := f) h1 _ .nil, _ => ⟨fun pins s σ H ρ m ι P I r er h => by
      refine BoolOp_one (h1.run pins s σ H ρ m ι P I r er (RM.of_eq (y := f ρ) ?_ h))
      show bind (f ρ) (fun x => ret x) m = f ρ m
      exact bind_ret _ _⟩
  | e :: e2 :: es, _, .cons (f := f) h1 _ (.cons (f := f2) (fs := fs) h2 h3 t), _ => ⟨fun pins s σ H ρ m ι P I r er h => by
      have ih : SE X W (.BoolOp .Or (e2 :: es) pos) (orF Pg (f2 :: fs)) := se_or (.cons h2 h3 t) (by simp)
      have h : XRM X W σ (bind (f ρ) fun x => bind (truth Pg x) fun c => if c then ret x else orF Pg (f2 :: fs) ρ) m ι H P := h
      refine BoolOp_or (h1.then I r er h fun u1 s1 d1 v1 m1 ι1 H1 I1 q1 r1 er1 vr1 st1 h => ?_)
      refine thn (truth_ok I1 r1 vr1 q1 (RM.bind r1 h)) fun c s2 ⟨m2, ι2, H2, I2, r2, st2, p⟩ => ?_
      cases c with
      | true => exact ⟨d1, v1, m2, ι2, H2, I2, q1, r2, vr1.step r1 st2, st1.trans r r1 st2, RM.ret r2 p⟩
      | false => exact thn (ih.run pins s2 σ H2 ρ m2 ι2 P I2 r2 (er1.step r1 st2) p) fun u s3 hq => hq.lift r (st1.trans r r1 st2) r2⟩
theorem st_and : ∀ {es : List Expr} {fs : List (Env → M D)}, Parts X W Pg es fs → es ≠ [] → ST X W (.BoolOp .And es pos) (fun ρ => bind (andF Pg fs ρ) (truth Pg))
  | [], _, _, hn => absurd rfl hn
  | [e], _, .cons (f := f) _ h1 .nil, _ => ⟨fun wh pins s σ H ρ m ι P _ I r er h => by
      have h : XRM X W σ (bind (bind (f ρ) (truth Pg)) ret) m ι H P := by
        refine RM.of_eq ?_ h
        rw [bind_ret]
        show bind (bind (f ρ) fun x => ret x) (truth Pg) m = _
        rw [bind_assoc']
        rfl
      refine isTrue_and (h1.then I r er h fun c s1 m1 ι1 H1 I1 r1 er1 st1 h => ?_)
      cases c with
      | true => exact isTrue_and_nil ⟨m1, ι1, H1, I1, r1, st1, RM.ret r1 h⟩
      | false => exact ⟨m1, ι1, H1, I1, r1, st1, RM.ret r1 h⟩⟩
  | e :: e2 :: es, _, .cons (f := f) _ h1 (.cons (f := f2) (fs := fs) h2 h3 t), _ => ⟨fun wh pins s σ H ρ m ι P _ I r er h => by
      have ih : ST X W (.BoolOp .And (e2 :: es) pos) (fun ρ => bind (andF Pg (f2 :: fs) ρ) (truth Pg)) := st_and (.cons h2 h3 t) (by simp)
      have h : XRM X W σ (bind (bind (f ρ) (truth Pg)) fun c => if c then bind (andF Pg (f2 :: fs) ρ) (truth Pg) else ret false) m ι H P := by
        refine RM.of_eq ?_ h
        show bind (bind (f ρ) fun x => bind (truth Pg x) fun c => if c then andF Pg (f2 :: fs) ρ else ret x) (truth Pg) m = _
        rw [bind_assoc', bind_assoc']
        refine bind_congr _ (fun x m' => ?_) m
        rw [bind_assoc']
        unfold bind
        rcases truth_det (Pg := Pg) x m' with q | ⟨c, q⟩
        · rw [q]
        · rw [q]
          cases c with
          | true => rfl
          | false => show truth Pg x m' = _; rw [q]; rfl
      refine isTrue_and (h1.then I r er h fun c s1 m1 ι1 H1 I1 r1 er1 st1 h => ?_)
      cases c with
      | true =>
        show wpAny _ _ (isTrue (.BoolOp .And (e2 :: es) pos) X.env (eval (.BoolOp .And (e2 :: es) pos) X.env)) _ _ _
        exact thn (ih.run _ pins s1 σ H1 ρ m1 ι1 P rfl I1 r1 er1 h) fun c s2 hq => hq.lift r st1 r1
      | false => exact ⟨m1, ι1, H1, I1, r1, st1, RM.ret r1 h⟩⟩
theorem st_or : ∀ {es : List Expr} {fs : List (Env → M D)}, Parts X W Pg es fs → es ≠ [] → ST X W (.BoolOp .Or es pos) (fun ρ => bind (orF Pg fs ρ) (truth Pg))
  | [], _, _, hn => absurd rfl hn
  | [e], _, .cons (f := f) _ h1 .nil, _ => ⟨fun wh pins s σ H ρ m ι P _ I r er h => by
      have h : XRM X W σ (bind (bind (f ρ) (truth Pg)) ret) m ι H P := by
        refine RM.of_eq ?_ h
        rw [bind_ret]
        show bind (bind (f ρ) fun x => ret x) (truth Pg) m = _
        rw [bind_assoc']
        rfl
      refine isTrue_or (h1.then I r er h fun c s1 m1 ι1 H1 I1 r1 er1 st1 h => ?_)
      cases c with
      | true => exact ⟨m1, ι1, H1, I1, r1, st1, RM.ret r1 h⟩
      | false => exact isTrue_or_nil ⟨m1, ι1, H1, I1, r1, st1, RM.ret r1 h⟩⟩
  | e :: e2 :: es, _, .cons (f := f) _ h1 (.cons (f := f2) (fs := fs) h2 h3 t), _ => ⟨fun wh pins s σ H ρ m ι P _ I r er h => by
      have ih : ST X W (.BoolOp .Or (e2 :: es) pos) (fun ρ => bind (orF Pg (f2 :: fs) ρ) (truth Pg)) := st_or (.cons h2 h3 t) (by simp)
      have h : XRM X W σ (bind (bind (f ρ) (truth Pg)) fun c => if c then ret true else bind (orF Pg (f2 :: fs) ρ) (truth Pg)) m ι H P := by
        refine RM.of_eq ?_ h
        show bind (bind (f ρ) fun x => bind (truth Pg x) fun c => if c then ret x else orF Pg (f2 :: fs) ρ) (truth Pg) m = _
        rw [bind_assoc', bind_assoc']
        refine bind_congr _ (fun x m' => ?_) m
        rw [bind_assoc']
        unfold bind
        rcases truth_det (Pg := Pg) x m' with q | ⟨c, q⟩
        · rw [q]
        · rw [q]
          cases c with
          | true => show truth Pg x m' = _; rw [q]; rfl
          | false => rfl
      refine isTrue_or (h1.then I r er h fun c s1 m1 ι1 H1 I1 r1 er1 st1 h => ?_)
      cases c with
      | true => exact ⟨m1, ι1, H1, I1, r1, st1, RM.ret r1 h⟩
      | false =>
        show wpAny _ _ (isTrue (.BoolOp .Or (e2 :: es) pos) X.env (eval (.BoolOp .Or (e2 :: es) pos) X.env)) _ _ _
        exact thn (ih.run _ pins s1 σ H1 ρ m1 ι1 P rfl I1 r1 er1 h) fun c s2 hq => hq.lift r st1 r1⟩
end
end Ev

/-! EvW: items, displays of dicts, built-ins. -/
namespace Ev
open PySem L2 PySem.Spec PyProof.Rows
section
variable {X : Cx} {W : WX} {pins : List (Addr × Obj)} {σ : L2.St} {s : Shared} {m m1 : Mem} {ι ι1 : Map} {H H1 : Hp} {ρ : Env} {a b c e : Expr} {es : List Expr} {fa fb fc : Env → M D} {fs : Env → M (List D)} {pos : Pos} {Pg : Prog}
/-! ### items -/
theorem VRs.atI {K : Frag} {mg : Str → Option Value} {ds : List D} {vs : List V} (h : VRs K mg ι H ds vs) {k : Int} {d : D} (e : L2.atI ds k = some d) : ∃ v, L2.atI vs k = some v ∧ VR K mg ι H d v := by
  unfold L2.atI at e ⊢
  rw [← h.length]
  cases q : ixN ds.length k with
  | none => rw [q] at e; cases e
  | some j =>
    rw [q] at e
    exact h.get e
/-- a value as the end of a walk by values -/
theorem ep_now {P : D → Mem → Map → Hp → Prop} {v : V} {u : Value} {s' : Shared} {d : D} (r : HR X.K X.mg ι H m) (vr : VR X.K X.mg ι H d v) (h : P d m ι H) (q : EP X pins σ (fun v' H' => v' = v ∧ H' = H) u s') : VP X pins σ m ι H P u s' := by
  obtain ⟨v', H', I, q, e1, e2⟩ := q
  subst e1; subst e2
  exact VP.now I r q vr h
theorem ix_ok {value slice : Expr} {d1 d2 : D} {v1 v2 : V} {u1 u2 : Value} {P : D → Mem → Map → Hp → Prop} (ht : ∀ x, Pg.tab x = none) (hu : X.A.units + 65 < cLine) (I : Inv X pins σ H s) (r : HR X.K X.mg ι H m) (h1 : VR X.K X.mg ι H d1 v1) (h2 : VR X.K X.mg ι H d2 v2)
    (q1 : RelV v1 u1) (q2 : RelV v2 u2) (hs : subscripted slice false u1 u2 = operate [u1, u2] (getItem u1 u2)) (h : XRM X W σ (ixM Pg d1 d2) m ι H P) : wpAny (model X.prog X.w) X.A (subscriptTail value slice u1 u2) (VP X pins σ m ι H P) X.xe s := by
  have fin : ∀ {rr : R2} {v : V} {d : D}, IxR X rr → VR X.K X.mg ι H d v → P d m ι H → rr v1 v2 H (fun v' H' => v' = v ∧ H' = H) → wpAny (model X.prog X.w) X.A (subscriptTail value slice u1 u2) (VP X pins σ m ι H P) X.xe s :=
    fun ro vr p hr => thn (ro value slice pins s σ H v1 v2 u1 u2 _ I q1 q2 hr hs) fun u s1 hq => ep_now r vr p hq
  have dct : ∀ {a : Addr} {v : V} {d : D}, v1 = .ref a → DGet H a v2 (some v) → VR X.K X.mg ι H d v → P d m ι H → wpAny (model X.prog X.w) X.A (subscriptTail value slice u1 u2) (VP X pins σ m ι H P) X.xe s := fun {a v d} e g vr p => by
    subst e
    obtain rfl : u1 = Value.ref a := q1
    exact tail_any (dict_typeIs I g) PySem.F.slot_dict_getitem.lookup (d_getItem (by omega) I g q2 fun w' s' I' q' => VP.now I' r q' vr p) hs
  unfold ixM at h
  split at h
  · obtain ⟨d, e, p⟩ := RM.opt r h
    cases h1 with
    | tup sq t =>
      cases h2
      obtain ⟨v, ev, vr⟩ := t.atI e
      exact fin ix_tup vr p ⟨_, _, _, _, rfl, rfl, sq, ev, rfl, rfl⟩
  · split at h
    · rename_i hz
      obtain ⟨d, e, p⟩ := RM.opt r h
      cases h1; cases h2
      obtain ⟨c, ec, ed⟩ := Option.map_eq_some_iff.mp e
      subst ed
      exact fin ix_str (.str _) p ⟨_, _, _, rfl, rfl, of_decide_eq_true hz, ec, rfl, rfl⟩
    · exact (RM.bad h).elim
  · cases h1 with
    | ref e =>
      obtain ⟨c, hc, h⟩ := RM.cell r h
      split at h
      · obtain ⟨d, ed, p⟩ := RM.opt r h
        cases h2
        obtain ⟨vs, sq, t⟩ := cell_seqL r e (.inl hc)
        obtain ⟨v, ev, vr⟩ := t.atI ed
        exact fin ix_list vr p ⟨_, _, _, _, rfl, rfl, sq, ev, rfl, rfl⟩
      · obtain ⟨d, ed, p⟩ := RM.opt r h
        cases h2
        obtain ⟨vs, sq, t⟩ := cell_seqL r e (.inr hc)
        obtain ⟨v, ev, vr⟩ := t.atI ed
        exact fin ix_list vr p ⟨_, _, _, _, rfl, rfl, sq, ev, rfl, rfl⟩
      · obtain ⟨q, eq, h⟩ := RM.optB r h
        obtain ⟨d, ed, p⟩ := RM.opt r h
        obtain ⟨us, g, t⟩ := r.get hc e
        obtain ⟨v, ev, vr⟩ := (kv_get t q).1 d ed
        refine dct rfl ?_ vr p
        rw [key_V h2 eq, ← ev]
        exact DGet.k g
      · exact (RM.bad h).elim
  · have h := RM.bind r h
    unfold tabGet at h
    rw [ht] at h
    exact (RM.bad h).elim
  · exact (RM.bad h).elim
theorem se_ix (ht : ∀ x, Pg.tab x = none) (hu : X.A.units + 65 < cLine) (ha : SE X W a fa) (hb : SE X W b fb) (hs : PlainIx b) : SE X W (.Subscript a b pos) (fun ρ => bind (fa ρ) fun x => bind (fb ρ) fun y => ixM Pg x y) := by
  refine ⟨fun pins s σ H ρ m ι P I r er h => ?_⟩
  refine Subscript_ (ha.then I r er h fun u1 s1 d1 v1 m1 ι1 H1 I1 q1 r1 er1 vr1 st1 h => hb.then I1 r1 er1 h fun u2 s2 d2 v2 m2 ι2 H2 I2 q2 r2 er2 vr2 st2 h => ?_)
  exact thn (ix_ok ht hu I2 r2 (vr1.step r1 st2) vr2 q1 q2 (hs _ _) h) fun u s3 hq => (hq.lift r1 st2 r2).lift r st1 r1

/-! ### slices -/
end
end Ev

/-! EvX: built-ins; what the written part says of the classes. -/
namespace Ev
open PySem L2 PySem.Spec PyProof.Rows
def kinds : List String := ["NoneType", "bool", "int", "str", "tuple", "list", "dict"]
/-- an exception class, as it stands written: what isinstance, attributes and __init__ ask -/
structure ExF (K : Frag) (C : Addr) : Prop where
  cl : (PySem.W.clsIn K C).isSome = true
  ga : PySem.W.findIn K (.ref C) "__getattribute__" = some (some (.builtin "BaseException.__getattribute__"))
  gt : PySem.W.findIn K (.ref C) "__getattr__" = some none
  sb : PySem.W.subIn K (.ref C) (.type "BaseException") = some true
  ca : PySem.W.findIn K (.ref C) "__class__" = some (some (.builtin "object.__class__"))
  cg : PySem.W.specialIn K (.builtin "object.__class__") "__get__" = some (some (.builtin "getset_descriptor.__get__"))
  ct : PySem.W.takesIn K (.builtin "object.__class__") = some true
  mo : PySem.W.mroIn K C (.type "object") = some true
  kp : PySem.W.keepIn K (.ref C) = true
  hd : PySem.W.hasDictIn K C = true
/-- the classes of the text -/
structure ClsF (K : Frag) (mg : Str → Option Value) (P : Prog) : Prop where
  tt : ∀ t ∈ kinds, ∀ n ∈ tyNames, PySem.W.kitOne K (.type t) (.type n) = some (subT t n)
  tc : ∀ t ∈ kinds, ∀ c C, P.isC c = true → mg c = some (.ref C) → PySem.W.kitOne K (.type t) (.ref C) = some false
  et : ∀ c C, P.isX c = true → mg c = some (.ref C) → ∀ n ∈ tyNames, PySem.W.kitOne K (.ref C) (.type n) = some (n == "ValueError")
  ec : ∀ c C d E, P.isX c = true → mg c = some (.ref C) → P.isC d = true → mg d = some (.ref E) → PySem.W.kitOne K (.ref C) (.ref E) = some (below P 3 c d)
  ex : ∀ c C, P.isX c = true → mg c = some (.ref C) → ExF K C
section
variable {X : Cx} {W : WX} {pins : List (Addr × Obj)} {σ : L2.St} {s : Shared} {m m1 : Mem} {ι ι1 : Map} {H H1 : Hp} {ρ : Env} {a b c e : Expr} {es : List Expr} {fa fb fc : Env → M D} {fs : Env → M (List D)} {pos : Pos} {Pg : Prog}
theorem exv_at {P : Program} {w : World} {h : Heap} {a C : Addr} {d : Option Addr} (hok : HOk P w H h) (he : H a = some (exv a C d)) : exvP a C d h := by
  have x : ObjOk P w H h a (.ext (exvP a C d)) := hok a _ he
  exact x.1
/-- the instance of an exception that stands -/
theorem exc_inst {a C : Addr} (I : Inv X pins σ H s) (he : H a = some (exv a C none)) : ∃ oe, PySem.W.InstAt s.heap a oe C none := by
  obtain ⟨oe, vs, h1, h2, h3, h4⟩ := exv_at I.hok he
  refine ⟨oe, h1, h2, ?_, ?_⟩
  · unfold PySem.W.notCls; rw [h4]
  · rw [h3]; trivial
theorem exc_instF {a C d : Addr} {fs : List (Str × V)} (I : Inv X pins σ H s) (he : H a = some (exv a C (some d))) (hd : H d = some (.xd fs)) :
    ∃ oe od mA, PySem.W.InstAt s.heap a oe C (some od) ∧ s.heap.get? d = some od ∧ s.heap.Ns1 d mA ∧ ∀ f, RelO (fs.lookup f) (mA f) := by
  obtain ⟨oe, vs, h1, h2, h3, h4⟩ := exv_at I.hok he
  have hx : ObjOk X.prog X.w H s.heap d (.xd fs) := I.hok d _ hd
  obtain ⟨mA, hn, rl⟩ := hx
  obtain ⟨od, es, ep, g1, g2⟩ := hn
  refine ⟨oe, od, mA, ⟨h1, h2, ?_, ?_⟩, g1, ⟨od, es, ep, g1, g2⟩, rl⟩
  · unfold PySem.W.notCls; rw [h4]
  · rw [h3]; exact g1
theorem tyD_mem {m : Mem} {d : D} {t : String} (h : tyD m d = some t) : t ∈ kinds := by
  unfold tyD at h
  split at h <;> first
    | (cases h; decide)
    | (split at h <;> first | (cases h; decide) | cases h)
    | cases h
theorem tyD_ok {d : D} {v : V} {t : String} (r : HR X.K X.mg ι H m) (vr : VR X.K X.mg ι H d v) (h : tyD m d = some t) : TyX X.K H v (.type t) := by
  cases vr with
  | non => cases h; exact .base .non
  | bl b => cases h; exact .base (.bl _)
  | int i => cases h; exact .base (.int _)
  | str x => cases h; exact .base (.str _)
  | tup sq t =>
    cases h
    rcases sq with (sq | ⟨o, sq⟩) | ⟨o, its, n, h1, h2, _⟩
    · exact .base (.tup sq)
    · exact .fTuple sq
    · exact .kTuple h1 h2
  | ref e =>
    unfold tyD at h
    dsimp only at h
    split at h
    · rename_i hc; cases h
      obtain ⟨vs, g, _⟩ := r.get hc e
      exact .base (.lst g)
    · rename_i hc; cases h
      obtain ⟨vs, g, _⟩ := r.get hc e
      exact .base (.dK g)
    · rename_i hc; cases h
      obtain ⟨vs, g, _⟩ := r.get hc e
      exact .base (.dT g)
    · cases h
  | _ => cases h
/-- what isinstance asks of a value -/
theorem kit_D (F : ClsF X.K X.mg Pg) {d : D} {v : V} {u : Value} (I : Inv X pins σ H s) (r : HR X.K X.mg ι H m) (vr : VR X.K X.mg ι H d v) (q : RelV v u) :
    (∃ c b, isa Pg m d c = some b) → ∃ t P, PySem.W.KitX X.K u t P ∧ P s.heap ∧ u ≠ .builtin "__main__.__loader__#opaque" ∧ ∀ c cv cu b, isa Pg m d c = some b → VR X.K X.mg ι H c cv → RelV cv cu → PySem.W.kitOne X.K t cu = some b := by
  rintro ⟨c0, b0, h0⟩
  have base : ∀ {t : String}, tyD m d = some t → (∀ x fs, d ≠ .exc x fs) → ∃ t P, PySem.W.KitX X.K u t P ∧ P s.heap ∧ u ≠ .builtin "__main__.__loader__#opaque" ∧ ∀ c cv cu b, isa Pg m d c = some b → VR X.K X.mg ι H c cv → RelV cv cu → PySem.W.kitOne X.K t cu = some b := fun {t} ht hne => by
    obtain ⟨P, Z, p, hx⟩ := kit_of I q (tyD_ok r vr ht)
    refine ⟨_, P, Z, p, hx, fun c cv cu b hb hc qc => ?_⟩
    unfold isa at hb
    split at hb
    · rename_i n
      cases hc
      obtain rfl : cu = Value.type n := qc
      split at hb
      · rename_i hn
        split at hb
        · rename_i x fs; exact absurd rfl (hne x fs)
        · rw [ht] at hb
          cases hb
          exact F.tt t (tyD_mem ht) n (List.contains_iff_mem.mp hn)
      · cases hb
    · rename_i x
      cases hc with
      | cls hm =>
      obtain rfl : cu = _ := qc
      split at hb
      · rename_i hn
        split at hb
        · rename_i x fs; exact absurd rfl (hne x fs)
        · rw [ht] at hb
          cases hb
          exact F.tc t (tyD_mem ht) _ _ hn hm
      · cases hb
    · cases hb
  have exc : ∀ {x : Str} {fs : List (Str × D)} {a C : Addr} {oe : Obj} {od : Option Obj}, d = .exc x fs → v = .ref a → X.mg x = some (.ref C) → PySem.W.InstAt s.heap a oe C od →
      ∃ t P, PySem.W.KitX X.K u t P ∧ P s.heap ∧ u ≠ .builtin "__main__.__loader__#opaque" ∧ ∀ c cv cu b, isa Pg m d c = some b → VR X.K X.mg ι H c cv → RelV cv cu → PySem.W.kitOne X.K t cu = some b := by
    intro x fs a C oe od ed ev hm hi
    subst ed; subst ev
    obtain rfl : u = Value.ref a := q
    have hX : Pg.isX x = true := by
      unfold isa at h0
      split at h0
      · split at h0
        · dsimp only at h0
          split at h0
          · rename_i hh; exact hh
          · cases h0
        · cases h0
      · split at h0
        · dsimp only at h0
          split at h0
          · rename_i hh; exact hh
          · cases h0
        · cases h0
      · cases h0
    have ef := F.ex x C hX hm
    refine ⟨.ref C, _, PySem.W.kitx_exc ef.cl ef.ga ef.gt ef.sb ef.ca ef.cg ef.ct ef.mo, hi, (fun z => nomatch z), fun c cv cu b hb hc qc => ?_⟩
    unfold isa at hb
    split at hb
    · rename_i n
      cases hc
      obtain rfl : cu = Value.type n := qc
      split at hb
      · rename_i hn
        dsimp only at hb
        rw [if_pos hX] at hb
        cases hb
        exact F.et x C hX hm n (List.contains_iff_mem.mp hn)
      · cases hb
    · cases hc with
      | cls hm2 =>
      obtain rfl : cu = _ := qc
      split at hb
      · rename_i hn
        dsimp only at hb
        rw [if_pos hX] at hb
        cases hb
        exact F.ec x C _ _ hX hm hn hm2
      · cases hb
    · cases hb
  have none_ : (tyD m d = none) → (∀ x fs, d ≠ .exc x fs) → False := fun hn hne => by
    unfold isa at h0
    split at h0
    · split at h0
      · split at h0
        · rename_i x fs; exact hne x fs rfl
        · rw [hn] at h0; cases h0
      · cases h0
    · split at h0
      · split at h0
        · rename_i x fs; exact hne x fs rfl
        · rw [hn] at h0; cases h0
      · cases h0
    · cases h0
  cases vr with
  | exc0 hm he =>
    obtain ⟨oe, hi⟩ := exc_inst I he
    exact exc rfl rfl hm hi
  | excF hm he hd _ =>
    obtain ⟨oe, od, mA, hi, _⟩ := exc_instF I he hd
    exact exc rfl rfl hm hi
  | ref e =>
    cases ht : tyD m (.ref _) with
    | some t => exact base ht fun _ _ z => nomatch z
    | none => exact (none_ ht fun _ _ z => nomatch z).elim
  | fn e => exact (none_ rfl fun _ _ z => nomatch z).elim
  | cls e => exact (none_ rfl fun _ _ z => nomatch z).elim
  | ty e => exact (none_ rfl fun _ _ z => nomatch z).elim
  | con e => exact (none_ rfl fun _ _ z => nomatch z).elim
  | non => exact base rfl fun _ _ z => nomatch z
  | bl => exact base rfl fun _ _ z => nomatch z
  | int => exact base rfl fun _ _ z => nomatch z
  | str => exact base rfl fun _ _ z => nomatch z
  | tup _ _ => exact base rfl fun _ _ z => nomatch z
theorem isas_ok {t : Value} {d : D} : ∀ {cs : List D} {cvs : List V} {cus : List Value} {b : Bool}, isas Pg m d cs = some b → VRs X.K X.mg ι H cs cvs → Vals cvs cus →
    (∀ c cv cu b, isa Pg m d c = some b → VR X.K X.mg ι H c cv → RelV cv cu → PySem.W.kitOne X.K t cu = some b) → PySem.W.kitAny X.K t cus = some b
  | [], _, _, b, h, .nil, .nil, _ => by cases h
  | c :: cs, _, _, b, h, .cons h1 ht, .cons q1 qt, k => by
    unfold isas at h
    unfold PySem.W.kitAny
    split at h
    · rename_i e
      cases h
      rw [k _ _ _ _ e h1 q1]
    · rename_i e
      rw [k _ _ _ _ e h1 q1]
      dsimp only
      split at h
      · rename_i e2
        cases h
        cases cs with
        | nil => cases ht; cases qt; rfl
        | cons => cases e2
      · exact isas_ok h ht qt k
    · cases h
end
end Ev

/-! EvY: calls of built-ins; attributes. -/
namespace Ev
open PySem L2 PySem.Spec PyProof.Rows
/-- what a built-in of ours is in the model -/
def fvB : B → Option Value
  | .len => some (.builtin "len")
  | .abs => some (.builtin "abs")
  | .int => some (.type "int")
  | .isinstance => some (.builtin "isinstance")
  | _ => none
section
variable {X : Cx} {W : WX} {pins : List (Addr × Obj)} {σ : L2.St} {s : Shared} {m m1 : Mem} {ι ι1 : Map} {H H1 : Hp} {ρ : Env} {a b c e : Expr} {es : List Expr} {fa fb fc : Env → M D} {fs : Env → M (List D)} {pos : Pos} {Pg : Prog}
theorem callR_vp {f : Value} {rr : List V → Hp → VK → Prop} {vs : List V} {us : List Value} {P : D → Mem → Map → Hp → Prop} {d : D} {v : V} (hc : CallR X f rr) (I : Inv X pins σ H s) (r : HR X.K X.mg ι H m) (q : Vals vs us)
    (h : rr vs H (fun v' H' => v' = v ∧ H' = H)) (vr : VR X.K X.mg ι H d v) (p : P d m ι H) : wpAny (model X.prog X.w) X.A (call f us) (VP X pins σ m ι H P) X.xe s :=
  thn (hc pins s σ H vs us _ I q h) fun u s1 hq => ep_now r vr p hq
theorem VRs.one {K : Frag} {mg : Str → Option Value} {d : D} {vs : List V} {us : List Value} (h : VRs K mg ι H [d] vs) (q : Vals vs us) : ∃ v u, vs = [v] ∧ us = [u] ∧ VR K mg ι H d v ∧ RelV v u := by
  cases h with
  | cons h t =>
    cases t
    cases q with
    | cons q t => cases t; exact ⟨_, _, rfl, rfl, h, q⟩
theorem VRs.two {K : Frag} {mg : Str → Option Value} {d d' : D} {vs : List V} {us : List Value} (h : VRs K mg ι H [d, d'] vs) (q : Vals vs us) : ∃ v u v' u', vs = [v, v'] ∧ us = [u, u'] ∧ VR K mg ι H d v ∧ RelV v u ∧ VR K mg ι H d' v' ∧ RelV v' u' := by
  cases h with
  | cons h t =>
    cases q with
    | cons q t2 =>
      obtain ⟨v, u, rfl, rfl, h2, q2⟩ := VRs.one t t2
      exact ⟨_, _, _, _, rfl, rfl, h, q, h2, q2⟩
theorem isas_some {d c : D} {cs : List D} {b : Bool} (e : isas Pg m d (c :: cs) = some b) : ∃ c b, isa Pg m d c = some b := by
  unfold isas at e
  split at e
  · rename_i e1; exact ⟨_, _, e1⟩
  · rename_i e1; exact ⟨_, _, e1⟩
  · cases e
theorem isT_obj {h : Heap} {a : Addr} {us : List Value} (ht : IsTup h a us.toArray) : ∃ (dd : Option Addr) (n : Nat) (sl : Array (Option Value)), h.get? a = some ⟨.type "tuple", dd, .seq us.toArray n, sl⟩ := by
  obtain ⟨o, h1, h2, n, h3⟩ := ht
  obtain ⟨oc, od, dt, sl⟩ := o
  simp only at h2 h3
  subst h2 h3
  exact ⟨_, _, _, h1⟩
theorem bi_ok {b : B} {f : Value} {ds : List D} {vs : List V} {us : List Value} {P : D → Mem → Map → Hp → Prop} (F : ClsF X.K X.mg Pg) (hf : fvB b = some f) (I : Inv X pins σ H s) (r : HR X.K X.mg ι H m) (vr : VRs X.K X.mg ι H ds vs) (q : Vals vs us)
    (h : XRM X W σ (biM Pg b ds) m ι H P) : wpAny (model X.prog X.w) X.A (call f us) (VP X pins σ m ι H P) X.xe s := by
  unfold biM at h
  split at h
  · cases hf
    obtain ⟨v1, u1, rfl, rfl, h1, q1⟩ := VRs.one vr q
    unfold lenM at h
    split at h
    · cases h1
      split at h
      · rename_i hz
        exact callR_vp call_len I r (.cons q1 .nil) ⟨_, _, rfl, ⟨of_decide_eq_true hz, rfl⟩, rfl, rfl⟩ (.int _) (RM.ret r h)
      · exact (RM.bad h).elim
    · cases h1 with
      | tup sq t =>
        refine callR_vp call_len I r (.cons q1 .nil) ⟨_, _, rfl, .inr ⟨_, sq, rfl⟩, rfl, rfl⟩ (d := .int _) ?_ (RM.ret r h)
        rw [← t.length]; exact .int _
    · cases h1 with
      | ref e =>
        obtain ⟨c, hc, h⟩ := RM.cell r h
        split at h
        · obtain ⟨vs, sq, t⟩ := cell_seqL r e (.inl hc)
          refine callR_vp call_len I r (.cons q1 .nil) ⟨_, _, rfl, .inl ⟨_, sq, rfl⟩, rfl, rfl⟩ (d := .int _) ?_ (RM.ret r h)
          rw [← t.length]; exact .int _
        · obtain ⟨vs, sq, t⟩ := cell_seqL r e (.inr hc)
          refine callR_vp call_len I r (.cons q1 .nil) ⟨_, _, rfl, .inl ⟨_, sq, rfl⟩, rfl, rfl⟩ (d := .int _) ?_ (RM.ret r h)
          rw [← t.length]; exact .int _
        · obtain ⟨us, g, t⟩ := r.get hc e
          refine callR_vp call_lenD I r (.cons q1 .nil) ⟨_, _, rfl, g, rfl, rfl⟩ (d := .int _) ?_ (RM.ret r h)
          have : ∀ {κ : Type} {ks : List (κ × D)} {us : List (κ × V)}, KR X.K X.mg ι H ks us → ks.length = us.length := fun h => by induction h <;> simp_all
          rw [← this t]; exact .int _
        · exact (RM.bad h).elim
    · exact (RM.bad h).elim
  · cases hf
    obtain ⟨v1, u1, rfl, rfl, h1, q1⟩ := VRs.one vr q
    cases h1
    exact callR_vp call_abs I r (.cons q1 .nil) ⟨_, rfl, rfl, rfl⟩ (.int _) (RM.ret r h)
  · cases hf
    obtain ⟨v1, u1, rfl, rfl, h1, q1⟩ := VRs.one vr q
    cases h1
    exact callR_vp call_int1 I r (.cons q1 .nil) (.inl ⟨_, rfl, rfl, rfl⟩) (.int _) (RM.ret r h)
  · cases hf
    obtain ⟨v1, u1, rfl, rfl, h1, q1⟩ := VRs.one vr q
    cases h1
    exact callR_vp call_int1 I r (.cons q1 .nil) (.inr ⟨_, rfl, rfl, rfl⟩) (.int _) (RM.ret r h)
  · cases hf
    obtain ⟨v1, u1, v2, u2, rfl, rfl, h1, q1, h2, q2⟩ := VRs.two vr q
    obtain ⟨b, e, p⟩ := RM.ask r (RM.bind r h)
    cases h2 with
    | tup sq t =>
    obtain rfl : _ = Value.ref _ := q2
    obtain ⟨cus, rc, ht, _⟩ := I.tuple sq
    obtain ⟨dd, n, sl, hg⟩ := isT_obj ht
    cases t with
    | nil => cases e
    | cons hc t =>
      obtain ⟨t', P', Z, p', hx, k⟩ := kit_D F I r h1 q1 (isas_some e)
      exact PySem.W.kia_tup Z I.kIn p' hg (isas_ok e (.cons hc t) rc k) hx fun tk => ⟨.bl b, .bl b, m, ι, H, I.tok tk, rfl, r, .bl b, .refl, RM.ret r p⟩
  · cases hf
    obtain ⟨v1, u1, v2, u2, rfl, rfl, h1, q1, h2, q2⟩ := VRs.two vr q
    obtain ⟨b, e, p⟩ := RM.ask r (RM.bind r h)
    obtain ⟨t', P', Z, p', hx, k⟩ := kit_D F I r h1 q1 ⟨_, _, e⟩
    exact PySem.W.kia_one Z I.kIn p' (k _ _ _ _ e h2 q2) hx fun tk => ⟨.bl b, .bl b, m, ι, H, I.tok tk, rfl, r, .bl b, .refl, RM.ret r p⟩
  · exact (RM.bad h).elim
end
end Ev

/-! EvK: an own exception class with its own __init__ is called, with keywords too. -/
namespace EvK
open PySem PySem.Spec PySem.Calls PySem.HandSPX
section
variable {prog : Program} {w : World} {A : Around} {E : Value → Shared → Prop} {R : Result → Shared → Prop} {h : Heap} {g : Array GenState} {d : Drawn} {t : Nat} {os : OsState}
variable {nm q : Str} {C N : Addr} {bs bm bmB : List Value} {hdct : Bool} {sn : List Str} {sub : List Value} {ab : Bool} {col : Option Bool} {dd : Option Addr} {k0 k1 k2 k3 k5 : Option Value} {B newId initId : String} {kw : List (Str × Value)} {rest : List Value}
/-- what stands of the class -/
abbrev Std (h : Heap) (nm q : Str) (C N : Addr) (bs bm : List Value) (hdct : Bool) (sn : List Str) (sub : List Value) (ab : Bool) (col : Option Bool) (dd : Option Addr) (k0 k1 k2 k3 k5 : Option Value) (newId : String) : Prop :=
  h.get? C = some (excClassObj nm q C N bs bm hdct sn sub ab col dd k0 k1 k2 k3 k5 newId)
theorem checkNew {M : Model} (F : ExcBaseFacts B newId initId bmB) (hT : ∀ Y : String, bm.contains (.type Y) = bmB.contains (.type Y)) {Q : Unit → Shared → Prop}
    (hC : Std h nm q C N bs bm hdct sn sub ab col dd k0 k1 k2 k3 k5 newId) (hq : Q () ⟨h, g, d, t, os⟩) : wpAny M A (checkBuiltinCall newId ⟨.ref C :: rest, kw⟩) Q E ⟨h, g, d, t, os⟩ := by
  have in1 : (Value.ref C :: bm).contains (.type B) = true := by rw [List.contains_cons, hT, F.hasB, Bool.or_true]
  have st := F.noStar
  simp only [checkBuiltinCall, F.newKind, F.newSplit, F.newRow]
  repeat (first
    | refine wpAny_loadPart_at hC ?_
    | (refine wpAny_isSubtype_exc hC ?_; rw [in1])
    | refine wpAny_staticBase_exc hC ?_
    | refine wpAny_madeBy_exc hC ?_
    | simp only [bne_self_eq_false, Bool.false_eq_true, if_false]
    | wp_step)
  exact hq
theorem newK (F : ExcBaseFacts B newId initId bmB) (hT : ∀ Y : String, bm.contains (.type Y) = bmB.contains (.type Y)) (hC : Std h nm q C N bs bm hdct sn sub ab col dd k0 k1 k2 k3 k5 newId)
    (hq : R (.ok (.ret (.ref (h.objs.size + 1)))) ⟨(h.push { cls := .type "tuple", data := .seq rest.toArray }).push { cls := .ref C, data := .fields #[.ref h.objs.size, .none, .none, .none, .bool false, .none] }, g, d, t, os⟩)
    (hr : rest.length ≤ sizeLine) : codeAny (model prog w) A (.builtin newId ⟨.ref C :: rest, kw⟩) R ⟨h, g, d, t, os⟩ := by
  have ends := F.ends
  have in1 : (Value.ref C :: bm).contains (.type B) = true := by rw [List.contains_cons, hT, F.hasB, Bool.or_true]
  have in2 : (Value.ref C :: bm).contains (.type "AttributeError") = false := by rw [List.contains_cons, hT, F.noAttr]; rfl
  have in3 : (Value.ref C :: bm).contains (.type "NameError") = false := by rw [List.contains_cons, hT, F.noName]; rfl
  refine codeAny_builtinAt F.entry ?_
  unfold Builtin.«BaseException.__new__»
  refine wpAt_bind ?_
  show wpAt _ _ _ (stack >>= _) _ _ _
  refine wpAt_bind (wpAt_stack fun p below => wpAt_of_wpAny ?_)
  wp_walk
  refine wpAt_of_wpAny ?_
  rw [F.owner]
  repeat (first
    | with_reducible refine wpAny_madeHere_exc F.canon hC ?_
    | with_reducible refine wpAny_loadPart_at hC ?_
    | (with_reducible refine wpAny_isSubtype_exc hC ?_; first | rw [in1] | rw [in2] | rw [in3])
    | wp_step)
  show R _ _
  rw [Heap.size_push]
  exact hq
/-- type.__call__, with keywords -/
theorem typeCallK {fI : Addr} {Q : Fin → Shared → Prop} (F : ExcBaseFacts B newId initId bmB) (hT : ∀ Y : String, bm.contains (.type Y) = bmB.contains (.type Y)) (hC : Std h nm q C N bs bm hdct sn sub ab col dd k0 k1 k2 k3 k5 newId)
    (hi : W.Looks (model prog w) h (typeLookup (.ref C) "__init__") (some (.ref fI))) (hb : ∀ self, W.Looks (model prog w) h (bindSpecial (.ref fI) self) (.ref fI, [self])) (hr : rest.length ≤ sizeLine)
    (hq : codeAny (model prog w) A (.call (.ref fI) ⟨.ref (h.objs.size + 1) :: rest, kw⟩)
      (fun r s' => match r with
        | .ok (.ret v) => v = .none ∧ Q (.done (.ret (.ref (h.objs.size + 1)))) s'
        | .ok _ => False
        | .error e => E e s') ⟨(h.push (W.kdv_tup rest)).push (excO C h.objs.size), g, d, t, os⟩) :
    wpAny (model prog w) A (Builtin.«type.__call__» ⟨.ref C :: rest, kw⟩) Q E ⟨h, g, d, t, os⟩ := by
  repeat (first
    | with_reducible refine wpAny_loadPart_at hC ?_
    | with_reducible refine wpAny_madeBy_exc hC ?_
    | wp_step)
  refine codeAny_call_builtin_code (Code.quiet_builtin _ F.quiet) (checkNew F hT hC ?_)
  refine newK F hT hC ?_ hr
  show wpAny _ _ _ _ _ _
  have kp : ∀ b o, h.get? b = some o → ((h.push (W.kdv_tup rest)).push (excO C h.objs.size)).get? b = some o := fun b o e => Heap.get?_push_of_some _ (Heap.get?_push_of_some _ e)
  have hC1 := kp _ _ hC
  have hg : ((h.push (W.kdv_tup rest)).push (excO C h.objs.size)).get? (h.objs.size + 1) = some (excO C h.objs.size) := by heap_get
  have inC : (Value.ref C :: bm).contains (.ref C) = true := by simp
  have j1 := hi.keeps kp
  have j2 := (hb (.ref (h.objs.size + 1))).keeps kp
  unfold isInstance
  repeat (first
    | with_reducible refine wpAny_loadPart_at hg ?_
    | (with_reducible refine wpAny_isSubtype_exc hC1 ?_; rw [inC])
    | wp_step)
  show wpAny _ _ (typeLookup (.ref C) _) _ _ _
  refine j1.at ?_
  refine wpAny_holding (wpAny_bind (j2.at ?_))
  refine wpAny_bind (wpAny_call (codeAny_mono hq fun r s' z => ?_))
  rcases r with e | (v | _ | _ | _) <;> first
    | exact z
    | exact z.elim
    | skip
  obtain ⟨rfl, z⟩ := z
  first
    | exact wpAny_pure (wpAny_pure z)
    | (wp_walk; exact z)
theorem callK (F : ExcBaseFacts B newId initId bmB) (hT : ∀ Y : String, bm.contains (.type Y) = bmB.contains (.type Y)) {fI : Addr} (hC : Std h nm q C N bs bm hdct sn sub ab col dd k0 k1 k2 k3 k5 newId)
    (hi : W.Looks (model prog w) h (typeLookup (.ref C) "__init__") (some (.ref fI))) (hb : ∀ self, W.Looks (model prog w) h (bindSpecial (.ref fI) self) (.ref fI, [self])) (hr : rest.length ≤ sizeLine)
    (hq : codeAny (model prog w) (A.under (.builtin "type.__call__" ⟨.ref C :: rest, kw⟩)) (.call (.ref fI) ⟨.ref (h.objs.size + 1) :: rest, kw⟩) (W.InitBack (h.objs.size + 1) R)
      ⟨(h.push (W.kdv_tup rest)).push (excO C h.objs.size), g, d, t, os⟩) : codeAny (model prog w) A (.call (.ref C) ⟨rest, kw⟩) R ⟨h, g, d, t, os⟩ := by
  have f1 := tc_lookup
  have f2 := tc_bind (.ref C)
  have hTy : (⟨h, g, d, t, os⟩ : Shared).TypeIs (.ref C) "type" := ⟨_, hC, rfl⟩
  refine codeAny_of_tree ?_
  show wpAny _ _ (callAny (.ref C) _) _ _ _
  repeat (any_goals (first
    | assumption
    | with_reducible refine wpAny_loadPart_at hC ?_
    | wp_step))
  refine ⟨rfl, ?_⟩
  refine codeAny_call_builtin_at (Code.quiet_builtin _ (by decide +kernel)) entry_typeCall (wpAny_check_type_call_sub hC (typeCallK F hT hC hi hb hr ?_))
  refine codeAny_mono hq fun r s' z => ?_
  rcases r with e | (v | _ | _ | _) <;> exact z
end
end EvK

/-! EvM: own exceptions are made. -/
namespace Ev
open PySem L2 PySem.Spec PyProof.Rows
/-- what f'{x}' takes -/
def fmtV : V → Bool
  | .non => true
  | .int i => decide (i.natAbs.log2 < 1920)
  | .str x => decide (x.length ≤ 1000000)
  | _ => false
/-- __init__ of an own exception: its fields f1, f2, .. are what it is given -/
def spX (C : Addr) (fs : List Str) : Sp := fun vs H Q _ => ∃ (a : Addr) (ws : List V), vs = .ref a :: ws ∧ ws.length = fs.length ∧ ws.all fmtV = true ∧ H a = some (exo a C none) ∧
  ∀ (dx : Addr) (H2 : Hp), H dx = none → dx ≠ a → H2 a = some (exo a C (some dx)) → H2 dx = some (exd dx (fs.reverse.zip ws.reverse)) → (∀ b, b ≠ a → b ≠ dx → H2 b = H b) → Q .non H2
section
variable {X : Cx} {pins : List (Addr × Obj)} {σ : L2.St} {s : Shared} {H : Hp}
theorem run_exI {CX : CXT} {C fI : Addr} {k : Nat} {fd : FuncData} {ps fs : List Str} {us : List Value} {kws : List (Str × Value)} {ws : List V} {ws' : List Value} (T : OexC X.K C) (iC : PySem.W.findIn X.K (.ref C) "__init__" = some (some (.ref fI)))
    (tI : PySem.W.typeIn X.K (.ref fI) = some (.type "function")) (F1 : FnOk X.prog X.w X.K X.mg X.base CX k fI fd ps (spX C fs)) (hr : Room (k + 1) X.A) (hx : Passes CX X (fun _ _ _ => False)) (I : Inv X pins σ H s) (hz : us.length ≤ sizeLine)
    (hb : ∀ (s' : Shared) (self : Value), X.K.In s'.heap → BindsTo s' fd ⟨self :: us, kws⟩ (ps.zip (self :: ws'))) (r : Vals ws ws') (hl : ws.length = fs.length) (hf : ws.all fmtV = true) :
    wpAny (model X.prog X.w) X.A (call (.ref C) us kws) (MkP X pins σ fun cls d H' => cls = .ref C ∧ ∃ dd, d = some dd ∧ H dd = none ∧ H' = upd H dd (.xd (fs.reverse.zip ws.reverse))) X.xe s := by
  obtain ⟨nm, q, N, bs, bm, sn, sub, ab, col, dd, k0, k1, k2, k3, k5, hC, hbm⟩ := T.cls
  obtain ⟨hp, g, dr, tk, os⟩ := s
  have hsz : hp.objs.size ≤ hp.objs.size + 1 := Nat.le_succ _
  have hn : H (hp.objs.size + 1) = none := I.hok.fresh hsz
  have kk : ∀ b o, hp.get? b = some o → ((hp.push (PySem.W.kdv_tup us)).push (PySem.HandSPX.excO C hp.objs.size)).get? b = some o := fun b o e => Heap.get?_push_of_some _ (Heap.get?_push_of_some _ e)
  have hg : ((hp.push (PySem.W.kdv_tup us)).push (PySem.HandSPX.excO C hp.objs.size)).get? (hp.objs.size + 1) = some (PySem.HandSPX.excO C hp.objs.size) := by heap_get
  have I2 : Inv X pins σ (upd H (hp.objs.size + 1) (exo (hp.objs.size + 1) C none)) ⟨(hp.push (PySem.W.kdv_tup us)).push (PySem.HandSPX.excO C hp.objs.size), g, dr, tk, os⟩ :=
    I.laid (t' := tk) (a := hp.objs.size + 1) (o := exo (hp.objs.size + 1) C none) kk hsz (exo_ok hg)
  have r2 : Vals (V.ref (hp.objs.size + 1) :: ws) (Value.ref (hp.objs.size + 1) :: ws') := .cons rfl r
  have h : spX C fs (.ref (hp.objs.size + 1) :: ws) (upd H (hp.objs.size + 1) (exo (hp.objs.size + 1) C none))
      (fun v H2 => v = .non ∧ ∃ dx, H dx = none ∧ dx ≠ hp.objs.size + 1 ∧ H2 (hp.objs.size + 1) = some (exo (hp.objs.size + 1) C (some dx)) ∧ H2 dx = some (exd dx (fs.reverse.zip ws.reverse)) ∧ ∀ b, b ≠ hp.objs.size + 1 → b ≠ dx → H2 b = H b) (fun _ _ _ => False) :=
    ⟨_, ws, rfl, hl, hf, upd_same, fun dx H2 h1 h2 h3 h4 h5 => ⟨rfl, dx, by rw [upd_ne h2] at h1; exact h1, h2, h3, h4, fun b e1 e2 => by rw [h5 b e1 e2, upd_ne e1]⟩⟩
  refine wpAny_call (EvK.callK F.excBase_ValueError (fun Y => PySem.HandSPX.refsVE_contains Y bm hbm) (I.kIn _ _ hC) (PySem.W.looks_findIn I.kIn iC) (fun self => PySem.W.bind_fn I.kIn self tI) hz
    (codeAny_mono (F1.run _ X.stack _ _ ⟨Value.ref (hp.objs.size + 1) :: us, kws⟩ (Value.ref (hp.objs.size + 1) :: ws') _ _ (fun _ _ _ => False) (hr.make C us kws) (I2.env0.make C us kws) (hb _ _ I2.kIn) r2 h) fun r s' hq => ?_))
  cases r with
  | error er => exact hx pins σ _ _ er s' I2 hq
  | ok fl =>
    cases fl with
    | ret u =>
      obtain ⟨v, H2, os2, bare2, un2, hok2, rv, ev, dx, hd1, hda, ea, ed, hk⟩ := hq
      subst ev
      obtain ⟨h2, g2, d2, t2, os'⟩ := s'
      refine ⟨rv, mk_end (raises_own T.exC T.tyC) I hsz kk un2 hok2 os2 bare2 ea ed hd1 ⟨rfl, dx, rfl, hd1, ?_⟩⟩
      funext b
      by_cases hb1 : b = dx
      · subst hb1; rw [upd_same, upd_same]
      · rw [upd_ne hb1, upd_ne hb1]
        by_cases hb2 : b = hp.objs.size + 1
        · subst hb2; rw [del_same, hn]
        · rw [del_ne hb2]; exact hk b hb2 hb1
    | next => exact False.elim hq
    | brk => exact False.elim hq
    | cont => exact False.elim hq
/-- an exception that was just made, tracked as a value -/
theorem mkp_track {Q : XK} {u : Value} {s' : Shared} (h : MkP X pins σ Q u s') : ∃ a C d H', u = .ref a ∧ Q (.ref C) d H' ∧ H' a = none ∧ Inv X pins σ (upd H' a (exv a C d)) s' ∨ ∃ cls d H', Q cls d H' ∧ ∀ C, cls ≠ .ref C := by
  obtain ⟨a, oe, vs, sI, H', cls, d, rfl, J, k, ne, ho, hz, hd, h1, na, os, ag, rr, q⟩ := h
  by_cases hc : ∃ C, cls = .ref C
  · obtain ⟨C, rfl⟩ := hc
    refine ⟨a, C, d, H', .inl ⟨rfl, q, na, ?_⟩⟩
    have ok : ObjOk X.prog X.w (upd H' a (exv a C d)) s'.heap a (exv a C d) := ⟨⟨oe, vs, ho, hz.1, hz.2, hd⟩, ⟨_, ho⟩, fun h1 h2 z kk => by
      obtain ⟨oe2, vs2, z1, z2⟩ := z
      exact ⟨oe2, vs2, kk _ z1, z2⟩⟩
    have J2 := J.laidN (t' := s'.toks) k ne na ok
    obtain ⟨hp, g, dr, tk, os'⟩ := s'
    exact ⟨J2.ok, os.trans J2.os, ag, J2.base, J2.loc, J2.cell, J2.free, J2.freeC, J2.pin, J2.hok, J2.len⟩
  · exact ⟨0, 0, none, H', .inr ⟨cls, d, H', q, fun C e => hc ⟨C, e⟩⟩⟩
end
end Ev

/-! EvN: calls. -/
namespace Ev
open PySem L2 PySem.Spec PyProof.Rows
/-- the keywords of a call -/
structure SKs (X : Cx) (W : WX) (kws : List Keyword) (ns : List Str) (f : Env → M (List D)) : Prop where
  run : ∀ (pos : Pos) (pins : List (Addr × Obj)) (s : Shared) (σ : L2.St) (H : Hp) (ρ : Env) (m : Mem) (ι : Map) (P : List D → Mem → Map → Hp → Prop), Inv X pins σ H s → HR X.K X.mg ι H m → ER X.K X.mg ι H ρ σ → XRM X W σ (f ρ) m ι H P →
    wpAny (model X.prog X.w) X.A (evalAll ((backToKw pos (keywordEach kws X.env)).map (·.2))) (LP X pins σ m ι H P) X.xe s
  some_ : ∀ pos, (backToKw pos (keywordEach kws X.env)).all (·.1.isSome) = true
  any_ : ∀ pos, (backToKw pos (keywordEach kws X.env)).any (·.1.isNone) = false
  names : ∀ pos, (backToKw pos (keywordEach kws X.env)).filterMap (·.1) = ns
  nil : kws = [] → f = fun _ => ret []
section
variable {X : Cx} {W : WX} {pins : List (Addr × Obj)} {σ : L2.St} {s : Shared} {m m1 : Mem} {ι ι1 : Map} {H H1 : Hp} {ρ : Env} {a b c e : Expr} {es : List Expr} {fa fb fc : Env → M D} {fs gs : Env → M (List D)} {pos : Pos} {Pg : Prog} {kws : List Keyword} {ns : List Str}
theorem sks_nil : SKs X W [] [] (fun _ => ret []) where
  run := fun pos pins s σ H ρ m ι P I r er h => wpAny_evalAll_nil ⟨[], [], m, ι, H, I, .nil, r, .nil, .refl, RM.ret r h⟩
  some_ := fun _ => rfl
  any_ := fun _ => rfl
  names := fun _ => rfl
  nil := fun _ => rfl
theorem sks_cons {n : Str} {kp : Pos} (ha : SE X W a fa) (hs : SKs X W kws ns fs) : SKs X W (⟨some n, a, kp⟩ :: kws) (n :: ns) (fun ρ => bind (fa ρ) fun d => bind (fs ρ) fun ds => ret (d :: ds)) where
  run := fun pos pins s σ H ρ m ι P I r er h => by
    show wpAny _ _ (evalAll ((do let v ← eval a X.env; standAt pos; pure v) :: (backToKw pos (keywordEach kws X.env)).map (·.2))) _ _ s
    refine wpAny_evalAll_cons (wpAny_bind (ha.then I r er h fun u1 s1 d1 v1 m1 ι1 H1 I1 q1 r1 er1 vr1 st1 h => wpAny_bind (wpAny_standAt (wpAny_pure ?_))))
    refine thn (hs.run pos pins s1 σ H1 ρ m1 ι1 _ I1 r1 er1 (RM.bind r1 h)) fun us s2 ⟨ds, vs, m2, ι2, H2, I2, q2, r2, vr2, st2, p⟩ => ?_
    exact ⟨d1 :: ds, v1 :: vs, m2, ι2, H2, I2, .cons q1 q2, r2, .cons (vr1.step r1 st2) vr2, st1.trans r r1 st2, RM.ret r2 p⟩
  some_ := fun pos => by show (true && (backToKw pos (keywordEach kws X.env)).all (·.1.isSome)) = true; rw [hs.some_]; rfl
  any_ := fun pos => by show (false || (backToKw pos (keywordEach kws X.env)).any (·.1.isNone)) = false; rw [hs.any_]; rfl
  names := fun pos => by show n :: (backToKw pos (keywordEach kws X.env)).filterMap (·.1) = _; rw [hs.names]
  nil := fun e => by cases e
theorem star_plain {env : PySem.Env} : ∀ {es : List Expr}, es.all noStar = true → ∀ pos, (backTo pos (starEach es env)).any (·.1) = false
  | [], _, _ => rfl
  | e :: es, h, pos => by
    simp only [List.all_cons, Bool.and_eq_true] at h
    rw [star_cons h.1]
    show (false || (backTo pos (starEach es env)).any (·.1)) = false
    rw [star_plain h.2]; rfl
/-- the call of what is kept, its arguments walked -/
theorem call_walk {f : Value} {first : List Value} {β : Type} {g : List D → List D → M β} {P : β → Mem → Map → Hp → Prop} {Q : Value → Shared → Prop} (hk : PySem.W.keepIn X.K f = true) (hes : SEs X W es fs) (hne : es.all noStar = true) (hen : es = [] → fs = fun _ => ret []) (hks : SKs X W kws ns gs) (I : Inv X pins σ H s) (r : HR X.K X.mg ι H m) (er : ER X.K X.mg ι H ρ σ)
    (hh : XRM X W σ (bind (fs ρ) fun ds => bind (gs ρ) fun qs => g ds qs) m ι H P)
    (k : ∀ us ws s1 ds qs vs zs m1 ι1 H1, Inv X pins σ H1 s1 → Vals vs us → Vals zs ws → HR X.K X.mg ι1 H1 m1 → VRs X.K X.mg ι1 H1 ds vs → VRs X.K X.mg ι1 H1 qs zs → Step m ι H m1 ι1 H1 → XRM X W σ (g ds qs) m1 ι1 H1 P → (kws = [] → qs = [] ∧ ws = []) → wpAny (model X.prog X.w) X.A (call f (first ++ us) (ns.zip ws)) Q X.xe s1) :
    wpAny (model X.prog X.w) X.A (callWith pos f first (backTo pos (starEach es X.env)) (backToKw pos (keywordEach kws X.env))) Q X.xe s := by
  cases kws with
  | nil =>
    have eg := hks.nil rfl
    subst eg
    have en : ns = [] := (hks.names pos).symm
    subst en
    have fin : ∀ {us : List Value} {s1 : Shared} {ds : List D} {vs : List V} {m1 : Mem} {ι1 : Map} {H1 : Hp}, Inv X pins σ H1 s1 → Vals vs us → HR X.K X.mg ι1 H1 m1 → VRs X.K X.mg ι1 H1 ds vs → Step m ι H m1 ι1 H1 → XRM X W σ (bind (ret []) fun qs => g ds qs) m1 ι1 H1 P →
        wpAny (model X.prog X.w) X.A (call f (first ++ us)) Q X.xe s1 := fun I1 q1 r1 vr1 st1 h => k _ [] _ _ [] _ [] _ _ _ I1 q1 .nil r1 vr1 .nil st1 (RM.retB r1 h) fun _ => ⟨rfl, rfl⟩
    cases es with
    | nil =>
      have ef := hen rfl
      subst ef
      exact PySem.W.callWith_K0 I.kIn hk (fin I .nil r .nil .refl (RM.retB r hh))
    | cons e es =>
      simp only [List.all_cons, Bool.and_eq_true] at hne
      refine PySem.W.callWith_K (h₀ := X.base) I.ok.mod.kin hk (hes.then I r er hh fun us s1 ds vs m1 ι1 H1 I1 q1 r1 er1 vr1 st1 h => ⟨I1.kIn, fin I1 q1 r1 vr1 st1 h⟩) (star_cons hne.1) (star_plain hne.2 pos)
  | cons kw kws =>
    have pl : ((backTo pos (starEach es X.env)).any (·.1) || (backToKw pos (keywordEach (kw :: kws) X.env)).any (·.1.isNone)) = false := by rw [star_plain hne, hks.any_]; rfl
    cases es with
    | nil =>
      have ef := hen rfl
      subst ef
      refine PySem.W.callWith_KW0 (h₀ := X.base) I.ok.mod.kin hk (hks.some_ pos) ?_ pl
      refine thn (hks.run pos pins s σ H ρ m ι _ I r er (RM.bind r (RM.retB r hh))) fun ws s2 ⟨qs, zs, m2, ι2, H2, I2, q2, r2, vr2, st2, p⟩ => ⟨I2.kIn, ?_⟩
      rw [hks.names]
      exact k [] _ _ [] _ [] _ _ _ _ I2 .nil q2 r2 .nil vr2 st2 p fun z => by cases z
    | cons e es =>
      simp only [List.all_cons, Bool.and_eq_true] at hne
      refine PySem.W.callWith_KW (h₀ := X.base) I.ok.mod.kin hk (hks.some_ pos) (hes.then I r er hh fun us s1 ds vs m1 ι1 H1 I1 q1 r1 er1 vr1 st1 h => ?_) pl (star_cons hne.1)
      refine thn (hks.run pos pins s1 σ H1 ρ m1 ι1 _ I1 r1 er1 (RM.bind r1 h)) fun ws s2 ⟨qs, zs, m2, ι2, H2, I2, q2, r2, vr2, st2, p⟩ => ⟨I2.kIn, ?_⟩
      rw [hks.names]
      exact k _ _ _ _ _ _ _ _ _ _ I2 q1 q2 r2 (vr1.step r1 st2) vr2 (st1.trans r r1 st2) p fun z => by cases z
/-! ### built-ins by name -/
theorem call_blt {f : Value} {Q : Value → Shared → Prop} {β : Type} {g : List D → M β} {P : β → Mem → Map → Hp → Prop} (hf : (∃ id, f = .builtin id) ∨ ∃ T, f = .type T) (hes : SEs X W es fs) (hne : es.all noStar = true) (h0 : es ≠ []) (I : Inv X pins σ H s) (r : HR X.K X.mg ι H m) (er : ER X.K X.mg ι H ρ σ)
    (hh : XRM X W σ (bind (fs ρ) g) m ι H P)
    (k : ∀ us s1 ds vs m1 ι1 H1, Inv X pins σ H1 s1 → Vals vs us → HR X.K X.mg ι1 H1 m1 → VRs X.K X.mg ι1 H1 ds vs → Step m ι H m1 ι1 H1 → XRM X W σ (g ds) m1 ι1 H1 P → wpAny (model X.prog X.w) X.A (call f us) Q X.xe s1) :
    wpAny (model X.prog X.w) X.A (callWith pos f [] (backTo pos (starEach es X.env)) []) Q X.xe s := by
  cases es with
  | nil => exact absurd rfl h0
  | cons e es =>
    simp only [List.all_cons, Bool.and_eq_true] at hne
    have w := hes.then (pos := pos) I r er hh fun us s1 ds vs m1 ι1 H1 I1 q1 r1 er1 vr1 st1 h => k us s1 ds vs m1 ι1 H1 I1 q1 r1 vr1 st1 h
    rcases hf with ⟨id, rfl⟩ | ⟨T, rfl⟩
    · exact PyProof.Rows.callWith_builtin1 w (star_cons hne.1) (star_plain hne.2 pos)
    · exact PyProof.Rows.callWith_type1 w (star_cons hne.1) (star_plain hne.2 pos)
theorem fvB_val {b : B} {f : Value} (h : fvB b = some f) : (∃ id, f = .builtin id) ∨ ∃ T, f = .type T := by
  cases b <;> first | (cases h; exact .inl ⟨_, rfl⟩) | (cases h; exact .inr ⟨_, rfl⟩) | cases h
theorem se_bi {b : B} {f : Value} {x : Str} {p : Pos} (F : ClsF X.K X.mg Pg) (hf : fvB b = some f) (hg : Gl X x) (hm : X.mg x = none) (hv : bootBuiltins x = some f) (hn : x ≠ "__name__") (hd : (x == ("__debug__" : Str)) = false) (hes : SEs X W es fs) (hne : es.all noStar = true) (h0 : es ≠ []) :
    SE X W (.Call (.Name x p) es [] pos) (fun ρ => bind (fs ρ) (biM Pg b)) := by
  refine ⟨fun pins s σ H ρ m ι P I r er h => ?_⟩
  refine wpAny_Call_Name_kw (ld_blt I hg hm hv ?_ hn hd)
  exact call_blt (fvB_val hf) hes hne h0 I r er h fun us s1 ds vs m1 ι1 H1 I1 q1 r1 vr1 st1 h => thn (bi_ok F hf I1 r1 vr1 q1 h) fun u s2 hq => hq.lift r st1 r1

/-! ### own defs -/
/-- how a def is bound: values and keywords, in the plan's order -/
def BindF (K : Frag) (fd : FuncData) (ps : List Str) (n : Nat) (ks : List Str) (pl : List (Nat ⊕ Nat)) : Prop :=
  ∀ (s : Shared) (us ws as : List Value), K.In s.heap → us.length = n → ws.length = ks.length → arrange us ws pl = some as → as.length = ps.length → BindsTo s fd ⟨us, ks.zip ws⟩ (ps.zip as)
/-- what a def does, at a depth -/
def runD (P : Prog) (w k : Nat) (y : Str) (as : List D) : M D := match P.defs y with
  | some d => bodyM ⟨P, callK P w k, w⟩ d as
  | none => bad
/-- the promise of a def -/
def spD (K : Frag) (mg : Str → Option Value) (run : List D → M D) (n : Nat) : Sp := fun vs H Q E => vs.length = n ∧ ∃ ds m ι, HR K mg ι H m ∧ VRs K mg ι H ds vs ∧ RM K mg E (run ds) m ι H fun d m' ι' H' => ∀ v, VR K mg ι' H' d v → Q v H'
/-- the defs hold their promises, at a depth -/
def FunsAt (prog : Program) (w : World) (K : Frag) (mg : Str → Option Value) (base : Heap) (P : Prog) (fuel : Nat) (adr : Str → Option Addr) (k : Nat) : Prop :=
  ∀ y f, adr y = some f → ∃ fd d, P.defs y = some d ∧ (∃ oc od osl, K.lookup f = some ⟨oc, od, .func fd, osl⟩) ∧ FnOk prog w K mg base (L2.CX prog w) (k + 3) f fd d.ps (spD K mg (runD P fuel k y) d.ps.length) ∧ ∀ n ns pl, P.plan y n ns = some pl → BindF K fd d.ps n ns pl
theorem pick_ok {ds qs : List D} {vs zs : List V} {us ws : List Value} (vr : VRs X.K X.mg ι H ds vs) (q : Vals vs us) (vz : VRs X.K X.mg ι H qs zs) (qz : Vals zs ws) : ∀ {pl : List (Nat ⊕ Nat)} {as : List D}, arrange ds qs pl = some as →
    ∃ avs aus, arrange us ws pl = some aus ∧ Vals avs aus ∧ VRs X.K X.mg ι H as avs
  | [], as, h => by cases h; exact ⟨[], [], rfl, .nil, .nil⟩
  | p :: pl, as, h => by
    unfold arrange at h ⊢
    split at h
    · rename_i a b e1 e2
      cases h
      obtain ⟨avs, aus, h1, h2, h3⟩ := pick_ok vr q vz qz e2
      have one : ∃ v u, pickA us ws p = some u ∧ RelV v u ∧ VR X.K X.mg ι H a v := by
        cases p with
        | inl i =>
          obtain ⟨v, hv, r⟩ := vr.get (show ds[i]? = some a from e1)
          obtain ⟨u, hu, ru⟩ := q.get hv
          exact ⟨v, u, hu, ru, r⟩
        | inr i =>
          obtain ⟨v, hv, r⟩ := vz.get (show qs[i]? = some a from e1)
          obtain ⟨u, hu, ru⟩ := qz.get hv
          exact ⟨v, u, hu, ru, r⟩
      obtain ⟨v, u, g1, g2, g3⟩ := one
      exact ⟨v :: avs, u :: aus, by rw [g1, h1], .cons g2 h2, .cons g3 h3⟩
    · cases h
theorem fn_call {fuel k : Nat} {adr : Str → Option Addr} {y : Str} {f : Addr} {ds qs : List D} {vs zs : List V} {us ws : List Value} {ns : List Str} {P : D → Mem → Map → Hp → Prop} (Fs : FunsAt X.prog X.w X.K X.mg X.base Pg fuel adr k) (hr : Room (k + 3) X.A) (tk : Takes X W) (hy : adr y = some f)
    (I : Inv X pins σ H s) (r : HR X.K X.mg ι H m) (q : Vals vs us) (vr : VRs X.K X.mg ι H ds vs) (qz : Vals zs ws) (vz : VRs X.K X.mg ι H qs zs) (h : XRM X W σ (callK Pg fuel (k + 1) y ds ns qs) m ι H P) :
    wpAny (model X.prog X.w) X.A (call (.ref f) us (ns.zip ws)) (VP X pins σ m ι H P) X.xe s := by
  obtain ⟨fd, d, hd, _, F, hb⟩ := Fs y f hy
  unfold callK at h
  rw [hd] at h
  split at h
  · rename_i d' pl e1 e2
    cases e1
    split at h
    · rename_i as ea
      split at h
      · rename_i hl
        simp only [Bool.and_eq_true, decide_eq_true_eq] at hl
        obtain ⟨avs, aus, e3, qa, va⟩ := pick_ok vr q vz qz ea
        have l1 : us.length = ds.length := by rw [← q.length, ← vr.length]
        have l2 : ws.length = ns.length := by rw [← qz.length, ← vz.length, hl.2]
        have l3 : aus.length = d.ps.length := by rw [← qa.length, ← va.length, hl.1]
        have bnd := hb _ _ _ e2 s us ws aus I.kIn l1 l2 e3 l3
        have h2 : XRM X W σ (runD Pg fuel k y as) m ι H P := by unfold runD; rw [hd]; exact h
        refine wpAny_call (codeAny_mono (F.run X.A X.stack s H ⟨us, ns.zip ws⟩ aus avs (fun v H' => ∃ d m' ι', HR X.K X.mg ι' H' m' ∧ VR X.K X.mg ι' H' d v ∧ Step m ι H m' ι' H' ∧ P d m' ι' H') (fun c d H => W c d σ H) hr I.env0 bnd qa
          ⟨by rw [← va.length, hl.1], as, m, ι, r, va, h2.mono fun d m' ι' H' st r' p v hv => ⟨d, m', ι', r', hv, st, p⟩⟩) fun r s' hq => ?_)
        cases r with
        | error e => exact passAt tk σ pins H s e s' I hq
        | ok fl =>
          cases fl with
          | ret u => exact ep_vp (I.after hq)
          | next => exact False.elim hq
          | brk => exact False.elim hq
          | cont => exact False.elim hq
      · exact (RM.bad h).elim
    · exact (RM.bad h).elim
  · exact (RM.bad h).elim
end
end Ev

/-! EvO: calls of own classes; attributes; calls by name. -/
namespace Ev
open PySem L2 PySem.Spec PyProof.Rows
/-- how own exceptions are made -/
structure XF (prog : Program) (w : World) (K : Frag) (mg : Str → Option Value) (base : Heap) (P : Prog) : Prop where
  kp : ∀ c C, P.isC c = true → mg c = some (.ref C) → PySem.W.keepIn K (.ref C) = true
  e0 : ∀ c C k, P.cls c = some k → k.exc = some [] → mg c = some (.ref C) → PySem.W.excIn K C He.veBase "ValueError.__new__" = true ∧ PySem.W.subIn K (.ref C) (.type "BaseException") = some true ∧ PySem.W.typeIn K (.ref C) = some (.type "type")
  eF : ∀ c C k f fs, P.cls c = some k → k.exc = some (f :: fs) → mg c = some (.ref C) → ∃ fI fd ps, OexC K C ∧ PySem.W.findIn K (.ref C) "__init__" = some (some (.ref fI)) ∧ PySem.W.typeIn K (.ref fI) = some (.type "function") ∧
    FnOk prog w K mg base (L2.CX prog w) 1 fI fd ps (spX C (f :: fs).reverse) ∧ ps.length = (f :: fs).length + 1 ∧ ∀ n ns pl, P.plan (c ++ ".__init__") n ns = some pl → BindF K fd ps n ns pl
section
variable {X : Cx} {W : WX} {pins : List (Addr × Obj)} {σ : L2.St} {s : Shared} {m m1 : Mem} {ι ι1 : Map} {H H1 : Hp} {ρ : Env} {a b c e : Expr} {es : List Expr} {fa fb fc : Env → M D} {fs gs : Env → M (List D)} {pos : Pos} {Pg : Prog} {kws : List Keyword} {ns : List Str}
theorem fmt_ok {d : D} {v : V} (vr : VR X.K X.mg ι H d v) (h : fmtD d = true) : fmtV v = true := by
  cases vr <;> first | exact h | cases h
theorem fmts_ok : ∀ {ds : List D} {vs : List V}, VRs X.K X.mg ι H ds vs → ds.all fmtD = true → vs.all fmtV = true
  | _, _, .nil, _ => rfl
  | _, _, .cons h t, f => by
    simp only [List.all_cons, Bool.and_eq_true] at f ⊢
    exact ⟨fmt_ok h f.1, fmts_ok t f.2⟩
theorem zip_fst {α β : Type} : ∀ {xs : List α} {ys : List β}, xs.length = ys.length → (xs.zip ys).map (·.1) = xs
  | [], [], _ => rfl
  | x :: xs, y :: ys, h => by simp at h; simp [zip_fst h]
theorem zip_snd {α β : Type} : ∀ {xs : List α} {ys : List β}, xs.length = ys.length → (xs.zip ys).map (·.2) = ys
  | [], [], _ => rfl
  | x :: xs, y :: ys, h => by simp at h; simp [zip_snd h]
/-- an exception comes out of a call of its class: what is wanted of it as a value -/
theorem made_vp {c : Str} {C : Addr} {fs : List (Str × D)} {vs : List V} {P : D → Mem → Map → Hp → Prop} {u : Value} {s' : Shared} (r : HR X.K X.mg ι H m) (hm : X.mg c = some (.ref C)) (vr : VRs X.K X.mg ι H (fs.map (·.2)) vs) (h : XRM X W σ (ret (.exc c fs)) m ι H P)
    (q : MkP X pins σ (fun cls d H' => cls = .ref C ∧ ((fs = [] ∧ d = none ∧ H' = H) ∨ ∃ dd, d = some dd ∧ H dd = none ∧ H' = upd H dd (.xd ((fs.map (·.1)).zip vs)))) u s') : VP X pins σ m ι H P u s' := by
  obtain ⟨a, C', d, H', q | ⟨cls, d', H'', ⟨ec, _⟩, nc⟩⟩ := mkp_track q
  · obtain ⟨rfl, ⟨ec, hd⟩, na, J⟩ := q
    cases ec
    rcases hd with ⟨ef, ed, eH⟩ | ⟨dd, ed, hdd, eH⟩
    · subst ef; subst ed; subst eH
      have st : Step m ι H' m ι (upd H' a (exv a C none)) := Step.lay r na
      have r' := HR.lay (o := exv a C none) r na
      exact ⟨.exc c [], .ref a, m, ι, _, J, rfl, r', .exc0 hm upd_same, st, h _ _ st r'⟩
    · subst ed; subst eH
      have st1 : Step m ι H m ι (upd H dd (.xd ((fs.map (·.1)).zip vs))) := Step.lay r hdd
      have r1 := HR.lay (o := .xd ((fs.map (·.1)).zip vs)) r hdd
      have st2 : Step m ι (upd H dd (.xd ((fs.map (·.1)).zip vs))) m ι (upd (upd H dd (.xd ((fs.map (·.1)).zip vs))) a (exv a C (some dd))) := Step.lay r1 na
      have r2 := HR.lay (o := exv a C (some dd)) r1 na
      have ne : dd ≠ a := fun z => by rw [z, upd_same] at na; cases na
      have st := st1.trans r r1 st2
      refine ⟨.exc c fs, .ref a, m, ι, _, J, rfl, r2, .excF hm upd_same ?_ (vr.step r st), st, h _ _ st r2⟩
      rw [upd_ne ne, upd_same]
  · exact (nc C ec).elim
theorem arrange_self {α : Type} {a b : α} {xs ys : List α} : ∀ {pl : List (Nat ⊕ Nat)}, pl.all notSelf = true → arrange (a :: xs) ys pl = arrange (b :: xs) ys pl
  | [], _ => rfl
  | p :: pl, h => by
    simp only [List.all_cons, Bool.and_eq_true] at h
    unfold arrange
    rw [arrange_self h.2]
    have e : pickA (a :: xs) ys p = pickA (b :: xs) ys p := by
      cases p with
      | inl i => cases i with
        | zero => cases h.1
        | succ i => rfl
      | inr i => rfl
    rw [e]
theorem mkp_imp {Q Q' : XK} {u : Value} {s' : Shared} (h : MkP X pins σ Q u s') (k : ∀ cls d H', Q cls d H' → Q' cls d H') : MkP X pins σ Q' u s' := by
  obtain ⟨a, oe, vs, sI, H', cls, d, h1, h2, h3, h4, h5, h6, h7, h8, h9, h10, h11, h12, q⟩ := h
  exact ⟨a, oe, vs, sI, H', cls, d, h1, h2, h3, h4, h5, h6, h7, h8, h9, h10, h11, h12, k _ _ _ q⟩
/-- what the call of an own class makes, raw -/
theorem make_mk {c : Str} {C : Addr} {k : Cls} {ds qs : List D} {vs zs : List V} {us ws : List Value} {ns : List Str} (F : XF X.prog X.w X.K X.mg X.base Pg) (hr : Room 2 X.A) (tk : Takes X W) (hc : Pg.cls c = some k) (hm : X.mg c = some (.ref C)) (hx : k.exc.isSome = true)
    (I : Inv X pins σ H s) (q : Vals vs us) (vr : VRs X.K X.mg ι H ds vs) (qz : Vals zs ws) (vz : VRs X.K X.mg ι H qs zs) (hk : ns = [] ∧ qs = [] → ws = []) {C0 : Ctx} (hC : C0.P = Pg) {P : D → Mem → Map → Hp → Prop} (r : HR X.K X.mg ι H m) (h : XRM X W σ (makeM C0 c ds ns qs) m ι H P) :
    ∃ fs wv, XRM X W σ (ret (.exc c fs)) m ι H P ∧ VRs X.K X.mg ι H (fs.map (·.2)) wv ∧ wpAny (model X.prog X.w) X.A (call (.ref C) us (ns.zip ws)) (MkP X pins σ fun cls d H' => cls = .ref C ∧ ((fs = [] ∧ d = none ∧ H' = H) ∨ ∃ dd, d = some dd ∧ H dd = none ∧ H' = upd H dd (.xd ((fs.map (·.1)).zip wv)))) X.xe s := by
  unfold makeM at h
  rw [hC, hc] at h
  dsimp only at h
  split at h
  · rename_i ee
    split at h
    · rename_i hg
      simp only [Bool.and_eq_true, decide_eq_true_eq, List.isEmpty_iff] at hg
      obtain ⟨g1, g2, g3⟩ := F.e0 c C k hc ee hm
      refine ⟨[], [], h, .nil, ?_⟩
      have ew := hk ⟨hg.1.1, hg.1.2⟩
      rw [hg.1.1, ew]
      obtain ⟨bm, N, nm, qn, bs, hdct, sn, sub, ab, col, dd, k0, k1, k2, k3, k5, mN, hC', hN, hni, T⟩ := exc_obj I.kIn g1
      have lu : us.length ≤ sizeLine := by rw [← q.length, ← vr.length, sizeLine_eq]; omega
      exact wpAny_call_exc_subT PySem.F.excBase_ValueError T hC' hN hni (fun h' e hm' => mk_of I hm' (raises_own g2 g3) ⟨rfl, .inl ⟨rfl, rfl, rfl⟩⟩ (I.hok.gone hm'.new)) lu
    · exact (RM.bad h).elim
  · rename_i fl nn ee
    obtain ⟨xs, e1, h⟩ := RM.optB r h
    cases fl with
    | nil => exact (nn rfl).elim
    | cons f fl =>
    obtain ⟨fI, fd, ps, T, i1, i2, F1, lp, hb⟩ := F.eF c C k f fl hc ee hm
    unfold excArgs at e1
    split at e1
    · rename_i pl ep
      split at e1
      · rename_i ws0 ea
        split at e1
        · rename_i hg
          cases e1
          simp only [Bool.and_eq_true, decide_eq_true_eq] at hg
          obtain ⟨⟨⟨⟨g1, g2⟩, g3⟩, g4⟩, hl⟩ := hg
          obtain ⟨avs, aus, e3, qa, va⟩ := pick_ok (.cons VR.non vr) (Paired.cons (show RelV .non .none from rfl) q) vz qz ea
          have lz : ((f :: fl).zip xs.reverse).map (·.1) = f :: fl := zip_fst (by rw [List.length_reverse, g1])
          have lz2 : ((f :: fl).zip xs.reverse).map (·.2) = xs.reverse := zip_snd (by rw [List.length_reverse, g1])
          refine ⟨_, avs.reverse, h, by rw [lz2]; exact va.reverse, ?_⟩
          have lu : us.length ≤ sizeLine := by rw [← q.length, ← vr.length, sizeLine_eq]; omega
          have hp : Passes (L2.CX X.prog X.w) X (fun _ _ _ => False) := fun pins σ H s e s' I' c => passAt (W := fun _ _ _ _ => False) (fun u s'' z => by obtain ⟨a, oe, vs, sI, σ, H, cls, d, _, _, _, _, _, _, _, _, _, _, _, hh⟩ := z) σ pins H s e s' I' c
          have arr : ∀ self : Value, arrange (self :: us) ws pl = some aus := fun self => by rw [← e3]; exact arrange_self g4
          refine thn (run_exI T i1 i2 F1 hr hp I lu (ws := avs) (ws' := aus) (fun s' self hK => ?_) qa (by rw [← va.length, g1, List.length_reverse]) (fmts_ok va g2)) fun u s1 hq => ?_
          · refine hb _ _ _ ep s' (self :: us) ws (self :: aus) hK (by rw [List.length_cons, ← q.length, ← vr.length]) (by rw [← qz.length, ← vz.length, hl]) ?_ (by rw [List.length_cons, ← qa.length, ← va.length, g1, lp])
            unfold arrange
            rw [arr self]; rfl
          · refine mkp_imp hq fun cls d H' ⟨e1, dd, e2, e3, e4⟩ => ⟨e1, .inr ⟨dd, e2, e3, ?_⟩⟩
            rw [e4, lz, List.reverse_reverse]
        · cases e1
      · cases e1
    · cases e1
  · rename_i ee; rw [ee] at hx; cases hx
end
end Ev

/-! EvP: statements. -/
namespace Ev
open PySem L2 PySem.Spec PyProof.Rows
section
variable {X : Cx} {W : WX} {pins : List (Addr × Obj)} {σ : L2.St} {s : Shared} {m m1 : Mem} {ι ι1 : Map} {H H1 : Hp} {ρ : Env} {a b c e : Expr} {es : List Expr} {f fa fb fc : Env → M D} {fs gs : Env → M (List D)} {pos : Pos} {Pg : Prog} {kws : List Keyword} {ns : List Str}
/-- ours as HandS's -/
def tE (X : Cx) (W : WX) (f : Env → M D) : TE := fun σ H Q => ∃ ρ m ι P, HR X.K X.mg ι H m ∧ ER X.K X.mg ι H ρ σ ∧ XRM X W σ (f ρ) m ι H P ∧ ∀ d v m' ι' H', HR X.K X.mg ι' H' m' → VR X.K X.mg ι' H' d v → Step m ι H m' ι' H' → P d m' ι' H' → Q v H'
def tT (X : Cx) (W : WX) (f : Env → M Bool) : TT := fun σ H Q => ∃ ρ m ι P, HR X.K X.mg ι H m ∧ ER X.K X.mg ι H ρ σ ∧ XRM X W σ (f ρ) m ι H P ∧ ∀ c m' ι' H', HR X.K X.mg ι' H' m' → Step m ι H m' ι' H' → P c m' ι' H' → Q c H'
theorem SE.pe (h : SE X W e f) : PE X e (tE X W f) := ⟨fun pins s σ H Q I ⟨ρ, m, ι, P, r, er, hh, k⟩ =>
  thn (h.run pins s σ H ρ m ι P I r er hh) fun u s1 ⟨d, v, m', ι', H', I', q, r', vr, st, p⟩ => ⟨v, H', I', q, k d v m' ι' H' r' vr st p⟩⟩
theorem ST.pt {f : Env → M Bool} (h : ST X W e f) : PT X e (tT X W f) := ⟨fun pins s σ H Q I ⟨ρ, m, ι, P, r, er, hh, k⟩ =>
  thn (h.run _ pins s σ H ρ m ι P rfl I r er hh) fun c s1 ⟨m', ι', H', I', r', st, p⟩ => ⟨H', I', k c m' ι' H' r' st p⟩⟩
/-- the ends of a statement -/
def ends (X : Cx) (m : Mem) (ι : Map) (H : Hp) (P : Fl → Mem → Map → Hp → Prop) : Ends where
  nx := fun σ' H' => ∃ ρ' m' ι', HR X.K X.mg ι' H' m' ∧ ER X.K X.mg ι' H' ρ' σ' ∧ Step m ι H m' ι' H' ∧ P (.nx ρ') m' ι' H'
  rt := fun v H' => ∃ d m' ι', HR X.K X.mg ι' H' m' ∧ VR X.K X.mg ι' H' d v ∧ Step m ι H m' ι' H' ∧ P (.ret d) m' ι' H'
  bk := fun σ' H' => ∃ ρ' m' ι', HR X.K X.mg ι' H' m' ∧ ER X.K X.mg ι' H' ρ' σ' ∧ Step m ι H m' ι' H' ∧ P (.brk ρ') m' ι' H'
  ct := fun σ' H' => ∃ ρ' m' ι', HR X.K X.mg ι' H' m' ∧ ER X.K X.mg ι' H' ρ' σ' ∧ Step m ι H m' ι' H' ∧ P (.ct ρ') m' ι' H'
def tS (X : Cx) (W : WX) (f : Env → M Fl) : TS := fun D σ H => ∃ ρ m ι P, HR X.K X.mg ι H m ∧ ER X.K X.mg ι H ρ σ ∧ XRM X W σ (f ρ) m ι H P ∧
  (∀ σ' H', (ends X m ι H P).nx σ' H' → D.nx σ' H') ∧ (∀ v H', (ends X m ι H P).rt v H' → D.rt v H') ∧ (∀ σ' H', (ends X m ι H P).bk σ' H' → D.bk σ' H') ∧ (∀ σ' H', (ends X m ι H P).ct σ' H' → D.ct σ' H')
/-- a statement does what ours does -/
structure SS (X : Cx) (W : WX) (st : Stmt) (f : Env → M Fl) : Prop where
  run : ∀ (pins : List (Addr × Obj)) (s : Shared) (σ : L2.St) (H : Hp) (ρ : Env) (m : Mem) (ι : Map) (P : Fl → Mem → Map → Hp → Prop), Inv X pins σ H s → HR X.K X.mg ι H m → ER X.K X.mg ι H ρ σ → XRM X W σ (f ρ) m ι H P →
    wpAny (model X.prog X.w) X.A (exec st X.env) (SP X pins (ends X m ι H P)) X.xe s
structure SSs (X : Cx) (W : WX) (st : List Stmt) (f : Env → M Fl) : Prop where
  run : ∀ (pins : List (Addr × Obj)) (s : Shared) (σ : L2.St) (H : Hp) (ρ : Env) (m : Mem) (ι : Map) (P : Fl → Mem → Map → Hp → Prop), Inv X pins σ H s → HR X.K X.mg ι H m → ER X.K X.mg ι H ρ σ → XRM X W σ (f ρ) m ι H P →
    wpAny (model X.prog X.w) X.A (execs st X.env) (SP X pins (ends X m ι H P)) X.xe s
theorem SP.imp {D D' : Ends} {fl : Flow} {s' : Shared} (h : SP X pins D fl s') (h1 : ∀ σ' H', D.nx σ' H' → D'.nx σ' H') (h2 : ∀ v H', D.rt v H' → D'.rt v H') (h3 : ∀ σ' H', D.bk σ' H' → D'.bk σ' H') (h4 : ∀ σ' H', D.ct σ' H' → D'.ct σ' H') : SP X pins D' fl s' := by
  cases fl with
  | next => obtain ⟨σ', H', I, q⟩ := h; exact ⟨σ', H', I, h1 _ _ q⟩
  | brk => obtain ⟨σ', H', I, q⟩ := h; exact ⟨σ', H', I, h3 _ _ q⟩
  | cont => obtain ⟨σ', H', I, q⟩ := h; exact ⟨σ', H', I, h4 _ _ q⟩
  | ret u => obtain ⟨v, σ', H', I, r, q⟩ := h; exact ⟨v, σ', H', I, r, h2 _ _ q⟩
theorem SS.ps {st : Stmt} {f : Env → M Fl} (h : SS X W st f) : PS X st (tS X W f) := ⟨fun pins s σ H D I ⟨ρ, m, ι, P, r, er, hh, k1, k2, k3, k4⟩ => thn (h.run pins s σ H ρ m ι P I r er hh) fun fl s1 q => Ev.SP.imp q k1 k2 k3 k4⟩
theorem SSs.pss {st : List Stmt} {f : Env → M Fl} (h : SSs X W st f) : PSs X st (tS X W f) := ⟨fun pins s σ H D I ⟨ρ, m, ι, P, r, er, hh, k1, k2, k3, k4⟩ => thn (h.run pins s σ H ρ m ι P I r er hh) fun fl s1 q => Ev.SP.imp q k1 k2 k3 k4⟩
theorem SS.of {st : Stmt} {f : Env → M Fl} {t : TS} (h : PS X st t) (k : ∀ σ H ρ m ι P, HR X.K X.mg ι H m → ER X.K X.mg ι H ρ σ → XRM X W σ (f ρ) m ι H P → t (ends X m ι H P) σ H) : SS X W st f :=
  ⟨fun pins s σ H ρ m ι P I r er hh => h.run pins s σ H _ I (k σ H ρ m ι P r er hh)⟩
/-- ends from a later state -/
theorem ends_nx {P : Fl → Mem → Map → Hp → Prop} {σ' : L2.St} {H' : Hp} (r : HR X.K X.mg ι H m) (st : Step m ι H m1 ι1 H1) (r1 : HR X.K X.mg ι1 H1 m1) (h : (ends X m1 ι1 H1 P).nx σ' H') : (ends X m ι H P).nx σ' H' :=
  let ⟨ρ', m', ι', r', er, st', p⟩ := h; ⟨ρ', m', ι', r', er, st.trans r r1 st', p⟩
theorem ends_rt {P : Fl → Mem → Map → Hp → Prop} {v : V} {H' : Hp} (r : HR X.K X.mg ι H m) (st : Step m ι H m1 ι1 H1) (r1 : HR X.K X.mg ι1 H1 m1) (h : (ends X m1 ι1 H1 P).rt v H') : (ends X m ι H P).rt v H' :=
  let ⟨ρ', m', ι', r', er, st', p⟩ := h; ⟨ρ', m', ι', r', er, st.trans r r1 st', p⟩
theorem ends_bk {P : Fl → Mem → Map → Hp → Prop} {σ' : L2.St} {H' : Hp} (r : HR X.K X.mg ι H m) (st : Step m ι H m1 ι1 H1) (r1 : HR X.K X.mg ι1 H1 m1) (h : (ends X m1 ι1 H1 P).bk σ' H') : (ends X m ι H P).bk σ' H' :=
  let ⟨ρ', m', ι', r', er, st', p⟩ := h; ⟨ρ', m', ι', r', er, st.trans r r1 st', p⟩
theorem ends_ct {P : Fl → Mem → Map → Hp → Prop} {σ' : L2.St} {H' : Hp} (r : HR X.K X.mg ι H m) (st : Step m ι H m1 ι1 H1) (r1 : HR X.K X.mg ι1 H1 m1) (h : (ends X m1 ι1 H1 P).ct σ' H') : (ends X m ι H P).ct σ' H' :=
  let ⟨ρ', m', ι', r', er, st', p⟩ := h; ⟨ρ', m', ι', r', er, st.trans r r1 st', p⟩
/-- an expression's reading, from a run -/
theorem tE_bind {β : Type} {g : D → M β} {P : β → Mem → Map → Hp → Prop} {Q : VK} (r : HR X.K X.mg ι H m) (er : ER X.K X.mg ι H ρ σ) (h : XRM X W σ (bind (f ρ) g) m ι H P)
    (k : ∀ d v m' ι' H', HR X.K X.mg ι' H' m' → VR X.K X.mg ι' H' d v → Step m ι H m' ι' H' → ER X.K X.mg ι' H' ρ σ → XRM X W σ (g d) m' ι' H' P → Q v H') : tE X W f σ H Q :=
  ⟨ρ, m, ι, _, r, er, RM.bind r h, fun d v m' ι' H' r' vr st p => k d v m' ι' H' r' vr st (er.step r st) p⟩
theorem tT_bind {f : Env → M Bool} {β : Type} {g : Bool → M β} {P : β → Mem → Map → Hp → Prop} {Q : Bool → Hp → Prop} (r : HR X.K X.mg ι H m) (er : ER X.K X.mg ι H ρ σ) (h : XRM X W σ (bind (f ρ) g) m ι H P)
    (k : ∀ d m' ι' H', HR X.K X.mg ι' H' m' → Step m ι H m' ι' H' → ER X.K X.mg ι' H' ρ σ → XRM X W σ (g d) m' ι' H' P → Q d H') : tT X W f σ H Q :=
  ⟨ρ, m, ι, _, r, er, RM.bind r h, fun d m' ι' H' r' st p => k d m' ι' H' r' st (er.step r st) p⟩
/-! ### the simple ones -/
theorem ss_pass : SS X W (.Pass pos) (fun ρ => ret (.nx ρ)) := .of ps_pass fun σ H ρ m ι P r er h => ⟨ρ, m, ι, r, er, .refl, RM.ret r h⟩
theorem ss_brk : SS X W (.Break pos) (fun ρ => ret (.brk ρ)) := .of ps_break fun σ H ρ m ι P r er h => ⟨ρ, m, ι, r, er, .refl, RM.ret r h⟩
theorem ss_cont : SS X W (.Continue pos) (fun ρ => ret (.ct ρ)) := .of ps_continue fun σ H ρ m ι P r er h => ⟨ρ, m, ι, r, er, .refl, RM.ret r h⟩
theorem ss_retN : SS X W (.Return none pos) (fun _ => ret (.ret .non)) := .of ps_retN fun σ H ρ m ι P r er h => ⟨.non, m, ι, r, .non, .refl, RM.ret r h⟩
theorem ss_ret (he : SE X W e f) : SS X W (.Return (some e) pos) (fun ρ => bind (f ρ) fun d => ret (.ret d)) := .of (ps_ret he.pe) fun σ H ρ m ι P r er h =>
  tE_bind r er h fun d v m' ι' H' r' vr st er' h => ⟨d, m', ι', r', vr, st, RM.ret r' h⟩
theorem ss_expr (he : SE X W e f) (hs : swapsWith e none pos.line X.env = pure false) : SS X W (.Expr e pos) (fun ρ => bind (f ρ) fun _ => ret (.nx ρ)) := .of (ps_expr he.pe hs) fun σ H ρ m ι P r er h =>
  tE_bind r er h fun d v m' ι' H' r' vr st er' h => ⟨ρ, m', ι', r', er', st, RM.ret r' h⟩
theorem ER.set {K : Frag} {mg : Str → Option Value} (er : ER K mg ι H ρ σ) {d : D} {v : V} (vr : VR K mg ι H d v) (i : Nat) : ER K mg ι H (ρ.set i (some d)) (σ.set i (some v)) := by
  refine ⟨by rw [List.length_set, List.length_set, er.1], fun j d' h => ?_⟩
  by_cases hij : i = j
  · subst hij
    by_cases hl : i < ρ.length
    · rw [List.getElem?_set_self hl] at h
      cases h
      exact ⟨v, by rw [List.getElem?_set_self (er.1 ▸ hl)], vr⟩
    · rw [List.getElem?_eq_none (by rw [List.length_set]; omega)] at h; cases h
  · rw [List.getElem?_set_ne hij] at h ⊢
    exact er.2 j d' h
theorem ss_set {i : Nat} {x : Str} {pos' : Pos} (hN : X.N.Nodup) (hi : X.N[i]? = some x) (hx : Loc X.env.scope x) (he : SE X W e f) (hs : swapsWith e (some (.Name x pos')) pos.line X.env = pure false) (hf : X.fn x = true ∨ X.env.scope.names.lookup x = some .local) :
    SS X W (.Assign [.Name x pos'] e pos) (fun ρ => bind (f ρ) fun d => match asgT (.v i) d ρ with
      | some ρ' => ret (.nx ρ')
      | none => bad) := .of (ps_set hN hi hx he.pe hs hf) fun σ H ρ m ι P r er h =>
  tE_bind r er h fun d v m' ι' H' r' vr st er' h => by
    unfold asgT at h
    by_cases hl : i < ρ.length
    · rw [if_pos hl] at h
      exact ⟨_, m', ι', r', er'.set vr i, st, RM.ret r' h⟩
    · rw [if_neg hl] at h; exact (RM.bad h).elim
/-! ### sequences, if -/
theorem sss_nil : SSs X W [] (fun ρ => ret (.nx ρ)) := ⟨fun pins s σ H ρ m ι P I r er h => wpAny_execs_nil ⟨σ, H, I, ρ, m, ι, r, er, .refl, RM.ret r h⟩⟩
theorem sss_cons {E : XK} {st : Stmt} {sts : List Stmt} {f g : Env → M Fl} (h1 : SS X (fun c d _ H => E c d H) st f) (h2 : SSs X (fun c d _ H => E c d H) sts g) : SSs X (fun c d _ H => E c d H) (st :: sts) (fun ρ => bind (f ρ) fun fl => match fl with
    | .nx ρ' => g ρ'
    | g => ret g) := ⟨fun pins s σ H ρ m ι P I r er h => by
  refine (pss_cons h1.ps h2.pss).run pins s σ H _ I ⟨ρ, m, ι, _, r, er, RM.bind r h, fun σ' H' hn => ?_, fun v H' hn => ?_, fun σ' H' hn => ?_, fun σ' H' hn => ?_⟩
  · obtain ⟨ρ', m', ι', r', er', st', p⟩ := hn
    exact ⟨ρ', m', ι', P, r', er', p, fun _ _ q => ends_nx r st' r' q, fun _ _ q => ends_rt r st' r' q, fun _ _ q => ends_bk r st' r' q, fun _ _ q => ends_ct r st' r' q⟩
  · obtain ⟨d, m', ι', r', er', st', p⟩ := hn
    exact ⟨d, m', ι', r', er', st', RM.ret r' p⟩
  · obtain ⟨ρ', m', ι', r', er', st', p⟩ := hn
    exact ⟨ρ', m', ι', r', er', st', RM.ret r' p⟩
  · obtain ⟨ρ', m', ι', r', er', st', p⟩ := hn
    exact ⟨ρ', m', ι', r', er', st', RM.ret r' p⟩⟩
theorem ss_if {ft : Env → M Bool} {p q : List Stmt} {f g : Env → M Fl} (hc : ST X W c ft) (h1 : SSs X W p f) (h2 : SSs X W q g) : SS X W (.If c p q pos) (fun ρ => bind (ft ρ) fun r => if r then f ρ else g ρ) := .of (ps_if hc.pt h1.pss h2.pss) fun σ H ρ m ι P r er h =>
  tT_bind r er h fun b m' ι' H' r' st er' h => by
    cases b with
    | true => exact ⟨ρ, m', ι', P, r', er', h, fun _ _ q => ends_nx r st r' q, fun _ _ q => ends_rt r st r' q, fun _ _ q => ends_bk r st r' q, fun _ _ q => ends_ct r st r' q⟩
    | false => exact ⟨ρ, m', ι', P, r', er', h, fun _ _ q => ends_nx r st r' q, fun _ _ q => ends_rt r st r' q, fun _ _ q => ends_bk r st r' q, fun _ _ q => ends_ct r st r' q⟩
end
end Ev

/-! EvQ: targets, walks, loops. -/
namespace Ev
open PySem L2 PySem.Spec PyProof.Rows
/-- what a walk yields, at this state and all later ones -/
def ItR (X : Cx) (m : Mem) (ι : Map) (H : Hp) (it : Ev.It) (J : L2.It) : Prop := ∀ m' ι' H', Step m ι H m' ι' H' → HR X.K X.mg ι' H' m' → ∀ i,
  (∀ d, it.at_ i m' = some (some d) → J.go i H' ∧ ∀ x H2, J.yld i H' x H2 → ∃ ι2, HR X.K X.mg ι2 H2 m' ∧ VR X.K X.mg ι2 H2 d x ∧ Step m' ι' H' m' ι2 H2) ∧ (it.at_ i m' = some none → J.stop i H')
theorem ItR.step {X : Cx} {m m1 : Mem} {ι ι1 : Map} {H H1 : Hp} {it : Ev.It} {J : L2.It} (r : HR X.K X.mg ι H m) (h : ItR X m ι H it J) (st : Step m ι H m1 ι1 H1) (r1 : HR X.K X.mg ι1 H1 m1) : ItR X m1 ι1 H1 it J := fun m' ι' H' st' r' => h m' ι' H' (st.trans r r1 st') r'
structure SI (X : Cx) (W : WX) (tg iter : Expr) (f : Env → M Ev.It) : Prop where
  run : ∀ (pins : List (Addr × Obj)) (s : Shared) (σ : L2.St) (H : Hp) (ρ : Env) (m : Mem) (ι : Map) (P : Ev.It → Mem → Map → Hp → Prop), Inv X pins σ H s → HR X.K X.mg ι H m → ER X.K X.mg ι H ρ σ → XRM X W σ (f ρ) m ι H P →
    wpAny (model X.prog X.w) X.A (eval iter X.env) (fun v s1 => wpAny (model X.prog X.w) X.A (pyIter v) (PIE X pins σ tg fun J H' => ∃ it m' ι', HR X.K X.mg ι' H' m' ∧ Step m ι H m' ι' H' ∧ ItR X m' ι' H' it J ∧ P it m' ι' H') X.xe s1) X.xe s
/-- the slots of a target -/
def Tg.slots : Tg → List Nat
  | .v i => [i]
  | .tup ts => slotsL ts
where slotsL : List Tg → List Nat
  | [] => []
  | t :: r => t.slots ++ slotsL r
structure SG (X : Cx) (tg : Expr) (t : Tg) : Prop where
  run : ∀ (pins : List (Addr × Obj)) (s : Shared) (σ : L2.St) (H : Hp) (ρ ρ' : Env) (m : Mem) (ι : Map) (d : D) (v : V) (u : Value), Inv X pins σ H s → HR X.K X.mg ι H m → ER X.K X.mg ι H ρ σ → VR X.K X.mg ι H d v → RelV v u → asgT t d ρ = some ρ' →
    wpAny (model X.prog X.w) X.A (assign tg X.env u) (fun _ s' => ∃ σ', Inv X pins σ' H s' ∧ ER X.K X.mg ι H ρ' σ' ∧ ∀ j, j ∉ t.slots → σ'[j]? = σ[j]?) X.xe s
section
variable {X : Cx} {W : WX} {pins : List (Addr × Obj)} {σ : L2.St} {s : Shared} {m m1 : Mem} {ι ι1 : Map} {H H1 : Hp} {ρ : Env} {a b c e tg iter : Expr} {es : List Expr} {f fa fb fc : Env → M D} {fs gs : Env → M (List D)} {pos : Pos} {Pg : Prog}
theorem sg_name {i : Nat} {x : Str} (hN : X.N.Nodup) (hi : X.N[i]? = some x) (hx : Loc X.env.scope x) (hf : X.fn x = true ∨ X.env.scope.names.lookup x = some .local) : SG X (.Name x pos) (.v i) := ⟨fun pins s σ H ρ ρ' m ι d v u I r er vr q h => by
  unfold asgT at h
  split at h
  · cases h
    exact wpAny_assign_Name (store_ok I hN hi hx q (fun s' I' => ⟨_, I', er.set vr i, fun j hj => by rw [List.getElem?_set_ne]; rintro rfl; exact hj (List.mem_singleton.mpr rfl)⟩) hf)
  · cases h⟩
/-- ours as HandS's -/
def tI (X : Cx) (W : WX) (f : Env → M Ev.It) : TI := fun σ H R => ∃ ρ m ι P, HR X.K X.mg ι H m ∧ ER X.K X.mg ι H ρ σ ∧ XRM X W σ (f ρ) m ι H P ∧ ∀ it J m' ι' H', HR X.K X.mg ι' H' m' → Step m ι H m' ι' H' → ItR X m' ι' H' it J → P it m' ι' H' → R J H'
def tG (X : Cx) (t : Tg) : TG := fun v σ H Q => ∃ ρ d m ι ρ', HR X.K X.mg ι H m ∧ ER X.K X.mg ι H ρ σ ∧ VR X.K X.mg ι H d v ∧ asgT t d ρ = some ρ' ∧ ∀ σ', ER X.K X.mg ι H ρ' σ' → (∀ j, j ∉ t.slots → σ'[j]? = σ[j]?) → Q σ' H
theorem PIE.imp {R R' : L2.It → Hp → Prop} {u : Value} {s' : Shared} (h : PIE X pins σ tg R u s') (k : ∀ J H', R J H' → R' J H') : PIE X pins σ tg R' u s' := by
  obtain ⟨it, fp, tn, J, H', e, I, T, st, f, q⟩ := h
  exact ⟨it, fp, tn, J, H', e, I, T, st, f, k _ _ q⟩
theorem SI.pi {f : Env → M Ev.It} (h : SI X W tg iter f) : PI X tg iter (tI X W f) := ⟨fun pins s σ H R I ⟨ρ, m, ι, P, r, er, hh, k⟩ =>
  thn (h.run pins s σ H ρ m ι P I r er hh) fun v s1 q => thn q fun itv s2 q => Ev.PIE.imp q fun J H' ⟨it, m', ι', r', st, ir, p⟩ => k it J m' ι' H' r' st ir p⟩
theorem SG.pg {t : Tg} (h : SG X tg t) : PG X tg (tG X t) := ⟨fun pins s σ H v u Q I q ⟨ρ, d, m, ι, ρ', r, er, vr, e, k⟩ => thn (h.run pins s σ H ρ ρ' m ι d v u I r er vr q e) fun _ s' ⟨σ', I', er', o⟩ => ⟨σ', H, I', k σ' er' o⟩⟩
/-! ### what is walked -/
theorem walk_list {l : Addr} {xs : List V} {R : L2.It → Hp → Prop} {E : Value → Shared → Prop} (I : Inv X pins σ H s) (hq : SqL X.K H l xs) (q : R (Itl X.K l) H) : wpAny (model X.prog X.w) X.A (pyIter (.ref l)) (PIE X pins σ tg R) E s := by
  obtain ⟨us, rv, p, hz⟩ := I.list hq
  refine wpAny_pyIter_list p.isList ⟨s.heap.objs.size, [s.heap.objs.size], _, _, H, rfl, I.kept (t' := s.toks) fun b o z => Heap.get?_push_of_some _ z, turn_list l _, ⟨_, Heap.get?_push_size _ rfl, rfl, rfl⟩, fun b hb => ?_, q⟩
  obtain rfl : b = s.heap.objs.size := by simpa using hb
  exact I.fpOk (Nat.le_refl _) (I.hok.fresh (Nat.le_refl _))
theorem walk_tup {l : Addr} {xs : List V} {R : L2.It → Hp → Prop} {E : Value → Shared → Prop} (I : Inv X pins σ H s) (hq : SqT X.K H l xs) (q : R (Itt X.K l) H) : wpAny (model X.prog X.w) X.A (pyIter (.ref l)) (PIE X pins σ tg R) E s := by
  obtain ⟨us, rv, p, hz⟩ := I.tuple hq
  refine wpAny_pyIter_tuple (show s.heap.IsTuple l us.toArray from p) ⟨s.heap.objs.size, [s.heap.objs.size], _, _, H, rfl, I.kept (t' := s.toks) fun b o z => Heap.get?_push_of_some _ z, turn_tuple l _, ⟨_, Heap.get?_push_size _ rfl, rfl, rfl⟩, fun b hb => ?_, q⟩
  obtain rfl : b = s.heap.objs.size := by simpa using hb
  exact I.fpOk (Nat.le_refl _) (I.hok.fresh (Nat.le_refl _))
theorem itr_list {i : Nat} {l : Addr} (e : ι i = some l) (r : HR X.K X.mg ι H m) : ItR X m ι H (.one (.cell i)) (Itl X.K l) := fun m' ι' H' st r' j => by
  have e' := st.sub i l e
  have key : ∀ o, (Src.cell i).at_ j m' = some o → ∃ xs vs, SqL X.K H' l vs ∧ VRs X.K X.mg ι' H' xs vs ∧ o = xs[j]? := fun o ho => by
    have ho : (match m'[i]? with
      | some (.lst xs) => some xs[j]?
      | some (.ro xs) => some xs[j]?
      | _ => none) = some o := ho
    split at ho
    · rename_i xs hc
      obtain ⟨vs, sq, t⟩ := cell_seqL r' e' (.inl hc)
      cases ho; exact ⟨xs, vs, sq, t, rfl⟩
    · rename_i xs hc
      obtain ⟨vs, sq, t⟩ := cell_seqL r' e' (.inr hc)
      cases ho; exact ⟨xs, vs, sq, t, rfl⟩
    · cases ho
  refine ⟨fun d hd => ?_, fun hn => ?_⟩
  · obtain ⟨xs, vs, sq, t, eo⟩ := key _ hd
    obtain ⟨v, hv, vr⟩ := t.get eo.symm
    refine ⟨⟨vs, v, sq, hv⟩, fun x H2 ⟨eH, hx⟩ => ?_⟩
    subst eH
    have := hx vs sq
    rw [hv] at this; cases this
    exact ⟨ι', r', vr, .refl⟩
  · obtain ⟨xs, vs, sq, t, eo⟩ := key _ hn
    refine ⟨vs, sq, ?_⟩
    rw [← t.length]
    exact List.getElem?_eq_none_iff.mp eo.symm
theorem itr_vals {ds : List D} {vs : List V} {J : L2.It} (r : HR X.K X.mg ι H m) (t : VRs X.K X.mg ι H ds vs) (hJ : ∀ m' ι' H', Step m ι H m' ι' H' → HR X.K X.mg ι' H' m' → ∀ i, (∀ v, vs[i]? = some v → J.go i H' ∧ ∀ x H2, J.yld i H' x H2 → H2 = H' ∧ x = v) ∧ (vs.length ≤ i → J.stop i H')) :
    ItR X m ι H (.one (.vals ds)) J := fun m' ι' H' st r' i => by
  obtain ⟨h1, h2⟩ := hJ m' ι' H' st r' i
  refine ⟨fun d hd => ?_, fun hn => ?_⟩
  · obtain ⟨v, hv, vr⟩ := (t.step r st).get (show ds[i]? = some d from Option.some.inj hd)
    obtain ⟨g, y⟩ := h1 v hv
    refine ⟨g, fun x H2 hx => ?_⟩
    obtain ⟨rfl, rfl⟩ := y x H2 hx
    exact ⟨ι', r', vr, .refl⟩
  · refine h2 ?_
    rw [← t.length]
    exact List.getElem?_eq_none_iff.mp (show ds[i]? = none from Option.some.inj hn)
theorem itr_tup {ds : List D} {vs : List V} {l : Addr} (r : HR X.K X.mg ι H m) (sq : SqT X.K H l vs) (t : VRs X.K X.mg ι H ds vs) : ItR X m ι H (.one (.vals ds)) (Itt X.K l) := itr_vals r t fun m' ι' H' st r' i => by
  have sq' := st.sqT r sq
  refine ⟨fun v hv => ⟨⟨vs, v, sq', hv⟩, fun x H2 ⟨eH, hx⟩ => ⟨eH, ?_⟩⟩, fun hl => ⟨vs, sq', hl⟩⟩
  have := hx vs sq'
  rw [hv] at this; cases this; rfl
theorem ints_ok {K : Frag} {mg : Str → Option Value} (lo : Int) (n : Nat) : VRs K mg ι H (intsD lo n) ((List.range n).map fun i => V.int (lo + (i : Nat))) := by
  unfold intsD
  induction (List.range n) with
  | nil => exact .nil
  | cons i r ih => exact .cons (.int _) ih
theorem itr_range {lo : Int} {n : Nat} (r : HR X.K X.mg ι H m) : ItR X m ι H (.one (.vals (intsD lo n))) (Itr lo n) := itr_vals r (ints_ok lo n) fun m' ι' H' st r' i => by
  refine ⟨fun v hv => ?_, fun hl => ?_⟩
  · rw [List.getElem?_map] at hv
    by_cases hi : i < n
    · rw [List.getElem?_range hi] at hv
      cases hv
      exact ⟨hi, fun x H2 ⟨e1, e2⟩ => ⟨e1, e2⟩⟩
    · rw [List.getElem?_eq_none (by simp; omega)] at hv; cases hv
  · simp at hl; exact hl
/-- a list or a tuple -/
theorem si_of (he : SE X W e f) : SI X W tg e (fun ρ => bind (f ρ) fun d => bind (srcM d) fun s => ret (.one s)) := ⟨fun pins s σ H ρ m ι P I r er h => by
  refine he.then I r er h fun u s1 d v m1 ι1 H1 I1 q r1 er1 vr st h => ?_
  unfold srcM at h
  split at h
  · cases vr with
    | tup sq t =>
    obtain rfl : u = Value.ref _ := q
    exact walk_tup I1 sq ⟨_, m1, ι1, r1, st, itr_tup r1 sq t, RM.ret r1 (RM.retB r1 h)⟩
  · cases vr with
    | ref e =>
    obtain rfl : u = Value.ref _ := q
    have h1 := RM.bind r1 h
    obtain ⟨xs, hc, h1⟩ := RM.seq r1 h1
    obtain ⟨vs, sq, t⟩ := cell_seqL r1 e hc
    exact walk_list I1 sq ⟨_, m1, ι1, r1, st, itr_list e r1, RM.ret r1 (RM.ret r1 h1)⟩
  · exact (RM.bad (RM.bind r1 h)).elim⟩
/-- from a later state with the same memory -/
theorem RM.later {α : Type} {K : Frag} {mg : Str → Option Value} {W : XW} {x : M α} {P : α → Mem → Map → Hp → Prop} (r : HR K mg ι H m) (st : Step m ι H m ι1 H1) (r1 : HR K mg ι1 H1 m) (h : RM K mg W x m ι H P) : RM K mg W x m ι1 H1 P := by
  unfold RM at h ⊢
  cases e : x m with
  | ok a m' => rw [e] at h; exact fun ι' H' s' r' => h ι' H' (st.trans r r1 s') r'
  | exn c fs m' => rw [e] at h; exact fun ι' H' cls d s' r' x => h ι' H' cls d (st.trans r r1 s') r' x
  | bad => rw [e] at h; exact h
/-! ### for -/
theorem forLoop_W {E : XK} {fb : Env → M Fl} {t : Tg} {J : L2.It} {it : Ev.It} {P : Fl → Mem → Map → Hp → Prop} {D : Ends} {m0 : Mem} {ι0 : Map} {H0 : Hp} (r0 : HR X.K X.mg ι0 H0 m0) (ir : ItR X m0 ι0 H0 it J)
    (hD : ∀ {m' : Mem} {ι' : Map} {H' : Hp}, Step m0 ι0 H0 m' ι' H' → HR X.K X.mg ι' H' m' → (∀ σ' H2, (ends X m' ι' H' P).nx σ' H2 → D.nx σ' H2) ∧ (∀ v H2, (ends X m' ι' H' P).rt v H2 → D.rt v H2))
    (n : Nat) (h : XRM X (fun c d _ H => E c d H) σ (forLoop it (fun d ρ => match asgT t d ρ with
        | some ρ' => fb ρ'
        | none => bad) n 0 ρ) m0 ι0 H0 P) (er0 : ER X.K X.mg ι0 H0 ρ σ) :
    ∃ Wv : Nat → Nat → L2.St → Hp → Prop, (∃ m, Wv 0 m σ H0) ∧ ∀ i m σ H, Wv i m σ H → (J.stop i H ∧ D.nx σ H) ∨ (J.go i H ∧ ∃ N : L2.St → Hp → Prop, (∀ σ' H', N σ' H' → ∃ m', m' < m ∧ Wv (i + 1) m' σ' H') ∧
      ∀ x H', J.yld i H x H' → tG X t x σ H' fun σ2 H2 => tS X (fun c d _ H => E c d H) fb { D with nx := N, ct := N, bk := D.nx } σ2 H2) := by
  refine ⟨fun i k σ H => ∃ ρ m ι, HR X.K X.mg ι H m ∧ ER X.K X.mg ι H ρ σ ∧ Step m0 ι0 H0 m ι H ∧ XRM X (fun c d _ H => E c d H) σ (forLoop it (fun d ρ => match asgT t d ρ with
        | some ρ' => fb ρ'
        | none => bad) k i ρ) m ι H P, ⟨n, ρ, m0, ι0, r0, er0, .refl, h⟩, ?_⟩
  rintro i k σ H ⟨ρ, m, ι, r, er, st, h⟩
  have ir' := ir m ι H st r i
  obtain ⟨dn, dr⟩ := hD st r
  cases k with
  | zero =>
    unfold forLoop at h
    obtain ⟨o, eo, h⟩ := RM.ask r (RM.bind r h)
    cases o with
    | none => exact .inl ⟨ir'.2 eo, dn _ _ ⟨ρ, m, ι, r, er, .refl, RM.ret r h⟩⟩
    | some d => exact (RM.bad h).elim
  | succ k =>
    unfold forLoop at h
    obtain ⟨o, eo, h⟩ := RM.ask r (RM.bind r h)
    cases o with
    | none => exact .inl ⟨ir'.2 eo, dn _ _ ⟨ρ, m, ι, r, er, .refl, RM.ret r h⟩⟩
    | some d =>
      obtain ⟨go, yl⟩ := ir'.1 d eo
      refine .inr ⟨go, fun σ' H' => ∃ ρ' m' ι', HR X.K X.mg ι' H' m' ∧ ER X.K X.mg ι' H' ρ' σ' ∧ Step m0 ι0 H0 m' ι' H' ∧ XRM X (fun c d _ H => E c d H) σ' (forLoop it (fun d ρ => match asgT t d ρ with
        | some ρ' => fb ρ'
        | none => bad) k (i + 1) ρ') m' ι' H' P, fun σ' H' hN => ⟨k, Nat.lt_succ_self _, hN⟩, fun x H' hy => ?_⟩
      obtain ⟨ι2, r2, vr2, st2⟩ := yl x H' hy
      dsimp only at h
      split at h
      · rename_i ρ' ea
        refine ⟨ρ, d, m, ι2, ρ', r2, er.step r st2, vr2, ea, fun σ2 er2 _ => ?_⟩
        have sA := st.trans r0 r st2
        have h2 : XRM X (fun c d _ H => E c d H) σ2 (bind (fb ρ') fun f => match f with
            | .nx ρ' => forLoop it (fun d ρ => match asgT t d ρ with
        | some ρ' => fb ρ'
        | none => bad) k (i + 1) ρ'
            | .ct ρ' => forLoop it (fun d ρ => match asgT t d ρ with
        | some ρ' => fb ρ'
        | none => bad) k (i + 1) ρ'
            | .brk ρ' => ret (.nx ρ')
            | .ret d => ret (.ret d)) m ι2 H' P := by
          exact RM.later r st2 r2 h
        refine ⟨ρ', m, ι2, _, r2, er2, RM.bind r2 h2, fun σ' H3 hn => ?_, fun v H3 hn => ?_, fun σ' H3 hn => ?_, fun σ' H3 hn => ?_⟩
        · obtain ⟨ρ3, m3, ι3, r3, er3, st3, p⟩ := hn
          exact ⟨ρ3, m3, ι3, r3, er3, sA.trans r0 r2 st3, p⟩
        · obtain ⟨d3, m3, ι3, r3, vr3, st3, p⟩ := hn
          exact (hD sA r2).2 _ _ ⟨d3, m3, ι3, r3, vr3, st3, RM.ret r3 p⟩
        · obtain ⟨ρ3, m3, ι3, r3, er3, st3, p⟩ := hn
          exact (hD sA r2).1 _ _ ⟨ρ3, m3, ι3, r3, er3, st3, RM.ret r3 p⟩
        · obtain ⟨ρ3, m3, ι3, r3, er3, st3, p⟩ := hn
          exact ⟨ρ3, m3, ι3, r3, er3, sA.trans r0 r2 st3, p⟩
      · exact (RM.bad (RM.bind r h)).elim
theorem ss_for {E : XK} {body : List Stmt} {fb : Env → M Fl} {t : Tg} {fi : Env → M Ev.It} (hp : PassesOwn (model X.prog X.w) X.A X.env X.xe) (hc : X.calm = true) (hi : SI X (fun c d _ H => E c d H) tg iter fi) (hg : SG X tg t) (hb : SSs X (fun c d _ H => E c d H) body fb)
    (hs : ∀ x, foldedSetIterable iter X.env x = pure x) : SS X (fun c d _ H => E c d H) (.For tg iter body [] pos) (fun ρ => bind (fi ρ) fun it => bind (ask fun m => some (it.len m)) fun n =>
      forLoop it (fun d ρ => match asgT t d ρ with
        | some ρ' => fb ρ'
        | none => bad) n 0 ρ) := .of (ps_for hp hc hi.pi hg.pg hb.pss hs) fun σ H ρ m ι P r er h => by
  refine ⟨ρ, m, ι, _, r, er, RM.bind r h, fun it J m1 ι1 H1 r1 st1 ir h1 => ?_⟩
  obtain ⟨n, en, h1⟩ := RM.ask r1 (RM.bind r1 h1)
  exact forLoop_W r1 ir (fun st r' => ⟨fun σ' H2 q => ends_nx r (st1.trans r r1 st) r' q, fun v H2 q => ends_rt r (st1.trans r r1 st) r' q⟩) n h1 (er.step r st1)
/-- while -/
theorem ss_while {E : XK} {body : List Stmt} {fb : Env → M Fl} {ft : Env → M Bool} {w : Nat} (hp : PassesOwn (model X.prog X.w) X.A X.env X.xe) (hc : ST X (fun c d _ H => E c d H) c ft) (hb : SSs X (fun c d _ H => E c d H) body fb) :
    SS X (fun c d _ H => E c d H) (.While c body [] pos) (fun ρ => whileN ft fb w ρ) := .of (ps_while hp hc.pt hb.pss) fun σ H ρ m ι P r er h => by
  refine ⟨fun k σ1 H1 => ∃ ρ1 m1 ι1, HR X.K X.mg ι1 H1 m1 ∧ ER X.K X.mg ι1 H1 ρ1 σ1 ∧ Step m ι H m1 ι1 H1 ∧ XRM X (fun c d _ H => E c d H) σ1 (whileN ft fb k ρ1) m1 ι1 H1 P, ⟨w, ρ, m, ι, r, er, .refl, h⟩, ?_⟩
  rintro k σ1 H1 ⟨ρ1, m1, ι1, r1, er1, st1, h⟩
  cases k with
  | zero => exact (RM.bad h).elim
  | succ k =>
    unfold whileN at h
    refine tT_bind r1 er1 h fun b m2 ι2 H2 r2 st2 er2 h => ?_
    have sA := st1.trans r r1 st2
    cases b with
    | false =>
      rw [if_neg Bool.false_ne_true]
      exact ⟨ρ1, m2, ι2, r2, er2, sA, RM.ret r2 h⟩
    | true =>
      rw [if_pos rfl]
      refine ⟨fun σ' H' => ∃ ρ' m' ι', HR X.K X.mg ι' H' m' ∧ ER X.K X.mg ι' H' ρ' σ' ∧ Step m ι H m' ι' H' ∧ XRM X (fun c d _ H => E c d H) σ' (whileN ft fb k ρ') m' ι' H' P, fun σ' H' hN => ⟨k, Nat.lt_succ_self _, hN⟩, ?_⟩
      refine ⟨ρ1, m2, ι2, _, r2, er2, RM.bind r2 h, fun σ' H3 hn => ?_, fun v H3 hn => ?_, fun σ' H3 hn => ?_, fun σ' H3 hn => ?_⟩
      · obtain ⟨ρ3, m3, ι3, r3, er3, st3, p⟩ := hn
        exact ⟨ρ3, m3, ι3, r3, er3, sA.trans r r2 st3, p⟩
      · obtain ⟨d3, m3, ι3, r3, vr3, st3, p⟩ := hn
        exact ⟨d3, m3, ι3, r3, vr3, sA.trans r r2 st3, RM.ret r3 p⟩
      · obtain ⟨ρ3, m3, ι3, r3, er3, st3, p⟩ := hn
        exact ⟨ρ3, m3, ι3, r3, er3, sA.trans r r2 st3, RM.ret r3 p⟩
      · obtain ⟨ρ3, m3, ι3, r3, er3, st3, p⟩ := hn
        exact ⟨ρ3, m3, ι3, r3, er3, sA.trans r r2 st3, p⟩
end
end Ev

/-! EvZ: comprehensions, stores into items, displays of dicts, methods. -/
namespace Ev
open PySem L2 PySem.Spec PyProof.Rows
/-- nothing leaves by an exception -/
abbrev W0 : WX := fun _ _ _ _ => False
structure STs (X : Cx) (W : WX) (es : List Expr) (f : Env → M Bool) : Prop where
  run : ∀ (pins : List (Addr × Obj)) (s : Shared) (σ : L2.St) (H : Hp) (ρ : Env) (m : Mem) (ι : Map) (P : Bool → Mem → Map → Hp → Prop), Inv X pins σ H s → HR X.K X.mg ι H m → ER X.K X.mg ι H ρ σ → XRM X W σ (f ρ) m ι H P →
    wpAny (model X.prog X.w) X.A (forIn es true fun c r => if r = true then do let ok ← isTrue c X.env (eval c X.env); pure (ForInStep.yield ok) else pure (ForInStep.yield r)) (BP X pins σ m ι H P) X.xe s
section
variable {X : Cx} {W : WX} {pins : List (Addr × Obj)} {σ : L2.St} {s : Shared} {m m1 : Mem} {ι ι1 : Map} {H H1 : Hp} {ρ : Env} {a b c e tg iter elt : Expr} {es ifs : List Expr} {f fa fb fc fe : Env → M D} {fs gs : Env → M (List D)} {pos : Pos} {Pg : Prog} {t : Tg}
theorem sts_nil : STs X W [] (fun _ => ret true) := ⟨fun pins s σ H ρ m ι P I r er h => wpAny_tests_nil ⟨m, ι, H, I, r, .refl, RM.ret r h⟩⟩
theorem sts_one {ft : Env → M Bool} (h : ST X W c ft) : STs X W [c] ft := ⟨fun pins s σ H ρ m ι P I r er hh => wpAny_tests_one (h.run _ pins s σ H ρ m ι P rfl I r er hh)⟩
theorem STs.pts {ft : Env → M Bool} (h : STs X W es ft) : PTs X es (tT X W ft) := ⟨fun pins s σ H Q I ⟨ρ, m, ι, P, r, er, hh, k⟩ =>
  thn (h.run pins s σ H ρ m ι P I r er hh) fun c s1 ⟨m', ι', H', I', r', st, p⟩ => ⟨H', I', k c m' ι' H' r' st p⟩⟩
theorem wipe_get (ρ : Env) : ∀ (vs : List Nat) (j : Nat), (Ev.wipe ρ vs)[j]? = if j ∈ vs ∧ j < ρ.length then some none else ρ[j]?
  | [], j => by simp [Ev.wipe]
  | v :: vs, j => by
    unfold Ev.wipe
    have hl : ∀ vs : List Nat, (Ev.wipe ρ vs).length = ρ.length := fun vs => by
      induction vs with
      | nil => rfl
      | cons v vs ih => unfold Ev.wipe; rw [List.length_set, ih]
    by_cases hv : v = j
    · subst hv
      by_cases hj : v < ρ.length
      · rw [List.getElem?_set_self (by rw [hl]; exact hj), if_pos ⟨List.mem_cons_self, hj⟩]
      · rw [List.getElem?_eq_none (by rw [List.length_set, hl]; omega), if_neg (fun z => hj z.2), List.getElem?_eq_none (by omega)]
    · rw [List.getElem?_set_ne hv, wipe_get ρ vs j]
      by_cases h1 : j ∈ vs ∧ j < ρ.length
      · rw [if_pos h1, if_pos ⟨List.mem_cons_of_mem _ h1.1, h1.2⟩]
      · rw [if_neg h1, if_neg]
        rintro ⟨h2, h3⟩
        rcases List.mem_cons.mp h2 with z | z
        · exact hv z.symm
        · exact h1 ⟨z, h3⟩
theorem wipe_getS (σ : L2.St) : ∀ (vs : List Nat) (j : Nat), (L2.wipe σ vs)[j]? = if j ∈ vs ∧ j < σ.length then some none else σ[j]?
  | [], j => by simp [L2.wipe]
  | v :: vs, j => by
    unfold L2.wipe
    by_cases hv : v = j
    · subst hv
      by_cases hj : v < σ.length
      · rw [List.getElem?_set_self (by rw [wipe_length]; exact hj), if_pos ⟨List.mem_cons_self, hj⟩]
      · rw [List.getElem?_eq_none (by rw [List.length_set, wipe_length]; omega), if_neg (fun z => hj z.2), List.getElem?_eq_none (by omega)]
    · rw [List.getElem?_set_ne hv, wipe_getS σ vs j]
      by_cases h1 : j ∈ vs ∧ j < σ.length
      · rw [if_pos h1, if_pos ⟨List.mem_cons_of_mem _ h1.1, h1.2⟩]
      · rw [if_neg h1, if_neg]
        rintro ⟨h2, h3⟩
        rcases List.mem_cons.mp h2 with z | z
        · exact hv z.symm
        · exact h1 ⟨z, h3⟩
theorem ER.wipe {K : Frag} {mg : Str → Option Value} (er : ER K mg ι H ρ σ) (vs : List Nat) : ER K mg ι H (Ev.wipe ρ vs) (L2.wipe σ vs) := by
  have hl : (Ev.wipe ρ vs).length = ρ.length := by
    induction vs with
    | nil => rfl
    | cons v vs ih => unfold Ev.wipe; rw [List.length_set, ih]
  refine ⟨by rw [hl, wipe_length, er.1], fun j d h => ?_⟩
  rw [wipe_get] at h
  rw [wipe_getS]
  by_cases h1 : j ∈ vs ∧ j < ρ.length
  · rw [if_pos h1] at h; cases h
  · rw [if_neg h1] at h
    rw [if_neg (er.1 ▸ h1)]
    exact er.2 j d h
theorem wipe_eq {σ σ' : L2.St} {vs : List Nat} (hl : σ'.length = σ.length) (h : ∀ j, j ∉ vs → σ'[j]? = (L2.wipe σ vs)[j]?) : L2.wipe σ' vs = L2.wipe σ vs := by
  refine List.ext_getElem? fun j => ?_
  rw [wipe_getS σ' vs j]
  by_cases h1 : j ∈ vs
  · by_cases h2 : j < σ'.length
    · rw [if_pos ⟨h1, h2⟩, wipe_getS, if_pos ⟨h1, hl ▸ h2⟩]
    · rw [if_neg (fun z => h2 z.2), wipe_getS, if_neg (fun z => h2 (hl ▸ z.2)), List.getElem?_eq_none (by omega), List.getElem?_eq_none (by omega)]
  · rw [if_neg (fun z => h1 z.1), h j h1]
/-- the turns of a comprehension -/
def turnF (t : Tg) (own : List Nat) (ft : Env → M Bool) (fe : Env → M D) (ρ : Env) : D → M (Option D) := fun d => match asgT t d (Ev.wipe ρ own) with
  | some ρ' => quiet (bind (ft ρ') fun c => if c then bind (fe ρ') fun y => ret (some y) else ret none)
  | none => bad
theorem RM.quiet {α : Type} {K : Frag} {mg : Str → Option Value} {W W' : XW} {x : M α} {P : α → Mem → Map → Hp → Prop} (h : RM K mg W (Ev.quiet x) m ι H P) : RM K mg W' x m ι H P := by
  unfold RM Ev.quiet at h
  unfold RM
  cases e : x m with
  | ok a m' => rw [e] at h; exact h
  | exn c fs m' => rw [e] at h; exact h.elim
  | bad => rw [e] at h; exact h
/-- a new cell is laid at an address that is free -/
theorem alloc_at {β : Type} {K : Frag} {mg : Str → Option Value} {W : XW} {c : Cell} {o : HO} {p : Addr} {g : D → M β} {P : β → Mem → Map → Hp → Prop} (r : HR K mg ι H m) (hp : H p = none) (hc : isRo c = false) (q : CR K mg (ext ι m.length p) (upd H p o) p c) (h : RM K mg W (bind (alloc c) g) m ι H P) :
    Step m ι H (m ++ [c]) (ext ι m.length p) (upd H p o) ∧ HR K mg (ext ι m.length p) (upd H p o) (m ++ [c]) ∧ RM K mg W (g (.ref m.length)) (m ++ [c]) (ext ι m.length p) (upd H p o) P := by
  have st : Step m ι H (m ++ [c]) (ext ι m.length p) (upd H p o) := Step.alloc r hp
  have r' : HR K mg (ext ι m.length p) (upd H p o) (m ++ [c]) := HR.alloc r hp hc q
  exact ⟨st, r', (RM.bind r h : RM K mg W (alloc c) m ι H _) _ _ st r'⟩
/-- a cell is written -/
theorem put_at {β : Type} {K : Frag} {mg : Str → Option Value} {W : XW} {c d : Cell} {o : HO} {i : Nat} {p : Addr} {g : Unit → M β} {P : β → Mem → Map → Hp → Prop} (r : HR K mg ι H m) (hi : m[i]? = some d) (e : ι i = some p) (hd : isRo d = false) (hc : isRo c = false) (q : CR K mg ι (upd H p o) p c) (h : RM K mg W (bind (put i c) g) m ι H P) :
    Step m ι H (m.set i c) ι (upd H p o) ∧ HR K mg ι (upd H p o) (m.set i c) ∧ RM K mg W (g ()) (m.set i c) ι (upd H p o) P := by
  have st : Step m ι H (m.set i c) ι (upd H p o) := Step.write r hi e hd hc
  have r' : HR K mg ι (upd H p o) (m.set i c) := HR.write r hi e hd hc q
  exact ⟨st, r', (RM.bind r h : RM K mg W (put i c) m ι H _) _ _ st r'⟩
mutual
theorem asgT_len : ∀ {t : Tg} {d : D} {ρ ρ' : Env}, asgT t d ρ = some ρ' → ρ'.length = ρ.length
  | .v i, d, ρ, ρ', h => by
    unfold asgT at h
    split at h
    · cases h; rw [List.length_set]
    · cases h
  | .tup ts, d, ρ, ρ', h => by
    cases d <;> first
      | (unfold asgT at h; cases h; done)
      | (unfold asgT at h; exact asgTs_len h)
theorem asgTs_len : ∀ {ts : List Tg} {ds : List D} {ρ ρ' : Env}, asgTs ts ds ρ = some ρ' → ρ'.length = ρ.length
  | [], [], ρ, ρ', h => by unfold asgTs at h; cases h; rfl
  | [], _ :: _, ρ, ρ', h => by unfold asgTs at h; cases h
  | _ :: _, [], ρ, ρ', h => by unfold asgTs at h; cases h
  | t :: ts, d :: ds, ρ, ρ', h => by
    unfold asgTs at h
    split at h
    · rename_i ρ1 e; rw [asgTs_len h, asgT_len e]
    · cases h
end
theorem wipeE_len (ρ : Env) : ∀ vs : List Nat, (Ev.wipe ρ vs).length = ρ.length
  | [] => rfl
  | v :: vs => by unfold Ev.wipe; rw [List.length_set, wipeE_len ρ vs]
theorem lc_run {fi : Env → M Ev.It} {ft : Env → M Bool} {own : List Nat} {P : D → Mem → Map → Hp → Prop} {Q : VK} (hsl : ∀ j ∈ t.slots, j ∈ own) (r : HR X.K X.mg ι H m) (er : ER X.K X.mg ι H ρ σ)
    (h : XRM X W σ (bind (fi ρ) fun it => bind (ask fun m => some (it.len m)) fun n => lcM it (turnF t own ft fe ρ) n) m ι H P)
    (k : ∀ d v m' ι' H', HR X.K X.mg ι' H' m' → VR X.K X.mg ι' H' d v → Step m ι H m' ι' H' → P d m' ι' H' → Q v H') : tLc (tI X W fi) (tG X t) (tT X W0 ft) (tE X W0 fe) own σ H Q := by
  refine ⟨ρ, m, ι, _, r, er, RM.bind r h, fun it J m1 ι1 H1 r1 st1 ir h => ?_⟩
  intro A0 hD
  obtain ⟨n, en, h⟩ := RM.ask r1 (RM.bind r1 h)
  unfold lcM at h
  obtain ⟨st2, r2, h⟩ := alloc_at (c := .lst []) (o := .lst []) r1 hD rfl ⟨[], upd_same, .nil⟩ h
  have sB := st1.trans r r1 st2
  refine ⟨fun i k H' => ∃ m' ι', HR X.K X.mg ι' H' m' ∧ Step m ι H m' ι' H' ∧ Step m1 ι1 H1 m' ι' H' ∧ ι' m1.length = some A0 ∧ XRM X W σ (lcLoop it (turnF t own ft fe ρ) m1.length k i) m' ι' H' (fun _ m'' ι'' H'' => XRM X W σ (ret (.ref m1.length)) m'' ι'' H'' P),
    ⟨n, _, _, r2, sB, st2, if_pos rfl, RM.bind r2 h⟩, ?_⟩
  rintro i n H3 ⟨m3, ι3, r3, s3, s13, e3, h⟩
  have ir3 := ir m3 ι3 H3 s13 r3 i
  have stop : it.at_ i m3 = some none → XRM X W σ (ret ()) m3 ι3 H3 (fun _ m1' ι1' H1' => XRM X W σ (ret (.ref m1.length)) m1' ι1' H1' P) → J.stop i H3 ∧ Q (.ref A0) H3 := fun eo h => by
    exact ⟨ir3.2 eo, k _ _ _ _ _ r3 (.ref e3) s3 (RM.ret r3 (RM.ret r3 h))⟩
  cases n with
  | zero =>
    unfold lcLoop at h
    obtain ⟨o, eo, h⟩ := RM.ask r3 (RM.bind r3 h)
    cases o with
    | none => exact .inl (stop eo h)
    | some d => exact (RM.bad h).elim
  | succ n =>
    unfold lcLoop at h
    obtain ⟨o, eo, h⟩ := RM.ask r3 (RM.bind r3 h)
    cases o with
    | none => exact .inl (stop eo h)
    | some d =>
      obtain ⟨go, yl⟩ := ir3.1 d eo
      refine .inr ⟨go, fun H' => ∃ m' ι', HR X.K X.mg ι' H' m' ∧ Step m ι H m' ι' H' ∧ Step m1 ι1 H1 m' ι' H' ∧ ι' m1.length = some A0 ∧ XRM X W σ (lcLoop it (turnF t own ft fe ρ) m1.length n (i + 1)) m' ι' H' (fun _ m'' ι'' H'' => XRM X W σ (ret (.ref m1.length)) m'' ι'' H'' P), fun H' hN => ⟨n, Nat.lt_succ_self _, hN⟩, fun x H' hy => ?_⟩
      obtain ⟨ι4, r4, vr4, s4⟩ := yl x H' hy
      have h := RM.later r3 s4 r4 h
      have sm := s3.trans r r3 s4
      have sm1 := s13.trans r1 r3 s4
      have h := RM.bind r4 h
      unfold turnF at h
      split at h
      · rename_i ρ' ea
        refine ⟨_, d, m3, ι4, ρ', r4, (er.step r sm).wipe own, vr4, ea, fun σ2 er2 ho => ⟨?_, ?_⟩⟩
        · refine wipe_eq ?_ fun j hj => ho j fun z => hj (hsl j z)
          rw [← er2.1, asgT_len ea, wipeE_len, er.1]
        · have h := RM.quiet (W' := fun _ _ _ => False) h
          refine ⟨ρ', m3, ι4, _, r4, er2, RM.bind r4 h, fun c m5 ι5 H5 r5 s5 h => ?_⟩
          have er5 := er2.step r4 s5
          cases c with
          | true =>
            show if true = true then _ else _
            rw [if_pos rfl]
            refine ⟨ρ', m5, ι5, _, r5, er5, RM.bind r5 h, fun y v m6 ι6 H6 r6 vr6 s6 h => ?_⟩
            have h := RM.bind r6 (RM.ret r6 h)
            have sX := s5.trans r4 r5 s6
            have e6 := sX.sub _ _ (s4.sub _ _ e3)
            unfold pushM at h
            obtain ⟨acc, ec, h⟩ := RM.lst r6 h
            obtain ⟨vs, g6, t6⟩ := r6.get ec e6
            split at h
            · rename_i hz
              have hz := of_decide_eq_true hz
              rw [t6.length] at hz
              have s7 : Step m6 ι6 H6 (m6.set m1.length (.lst (acc ++ [y]))) ι6 (upd H6 A0 (.lst (vs ++ [v]))) := Step.write r6 ec e6 rfl rfl
              have r7 : HR X.K X.mg ι6 (upd H6 A0 (.lst (vs ++ [v]))) (m6.set m1.length (.lst (acc ++ [y]))) := HR.write r6 ec e6 rfl rfl ⟨_, upd_same, (t6.append (.cons vr6 .nil)).step r6 s7⟩
              refine ⟨vs, g6, hz, _, ι6, r7, (sm.trans r r4 sX).trans r r6 s7, (sm1.trans r1 r4 sX).trans r1 r6 s7, s7.sub _ _ e6, ?_⟩
              exact h _ _ s7 r7
            · exact (RM.bad h).elim
          | false =>
            show if false = true then _ else _
            rw [if_neg Bool.false_ne_true]
            exact ⟨m5, ι5, r5, sm.trans r r4 s5, sm1.trans r1 r4 s5, s5.sub _ _ (s4.sub _ _ e3), RM.ret r5 h⟩
      · exact (RM.bad h).elim
end
end Ev

/-! EvZ2: comprehensions as values, stores into items, displays of dicts, methods. -/
namespace Ev
open PySem L2 PySem.Spec PyProof.Rows
section
variable {X : Cx} {W : WX} {pins : List (Addr × Obj)} {σ : L2.St} {s : Shared} {m m1 : Mem} {ι ι1 : Map} {H H1 : Hp} {ρ : Env} {a b c e tg iter elt o i : Expr} {es ifs : List Expr} {f fa fb fc fe fo fi' : Env → M D} {fs gs : Env → M (List D)} {pos : Pos} {Pg : Prog} {t : Tg}
def lcF (t : Tg) (own : List Nat) (fi : Env → M Ev.It) (ft : Env → M Bool) (fe : Env → M D) (ρ : Env) : M D := bind (fi ρ) fun it => bind (ask fun m => some (it.len m)) fun n => lcM it (turnF t own ft fe ρ) n
theorem se_lc {scope : Scope} {own : List (Str × Nat)} {fi : Env → M Ev.It} {ft : Env → M Bool} (hc : X.calm = true) (hN : X.N.Nodup) (hi : SI X W tg iter fi) (ok : BlkOk X.N X.env.scope scope own)
    (hg : ∀ (s : Shared) (H : Hp) (C : Addr) (cl : List (Str × Addr)) (fp : List Addr), SG (X.blk s H scope (compEnvC scope cl C X.env) fp) tg t) (ht : ∀ (s : Shared) (H : Hp) (C : Addr) (cl : List (Str × Addr)) (fp : List Addr), STs (X.blk s H scope (compEnvC scope cl C X.env) fp) W0 ifs ft)
    (he : ∀ (s : Shared) (H : Hp) (C : Addr) (cl : List (Str × Addr)) (fp : List Addr), SE (X.blk s H scope (compEnvC scope cl C X.env) fp) W0 elt fe) (hs : ∀ x, foldedSetIterable iter X.env x = pure x) (hsl : ∀ j ∈ t.slots, j ∈ own.map (·.2)) :
    SE X W (.ListComp elt [⟨tg, iter, ifs, 0⟩] scope pos) (lcF t (own.map (·.2)) fi ft fe) := ⟨fun pins s σ H ρ m ι P I r er h => by
  refine thn ((pe_lc (te := tE X W0 fe) (tt := tT X W0 ft) (g := tG X t) hc hN hi.pi ok (fun s H C cl fp => (hg s H C cl fp).pg) (fun s H C cl fp => (ht s H C cl fp).pts) (fun s H C cl fp => (he s H C cl fp).pe) hs).run pins s σ H _ I
    (lc_run (Q := fun v H' => ∃ d m' ι', HR X.K X.mg ι' H' m' ∧ VR X.K X.mg ι' H' d v ∧ Step m ι H m' ι' H' ∧ P d m' ι' H') hsl r er h fun d v m' ι' H' r' vr st p => ⟨d, m', ι', r', vr, st, p⟩)) fun u s1 q => ep_vp q⟩
theorem ss_setLc {j : Nat} {y : Str} {py spos : Pos} {scope : Scope} {own : List (Str × Nat)} {fi : Env → M Ev.It} {ft : Env → M Bool} (hc : X.calm = true) (hN : X.N.Nodup) (hy : X.N[j]? = some y) (hyl : X.env.scope.names.lookup y = some .local)
    (hsw : swapsWith (.ListComp elt [⟨tg, iter, ifs, 0⟩] scope pos) (some (.Name y py)) spos.line X.env = pure true) (hi : SI X W tg iter fi) (ok : BlkOk X.N X.env.scope scope own)
    (hg : ∀ (s : Shared) (H : Hp) (C : Addr) (cl : List (Str × Addr)) (fp : List Addr), SG (X.blk s H scope (compEnvC scope cl C X.env) fp) tg t) (ht : ∀ (s : Shared) (H : Hp) (C : Addr) (cl : List (Str × Addr)) (fp : List Addr), STs (X.blk s H scope (compEnvC scope cl C X.env) fp) W0 ifs ft)
    (he : ∀ (s : Shared) (H : Hp) (C : Addr) (cl : List (Str × Addr)) (fp : List Addr), SE (X.blk s H scope (compEnvC scope cl C X.env) fp) W0 elt fe) (hs : ∀ x, foldedSetIterable iter X.env x = pure x) (hsl : ∀ j ∈ t.slots, j ∈ own.map (·.2)) :
    SS X W (.Assign [.Name y py] (.ListComp elt [⟨tg, iter, ifs, 0⟩] scope pos) spos) (fun ρ => bind (lcF t (own.map (·.2)) fi ft fe ρ) fun d => match asgT (.v j) d ρ with
      | some ρ' => ret (.nx ρ')
      | none => bad) :=
  .of (ps_setLc (te := tE X W0 fe) (tt := tT X W0 ft) (g := tG X t) hc hN hy hyl hsw hi.pi ok (fun s H C cl fp => (hg s H C cl fp).pg) (fun s H C cl fp => (ht s H C cl fp).pts) (fun s H C cl fp => (he s H C cl fp).pe) hs) fun σ H ρ m ι P r er h =>
    lc_run hsl r er (RM.bind r h) fun d v m' ι' H' r' vr st h => by
      unfold asgT at h
      by_cases hl : j < ρ.length
      · rw [if_pos hl] at h
        exact ⟨_, m', ι', r', (er.step r st).set vr j, st, RM.ret r' h⟩
      · rw [if_neg hl] at h; exact (RM.bad h).elim
/-! ### o[i] = v -/
theorem PSet.or {t u : TSet} (h1 : PSet X t) (h2 : PSet X u) : PSet X (fun o i v H Q => t o i v H Q ∨ u o i v H Q) := by
  intro pins s σ H o i v ov iv w Q I ro ri rv h
  rcases h with h | h
  · exact h1 pins s σ H o i v ov iv w Q I ro ri rv h
  · exact h2 pins s σ H o i v ov iv w Q I ro ri rv h
theorem KR.put {κ : Type} [DecidableEq κ] {K : Frag} {mg : Str → Option Value} {ks : List (κ × D)} {us : List (κ × V)} (h : KR K mg ι H ks us) {k : κ} {d : D} {v : V} (vr : VR K mg ι H d v) : KR K mg ι H (putA ks k d) (putK us k v) := by
  have any_ : (ks.any fun kv => decide (kv.1 = k)) = us.any fun kv => decide (kv.1 = k) := by
    induction h with
    | nil => rfl
    | cons _ _ ih => simp only [List.any_cons, ih]
  unfold putA putK
  rw [any_]
  split
  · clear any_
    induction h with
    | nil => exact .nil
    | @cons q d' v' r t hv ht ih =>
      rename_i hh
      simp only [List.map_cons]
      have tail : KR K mg ι H (r.map fun kv => if kv.1 = k then (kv.1, d) else kv) (t.map fun kv => if kv.1 = k then (kv.1, v) else kv) := by
        clear ih hh
        induction ht with
        | nil => exact .nil
        | @cons q d' v' r t hv ht ih =>
          simp only [List.map_cons]
          by_cases e : q = k
          · simp only [e, if_true]; exact .cons vr ih
          · simp only [e, if_false]; exact .cons hv ih
      by_cases e : q = k
      · simp only [e, if_true]; exact .cons vr tail
      · simp only [e, if_false]; exact .cons hv tail
  · clear any_
    induction h with
    | nil => exact .cons vr .nil
    | @cons q d' v' r t hv ht ih =>
      rename_i hh
      have tail : KR K mg ι H (r ++ [(k, d)]) (t ++ [(k, v)]) := by
        clear ih hh
        induction ht with
        | nil => exact .cons vr .nil
        | cons hv ht ih => exact .cons hv ih
      exact .cons hv tail
theorem KR.length {κ : Type} {K : Frag} {mg : Str → Option Value} {ks : List (κ × D)} {us : List (κ × V)} (h : KR K mg ι H ks us) : ks.length = us.length := by
  induction h with
  | nil => rfl
  | cons _ _ ih => simp [ih]
theorem set_ok {d1 d2 d3 : D} {v1 v2 v3 : V} {P : Unit → Mem → Map → Hp → Prop} {Q : Hp → Prop} (r : HR X.K X.mg ι H m) (h1 : VR X.K X.mg ι H d1 v1) (h2 : VR X.K X.mg ι H d2 v2) (h3 : VR X.K X.mg ι H d3 v3) (h : XRM X W σ (setIxM d1 d2 d3) m ι H P)
    (k : ∀ m' ι' H', HR X.K X.mg ι' H' m' → Step m ι H m' ι' H' → P () m' ι' H' → Q H') : rSetL v1 v2 v3 H Q ∨ rSetD v1 v2 v3 H Q := by
  unfold setIxM at h
  split at h
  · cases h1 with
    | ref e =>
    obtain ⟨c, hc, h⟩ := RM.cell r h
    split at h
    · split at h
      · cases h2
        obtain ⟨n, en, h⟩ := RM.optB r h
        obtain ⟨vs, g, t⟩ := r.get hc e
        rw [t.length] at en
        rename_i a cc xs i0 j0 hh hg
        refine .inl ⟨_, vs, _, n, rfl, rfl, g, en, ?_⟩
        have s7 := Step.write (c := .lst (xs.set n d3)) (o := .lst (vs.set n v3)) r hc e rfl rfl
        have r7 := HR.write (o := .lst (vs.set n v3)) r hc e rfl (c := .lst (xs.set n d3)) rfl ⟨_, upd_same, (t.set h3 n).step r s7⟩
        exact k _ _ _ r7 s7 (h _ _ s7 r7)
      · exact (RM.bad h).elim
    · obtain ⟨q, eq, h⟩ := RM.optB r h
      split at h
      · rename_i hl
        have hl := of_decide_eq_true hl
        obtain ⟨us, g, t⟩ := r.get hc e
        rw [t.length] at hl
        rename_i a cc kvs hh hg
        refine .inr ⟨_, upd H a (.dK (putK us q v3)), rfl, ?_, ?_⟩
        · rw [key_V h2 eq]; exact DPut.k g hl
        · have s7 := Step.write (c := .dct (putA kvs q d3)) (o := .dK (putK us q v3)) r hc e rfl rfl
          have r7 := HR.write (o := .dK (putK us q v3)) r hc e rfl (c := .dct (putA kvs q d3)) rfl ⟨_, upd_same, (t.put h3).step r s7⟩
          exact k _ _ _ r7 s7 (h _ _ s7 r7)
      · exact (RM.bad h).elim
    · exact (RM.bad h).elim
  · exact (RM.bad h).elim
def plainI : Expr → Bool
  | .Slice _ _ _ _ => false
  | _ => true
theorem plainI_ix (h : plainI b = true) : PlainIx b := by
  intro o i
  cases b <;> first | (cases h; done) | rfl
theorem ss_setIx (hu : X.A.units + 1 < cLine) (hv : SE X W e f) (ho : SE X W o fo) (hi : SE X W i fi') (hp : plainI i = true) {ip : Pos} (hsw : swapsWithSole [.Subscript o i ip] e pos.line X.env = pure false) :
    SS X W (.Assign [.Subscript o i ip] e pos) (fun ρ => bind (f ρ) fun d => bind (fo ρ) fun x => bind (fi' ρ) fun y => bind (setIxM x y d) fun _ => ret (.nx ρ)) :=
  .of (ps_asg hv.pe (pg_sub ho.pe hi.pe (PSet.or set_list (set_dict hu)) (by intro v; cases i <;> first | (cases hp; done) | rfl)) hsw) fun σ H ρ m ι P r er h =>
    tE_bind r er h fun d v m1 ι1 H1 r1 vr1 st1 er1 h => tE_bind r1 er1 h fun x v2 m2 ι2 H2 r2 vr2 st2 er2 h => tE_bind r2 er2 h fun y v3 m3 ι3 H3 r3 vr3 st3 er3 h => by
      have s13 := st2.trans r1 r2 st3
      refine set_ok r3 (vr2.step r2 st3) vr3 (vr1.step r1 s13) (RM.bind r3 h) fun m4 ι4 H4 r4 s4 h => ?_
      exact ⟨ρ, m4, ι4, r4, er3.step r3 s4, (st1.trans r r1 s13).trans r r3 s4, RM.ret r4 h⟩
end
end Ev

/-! EvZ3: displays of dicts, methods of lists and dicts. -/
namespace Ev
open PySem L2 PySem.Spec PyProof.Rows
/-- the pairs of a display: constant keys -/
structure SPs (X : Cx) (W : WX) (ks : List (Option Expr)) (vs : List Expr) (qs : List Key) (f : Env → M (List D)) : Prop where
  run : ∀ (pos : Pos) (pins : List (Addr × Obj)) (s : Shared) (σ : L2.St) (H : Hp) (ρ : Env) (m : Mem) (ι : Map) (P : List D → Mem → Map → Hp → Prop), Inv X pins σ H s → HR X.K X.mg ι H m → ER X.K X.mg ι H ρ σ → XRM X W σ (f ρ) m ι H P →
    wpAny (model X.prog X.w) X.A (evalPairs (pairTrees ks vs X.env pos)) (fun us s' => ∃ ds ws m' ι' H', Inv X pins σ H' s' ∧ VV (ws.map fun kv => (kV kv.1, kv.2)) us ∧ HR X.K X.mg ι' H' m' ∧ KR X.K X.mg ι' H' (qs.zip ds) ws ∧ qs.length = ds.length ∧ Step m ι H m' ι' H' ∧ P ds m' ι' H') X.xe s
section
variable {X : Cx} {W : WX} {pins : List (Addr × Obj)} {σ : L2.St} {s : Shared} {m m1 : Mem} {ι ι1 : Map} {H H1 : Hp} {ρ : Env} {a b c e o i : Expr} {es : List Expr} {f fa fb fc fe fo : Env → M D} {fs gs : Env → M (List D)} {pos : Pos} {Pg : Prog} {ks : List (Option Expr)} {vs : List Expr} {qs : List Key}
theorem sps_nil : SPs X W [] [] [] (fun _ => ret []) := ⟨fun pos pins s σ H ρ m ι P I r er h => pairTrees_nil_walk ⟨[], [], m, ι, H, I, .nil, r, .nil, rfl, .refl, RM.ret r h⟩⟩
theorem sps_cons {x : Const} {j : Nat} {kp : Pos} {q : Key} (hq : keyC x = some q) (ha : SE X W e f) (h : SPs X W ks vs qs fs) : SPs X W (some (.Constant x j kp) :: ks) (e :: vs) (q :: qs) (fun ρ => bind (f ρ) fun d => bind (fs ρ) fun ds => ret (d :: ds)) := ⟨fun pos pins s σ H ρ m ι P I r er hh => by
  have hk : ∃ d, trC x = some d ∧ d = kD q := by
    cases x <;> first | (cases hq; exact ⟨_, rfl, rfl⟩) | cases hq
  obtain ⟨d, hd, ed⟩ := hk
  subst ed
  refine pairTrees_cons_walk (thn ((se_const (X := X) (W := W) (pos := kp) (j := j) hd).run pins s σ H ρ m ι (fun d' m' ι' H' => d' = kD q ∧ XRM X W σ (bind (f ρ) fun d => bind (fs ρ) fun ds => ret (d :: ds)) m' ι' H' P) I r er ?_) fun u s1 ⟨d', v', m1, ι1, H1, I1, q1, r1, vr1, st1, e1, h1⟩ => ?_)
  · show XRM X W σ (ret (kD q)) m ι H _
    exact fun ι' H' st' r' => ⟨rfl, RM.later r st' r' hh⟩
  · subst e1
    have ev : v' = kV q := by cases q <;> (cases vr1; rfl)
    subst ev
    have er1 := er.step r st1
    refine ha.then I1 r1 er1 h1 fun u2 s2 d2 v2 m2 ι2 H2 I2 q2 r2 er2 vr2 st2 h => ?_
    refine thn (SPs.run ‹SPs X W ks vs qs fs› pos pins s2 σ H2 ρ m2 ι2 _ I2 r2 er2 (RM.bind r2 h)) fun us s3 ⟨ds, ws, m3, ι3, H3, I3, vv, r3, kr, hl, st3, p⟩ => ?_
    exact ⟨d2 :: ds, (q, v2) :: ws, m3, ι3, H3, I3, .cons ⟨q1, q2⟩ vv, r3, .cons (vr2.step r2 st3) kr, by simp [hl], (st1.trans r r1 st2).trans r r2 st3, RM.ret r3 p⟩⟩
theorem KR.fold {K : Frag} {mg : Str → Option Value} : ∀ {xs : List (Key × D)} {ys : List (Key × V)}, KR K mg ι H xs ys → ∀ {ks : List (Key × D)} {us : List (Key × V)}, KR K mg ι H ks us → KR K mg ι H (xs.foldl (fun acc kv => putA acc kv.1 kv.2) ks) (mergeK us ys)
  | _, _, .nil, _, _, h => h
  | _, _, .cons v t, _, _, h => KR.fold t (h.put v)
theorem se_dct0 : SE X W (.Dict [] [] pos) (fun ρ => bind (alloc (.dct [])) fun o => bind (ret []) fun ds => fillM o [] ds) := ⟨fun pins s σ H ρ m ι P I r er h => by
  refine thn (pe_dnewK.run pins s σ H (fun v H' => ∃ d m' ι', HR X.K X.mg ι' H' m' ∧ VR X.K X.mg ι' H' d v ∧ Step m ι H m' ι' H' ∧ P d m' ι' H') I fun p hp => ?_) fun u s1 q => ep_vp q
  obtain ⟨st, r', h⟩ := alloc_at (c := .dct []) (o := .dK []) r hp rfl ⟨[], upd_same, .nil⟩ h
  have h := RM.retB r' h
  unfold fillM at h
  obtain ⟨c, ec, h⟩ := RM.cell r' h
  have e0 : (m ++ [Cell.dct []])[m.length]? = some (.dct []) := by simp
  rw [e0] at ec; cases ec
  have e1 : (m ++ [Cell.dct []]).set m.length (.dct []) = m ++ [Cell.dct []] := by
    apply List.ext_getElem?
    intro j
    by_cases hj : m.length = j
    · subst hj; rw [List.getElem?_set_self (by simp), e0]
    · rw [List.getElem?_set_ne hj]
  have h : XRM X W σ (bind (put m.length (.dct [])) fun _ => ret (.ref m.length)) (m ++ [Cell.dct []]) (ext ι m.length p) (upd H p (.dK [])) P := h
  have h2 : P (.ref m.length) (m ++ [Cell.dct []]) (ext ι m.length p) (upd H p (.dK [])) := by
    have := (RM.bind r' h : RM X.K X.mg _ (put m.length (.dct [])) _ _ _ _) (ext ι m.length p) (upd H p (.dK [])) (by rw [e1]; exact .refl) (by rw [e1]; exact r')
    rw [e1] at this
    exact RM.ret r' this
  exact ⟨_, _, _, r', .ref (if_pos rfl), st, h2⟩⟩
theorem se_dct (h : SPs X W ks vs qs fs) (hall : ks.all (·.isSome) = true) (hl : ks.length = vs.length) (h0 : ks ≠ []) (hq : ks.length = qs.length) (h15 : ks.length ≤ 15) :
    SE X W (.Dict ks vs pos) (fun ρ => bind (alloc (.dct [])) fun o => bind (fs ρ) fun ds => fillM o qs ds) := ⟨fun pins s σ H ρ m ι P I r er hh => by
  have hn := I.hok.fresh (Nat.le_refl s.heap.objs.size)
  have I1 := I.laid (a := s.heap.objs.size) (o := .dK []) (h' := s.heap.push { cls := .type "dict", data := .dict #[] }) (t' := s.toks) (fun _ _ q => Heap.get?_push_of_some _ q) (Nat.le_refl _) (dk_empty s.heap I.big)
  obtain ⟨st1, r1, hh⟩ := alloc_at (c := .dct []) (o := .dK []) r hn rfl ⟨[], upd_same, .nil⟩ hh
  refine wpAny_Dict_walk (knd := mixKind X.prog X.w) hall hl h0 h15 (thn (h.run pos pins _ σ _ ρ _ _ _ I1 r1 (er.step r st1) (RM.bind r1 hh)) fun us s2 ⟨ds, ws, m2, ι2, H2, I2, vv, r2, kr, lz, st2, h⟩ => ?_)
  have e2 : ι2 m.length = some s.heap.objs.size := st2.sub _ _ (if_pos rfl)
  unfold fillM at h
  obtain ⟨c, ec, h⟩ := RM.cell r2 h
  have cr := r2.get ec e2
  split at h
  · split at h
    · obtain ⟨us0, g2, kr0⟩ := cr
      cases kr0
      obtain ⟨rs, cc, rk⟩ := carries_of (P := X.prog) (w := X.w) vv
      obtain ⟨z, hd, vs0, r0, dd⟩ := dk_of I2.hok g2
      cases r0
      refine ⟨rs, cc, dd, fun h' dd' hs => ?_⟩
      have lw : ws.length = ks.length := by rw [← kr.length, List.length_zip, ← lz, Nat.min_self, hq]
      have hz : (mergeK [] ws).length ≤ sizeLine := by
        have h1 := length_mergeK ws []
        rw [List.length_nil] at h1
        rw [sizeLine_eq]; omega
      have he : ∃ q, h'.get? s.heap.objs.size = some q := let ⟨q, _, _, hq, _⟩ := dd'; ⟨q, hq⟩
      have I3 := d_write (t' := s2.toks + us.length) I2 (by rw [g2]; exact True.intro) hs he (dk_new hz hd (rk.merge .nil) dd')
      have s7 := Step.write (c := .dct ((qs.zip ds).foldl (fun acc kv => putA acc kv.1 kv.2) [])) (o := .dK (mergeK [] ws)) r2 ec e2 rfl rfl
      have r7 := HR.write (o := .dK (mergeK [] ws)) r2 ec e2 rfl (c := .dct ((qs.zip ds).foldl (fun acc kv => putA acc kv.1 kv.2) [])) rfl ⟨_, upd_same, (KR.fold kr .nil).step r2 s7⟩
      have p := (RM.bind r2 h : RM X.K X.mg _ (put m.length _) _ _ _ _) _ _ s7 r7
      exact ⟨.ref m.length, .ref s.heap.objs.size, _, _, _, I3, rfl, r7, .ref e2, (st1.trans r r1 st2).trans r r2 s7, RM.ret r7 p⟩
    · exact (RM.bad h).elim
  · exact (RM.bad h).elim⟩
end
end Ev

/-! EvZ4: methods of lists and dicts; attributes; calls by name. -/
namespace Ev
open PySem L2 PySem.Spec PyProof.Rows
section
variable {X : Cx} {W : WX} {pins : List (Addr × Obj)} {σ : L2.St} {s : Shared} {m m1 : Mem} {ι ι1 : Map} {H H1 : Hp} {ρ : Env} {a b c e o i : Expr} {es : List Expr} {f fa fb fc fe fo : Env → M D} {fs gs : Env → M (List D)} {pos apos : Pos} {Pg : Prog} {kws : List Keyword} {ns : List Str}
theorem ixN_iff {n : Nat} {i : Int} {j : Nat} (h : ixN n i = some j) : seqIndex? i n = some j := (ixN_seq h).1
/-- a method of a list -/
theorem list_ok {fm : Str} {r0 : Nat} {l : Addr} {args : List D} {vs : List V} {us : List Value} {P : D → Mem → Map → Hp → Prop} {id : String} (hid : (fm = "append" ∧ id = "list.append") ∨ (fm = "pop" ∧ id = "list.pop")) (I : Inv X pins σ H s) (r : HR X.K X.mg ι H m) (e : ι r0 = some l) (vr : VRs X.K X.mg ι H args vs) (q : Vals vs us)
    (h : XRM X W σ (bind (lstM r0) fun xs => listM r0 xs fm args) m ι H P) : wpAny (model X.prog X.w) X.A (call (.builtin id) (.ref l :: us)) (VP X pins σ m ι H P) X.xe s := by
  obtain ⟨xs, hc, h⟩ := RM.lst r h
  obtain ⟨ys, g, t⟩ := r.get hc e
  have fin : ∀ {rr : V → List V → Hp → VK → Prop}, MtM X id rr → rr (.ref l) vs H (fun v H' => ∃ d m' ι', HR X.K X.mg ι' H' m' ∧ VR X.K X.mg ι' H' d v ∧ Step m ι H m' ι' H' ∧ P d m' ι' H') → wpAny (model X.prog X.w) X.A (call (.builtin id) (.ref l :: us)) (VP X pins σ m ι H P) X.xe s :=
    fun ro hr => thn (ro pins s σ H (.ref l) vs (.ref l) us _ I rfl q hr) fun u s1 hq => ep_vp hq
  have wr : ∀ {zs : List D} {ws : List V}, VRs X.K X.mg ι H zs ws → Step m ι H (m.set r0 (.lst zs)) ι (upd H l (.lst ws)) ∧ HR X.K X.mg ι (upd H l (.lst ws)) (m.set r0 (.lst zs)) := fun {zs ws} z => by
    have st : Step m ι H (m.set r0 (.lst zs)) ι (upd H l (.lst ws)) := Step.write r hc e rfl rfl
    exact ⟨st, HR.write r hc e rfl rfl ⟨_, upd_same, z.step r st⟩⟩
  unfold listM at h
  rcases hid with ⟨rfl, rfl⟩ | ⟨rfl, rfl⟩
  · rw [if_pos rfl] at h
    split at h
    · split at h
      · rename_i hz
        have hz := of_decide_eq_true hz
        obtain ⟨v1, u1, rfl, rfl, h1, q1⟩ := VRs.one vr q
        obtain ⟨st, r7⟩ := wr (t.append (.cons h1 .nil))
        rw [t.length] at hz
        refine fin mt_append ⟨l, ys, v1, rfl, rfl, g, hz, .non, _, ι, r7, .non, st, ?_⟩
        exact RM.ret r7 ((RM.bind r h : RM X.K X.mg _ (put r0 _) _ _ _ _) _ _ st r7)
      · exact (RM.bad h).elim
    · exact (RM.bad h).elim
  · rw [if_neg (by decide), if_pos rfl] at h
    split at h
    · cases vr; cases q
      unfold popEnd at h
      obtain ⟨v, ev, h⟩ := RM.optB r h
      have lk : ∃ w, ys[ys.length - 1]? = some w ∧ VR X.K X.mg ι H v w := by
        rw [List.getLast?_eq_getElem?] at ev
        obtain ⟨w, hw, vw⟩ := t.get ev
        rw [t.length] at hw
        exact ⟨w, hw, vw⟩
      obtain ⟨w, hw, vw⟩ := lk
      have tl : VRs X.K X.mg ι H xs.dropLast ys.dropLast := by
        rw [List.dropLast_eq_take, List.dropLast_eq_take, t.length]; exact t.take _
      obtain ⟨st, r7⟩ := wr tl
      refine fin mt_pop ⟨l, ys, w, rfl, rfl, g, hw, v, _, ι, r7, vw.step r st, st, ?_⟩
      exact RM.ret r7 ((RM.bind r h : RM X.K X.mg _ (put r0 _) _ _ _ _) _ _ st r7)
    · obtain ⟨v1, u1, rfl, rfl, h1, q1⟩ := VRs.one vr q
      cases h1
      unfold popAt at h
      split at h
      · rename_i hi
        simp only [Bool.and_eq_true, decide_eq_true_eq] at hi
        obtain ⟨n, en, h⟩ := RM.optB r h
        obtain ⟨v, ev, h⟩ := RM.optB r h
        obtain ⟨w, hw, vw⟩ := t.get ev
        rw [t.length] at en
        obtain ⟨st, r7⟩ := wr (t.eraseIdx n)
        refine fin mt_popAt ⟨l, ys, _, n, w, rfl, rfl, g, hi.1, hi.2, ixN_iff en, hw, v, _, ι, r7, vw.step r st, st, ?_⟩
        exact RM.ret r7 ((RM.bind r h : RM X.K X.mg _ (put r0 _) _ _ _ _) _ _ st r7)
      · exact (RM.bad h).elim
    · exact (RM.bad h).elim
theorem getD_ok {ks : List (Key × D)} {us : List (Key × V)} (t : KR X.K X.mg ι H ks us) (q : Key) {d : D} {v : V} (hd : VR X.K X.mg ι H d v) : VR X.K X.mg ι H ((getA ks q).getD d) ((valV us q).getD v) := by
  obtain ⟨h1, h2⟩ := kv_get t q
  cases e : getA ks q with
  | none => rw [h2 e]; exact hd
  | some x => obtain ⟨w, ew, vw⟩ := h1 x e; rw [ew]; exact vw
theorem get_ok {r0 : Nat} {l : Addr} {args : List D} {vs : List V} {us : List Value} {P : D → Mem → Map → Hp → Prop} (ht : ∀ x, Pg.tab x = none) (hu : X.A.units + 1 < cLine) (I : Inv X pins σ H s) (r : HR X.K X.mg ι H m) (e : ι r0 = some l) (vr : VRs X.K X.mg ι H args vs) (q : Vals vs us)
    (h : XRM X W σ (getM Pg (.ref r0) args) m ι H P) : wpAny (model X.prog X.w) X.A (call (.builtin "dict.get") (.ref l :: us)) (VP X pins σ m ι H P) X.xe s := by
  unfold getM at h
  split at h
  · obtain ⟨v1, u1, rfl, rfl, h1, q1⟩ := VRs.one vr q
    have h := RM.bind r h
    obtain ⟨c, hc, h⟩ := RM.cell r h
    split at h
    · obtain ⟨k, ek, h⟩ := RM.optB r h
      obtain ⟨ks, g, t⟩ := r.get hc e
      have h := RM.ret r (RM.ret r h)
      have e1 := key_V h1 ek
      subst e1
      exact d_get1 hu I (DGet.k g) q1 fun w' s3 I3 rw' => VP.now I3 r rw' (getD_ok t k .non) h
    · exact (RM.bad h).elim
  · obtain ⟨v1, u1, v2, u2, rfl, rfl, h1, q1, h2, q2⟩ := VRs.two vr q
    have h := RM.bind r h
    obtain ⟨c, hc, h⟩ := RM.cell r h
    split at h
    · obtain ⟨k, ek, h⟩ := RM.optB r h
      obtain ⟨ks, g, t⟩ := r.get hc e
      have h := RM.ret r (RM.ret r h)
      have e1 := key_V h1 ek
      subst e1
      exact d_get2 hu I (DGet.k g) q1 q2 fun w' s3 I3 rw' => VP.now I3 r rw' (getD_ok t k h2) h
    · exact (RM.bad h).elim
  · exact (RM.bad h).elim
def plainB : Expr → Bool
  | .Call _ _ _ _ => false
  | _ => true
theorem plainB_ok {o : Expr} {f : Str} {env : PySem.Env} (h : plainB o = true) (x : Sem Value) : attributeBase o f env x = x := by
  cases o <;> first | (cases h; done) | rfl
theorem few_ok {env : PySem.Env} : ∀ {es : List Expr}, es.all noStar = true → ∀ pos, (backTo pos (starEach es env)).all (fun x => !x.1) = true
  | [], _, _ => rfl
  | e :: es, h, pos => by
    simp only [List.all_cons, Bool.and_eq_true] at h
    rw [star_cons h.1]
    show (true && (backTo pos (starEach es env)).all (fun x => !x.1)) = true
    rw [few_ok h.2]; rfl
theorem bcall_walk {id : String} {first : List Value} {β : Type} {g : List D → M β} {P : β → Mem → Map → Hp → Prop} {Q : Value → Shared → Prop} (hes : SEs X W es fs) (hne : es.all noStar = true) (hen : es = [] → fs = fun _ => ret []) (I : Inv X pins σ H s) (r : HR X.K X.mg ι H m) (er : ER X.K X.mg ι H ρ σ)
    (h : XRM X W σ (bind (fs ρ) g) m ι H P)
    (k : ∀ us s2 ds vs m2 ι2 H2, Inv X pins σ H2 s2 → Vals vs us → HR X.K X.mg ι2 H2 m2 → VRs X.K X.mg ι2 H2 ds vs → Step m ι H m2 ι2 H2 → XRM X W σ (g ds) m2 ι2 H2 P → wpAny (model X.prog X.w) X.A (call (.builtin id) (first ++ us)) Q X.xe s2) :
    wpAny (model X.prog X.w) X.A (callWith pos (.builtin id) first (backTo pos (starEach es X.env)) []) Q X.xe s := by
  cases es with
  | nil =>
    have ef := hen rfl
    subst ef
    exact Calls.callWith_builtin rfl (PySem.evalArgs_none (k [] s [] [] m ι H I .nil r .nil .refl (RM.retB r h)))
  | cons e es =>
    simp only [List.all_cons, Bool.and_eq_true] at hne
    have w := hes.then (pos := pos) I r er h fun us s2 ds vs m2 ι2 H2 I2 q2 r2 er2 vr2 st2 h => k us s2 ds vs m2 ι2 H2 I2 q2 r2 vr2 st2 h
    rw [star_cons hne.1] at w ⊢
    exact Calls.callWith_builtin (by show (false || (backTo pos (starEach es X.env)).any (·.1)) = false; rw [star_plain hne.2]; rfl) (Calls.evalArgs_plain w)
theorem se_bmeth {C : Ctx} {fm : Str} (hC : C.P = Pg) (ht : ∀ x, Pg.tab x = none) (hu : X.A.units + 1 < cLine) (ho : SE X W o fo) (hes : SEs X W es fs) (hne : es.all noStar = true) (hen : es = [] → fs = fun _ => ret []) (hb : bMeth fm = true) (hpl : plainB o = true) (hline : (apos.endLine == pos.line) = true) (h30 : es.length < 29) :
    SE X W (.Call (.Attribute o fm apos) es [] pos) (fun ρ => bind (fo ρ) fun x => bind (headM Pg x fm) fun h => bind (fs ρ) fun ds => bind (ret []) fun qs => sendM C h x fm ds [] qs) := ⟨fun pins s σ H ρ m ι P I r er h => by
  refine wpAny_Call_method_late (plainB_ok hpl _) ?_ hline rfl (ho.then I r er h fun u s1 d v m1 ι1 H1 I1 q1 r1 er1 vr1 st1 h => ?_)
  · rw [few_ok hne]
    have : decide (es.length + ([] : List Keyword).length + (if ([] : List Keyword).isEmpty then 0 else 1) < 30) = true := by
      apply decide_eq_true
      show es.length + 0 + 0 < 30
      omega
    rw [this]; rfl
  · have h1 := RM.bind r1 h
    unfold headM at h1
    split at h1
    · cases vr1 with
      | ref e =>
      obtain rfl : u = Value.ref _ := q1
      obtain ⟨c, hc, h1⟩ := RM.cell r1 h1
      have walk : ∀ {id : String} {mt : Mt} {l : Addr} {r0 : Nat}, XRM X W σ (bind (fs ρ) fun ds => bind (ret []) fun qs => sendM C mt (.ref r0) fm ds [] qs) m1 ι1 H1 P →
          (∀ us s2 ds vs m2 ι2 H2, Inv X pins σ H2 s2 → Vals vs us → HR X.K X.mg ι2 H2 m2 → VRs X.K X.mg ι2 H2 ds vs → Step m1 ι1 H1 m2 ι2 H2 → XRM X W σ (sendM C mt (.ref r0) fm ds [] []) m2 ι2 H2 P → wpAny (model X.prog X.w) X.A (call (.builtin id) (.ref l :: us)) (VP X pins σ m2 ι2 H2 P) X.xe s2) →
          wpAny (model X.prog X.w) X.A (callWith pos (.builtin id) [.ref l] (backTo pos (starEach es X.env)) []) (VP X pins σ m ι H P) X.xe s1 := fun {id mt l r0} h k =>
        bcall_walk hes hne hen I1 r1 er1 h fun us s2 ds vs m2 ι2 H2 I2 q2 r2 vr2 st2 h => thn (k us s2 ds vs m2 ι2 H2 I2 q2 r2 vr2 st2 (RM.retB r2 h)) fun u s' hq => (hq.lift r1 st2 r2).lift r st1 r1
      split at h1
      · split at h1
        · rename_i hf
          have h := RM.ret r1 h1
          obtain ⟨vs, g, _⟩ := r1.get hc e
          obtain ⟨its, _, pl, _⟩ := I1.list (SqL.of g)
          have hT : s1.TypeIs (.ref _) "list" := pl.isList.typeIs
          rcases hf with hf | hf
          · subst hf
            refine ⟨"list", "list.append", PySem.F.plainAttrs_list, PySem.F.slot_list_append, PySem.F.type_list_append, hT, (fun b eb => by cases eb; obtain ⟨o, n, e, c, hd, _⟩ := pl; exact ⟨o, e, hd⟩), walk h fun us s2 ds vs m2 ι2 H2 I2 q2 r2 vr2 st2 h => ?_⟩
            exact list_ok (.inl ⟨rfl, rfl⟩) I2 r2 (st2.sub _ _ e) vr2 q2 h
          · subst hf
            refine ⟨"list", "list.pop", PySem.F.plainAttrs_list, PySem.F.slot_list_pop, PySem.F.type_list_pop, hT, (fun b eb => by cases eb; obtain ⟨o, n, e, c, hd, _⟩ := pl; exact ⟨o, e, hd⟩), walk h fun us s2 ds vs m2 ι2 H2 I2 q2 r2 vr2 st2 h => ?_⟩
            exact list_ok (.inr ⟨rfl, rfl⟩) I2 r2 (st2.sub _ _ e) vr2 q2 h
        · exact (RM.bad h1).elim
      · split at h1
        · rename_i hf
          subst hf
          have h := RM.ret r1 h1
          obtain ⟨vs, g, _⟩ := r1.get hc e
          obtain ⟨t1, t2, _⟩ := isD_at I1 (.inl ⟨_, .inl g⟩)
          refine ⟨"dict", "dict.get", PySem.F.plainAttrs_dict, PySem.F.slot_dict_get, PySem.F.type_dict_get, t1, t2, walk h fun us s2 ds vs m2 ι2 H2 I2 q2 r2 vr2 st2 h => ?_⟩
          exact get_ok (hC ▸ ht) hu I2 r2 (st2.sub _ _ e) vr2 q2 (by exact h)
        · exact (RM.bad h1).elim
      · split at h1
        · rename_i hh
          rw [hb] at hh
          simp at hh
        · exact (RM.bad h1).elim
      · exact (RM.bad h1).elim
    · exact (RM.bad h1).elim⟩
end
end Ev

/-! EvTr: from the text, what the rules cover. -/
namespace Ev
open PySem
/-- a name that is nothing but a name -/
def plainN (x : Str) : Bool := !(x == ("__debug__" : Str)) && !(x == ("__classdict__" : Str)) && !(x == ("__name__" : Str))
def TrC.slotP (T : TrC) (x : Str) : Option Nat := if plainN x then T.slot x else none
def globP (T : TrC) (x : Str) : Bool := plainN x && isGlob T x
def nameP (T : TrC) (x : Str) : Option E := match T.slotP x with
  | some i => some (.v i)
  | none => if globP T x then (if T.own x then some (.g x) else (tyOf x).map fun n => .k (.ty n)) else none
/-- a name that is stored: local, or a cell of the own block -/
def TrC.store (T : TrC) (x : Str) : Option Nat := if plainN x then (match T.sc x with
  | some .local => ix T.N x
  | some .cell => ix T.N x
  | _ => none) else none
def tgP (T : TrC) : Expr → Option Tg
  | .Name x _ => (T.store x).map .v
  | _ => none
/-- the built-ins that are covered -/
def biC (x : Str) : Option B := if x = "len" then some .len else if x = "abs" then some .abs else if x = "int" then some .int else if x = "isinstance" then some .isinstance else none
def noComp : Expr → Bool
  | .ListComp _ _ _ _ => false
  | .SetComp _ _ _ _ => false
  | .DictComp _ _ _ _ _ => false
  | _ => true
/-- the names of a comprehension's block that are its own -/
def ownP (T : TrC) (sc : Scope) : List (Str × Nat) := sc.names.filterMap fun y => match y.2 with
  | .local => (ix T.N y.1).map fun i => (y.1, i)
  | .cell => (ix T.N y.1).map fun i => (y.1, i)
  | _ => none
def blkB (T : TrC) (sc : Scope) : Bool := decide (sc.kind = .function) && sc.names.all (fun y => decide (sc.names.lookup y.1 = some y.2)) && (ownP T sc).all (fun p => decide (T.N[p.2]? = some p.1)) &&
  sc.names.all (fun y => if y.2 = .free then decide (T.sc y.1 = some .cell) || decide (T.sc y.1 = some .free) else true) &&
  sc.names.all (fun y => if y.2 = .local ∨ y.2 = .cell then ((ownP T sc).map (·.1)).contains y.1 || !T.N.contains y.1 else true)
def grd {α : Type} (b : Bool) (x : Option α) : Option α := if b = true then x else none
def map2 {α β γ : Type} (f : α → β → γ) : Option α → Option β → Option γ
  | some a, some b => some (f a b)
  | _, _ => none
def map3 {α β γ δ : Type} (f : α → β → γ → δ) : Option α → Option β → Option γ → Option δ
  | some a, some b, some c => some (f a b c)
  | _, _, _ => none
def callP (T : TrC) (x : Str) (es : List Expr) (ks : List Keyword) (ds : Option (List E)) (qs : Option (List Str × List E)) : Option E :=
  grd (globP T x) (if T.own x = true then map2 (fun ds q => .call x ds q.1 q.2) ds qs else grd (ks.isEmpty && !es.isEmpty) (map2 (fun b ds => .bi b ds) (biC x) ds))
def lcP (T : TrC) (sc : Scope) (it : Expr) (ifs : List Expr) (t : Option Tg) (x : Option E) (b : Option (List E)) (e : Option E) : Option E := match t with
  | some (.v j) => grd (blkB T sc && noSet it && decide (ifs.length ≤ 1) && ((ownP T sc).map (·.2)).contains j) (map3 (fun x b e => .lc e ((ownP T sc).map (·.2)) (.v j) .of [x] b) x b e)
  | _ => none
def kwP (n : Option Str) (v : Option E) (r : Option (List Str × List E)) : Option (List Str × List E) := map3 (fun x e q => (x :: q.1, e :: q.2)) n v r
mutual
def tE' (T : TrC) : Expr → Option E
  | .Name x _ => nameP T x
  | .Constant c _ _ => (trC c).map .k
  | .Tuple es _ _ => (tEs' T es).map .tup
  | .List es _ => (tEs' T es).map .lst
  | .Dict ks vs _ => grd (decide (ks.length = vs.length) && decide (ks.length ≤ 15)) (map2 .dct (trKeys ks) (tEs' T vs))
  | .BinOp a o b _ => map3 .bin (trBin o) (tE' T a) (tE' T b)
  | .UnaryOp .Not a _ => (tE' T a).map .not
  | .UnaryOp .USub a _ => (tE' T a).map .neg
  | .BoolOp .And es _ => grd (!es.isEmpty) ((tEs' T es).map .and)
  | .BoolOp .Or es _ => grd (!es.isEmpty) ((tEs' T es).map .or)
  | .IfExp c a b _ => map3 .ite (tE' T c) (tE' T a) (tE' T b)
  | .Compare a [o] [b] _ => grd (noSet b) (map2 (.cmp (trCp o)) (tE' T a) (tE' T b))
  | .Subscript a i _ => grd (plainI i) (map2 .ix (tE' T a) (tE' T i))
  | .Attribute a f _ => grd (plainB a) ((tE' T a).map fun x => .att x f)
  | .Call (.Name x _) es ks _ => callP T x es ks (tEs' T es) (tK' T ks)
  | .Call (.Attribute o m ap) es [] p => grd (bMeth m && plainB o && (ap.endLine == p.line) && decide (es.length < 29)) (map2 (fun x ds => .meth x m ds [] []) (tE' T o) (tEs' T es))
  | .ListComp elt [⟨t, it, ifs, 0⟩] sc _ => lcP T sc it ifs (tgP (T.blk sc) t) (tE' T it) (tEs' (T.blk sc) ifs) (tE' (T.blk sc) elt)
  | _ => none
def tEs' (T : TrC) : List Expr → Option (List E)
  | [] => some []
  | e :: r => map2 (fun a b => a :: b) (tE' T e) (tEs' T r)
def tK' (T : TrC) : List Keyword → Option (List Str × List E)
  | [] => some ([], [])
  | ⟨n, v, _⟩ :: r => kwP n (tE' T v) (tK' T r)
end
theorem grd_some {α : Type} {b : Bool} {x : Option α} {y : α} (h : grd b x = some y) : b = true ∧ x = some y := by
  unfold grd at h
  split at h
  · rename_i hb; exact ⟨hb, h⟩
  · cases h
theorem map2_some {α β γ : Type} {f : α → β → γ} {x : Option α} {y : Option β} {z : γ} (h : map2 f x y = some z) : ∃ a b, x = some a ∧ y = some b ∧ z = f a b := by
  cases x <;> cases y <;> first | (cases h; exact ⟨_, _, rfl, rfl, rfl⟩) | cases h
theorem map3_some {α β γ δ : Type} {f : α → β → γ → δ} {x : Option α} {y : Option β} {w : Option γ} {z : δ} (h : map3 f x y w = some z) : ∃ a b c, x = some a ∧ y = some b ∧ w = some c ∧ z = f a b c := by
  cases x <;> cases y <;> cases w <;> first | (cases h; exact ⟨_, _, _, rfl, rfl, rfl, rfl⟩) | cases h
/-- a, b = x, y by plain local names on one line, no constants alone -/
def parB (T : TrC) (x y : Str) (px py : Pos) (a b : Expr) : Bool := plainN x && plainN y && decide (T.sc x = some .local) && decide (T.sc y = some .local) && (px.line == py.line) && !(x == y) && noStar a && noStar b &&
  !(foldedForSure 8 a && foldedForSure 8 b) && !(constantsAlone 8 a && constantsAlone 8 b)
def asgP (b : Bool) (i j : Option Nat) (c d : Option E) : Option S := grd b (map2 (fun t v => S.asg t v) (map2 (fun i j => Tg.tup [.v i, .v j]) i j) (map2 (fun c d => E.tup [c, d]) c d))
mutual
def tS' (T : TrC) : Stmt → Option S
  | .Expr e _ => grd (noComp e) ((tE' T e).map .expr)
  | .Assign [.Subscript o i _] e _ => grd (plainI i && noComp e) (map3 (fun d x y => .setIx x y d) (tE' T e) (tE' T o) (tE' T i))
  | .Assign [.Name x _] e _ => map2 (fun i d => .asg (.v i) d) (T.store x) (tE' T e)
  | .Assign [.Tuple [.Name x px, .Name y py] _ _] (.Tuple [a, b] _ _) _ => asgP (parB T x y px py a b) (T.store x) (T.store y) (tE' T a) (tE' T b)
  | .Return none _ => some (.ret none)
  | .Return (some e) _ => (tE' T e).map fun x => .ret (some x)
  | .If c a b _ => map3 .ifs (tE' T c) (tSs' T a) (tSs' T b)
  | .While c b [] _ => map2 .whl (tE' T c) (tSs' T b)
  | .For t it b [] _ => grd (noSet it) (map3 (fun t it b => .for_ t .of [it] b) (tgP T t) (tE' T it) (tSs' T b))
  | .Break _ => some .brk
  | .Continue _ => some .cont
  | .Pass _ => some .pass
  | _ => none
def tSs' (T : TrC) : List Stmt → Option (List S)
  | [] => some []
  | s :: r => map2 (fun a b => a :: b) (tS' T s) (tSs' T r)
end
end Ev

/-! EvSa: the context; names, attributes, calls by name. -/
namespace Ev
open PySem L2 PySem.Spec PyProof.Rows
/-- what of the text and of the context is leaned on -/
structure OK (X : Cx) (W : WX) (C : Ctx) (T : TrC) (adr : Str → Option Addr) : Prop where
  N : T.N = X.N
  nd : X.N.Nodup
  sc : ∀ x k, k ≠ NameKind.free → T.sc x = some k → X.env.scope.names.lookup x = some k
  scf : ∀ x, T.sc x = some .free → X.env.scope.names.lookup x = some .free ∨ X.env.scope.names.lookup x = some .cell
  fnc : ∀ x, T.sc x = some .cell → X.fn x = true
  calm : X.calm = true
  room : Room 2 X.A
  tk : Takes X W
  own : ∀ x, T.own x = false → (biC x).isSome = true ∨ (tyOf x).isSome = true → X.mg x = none
  gl : ∀ x d, C.P.glob x = some d → ∃ u v, X.mg x = some u ∧ RelV v u ∧ ∀ ι H, VR X.K X.mg ι H d v
  gfn : ∀ x y, C.P.glob x = some (.fn y) → ∃ f, X.mg x = some (.ref f) ∧ adr y = some f ∧ PySem.W.keepIn X.K (.ref f) = true
  gcl : ∀ x c, C.P.glob x = some (.cls c) → ∃ A, X.mg x = some (.ref A) ∧ X.mg c = some (.ref A) ∧ C.P.isC c = true
  tab : ∀ x, C.P.tab x = none
  cf : ClsF X.K X.mg C.P
  ca : ∀ c A f, C.P.isX c = true → X.mg c = some (.ref A) → C.P.hasF c f = true → PySem.W.findIn X.K (.ref A) f = some none
  ni : ∀ c, C.P.isI c = false
  xf : XF X.prog X.w X.K X.mg X.base C.P
  dep : (∀ y ds ns qs, C.call y ds ns qs = bad) ∨ ∃ k fuel, C.call = callK C.P fuel (k + 1) ∧ FunsAt X.prog X.w X.K X.mg X.base C.P fuel adr k ∧ Room (k + 3) X.A
section
variable {X : Cx} {W : WX} {C : Ctx} {T : TrC} {adr : Str → Option Addr} {pins : List (Addr × Obj)} {σ : L2.St} {s : Shared} {m m1 : Mem} {ι ι1 : Map} {H H1 : Hp} {ρ : Env} {a b c e o i : Expr} {es : List Expr} {f g fa fb fc fe fo : Env → M D} {fs gs : Env → M (List D)} {pos apos p : Pos} {kws : List Keyword} {ns : List Str}
theorem OK.hu (k : OK X W C T adr) : X.A.units + 65 < cLine := by have := k.room.un; omega
theorem ix_get {N : List Str} {x : Str} {i : Nat} (h : ix N x = some i) : N[i]? = some x := by
  unfold ix at h
  dsimp only at h
  split at h
  · rename_i hl
    cases h
    rw [List.getElem?_eq_getElem hl, List.getElem_idxOf hl]
  · cases h
theorem plainN_d {x : Str} (h : plainN x = true) : (x == ("__debug__" : Str)) = false ∧ (x == ("__classdict__" : Str)) = false ∧ x ≠ "__name__" := by
  unfold plainN at h
  simp only [Bool.and_eq_true, Bool.not_eq_true'] at h
  exact ⟨h.1.1, h.1.2, by simpa using h.2⟩
theorem SE.congr (h : SE X W e f) (k : ∀ ρ m, f ρ m = g ρ m) : SE X W e g := (funext fun ρ => funext fun m => k ρ m : f = g) ▸ h
theorem ST.congr {f g : Env → M Bool} (h : ST X W e f) (k : ∀ ρ m, f ρ m = g ρ m) : ST X W e g := (funext fun ρ => funext fun m => k ρ m : f = g) ▸ h
theorem SEs.congr {f g : Env → M (List D)} (h : SEs X W es f) (k : ∀ ρ m, f ρ m = g ρ m) : SEs X W es g := (funext fun ρ => funext fun m => k ρ m : f = g) ▸ h
theorem se_var' (k : OK X W C T adr) {x : Str} {i : Nat} (h : T.slotP x = some i) : SE X W (.Name x pos) (fun ρ => varM ρ i) := by
  unfold TrC.slotP at h
  split at h
  · rename_i hp
    obtain ⟨h1, h2, _⟩ := plainN_d hp
    unfold TrC.slot at h
    split at h
    · rename_i e; exact se_var (ix_get (k.N ▸ h)) (.inl (k.sc x _ (by decide) e)) h1 h2
    · rename_i e; exact se_var (ix_get (k.N ▸ h)) (.inr (.inl (k.sc x _ (by decide) e))) h1 h2
    · rename_i e
      rcases k.scf x e with z | z
      · exact se_var (ix_get (k.N ▸ h)) (.inr (.inr z)) h1 h2
      · exact se_var (ix_get (k.N ▸ h)) (.inr (.inl z)) h1 h2
    · cases h
  · cases h
theorem gl_of (k : OK X W C T adr) {x : Str} (h : globP T x = true) : Gl X x ∧ (x == ("__debug__" : Str)) = false ∧ x ≠ "__name__" := by
  unfold globP isGlob at h
  rw [Bool.and_eq_true] at h
  obtain ⟨h1, _, h3⟩ := plainN_d h.1
  refine ⟨?_, h1, h3⟩
  have h2 := h.2
  split at h2
  · rename_i e; exact k.sc x _ (by decide) e
  · cases h2
theorem se_glob (k : OK X W C T adr) {x : Str} (h : globP T x = true) : SE X W (.Name x pos) (fun _ => opt (C.P.glob x)) := ⟨fun pins s σ H ρ m ι P I r er hh => by
  obtain ⟨g1, g2, _⟩ := gl_of k h
  obtain ⟨d, ed, p⟩ := RM.opt r hh
  obtain ⟨u, v, hm, rv, vr⟩ := k.gl x d ed
  exact ld_glob I g1 hm (VP.now I r rv (vr ι H) p) g2⟩
theorem tyOf_boot {x : Str} {n : String} (h : tyOf x = some n) : bootBuiltins x = some (.type n) := by
  unfold tyOf at h
  repeat (first
    | (split at h; (first | (rename_i e; subst e; cases h; first | rfl | decide +kernel) | skip))
    | cases h)
theorem se_ty (k : OK X W C T adr) {x : Str} {n : String} (h : globP T x = true) (ho : T.own x = false) (ht : tyOf x = some n) : SE X W (.Name x pos) (fun _ => ret (.ty n)) := ⟨fun pins s σ H ρ m ι P I r er hh => by
  obtain ⟨g1, g2, g3⟩ := gl_of k h
  exact ld_blt I g1 (k.own x ho (.inr (by rw [ht]; rfl))) (tyOf_boot ht) (VP.now I r (show RelV (.ty n) (.type n) from rfl) (.ty n) (RM.ret r hh)) g3 g2⟩
theorem boot_len : bootBuiltins "len" = some (.builtin "len") := PyProof.Rows.Boot.«len»
theorem boot_abs : bootBuiltins "abs" = some (.builtin "abs") := PyProof.Rows.Boot.«abs»
theorem boot_int : bootBuiltins "int" = some (.type "int") := PyProof.Rows.Boot.«int»
theorem boot_isi : bootBuiltins "isinstance" = some (.builtin "isinstance") := PyProof.Rows.Boot.«isinstance»
theorem biC_boot {x : Str} {b : B} (h : biC x = some b) : ∃ f, fvB b = some f ∧ bootBuiltins x = some f := by
  unfold biC at h
  by_cases h1 : x = "len"
  · rw [if_pos h1] at h; cases h; subst h1; exact ⟨_, rfl, boot_len⟩
  rw [if_neg h1] at h
  by_cases h2 : x = "abs"
  · rw [if_pos h2] at h; cases h; subst h2; exact ⟨_, rfl, boot_abs⟩
  rw [if_neg h2] at h
  by_cases h3 : x = "int"
  · rw [if_pos h3] at h; cases h; subst h3; exact ⟨_, rfl, boot_int⟩
  rw [if_neg h3] at h
  by_cases h4 : x = "isinstance"
  · rw [if_pos h4] at h; cases h; subst h4; exact ⟨_, rfl, boot_isi⟩
  rw [if_neg h4] at h
  cases h
/-! ### calls by name -/
theorem bad_call (k : ∀ y ds ns qs, C.call y ds ns qs = bad) {y : Str} {ds qs : List D} {ns : List Str} {P : D → Mem → Map → Hp → Prop} (h : XRM X W σ (C.call y ds ns qs) m ι H P) : False := by rw [k] at h; exact h
theorem own_call (k : OK X W C T adr) {y : Str} {f : Addr} {ds qs : List D} {vs zs : List V} {us ws : List Value} {ns : List Str} {P : D → Mem → Map → Hp → Prop} (hy : adr y = some f) (I : Inv X pins σ H s) (r : HR X.K X.mg ι H m) (q : Vals vs us) (vr : VRs X.K X.mg ι H ds vs) (qz : Vals zs ws) (vz : VRs X.K X.mg ι H qs zs)
    (h : XRM X W σ (C.call y ds ns qs) m ι H P) : wpAny (model X.prog X.w) X.A (call (.ref f) us (ns.zip ws)) (VP X pins σ m ι H P) X.xe s := by
  rcases k.dep with hb | ⟨d, fuel, hc, F, hr⟩
  · exact (bad_call hb h).elim
  · rw [hc] at h
    exact fn_call F hr k.tk hy I r q vr qz vz h
theorem se_call (k : OK X W C T adr) {x : Str} (hx : globP T x = true) (hes : SEs X W es fs) (hne : es.all noStar = true) (hen : es = [] → fs = fun _ => ret []) (hks : SKs X W kws ns gs) :
    SE X W (.Call (.Name x p) es kws pos) (fun ρ => bind (calleeM C.P x) fun g => bind (fs ρ) fun ds => bind (gs ρ) fun qs => callM C g ds ns qs) := ⟨fun pins s σ H ρ m ι P I r er h => by
  obtain ⟨g1, g2, _⟩ := gl_of k hx
  have h1 := RM.bind r h
  unfold calleeM at h1
  split at h1
  · rename_i y e
    obtain ⟨f, hm, hy, hk⟩ := k.gfn x y e
    have h := RM.ret r h1
    refine wpAny_Call_Name_kw (ld_glob I g1 hm ?_ g2)
    exact call_walk hk hes hne hen hks I r er h fun us ws s1 ds qs vs zs m1 ι1 H1 I1 q1 qz r1 vr1 vz st1 h _ => thn (own_call k hy I1 r1 q1 vr1 qz vz h) fun u s2 hq => hq.lift r st1 r1
  · rename_i c e
    obtain ⟨A, hm, hc, hi⟩ := k.gcl x c e
    have h := RM.ret r h1
    refine wpAny_Call_Name_kw (ld_glob I g1 hm ?_ g2)
    have cls : ∃ kk, C.P.cls c = some kk ∧ kk.exc.isSome = true := by
      cases e2 : C.P.cls c with
      | none => unfold Prog.isC at hi; rw [e2] at hi; cases hi
      | some kk =>
        cases e3 : kk.exc with
        | some _ => exact ⟨kk, rfl, by rw [e3]; rfl⟩
        | none =>
          have := k.ni c
          unfold Prog.isI at this
          rw [e2] at this
          simp [e3] at this
    obtain ⟨kk, ec, ex⟩ := cls
    have hk := k.xf.kp c A hi hc
    refine call_walk hk hes hne hen hks I r er h fun us ws s1 ds qs vs zs m1 ι1 H1 I1 q1 qz r1 vr1 vz st1 h hkw => ?_
    obtain ⟨fs', wv, hr, vw, wp⟩ := make_mk k.xf k.room k.tk ec hc ex I1 q1 vr1 qz vz (fun z => by
      obtain ⟨_, z⟩ := z
      subst z
      cases vz; cases qz; rfl) rfl r1 h
    exact thn wp fun u s2 hq => (made_vp r1 hc vw hr hq).lift r st1 r1
  · exact (RM.bad h1).elim⟩
/-! ### attributes -/
theorem lookup_zip {fs : List (Str × D)} {vs : List V} {x : Str} {d : D} (vr : VRs X.K X.mg ι H (fs.map (·.2)) vs) (h : fs.lookup x = some d) : ∃ v, ((fs.map (·.1)).zip vs).lookup x = some v ∧ VR X.K X.mg ι H d v := by
  induction fs generalizing vs with
  | nil => cases h
  | cons p fs ih =>
    obtain ⟨y, d'⟩ := p
    cases vr with
    | cons hv ht =>
      simp only [List.map_cons, List.zip_cons_cons]
      rw [List.lookup_cons] at h ⊢
      by_cases e : (x == y) = true
      · rw [e] at h ⊢
        cases h
        exact ⟨_, rfl, hv⟩
      · have e' : (x == y) = false := by simpa using e
        rw [e'] at h ⊢
        exact ih ht h
theorem se_att (k : OK X W C T adr) {f : Str} (ha : SE X W a fa) (hp : plainB a = true) : SE X W (.Attribute a f pos) (fun ρ => bind (fa ρ) fun x => attM C.P x f) := ⟨fun pins s σ H ρ m ι P I r er h => by
  refine attr_of (plainB_ok hp _) (ha.then I r er h fun u s1 d v m1 ι1 H1 I1 q1 r1 er1 vr1 st1 h => ?_)
  unfold attM at h
  split at h
  · obtain ⟨c, hc, h⟩ := RM.cell r1 h
    split at h
    · rw [k.ni] at h
      exact (RM.bad h).elim
    · exact (RM.bad h).elim
  · split at h
    · rename_i c fs hh
      simp only [Bool.and_eq_true] at hh
      obtain ⟨d, ed, p⟩ := RM.opt r1 h
      cases vr1 with
      | exc0 _ _ => cases ed
      | excF hm he hd vr =>
        obtain rfl : u = Value.ref _ := q1
        obtain ⟨oe, od, mA, hi, hod, hns, rl⟩ := exc_instF I1 he hd
        obtain ⟨w, ew, vw⟩ := lookup_zip vr ed
        obtain ⟨u', hu, ru⟩ := RelO.some_of (v := w) (o := mA f) (by rw [← ew]; exact rl f)
        have ef := k.cf.ex c _ hh.1 hm
        have no := k.ca c _ f hh.1 hm hh.2
        obtain ⟨od', ho', hl⟩ := lookIn_ns hns
        rw [hod] at ho'; cases ho'
        exact HandSPX.exc_get I1.kIn hi ef.ga ef.gt ef.sb (PySem.W.findObj_own ef.hd no rfl (by rw [hl, hu])) (handed_of ru) (VP.lift r st1 r1 (VP.now (I1.tok _) r1 ru vw p))
    · exact (RM.bad h).elim
  · exact (RM.bad h).elim⟩
end
end Ev

/-! EvSb: what is translated does what the text does: expressions. -/
namespace Ev
open PySem L2 PySem.Spec PyProof.Rows
section
variable {X : Cx} {W : WX} {C : Ctx} {T : TrC} {adr : Str → Option Addr} {σ : L2.St} {m : Mem} {ρ : Env} {a b c e o i : Expr} {es : List Expr} {f g fa fb fc fe fo : Env → M D} {fs gs : Env → M (List D)} {pos apos p : Pos} {kws : List Keyword} {ns : List Str}
theorem Parts.ses {Pg : Prog} : ∀ {es : List Expr} {es' : List E}, Parts X W Pg es (es'.map fun e ρ => evE C ρ e) → es.all noStar = true → SEs X W es (fun ρ => evEs C ρ es')
  | [], [], .nil, _ => ses_nil.congr fun ρ m => by rw [evEs]
  | e :: es, e' :: es', .cons h _ t, hn => by
    simp only [List.all_cons, Bool.and_eq_true] at hn
    exact (ses_cons h (Parts.ses t hn.2) hn.1).congr fun ρ m => by rw [evEs]
theorem Parts.len {Pg : Prog} : ∀ {es : List Expr} {fs : List (Env → M D)}, Parts X W Pg es fs → es.length = fs.length
  | _, _, .nil => rfl
  | _, _, .cons _ _ t => by simp [Parts.len t]
theorem andF_eq {C : Ctx} : ∀ (es : List E) (ρ : Env), andF C.P (es.map fun e ρ => evE C ρ e) ρ = evAnd C ρ es
  | [], ρ => by rw [evAnd]; rfl
  | e :: r, ρ => by
    rw [evAnd]
    show bind (evE C ρ e) _ = _
    have : (r.map fun e ρ => evE C ρ e).isEmpty = r.isEmpty := by cases r <;> rfl
    rw [this, andF_eq r ρ]
theorem orF_eq {C : Ctx} : ∀ (es : List E) (ρ : Env), orF C.P (es.map fun e ρ => evE C ρ e) ρ = evOr C ρ es
  | [], ρ => by rw [evOr]; rfl
  | e :: r, ρ => by
    rw [evOr]
    show bind (evE C ρ e) _ = _
    have : (r.map fun e ρ => evE C ρ e).isEmpty = r.isEmpty := by cases r <;> rfl
    rw [this, orF_eq r ρ]
theorem fold_set {iter : Expr} {env : PySem.Env} (h : noSet iter = true) : ∀ x, foldedSetIterable iter env x = pure x := by
  intro x
  cases iter <;> first | (cases h; done) | rfl
theorem wp_takes {s' : Shared} {u : Value} (z : XE X W0 u s') : False := by
  obtain ⟨a, oe, vs, sI, σ, H, cls, d, _, _, _, _, _, _, _, _, hh⟩ := z
  exact hh
theorem rel_free {sc : Scope} : ∀ {names : List (Str × NameKind)} {x : Str}, names.lookup x = some .free →
    (names.map fun (n, k) => if (k == NameKind.free && sc.kind == .function && sc.names.lookup n == some .cell) then (n, NameKind.cell) else (n, k)).lookup x = some .free ∨
    (names.map fun (n, k) => if (k == NameKind.free && sc.kind == .function && sc.names.lookup n == some .cell) then (n, NameKind.cell) else (n, k)).lookup x = some .cell
  | [], _, h => by simp at h
  | (n, k) :: r, x, h => by
    rw [List.lookup_cons] at h
    simp only [List.map_cons]
    by_cases hx : (x == n) = true
    · rw [hx] at h
      cases h
      split
      · right; rw [List.lookup_cons, hx]
      · left; rw [List.lookup_cons, hx]
    · have hx' : (x == n) = false := by simpa using hx
      rw [hx'] at h
      have ih := rel_free (sc := sc) (names := r) (x := x) h
      split
      · rw [List.lookup_cons, hx']; exact ih
      · rw [List.lookup_cons, hx']; exact ih
/-- the context of a comprehension's block -/
theorem OK.blk (k : OK X W C T adr) {sc : Scope} (s : Shared) (H : Hp) (A : Addr) (cl : List (Str × Addr)) (fp : List Addr) : OK (X.blk s H sc (compEnvC sc cl A X.env) fp) W0 C (T.blk sc) adr where
  N := k.N
  nd := k.nd
  sc := fun x q hq h => lookup_relS_keep (sc := X.env.scope) hq h
  scf := fun x h => rel_free (sc := X.env.scope) h
  fnc := fun x h => by
    show (sc.names.lookup x == some .cell) = true
    rw [show sc.names.lookup x = some .cell from h]
    decide
  calm := k.calm
  room := k.room
  tk := fun u s' z => (wp_takes z).elim
  own := k.own
  gl := k.gl
  gfn := k.gfn
  gcl := k.gcl
  tab := k.tab
  cf := k.cf
  ca := k.ca
  ni := k.ni
  xf := k.xf
  dep := k.dep
end
end Ev

/-! EvSc: what is translated does what the text does: expressions, the induction. -/
namespace Ev
open PySem L2 PySem.Spec PyProof.Rows
section
variable {X : Cx} {W : WX} {C : Ctx} {T : TrC} {adr : Str → Option Addr} {m : Mem} {ρ : Env} {a b c e o i : Expr} {es : List Expr} {f g fa fb fc fe fo : Env → M D} {fs gs : Env → M (List D)} {pos apos p : Pos} {kws : List Keyword} {ns : List Str}
def Good (X : Cx) (W : WX) (C : Ctx) (e : Expr) (e' : E) : Prop := SE X W e (fun ρ => evE C ρ e') ∧ ST X W e (fun ρ => bind (evE C ρ e') (truth C.P))
theorem good_plain {e' : E} (h : SE X W e (fun ρ => evE C ρ e')) (he : ∀ whole, isTrue e X.env whole = (do let v ← whole; standAt e.pos; holding [v] (truthy v))) : Good X W C e e' := ⟨h, st_plain h he⟩
theorem tE'_noStar {e : Expr} {e' : E} (h : tE' T e = some e') : noStar e = true := by
  cases e <;> first | rfl | (simp [tE'] at h)
theorem tEs'_noStar : ∀ {es : List Expr} {es' : List E}, tEs' T es = some es' → es.all noStar = true
  | [], _, _ => rfl
  | e :: es, es', h => by
    rw [tEs'] at h
    obtain ⟨a, b, h1, h2, _⟩ := map2_some h
    simp only [List.all_cons, Bool.and_eq_true]
    exact ⟨tE'_noStar h1, tEs'_noStar h2⟩
theorem sps_of : ∀ {ks : List (Option Expr)} {vs : List Expr} {vs' : List E} {qs : List Key}, trKeys ks = some qs → Parts X W C.P vs (vs'.map fun e ρ => evE C ρ e) → ks.length = vs.length →
    SPs X W ks vs qs (fun ρ => evEs C ρ vs') ∧ ks.all (·.isSome) = true ∧ ks.length = qs.length
  | [], [], [], qs, h, .nil, _ => by
    cases h
    refine ⟨?_, rfl, rfl⟩
    have : (fun ρ => evEs C ρ []) = fun _ => ret [] := by funext ρ; rw [evEs]
    rw [this]; exact sps_nil
  | k :: ks, v :: vs, v' :: vs', qs, h, .cons hv _ t, hl => by
    cases k with
    | none => simp [trKeys] at h
    | some k =>
      cases k <;> first
        | (simp [trKeys] at h; done)
        | skip
      rename_i x j kp
      rw [trKeys] at h
      split at h
      · rename_i q r e1 e2
        cases h
        simp only [List.length_cons, Nat.add_right_cancel_iff] at hl
        obtain ⟨h1, h2, h3⟩ := sps_of e2 t hl
        refine ⟨?_, by simp [h2], by simp [h3]⟩
        have : (fun ρ => evEs C ρ (v' :: vs')) = fun ρ => bind (evE C ρ v') fun d => bind (evEs C ρ vs') fun ds => ret (d :: ds) := by funext ρ; rw [evEs]
        rw [this]
        exact sps_cons e1 hv h1
      · cases h
  | [], _ :: _, _, _, _, _, hl => by cases hl
  | _ :: _, [], _, _, _, _, hl => by cases hl
theorem blkOk_of (k : OK X W C T adr) {sc : Scope} (h : blkB T sc = true) : BlkOk X.N X.env.scope sc (ownP T sc) := by
  unfold blkB at h
  simp only [Bool.and_eq_true, decide_eq_true_eq, List.all_eq_true] at h
  obtain ⟨⟨⟨⟨h1, h2⟩, h3⟩, h4⟩, h5⟩ := h
  refine ⟨h1, h2, fun p hp => by rw [← k.N]; exact h3 p hp, fun y hy hf => ?_, fun y hy hl => ?_⟩
  · have z := h4 y hy
    rw [if_pos hf] at z
    simp only [Bool.or_eq_true, decide_eq_true_eq] at z
    rcases z with z | z
    · exact .inl (k.sc _ _ (by decide) z)
    · exact (k.scf _ z).symm.imp (fun q => q) fun q => q
  · have z := h5 y hy
    rw [if_pos hl] at z
    simp only [Bool.or_eq_true, Bool.not_eq_true', List.contains_iff_mem] at z
    rcases z with z | z
    · exact .inl z
    · refine .inr fun q => ?_
      rw [k.N] at z
      have := List.contains_iff_mem.mpr q
      rw [this] at z; cases z
theorem sg_store (k : OK X W C T adr) {x : Str} {i : Nat} (h : T.store x = some i) : SG X (.Name x pos) (.v i) := by
  unfold TrC.store at h
  split at h
  · split at h
    · rename_i e
      have := k.sc _ _ (by decide) e
      exact sg_name k.nd (ix_get (k.N ▸ h)) (.inl this) (.inr this)
    · rename_i e
      exact sg_name k.nd (ix_get (k.N ▸ h)) (.inr (k.sc _ _ (by decide) e)) (.inl (k.fnc _ e))
    · cases h
  · cases h
theorem sg_of (k : OK X W C T adr) {tg : Expr} {t : Tg} (h : tgP T tg = some t) : SG X tg t := by
  cases tg <;> first
    | (cases h; done)
    | skip
  rename_i x p
  obtain ⟨i, hi, e⟩ := Option.map_eq_some_iff.mp (show (T.store x).map Tg.v = some t from h)
  subst e
  exact sg_store k hi
theorem se_bi' (k : OK X W C T adr) {x : Str} {b : B} (hx : globP T x = true) (ho : T.own x = false) (hb : biC x = some b) (hes : SEs X W es fs) (hne : es.all noStar = true) (h0 : es ≠ []) : SE X W (.Call (.Name x p) es [] pos) (fun ρ => bind (fs ρ) (biM C.P b)) := by
  obtain ⟨g1, g2, g3⟩ := gl_of k hx
  obtain ⟨f, hf, hv⟩ := biC_boot hb
  exact se_bi k.cf hf g1 (k.own x ho (.inl (by rw [hb]; rfl))) hv g3 g2 hes hne h0
theorem si_lc {t : Tg} {tg : Expr} {e' : E} (h : SE X W e (fun ρ => evE C ρ e')) : SI X W tg e (fun ρ => bind (evEs C ρ [e']) fun ds => walkM C.P .of ds) := by
  have : (fun ρ => bind (evEs C ρ [e']) fun ds => walkM C.P .of ds) = fun ρ => bind (evE C ρ e') fun d => bind (srcM d) fun s => ret (.one s) := by
    funext ρ m
    rw [evEs, evEs, bind_assoc']
    refine bind_congr _ (fun d m => ?_) m
    rw [bind_assoc']
    rfl
  rw [this]
  exact si_of h
end
end Ev

/-! EvSd: what is translated does what the text does: expressions, the induction itself. -/
namespace Ev
open PySem L2 PySem.Spec PyProof.Rows
theorem Parts.all {X : Cx} {W : WX} {C : Ctx} {T : TrC} {adr : Str → Option Addr} (k : OK X W C T adr) : ∀ {es : List Expr} {es' : List E}, tEs' T es = some es' → (∀ e ∈ es, ∀ e', tE' T e = some e' → Good X W C e e') → Parts X W C.P es (es'.map fun e ρ => evE C ρ e)
  | [], es', h, _ => by rw [tEs'] at h; cases h; exact .nil
  | e :: es, es', h, g => by
    rw [tEs'] at h
    obtain ⟨a, b, h1, h2, e1⟩ := map2_some h
    subst e1
    obtain ⟨g1, g2⟩ := g e List.mem_cons_self a h1
    exact .cons g1 g2 (Parts.all k h2 fun e he => g e (List.mem_cons_of_mem _ he))
theorem Kws.all {X : Cx} {W : WX} {C : Ctx} {T : TrC} {adr : Str → Option Addr} (k : OK X W C T adr) : ∀ {ks : List Keyword} {q : List Str × List E}, tK' T ks = some q → (∀ kw ∈ ks, ∀ e', tE' T kw.value = some e' → SE X W kw.value (fun ρ => evE C ρ e')) → SKs X W ks q.1 (fun ρ => evEs C ρ q.2)
  | [], q, h, _ => by
    rw [tK'] at h; cases h
    have : (fun ρ => evEs C ρ []) = fun _ => ret [] := by funext ρ; rw [evEs]
    show SKs X W [] [] (fun ρ => evEs C ρ [])
    rw [this]; exact sks_nil
  | ⟨n, v, p⟩ :: ks, q, h, g => by
    rw [tK'] at h
    unfold kwP at h
    obtain ⟨x, e, r, h1, h2, h3, e1⟩ := map3_some h
    subst e1; subst h1
    have ih := Kws.all k h3 fun kw hk => g kw (List.mem_cons_of_mem _ hk)
    show SKs X W (⟨some x, v, p⟩ :: ks) (x :: r.1) (fun ρ => evEs C ρ (e :: r.2))
    have : (fun ρ => evEs C ρ (e :: r.2)) = fun ρ => bind (evE C ρ e) fun d => bind (evEs C ρ r.2) fun ds => ret (d :: ds) := by funext ρ; rw [evEs]
    rw [this]
    exact sks_cons (g _ List.mem_cons_self e h2) ih
theorem evEs_nil {C : Ctx} : (fun ρ => evEs C ρ []) = fun _ => ret [] := by funext ρ; rw [evEs]
section
variable {X : Cx} {W : WX} {C : Ctx} {T : TrC} {adr : Str → Option Addr}
theorem good_name (k : OK X W C T adr) {x : Str} {p : Bool} {pos : Pos} {e' : E} (h : nameP T x = some e') : SE X W (.Name x pos) (fun ρ => evE C ρ e') := by
  unfold nameP at h
  split at h
  · rename_i i hi; cases h
    exact (se_var' k hi).congr fun ρ m => by rw [evE]
  · split at h
    · rename_i hg
      split at h
      · cases h; exact (se_glob k hg).congr fun ρ m => by rw [evE]
      · rename_i ho
        obtain ⟨n, hn, e1⟩ := Option.map_eq_some_iff.mp h
        subst e1
        exact (se_ty k hg (by simpa using ho) hn).congr fun ρ m => by rw [evE]
    · cases h
theorem tEs_len : ∀ {es : List Expr} {es' : List E}, tEs' T es = some es' → es.length = es'.length
  | [], es', h => by rw [tEs'] at h; cases h; rfl
  | e :: es, es', h => by
    rw [tEs'] at h
    obtain ⟨a, b, h1, h2, e1⟩ := map2_some h
    subst e1
    simp [tEs_len h2]
theorem es_nil {es : List Expr} {es' : List E} (h : tEs' T es = some es') (h0 : es = []) : (fun ρ => evEs C ρ es') = fun _ => ret [] := by
  subst h0; rw [tEs'] at h; cases h; exact evEs_nil
end
theorem kw_size (kw : Keyword) : sizeOf kw.value < sizeOf kw := by
  obtain ⟨n, v, p⟩ := kw
  simp
  omega
theorem good_step (C : Ctx) (adr : Str → Option Addr) (n : Nat) (ih : ∀ e, sizeOf e < n → ∀ {X : Cx} {W : WX} {T : TrC} {e' : E}, OK X W C T adr → tE' T e = some e' → Good X W C e e') (e : Expr) (hsz : sizeOf e = n) {X : Cx} {W : WX} {T : TrC} {e' : E} (k : OK X W C T adr) (h : tE' T e = some e') : Good X W C e e' := by
  unfold tE' at h
  split at h
  · rename_i x pos
    exact good_plain (good_name (p := true) k h) fun _ => rfl
  · rename_i c j pos
    obtain ⟨d, hd, e1⟩ := Option.map_eq_some_iff.mp h
    subst e1
    exact good_plain ((se_const hd).congr fun ρ m => by rw [evE]) fun _ => rfl
  · rename_i es j pos
    obtain ⟨ds, hd, e1⟩ := Option.map_eq_some_iff.mp h
    subst e1
    have P := Parts.all k hd fun e he e' => ih e (by have := List.sizeOf_lt_of_mem he; simp at hsz; omega) k
    exact good_plain ((se_tup (P.ses (tEs'_noStar hd))).congr fun ρ m => by rw [evE]) fun _ => rfl
  · rename_i es pos
    obtain ⟨ds, hd, e1⟩ := Option.map_eq_some_iff.mp h
    subst e1
    have P := Parts.all k hd fun e he e' => ih e (by have := List.sizeOf_lt_of_mem he; simp at hsz; omega) k
    exact good_plain ((se_lst (P.ses (tEs'_noStar hd))).congr fun ρ m => by rw [evE]) fun _ => rfl
  · rename_i ks vs pos
    obtain ⟨hb, h⟩ := grd_some h
    simp only [Bool.and_eq_true, decide_eq_true_eq] at hb
    obtain ⟨qs, ds, hq, hd, e1⟩ := map2_some h
    subst e1
    have P := Parts.all k hd fun e he e' => ih e (by have := List.sizeOf_lt_of_mem he; simp at hsz; omega) k
    obtain ⟨h1, h2, h3⟩ := sps_of hq P hb.1
    refine good_plain ?_ fun _ => rfl
    by_cases h0 : ks = []
    · subst h0
      have hv : vs = [] := List.length_eq_zero_iff.mp hb.1.symm
      subst hv
      rw [tEs'] at hd; cases hd
      cases hq
      exact se_dct0.congr fun ρ m => by rw [evE, evEs]
    · exact (se_dct h1 h2 hb.1 h0 h3 hb.2).congr fun ρ m => by rw [evE]
  · rename_i a o b pos
    obtain ⟨o', x, y, ho, ha, hb, e1⟩ := map3_some h
    subst e1
    exact good_plain ((se_bin ho (ih a (by simp at hsz; omega) k ha).1 (ih b (by simp at hsz; omega) k hb).1).congr fun ρ m => by rw [evE]) fun _ => rfl
  · rename_i a pos
    obtain ⟨x, ha, e1⟩ := Option.map_eq_some_iff.mp h
    subst e1
    obtain ⟨g1, g2⟩ := ih a (by simp at hsz; omega) k ha
    refine ⟨(se_not g1).congr fun ρ m => by rw [evE], (st_not g2).congr fun ρ m => ?_⟩
    rw [evE, bind_assoc', bind_assoc']
    refine bind_congr _ (fun d m => ?_) m
    rw [bind_assoc']
    rfl
  · rename_i a pos
    obtain ⟨x, ha, e1⟩ := Option.map_eq_some_iff.mp h
    subst e1
    exact good_plain ((se_neg (ih a (by simp at hsz; omega) k ha).1).congr fun ρ m => by
      rw [evE]
      all_goals exact bind_congr _ (fun d m => by cases d <;> rfl) m) fun _ => rfl
  · rename_i es pos
    obtain ⟨hb, h⟩ := grd_some h
    obtain ⟨ds, hd, e1⟩ := Option.map_eq_some_iff.mp h
    subst e1
    have P := Parts.all k hd fun e he e' => ih e (by have := List.sizeOf_lt_of_mem he; simp at hsz; omega) k
    have ne : es ≠ [] := fun z => by rw [z] at hb; cases hb
    exact ⟨(se_and P ne).congr fun ρ m => by rw [evE, andF_eq], (st_and P ne).congr fun ρ m => by rw [evE, andF_eq]⟩
  · rename_i es pos
    obtain ⟨hb, h⟩ := grd_some h
    obtain ⟨ds, hd, e1⟩ := Option.map_eq_some_iff.mp h
    subst e1
    have P := Parts.all k hd fun e he e' => ih e (by have := List.sizeOf_lt_of_mem he; simp at hsz; omega) k
    have ne : es ≠ [] := fun z => by rw [z] at hb; cases hb
    exact ⟨(se_or P ne).congr fun ρ m => by rw [evE, orF_eq], (st_or P ne).congr fun ρ m => by rw [evE, orF_eq]⟩
  · rename_i c a b pos
    obtain ⟨x, y, z, hc, ha, hb, e1⟩ := map3_some h
    subst e1
    obtain ⟨c1, c2⟩ := ih c (by simp at hsz; omega) k hc
    obtain ⟨a1, a2⟩ := ih a (by simp at hsz; omega) k ha
    obtain ⟨b1, b2⟩ := ih b (by simp at hsz; omega) k hb
    refine ⟨(se_ite c2 a1 b1).congr fun ρ m => by rw [evE, bind_assoc'], (st_ite c2 a2 b2).congr fun ρ m => ?_⟩
    rw [evE, bind_assoc', bind_assoc']
    refine bind_congr _ (fun d m => ?_) m
    rw [bind_assoc']
    refine bind_congr _ (fun r m => ?_) m
    cases r <;> rfl
  · rename_i a o b pos
    obtain ⟨hn, h⟩ := grd_some h
    obtain ⟨x, y, ha, hb, e1⟩ := map2_some h
    subst e1
    have a1 := (ih a (by simp at hsz; omega) k ha).1
    have b1 := (ih b (by simp at hsz; omega) k hb).1
    exact ⟨(se_cmp k.hu a1 b1 hn).congr fun ρ m => by rw [evE], (st_cmp k.hu a1 b1 hn).congr fun ρ m => by rw [evE]⟩
  · rename_i a i pos
    obtain ⟨hn, h⟩ := grd_some h
    obtain ⟨x, y, ha, hb, e1⟩ := map2_some h
    subst e1
    exact good_plain ((se_ix k.tab k.hu (ih a (by simp at hsz; omega) k ha).1 (ih i (by simp at hsz; omega) k hb).1 (plainI_ix hn)).congr fun ρ m => by rw [evE]) fun _ => rfl
  · rename_i a f pos
    obtain ⟨hn, h⟩ := grd_some h
    obtain ⟨x, ha, e1⟩ := Option.map_eq_some_iff.mp h
    subst e1
    exact good_plain ((se_att k (ih a (by simp at hsz; omega) k ha).1 hn).congr fun ρ m => by rw [evE]) fun _ => rfl
  · rename_i x p es ks pos
    unfold callP at h
    obtain ⟨hg, h⟩ := grd_some h
    refine good_plain ?_ fun _ => rfl
    split at h
    · obtain ⟨ds, q, hd, hq, e1⟩ := map2_some h
      subst e1
      have P := Parts.all k hd fun e he e' => ih e (by have := List.sizeOf_lt_of_mem he; simp at hsz; omega) k
      have Kk := Kws.all k hq fun kw hkw e' hh => (ih kw.value (by have := List.sizeOf_lt_of_mem hkw; have := kw_size kw; simp at hsz; omega) k hh).1
      exact (se_call k hg (P.ses (tEs'_noStar hd)) (tEs'_noStar hd) (es_nil hd) Kk).congr fun ρ m => by rw [evE]
    · rename_i ho
      obtain ⟨he, h⟩ := grd_some h
      simp only [Bool.and_eq_true, Bool.not_eq_true', List.isEmpty_iff] at he
      obtain ⟨b, ds, hb, hd, e1⟩ := map2_some h
      subst e1
      have P := Parts.all k hd fun e he e' => ih e (by have := List.sizeOf_lt_of_mem he; simp at hsz; omega) k
      have e2 := he.1
      subst e2
      exact (se_bi' k hg (by simpa using ho) hb (P.ses (tEs'_noStar hd)) (tEs'_noStar hd) (fun z => by rw [z] at he; cases he.2)).congr fun ρ m => by rw [evE]
  · rename_i o mm ap es pos
    obtain ⟨hg, h⟩ := grd_some h
    simp only [Bool.and_eq_true, decide_eq_true_eq] at hg
    obtain ⟨⟨⟨g1, g2⟩, g3⟩, g4⟩ := hg
    obtain ⟨x, ds, ho, hd, e1⟩ := map2_some h
    subst e1
    have P := Parts.all k hd fun e he e' => ih e (by have := List.sizeOf_lt_of_mem he; simp at hsz; omega) k
    refine good_plain ?_ fun _ => rfl
    exact (se_bmeth rfl k.tab (by have := k.hu; omega) (ih o (by simp at hsz; omega) k ho).1 (P.ses (tEs'_noStar hd)) (tEs'_noStar hd) (es_nil hd) g1 g2 g3 g4).congr fun ρ m => by rw [evE, evEs]
  · rename_i elt t it ifs sc pos
    refine good_plain ?_ fun _ => rfl
    unfold lcP at h
    split at h
    · rename_i j ht
      obtain ⟨hg, h⟩ := grd_some h
      simp only [Bool.and_eq_true, decide_eq_true_eq, List.contains_iff_mem] at hg
      obtain ⟨⟨⟨g1, g2⟩, g3⟩, g4⟩ := hg
      obtain ⟨x, b, ee, hi, hb, he, e1⟩ := map3_some h
      subst e1
      have si := si_lc (t := .v j) (tg := t) (ih it (by simp at hsz; omega) k hi).1
      refine (se_lc (t := .v j) (ft := fun ρ => evIfs C ρ b) (fe := fun ρ => evE C ρ ee) k.calm k.nd si (blkOk_of k g1) (fun s H A cl fp => sg_of (k.blk s H A cl fp) ht) (fun s H A cl fp => ?_) (fun s H A cl fp => (ih elt (by simp at hsz; omega) (k.blk s H A cl fp) he).1) (fold_set g2) (fun i hi => by
        have : i = j := List.mem_singleton.mp hi
        rw [this]; exact g4)).congr fun ρ m => ?_
      · match ifs, g3, hb with
        | [], _, hb =>
          rw [tEs'] at hb; cases hb
          have : (fun ρ => evIfs C ρ []) = fun _ => ret true := by funext ρ; rw [evIfs]
          rw [this]; exact sts_nil
        | [c], _, hb =>
          rw [tEs', tEs'] at hb
          obtain ⟨c', r, hc, hr, e1⟩ := map2_some hb
          cases hr; subst e1
          have : (fun ρ => evIfs C ρ [c']) = fun ρ => bind (evE C ρ c') (truth C.P) := by
            funext ρ m
            rw [evIfs]
            refine bind_congr _ (fun d m => ?_) m
            show bind (truth C.P d) (fun c => if c = true then evIfs C ρ [] else ret false) m = truth C.P d m
            have : (fun c => if c = true then evIfs C ρ [] else ret false) = fun c => ret c := by
              funext c
              cases c
              · rfl
              · rw [evIfs]; rfl
            rw [this, bind_ret]
          rw [this]
          exact sts_one (ih c (by simp at hsz; omega) (k.blk s H A cl fp) hc).2
        | _ :: _ :: _, g3, _ => simp at g3
      · rw [evE]
        unfold lcF
        rw [bind_assoc']
        rfl
    · cases h
  · cases h
theorem good (C : Ctx) (adr : Str → Option Addr) {X : Cx} {W : WX} {T : TrC} {e : Expr} {e' : E} (k : OK X W C T adr) (h : tE' T e = some e') : Good X W C e e' := by
  have all : ∀ n, ∀ e, sizeOf e = n → ∀ {X : Cx} {W : WX} {T : TrC} {e' : E}, OK X W C T adr → tE' T e = some e' → Good X W C e e' := fun n => by
    induction n using Nat.strongRecOn with
    | _ n ih => exact fun e hn X W T e' k h => good_step C adr n (fun e he X W T e' k h => ih _ he e rfl k h) e hn k h
  exact all _ e rfl k h
end Ev

/-! EvSe: statements. -/
namespace Ev
open PySem L2 PySem.Spec PyProof.Rows
theorem star_any {a b : Expr} (ha : noStar a = true) (hb : noStar b = true) : ([a, b].any fun | .Starred .. => true | _ => false) = false := by
  have h1 : ∀ e : Expr, noStar e = true → (match e with | .Starred .. => true | _ => false) = false := fun e h => by cases e <;> first | rfl | cases h
  simp only [List.any_cons, List.any_nil, Bool.or_false]
  rw [h1 a ha, h1 b hb]; rfl
theorem swp {a b : Expr} {x y : Str} {px py pt : Pos} {kt k2 : Nat} {pt2 : Pos} {env : PySem.Env} (hb : env.blockKind = .function) (hx : env.kindOf x = some .local) (hy : env.kindOf y = some .local) {T : TrC} (h : parB T x y px py a b = true) :
    swappedStores [.Tuple [.Name x px, .Name y py] kt pt] (.Tuple [a, b] k2 pt2) env = pure (some [x, y]) := by
  unfold parB at h
  simp only [Bool.and_eq_true, Bool.not_eq_true', beq_iff_eq] at h
  obtain ⟨⟨⟨⟨⟨⟨_, hl⟩, hne⟩, na⟩, nb⟩, hf⟩, hc⟩ := h
  have hs := star_any na nb
  have hf' : [a, b].all (foldedForSure 8) = false := by simpa using hf
  have hc' : [a, b].all (constantsAlone 8) = false := by simpa using hc
  have hnames : ([Expr.Name x px, Expr.Name y py].filterMap fun | .Name id pos => if env.kindOf id == some .local && pos.line == px.line then some id else none | _ => none) = [x, y] := by
    simp [hx, hy, hl]
  have hdup : [x, y].eraseDups = [x, y] := by
    have : (y == x) = false := by
      have : ¬ x = y := by simpa using hne
      simpa using fun z => this z.symm
    simp [List.eraseDups, List.eraseDupsBy, List.eraseDupsBy.loop, this]
  unfold swappedStores
  simp only [hb]
  have key : ∀ nm : List Str, nm = [x, y] → ¬ ((nm.length != [Expr.Name x px, Expr.Name y py].length || nm.eraseDups.length != nm.length) = true) := fun nm e => by
    subst e
    rw [hdup]; simp
  refine Eq.trans (if_neg (by simp)) ?_
  refine Eq.trans (if_neg ?_) ?_
  · exact ne_true_of_eq_false hs
  refine Eq.trans (if_neg ?_) ?_
  · exact key _ hnames
  refine Eq.trans (if_neg ?_) ?_
  · rw [hf']; simp
  refine Eq.trans (if_neg ?_) ?_
  · rw [hc']; simp
  exact congrArg (fun nm => pure (some nm)) hnames
section
variable {X : Cx} {W : WX} {C : Ctx} {T : TrC} {adr : Str → Option Addr} {m : Mem} {ι : Map} {H : Hp} {σ : L2.St} {ρ : Env} {a b c e o i : Expr} {es : List Expr} {f g fa fb fc fe fo : Env → M D} {fs gs : Env → M (List D)} {pos apos p : Pos}
theorem noComp_ex {line : Nat} (h : noComp e = true) (t : Option Expr) : swapsWith e t line X.env = pure false := by
  cases e <;> first | (cases h; done) | rfl
def tA (X : Cx) (W : WX) (f : Env → M (List D)) : TA := fun σ H Q => ∃ ρ m ι P, HR X.K X.mg ι H m ∧ ER X.K X.mg ι H ρ σ ∧ XRM X W σ (f ρ) m ι H P ∧ ∀ ds vs m' ι' H', HR X.K X.mg ι' H' m' → VRs X.K X.mg ι' H' ds vs → Step m ι H m' ι' H' → P ds m' ι' H' → Q vs H'
theorem SEs.pa (h : SEs X W es fs) : PA X es (tA X W fs) := ⟨fun pos pins s σ H Q I ⟨ρ, m, ι, P, r, er, hh, k⟩ =>
  thn (h.run pos pins s σ H ρ m ι P I r er hh) fun us s1 ⟨ds, vs, m', ι', H', I', q, r', vr, st, p⟩ => ⟨vs, H', I', q, k ds vs m' ι' H' r' vr st p⟩⟩
theorem ss_par {x y : Str} {i j k2 kt : Nat} {px py pt pt2 : Pos} {c' d' : E} (hc : X.calm = true) (hN : X.N.Nodup) (hi : X.N[i]? = some x) (hj : X.N[j]? = some y) (hij : i ≠ j) (hx : X.env.scope.names.lookup x = some .local) (hy : X.env.scope.names.lookup y = some .local)
    (hs : SEs X W [a, b] (fun ρ => evEs C ρ [c', d'])) (hw : swappedStores [.Tuple [.Name x px, .Name y py] kt pt] (.Tuple [a, b] k2 pt2) X.env = pure (some [x, y])) :
    SS X W (.Assign [.Tuple [.Name x px, .Name y py] kt pt] (.Tuple [a, b] k2 pt2) pos) (fun ρ => evS C (.asg (.tup [.v i, .v j]) (.tup [c', d'])) ρ) := .of (ps_par hc hN hi hj hij hx hy hs.pa hw) fun σ H ρ m ι P r er h => by
  have h2 : XRM X W σ (bind (bind (evEs C ρ [c', d']) fun ds => if small ds.length then ret (.tup ds) else bad) fun d => match asgT (.tup [.v i, .v j]) d ρ with
    | some ρ' => ret (.nx ρ')
    | none => bad) m ι H P := by
    refine RM.of_eq ?_ h
    rw [evS, evE]
    all_goals rfl
  have h3 := RM.bind r (RM.bind r h2)
  refine ⟨ρ, m, ι, _, r, er, h3, fun ds vs m' ι' H' r' vr st h => ?_⟩
  split at h
  · have h := RM.ret r' h
    split at h
    · rename_i ρ' ea
      -- the pair
      unfold asgT at ea
      cases vr with
      | nil => unfold asgTs at ea; cases ea
      | cons v1 t =>
        unfold asgTs at ea
        cases t with
        | nil => split at ea <;> first | (unfold asgTs at ea; cases ea) | cases ea
        | cons v2 t =>
          split at ea
          · rename_i ρ1 e1
            unfold asgTs at ea
            split at ea
            · rename_i ρ2 e2
              cases t with
              | cons _ _ => unfold asgTs at ea; cases ea
              | nil =>
                unfold asgTs at ea
                cases ea
                unfold asgT at e1 e2
                split at e1
                · cases e1
                  split at e2
                  · cases e2
                    exact ⟨_, _, rfl, _, m', ι', r', ((er.step r st).set v1 i).set v2 j, st, RM.ret r' h⟩
                  · cases e2
                · cases e1
            · cases ea
          · cases ea
    · exact (RM.bad h).elim
  · exact (RM.bad h).elim
/-- a statement's context -/
structure OKS (X : Cx) (E0 : XK) (C : Ctx) (T : TrC) (adr : Str → Option Addr) : Prop extends OK X (fun c d _ H => E0 c d H) C T adr where
  own' : PassesOwn (model X.prog X.w) X.A X.env X.xe
  blk' : X.env.blockKind = .function
theorem SS.congr {st : Stmt} {f g : Env → M Fl} (h : SS X W st f) (k : ∀ ρ m, f ρ m = g ρ m) : SS X W st g := (funext fun ρ => funext fun m => k ρ m : f = g) ▸ h
theorem SSs.congr {st : List Stmt} {f g : Env → M Fl} (h : SSs X W st f) (k : ∀ ρ m, f ρ m = g ρ m) : SSs X W st g := (funext fun ρ => funext fun m => k ρ m : f = g) ▸ h
theorem store_loc (k : OK X W C T adr) {x : Str} {i : Nat} (h : T.store x = some i) : X.N[i]? = some x ∧ Loc X.env.scope x ∧ (X.fn x = true ∨ X.env.scope.names.lookup x = some .local) := by
  unfold TrC.store at h
  split at h
  · split at h
    · rename_i e
      have := k.sc _ _ (by decide) e
      exact ⟨ix_get (k.N ▸ h), .inl this, .inr this⟩
    · rename_i e
      exact ⟨ix_get (k.N ▸ h), .inr (k.sc _ _ (by decide) e), .inl (k.fnc _ e)⟩
    · cases h
  · cases h
theorem asg_name (k : OK X W C T adr) {x : Str} {i : Nat} {e' : E} {px : Pos} (hx : T.store x = some i) (he : tE' T e = some e') : SS X W (.Assign [.Name x px] e pos) (fun ρ => evS C (.asg (.v i) e') ρ) := by
  obtain ⟨h1, h2, h3⟩ := store_loc k hx
  have g := (good C adr k he).1
  have plain : swapsWith e (some (.Name x px)) pos.line X.env = pure false → SS X W (.Assign [.Name x px] e pos) (fun ρ => evS C (.asg (.v i) e') ρ) := fun hs =>
    (ss_set k.nd h1 h2 g hs h3).congr fun ρ m => by
      rw [evS]
      all_goals exact bind_congr _ (fun d m => by cases asgT (.v i) d ρ <;> rfl) m
  by_cases hn : noComp e = true
  · exact plain (noComp_ex hn _)
  · have hl : ∃ elt t it ifs sc p, e = .ListComp elt [⟨t, it, ifs, 0⟩] sc p := by
      unfold tE' at he
      split at he <;> first
        | (exact absurd rfl hn)
        | exact ⟨_, _, _, _, _, _, rfl⟩
        | cases he
    obtain ⟨elt, t, it, ifs, sc, p, rfl⟩ := hl
    have hsw : swapsWith (.ListComp elt [⟨t, it, ifs, 0⟩] sc p) (some (.Name x px)) pos.line X.env = pure (X.env.blockKind == .function && X.env.kindOf x == some .local && px.line == p.line && !(sc.names.any fun y => y.1 == x && (y.2 == .local || y.2 == .cell))) := rfl
    by_cases hc : (X.env.blockKind == .function && X.env.kindOf x == some .local && px.line == p.line && !(sc.names.any fun y => y.1 == x && (y.2 == .local || y.2 == .cell))) = true
    · rw [hc] at hsw
      simp only [Bool.and_eq_true, beq_iff_eq] at hc
      rw [tE'] at he
      unfold lcP at he
      split at he
      · rename_i j ht
        obtain ⟨hg, he⟩ := grd_some he
        simp only [Bool.and_eq_true, decide_eq_true_eq, List.contains_iff_mem] at hg
        obtain ⟨⟨⟨g1, g2⟩, g3⟩, g4⟩ := hg
        obtain ⟨x', b, ee, hi, hb, he2, e1⟩ := map3_some he
        subst e1
        have si := si_lc (t := .v j) (tg := t) (good C adr k hi).1
        refine (ss_setLc (t := .v j) (ft := fun ρ => evIfs C ρ b) (fe := fun ρ => evE C ρ ee) k.calm k.nd h1 hc.1.1.2 hsw si (blkOk_of k g1) (fun s H A cl fp => sg_of (k.blk s H A cl fp) ht) (fun s H A cl fp => ?_) (fun s H A cl fp => (good C adr (k.blk s H A cl fp) he2).1) (fold_set g2) (fun i hi => by
          have : i = j := List.mem_singleton.mp hi
          rw [this]; exact g4)).congr fun ρ m => ?_
        · match ifs, g3, hb with
          | [], _, hb =>
            rw [tEs'] at hb; cases hb
            have : (fun ρ => evIfs C ρ []) = fun _ => ret true := by funext ρ; rw [evIfs]
            rw [this]; exact sts_nil
          | [c], _, hb =>
            rw [tEs', tEs'] at hb
            obtain ⟨c', r, hc, hr, e1⟩ := map2_some hb
            cases hr; subst e1
            have : (fun ρ => evIfs C ρ [c']) = fun ρ => bind (evE C ρ c') (truth C.P) := by
              funext ρ m
              rw [evIfs]
              refine bind_congr _ (fun d m => ?_) m
              show bind (truth C.P d) (fun c => if c = true then evIfs C ρ [] else ret false) m = truth C.P d m
              have : (fun c => if c = true then evIfs C ρ [] else ret false) = fun c => ret c := by
                funext c
                cases c
                · rfl
                · rw [evIfs]; rfl
              rw [this, bind_ret]
            rw [this]
            exact sts_one (good C adr (k.blk s H A cl fp) hc).2
          | _ :: _ :: _, g3, _ => simp at g3
        · rw [evS, evE]
          have z : lcF (.v j) ((ownP T sc).map (·.2)) (fun ρ => bind (evEs C ρ [x']) fun ds => walkM C.P .of ds) (fun ρ => evIfs C ρ b) (fun ρ => evE C ρ ee) ρ = (bind (evEs C ρ [x']) fun ds => bind (walkM C.P .of ds) fun it => bind (ask fun m => some (it.len m)) fun n => lcM it (turnF (.v j) ((ownP T sc).map (·.2)) (fun ρ => evIfs C ρ b) (fun ρ => evE C ρ ee) ρ) n) := by
            funext m
            unfold lcF
            rw [bind_assoc']
          rw [z]
          exact bind_congr _ (fun d m => by cases asgT (.v i) d ρ <;> rfl) m
      · cases he
    · have hc' : (X.env.blockKind == .function && X.env.kindOf x == some .local && px.line == p.line && !(sc.names.any fun y => y.1 == x && (y.2 == .local || y.2 == .cell))) = false := eq_false_of_ne_true hc
      rw [hc'] at hsw
      exact plain hsw
end
end Ev

/-! EvSf: statements, the induction. -/
namespace Ev
open PySem L2 PySem.Spec PyProof.Rows
abbrev WK (E0 : XK) : WX := fun c d _ H => E0 c d H
def GoodS (X : Cx) (E0 : XK) (C : Ctx) (st : Stmt) (s : S) : Prop := SS X (WK E0) st (fun ρ => evS C s ρ)
theorem swSub {o i e : Expr} {ip : Pos} {line : Nat} {env : PySem.Env} (h : noComp e = true) : swapsWithSole [.Subscript o i ip] e line env = pure false := by
  show swapsWith e (some (.Subscript o i ip)) line env = pure false
  cases e <;> first | (cases h; done) | rfl
theorem stmts_all {X : Cx} {E0 : XK} {C : Ctx} {T : TrC} {adr : Str → Option Addr} (k : OKS X E0 C T adr) : ∀ {ss : List Stmt} {ss' : List S}, tSs' T ss = some ss' → (∀ s ∈ ss, ∀ s', tS' T s = some s' → GoodS X E0 C s s') → SSs X (WK E0) ss (fun ρ => evSs C ss' ρ)
  | [], ss', h, _ => by
    rw [tSs'] at h; cases h
    exact sss_nil.congr fun ρ m => by rw [evSs]
  | s :: ss, ss', h, g => by
    rw [tSs'] at h
    obtain ⟨a, b, h1, h2, e1⟩ := map2_some h
    subst e1
    refine (sss_cons (g s List.mem_cons_self a h1) (stmts_all k h2 fun s hs => g s (List.mem_cons_of_mem _ hs))).congr fun ρ m => ?_
    rw [evSs]
    all_goals exact bind_congr _ (fun f m => by cases f <;> rfl) m
theorem goodS_step (E0 : XK) (C : Ctx) (adr : Str → Option Addr) (n : Nat) {X : Cx} {T : TrC} (k : OKS X E0 C T adr) (ih : ∀ s, sizeOf s < n → ∀ s', tS' T s = some s' → GoodS X E0 C s s') (s : Stmt) (hsz : sizeOf s = n) {s' : S} (h : tS' T s = some s') : GoodS X E0 C s s' := by
  have kk := k.toOK
  unfold tS' at h
  split at h
  · rename_i e pos
    obtain ⟨hn, h⟩ := grd_some h
    obtain ⟨x, hx, e1⟩ := Option.map_eq_some_iff.mp h
    subst e1
    exact (ss_expr (good C adr kk hx).1 (noComp_ex hn _)).congr fun ρ m => by rw [evS]
  · rename_i o i ip e pos
    obtain ⟨hn, h⟩ := grd_some h
    simp only [Bool.and_eq_true] at hn
    obtain ⟨d, x, y, hd, hx, hy, e1⟩ := map3_some h
    subst e1
    exact (ss_setIx (by have := kk.hu; omega) (good C adr kk hd).1 (good C adr kk hx).1 (good C adr kk hy).1 hn.1 (swSub hn.2)).congr fun ρ m => by rw [evS]
  · rename_i x px e pos
    obtain ⟨i, d, hi, hd, e1⟩ := map2_some h
    subst e1
    exact asg_name kk hi hd
  · rename_i x px y py kt pt a b k2 pt2 pos
    unfold asgP at h
    obtain ⟨hp, h⟩ := grd_some h
    obtain ⟨t, v, ht, hv, e1⟩ := map2_some h
    subst e1
    obtain ⟨i, j, hi, hj, e1⟩ := map2_some ht
    subst e1
    obtain ⟨c, d, hc, hd, e1⟩ := map2_some hv
    subst e1
    have hp' := hp
    unfold parB at hp'
    simp only [Bool.and_eq_true, Bool.not_eq_true', beq_iff_eq, decide_eq_true_eq] at hp'
    obtain ⟨⟨⟨⟨⟨⟨⟨⟨⟨_, _⟩, lx⟩, ly⟩, _⟩, hne⟩, na⟩, nb⟩, _⟩, _⟩ := hp'
    have lx := kk.sc _ _ (by decide) lx
    have ly := kk.sc _ _ (by decide) ly
    obtain ⟨i1, _, _⟩ := store_loc kk hi
    obtain ⟨j1, _, _⟩ := store_loc kk hj
    have ij : i ≠ j := fun z => by
      subst z
      rw [i1] at j1
      cases j1
      simp at hne
    have P : Parts X (WK E0) C.P [a, b] ([c, d].map fun e ρ => evE C ρ e) := .cons (good C adr kk hc).1 (good C adr kk hc).2 (.cons (good C adr kk hd).1 (good C adr kk hd).2 .nil)
    exact ss_par kk.calm kk.nd i1 j1 ij lx ly (P.ses (by simp [na, nb])) (swp k.blk' lx ly hp)
  · cases h
    exact ss_retN.congr fun ρ m => by rw [evS]
  · rename_i e pos
    obtain ⟨x, hx, e1⟩ := Option.map_eq_some_iff.mp h
    subst e1
    exact (ss_ret (good C adr kk hx).1).congr fun ρ m => by rw [evS]
  · rename_i c a b pos
    obtain ⟨x, y, z, hx, hy, hz, e1⟩ := map3_some h
    subst e1
    have g1 := stmts_all k hy fun s hs => ih s (by have := List.sizeOf_lt_of_mem hs; simp at hsz; omega)
    have g2 := stmts_all k hz fun s hs => ih s (by have := List.sizeOf_lt_of_mem hs; simp at hsz; omega)
    exact (ss_if (good C adr kk hx).2 g1 g2).congr fun ρ m => by rw [evS, bind_assoc']
  · rename_i c b pos
    obtain ⟨x, y, hx, hy, e1⟩ := map2_some h
    subst e1
    have g1 := stmts_all k hy fun s hs => ih s (by have := List.sizeOf_lt_of_mem hs; simp at hsz; omega)
    exact (ss_while (w := C.w) k.own' (good C adr kk hx).2 g1).congr fun ρ m => by rw [evS]
  · rename_i t it b pos
    obtain ⟨hn, h⟩ := grd_some h
    obtain ⟨t', x, y, ht, hx, hy, e1⟩ := map3_some h
    subst e1
    have g1 := stmts_all k hy fun s hs => ih s (by have := List.sizeOf_lt_of_mem hs; simp at hsz; omega)
    refine (ss_for k.own' kk.calm (si_lc (t := t') (good C adr kk hx).1) (sg_of kk ht) g1 (fold_set hn)).congr fun ρ m => ?_
    rw [evS, bind_assoc']
    all_goals rfl
  · cases h
    exact ss_brk.congr fun ρ m => by rw [evS]
  · cases h
    exact ss_cont.congr fun ρ m => by rw [evS]
  · cases h
    exact ss_pass.congr fun ρ m => by rw [evS]
  · cases h
theorem goodS {E0 : XK} {C : Ctx} {adr : Str → Option Addr} {X : Cx} {T : TrC} (k : OKS X E0 C T adr) {s : Stmt} {s' : S} (h : tS' T s = some s') : GoodS X E0 C s s' := by
  have all : ∀ n, ∀ s, sizeOf s = n → ∀ s', tS' T s = some s' → GoodS X E0 C s s' := fun n => by
    induction n using Nat.strongRecOn with
    | _ n ih => exact fun s hs s' h => goodS_step E0 C adr n k (fun s he s' h => ih _ he s rfl s' h) s hs h
  exact all _ s rfl s' h
theorem goodSs {E0 : XK} {C : Ctx} {adr : Str → Option Addr} {X : Cx} {T : TrC} (k : OKS X E0 C T adr) {ss : List Stmt} {ss' : List S} (h : tSs' T ss = some ss') : SSs X (WK E0) ss (fun ρ => evSs C ss' ρ) :=
  stmts_all k h fun s _ s' hs => goodS k hs
end Ev

/-! EvSg: all defs hold their promises. -/
namespace Ev
open PySem L2 PySem.Spec PyProof.Rows
/-- a def as it stands written, and ours -/
def DefF (K : Frag) (own : Str → Bool) (f : Addr) (d : Def) (fd : FuncData) : Prop :=
  ∃ (name qual : Str) (params : Arguments) (body : List Stmt) (scope : Scope) (dV kV doc pm cdv ct oc : Value) (an od : Option Addr) (osl : Array (Option Value)) (N : List Str),
    fd = PySem.W.fnOf name qual params body scope dV kV doc pm an cdv ct ∧ K.lookup f = some ⟨oc, od, .func fd, osl⟩ ∧ PySem.W.codeIn K cdv qual = true ∧ FnScope N d.ps scope ∧ d.n = N.length ∧
      tSs' ⟨N, fun x => scope.names.lookup x, own, fun _ => false⟩ body = some d.body
/-- all that the text and the written part must say -/
structure WF (prog : Program) (w : World) (K : Frag) (mg : Str → Option Value) (base : Heap) (P : Prog) (own : Str → Bool) (adr : Str → Option Addr) : Prop where
  bn : ∀ x, own x = false → (biC x).isSome = true ∨ (tyOf x).isSome = true → mg x = none
  gl : ∀ x d, P.glob x = some d → ∃ u v, mg x = some u ∧ RelV v u ∧ ∀ ι H, VR K mg ι H d v
  gfn : ∀ x y, P.glob x = some (.fn y) → ∃ f, mg x = some (.ref f) ∧ adr y = some f ∧ PySem.W.keepIn K (.ref f) = true
  gcl : ∀ x c, P.glob x = some (.cls c) → ∃ A, mg x = some (.ref A) ∧ mg c = some (.ref A) ∧ P.isC c = true
  tab : ∀ x, P.tab x = none
  cf : ClsF K mg P
  ca : ∀ c A f, P.isX c = true → mg c = some (.ref A) → P.hasF c f = true → PySem.W.findIn K (.ref A) f = some none
  ni : ∀ c, P.isI c = false
  xf : XF prog w K mg base P
  df : ∀ y f, adr y = some f → ∃ fd d, P.defs y = some d ∧ DefF K own f d fd ∧ ∀ n ns pl, P.plan y n ns = some pl → BindF K fd d.ps n ns pl
theorem start_ER {K : Frag} {mg : Str → Option Value} {ι : Map} {H : Hp} {ds : List D} {vs : List V} (vr : VRs K mg ι H ds vs) {N : List Str} : ER K mg ι H (startE N.length ds) (L2.start N vs) := by
  have hl := vr.length
  refine ⟨?_, fun i d h => ?_⟩
  · unfold startE L2.start
    simp [hl]
  · unfold startE at h
    unfold L2.start
    by_cases hi : i < ds.length
    · rw [List.getElem?_append_left (by simpa using hi)] at h
      rw [List.getElem?_append_left (by simpa [hl] using hi)]
      rw [List.getElem?_map] at h
      cases e : ds[i]? with
      | none => rw [e] at h; cases h
      | some d' =>
        rw [e] at h
        cases h
        obtain ⟨v, hv, r⟩ := vr.get e
        exact ⟨v, by rw [List.getElem?_map, hv]; rfl, r⟩
    · rw [List.getElem?_append_right (by simpa using hi)] at h
      rw [List.getElem?_replicate] at h
      split at h <;> cases h
theorem funs {prog : Program} {w : World} {K : Frag} {mg : Str → Option Value} {base : Heap} {P : Prog} {own : Str → Bool} {adr : Str → Option Addr} (F : WF prog w K mg base P own adr) (fuel : Nat) : ∀ k, FunsAt prog w K mg base P fuel adr k := fun k => by
  induction k with
  | zero => exact step 0 (.inl fun y ds ns qs => rfl)
  | succ k ih => exact step (k + 1) (.inr ⟨k, rfl, ih⟩)
where
  step (k : Nat) (dep : (∀ y ds ns qs, callK P fuel k y ds ns qs = bad) ∨ ∃ j, k = j + 1 ∧ FunsAt prog w K mg base P fuel adr j) : FunsAt prog w K mg base P fuel adr k := fun y f hy => by
    obtain ⟨fd, d, hd, ⟨name, qual, params, body, scope, dV, kV, doc, pm, cdv, ct, oc, an, od, osl, N, e1, lk, hcd, S, hn, ht⟩, hb⟩ := F.df y f hy
    subst e1
    refine ⟨_, d, hd, ⟨_, _, _, lk⟩, fn_of lk hcd S (fun vs H Q E h => h.1) fun A outer s H vs Q E hr h => ?_, hb⟩
    obtain ⟨hl, ds, m, ι, r, vr, h⟩ := h
    have OKX : OKS (cxOf (L2.CX prog w) prog w K mg base N qual scope f cdv A outer s H E) E ⟨P, callK P fuel k, fuel⟩ ⟨N, fun x => scope.names.lookup x, own, fun _ => false⟩ adr :=
      { N := rfl
        nd := S.nd
        sc := fun x q hq h => h
        scf := fun x h => .inl h
        fnc := fun x h => rfl
        calm := rfl
        room := hr.mono (by omega)
        tk := takes_of rfl rfl rfl rfl
        own := F.bn
        gl := F.gl
        gfn := F.gfn
        gcl := F.gcl
        tab := F.tab
        cf := F.cf
        ca := F.ca
        ni := F.ni
        xf := F.xf
        dep := by
          rcases dep with hb | ⟨j, ej, hj⟩
          · exact .inl hb
          · subst ej
            exact .inr ⟨j, fuel, rfl, hj, hr⟩
        own' := passes_of rfl
        blk' := by
          show (if scope.kind.isAnnotationScope then ScopeKind.function else scope.kind) = _
          rw [S.kind]; rfl }
    refine ⟨_, (goodSs OKX ht).pss, ?_⟩
    unfold runD at h
    rw [hd] at h
    dsimp only at h
    unfold bodyM at h
    rw [hn] at h
    refine ⟨_, m, ι, _, r, start_ER vr, RM.bind r h, fun σ' H' q => ?_, fun v H' q => ?_, fun σ' H' q => ?_, fun σ' H' q => ?_⟩
    · obtain ⟨ρ', m', ι', r', er', st', p⟩ := q
      exact RM.ret r' p .non .non
    · obtain ⟨d', m', ι', r', vr', st', p⟩ := q
      exact RM.ret r' p v vr'
    · obtain ⟨ρ', m', ι', r', er', st', p⟩ := q
      exact (RM.bad p).elim
    · obtain ⟨ρ', m', ι', r', er', st', p⟩ := q
      exact (RM.bad p).elim
end Ev

/-! EvH: the head: a check of the written part, and the defs. -/
namespace Ev
open PySem PySem.Spec PyProof.Rows L2
/-- what the module's names and the statics reach in n steps -/
def asC (g : Addr → Option Obj) : Nat → List Addr
  | 0 => [mainGlobals, cStatics]
  | n + 1 => He.growG g (asC g n)
abbrev AlC : Type := Bool × List He.FnW
def obsC (chk : Frag → Bool) (fn : List He.DefD) (K : Frag) : AlC := (chk K && fn.all fun d => d.ok K, fn.map fun d => He.fnW K d.at_)
def valC (fn : List He.DefD) : AlC := (true, fn.map He.DefD.val)
def SaysC (chk : Frag → Bool) (fn : List He.DefD) (K : Frag) : Prop := obsC chk fn K = valC fn
def obsCG (n : Nat) (chk : Frag → Bool) (fn : List He.DefD) (g : Addr → Option Obj) : AlC := obsC chk fn (He.frG g (asC g n))
def hookC (n : Nat) (chk : Frag → Bool) (fn : List He.DefD) : PySem.W.Hook where
  α := AlC
  obs := fun s => obsCG n chk fn s.heap.get?
  val := fun _ => valC fn
  says := fun _ h => ∃ K : Frag, K.In h ∧ SaysC chk fn K
  of := fun _ _ e => ⟨_, He.frG_in, e⟩
  keeps := fun _ _ _ ⟨K, hK, c⟩ k => ⟨K, PySem.W.Frag.In.keeps hK k, c⟩
theorem obsCG_eq {n : Nat} {chk : Frag → Bool} {fn : List He.DefD} {g : Addr → Option Obj} {s : Shared} (h : ∀ a, g a = s.heap.get? a) : obsCG n chk fn g = (hookC n chk fn).obs s := by
  have e : g = s.heap.get? := funext h
  rw [e] <;> rfl
section
variable {chk : Frag → Bool} {fn : List He.DefD} {K : Frag}
theorem SaysC.chk_ (c : SaysC chk fn K) : chk K = true := (Bool.and_eq_true_iff.mp (show (chk K && fn.all fun d => d.ok K) = true from congrArg (fun z : AlC => z.1) c)).1
theorem SaysC.def_ (c : SaysC chk fn K) {d : He.DefD} (h : d ∈ fn) : ∃ fd, FunD K d.name d.qual d.params d.body d.scope (d.dvs K) (d.kws K) (He.fAd K d.at_) fd := by
  have c2 := (Bool.and_eq_true_iff.mp (show (chk K && fn.all fun d => d.ok K) = true from congrArg (fun z : AlC => z.1) c)).2
  have e : fn.map (fun d => He.fnW K d.at_) = fn.map He.DefD.val := congrArg (fun z : AlC => z.2) c
  exact He.DefD.funD (List.map_inj_left.mp e d h) (List.all_eq_true.mp c2 d h)
end
end Ev

/-! EvI: __init__ of own exceptions. -/
namespace Ev
open PySem L2 PySem.Spec PyProof.Rows
/-- the base of the exceptions: its __init__ is ValueError's -/
structure BaseX (K : Frag) (mg : Str → Option Value) (B : Str) (CB : Addr) : Prop where
  gb : mg B = some (.ref CB)
  rd : PySem.W.readsIn K CB (.type "type") = true
  ga : PySem.W.specialIn K (.ref CB) "__getattribute__" = some (some (.builtin "type.__getattribute__"))
  fc : PySem.W.findCls K (.ref CB) (.type "type") "__init__" = some (.val (.builtin "ValueError.__init__"))
/-- o.m(..), the method found whatever it is -/
theorem meth_any {prog : Program} {w : World} {A : Around} {E : Value → Shared → Prop} {s : Shared} {env : PySem.Env} {o : Expr} {name : Str} {apos pos : Pos} {args : List Expr} {kws : List Keyword} {Q : Value → Shared → Prop} (hbase : attributeBase o name env (eval o env) = eval o env)
    (hfew : methodCallForm (args.length + kws.length) (backTo pos (starEach args env)) (backToKw pos (keywordEach kws env)) = true) (hline : (apos.endLine == pos.line) = true)
    (h : wpAny (model prog w) A (eval o env) (fun ov s1 => ∀ pl, wpAny (model prog w) A (getMethod ov name pl) (fun fx s2 => wpAny (model prog w) A (callWith pos fx.1 fx.2 (backTo pos (starEach args env)) (backToKw pos (keywordEach kws env))) Q E s2) E s1) E s) :
    wpAny (model prog w) A (eval (.Call (.Attribute o name apos) args kws pos) env) Q E s := by
  rw [arm_eval_Call, hbase]
  refine wpAny_bind (wpAny_mono h (fun ov s1 h1 => wpAny_bind (wpAny_standAt ?_)) fun _ _ e => e)
  have hpos : methodCallPos true o env apos pos = pure pos := by unfold methodCallPos; simp [hline]
  unfold methodCall
  rw [hfew]
  refine wpAny_bind (wpAny_holding (wpAny_mono (h1 _) (fun fx s2 h2 => ?_) fun _ _ e => e))
  exact wpAny_bind (wpAny_of_eq hpos h2)
section
variable {X : Cx} {pins : List (Addr × Obj)} {σ : L2.St} {s : Shared} {H : Hp}
/-- one field of a text -/
theorem fmt_walk {v : V} {u : Value} {Q : Value → Shared → Prop} (I : Inv X pins σ H s) (q : RelV v u) (hf : fmtV v = true) (h : ∀ z t s', Inv X pins σ H s' → z.length ≤ 1100000 → Q (.str z t) s') : wpAny (model X.prog X.w) X.A (formatField u Str.empty) Q X.xe s := by
  cases v with
  | non => cases q; exact wpAny_formatField_none (h _ _ _ (I.tok _) (by decide))
  | int i =>
    obtain ⟨t, rfl⟩ := q
    have hd : i.natAbs.log2 < 1920 := of_decide_eq_true hf
    refine wpAny_formatField_int hd (h _ _ _ (I.tok _) ?_)
    have e := int_text_length_le (k := 1920) (by decide) hd
    rw [PySem.ofString_length]; omega
  | str x =>
    obtain ⟨t, rfl⟩ := q
    have hd : x.length ≤ 1000000 := of_decide_eq_true hf
    have hs : x.length ≤ sizeLine := by rw [sizeLine_eq]; omega
    exact wpAny_formatField_str (h _ _ _ I (by omega)) (h _ _ _ (I.tok _) (by omega)) hs
  | _ => cases hf
/-- f'{x}', x a name -/
theorem fv_walk {i : Nat} {x : Str} {p p2 : Pos} {v : V} {Q : Value → Shared → Prop} (hN : X.N[i]? = some x) (hv : Vis X.env.scope x) (hd : (x == ("__debug__" : Str)) = false) (hcd : (x == ("__classdict__" : Str)) = false) (I : Inv X pins σ H s) (hs : σ[i]? = some (some v)) (hf : fmtV v = true)
    (h : ∀ z t s', Inv X pins σ H s' → z.length ≤ 1100000 → Q (.str z t) s') : wpAny (model X.prog X.w) X.A (eval (.FormattedValue (.Name x p) (-1) none p2) X.env) Q X.xe s := by
  refine wpAny_FormattedValue_plain (thn ((pe_var (pos := p) hN hv hd hcd).run pins s σ H (fun v' H' => v' = v ∧ H' = H) I ⟨v, hs, rfl, rfl⟩) fun u s1 ⟨v', H', I1, q, e1, e2⟩ => ?_)
  subst e1; subst e2
  exact fmt_walk I1 q hf h
/-- the text of one field, or of two with a text between -/
inductive FsOk (X : Cx) (σ : L2.St) : List Expr → Prop where
  | one {i : Nat} {x : Str} {p p2 : Pos} {v : V} : X.N[i]? = some x → Vis X.env.scope x → (x == ("__debug__" : Str)) = false → (x == ("__classdict__" : Str)) = false → σ[i]? = some (some v) → fmtV v = true → FsOk X σ [.FormattedValue (.Name x p) (-1) none p2]
  | two {i j k : Nat} {x y c : Str} {p p2 p3 p4 p5 : Pos} {v w : V} : X.N[i]? = some x → Vis X.env.scope x → (x == ("__debug__" : Str)) = false → (x == ("__classdict__" : Str)) = false → σ[i]? = some (some v) → fmtV v = true →
      X.N[j]? = some y → Vis X.env.scope y → (y == ("__debug__" : Str)) = false → (y == ("__classdict__" : Str)) = false → σ[j]? = some (some w) → fmtV w = true → c.length ≤ 1000 →
      FsOk X σ [.FormattedValue (.Name x p) (-1) none p2, .Constant (.str c) k p3, .FormattedValue (.Name y p4) (-1) none p5]
theorem fs_walk {parts : List Expr} {pos : Pos} {Q : Value → Shared → Prop} (h : FsOk X σ parts) (I : Inv X pins σ H s) (k : ∀ z t s', Inv X pins σ H s' → Q (.str z t) s') : wpAny (model X.prog X.w) X.A (eval (.JoinedStr parts pos) X.env) Q X.xe s := by
  cases h with
  | one h1 h2 h3 h4 h5 h6 => exact JoinedStr_one (fv_walk h1 h2 h3 h4 I h5 h6 fun z t s' I' _ => k z t s' I')
  | two h1 h2 h3 h4 h5 h6 g1 g2 g3 g4 g5 g6 hc =>
    refine JoinedStr_many (joinParts_cons (fv_walk h1 h2 h3 h4 I h5 h6 fun z t s1 I1 hz => ⟨?_, ?_⟩))
    · rw [PySem.strLen_append, sizeLine_eq]
      have : Str.empty.length = 0 := rfl
      omega
    · refine joinParts_cons (Calls.Constant_str ⟨?_, ?_⟩)
      · rw [PySem.strLen_append, PySem.strLen_append, sizeLine_eq]
        have : Str.empty.length = 0 := rfl
        omega
      · refine joinParts_cons (fv_walk g1 g2 g3 g4 (I1.tok _) g5 g6 fun z2 t2 s2 I2 hz2 => ⟨?_, ?_⟩)
        · rw [PySem.strLen_append, PySem.strLen_append, PySem.strLen_append, sizeLine_eq]
          have : Str.empty.length = 0 := rfl
          omega
        · refine joinParts_nil (k _ _ _ (I2.tok _)) ?_
          rw [PySem.strLen_append, PySem.strLen_append, PySem.strLen_append, sizeLine_eq]
          have : Str.empty.length = 0 := rfl
          omega
/-- Base.__init__(self, f'..') -/
theorem base_init {B sn : Str} {CB a C : Addr} {parts : List Expr} {p1 p2 p3 p6 p7 p8 : Pos} {D : Ends} (F : BaseX X.K X.mg B CB) (hg : Gl X B) (hd : (B == ("__debug__" : Str)) = false) (T : OexC X.K C) {i : Nat} (hN : X.N[i]? = some sn) (hv : Vis X.env.scope sn) (hsd : (sn == ("__debug__" : Str)) = false) (hcd : (sn == ("__classdict__" : Str)) = false)
    (hline : (p2.endLine == p7.line) = true) (I : Inv X pins σ H s) (hs : σ[i]? = some (some (.ref a))) (ho : H a = some (exo a C none)) (hf : FsOk X σ parts) (k : D.nx σ H) :
    wpAny (model X.prog X.w) X.A (exec (.Expr (.Call (.Attribute (.Name B p1) "__init__" p2) [.Name sn p3, .JoinedStr parts p6] [] p7) p8) X.env) (SP X pins D) X.xe s := by
  refine wpAny_Expr_any ?_ I.quiet rfl
  refine meth_any rfl rfl hline (ld_glob I hg F.gb (fun pl => ?_) hd)
  refine PySem.W.method_cls I.kIn F.ga (PySem.W.cls_value I.kIn F.rd F.fc rfl ?_)
  show wpAny _ _ (callWith p7 (Value.builtin "ValueError.__init__") [] (backTo p7 (starEach [.Name sn p3, .JoinedStr parts p6] X.env)) []) _ _ _
  refine PyProof.Rows.callWith_method1 ?_ rfl rfl
  show wpAny _ _ (spliced ((false, eval (.Name sn p3) X.env) :: (false, eval (.JoinedStr parts p6) X.env) :: [])) _ _ _
  refine Calls.spliced_cons (thn ((pe_var (pos := p3) hN hv hsd hcd).run pins _ σ H (fun v' H' => v' = .ref a ∧ H' = H) (I.tok _) ⟨.ref a, hs, rfl, rfl⟩) fun u s1 ⟨v', H', I1, q, e1, e2⟩ => ?_)
  subst e1; subst e2
  obtain rfl : u = Value.ref a := q
  refine Calls.spliced_cons (fs_walk hf I1 fun z t s2 I2 => Calls.spliced_nil ?_)
  exact oinit_ok T I2 ho (by rw [sizeLine_eq]; show 1 ≤ 16777216; decide) fun s3 I3 => ⟨σ, H', I3, k⟩
/-- the first statement, as a step -/
def tBI (X : Cx) (a C : Addr) (i : Nat) (parts : List Expr) : TS := fun D σ H => (σ[i]? = some (some (.ref a)) ∧ H a = some (exo a C none) ∧ FsOk X σ parts) ∧ D.nx σ H
theorem ps_bi {B sn : Str} {CB a C : Addr} {parts : List Expr} {p1 p2 p3 p6 p7 p8 : Pos} (F : BaseX X.K X.mg B CB) (hg : Gl X B) (hd : (B == ("__debug__" : Str)) = false) (T : OexC X.K C) {i : Nat} (hN : X.N[i]? = some sn) (hv : Vis X.env.scope sn) (hsd : (sn == ("__debug__" : Str)) = false) (hcd : (sn == ("__classdict__" : Str)) = false)
    (hline : (p2.endLine == p7.line) = true) : PS X (.Expr (.Call (.Attribute (.Name B p1) "__init__" p2) [.Name sn p3, .JoinedStr parts p6] [] p7) p8) (tBI X a C i parts) :=
  ⟨fun pins s σ H D I ⟨⟨h1, h2, h3⟩, k⟩ => base_init F hg hd T hN hv hsd hcd hline I h1 h2 h3 k⟩
end
/-- an own exception's __init__ of one field, as it stands written -/
def Ini1 (B f : Str) (ps : List Str) (body : List Stmt) : Prop := ∃ (sn : Str) (p1 p2 p3 p4 p5 p6 p7 p8 p9 p10 p11 p12 : Pos), ps = [sn, f] ∧ (p2.endLine == p7.line) = true ∧
  body = [.Expr (.Call (.Attribute (.Name B p1) "__init__" p2) [.Name sn p3, .JoinedStr [.FormattedValue (.Name f p4) (-1) none p5] p6] [] p7) p8, .Assign [.Attribute (.Name sn p9) f p10] (.Name f p11) p12]
/-- .. of two -/
def Ini2 (B f g : Str) (ps : List Str) (body : List Stmt) : Prop := ∃ (sn c : Str) (kk : Nat) (p1 p2 p3 p4 p5 p6 p7 p8 p9 p10 p11 p12 p13 p14 p15 p16 p17 p18 p19 : Pos), ps = [sn, f, g] ∧ (p2.endLine == p7.line) = true ∧ c.length ≤ 1000 ∧
  body = [.Expr (.Call (.Attribute (.Name B p1) "__init__" p2) [.Name sn p3, .JoinedStr [.FormattedValue (.Name f p4) (-1) none p5, .Constant (.str c) kk p17, .FormattedValue (.Name g p18) (-1) none p19] p6] [] p7) p8, .Assign [.Attribute (.Name sn p9) f p10] (.Name f p11) p12, .Assign [.Attribute (.Name sn p13) g p14] (.Name g p15) p16]
section
variable {P : Program} {w : World} {K : Frag} {mg : Str → Option Value} {base : Heap}
theorem init1_ok {fI C CB : Addr} {fd : FuncData} {name qual : Str} {params : Arguments} {body : List Stmt} {scope : Scope} {B f : Str} {ps : List Str} (F : FunD K name qual params body scope [] [] fI fd) (S : FnScope ps ps scope) (hb : Ini1 B f ps body) (bx : BaseX K mg B CB) (hB : scope.names.lookup B = some .globalImplicit) (hBd : (B == ("__debug__" : Str)) = false)
    (T : OexC K C) (hno : PySem.W.findIn K (.ref C) f = some none) (hpn : ps.all plainN = true) : FnOk P w K mg base (L2.CX P w) 1 fI fd ps (spX C [f]) := by
  obtain ⟨sn, p1, p2, p3, p4, p5, p6, p7, p8, p9, p10, p11, p12, rfl, hline, rfl⟩ := hb
  obtain ⟨⟨oc, od, dV, kV, doc, pm, an, cdv, ct, osl, rfl, lk, hcd, hD, hK⟩, kp⟩ := F
  simp only [List.all_cons, List.all_nil, Bool.and_eq_true, Bool.and_true] at hpn
  obtain ⟨n1, n2, _⟩ := plainN_d hpn.1
  obtain ⟨n3, n4, _⟩ := plainN_d hpn.2
  have vis : ∀ x ∈ [sn, f], Vis scope x := fun x hx => (S.par x hx).imp id .inl
  refine fn_of lk hcd S (fun vs H Q E h => ?_) fun A outer s H vs Q E hr h => ?_
  · obtain ⟨a, ws, rfl, hl, _⟩ := h
    simp [hl]
  · obtain ⟨a, ws, rfl, hl, hf, ho, hq⟩ := h
    match ws, hl with
    | [v], _ =>
      have hf' : fmtV v = true := by simpa using hf
      refine ⟨_, pss_cons (ps_bi (a := a) (C := C) (i := 0) bx (by exact hB) hBd T rfl (vis sn (by simp)) n1 n2 hline) (pss_one (ps_ost (pe_var (i := 0) rfl (vis sn (by simp)) n1 n2) (pe_var (i := 1) rfl (vis f (by simp)) n3 n4))), ?_⟩
      refine ⟨⟨rfl, ho, .one (i := 1) rfl (vis f (by simp)) n3 n4 rfl hf'⟩, ?_⟩
      refine ⟨v, rfl, .ref a, rfl, a, C, rfl, T, hno, .inl ⟨ho, fun dx h1 h2 => ?_⟩⟩
      refine hq dx _ h1 h2 upd_same ?_ fun b h3 h4 => by rw [upd_ne h3, upd_ne h4]
      rw [upd_ne h2, upd_same]; rfl
theorem init2_ok {fI C CB : Addr} {fd : FuncData} {name qual : Str} {params : Arguments} {body : List Stmt} {scope : Scope} {B f g : Str} {ps : List Str} (F : FunD K name qual params body scope [] [] fI fd) (S : FnScope ps ps scope) (hb : Ini2 B f g ps body) (bx : BaseX K mg B CB) (hB : scope.names.lookup B = some .globalImplicit) (hBd : (B == ("__debug__" : Str)) = false)
    (T : OexC K C) (hno : PySem.W.findIn K (.ref C) f = some none) (hno2 : PySem.W.findIn K (.ref C) g = some none) (hpn : ps.all plainN = true) : FnOk P w K mg base (L2.CX P w) 1 fI fd ps (spX C [f, g]) := by
  obtain ⟨sn, c, kk, p1, p2, p3, p4, p5, p6, p7, p8, p9, p10, p11, p12, p13, p14, p15, p16, p17, p18, p19, rfl, hline, hc, rfl⟩ := hb
  obtain ⟨⟨oc, od, dV, kV, doc, pm, an, cdv, ct, osl, rfl, lk, hcd, hD, hK⟩, kp⟩ := F
  simp only [List.all_cons, List.all_nil, Bool.and_eq_true, Bool.and_true] at hpn
  obtain ⟨n1, n2, _⟩ := plainN_d hpn.1
  obtain ⟨n3, n4, _⟩ := plainN_d hpn.2.1
  obtain ⟨n5, n6, _⟩ := plainN_d hpn.2.2
  have vis : ∀ x ∈ [sn, f, g], Vis scope x := fun x hx => (S.par x hx).imp id .inl
  refine fn_of lk hcd S (fun vs H Q E h => ?_) fun A outer s H vs Q E hr h => ?_
  · obtain ⟨a, ws, rfl, hl, _⟩ := h
    simp [hl]
  · obtain ⟨a, ws, rfl, hl, hf, ho, hq⟩ := h
    match ws, hl with
    | [v, v2], _ =>
      have hf' : fmtV v = true ∧ fmtV v2 = true := by simpa using hf
      refine ⟨_, pss_cons (ps_bi (a := a) (C := C) (i := 0) bx (by exact hB) hBd T rfl (vis sn (by simp)) n1 n2 hline) (pss_cons (ps_ost (pe_var (i := 0) rfl (vis sn (by simp)) n1 n2) (pe_var (i := 1) rfl (vis f (by simp)) n3 n4)) (pss_one (ps_ost (pe_var (i := 0) rfl (vis sn (by simp)) n1 n2) (pe_var (i := 2) rfl (vis g (by simp)) n5 n6)))), ?_⟩
      refine ⟨⟨rfl, ho, .two (i := 1) (j := 2) rfl (vis f (by simp)) n3 n4 rfl hf'.1 rfl (vis g (by simp)) n5 n6 rfl hf'.2 hc⟩, ?_⟩
      refine ⟨v, rfl, .ref a, rfl, a, C, rfl, T, hno, .inl ⟨ho, fun dx h1 h2 => ?_⟩⟩
      have e1 : (upd (upd H dx (exd dx [(f, v)])) a (exo a C (some dx))) dx = some (exd dx [(f, v)]) := by rw [upd_ne h2, upd_same]
      refine ⟨v2, rfl, .ref a, rfl, a, C, rfl, T, hno2, .inr ⟨dx, [(f, v)], upd_same, e1, by show 1 ≤ 900; decide, ?_⟩⟩
      refine hq dx _ h1 h2 (by rw [upd_ne (Ne.symm h2), upd_same]) ?_ fun b h3 h4 => by rw [upd_ne h4, upd_ne h3, upd_ne h4]
      rw [upd_same]; rfl
end
end Ev

/-! EvJ: a law's data; the check; the facts. -/
namespace Ev
open PySem PySem.Spec PyProof.Rows L2
/-! ### the names of comprehensions' blocks -/
def scOwn (sc : Scope) : List Str := sc.names.filterMap fun y => if y.2 = .local ∨ y.2 = .cell then some y.1 else none
mutual
def nmE : Expr → List Str
  | .ListComp e gs sc _ => scOwn sc ++ nmE e ++ nmG gs
  | .BoolOp _ vs _ => nmEs vs
  | .BinOp a _ b _ => nmE a ++ nmE b
  | .UnaryOp _ a _ => nmE a
  | .IfExp a b c _ => nmE a ++ nmE b ++ nmE c
  | .Dict _ vs _ => nmEs vs
  | .Compare a _ bs _ => nmE a ++ nmEs bs
  | .Call f es ks _ => nmE f ++ nmEs es ++ nmK ks
  | .Attribute a _ _ => nmE a
  | .Subscript a i _ => nmE a ++ nmE i
  | .List es _ => nmEs es
  | .Tuple es _ _ => nmEs es
  | _ => []
def nmEs : List Expr → List Str
  | [] => []
  | e :: r => nmE e ++ nmEs r
def nmK : List Keyword → List Str
  | [] => []
  | ⟨_, v, _⟩ :: r => nmE v ++ nmK r
def nmG : List Comprehension → List Str
  | [] => []
  | ⟨t, i, ifs, _⟩ :: r => nmE i ++ nmEs ifs ++ nmG r
end
mutual
def nmS : Stmt → List Str
  | .Expr e _ => nmE e
  | .Assign _ e _ => nmE e
  | .Return (some e) _ => nmE e
  | .If c a b _ => nmE c ++ nmSs a ++ nmSs b
  | .While c a _ _ => nmE c ++ nmSs a
  | .For _ i b _ _ => nmE i ++ nmSs b
  | _ => []
def nmSs : List Stmt → List Str
  | [] => []
  | s :: r => nmS s ++ nmSs r
end
def psOf (a : Arguments) : List Str := a.args.map (·.arg)
def namesOf (d : He.DefD) : List Str :=
  let ps := psOf d.params
  let n0 := ps ++ (scOwn d.scope).filter fun x => !ps.contains x
  n0 ++ ((nmSs d.body).filter fun x => !n0.contains x).eraseDups
def trOf (own : Str → Bool) (d : He.DefD) : Option (List S) := tSs' ⟨namesOf d, fun x => d.scope.names.lookup x, own, fun _ => false⟩ d.body
def ourDef (own : Str → Bool) (d : He.DefD) : Def := ⟨psOf d.params, [], (namesOf d).length, (trOf own d).getD []⟩
/-- a law -/
structure LawD where
  fns : List (Str × He.DefD × List (Nat × List Str × List (Nat ⊕ Nat)))
  cls : List (Str × Cls)
  ini : List (Str × He.DefD × List (Nat × List Str × List (Nat ⊕ Nat)))
  base : Str
def LawD.own (L : LawD) (x : Str) : Bool := (L.fns.lookup x).isSome || (L.cls.lookup x).isSome
def LawD.plan (L : LawD) (f : Str) (n : Nat) (ns : List Str) : Option (List (Nat ⊕ Nat)) := match (L.fns ++ L.ini).lookup f with
  | some q => (q.2.find? fun p => decide (p.1 = n) && decide (p.2.1 = ns)).map fun p => p.2.2
  | none => none
def LawD.P (L : LawD) : Prog where
  defs := fun y => (L.fns.lookup y).map fun q => ourDef L.own q.1
  glob := fun x => if (L.fns.lookup x).isSome then some (.fn x) else if (L.cls.lookup x).isSome then some (.cls x) else none
  tab := fun _ => none
  cls := fun c => L.cls.lookup c
  plan := L.plan
def LawD.adr (L : LawD) (K : Frag) (y : Str) : Option Addr := if (L.fns.lookup y).isSome then some (He.ga K y) else none
/-! ### checks of the text alone -/
def scB (N P : List Str) (sc : Scope) : Bool := decide (sc.kind = .function) && !sc.isCoroutine && !sc.isGenerator && decide N.Nodup && decide (N.take P.length = P) && P.all (fun x => decide (sc.names.lookup x = some .local) || decide (sc.names.lookup x = some .cell)) && sc.names.all (fun y => decide (y.2 ≠ .free))
theorem scB_ok {N P : List Str} {sc : Scope} (h : scB N P sc = true) : FnScope N P sc := by
  unfold scB at h
  simp only [Bool.and_eq_true, decide_eq_true_eq, Bool.not_eq_true', List.all_eq_true, Bool.or_eq_true] at h
  obtain ⟨⟨⟨⟨⟨⟨h1, h2⟩, h3⟩, h4⟩, h5⟩, h6⟩, h7⟩ := h
  exact ⟨h1, h2, h3, h4, h5, h6, h7⟩
def LawD.fnB (L : LawD) : Bool := L.fns.all fun q => decide (q.2.1.at_ = (q.1, none)) && q.2.1.dfl.isEmpty && q.2.1.kwd.isEmpty && scB (namesOf q.2.1) (psOf q.2.1.params) q.2.1.scope && (trOf L.own q.2.1).isSome
/-! ### checks of the written part -/
def exfB (K : Frag) (C : Addr) : Bool := (PySem.W.clsIn K C).isSome && decide (PySem.W.findIn K (.ref C) "__getattribute__" = some (some (.builtin "BaseException.__getattribute__"))) && decide (PySem.W.findIn K (.ref C) "__getattr__" = some none) && decide (PySem.W.subIn K (.ref C) (.type "BaseException") = some true) &&
  decide (PySem.W.findIn K (.ref C) "__class__" = some (some (.builtin "object.__class__"))) && decide (PySem.W.specialIn K (.builtin "object.__class__") "__get__" = some (some (.builtin "getset_descriptor.__get__"))) && decide (PySem.W.takesIn K (.builtin "object.__class__") = some true) &&
  decide (PySem.W.mroIn K C (.type "object") = some true) && PySem.W.keepIn K (.ref C) && PySem.W.hasDictIn K C
theorem exfB_ok {K : Frag} {C : Addr} (h : exfB K C = true) : ExF K C := by
  unfold exfB at h
  simp only [Bool.and_eq_true, decide_eq_true_eq] at h
  obtain ⟨⟨⟨⟨⟨⟨⟨⟨⟨h1, h2⟩, h3⟩, h4⟩, h5⟩, h6⟩, h7⟩, h8⟩, h9⟩, h10⟩ := h
  exact ⟨h1, h2, h3, h4, h5, h6, h7, h8, h9, h10⟩
def oexClsB (K : Frag) (C : Addr) : Bool := match K.lookup C with
  | some ⟨.type "type", _, .cls cd, sl⟩ => (match cd.mro, sl.toList with
    | .ref C' :: bm, [_, _, _, _, some (.builtin n), _] => C' == C && n == "ValueError.__new__" && !cd.hasDel && cd.hasDict && PySem.HandSPX.refsVE bm
    | _, _ => false)
  | _ => false
def oexB (K : Frag) (C : Addr) : Bool := oexClsB K C && decide (PySem.W.findIn K (.ref C) "__setattr__" = some (some (.builtin "object.__setattr__"))) && decide (PySem.W.subIn K (.ref C) (.type "BaseException") = some true) && decide (PySem.W.typeIn K (.ref C) = some (.type "type")) && PySem.W.keepIn K (.ref C)
theorem oexB_ok {K : Frag} {C : Addr} (h : oexB K C = true) : OexC K C := by
  unfold oexB at h
  simp only [Bool.and_eq_true, decide_eq_true_eq] at h
  obtain ⟨⟨⟨⟨h1, h2⟩, h3⟩, h4⟩, h5⟩ := h
  refine ⟨?_, h2, h3, h4, h5⟩
  unfold oexClsB at h1
  split at h1
  · rename_i dd cd sl ho
    split at h1
    · rename_i C' bm k0 k1 k2 k3 n k5 hm hs
      simp only [Bool.and_eq_true, beq_iff_eq, Bool.not_eq_true'] at h1
      obtain ⟨⟨⟨⟨rfl, rfl⟩, hdel⟩, hdc⟩, hv⟩ := h1
      obtain ⟨nm, bs, mro, ns, qn, hd, sn, sub, ab, col, del⟩ := cd
      dsimp only at hm hdel hdc
      subst hm hdel hdc
      have hsl : sl = #[k0, k1, k2, k3, some (.builtin "ValueError.__new__"), k5] := by
        obtain ⟨l⟩ := sl
        simp only at hs
        rw [hs]
      subst hsl
      exact ⟨nm, qn, ns, bs, bm, sn, sub, ab, col, dd, k0, k1, k2, k3, k5, ho, hv⟩
    · cases h1
  · cases h1
def bxB (K : Frag) (CB : Addr) : Bool := PySem.W.readsIn K CB (.type "type") && decide (PySem.W.specialIn K (.ref CB) "__getattribute__" = some (some (.builtin "type.__getattribute__"))) && (match PySem.W.findCls K (.ref CB) (.type "type") "__init__" with
  | some (.val (.builtin "ValueError.__init__")) => true
  | _ => false)
theorem bxB_ok {K : Frag} {CB : Addr} {mg : Str → Option Value} {B : Str} (hm : mg B = some (.ref CB)) (h : bxB K CB = true) : BaseX K mg B CB := by
  unfold bxB at h
  simp only [Bool.and_eq_true, decide_eq_true_eq] at h
  obtain ⟨⟨h1, h2⟩, h3⟩ := h
  refine ⟨hm, h1, h2, ?_⟩
  split at h3
  · rename_i e; exact e
  · cases h3
def bNames : List Str := ["len", "abs", "int", "isinstance", "bool", "str", "tuple", "list", "dict", "ValueError"]
def LawD.chk (L : LawD) (K : Frag) : Bool :=
  L.fns.all (fun q => (He.Fa.glo q.1).ok K) &&
  L.cls.all (fun q => (He.Fa.glo q.1).ok K && exfB K (He.ga K q.1) && tyNames.all (fun n => decide (PySem.W.kitOne K (.ref (He.ga K q.1)) (.type n) = some (n == "ValueError"))) &&
    L.cls.all (fun r => decide (PySem.W.kitOne K (.ref (He.ga K q.1)) (.ref (He.ga K r.1)) = some (below L.P 3 q.1 r.1))) && kinds.all (fun t => decide (PySem.W.kitOne K (.type t) (.ref (He.ga K q.1)) = some false)) &&
    q.2.flds.all (fun f => decide (PySem.W.findIn K (.ref (He.ga K q.1)) f = some none)) &&
    (match q.2.exc with
      | some [] => (He.Fa.exc q.1).ok K
      | some (_ :: _) => oexB K (He.ga K q.1) && decide (PySem.W.findIn K (.ref (He.ga K q.1)) "__init__" = some (some (.ref (He.ma K (He.ga K q.1) "__init__")))) && decide (PySem.W.typeIn K (.ref (He.ma K (He.ga K q.1) "__init__")) = some (.type "function"))
      | none => false)) &&
  bNames.all (fun x => L.own x || (He.Fa.free x).ok K) &&
  kinds.all (fun t => tyNames.all fun n => decide (PySem.W.kitOne K (.type t) (.type n) = some (subT t n))) &&
  (He.Fa.glo L.base).ok K && bxB K (He.ga K L.base)
end Ev

/-! EvJ2: from the checks to the facts. -/
namespace Ev
open PySem PySem.Spec PyProof.Rows L2
def ini1B (B f : Str) (ps : List Str) (body : List Stmt) : Bool := match body with
  | [.Expr (.Call (.Attribute (.Name B' p1) m p2) [.Name sn p3, .JoinedStr [.FormattedValue (.Name f1 p4) cv none p5] p6] [] p7) p8, .Assign [.Attribute (.Name sn' p9) f2 p10] (.Name f3 p11) p12] =>
    decide (B' = B) && decide (m = "__init__") && decide (f1 = f) && decide (cv = -1) && decide (sn' = sn) && decide (f2 = f) && decide (f3 = f) && decide (ps = [sn, f]) && (p2.endLine == p7.line)
  | _ => false
theorem ini1B_ok {B f : Str} {ps : List Str} {body : List Stmt} (h : ini1B B f ps body = true) : Ini1 B f ps body := by
  unfold ini1B at h
  split at h
  · simp only [Bool.and_eq_true, decide_eq_true_eq] at h
    obtain ⟨⟨⟨⟨⟨⟨⟨⟨rfl, rfl⟩, rfl⟩, rfl⟩, rfl⟩, rfl⟩, rfl⟩, rfl⟩, hl⟩ := h
    exact ⟨_, _, _, _, _, _, _, _, _, _, _, _, _, rfl, hl, rfl⟩
  · cases h
def ini2B (B f g : Str) (ps : List Str) (body : List Stmt) : Bool := match body with
  | [.Expr (.Call (.Attribute (.Name B' p1) m p2) [.Name sn p3, .JoinedStr [.FormattedValue (.Name f1 p4) cv none p5, .Constant (.str c) kk p17, .FormattedValue (.Name g1 p18) cw none p19] p6] [] p7) p8, .Assign [.Attribute (.Name sn' p9) f2 p10] (.Name f3 p11) p12, .Assign [.Attribute (.Name sn2 p13) g2 p14] (.Name g3 p15) p16] =>
    decide (B' = B) && decide (m = "__init__") && decide (f1 = f) && decide (cv = -1) && decide (sn' = sn) && decide (f2 = f) && decide (f3 = f) && decide (ps = [sn, f, g]) && (p2.endLine == p7.line) && decide (g1 = g) && decide (cw = -1) && decide (sn2 = sn) && decide (g2 = g) && decide (g3 = g) && decide (c.length ≤ 1000)
  | _ => false
theorem ini2B_ok {B f g : Str} {ps : List Str} {body : List Stmt} (h : ini2B B f g ps body = true) : Ini2 B f g ps body := by
  unfold ini2B at h
  split at h
  · simp only [Bool.and_eq_true, decide_eq_true_eq] at h
    obtain ⟨⟨⟨⟨⟨⟨⟨⟨⟨⟨⟨⟨⟨⟨rfl, rfl⟩, rfl⟩, rfl⟩, rfl⟩, rfl⟩, rfl⟩, rfl⟩, hl⟩, rfl⟩, rfl⟩, rfl⟩, rfl⟩, rfl⟩, hc⟩ := h
    exact ⟨_, _, _, _, _, _, _, _, _, _, _, _, _, _, _, _, _, _, _, _, _, _, rfl, hl, hc, rfl⟩
  · cases h
/-- the __init__ of the exceptions that have one -/
def LawD.iniB (L : LawD) : Bool := L.cls.all fun q => match q.2.exc with
  | some [] => true
  | some fs => (match L.ini.lookup (q.1 ++ ".__init__") with
    | some (d, _) => decide (d.at_ = (q.1, some ("__init__" : Str))) && d.dfl.isEmpty && d.kwd.isEmpty && scB (psOf d.params) (psOf d.params) d.scope && (psOf d.params).all plainN && decide (d.scope.names.lookup L.base = some .globalImplicit) && (match fs with
      | [f] => ini1B L.base f (psOf d.params) d.body && q.2.flds.contains f
      | [g, f] => ini2B L.base f g (psOf d.params) d.body && q.2.flds.contains f && q.2.flds.contains g
      | _ => false)
    | none => false)
  | none => false
/-- what binds -/
def BindD (d : He.DefD) (n : Nat) (ks : List Str) (pl : List (Nat ⊕ Nat)) : Prop := ∀ (kV doc pm : Value) (an : Option Addr) (cdv ct : Value) (us ws as : List Value), us.length = n → ws.length = ks.length → arrange us ws pl = some as → as.length = (psOf d.params).length →
  bindArgs (PySem.W.fnOf d.name d.qual d.params d.body d.scope .none kV doc pm an cdv ct) ⟨us, ks.zip ws⟩ = pure ((psOf d.params).zip as)
def LawD.Binds (L : LawD) : Prop := ∀ q ∈ L.fns ++ L.ini, ∀ p ∈ q.2.2, BindD q.2.1 p.1 p.2.1 p.2.2
theorem bind_of {L : LawD} (hb : L.Binds) {K : Frag} {y : Str} {d : He.DefD} {ps : List (Nat × List Str × List (Nat ⊕ Nat))} {f : Addr} {fd : FuncData} (hy : (L.fns ++ L.ini).lookup y = some (d, ps)) (F : FunD K d.name d.qual d.params d.body d.scope [] [] f fd) (n : Nat) (ns : List Str) (pl : List (Nat ⊕ Nat)) (hp : L.plan y n ns = some pl) : BindF K fd (psOf d.params) n ns pl := by
  unfold LawD.plan at hp
  rw [hy] at hp
  obtain ⟨p, e, e2⟩ := Option.map_eq_some_iff.mp hp
  have hm := List.mem_of_find?_eq_some e
  have hq := List.find?_some e
  simp only [Bool.and_eq_true, decide_eq_true_eq] at hq
  obtain ⟨h1, h2⟩ := hq
  have B := hb (y, d, ps) (PySem.mem_of_lookup hy) p hm
  obtain ⟨⟨oc, od, dV, kV, doc, pm, an, cdv, ct, osl, e1, lk, hcd, hD, hK⟩, kp⟩ := F
  rcases hD with ⟨_, rfl⟩ | ⟨e, _⟩
  · intro s us ws as hk l1 l2 ha hl
    subst e1
    exact .of_eq (by rw [← h2] at l2 ⊢; exact B kV doc pm an cdv ct us ws as (l1.trans h1.symm) l2 (by rw [e2]; exact ha) hl)
  · exact absurd rfl e
theorem look_app {α : Type} {xs ys : List (Str × α)} {x : Str} {a : α} (h : xs.lookup x = some a) : (xs ++ ys).lookup x = some a := by
  induction xs with
  | nil => cases h
  | cons p xs ih =>
    obtain ⟨y, b⟩ := p
    rw [List.cons_append]
    rw [List.lookup_cons] at h ⊢
    split
    · rename_i e; rw [e] at h; exact h
    · rename_i e; rw [e] at h; exact ih h
theorem look_app2 {α : Type} {xs ys : List (Str × α)} {x : Str} {a : α} (h0 : xs.lookup x = none) (h : ys.lookup x = some a) : (xs ++ ys).lookup x = some a := by
  induction xs with
  | nil => exact h
  | cons p xs ih =>
    obtain ⟨y, b⟩ := p
    rw [List.cons_append]
    rw [List.lookup_cons] at h0 ⊢
    split
    · rename_i e; rw [e] at h0; cases h0
    · rename_i e; rw [e] at h0; exact ih h0
theorem glob_fn {L : LawD} {x : Str} {d : D} (h : L.P.glob x = some d) : (∃ q, L.fns.lookup x = some q ∧ d = .fn x) ∨ (L.fns.lookup x = none ∧ ∃ k, L.cls.lookup x = some k ∧ d = .cls x) := by
  have h : (if (L.fns.lookup x).isSome then some (D.fn x) else if (L.cls.lookup x).isSome then some (D.cls x) else none) = some d := h
  cases e : L.fns.lookup x with
  | some q => rw [e] at h; cases h; exact .inl ⟨q, rfl, rfl⟩
  | none =>
    rw [e] at h
    cases e2 : L.cls.lookup x with
    | some k => rw [e2] at h; cases h; exact .inr ⟨rfl, k, rfl, rfl⟩
    | none => rw [e2] at h; cases h
theorem wf_of {L : LawD} {fn : List He.DefD} {K : Frag} {h : Heap} {mg : Str → Option Value} {prog : Program} {w : World} {base : Heap} (X : K.In h) (G : h.Ns mainGlobals mg) (c : SaysC L.chk fn K) (hfn : L.fnB = true) (hin : L.iniB = true) (m1 : ∀ q ∈ L.fns, q.2.1 ∈ fn) (m2 : ∀ q ∈ L.ini, q.2.1 ∈ fn) (hd : L.ini.all (fun q => (L.fns.lookup q.1).isNone) = true) (hb : L.Binds) (hbd : (L.base == ("__debug__" : Str)) = false) :
    WF prog w K mg base L.P L.own (L.adr K) := by
  have ck := c.chk_
  unfold LawD.chk at ck
  simp only [Bool.and_eq_true, List.all_eq_true, decide_eq_true_eq] at ck
  obtain ⟨⟨⟨⟨⟨k1, k2⟩, k3⟩, k4⟩, k5⟩, k6⟩ := ck
  unfold LawD.fnB at hfn
  simp only [Bool.and_eq_true, List.all_eq_true, decide_eq_true_eq, List.isEmpty_iff] at hfn
  unfold LawD.iniB at hin
  rw [List.all_eq_true] at hin
  have mgf : ∀ {x : Str} {q : He.DefD × List (Nat × List Str × List (Nat ⊕ Nat))}, L.fns.lookup x = some q → mg x = some (.ref (He.ga K x)) := fun e => He.glo_ok X G (k1 _ (PySem.mem_of_lookup e))
  have cl : ∀ {x : Str} {q : Cls}, L.cls.lookup x = some q → _ := fun {x q} e => k2 (x, q) (PySem.mem_of_lookup e)
  have mgc : ∀ {x : Str} {q : Cls}, L.cls.lookup x = some q → mg x = some (.ref (He.ga K x)) := fun e => He.glo_ok X G (cl e).1.1.1.1.1.1
  have adrC : ∀ {x : Str} {q : Cls} {C : Addr}, L.cls.lookup x = some q → mg x = some (.ref C) → C = He.ga K x := fun e e2 => by rw [mgc e] at e2; cases e2; rfl
  have isX : ∀ {x : Str}, L.P.isX x = true → ∃ q, L.cls.lookup x = some q := fun {x} e => by
    unfold Prog.isX at e
    split at e
    · rename_i k ek; exact ⟨k, ek⟩
    · cases e
  have isC : ∀ {x : Str}, L.P.isC x = true → ∃ q, L.cls.lookup x = some q := fun {x} e => Option.isSome_iff_exists.mp e
  have fnd : ∀ {x : Str} {q : He.DefD × List (Nat × List Str × List (Nat ⊕ Nat))}, L.fns.lookup x = some q → ∃ fd, FunD K q.1.name q.1.qual q.1.params q.1.body q.1.scope [] [] (He.ga K x) fd := fun {x q} e => by
    have hq := hfn (x, q) (PySem.mem_of_lookup e)
    obtain ⟨fd, F⟩ := c.def_ (m1 (x, q) (PySem.mem_of_lookup e))
    obtain ⟨⟨⟨⟨h1, h2⟩, h3⟩, _⟩, _⟩ := hq
    unfold He.DefD.dvs He.DefD.kws at F
    rw [h1, h2, h3] at F
    exact ⟨fd, F⟩
  refine ⟨fun x ho hx => ?_, fun x d hg => ?_, fun x y hg => ?_, fun x c' hg => ?_, fun _ => rfl, ⟨fun t ht n hn => ?_, fun t ht c' C hc hm => ?_, fun c' C hc hm n hn => ?_, fun c' C d E hc hm hd he => ?_, fun c' C hc hm => ?_⟩, fun c' A f hx hm hf => ?_, fun c' => ?_, ⟨fun c' C hc hm => ?_, fun c' C kk ek ee hm => ?_, fun c' C kk f fs ek ee hm => ?_⟩, fun y f hy => ?_⟩
  · have hm : x ∈ bNames := by
      rcases hx with hx | hx
      · unfold biC at hx
        by_cases e1 : x = "len"
        · rw [e1]; decide
        rw [if_neg e1] at hx
        by_cases e2 : x = "abs"
        · rw [e2]; decide
        rw [if_neg e2] at hx
        by_cases e3 : x = "int"
        · rw [e3]; decide
        rw [if_neg e3] at hx
        by_cases e4 : x = "isinstance"
        · rw [e4]; decide
        rw [if_neg e4] at hx
        cases hx
      · unfold tyOf at hx
        by_cases e1 : x = "int"
        · rw [e1]; decide
        rw [if_neg e1] at hx
        by_cases e1 : x = "bool"
        · rw [e1]; decide
        rw [if_neg e1] at hx
        by_cases e1 : x = "str"
        · rw [e1]; decide
        rw [if_neg e1] at hx
        by_cases e1 : x = "tuple"
        · rw [e1]; decide
        rw [if_neg e1] at hx
        by_cases e1 : x = "list"
        · rw [e1]; decide
        rw [if_neg e1] at hx
        by_cases e1 : x = "dict"
        · rw [e1]; decide
        rw [if_neg e1] at hx
        by_cases e1 : x = "ValueError"
        · rw [e1]; decide
        rw [if_neg e1] at hx
        cases hx
    have z := k3 x hm
    rw [ho, Bool.false_or] at z
    exact He.free_ok X G z
  · rcases glob_fn hg with ⟨q, e, rfl⟩ | ⟨_, k, e, rfl⟩
    · exact ⟨_, .ref (He.ga K x), mgf e, rfl, fun _ _ => .fn (mgf e)⟩
    · exact ⟨_, .ref (He.ga K x), mgc e, rfl, fun _ _ => .cls (mgc e)⟩
  · rcases glob_fn hg with ⟨q, e, e2⟩ | ⟨_, k, e, e2⟩
    · cases e2
      obtain ⟨fd, F⟩ := fnd e
      exact ⟨_, mgf e, by unfold LawD.adr; rw [e]; rfl, F.kp⟩
    · cases e2
  · rcases glob_fn hg with ⟨q, e, e2⟩ | ⟨_, k, e, e2⟩
    · cases e2
    · cases e2
      exact ⟨_, mgc e, mgc e, by unfold Prog.isC; show (L.cls.lookup x).isSome = true; rw [e]; rfl⟩
  · exact k4 t ht n hn
  · obtain ⟨q, e⟩ := isC hc
    rw [adrC e hm]
    exact (cl e).1.1.2 t ht
  · obtain ⟨q, e⟩ := isX hc
    rw [adrC e hm]
    exact (cl e).1.1.1.1.2 n hn
  · obtain ⟨q, e⟩ := isX hc
    obtain ⟨r, e2⟩ := isC hd
    rw [adrC e hm, adrC e2 he]
    exact (cl e).1.1.1.2 (d, r) (PySem.mem_of_lookup e2)
  · obtain ⟨q, e⟩ := isX hc
    rw [adrC e hm]
    exact exfB_ok (cl e).1.1.1.1.1.2
  · obtain ⟨q, e⟩ := isX hx
    rw [adrC e hm]
    refine (cl e).1.2 f ?_
    unfold Prog.hasF at hf
    rw [show L.P.cls c' = some q from e] at hf
    exact List.contains_iff_mem.mp hf
  · unfold Prog.isI
    split
    · rename_i kk ek
      have z := (cl ek).2
      split at z
      · rename_i e; rw [e]; rfl
      · rename_i e; rw [e]; rfl
      · cases z
    · rfl
  · obtain ⟨q, e⟩ := isC hc
    rw [adrC e hm]
    exact (exfB_ok (cl e).1.1.1.1.1.2).kp
  · rw [adrC ek hm]
    have z := (cl ek).2
    rw [show ((c', kk) : Str × Cls).2.exc = some [] from ee] at z
    obtain ⟨z1, z2, z3, z4⟩ := He.exc_ok z
    exact ⟨z1, z3, z4⟩
  · have eC := adrC ek hm
    subst eC
    have z := (cl ek).2
    rw [show ((c', kk) : Str × Cls).2.exc = some (f :: fs) from ee] at z
    simp only [Bool.and_eq_true, decide_eq_true_eq] at z
    obtain ⟨⟨z1, z2⟩, z3⟩ := z
    have y := hin (c', kk) (PySem.mem_of_lookup ek)
    rw [show ((c', kk) : Str × Cls).2.exc = some (f :: fs) from ee] at y
    dsimp only at y
    cases ei : L.ini.lookup (c' ++ ".__init__") with
    | none => rw [ei] at y; cases y
    | some dp =>
      obtain ⟨d, dps⟩ := dp
      rw [ei] at y
      dsimp only at y
      simp only [Bool.and_eq_true, decide_eq_true_eq, List.isEmpty_iff] at y
      obtain ⟨⟨⟨⟨⟨⟨y1, y2⟩, y3⟩, y4⟩, y5⟩, y6⟩, y7⟩ := y
      obtain ⟨fd, F⟩ := c.def_ (m2 (c' ++ ".__init__", d, dps) (PySem.mem_of_lookup ei))
      unfold He.DefD.dvs He.DefD.kws at F
      rw [y1, y2, y3] at F
      have F : FunD K d.name d.qual d.params d.body d.scope [] [] (He.ma K (He.ga K c') "__init__") fd := F
      have T := oexB_ok z1
      have bx := bxB_ok (He.glo_ok X G k5) k6
      have nof : ∀ g, kk.flds.contains g = true → PySem.W.findIn K (.ref (He.ga K c')) g = some none := fun g hg => (cl ek).1.2 g (List.contains_iff_mem.mp hg)
      refine ⟨_, fd, psOf d.params, T, z2, z3, ?_, ?_, fun n ns pl hp => bind_of hb (look_app2 (Option.isNone_iff_eq_none.mp (List.all_eq_true.mp hd _ (PySem.mem_of_lookup ei))) ei) F n ns pl hp⟩
      · split at y7
        · rename_i f0 e0
          cases e0
          simp only [Bool.and_eq_true] at y7
          exact init1_ok F (scB_ok y4) (ini1B_ok y7.1) bx y6 hbd T (nof _ y7.2) y5
        · rename_i g0 f0 e0
          cases e0
          simp only [Bool.and_eq_true] at y7
          exact init2_ok F (scB_ok y4) (ini2B_ok y7.1.1) bx y6 hbd T (nof _ y7.1.2) (nof _ y7.2) y5
        · cases y7
      · split at y7
        · rename_i f0 e0
          cases e0
          simp only [Bool.and_eq_true] at y7
          obtain ⟨sn, _, _, _, _, _, _, _, _, _, _, _, _, ep, _⟩ := ini1B_ok y7.1
          rw [ep]; rfl
        · rename_i g0 f0 e0
          cases e0
          simp only [Bool.and_eq_true] at y7
          obtain ⟨sn, _, _, _, _, _, _, _, _, _, _, _, _, _, _, _, _, _, _, _, _, _, ep, _⟩ := ini2B_ok y7.1.1
          rw [ep]; rfl
        · cases y7
  · unfold LawD.adr at hy
    split at hy
    · rename_i hs
      cases hy
      obtain ⟨dp, e⟩ := Option.isSome_iff_exists.mp hs
      obtain ⟨fd, F⟩ := fnd e
      have hq := hfn (y, dp) (PySem.mem_of_lookup e)
      obtain ⟨d, dps⟩ := dp
      obtain ⟨⟨_, h4⟩, h5⟩ := hq
      obtain ⟨bd, eb⟩ := Option.isSome_iff_exists.mp h5
      refine ⟨fd, ourDef L.own d, by show (L.fns.lookup y).map (fun q => ourDef L.own q.1) = _; rw [e]; rfl, ?_, fun n ns pl hp => bind_of hb (look_app e) F n ns pl hp⟩
      obtain ⟨oc, od, dV, kV, doc, pm, an, cdv, ct, osl, e1, lk, hcd, _, _⟩ := F.ex
      refine ⟨_, _, _, _, _, _, _, _, _, _, _, _, _, _, _, namesOf d, e1, lk, hcd, scB_ok h4, rfl, ?_⟩
      have : trOf L.own d = some bd := eb
      show trOf L.own d = some ((trOf L.own d).getD [])
      rw [this]; rfl
    · cases hy
end Ev

/-! EvL: a law's end. -/
namespace Ev
open PySem PySem.Spec PyProof.Rows L2
/-- an exception of a law, whatever the world -/
def CXw (P : Program) : CXT := fun outer H s E e s' => ∃ w, L2.CX P w outer H s E e s'
theorem cxw {P : Program} {w : World} {K : Frag} {mg : Str → Option Value} {base : Heap} {k : Nat} {f : Addr} {fd : FuncData} {ps : List Str} {sp : Sp} (F : FnOk P w K mg base (L2.CX P w) k f fd ps sp) : FnOk P w K mg base (CXw P) k f fd ps sp :=
  ⟨F.len, fun A outer s H args us vs Q E hr e0 hb r h => codeAny_mono (F.run A outer s H args us vs Q E hr e0 hb r h) fun r s' hq => by
    cases r with
    | error e => exact ⟨w, hq⟩
    | ok fl => cases fl <;> exact hq⟩
theorem cxw_no {P : Program} : ∀ (H : Hp) (s : Shared) (e : Value) (s' : Shared), CXw P [] H s (fun _ _ _ => False) e s' → False := by
  rintro H s e s' ⟨w, a, B, H', cls, d, _, _, _, _, _, _, _, hh⟩
  exact hh
/-- the law's promise, from the plain law -/
theorem law_sp {K : Frag} {mg : Str → Option Value} {run : List D → M D} {a : Addr} {ns : List Int} {H : Hp} (hO : Only H) (hS : SqL K H a (ns.map V.int)) (plain : ∃ m', run [.ref 0] [.ro (ns.map .int)] = .ok (.bl true) m') :
    spD K mg run 1 [.ref a] H (fun v _ => v = .bl true) fun _ _ _ => False := by
  have vr : VRs K mg (fun i => if i = 0 then some a else none) H (ns.map .int) (ns.map V.int) := by
    induction ns with
    | nil => exact .nil
    | cons n ns ih =>
      clear ih plain hS
      have : ∀ l : List Int, VRs K mg (fun i => if i = 0 then some a else none) H (l.map .int) (l.map V.int) := fun l => by
        induction l with
        | nil => exact .nil
        | cons n l ih => exact .cons (.int n) ih
      exact this _
  refine ⟨rfl, [.ref 0], [.ro (ns.map .int)], fun i => if i = 0 then some a else none, ⟨fun i b h => ?_, fun i c h => ?_, fun i j b c d h1 h2 h3 h4 h5 h6 => ?_⟩, .cons (.ref rfl) .nil, ?_⟩
  · split at h
    · rename_i e; rw [e]; exact Nat.zero_lt_one
    · cases h
  · cases i with
    | zero =>
      cases h
      refine ⟨a, rfl, ns.map V.int, ?_, vr⟩
      rcases hS with (hS | ⟨o, hS⟩) | hS
      · rcases hO a with z | ⟨o, xs, z⟩
        · rw [z] at hS; cases hS
        · rw [z] at hS; cases hS
      · exact .inl ⟨o, hS⟩
      · exact .inr fun H' => .inr hS
    | succ i => simp at h
  · cases i with
    | zero => cases h1; cases h3
    | succ i => simp at h1
  · obtain ⟨m', e⟩ := plain
    unfold RM
    rw [e]
    intro ι' H' st r v hv
    cases hv
    rfl
end Ev

namespace K78
open PySem Ev
abbrev body := PySem.Challenge.pw_returnsdue_k78_errors_made.main.body
def pos1 (n : Nat) : List (Nat × List PySem.Str × List (Nat ⊕ Nat)) := [(n, [], (List.range n).map .inl)]
def none_ : He.DefD := ⟨("", none), "", "", ⟨[], [], none, [], [], none, []⟩, [], ⟨.function, [], false, false, []⟩, [], []⟩
def dTop (i : Nat) : He.DefD := match body.getD i (.Pass ⟨0, 0, 0, 0⟩) with
  | .FunctionDef n a b _ _ _ sc _ _ _ => ⟨(n, none), n, n, a, b, sc, [], []⟩
  | _ => none_
def dIni (i : Nat) : He.DefD := match body.getD i (.Pass ⟨0, 0, 0, 0⟩) with
  | .ClassDef c _ _ [.FunctionDef m a b _ _ _ sc _ _ _] _ _ _ _ _ _ _ => ⟨(c, some m), m, c ++ "." ++ m, a, b, sc, [], []⟩
  | _ => none_
def clsOf (b : List Stmt) : List (PySem.Str × Cls) := b.flatMap fun s => match s with
  | .ClassDef c bs _ b _ _ _ _ _ _ _ =>
    let fs := (b.flatMap fun t => match t with
      | .FunctionDef _ a _ _ _ _ _ _ _ _ => (psOf a).drop 1
      | _ => []).reverse
    [(c, ⟨(match bs with
      | [.Name x _] => if x = "ValueError" then none else some x
      | _ => none), some fs, false, fs⟩)]
  | _ => []
def L : LawD := ⟨[("_law_begun", dTop 20, [(1, [], [.inl 0])]), ("_law_blended", dTop 21, [(1, [], [.inl 0])]), ("_law_draw", dTop 22, [(2, [], [.inl 0, .inl 1])]), ("_law_pick", dTop 23, [(2, [], [.inl 0, .inl 1])]), ("law", dTop 24, [(1, [], [.inl 0])])], clsOf body,
  [("BadDeeds.__init__", dIni 2, [(2, [], [.inl 0, .inl 1])]), ("BadJournal.__init__", dIni 4, [(2, [], [.inl 0, .inl 1])]), ("BadRow.__init__", dIni 9, [(2, [], [.inl 0, .inl 1])]), ("BadText.__init__", dIni 10, [(2, [], [.inl 0, .inl 1])]),
   ("Gone.__init__", dIni 11, [(3, [], [.inl 0, .inl 1, .inl 2]), (1, ["birth", "word"], [.inl 0, .inr 1, .inr 0])]), ("TooMany.__init__", dIni 17, [(2, [], [.inl 0, .inl 1]), (1, ["most"], [.inl 0, .inr 0])])], "ReturnError"⟩
def fn : List He.DefD := L.fns.map (·.2.1) ++ L.ini.map (·.2.1)
def names : List PySem.Str := body.flatMap fun s => match s with
  | .FunctionDef n .. => if n = "law" then [] else [n]
  | .ClassDef c .. => [c]
  | _ => []
def lawIx : Nat := body.length - 1
abbrev R : PySem.W.OpenRow := PySem.W.OpenLaw.row PySem.Challenge.rw_returnsdue_k78_errors_made
abbrev hk : PySem.W.Hook := hookC 5 L.chk fn
def ob (s : PySem.W.SharedT) : AlC := obsCG 5 L.chk fn (HandSHeadRun.getT s)
end K78

namespace K78
open PySem Ev
theorem len1 {α : Type} {us : List α} (h : us.length = 1) : ∃ a, us = [a] := by
  match us, h with | [a], _ => exact ⟨a, rfl⟩
theorem len2 {α : Type} {us : List α} (h : us.length = 2) : ∃ a b, us = [a, b] := by
  match us, h with | [a, b], _ => exact ⟨a, b, rfl⟩
theorem len3 {α : Type} {us : List α} (h : us.length = 3) : ∃ a b c, us = [a, b, c] := by
  match us, h with | [a, b, c], _ => exact ⟨a, b, c, rfl⟩
theorem len0 {α : Type} {us : List α} (h : us.length = 0) : us = [] := List.length_eq_zero_iff.mp h
theorem f0_0 : BindD (dTop 20) 1 [] [.inl 0] := by
  intro kV doc pm an cdv ct us ws as h1 h2 h3 h4
  obtain ⟨a, rfl⟩ := len1 h1
  obtain rfl := len0 h2
  cases h3
  first
    | rfl
    | kernel_rfl
theorem f1_0 : BindD (dTop 21) 1 [] [.inl 0] := by
  intro kV doc pm an cdv ct us ws as h1 h2 h3 h4
  obtain ⟨a, rfl⟩ := len1 h1
  obtain rfl := len0 h2
  cases h3
  first
    | rfl
    | kernel_rfl
theorem f2_0 : BindD (dTop 22) 2 [] [.inl 0, .inl 1] := by
  intro kV doc pm an cdv ct us ws as h1 h2 h3 h4
  obtain ⟨a, b, rfl⟩ := len2 h1
  obtain rfl := len0 h2
  cases h3
  first
    | rfl
    | kernel_rfl
theorem f3_0 : BindD (dTop 23) 2 [] [.inl 0, .inl 1] := by
  intro kV doc pm an cdv ct us ws as h1 h2 h3 h4
  obtain ⟨a, b, rfl⟩ := len2 h1
  obtain rfl := len0 h2
  cases h3
  first
    | rfl
    | kernel_rfl
theorem f4_0 : BindD (dTop 24) 1 [] [.inl 0] := by
  intro kV doc pm an cdv ct us ws as h1 h2 h3 h4
  obtain ⟨a, rfl⟩ := len1 h1
  obtain rfl := len0 h2
  cases h3
  first
    | rfl
    | kernel_rfl
theorem i0_0 : BindD (dIni 2) 2 [] [.inl 0, .inl 1] := by
  intro kV doc pm an cdv ct us ws as h1 h2 h3 h4
  obtain ⟨a, b, rfl⟩ := len2 h1
  obtain rfl := len0 h2
  cases h3
  first
    | rfl
    | kernel_rfl
theorem i1_0 : BindD (dIni 4) 2 [] [.inl 0, .inl 1] := by
  intro kV doc pm an cdv ct us ws as h1 h2 h3 h4
  obtain ⟨a, b, rfl⟩ := len2 h1
  obtain rfl := len0 h2
  cases h3
  first
    | rfl
    | kernel_rfl
theorem i2_0 : BindD (dIni 9) 2 [] [.inl 0, .inl 1] := by
  intro kV doc pm an cdv ct us ws as h1 h2 h3 h4
  obtain ⟨a, b, rfl⟩ := len2 h1
  obtain rfl := len0 h2
  cases h3
  first
    | rfl
    | kernel_rfl
theorem i3_0 : BindD (dIni 10) 2 [] [.inl 0, .inl 1] := by
  intro kV doc pm an cdv ct us ws as h1 h2 h3 h4
  obtain ⟨a, b, rfl⟩ := len2 h1
  obtain rfl := len0 h2
  cases h3
  first
    | rfl
    | kernel_rfl
theorem i4_0 : BindD (dIni 11) 3 [] [.inl 0, .inl 1, .inl 2] := by
  intro kV doc pm an cdv ct us ws as h1 h2 h3 h4
  obtain ⟨a, b, c, rfl⟩ := len3 h1
  obtain rfl := len0 h2
  cases h3
  first
    | rfl
    | kernel_rfl
theorem i4_1 : BindD (dIni 11) 1 ["birth", "word"] [.inl 0, .inr 1, .inr 0] := by
  intro kV doc pm an cdv ct us ws as h1 h2 h3 h4
  obtain ⟨a, rfl⟩ := len1 h1
  obtain ⟨x, y, rfl⟩ := len2 h2
  cases h3
  first
    | rfl
    | kernel_rfl
theorem i5_0 : BindD (dIni 17) 2 [] [.inl 0, .inl 1] := by
  intro kV doc pm an cdv ct us ws as h1 h2 h3 h4
  obtain ⟨a, b, rfl⟩ := len2 h1
  obtain rfl := len0 h2
  cases h3
  first
    | rfl
    | kernel_rfl
theorem i5_1 : BindD (dIni 17) 1 ["most"] [.inl 0, .inr 0] := by
  intro kV doc pm an cdv ct us ws as h1 h2 h3 h4
  obtain ⟨a, rfl⟩ := len1 h1
  obtain ⟨x, rfl⟩ := len1 h2
  cases h3
  first
    | rfl
    | kernel_rfl
theorem binds : L.Binds := fun q hq => (List.mem_append.mp hq).elim ((List.forall_mem_cons.mpr ⟨List.forall_mem_cons.mpr ⟨f0_0, fun _ h => nomatch h⟩, List.forall_mem_cons.mpr ⟨List.forall_mem_cons.mpr ⟨f1_0, fun _ h => nomatch h⟩, List.forall_mem_cons.mpr ⟨List.forall_mem_cons.mpr ⟨f2_0, fun _ h => nomatch h⟩, List.forall_mem_cons.mpr ⟨List.forall_mem_cons.mpr ⟨f3_0, fun _ h => nomatch h⟩, List.forall_mem_cons.mpr ⟨List.forall_mem_cons.mpr ⟨f4_0, fun _ h => nomatch h⟩, fun _ h => nomatch h⟩⟩⟩⟩⟩ : ∀ q ∈ L.fns, ∀ p ∈ q.2.2, BindD q.2.1 p.1 p.2.1 p.2.2) q) ((List.forall_mem_cons.mpr ⟨List.forall_mem_cons.mpr ⟨i0_0, fun _ h => nomatch h⟩, List.forall_mem_cons.mpr ⟨List.forall_mem_cons.mpr ⟨i1_0, fun _ h => nomatch h⟩, List.forall_mem_cons.mpr ⟨List.forall_mem_cons.mpr ⟨i2_0, fun _ h => nomatch h⟩, List.forall_mem_cons.mpr ⟨List.forall_mem_cons.mpr ⟨i3_0, fun _ h => nomatch h⟩, List.forall_mem_cons.mpr ⟨List.forall_mem_cons.mpr ⟨i4_0, List.forall_mem_cons.mpr ⟨i4_1, fun _ h => nomatch h⟩⟩, List.forall_mem_cons.mpr ⟨List.forall_mem_cons.mpr ⟨i5_0, List.forall_mem_cons.mpr ⟨i5_1, fun _ h => nomatch h⟩⟩, fun _ h => nomatch h⟩⟩⟩⟩⟩⟩ : ∀ q ∈ L.ini, ∀ p ∈ q.2.2, BindD q.2.1 p.1 p.2.1 p.2.2) q)
end K78

namespace K78
open PySem Ev
theorem ob_eq (s : PySem.W.SharedT) : ob s = hk.obs s.abs := obsCG_eq (HandSHeadRun.getT_eq s)
theorem fnB : L.fnB = true := by kernel_rfl
theorem iniB : L.iniB = true := by kernel_rfl
theorem disj : L.ini.all (fun q => (L.fns.lookup q.1).isNone) = true := by kernel_rfl
theorem run (w : World) : HandSHeadRun.RunEq R (PySem.W.view R.prog [lawIx]) hk ob 20000 names w := by
  intro os
  kernel_rfl
end K78

/-! EvPl: plain laws of our own runs. -/
namespace Ev
open PySem
/-- a run comes to a value -/
def Ok {α : Type} (x : M α) (m : Mem) (Q : α → Mem → Prop) : Prop := ∃ a m', x m = .ok a m' ∧ Q a m'
section
variable {α β : Type} {x : M α} {f : α → M β} {m : Mem} {Q : α → Mem → Prop} {R : β → Mem → Prop}
theorem Ok.bind (h : Ok x m fun a m' => Ok (f a) m' R) : Ok (Ev.bind x f) m R := by
  obtain ⟨a, m', e, b, m'', e2, r⟩ := h
  exact ⟨b, m'', by unfold Ev.bind; rw [e]; exact e2, r⟩
theorem Ok.here {a : α} {m1 : Mem} (e : x m = .ok a m1) (h : Q a m1) : Ok x m Q := ⟨a, m1, e, h⟩
theorem Ok.ret {a : α} (h : Q a m) : Ok (Ev.ret a) m Q := ⟨a, m, rfl, h⟩
theorem Ok.mono {Q' : α → Mem → Prop} (h : Ok x m Q) (k : ∀ a m', Q a m' → Q' a m') : Ok x m Q' := let ⟨a, m', e, q⟩ := h; ⟨a, m', e, k _ _ q⟩
theorem Ok.opt {o : Option α} {a : α} (e : o = some a) (h : Q a m) : Ok (Ev.opt o) m Q := by subst e; exact ⟨a, m, rfl, h⟩
theorem Ok.ask {g : Mem → Option α} {a : α} (e : g m = some a) (h : Q a m) : Ok (Ev.ask g) m Q := ⟨a, m, by unfold Ev.ask; rw [e], h⟩
theorem Ok.cell {i : Nat} {c : Cell} {Q : Cell → Mem → Prop} (e : m[i]? = some c) (h : Q c m) : Ok (cellM i) m Q := Ok.ask e h
theorem Ok.lst {i : Nat} {xs : List D} {Q : List D → Mem → Prop} (e : m[i]? = some (.lst xs)) (h : Q xs m) : Ok (lstM i) m Q := Ok.bind (Ok.cell e (Ok.ret h))
theorem Ok.alloc {c : Cell} {Q : D → Mem → Prop} (h : Q (.ref m.length) (m ++ [c])) : Ok (Ev.alloc c) m Q := ⟨_, _, rfl, h⟩
theorem Ok.put {i : Nat} {c : Cell} {Q : Unit → Mem → Prop} (h : Q () (m.set i c)) : Ok (Ev.put i c) m Q := ⟨_, _, rfl, h⟩
theorem Ok.of_eq {y : M α} (h : Ok x m Q) (e : y m = x m) : Ok y m Q := let ⟨a, m', q, r⟩ := h; ⟨a, m', e.trans q, r⟩
theorem Ok.of_eqf {y : M α} (h : Ok x m Q) (e : y = x) : Ok y m Q := e ▸ h
end
/-! ### equality -/
theorem rd_int (m : Mem) (n : Nat) (i : Int) : rdD m n (.int i) = some (.int i) := by rw [rdD]
theorem rd_str (m : Mem) (n : Nat) (x : Str) : rdD m n (.str x) = some (.str x) := by rw [rdD]
theorem rd_non (m : Mem) (n : Nat) : rdD m n .non = some .none := by rw [rdD]
theorem rd_ints (m : Mem) (n : Nat) : ∀ xs : List Int, rdDs m n (xs.map .int) = some (xs.map .int)
  | [] => by rw [List.map_nil, rdDs]; rfl
  | x :: xs => by rw [List.map_cons, rdDs, rd_int, rd_ints m n xs]; rfl
theorem Ok.shaped {x : PyData} {m : Mem} {Q : Unit → Mem → Prop} (e : SeqAt.shaped x = true) (h : Q () m) : Ok (Ev.shaped x) m Q := by unfold Ev.shaped; rw [e]; exact Ok.ret h
theorem Ok.eq {a b : D} {x y : PyData} {m : Mem} {Q : Bool → Mem → Prop} (ea : rdD m 8 a = some x) (eb : rdD m 8 b = some y) (sx : SeqAt.shaped x = true) (sy : SeqAt.shaped y = true) (h : Q (PyData.eqv x y) m) : Ok (eqM a b) m Q :=
  Ok.bind (Ok.ask ea (Ok.bind (Ok.ask eb (Ok.bind (Ok.shaped sx (Ok.bind (Ok.shaped sy (Ok.ret h))))))))
/-! ### loops -/
theorem for_inv {r : Nat} {xs : List D} {b : D → Env → M Fl} {Q : Fl → Mem → Prop} (I : Nat → Env → Mem → Prop) (hc : ∀ i ρ m, I i ρ m → m[r]? = some (.lst xs) ∨ m[r]? = some (.ro xs)) (hb : ∀ i d ρ m, xs[i]? = some d → I i ρ m → Ok (b d ρ) m fun f m' => ∃ ρ', f = .nx ρ' ∧ I (i + 1) ρ' m')
    (hq : ∀ ρ m, I xs.length ρ m → Q (.nx ρ) m) : ∀ (n i : Nat) (ρ : Env) (m : Mem), n + i = xs.length → I i ρ m → Ok (forLoop (.one (.cell r)) b n i ρ) m Q
  | 0, i, ρ, m, e, h => by
    have ei : i = xs.length := by omega
    subst ei
    have nx : (It.one (.cell r)).at_ xs.length m = some none := by
      show (match m[r]? with
        | some (.lst xs) => some xs[_]?
        | some (.ro xs) => some xs[_]?
        | _ => none) = _
      rcases hc _ _ _ h with z | z <;> rw [z] <;> simp
    unfold forLoop
    exact Ok.bind (Ok.ask nx (Ok.ret (hq _ _ h)))
  | n + 1, i, ρ, m, e, h => by
    have hi : i < xs.length := by omega
    have hd : xs[i]? = some xs[i] := List.getElem?_eq_getElem hi
    have nx : (It.one (.cell r)).at_ i m = some (some xs[i]) := by
      show (match m[r]? with
        | some (.lst xs) => some xs[_]?
        | some (.ro xs) => some xs[_]?
        | _ => none) = _
      rcases hc _ _ _ h with z | z <;> rw [z] <;> simp [hd]
    unfold forLoop
    refine Ok.bind (Ok.ask nx (Ok.bind ((hb i _ ρ m hd h).mono fun f m' ⟨ρ', ef, h'⟩ => ?_)))
    subst ef
    exact for_inv I hc hb hq n (i + 1) ρ' m' (by omega) h'
/-- a comprehension whose turns touch nothing -/
theorem lc_pure {r : Nat} {xs : List D} {turn : D → M (Option D)} {g : D → Option D} {m : Mem} (hc : m[r]? = some (.lst xs) ∨ m[r]? = some (.ro xs)) (hl : xs.length < 1000) (ht : ∀ d ∈ xs, ∀ m, turn d m = .ok (g d) m) {Q : D → Mem → Prop} (hq : Q (.ref m.length) (m ++ [.lst (xs.filterMap g)])) : Ok (lcM (.one (.cell r)) turn xs.length) m Q := by
  have hr : r < m.length := by
    rcases hc with z | z <;> exact (List.getElem?_eq_some_iff.mp z).1
  have key : ∀ (n i : Nat), n + i = xs.length → Ok (lcLoop (.one (.cell r)) turn m.length n i) (m ++ [.lst ((xs.take i).filterMap g)]) fun _ m' => m' = m ++ [.lst (xs.filterMap g)] := by
    intro n
    induction n with
    | zero =>
      intro i e
      have ei : i = xs.length := by omega
      subst ei
      have nx : (It.one (.cell r)).at_ xs.length (m ++ [.lst ((xs.take xs.length).filterMap g)]) = some none := by
        show (match (m ++ [_])[r]? with
          | some (.lst xs) => some xs[_]?
          | some (.ro xs) => some xs[_]?
          | _ => none) = _
        rw [List.getElem?_append_left hr]
        rcases hc with z | z <;> rw [z] <;> simp
      unfold lcLoop
      exact Ok.bind (Ok.ask nx (Ok.ret (by rw [List.take_length])))
    | succ n ih =>
      intro i e
      have hi : i < xs.length := by omega
      have hd : xs[i]? = some xs[i] := List.getElem?_eq_getElem hi
      have nx : (It.one (.cell r)).at_ i (m ++ [.lst ((xs.take i).filterMap g)]) = some (some xs[i]) := by
        show (match (m ++ [_])[r]? with
          | some (.lst xs) => some xs[_]?
          | some (.ro xs) => some xs[_]?
          | _ => none) = _
        rw [List.getElem?_append_left hr]
        rcases hc with z | z <;> rw [z] <;> simp [hd]
      have tk : xs.take (i + 1) = xs.take i ++ [xs[i]] := by rw [List.take_add_one, hd]; rfl
      unfold lcLoop
      refine Ok.bind (Ok.ask nx (Ok.bind ⟨_, _, ht _ (List.getElem_mem hi) _, ?_⟩))
      cases eg : g xs[i] with
      | none =>
        have := ih (i + 1) (by omega)
        rw [tk, List.filterMap_append, List.filterMap_cons, eg] at this
        simpa using this
      | some y =>
        have hlen : ((xs.take i).filterMap g).length < sizeLine := by
          have h1 := List.length_filterMap_le g (xs.take i)
          have h2 := List.length_take_le i xs
          rw [sizeLine_eq]; omega
        have := ih (i + 1) (by omega)
        rw [tk, List.filterMap_append, List.filterMap_cons, eg] at this
        refine Ok.bind (Ok.bind (Ok.lst (xs := (xs.take i).filterMap g) (by simp) ?_))
        rw [if_pos (decide_eq_true hlen)]
        refine Ok.put ?_
        rw [List.set_append_right _ _ (Nat.le_refl _)]
        simpa using this
  unfold lcM
  refine Ok.bind (Ok.alloc (Ok.bind ((key xs.length 0 (by omega)).mono fun _ m' e => ?_)))
  subst e
  exact Ok.ret hq
end Ev

namespace Ev.K7
open PySem K78
def sBegun : List S := [
  .asg (.v 1) (.lc (.bin .sub (.bi .abs [(.v 3)]) (.bin .pow (.k (.int 10)) (.k (.int 18)))) [2, 3] (.v 3) .of [(.v 0)] [(.cmp .ge (.bi .abs [(.v 3)]) (.bin .pow (.k (.int 10)) (.k (.int 18))))]),
  .ret (some (.dct [(.inr "great"), (.inr "cells"), (.inr "rest"), (.inr "turn")] [(.v 1), (.lc (.bi .abs [(.v 3)]) [2, 3] (.v 3) .of [(.v 0)] []), (.k (.int 0)), (.k (.int 0))]))]
def sIn : List S := [.asg (.v 4) (.bin .mod (.bi .int [(.bin .add (.bin .add (.bin .mul (.v 4) (.k (.int 69621))) (.v 5)) (.v 1))]) (.v 3))]
def sOut : List S := [.asg (.v 4) (.bin .add (.bin .mul (.k (.int 48271)) (.v 1)) (.bin .fdiv (.v 3) (.k (.int 53)))), .for_ (.v 5) .of [(.ix (.v 0) (.k (.str "cells")))] sIn, .asg (.v 2) (.bin .add (.bin .mul (.v 2) (.k (.int 2147483647))) (.bin .mod (.bi .int [(.bin .pow (.v 4) (.k (.int 5)))]) (.v 3)))]
def sBlended : List S := [
  .asg (.tup [(.v 1), (.v 2)]) (.tup [(.bin .add (.ix (.v 0) (.k (.str "turn"))) (.k (.int 1))), (.k (.int 0))]),
  .setIx (.v 0) (.k (.str "turn")) (.v 1),
  .for_ (.v 3) .of [(.lst [(.k (.int 2147483579)), (.k (.int 2147483629)), (.k (.int 2147483563))])] sOut,
  .ret (some (.v 2))]
def sDraw : List S := [
  .ifs (.cmp .eq (.ix (.v 0) (.k (.str "rest"))) (.k (.int 0))) [.setIx (.v 0) (.k (.str "rest")) (.ite (.cmp .ne (.ix (.v 0) (.k (.str "great"))) (.lst [])) (.meth (.ix (.v 0) (.k (.str "great"))) "pop" [(.k (.int 0))] [] []) (.call "_law_blended" [(.v 0)] [] []))] [],
  .asg (.v 2) (.bin .mod (.bi .int [(.ix (.v 0) (.k (.str "rest")))]) (.v 1)),
  .setIx (.v 0) (.k (.str "rest")) (.bin .fdiv (.ix (.v 0) (.k (.str "rest"))) (.v 1)),
  .ret (some (.v 2))]
def sPick : List S := [.ret (some (.ix (.v 1) (.call "_law_draw" [(.v 0), (.bi .len [(.v 1)])] [] [])))]
theorem d0 : ourDef L.own (dTop 20) = ⟨["_law_script"], [], 4, sBegun⟩ := by kernel_rfl
theorem d1 : ourDef L.own (dTop 21) = ⟨["_law_state"], [], 6, sBlended⟩ := by kernel_rfl
theorem d2 : ourDef L.own (dTop 22) = ⟨["_law_state", "_law_room"], [], 3, sDraw⟩ := by kernel_rfl
theorem d3 : ourDef L.own (dTop 23) = ⟨["_law_state", "_law_some"], [], 2, sPick⟩ := by kernel_rfl
/-- the state of the drawing -/
def St (sc g cs : List Int) (r t : Int) (tl : List Cell) : Mem := .ro (sc.map .int) :: .lst (g.map .int) :: .dct [(.inr "great", .ref 1), (.inr "cells", .ref 3), (.inr "rest", .int r), (.inr "turn", .int t)] :: .lst (cs.map .int) :: tl
abbrev X (k : Nat) : Ev.Ctx := ⟨L.P, callK L.P 0 k, 0⟩
section
variable {sc g cs : List Int} {r t : Int} {tl : List Cell} {k : Nat} {e1 e2 e3 e4 e5 : Option D}
theorem ix_turn (ρ : List (Option D)) : evE (X k) (some (D.ref 2) :: ρ) (.ix (.v 0) (.k (.str "turn"))) (St sc g cs r t tl) = .ok (D.int t) (St sc g cs r t tl) := rfl
theorem ix_rest (ρ : List (Option D)) : evE (X k) (some (D.ref 2) :: ρ) (.ix (.v 0) (.k (.str "rest"))) (St sc g cs r t tl) = .ok (D.int r) (St sc g cs r t tl) := rfl
theorem ix_cells (ρ : List (Option D)) : evE (X k) (some (D.ref 2) :: ρ) (.ix (.v 0) (.k (.str "cells"))) (St sc g cs r t tl) = .ok (.ref 3) (St sc g cs r t tl) := rfl
theorem ix_great (ρ : List (Option D)) : evE (X k) (some (D.ref 2) :: ρ) (.ix (.v 0) (.k (.str "great"))) (St sc g cs r t tl) = .ok (.ref 1) (St sc g cs r t tl) := rfl
/-- the first two statements of blended -/
theorem bl1 : evS (X k) (.asg (.tup [(.v 1), (.v 2)]) (.tup [(.bin .add (.ix (.v 0) (.k (.str "turn"))) (.k (D.int 1))), (.k (D.int 0))])) [some (.ref 2), e1, e2, e3, e4, e5] (St sc g cs r t tl) = .ok (.nx [some (.ref 2), some (D.int (t + 1)), some (D.int 0), e3, e4, e5]) (St sc g cs r t tl) := rfl
theorem bl2 {t' : Int} : evS (X k) (.setIx (.v 0) (.k (.str "turn")) (.v 1)) [some (.ref 2), some (D.int t'), e2, e3, e4, e5] (St sc g cs r t tl) = .ok (.nx [some (.ref 2), some (D.int t'), e2, e3, e4, e5]) (St sc g cs r t' tl) := rfl
end
section
variable {C : Ev.Ctx} {ρ : List (Option D)} {m m1 m2 m3 : Mem} {a b : E} {x y z : D} {o : Bin}
theorem bin_eq (ha : evE C ρ a m = .ok x m1) (hb : evE C ρ b m1 = .ok y m2) (h : binM o x y m2 = .ok z m3) : evE C ρ (.bin o a b) m = .ok z m3 := by
  rw [evE]; unfold bind; rw [ha]; dsimp only; rw [hb]; exact h
theorem es_nil0 : evEs C ρ [] m = .ok [] m := by rw [evEs]; rfl
theorem es_cons {d : D} {ds : List D} {es : List E} (h1 : evE C ρ a m = .ok d m1) (h2 : evEs C ρ es m1 = .ok ds m2) : evEs C ρ (a :: es) m = .ok (d :: ds) m2 := by
  rw [evEs]; unfold bind; rw [h1]; dsimp only; rw [h2]; rfl
theorem int_eq {i : Int} (ha : evE C ρ a m = .ok (D.int i) m1) : evE C ρ (.bi .int [a]) m = .ok (D.int i) m1 := by
  rw [evE, evEs, evEs]; unfold bind; rw [ha]; rfl
theorem mul_eq {i j : Int} (h : mulOk i j = true) : binM .mul (D.int i) (D.int j) m = .ok (D.int (i * j)) m := by
  show (if mulOk i j then ret (D.int (i * j)) else bad) m = _
  rw [if_pos h]; rfl
theorem mod_eq {i j : Int} (h : j ≠ 0) : binM .mod (D.int i) (D.int j) m = .ok (D.int (i.fmod j)) m := by
  show (if decide (j ≠ 0) then ret (D.int (i.fmod j)) else bad) m = _
  rw [if_pos (decide_eq_true h)]; rfl
theorem fdiv_eq {i j : Int} (h : j ≠ 0) (h2 : j.natAbs < 1073741824) : binM .fdiv (D.int i) (D.int j) m = .ok (D.int (i.fdiv j)) m := by
  show (if decide (j ≠ 0) && decide (j.natAbs < 1073741824) then ret (D.int (i.fdiv j)) else bad) m = _
  rw [if_pos (by rw [decide_eq_true h, decide_eq_true h2]; rfl)]; rfl
theorem add_eq {i j : Int} : binM .add (D.int i) (D.int j) m = .ok (D.int (i + j)) m := rfl
theorem pow_eq {i : Int} (h : i.natAbs < 2 ^ 64) : binM .pow (D.int i) (D.int 5) m = .ok (D.int (i ^ 5)) m := by
  show (if decide ((0 : Int) ≤ 5) && decide ((5 : Int) ≤ 1000000) && decide (i.natAbs < 2 ^ 64) then ret (D.int (i ^ (5 : Int).toNat)) else bad) m = _
  rw [if_pos (by rw [decide_eq_true h]; rfl)]; rfl
theorem mulr (i j : Int) (h : -(2 ^ 64) < j) (h2 : j < 2 ^ 64) : mulOk i j = true := by
  unfold mulOk; rw [decide_eq_true h, decide_eq_true h2]; simp
theorem mull (i j : Int) (h : -(2 ^ 64) < i) (h2 : i < 2 ^ 64) : mulOk i j = true := by
  unfold mulOk; rw [decide_eq_true h, decide_eq_true h2]; simp
theorem asg_eq {i : Nat} {e : E} {d : D} (he : evE C ρ e m = .ok d m1) (hi : i < ρ.length) : evS C (.asg (.v i) e) ρ m = .ok (.nx (ρ.set i (some d))) m1 := by
  rw [evS]; unfold bind; rw [he]; dsimp only; unfold asgT; rw [if_pos hi]; rfl
theorem sss_eq {s : S} {ss : List S} {ρ' : List (Option D)} {R0 : R Fl} (h1 : evS C s ρ m = .ok (.nx ρ') m1) (h2 : evSs C ss ρ' m1 = R0) : evSs C (s :: ss) ρ m = R0 := by
  rw [evSs]; unfold bind; rw [h1]; exact h2
theorem sss_ok {s : S} {ss : List S} {Q : Fl → Mem → Prop} (h : Ok (evS C s ρ) m fun f m' => ∃ ρ', f = .nx ρ' ∧ Ok (evSs C ss ρ') m' Q) : Ok (evSs C (s :: ss) ρ) m Q := by
  rw [evSs]
  exact Ok.bind (h.mono fun f m' ⟨ρ', e, q⟩ => by subst e; exact q)
theorem sss_nil_ok {Q : Fl → Mem → Prop} (h : Q (.nx ρ) m) : Ok (evSs C [] ρ) m Q := by rw [evSs]; exact Ok.ret h
end
section
variable {sc g cs : List Int} {r t : Int} {tl : List Cell} {k : Nat} {e1 e2 e3 e4 e5 : Option D}
/-- one turn of the inner loop -/
theorem in_turn {b c p f : Int} {m : Mem} (hp : p ≠ 0) : evSs (X k) sIn [some (.ref 2), some (D.int t), some (D.int f), some (D.int p), some (D.int b), some (D.int c)] m = .ok (.nx [some (.ref 2), some (D.int t), some (D.int f), some (D.int p), some (D.int ((b * 69621 + c + t).fmod p)), some (D.int c)]) m :=
  sss_eq (asg_eq (bin_eq (int_eq (bin_eq (bin_eq (bin_eq (x := .int b) (y := .int 69621) rfl rfl (mul_eq (mulr _ _ (by decide) (by decide)))) (y := .int c) rfl add_eq) (y := .int t) rfl add_eq)) (y := .int p) rfl (mod_eq hp)) (by show 4 < 6; decide)) (by rw [evSs]; rfl)
theorem map_get {xs : List Int} {i : Nat} {d : D} (h : (xs.map D.int)[i]? = some d) : ∃ n, d = .int n := by
  rw [List.getElem?_map] at h
  cases e : xs[i]? with
  | none => rw [e] at h; cases h
  | some n => rw [e] at h; cases h; exact ⟨n, rfl⟩
/-- one turn of the outer loop -/
theorem out_turn {f p : Int} (hp : 0 < p) (hp2 : p < 2 ^ 40) (ht : 0 ≤ t) (ht2 : t ≤ 1000) : Ok (evSs (X k) sOut [some (.ref 2), some (D.int t), some (D.int f), some (D.int p), e4, e5]) (St sc g cs r t tl)
    fun fl m' => ∃ f' e4' e5', fl = .nx [some (.ref 2), some (D.int t), some (D.int f'), some (D.int p), e4', e5'] ∧ m' = St sc g cs r t tl := by
  refine sss_ok (.here (asg_eq (bin_eq (bin_eq (x := .int 48271) (y := .int t) rfl rfl (mul_eq (mull _ _ (by decide) (by decide)))) (bin_eq (x := .int p) (y := .int 53) rfl rfl (fdiv_eq (by decide) (by decide))) add_eq) (by show 4 < 6; decide)) ⟨_, rfl, ?_⟩)
  refine sss_ok ?_
  rw [evS]
  have h1 : ∀ ρ : List (Option D), Ok (evEs (X k) (some (D.ref 2) :: ρ) [.ix (.v 0) (.k (.str "cells"))]) (St sc g cs r t tl) fun ds m' => ds = [.ref 3] ∧ m' = St sc g cs r t tl := fun ρ => ⟨_, _, rfl, rfl, rfl⟩
  refine Ok.bind ((h1 _).mono fun ds m' ⟨e1, e2⟩ => ?_)
  subst e1; subst e2
  refine Ok.bind (.here (a := .one (.cell 3)) (m1 := St sc g cs r t tl) rfl ?_)
  refine Ok.bind (.here (a := cs.length) (m1 := St sc g cs r t tl) (by show R.ok (cs.map D.int).length _ = _; rw [List.length_map]) ?_)
  refine for_inv (r := 3) (xs := cs.map .int) (fun i ρ m => m = St sc g cs r t tl ∧ ∃ b e5', ρ = [some (.ref 2), some (D.int t), some (D.int f), some (D.int p), some (D.int b), e5'] ∧ b.natAbs < 2 ^ 64) (fun i ρ m ⟨h, _⟩ => .inl (by rw [h]; rfl)) ?_ ?_ cs.length 0 _ _ (by rw [List.length_map]; rfl) ⟨rfl, _, _, rfl, ?_⟩
  · rintro i d ρ m hd ⟨rfl, b, e5', rfl, hb⟩
    obtain ⟨c, rfl⟩ := map_get hd
    refine .here (in_turn (by omega)) ⟨_, rfl, rfl, _, _, rfl, ?_⟩
    have h1 := Int.fmod_nonneg_of_pos (b * 69621 + c + t) hp
    have h2 := Int.fmod_lt_of_pos (b * 69621 + c + t) hp
    omega
  · rintro ρ m ⟨rfl, b, e5', rfl, hb⟩
    refine ⟨_, rfl, ?_⟩
    refine sss_ok (.here (asg_eq (bin_eq (bin_eq (x := .int f) (y := .int 2147483647) rfl rfl (mul_eq (mulr _ _ (by decide) (by decide)))) (bin_eq (int_eq (bin_eq (x := .int b) (y := .int 5) rfl rfl (pow_eq hb))) (y := .int p) rfl (mod_eq (by omega))) add_eq) (by show 2 < 6; decide)) ⟨_, rfl, sss_nil_ok ⟨_, _, _, rfl, rfl⟩⟩)
  · have h1 := Int.fdiv_eq_ediv_of_nonneg p (show (0 : Int) ≤ 53 by decide)
    rw [h1]
    have h2 : 0 ≤ p / 53 := Int.ediv_nonneg (by omega) (by decide)
    have h3 : p / 53 ≤ p := Int.ediv_le_self _ (by omega)
    have h4 : 48271 * t ≤ 48271000 := by omega
    omega
end
/-! ### calls -/
theorem call_eq {k : Nat} {y : Str} {d : Def} {args qs as : List D} {ns : List Str} {pl : List (Nat ⊕ Nat)} (h1 : L.P.defs y = some d) (h2 : L.P.plan y args.length ns = some pl) (h3 : arrange args qs pl = some as) (h4 : as.length = d.ps.length) (h5 : ns.length = qs.length) :
    callK L.P 0 (k + 1) y args ns qs = bodyM (X k) d as := by
  show (match L.P.defs y, L.P.plan y args.length ns with
    | some d, some pl => (match arrange args qs pl with
      | some as => if decide (as.length = d.ps.length) && decide (ns.length = qs.length) then bodyM (X k) d as else bad
      | none => bad)
    | _, _ => bad) = _
  rw [h1, h2]
  dsimp only
  rw [h3]
  dsimp only
  rw [if_pos (by rw [decide_eq_true h4, decide_eq_true h5]; rfl)]
theorem def0 : L.P.defs "_law_begun" = some ⟨["_law_script"], [], 4, sBegun⟩ := by rw [← d0]; kernel_rfl
theorem def1 : L.P.defs "_law_blended" = some ⟨["_law_state"], [], 6, sBlended⟩ := by rw [← d1]; kernel_rfl
theorem def2 : L.P.defs "_law_draw" = some ⟨["_law_state", "_law_room"], [], 3, sDraw⟩ := by rw [← d2]; kernel_rfl
theorem def3 : L.P.defs "_law_pick" = some ⟨["_law_state", "_law_some"], [], 2, sPick⟩ := by rw [← d3]; kernel_rfl
theorem pl0 : L.P.plan "_law_begun" 1 [] = some [.inl 0] := by kernel_rfl
theorem pl1 : L.P.plan "_law_blended" 1 [] = some [.inl 0] := by kernel_rfl
theorem pl2 : L.P.plan "_law_draw" 2 [] = some [.inl 0, .inl 1] := by kernel_rfl
theorem pl3 : L.P.plan "_law_pick" 2 [] = some [.inl 0, .inl 1] := by kernel_rfl
theorem g1 : L.P.glob "_law_blended" = some (.fn "_law_blended") := by kernel_rfl
theorem g2 : L.P.glob "_law_draw" = some (.fn "_law_draw") := by kernel_rfl
theorem body_ok {C : Ev.Ctx} {d : Def} {as : List D} {m : Mem} {Q : D → Mem → Prop} (h : Ok (evSs C d.body (startE d.n as)) m fun f m' => ∃ v, f = .ret v ∧ Q v m') : Ok (bodyM C d as) m Q := by
  unfold bodyM
  exact Ok.bind (h.mono fun f m' ⟨v, e, q⟩ => by subst e; exact Ok.ret q)
theorem ret_ok {C : Ev.Ctx} {e : E} {ρ : List (Option D)} {m : Mem} {Q : Fl → Mem → Prop} (h : Ok (evE C ρ e) m fun d m' => Q (.ret d) m') : Ok (evSs C [.ret (some e)] ρ) m Q := by
  rw [evSs, evS]
  exact Ok.bind (Ok.bind (h.mono fun d m' q => Ok.ret (Ok.ret q)))
section
variable {sc g cs : List Int} {r t : Int} {tl : List Cell} {k : Nat} {e1 e2 e3 e4 e5 : Option D}
theorem st_app (c : Cell) : St sc g cs r t tl ++ [c] = St sc g cs r t (tl ++ [c]) := rfl
theorem st_len : (St sc g cs r t tl).length = tl.length + 4 := rfl
theorem st_last (c : Cell) : (St sc g cs r t (tl ++ [c]))[tl.length + 4]? = some c := by
  show (tl ++ [c])[tl.length]? = some c
  simp
theorem blended (ht : 0 ≤ t) (ht2 : t < 1000) : Ok (callK L.P 0 (k + 1) "_law_blended" [.ref 2] [] []) (St sc g cs r t tl) fun d m' => ∃ f c, d = .int f ∧ m' = St sc g cs r (t + 1) (tl ++ [c]) := by
  rw [call_eq (args := [.ref 2]) (qs := []) (ns := []) (as := [.ref 2]) def1 pl1 rfl rfl rfl]
  refine body_ok (sss_ok (.here bl1 ⟨_, rfl, sss_ok (.here bl2 ⟨_, rfl, sss_ok ?_⟩)⟩))
  rw [evS]
  refine Ok.bind (.here (a := [.ref (tl.length + 4)]) (m1 := St sc g cs r (t + 1) (tl ++ [.lst [.int 2147483579, .int 2147483629, .int 2147483563]])) rfl ?_)
  have hl := st_last (sc := sc) (g := g) (cs := cs) (r := r) (t := t + 1) (tl := tl) (.lst [.int 2147483579, .int 2147483629, .int 2147483563])
  refine Ok.bind (Ok.bind (Ok.bind (Ok.bind (Ok.cell hl (Ok.ret (Ok.ret (Ok.ret ?_)))))))
  refine Ok.bind (Ok.ask rfl ?_)
  have hn : (It.one (.cell (tl.length + 4))).len (St sc g cs r (t + 1) (tl ++ [.lst [.int 2147483579, .int 2147483629, .int 2147483563]])) = 3 := by
    show (match (St sc g cs r (t + 1) (tl ++ [.lst [.int 2147483579, .int 2147483629, .int 2147483563]]))[tl.length + 4]? with
      | some (.lst xs) => xs.length
      | some (.ro xs) => xs.length
      | _ => 0) = 3
    rw [hl]; rfl
  show Ok (forLoop _ _ ((It.one (.cell (tl.length + 4))).len _) 0 _) _ _
  rw [hn]
  refine for_inv (r := tl.length + 4) (xs := [.int 2147483579, .int 2147483629, .int 2147483563]) (fun i ρ m => m = St sc g cs r (t + 1) (tl ++ [.lst [.int 2147483579, .int 2147483629, .int 2147483563]]) ∧ ∃ f e3 e4 e5, ρ = [some (.ref 2), some (.int (t + 1)), some (.int f), e3, e4, e5]) (fun i ρ m ⟨h, _⟩ => .inl (by rw [h]; exact hl)) ?_ ?_ 3 0 _ _ rfl ⟨rfl, _, _, _, _, rfl⟩
  · rintro i d ρ m hd ⟨rfl, f, e3, e4, e5, rfl⟩
    have hp : ∃ p : Int, d = .int p ∧ 0 < p ∧ p < 2 ^ 40 := by
      match i, hd with
      | 0, hd => cases hd; exact ⟨_, rfl, by decide, by decide⟩
      | 1, hd => cases hd; exact ⟨_, rfl, by decide, by decide⟩
      | 2, hd => cases hd; exact ⟨_, rfl, by decide, by decide⟩
      | i + 3, hd => simp at hd
    obtain ⟨p, rfl, p1, p2⟩ := hp
    exact (out_turn p1 p2 (by omega) (by omega)).mono fun fl m' ⟨f', e4', e5', h1, h2⟩ => ⟨_, h1, h2, _, _, _, _, rfl⟩
  · rintro ρ m ⟨rfl, f, e3, e4, e5, rfl⟩
    refine ⟨_, rfl, ret_ok (.here rfl ⟨_, rfl, f, _, rfl, rfl⟩)⟩
/-! ### draw, pick -/
theorem eqb_int (i j : Int) (m : Mem) : eqM (.int i) (.int j) m = .ok (decide (i = j)) m := by
  obtain ⟨a, m', e, q1, q2⟩ := Ok.eq (Q := fun b m' => b = (PyData.eqv (.int i) (.int j)) ∧ m' = m) (rd_int m 8 i) (rd_int m 8 j) rfl rfl ⟨rfl, rfl⟩
  rw [e, q1, q2]
  congr 1
theorem shaped_ints (xs : List Int) (h : xs.length < 1000) : SeqAt.shaped (.list (xs.map .int)) = true := by
  have h1 : ∀ ys : List Int, PyData.canLayAll0 (ys.map .int) = true := fun ys => by
    induction ys with
    | nil => rfl
    | cons y ys ih => rw [List.map_cons, PyData.canLayAll0, ih]; rfl
  have h2 : ∀ ys : List Int, PyData.depthAll (ys.map .int) = 0 := fun ys => by
    induction ys with
    | nil => rfl
    | cons y ys ih => rw [List.map_cons, PyData.depthAll, ih]; rfl
  unfold SeqAt.shaped
  rw [PyData.canLay0, h1, PyData.depth, h2]; rfl
theorem great_ne (tl' : List Cell) (hg : g.length < 1000) : ∃ b, eqM (.ref 1) (.ref (tl.length + 4)) (St sc g cs r t (tl ++ [Cell.lst []])) = .ok b (St sc g cs r t (tl ++ [Cell.lst []])) ∧ b = g.isEmpty := by
  have h1 : rdD (St sc g cs r t (tl ++ [Cell.lst []])) 8 (.ref 1) = some (.list (g.map .int)) := by
    rw [rdD]
    show (match some (Cell.lst (g.map .int)) with
      | some (Cell.lst xs) => (rdDs (St sc g cs r t (tl ++ [Cell.lst []])) 7 xs).map PyData.list
      | some (Cell.ro xs) => (rdDs (St sc g cs r t (tl ++ [Cell.lst []])) 7 xs).map PyData.list
      | _ => none) = _
    dsimp only
    rw [rd_ints]; rfl
  have h2 : rdD (St sc g cs r t (tl ++ [Cell.lst []])) 8 (.ref (tl.length + 4)) = some (.list []) := by
    rw [rdD]
    rw [st_last]
    dsimp only
    rw [rdDs]; rfl
  obtain ⟨a, m', e, q1, q2⟩ := Ok.eq (Q := fun b m' => b = (PyData.eqv (.list (g.map .int)) (.list [])) ∧ m' = St sc g cs r t (tl ++ [Cell.lst []])) h1 h2 (shaped_ints g hg) (by rfl) ⟨rfl, rfl⟩
  refine ⟨a, by rw [e, q2], ?_⟩
  rw [q1]
  cases g with
  | nil => rfl
  | cons => rfl
theorem cmp_eq {C : Ev.Ctx} {o : Cp} {a b : E} {ρ : List (Option D)} {m m1 m2 m3 : Mem} {x y : D} {v : Bool} (ha : evE C ρ a m = .ok x m1) (hb : evE C ρ b m1 = .ok y m2) (h : cmpM C.P o x y m2 = .ok v m3) : evE C ρ (.cmp o a b) m = .ok (D.bl v) m3 := by
  rw [evE]; unfold bind; rw [ha]; dsimp only; rw [hb]; dsimp only; rw [h]; rfl
theorem ne_eq {P : Prog} {x y : D} {b : Bool} {m m1 : Mem} (h : eqM x y m = .ok b m1) : cmpM P .ne x y m = .ok (!b) m1 := by
  unfold cmpM; dsimp only; unfold bind; rw [h]; rfl
theorem truth_bl {C : Ev.Ctx} {b : Bool} {m : Mem} : truth C.P (.bl b) m = .ok b m := rfl
theorem if_ok {C : Ev.Ctx} {c : E} {a b : List S} {ρ : List (Option D)} {m m1 : Mem} {v : Bool} {Q : Fl → Mem → Prop} (hc : evE C ρ c m = .ok (D.bl v) m1) (h : Ok (if v then evSs C a ρ else evSs C b ρ) m1 Q) : Ok (evS C (.ifs c a b) ρ) m Q := by
  rw [evS]
  exact Ok.bind (.here hc (Ok.bind (.here rfl h)))
theorem eq_rest (ρ : List (Option D)) : evE (X k) (some (D.ref 2) :: ρ) (.cmp .eq (.ix (.v 0) (.k (.str "rest"))) (.k (.int 0))) (St sc g cs r t tl) = .ok (.bl (decide (r = 0))) (St sc g cs r t tl) := by
  exact cmp_eq (y := .int 0) (ix_rest _) (by rw [evE]; rfl) (by unfold cmpM; exact eqb_int _ _ _)
/-- the new rest -/
theorem new_rest (ht : 0 ≤ t) (ht2 : t < 1000) (hg : g.length < 1000) (ρ : List (Option D)) : Ok (evE (X (k + 1)) (some (D.ref 2) :: ρ) (.ite (.cmp .ne (.ix (.v 0) (.k (.str "great"))) (.lst [])) (.meth (.ix (.v 0) (.k (.str "great"))) "pop" [(.k (.int 0))] [] []) (.call "_law_blended" [(.v 0)] [] []))) (St sc g cs r t tl)
    fun d m' => ∃ f g' t' tl', d = .int f ∧ g'.length ≤ g.length ∧ t ≤ t' ∧ t' ≤ t + 1 ∧ m' = St sc g' cs r t' (tl ++ tl') := by
  obtain ⟨b, eb, hb⟩ := great_ne (sc := sc) (g := g) (cs := cs) (r := r) (t := t) (tl := tl) [] hg
  have hc : evE (X (k + 1)) (some (D.ref 2) :: ρ) (.cmp .ne (.ix (.v 0) (.k (.str "great"))) (.lst [])) (St sc g cs r t tl) = .ok (.bl !b) (St sc g cs r t (tl ++ [Cell.lst []])) := by
    have e2 : evE (X (k + 1)) (some (D.ref 2) :: ρ) (.lst []) (St sc g cs r t tl) = .ok (.ref (tl.length + 4)) (St sc g cs r t (tl ++ [Cell.lst []])) := rfl
    exact cmp_eq (ix_great _) e2 (ne_eq eb)
  rw [evE]
  refine Ok.bind (.here hc (Ok.bind (.here rfl ?_)))
  subst hb
  cases g with
  | nil =>
    show Ok (evE (X (k + 1)) (some (D.ref 2) :: ρ) (.call "_law_blended" [(.v 0)] [] [])) _ _
    rw [evE]
    refine Ok.bind (.here (a := .fn "_law_blended") (m1 := St sc [] cs r t (tl ++ [Cell.lst []])) (by show calleeM L.P _ _ = _; unfold calleeM; rw [g1]; rfl) ?_)
    refine Ok.bind (.here (a := [.ref 2]) (m1 := St sc [] cs r t (tl ++ [Cell.lst []])) rfl (Ok.bind (.here (a := []) (m1 := St sc [] cs r t (tl ++ [Cell.lst []])) rfl ?_)))
    exact (blended ht ht2).mono fun d m' ⟨f, c, h1, h2⟩ => ⟨f, [], t + 1, [.lst [], c], h1, Nat.le_refl _, by omega, Int.le_refl _, by rw [h2, List.append_assoc]; rfl⟩
  | cons x g =>
    show Ok (evE (X (k + 1)) (some (D.ref 2) :: ρ) (.meth (.ix (.v 0) (.k (.str "great"))) "pop" [(.k (.int 0))] [] [])) _ _
    rw [evE]
    refine Ok.bind (.here (ix_great _) (Ok.bind (.here (a := .lst) (m1 := St sc (x :: g) cs r t (tl ++ [Cell.lst []])) rfl ?_)))
    refine Ok.bind (.here (a := [.int 0]) (m1 := St sc (x :: g) cs r t (tl ++ [Cell.lst []])) rfl (Ok.bind (.here (a := []) (m1 := St sc (x :: g) cs r t (tl ++ [Cell.lst []])) rfl ?_)))
    refine Ok.bind (Ok.lst (xs := (x :: g).map .int) rfl ?_)
    show Ok (popAt 1 ((x :: g).map .int) 0) _ _
    unfold popAt
    rw [if_pos (by decide)]
    have e0 : L2.ixN ((x :: g).map D.int).length 0 = some 0 := by
      unfold L2.ixN
      rw [if_pos (by decide), if_pos (by simp)]; rfl
    exact Ok.bind (Ok.opt e0 (Ok.bind (Ok.opt (a := .int x) rfl (Ok.bind (Ok.put (Ok.ret ⟨x, g, t, [Cell.lst []], rfl, by simp, Int.le_refl _, by omega, rfl⟩))))))
theorem draw {n : Int} (hn : 0 < n) (hn2 : n < 1000) (ht : 0 ≤ t) (ht2 : t < 1000) (hg : g.length < 1000) : Ok (callK L.P 0 (k + 2) "_law_draw" [.ref 2, .int n] [] []) (St sc g cs r t tl)
    fun d m' => ∃ f g' r' t' tl', d = .int f ∧ 0 ≤ f ∧ f < n ∧ g'.length ≤ g.length ∧ t ≤ t' ∧ t' ≤ t + 1 ∧ m' = St sc g' cs r' t' (tl ++ tl') := by
  rw [call_eq (args := [.ref 2, .int n]) (qs := []) (ns := []) (as := [.ref 2, .int n]) def2 pl2 rfl rfl rfl]
  refine body_ok (sss_ok ?_)
  have rest : ∀ {r' t' : Int} {g' : List Int} {tl' : List Cell} {e : Option D}, g'.length ≤ g.length → t ≤ t' → t' ≤ t + 1 → Ok (evSs (X (k + 1)) [.asg (.v 2) (.bin .mod (.bi .int [(.ix (.v 0) (.k (.str "rest")))]) (.v 1)), .setIx (.v 0) (.k (.str "rest")) (.bin .fdiv (.ix (.v 0) (.k (.str "rest"))) (.v 1)), .ret (some (.v 2))] [some (.ref 2), some (.int n), e]) (St sc g' cs r' t' (tl ++ tl')) fun f m' => ∃ v, f = .ret v ∧ ∃ f g' r' t' tl', v = .int f ∧ 0 ≤ f ∧ f < n ∧ g'.length ≤ g.length ∧ t ≤ t' ∧ t' ≤ t + 1 ∧ m' = St sc g' cs r' t' (tl ++ tl') := by
    intro r' t' g' tl' e h1 h2 h3
    refine sss_ok (.here (asg_eq (bin_eq (int_eq (ix_rest _)) (y := .int n) rfl (mod_eq (by omega))) (by show 2 < 3; decide)) ⟨_, rfl, ?_⟩)
    refine sss_ok ?_
    rw [evS]
    refine Ok.bind (.here (bin_eq (ix_rest _) (y := .int n) rfl (fdiv_eq (by omega) (by omega))) ?_)
    refine Ok.bind (.here (a := .ref 2) (m1 := St sc g' cs r' t' (tl ++ tl')) rfl (Ok.bind (.here (a := .str "rest") (m1 := St sc g' cs r' t' (tl ++ tl')) rfl ?_)))
    refine Ok.bind (.here (a := ()) (m1 := St sc g' cs (r'.fdiv n) t' (tl ++ tl')) rfl (Ok.ret ⟨_, rfl, ?_⟩))
    refine ret_ok (.here (a := .int (r'.fmod n)) (m1 := St sc g' cs (r'.fdiv n) t' (tl ++ tl')) rfl ⟨_, rfl, _, _, _, _, _, rfl, Int.fmod_nonneg_of_pos _ hn, Int.fmod_lt_of_pos _ hn, h1, h2, h3, rfl⟩)
  refine if_ok (eq_rest _) ?_
  by_cases hr : r = 0
  · rw [decide_eq_true hr]
    refine sss_ok ?_
    rw [evS]
    refine Ok.bind ((new_rest ht ht2 hg _).mono fun d m' ⟨f, g', t', tl', e1, h1, h2, h3, e2⟩ => ?_)
    subst e1; subst e2
    refine Ok.bind (.here (a := .ref 2) (m1 := St sc g' cs r t' (tl ++ tl')) rfl (Ok.bind (.here (a := .str "rest") (m1 := St sc g' cs r t' (tl ++ tl')) rfl ?_)))
    refine Ok.bind (.here (a := ()) (m1 := St sc g' cs f t' (tl ++ tl')) rfl (Ok.ret ⟨_, rfl, sss_nil_ok ⟨_, rfl, rest h1 h2 h3⟩⟩))
  · rw [decide_eq_false hr]
    have := rest (r' := r) (t' := t) (g' := g) (tl' := []) (e := none) (Nat.le_refl _) (Int.le_refl _) (by omega)
    rw [List.append_nil] at this
    exact sss_nil_ok (C := X (k + 1)) ⟨_, rfl, this⟩
theorem pick {xs : List D} (h0 : 0 < xs.length) (h1 : xs.length < 1000) (ht : 0 ≤ t) (ht2 : t < 1000) (hg : g.length < 1000) : Ok (callK L.P 0 (k + 3) "_law_pick" [.ref 2, .ref (tl.length + 4)] [] []) (St sc g cs r t (tl ++ [Cell.lst xs]))
    fun d m' => ∃ (i : Nat) (g' : List Int) (r' t' : Int) (tl' : List Cell), xs[i]? = some d ∧ g'.length ≤ g.length ∧ t ≤ t' ∧ t' ≤ t + 1 ∧ m' = St sc g' cs r' t' (tl ++ [Cell.lst xs] ++ tl') := by
  rw [call_eq (args := [.ref 2, .ref (tl.length + 4)]) (qs := []) (ns := []) (as := [.ref 2, .ref (tl.length + 4)]) def3 pl3 rfl rfl rfl]
  refine body_ok (ret_ok ?_)
  show Ok (evE (X (k + 2)) [some (.ref 2), some (.ref (tl.length + 4))] _) _ _
  rw [evE]
  refine Ok.bind (.here (a := .ref (tl.length + 4)) (m1 := St sc g cs r t (tl ++ [Cell.lst xs])) rfl ?_)
  rw [evE]
  refine Ok.bind (Ok.bind (.here (a := .fn "_law_draw") (m1 := St sc g cs r t (tl ++ [Cell.lst xs])) (by show calleeM L.P _ _ = _; unfold calleeM; rw [g2]; rfl) ?_))
  have hl := st_last (sc := sc) (g := g) (cs := cs) (r := r) (t := t) (tl := tl) (Cell.lst xs)
  have len_ : evE (X (k + 2)) [some (.ref 2), some (.ref (tl.length + 4))] (.bi .len [(.v 1)]) (St sc g cs r t (tl ++ [Cell.lst xs])) = .ok (.int xs.length) (St sc g cs r t (tl ++ [Cell.lst xs])) := by
    show lenM L.P (.ref (tl.length + 4)) _ = _
    unfold lenM bind cellM ask
    dsimp only
    rw [hl]; rfl
  have args_ : evEs (X (k + 2)) [some (.ref 2), some (.ref (tl.length + 4))] [.v 0, .bi .len [(.v 1)]] (St sc g cs r t (tl ++ [Cell.lst xs])) = .ok [.ref 2, .int xs.length] (St sc g cs r t (tl ++ [Cell.lst xs])) := by
    exact es_cons (d := .ref 2) rfl (es_cons len_ es_nil0)
  refine Ok.bind (.here args_ (Ok.bind (.here (a := []) (m1 := St sc g cs r t (tl ++ [Cell.lst xs])) rfl ?_)))
  refine (draw (n := xs.length) (by omega) (by omega) ht ht2 hg).mono fun d m' ⟨f, g', r', t', tl', e1, f1, f2, h1, h2, h3, e2⟩ => ?_
  subst e1; subst e2
  have hl2 : (St sc g' cs r' t' (tl ++ [Cell.lst xs] ++ tl'))[tl.length + 4]? = some (Cell.lst xs) := by
    show (tl ++ [Cell.lst xs] ++ tl')[tl.length]? = _
    rw [List.append_assoc, List.getElem?_append_right (Nat.le_refl _)]
    simp
  have hi : f.toNat < xs.length := by omega
  have hx : xs[f.toNat]? = some xs[f.toNat] := List.getElem?_eq_getElem hi
  have ha : L2.atI xs f = some xs[f.toNat] := by
    unfold L2.atI L2.ixN
    rw [if_pos f1, if_pos (by omega)]
    exact hx
  exact Ok.bind (Ok.cell hl2 (Ok.opt ha ⟨_, rfl, f.toNat, g', r', t', tl', hx, h1, h2, h3, rfl⟩))
end
/-- a walk over a display, nothing touched -/
theorem for_disp {C : Ev.Ctx} {j : Nat} {es : List E} {b : List S} {ρ : List (Option D)} {m : Mem} {xs : List D} {Q : Fl → Mem → Prop} (he : evEs C ρ es m = .ok xs m) (hx : xs.length < 1000) (hj : j < ρ.length) (hb : ∀ d ∈ xs, ∀ m', evSs C b (ρ.set j (some d)) m' = .ok (.nx (ρ.set j (some d))) m')
    (hq : ∀ e, Q (.nx (ρ.set j e)) (m ++ [Cell.lst xs])) : Ok (evS C (.for_ (.v j) .of [.lst es] b) ρ) m Q := by
  have hl : (m ++ [Cell.lst xs])[m.length]? = some (Cell.lst xs) := by simp
  have e1 : evEs C ρ [.lst es] m = .ok [.ref m.length] (m ++ [Cell.lst xs]) := by
    rw [evEs, evEs, evE]
    unfold bind
    rw [he]
    have : small xs.length = true := decide_eq_true (by rw [sizeLine_eq]; omega)
    dsimp only
    rw [if_pos this]
    rfl
  rw [evS]
  refine Ok.bind (.here e1 (Ok.bind (Ok.bind (Ok.bind (Ok.bind (Ok.cell hl (Ok.ret (Ok.ret (Ok.ret ?_)))))))))
  have hn : (It.one (.cell m.length)).len (m ++ [Cell.lst xs]) = xs.length := by
    show (match (m ++ [Cell.lst xs])[m.length]? with
      | some (.lst xs) => xs.length
      | some (.ro xs) => xs.length
      | _ => 0) = _
    rw [hl]
  refine Ok.bind (Ok.ask rfl ?_)
  show Ok (forLoop _ _ ((It.one (.cell m.length)).len _) 0 _) _ _
  rw [hn]
  refine for_inv (r := m.length) (xs := xs) (fun i ρ' m' => m' = m ++ [Cell.lst xs] ∧ ∃ e, ρ' = ρ.set j e) (fun i ρ' m' ⟨h, _⟩ => .inl (by rw [h]; exact hl)) ?_ ?_ xs.length 0 _ _ (by omega) ⟨rfl, ?_⟩
  · rintro i d ρ' m' hd ⟨rfl, e, rfl⟩
    have hm := List.mem_of_getElem? hd
    have : asgT (.v j) d (ρ.set j e) = some (ρ.set j (some d)) := by
      unfold asgT
      rw [if_pos (by rw [List.length_set]; exact hj), List.set_set]
    show Ok (match asgT (.v j) d (ρ.set j e) with
      | some ρ' => evSs C b ρ'
      | none => bad) _ _
    rw [this]
    exact .here (hb d hm _) ⟨_, rfl, rfl, _, rfl⟩
  · rintro ρ' m' ⟨rfl, e, rfl⟩
    exact hq e
  · exact ⟨ρ[j], by rw [List.set_getElem_self]⟩
/-! ### the law -/
def cErr (f : Str) : E := .call f [(.v 2)] [] []
def cAt (f : Str) : E := .call f [(.v 4)] [] []
def sIf1 : List S := [.ifs (.or [(.not (.bi .isinstance [(.v 3), (.k (.ty "ValueError"))])), (.not (.bi .isinstance [(.v 3), (.g "ReturnError")])), (.bi .isinstance [(.v 3), (.g "NoBill")])]) [.ret (some (.k (.bl false)))] []]
def sIf2 : List S := [.ifs (.or [(.not (.bi .isinstance [(.v 3), (.g "ReturnError")])), (.bi .isinstance [(.v 3), (.g "BadProgram")])]) [.ret (some (.k (.bl false)))] []]
def sIf3 : List S := [.ifs (.or [(.cmp .ne (.att (.v 3) "at") (.v 4)), (.not (.bi .isinstance [(.v 3), (.g "ReturnError")])), (.bi .isinstance [(.v 3), (.g "TooMany")])]) [.ret (some (.k (.bl false)))] []]
def sTail : List S := [
  .asg (.tup [(.v 5), (.v 6)]) (.tup [(.call "TooMany" [] ["most"] [(.v 4)]), (.call "Gone" [] ["birth", "word"] [(.v 4), (.k (.str "frame"))])]),
  .ifs (.or [(.cmp .ne (.att (.v 5) "most") (.v 4)), (.cmp .ne (.att (.v 6) "word") (.k (.str "frame"))), (.cmp .ne (.att (.v 6) "birth") (.v 4))]) [.ret (some (.k (.bl false)))] [],
  .ret (some (.and [(.bi .isinstance [(.v 5), (.g "ReturnError")]), (.bi .isinstance [(.v 6), (.g "ReturnError")]), (.not (.bi .isinstance [(.v 5), (.g "Gone")]))]))]
def sLaw : List S := .asg (.v 1) (.call "_law_begun" [(.v 0)] [] []) ::
  .asg (.v 2) (.call "_law_pick" [(.v 1), (.lst [(.k (.str "no")), (.k (.str "why")), (.k (.str "x y")), (.k (.str ""))])] [] []) ::
  .for_ (.v 3) .of [(.lst [cErr "BadExpression", cErr "BadMoment", cErr "BadMost", cErr "BadPath", cErr "BadProgram", cErr "Misfit"])] sIf1 ::
  .for_ (.v 3) .of [(.lst [cErr "NoBill", cErr "NoName", cErr "NotOver", cErr "NotTold", cErr "Unlike"])] sIf2 ::
  .asg (.v 4) (.call "_law_pick" [(.v 1), (.lst [(.k (.int 0)), (.k (.int 1)), (.k (.int 7)), (.k (.int 400)), (.k (.int 20000)), (.k .non)])] [] []) ::
  .for_ (.v 3) .of [(.lst [cAt "BadDeeds", cAt "BadJournal", cAt "BadRow", cAt "BadText"])] sIf3 :: sTail
theorem d4 : ourDef L.own (dTop 24) = ⟨["_law_script"], [], 7, sLaw⟩ := by kernel_rfl
theorem def4 : L.P.defs "law" = some ⟨["_law_script"], [], 7, sLaw⟩ := by rw [← d4]; kernel_rfl
theorem gb : L.P.glob "_law_begun" = some (.fn "_law_begun") := by kernel_rfl
theorem gp : L.P.glob "_law_pick" = some (.fn "_law_pick") := by kernel_rfl
theorem err_eq (f : Str) (k : Nat) (ρ : List (Option D)) (w : Str) (m : Mem) (hg : L.P.glob f = some (.cls f)) (hc : ∃ b i fl, L.P.cls f = some ⟨b, some [], i, fl⟩) (h2 : ρ[2]? = some (some (.str w))) : evE (X k) ρ (cErr f) m = .ok (.exc f []) m := by
  obtain ⟨b, i, fl, hc⟩ := hc
  unfold cErr
  rw [evE]
  have e1 : calleeM L.P f m = .ok (.cls f) m := by unfold calleeM; rw [hg]; rfl
  have e2 : evE (X k) ρ (.v 2) m = .ok (.str w) m := by rw [evE]; unfold varM; rw [h2]; rfl
  have e3 : evEs (X k) ρ [.v 2] m = .ok [.str w] m := es_cons e2 es_nil0
  unfold bind
  rw [show (X k).P = L.P from rfl, e1]
  dsimp only
  rw [e3]
  dsimp only
  rw [es_nil0]
  show makeM (X k) f [.str w] [] [] m = _
  unfold makeM
  rw [show (X k).P.cls f = _ from hc]
  rfl
section
variable {k : Nat} {a0 a1 a2 a4 a5 a6 : Option D} {m : Mem}
theorem t1 : ∀ c ∈ (["BadExpression", "BadMoment", "BadMost", "BadPath", "BadProgram", "Misfit"] : List Str), evSs (X k) sIf1 [a0, a1, a2, some (.exc c []), a4, a5, a6] m = .ok (.nx [a0, a1, a2, some (.exc c []), a4, a5, a6]) m := by
  have h1 : evSs (X k) sIf1 [a0, a1, a2, some (.exc "BadExpression" []), a4, a5, a6] m = .ok (.nx [a0, a1, a2, some (.exc "BadExpression" []), a4, a5, a6]) m := by kernel_rfl
  have h2 : evSs (X k) sIf1 [a0, a1, a2, some (.exc "BadMoment" []), a4, a5, a6] m = .ok (.nx [a0, a1, a2, some (.exc "BadMoment" []), a4, a5, a6]) m := by kernel_rfl
  have h3 : evSs (X k) sIf1 [a0, a1, a2, some (.exc "BadMost" []), a4, a5, a6] m = .ok (.nx [a0, a1, a2, some (.exc "BadMost" []), a4, a5, a6]) m := by kernel_rfl
  have h4 : evSs (X k) sIf1 [a0, a1, a2, some (.exc "BadPath" []), a4, a5, a6] m = .ok (.nx [a0, a1, a2, some (.exc "BadPath" []), a4, a5, a6]) m := by kernel_rfl
  have h5 : evSs (X k) sIf1 [a0, a1, a2, some (.exc "BadProgram" []), a4, a5, a6] m = .ok (.nx [a0, a1, a2, some (.exc "BadProgram" []), a4, a5, a6]) m := by kernel_rfl
  have h6 : evSs (X k) sIf1 [a0, a1, a2, some (.exc "Misfit" []), a4, a5, a6] m = .ok (.nx [a0, a1, a2, some (.exc "Misfit" []), a4, a5, a6]) m := by kernel_rfl
  simp only [List.forall_mem_cons]
  exact ⟨h1, h2, h3, h4, h5, h6, fun _ h => nomatch h⟩
theorem t2 : ∀ c ∈ (["NoBill", "NoName", "NotOver", "NotTold", "Unlike"] : List Str), evSs (X k) sIf2 [a0, a1, a2, some (.exc c []), a4, a5, a6] m = .ok (.nx [a0, a1, a2, some (.exc c []), a4, a5, a6]) m := by
  have h0 : evSs (X k) sIf2 [a0, a1, a2, some (.exc "NoBill" []), a4, a5, a6] m = .ok (.nx [a0, a1, a2, some (.exc "NoBill" []), a4, a5, a6]) m := by kernel_rfl
  have h1 : evSs (X k) sIf2 [a0, a1, a2, some (.exc "NoName" []), a4, a5, a6] m = .ok (.nx [a0, a1, a2, some (.exc "NoName" []), a4, a5, a6]) m := by kernel_rfl
  have h2 : evSs (X k) sIf2 [a0, a1, a2, some (.exc "NotOver" []), a4, a5, a6] m = .ok (.nx [a0, a1, a2, some (.exc "NotOver" []), a4, a5, a6]) m := by kernel_rfl
  have h3 : evSs (X k) sIf2 [a0, a1, a2, some (.exc "NotTold" []), a4, a5, a6] m = .ok (.nx [a0, a1, a2, some (.exc "NotTold" []), a4, a5, a6]) m := by kernel_rfl
  have h4 : evSs (X k) sIf2 [a0, a1, a2, some (.exc "Unlike" []), a4, a5, a6] m = .ok (.nx [a0, a1, a2, some (.exc "Unlike" []), a4, a5, a6]) m := by kernel_rfl
  simp only [List.forall_mem_cons]
  exact ⟨h0, h1, h2, h3, h4, fun _ h => nomatch h⟩
/-- a number or None is itself -/
def Self (n : D) : Prop := ∀ m, eqM n n m = .ok true m
theorem self_int (i : Int) : Self (.int i) := fun m => by rw [eqb_int, decide_eq_true rfl]
theorem self_non : Self .non := fun m => by
  obtain ⟨a, m', e, q1, q2⟩ := Ok.eq (Q := fun b m' => b = (PyData.eqv .none .none) ∧ m' = m) (rd_non m 8) (rd_non m 8) rfl rfl ⟨rfl, rfl⟩
  rw [e, q1, q2]; rfl
theorem self_frame : Self (.str "frame") := fun m => by
  obtain ⟨a, m', e, q1, q2⟩ := Ok.eq (Q := fun b m' => b = (PyData.eqv (.str "frame") (.str "frame")) ∧ m' = m) (rd_str m 8 "frame") (rd_str m 8 "frame") (by kernel_rfl) (by kernel_rfl) ⟨rfl, rfl⟩
  rw [e, q1, q2]
  have : PyData.eqv (.str "frame") (.str "frame") = true := by kernel_rfl
  rw [this]
theorem ne_self {C : Ev.Ctx} {a b : E} {ρ : List (Option D)} {n : D} (hn : Self n) (ha : evE C ρ a m = .ok n m) (hb : evE C ρ b m = .ok n m) : evE C ρ (.cmp .ne a b) m = .ok (.bl false) m := cmp_eq ha hb (ne_eq (hn m))
theorem or_f {C : Ev.Ctx} {a : E} {es : List E} {ρ : List (Option D)} (ha : evE C ρ a m = .ok (.bl false) m) (hr : evOr C ρ es m = .ok (.bl false) m) (hn : es ≠ []) : evOr C ρ (a :: es) m = .ok (.bl false) m := by
  rw [evOr]
  unfold bind
  rw [ha]
  dsimp only
  have : es.isEmpty = false := by cases es <;> first | rfl | exact absurd rfl hn
  rw [this]
  exact hr
theorem or_1 {C : Ev.Ctx} {a : E} {ρ : List (Option D)} (ha : evE C ρ a m = .ok (.bl false) m) : evOr C ρ [a] m = .ok (.bl false) m := by
  rw [evOr]; unfold bind; rw [ha]; rfl
theorem ifs_or {C : Ev.Ctx} {es : List E} {a ss : List S} {ρ : List (Option D)} {R0 : R Fl} (h : evOr C ρ es m = .ok (.bl false) m) (h2 : evSs C ss ρ m = R0) : evSs C (.ifs (.or es) a [] :: ss) ρ m = R0 := by
  refine sss_eq (ρ' := ρ) (m1 := m) ?_ h2
  rw [evS, evE]
  unfold bind
  rw [h]
  show evSs C [] ρ m = _
  rw [evSs]; rfl
theorem t3 {n : D} (hn : Self n) : ∀ c ∈ (["BadDeeds", "BadJournal", "BadRow", "BadText"] : List Str), evSs (X k) sIf3 [a0, a1, a2, some (.exc c [("at", n)]), some n, a5, a6] m = .ok (.nx [a0, a1, a2, some (.exc c [("at", n)]), some n, a5, a6]) m := by
  have h0 : evSs (X k) sIf3 [a0, a1, a2, some (.exc "BadDeeds" [("at", n)]), some n, a5, a6] m = .ok (.nx [a0, a1, a2, some (.exc "BadDeeds" [("at", n)]), some n, a5, a6]) m :=
    ifs_or (or_f (ne_self hn (by kernel_rfl) (by kernel_rfl)) (by kernel_rfl) (by simp)) (by rw [evSs]; rfl)
  have h1 : evSs (X k) sIf3 [a0, a1, a2, some (.exc "BadJournal" [("at", n)]), some n, a5, a6] m = .ok (.nx [a0, a1, a2, some (.exc "BadJournal" [("at", n)]), some n, a5, a6]) m :=
    ifs_or (or_f (ne_self hn (by kernel_rfl) (by kernel_rfl)) (by kernel_rfl) (by simp)) (by rw [evSs]; rfl)
  have h2 : evSs (X k) sIf3 [a0, a1, a2, some (.exc "BadRow" [("at", n)]), some n, a5, a6] m = .ok (.nx [a0, a1, a2, some (.exc "BadRow" [("at", n)]), some n, a5, a6]) m :=
    ifs_or (or_f (ne_self hn (by kernel_rfl) (by kernel_rfl)) (by kernel_rfl) (by simp)) (by rw [evSs]; rfl)
  have h3 : evSs (X k) sIf3 [a0, a1, a2, some (.exc "BadText" [("at", n)]), some n, a5, a6] m = .ok (.nx [a0, a1, a2, some (.exc "BadText" [("at", n)]), some n, a5, a6]) m :=
    ifs_or (or_f (ne_self hn (by kernel_rfl) (by kernel_rfl)) (by kernel_rfl) (by simp)) (by rw [evSs]; rfl)
  simp only [List.forall_mem_cons]
  exact ⟨h0, h1, h2, h3, fun _ h => nomatch h⟩
theorem mk3 {a3 : Option D} : ∀ n ∈ ([.int 0, .int 1, .int 7, .int 400, .int 20000, .non] : List D), evEs (X k) [a0, a1, a2, a3, some n, a5, a6] [cAt "BadDeeds", cAt "BadJournal", cAt "BadRow", cAt "BadText"] m = .ok [.exc "BadDeeds" [("at", n)], .exc "BadJournal" [("at", n)], .exc "BadRow" [("at", n)], .exc "BadText" [("at", n)]] m := by
  have h0 : evEs (X k) [a0, a1, a2, a3, some (D.int 0), a5, a6] [cAt "BadDeeds", cAt "BadJournal", cAt "BadRow", cAt "BadText"] m = .ok [.exc "BadDeeds" [("at", D.int 0)], .exc "BadJournal" [("at", D.int 0)], .exc "BadRow" [("at", D.int 0)], .exc "BadText" [("at", D.int 0)]] m := by kernel_rfl
  have h1 : evEs (X k) [a0, a1, a2, a3, some (D.int 1), a5, a6] [cAt "BadDeeds", cAt "BadJournal", cAt "BadRow", cAt "BadText"] m = .ok [.exc "BadDeeds" [("at", D.int 1)], .exc "BadJournal" [("at", D.int 1)], .exc "BadRow" [("at", D.int 1)], .exc "BadText" [("at", D.int 1)]] m := by kernel_rfl
  have h2 : evEs (X k) [a0, a1, a2, a3, some (D.int 7), a5, a6] [cAt "BadDeeds", cAt "BadJournal", cAt "BadRow", cAt "BadText"] m = .ok [.exc "BadDeeds" [("at", D.int 7)], .exc "BadJournal" [("at", D.int 7)], .exc "BadRow" [("at", D.int 7)], .exc "BadText" [("at", D.int 7)]] m := by kernel_rfl
  have h3 : evEs (X k) [a0, a1, a2, a3, some (D.int 400), a5, a6] [cAt "BadDeeds", cAt "BadJournal", cAt "BadRow", cAt "BadText"] m = .ok [.exc "BadDeeds" [("at", D.int 400)], .exc "BadJournal" [("at", D.int 400)], .exc "BadRow" [("at", D.int 400)], .exc "BadText" [("at", D.int 400)]] m := by kernel_rfl
  have h4 : evEs (X k) [a0, a1, a2, a3, some (D.int 20000), a5, a6] [cAt "BadDeeds", cAt "BadJournal", cAt "BadRow", cAt "BadText"] m = .ok [.exc "BadDeeds" [("at", D.int 20000)], .exc "BadJournal" [("at", D.int 20000)], .exc "BadRow" [("at", D.int 20000)], .exc "BadText" [("at", D.int 20000)]] m := by kernel_rfl
  have h5 : evEs (X k) [a0, a1, a2, a3, some (D.non), a5, a6] [cAt "BadDeeds", cAt "BadJournal", cAt "BadRow", cAt "BadText"] m = .ok [.exc "BadDeeds" [("at", D.non)], .exc "BadJournal" [("at", D.non)], .exc "BadRow" [("at", D.non)], .exc "BadText" [("at", D.non)]] m := by kernel_rfl
  simp only [List.forall_mem_cons]
  exact ⟨h0, h1, h2, h3, h4, h5, fun _ h => nomatch h⟩
theorem mk4 {a3 : Option D} : ∀ n ∈ ([.int 0, .int 1, .int 7, .int 400, .int 20000, .non] : List D), evS (X k) (.asg (.tup [(.v 5), (.v 6)]) (.tup [(.call "TooMany" [] ["most"] [(.v 4)]), (.call "Gone" [] ["birth", "word"] [(.v 4), (.k (.str "frame"))])])) [a0, a1, a2, a3, some n, a5, a6] m = .ok (.nx [a0, a1, a2, a3, some n, some (.exc "TooMany" [("most", n)]), some (.exc "Gone" [("birth", n), ("word", .str "frame")])]) m := by
  have h0 : evS (X k) (.asg (.tup [(.v 5), (.v 6)]) (.tup [(.call "TooMany" [] ["most"] [(.v 4)]), (.call "Gone" [] ["birth", "word"] [(.v 4), (.k (.str "frame"))])])) [a0, a1, a2, a3, some (D.int 0), a5, a6] m = .ok (.nx [a0, a1, a2, a3, some (D.int 0), some (.exc "TooMany" [("most", D.int 0)]), some (.exc "Gone" [("birth", D.int 0), ("word", .str "frame")])]) m := by kernel_rfl
  have h1 : evS (X k) (.asg (.tup [(.v 5), (.v 6)]) (.tup [(.call "TooMany" [] ["most"] [(.v 4)]), (.call "Gone" [] ["birth", "word"] [(.v 4), (.k (.str "frame"))])])) [a0, a1, a2, a3, some (D.int 1), a5, a6] m = .ok (.nx [a0, a1, a2, a3, some (D.int 1), some (.exc "TooMany" [("most", D.int 1)]), some (.exc "Gone" [("birth", D.int 1), ("word", .str "frame")])]) m := by kernel_rfl
  have h2 : evS (X k) (.asg (.tup [(.v 5), (.v 6)]) (.tup [(.call "TooMany" [] ["most"] [(.v 4)]), (.call "Gone" [] ["birth", "word"] [(.v 4), (.k (.str "frame"))])])) [a0, a1, a2, a3, some (D.int 7), a5, a6] m = .ok (.nx [a0, a1, a2, a3, some (D.int 7), some (.exc "TooMany" [("most", D.int 7)]), some (.exc "Gone" [("birth", D.int 7), ("word", .str "frame")])]) m := by kernel_rfl
  have h3 : evS (X k) (.asg (.tup [(.v 5), (.v 6)]) (.tup [(.call "TooMany" [] ["most"] [(.v 4)]), (.call "Gone" [] ["birth", "word"] [(.v 4), (.k (.str "frame"))])])) [a0, a1, a2, a3, some (D.int 400), a5, a6] m = .ok (.nx [a0, a1, a2, a3, some (D.int 400), some (.exc "TooMany" [("most", D.int 400)]), some (.exc "Gone" [("birth", D.int 400), ("word", .str "frame")])]) m := by kernel_rfl
  have h4 : evS (X k) (.asg (.tup [(.v 5), (.v 6)]) (.tup [(.call "TooMany" [] ["most"] [(.v 4)]), (.call "Gone" [] ["birth", "word"] [(.v 4), (.k (.str "frame"))])])) [a0, a1, a2, a3, some (D.int 20000), a5, a6] m = .ok (.nx [a0, a1, a2, a3, some (D.int 20000), some (.exc "TooMany" [("most", D.int 20000)]), some (.exc "Gone" [("birth", D.int 20000), ("word", .str "frame")])]) m := by kernel_rfl
  have h5 : evS (X k) (.asg (.tup [(.v 5), (.v 6)]) (.tup [(.call "TooMany" [] ["most"] [(.v 4)]), (.call "Gone" [] ["birth", "word"] [(.v 4), (.k (.str "frame"))])])) [a0, a1, a2, a3, some (D.non), a5, a6] m = .ok (.nx [a0, a1, a2, a3, some (D.non), some (.exc "TooMany" [("most", D.non)]), some (.exc "Gone" [("birth", D.non), ("word", .str "frame")])]) m := by kernel_rfl
  simp only [List.forall_mem_cons]
  exact ⟨h0, h1, h2, h3, h4, h5, fun _ h => nomatch h⟩
theorem tail_ {a3 : Option D} {n : D} (hm : n ∈ ([.int 0, .int 1, .int 7, .int 400, .int 20000, .non] : List D)) (hn : Self n) : evSs (X k) sTail [a0, a1, a2, a3, some n, a5, a6] m = .ok (.ret (.bl true)) m := by
  refine sss_eq (mk4 n hm) ?_
  refine ifs_or (or_f (ne_self hn (by kernel_rfl) (by kernel_rfl)) (or_f (ne_self self_frame (by kernel_rfl) (by kernel_rfl)) (or_1 (ne_self hn (by kernel_rfl) (by kernel_rfl))) (by simp)) (by simp)) ?_
  kernel_rfl
end
/-! ### begun -/
def absI (c : Int) : Int := if c < 0 then -c else c
def gI (c : Int) : Option Int := if 10 ^ 18 ≤ absI c then some (absI c - 10 ^ 18) else none
section
variable {C : Ev.Ctx} {ρ : List (Option D)} {m : Mem} {c : Int}
theorem turn_eq {x : M Bool} {e : M D} {b : Bool} {y : D} (hi : x m = .ok b m) (he : b = true → e m = .ok y m) : quiet (bind x fun c => if c then bind e fun y => ret (some y) else ret none) m = .ok (if b then some y else none) m := by
  have h3 : bind x (fun c => if c then bind e fun y => ret (some y) else ret none) m = .ok (if b then some y else none) m := by
    have h4 : bind x (fun c => if c then bind e fun y => ret (some y) else ret none) m = (if b then bind e fun y => ret (some y) else ret none) m := by unfold bind; rw [hi]
    rw [h4]
    cases b with
    | false => rfl
    | true =>
      show bind e (fun y => ret (some y)) m = _
      unfold bind
      rw [he rfl]; rfl
  unfold quiet
  rw [h3]
theorem v_eq {i : Nat} {d : D} (h : ρ[i]? = some (some d)) : evE C ρ (.v i) m = .ok d m := by rw [evE]; unfold varM; rw [h]; rfl
theorem abs_eq {i : Nat} (h : ρ[i]? = some (some (.int c))) : evE C ρ (.bi .abs [(.v i)]) m = .ok (.int (absI c)) m := by
  rw [evE]
  unfold bind
  rw [es_cons (v_eq h) es_nil0]
  rfl
theorem p18 : evE C ρ (.bin .pow (.k (.int 10)) (.k (.int 18))) m = .ok (.int (10 ^ 18)) m := by
  refine bin_eq (x := .int 10) (y := .int 18) (by rw [evE]; rfl) (by rw [evE]; rfl) ?_
  show (if decide ((0 : Int) ≤ 18) && decide ((18 : Int) ≤ 1000000) && decide ((10 : Int).natAbs < 2 ^ 64) then ret (D.int ((10 : Int) ^ (18 : Int).toNat)) else bad) m = _
  rw [if_pos (by decide)]; rfl
theorem lc_eq {elt : E} {own : List Nat} {j : Nat} {ifs : List E} {k : Nat} {xs : List Int} {g : Int → Option Int} {Q : D → Mem → Prop} (h0 : evE (X k) ρ (.v 0) m = .ok (.ref 0) m) (hc : m[0]? = some (.ro (xs.map .int))) (hl : xs.length < 1000)
    (ht : ∀ c m, (match asgT (.v j) (D.int c) (wipe ρ own) with
        | some ρ' => quiet (bind (evIfs (X k) ρ' ifs) fun c => if c then bind (evE (X k) ρ' elt) fun y => ret (some y) else ret none)
        | none => bad) m = .ok ((g c).map .int) m) (hq : Q (.ref m.length) (m ++ [Cell.lst ((xs.filterMap g).map .int)])) : Ok (evE (X k) ρ (.lc elt own (.v j) .of [(.v 0)] ifs)) m Q := by
  rw [evE]
  refine Ok.bind (.here (es_cons h0 es_nil0) (Ok.bind (Ok.bind (Ok.bind (Ok.bind (Ok.cell hc (Ok.ret (Ok.ret (Ok.ret ?_)))))))))
  have hn : (It.one (.cell 0)).len m = (xs.map D.int).length := by
    show (match m[0]? with
      | some (.lst xs) => xs.length
      | some (.ro xs) => xs.length
      | _ => 0) = _
    rw [hc]
  refine Ok.bind (Ok.ask rfl ?_)
  show Ok (lcM _ _ ((It.one (.cell 0)).len m)) m Q
  rw [hn]
  refine lc_pure (g := fun d => match d with
    | .int c => (g c).map .int
    | _ => none) (.inr hc) (by rw [List.length_map]; exact hl) (fun d hd m' => ?_) ?_
  · obtain ⟨c, _, rfl⟩ := List.mem_map.mp hd
    exact ht c m'
  · have : (xs.map D.int).filterMap (fun d => match d with
      | .int c => (g c).map D.int
      | _ => none) = (xs.filterMap g).map D.int := by
      rw [List.filterMap_map]
      clear hn ht hq hc hl
      induction xs with
      | nil => rfl
      | cons x xs ih =>
        rw [List.filterMap_cons, List.filterMap_cons]
        simp only [Function.comp_apply]
        cases g x with
        | none => exact ih
        | some y => simp only [Option.map_some, List.map_cons]; rw [← ih]
    rw [this]
    exact hq
end
theorem begun {sc : List Int} {k : Nat} (hl : sc.length < 1000) : Ok (callK L.P 0 (k + 1) "_law_begun" [.ref 0] [] []) [.ro (sc.map .int)] fun d m' => ∃ g cs, d = .ref 2 ∧ g.length ≤ sc.length ∧ m' = St sc g cs 0 0 [] := by
  rw [call_eq (args := [.ref 0]) (qs := []) (ns := []) (as := [.ref 0]) def0 pl0 rfl rfl rfl]
  refine body_ok (sss_ok ?_)
  rw [evS]
  refine Ok.bind (lc_eq (xs := sc) (g := gI) (v_eq rfl) rfl hl (fun c m => ?_) ?_)
  · show quiet (bind (evIfs (X k) [some (.ref 0), none, none, some (.int c)] _) fun c' => if c' then bind (evE (X k) [some (.ref 0), none, none, some (.int c)] _) fun y => ret (some y) else ret none) m = _
    have hc : evE (X k) [some (.ref 0), none, none, some (.int c)] (.cmp .ge (.bi .abs [(.v 3)]) (.bin .pow (.k (.int 10)) (.k (.int 18)))) m = .ok (.bl (decide ((10 : Int) ^ 18 ≤ absI c))) m := cmp_eq (abs_eq rfl) p18 rfl
    have he : evE (X k) [some (.ref 0), none, none, some (.int c)] (.bin .sub (.bi .abs [(.v 3)]) (.bin .pow (.k (.int 10)) (.k (.int 18)))) m = .ok (.int (absI c - 10 ^ 18)) m := bin_eq (abs_eq rfl) p18 rfl
    have hi : evIfs (X k) [some (.ref 0), none, none, some (.int c)] [.cmp .ge (.bi .abs [(.v 3)]) (.bin .pow (.k (.int 10)) (.k (.int 18)))] m = .ok (decide ((10 : Int) ^ 18 ≤ absI c)) m := by
      rw [evIfs, evIfs]
      unfold bind
      rw [hc]
      cases decide ((10 : Int) ^ 18 ≤ absI c) <;> rfl
    refine (turn_eq hi fun _ => he).trans ?_
    unfold gI
    by_cases h : (10 : Int) ^ 18 ≤ absI c
    · rw [decide_eq_true h, if_pos h]; rfl
    · rw [decide_eq_false h, if_neg h]; rfl
  · refine Ok.ret ⟨_, rfl, ret_ok ?_⟩
    rw [evE]
    refine Ok.bind (Ok.alloc ?_)
    rw [evEs]
    refine Ok.bind (Ok.bind (.here (v_eq (d := .ref 1) rfl) ?_))
    rw [evEs]
    refine Ok.bind (Ok.bind (lc_eq (xs := sc) (g := fun c => some (absI c)) (v_eq rfl) rfl hl (fun c m => ?_) ?_))
    · show quiet (bind (evIfs (X k) [some (.ref 0), some (.ref 1), none, some (.int c)] []) fun c' => if c' then bind (evE (X k) [some (.ref 0), some (.ref 1), none, some (.int c)] _) fun y => ret (some y) else ret none) m = _
      have he : evE (X k) [some (.ref 0), some (.ref 1), none, some (.int c)] (.bi .abs [(.v 3)]) m = .ok (.int (absI c)) m := abs_eq rfl
      exact turn_eq (b := true) (by rw [evIfs]; rfl) fun _ => he
    · refine Ok.bind (.here (es_cons (d := .int 0) (by rw [evE]; rfl) (es_cons (d := .int 0) (by rw [evE]; rfl) es_nil0)) (Ok.ret (Ok.ret ?_)))
      refine .here (a := .ref 2) (m1 := St sc (sc.filterMap gI) (sc.filterMap fun c => some (absI c)) 0 0 []) rfl ⟨_, rfl, _, _, rfl, List.length_filterMap_le _ _, rfl⟩
theorem law_run (sc : List Int) (h : sc.length ≤ 63) : ∃ m', runD L.P 0 10 "law" [.ref 0] [.ro (sc.map .int)] = .ok (.bl true) m' := by
  have key : Ok (runD L.P 0 10 "law" [.ref 0]) [.ro (sc.map .int)] fun d _ => d = .bl true := by
    have e0 : runD L.P 0 10 "law" [.ref 0] = bodyM (X 10) ⟨["_law_script"], [], 7, sLaw⟩ [.ref 0] := by
      unfold runD; rw [def4]
    rw [e0]
    refine body_ok ?_
    unfold sLaw
    refine sss_ok ?_
    rw [evS, evE]
    refine Ok.bind (Ok.bind (.here (a := .fn "_law_begun") (m1 := [.ro (sc.map .int)]) (by show calleeM L.P _ _ = _; unfold calleeM; rw [gb]; rfl) ?_))
    refine Ok.bind (.here (es_cons (v_eq (d := .ref 0) rfl) es_nil0) (Ok.bind (.here es_nil0 ?_)))
    refine (begun (by omega)).mono fun d m' ⟨g, cs, e1, hg, e2⟩ => ?_
    subst e1; subst e2
    refine Ok.ret ⟨_, rfl, sss_ok ?_⟩
    -- the first pick
    rw [evS, evE]
    refine Ok.bind (Ok.bind (.here (a := .fn "_law_pick") (m1 := St sc g cs 0 0 []) (by show calleeM L.P _ _ = _; unfold calleeM; rw [gp]; rfl) ?_))
    refine Ok.bind (.here (a := [.ref 2, .ref 4]) (m1 := St sc g cs 0 0 [Cell.lst [.str "no", .str "why", .str "x y", .str ""]]) rfl (Ok.bind (.here es_nil0 ?_)))
    refine (pick (tl := []) (xs := [.str "no", .str "why", .str "x y", .str ""]) (k := 7) (by decide) (by decide) (by omega) (by omega) (by omega)).mono fun d m' ⟨i, g', r', t', tl', hd, hg', ht1, ht2, e2⟩ => ?_
    subst e2
    have hw : ∃ w, d = .str w := by
      match i, hd with
      | 0, hd => cases hd; exact ⟨_, rfl⟩
      | 1, hd => cases hd; exact ⟨_, rfl⟩
      | 2, hd => cases hd; exact ⟨_, rfl⟩
      | 3, hd => cases hd; exact ⟨_, rfl⟩
      | i + 4, hd => simp at hd
    obtain ⟨w, rfl⟩ := hw
    refine Ok.ret ⟨_, rfl, sss_ok ?_⟩
    refine for_disp (xs := [.exc "BadExpression" [], .exc "BadMoment" [], .exc "BadMost" [], .exc "BadPath" [], .exc "BadProgram" [], .exc "Misfit" []]) ?_ (by decide) (by show 3 < 7; decide) ?_ fun e => ⟨_, rfl, sss_ok ?_⟩
    · exact es_cons (err_eq _ _ _ w _ (by kernel_rfl) ⟨some "ReturnError", false, [], by kernel_rfl⟩ rfl) (es_cons (err_eq _ _ _ w _ (by kernel_rfl) ⟨some "ReturnError", false, [], by kernel_rfl⟩ rfl) (es_cons (err_eq _ _ _ w _ (by kernel_rfl) ⟨some "ReturnError", false, [], by kernel_rfl⟩ rfl) (es_cons (err_eq _ _ _ w _ (by kernel_rfl) ⟨some "ReturnError", false, [], by kernel_rfl⟩ rfl) (es_cons (err_eq _ _ _ w _ (by kernel_rfl) ⟨some "ReturnError", false, [], by kernel_rfl⟩ rfl) (es_cons (err_eq _ _ _ w _ (by kernel_rfl) ⟨some "ReturnError", false, [], by kernel_rfl⟩ rfl) es_nil0)))))
    · intro d hd m'
      obtain ⟨c, hc, rfl⟩ := List.mem_map.mp (show d ∈ (["BadExpression", "BadMoment", "BadMost", "BadPath", "BadProgram", "Misfit"] : List Str).map (fun c => D.exc c []) from hd)
      exact t1 c hc
    refine for_disp (xs := [.exc "NoBill" [], .exc "NoName" [], .exc "NotOver" [], .exc "NotTold" [], .exc "Unlike" []]) ?_ (by decide) (by show 3 < 7; decide) ?_ fun e => ⟨_, rfl, ?_⟩
    · exact es_cons (err_eq _ _ _ w _ (by kernel_rfl) ⟨some "ReturnError", false, [], by kernel_rfl⟩ rfl) (es_cons (err_eq _ _ _ w _ (by kernel_rfl) ⟨some "ReturnError", false, [], by kernel_rfl⟩ rfl) (es_cons (err_eq _ _ _ w _ (by kernel_rfl) ⟨some "ReturnError", false, [], by kernel_rfl⟩ rfl) (es_cons (err_eq _ _ _ w _ (by kernel_rfl) ⟨some "ReturnError", false, [], by kernel_rfl⟩ rfl) (es_cons (err_eq _ _ _ w _ (by kernel_rfl) ⟨some "ReturnError", false, [], by kernel_rfl⟩ rfl) es_nil0))))
    · intro d hd m'
      obtain ⟨c, hc, rfl⟩ := List.mem_map.mp (show d ∈ (["NoBill", "NoName", "NotOver", "NotTold", "Unlike"] : List Str).map (fun c => D.exc c []) from hd)
      exact t2 c hc
    -- the second pick
    have gen : ∀ (T : List Cell) (e : Option D), Ok (evSs (X 10) (.asg (.v 4) (.call "_law_pick" [(.v 1), (.lst [(.k (.int 0)), (.k (.int 1)), (.k (.int 7)), (.k (.int 400)), (.k (.int 20000)), (.k .non)])] [] []) ::
      .for_ (.v 3) .of [(.lst [cAt "BadDeeds", cAt "BadJournal", cAt "BadRow", cAt "BadText"])] sIf3 :: sTail) [some (.ref 0), some (.ref 2), some (.str w), e, none, none, none]) (St sc g' cs r' t' T) fun f m' => ∃ v, f = .ret v ∧ v = .bl true := by
      intro T e
      refine sss_ok ?_
      rw [evS, evE]
      refine Ok.bind (Ok.bind (.here (a := .fn "_law_pick") (m1 := St sc g' cs r' t' T) (by show calleeM L.P _ _ = _; unfold calleeM; rw [gp]; rfl) ?_))
      refine Ok.bind (.here (a := [.ref 2, .ref (T.length + 4)]) (m1 := St sc g' cs r' t' (T ++ [Cell.lst [.int 0, .int 1, .int 7, .int 400, .int 20000, .non]])) rfl (Ok.bind (.here es_nil0 ?_)))
      refine (pick (tl := T) (xs := [.int 0, .int 1, .int 7, .int 400, .int 20000, .non]) (k := 7) (by decide) (by decide) (by omega) (by omega) (by omega)).mono fun n m' ⟨i, g2, r2, t2', tl2, hd, _, _, _, e2⟩ => ?_
      subst e2
      have hm : n ∈ ([.int 0, .int 1, .int 7, .int 400, .int 20000, .non] : List D) := List.mem_of_getElem? hd
      have hs : Self n := by
        simp only [List.mem_cons, List.not_mem_nil, or_false] at hm
        rcases hm with rfl | rfl | rfl | rfl | rfl | rfl <;> first | exact self_int _ | exact self_non
      refine Ok.ret ⟨_, rfl, sss_ok ?_⟩
      refine for_disp (xs := [.exc "BadDeeds" [("at", n)], .exc "BadJournal" [("at", n)], .exc "BadRow" [("at", n)], .exc "BadText" [("at", n)]]) (mk3 n hm) (by show 4 < 1000; decide) (by show 3 < 7; decide) ?_ fun e => ⟨_, rfl, ?_⟩
      · intro d hd m'
        obtain ⟨c, hc, rfl⟩ := List.mem_map.mp (show d ∈ (["BadDeeds", "BadJournal", "BadRow", "BadText"] : List Str).map (fun c => D.exc c [("at", n)]) from hd)
        exact t3 hs c hc
      · exact .here (tail_ hm hs) ⟨_, rfl, rfl⟩
    exact gen _ _
  obtain ⟨d, m', e, rfl⟩ := key
  exact ⟨m', e⟩
end Ev.K7

namespace K78
open PySem Ev L2
theorem plain (ns : List Int) (h : ns.length ≤ 63) : ∃ m', runD L.P 0 10 "law" [.ref 0] [.ro (ns.map .int)] = .ok (.bl true) m' := Ev.K7.law_run ns h
theorem m1 : ∀ q ∈ L.fns, q.2.1 ∈ fn := fun q h => List.mem_append_left _ (List.mem_map.mpr ⟨q, h, rfl⟩)
theorem m2 : ∀ q ∈ L.ini, q.2.1 ∈ fn := fun q h => List.mem_append_right _ (List.mem_map.mpr ⟨q, h, rfl⟩)
theorem lookL : L.fns.lookup ("law" : PySem.Str) = some (dTop 24, [(1, [], [.inl 0])]) := by kernel_rfl
theorem facts {w : World} {K : Frag} {h : Heap} {mg : PySem.Str → Option Value} {f : Addr} (X : K.In h) (G : h.Ns mainGlobals mg) (hfa : mg ("law" : PySem.Str) = some (.ref f)) (c : SaysC L.chk fn K) :
    ∃ fd : FuncData, (∀ (s : Shared) (v : Value), BindsTo s fd ⟨[v], []⟩ [("_law_script", v)]) ∧ ∀ base : Heap, K.In base → base.Ns mainGlobals mg → FnOk PySem.Challenge.pw_returnsdue_k78_errors_made w K mg base (CXw PySem.Challenge.pw_returnsdue_k78_errors_made) 13 f fd ["_law_script"] (spD K mg (runD L.P 0 10 "law") 1) := by
  have wf : ∀ base, WF PySem.Challenge.pw_returnsdue_k78_errors_made w K mg base L.P L.own (L.adr K) := fun base => wf_of X G c fnB iniB m1 m2 disj binds (by decide)
  obtain ⟨fdD, F⟩ := c.def_ (m1 _ (PySem.mem_of_lookup lookL))
  have e : f = He.ga K "law" := by
    have k1 := c.chk_
    have z := (He.glo_ok X G (x := "law") (by
      unfold LawD.chk at k1
      simp only [Bool.and_eq_true, List.all_eq_true] at k1
      exact k1.1.1.1.1.1 _ (PySem.mem_of_lookup lookL)))
    rw [hfa] at z; cases z; rfl
  subst e
  have hy : L.adr K "law" = some (He.ga K "law") := by unfold LawD.adr; rw [lookL]; rfl
  have b : ∀ (s : Shared) (v : Value), BindsTo s fdD ⟨[v], []⟩ [("_law_script", v)] := fun s v => by
    have F : FunD K (dTop 24).name (dTop 24).qual (dTop 24).params (dTop 24).body (dTop 24).scope [] [] (He.ga K "law") fdD := F
    exact FunD.bindsA (ps := ["_law_script"]) F (fun _ _ _ _ _ _ us hl => match us, hl with | [_], _ => rfl) s [v] rfl
  have key : ∀ base, FnOk PySem.Challenge.pw_returnsdue_k78_errors_made w K mg base (CXw PySem.Challenge.pw_returnsdue_k78_errors_made) 13 (He.ga K "law") fdD ["_law_script"] (spD K mg (runD L.P 0 10 "law") 1) := fun base => by
    obtain ⟨fd, d, hd, ⟨oc, od, osl, lk⟩, Fk, _⟩ := funs (wf base) 0 10 "law" _ hy
    have ed : d = ourDef L.own (dTop 24) := by
      have : L.P.defs "law" = some (ourDef L.own (dTop 24)) := congrArg (Option.map fun (q : He.DefD × List (Nat × List PySem.Str × List (Nat ⊕ Nat))) => ourDef L.own q.1) lookL
      rw [this] at hd; cases hd; rfl
    have ep : d.ps = (["_law_script"] : List PySem.Str) := by rw [ed]; kernel_rfl
    have efd : fd = fdD := by
      have F : FunD K (dTop 24).name (dTop 24).qual (dTop 24).params (dTop 24).body (dTop 24).scope [] [] (He.ga K "law") fdD := F
      obtain ⟨oc', od', _, _, _, _, _, _, _, osl', _, lk', _⟩ := F.ex
      rw [lk] at lk'; cases lk'; rfl
    subst efd
    rw [ep] at Fk
    exact cxw Fk
  exact ⟨fdD, b, fun base _ _ => key base⟩
end K78
open PySem PySem.W PySem.Calls PyProof.Rows
theorem PySem.Challenge.cw_returnsdue_k78_errors_made_holds : PySem.Challenge.rw_returnsdue_k78_errors_made.Holds := by
  w_on; o_law
  refine HandSHeadRun.head_any (r := K78.R) (q := view K78.R.prog [K78.lawIx]) (H := K78.hk) (ob := K78.ob) (M := 20000) (loose := K78.names) (d := HandSHeadRun.topDef K78.R.prog K78.lawIx) (kwd := []) K78.ob_eq
    (by kernel_rfl) (fun s => by kernel_rfl) K78.run (by kernel_rfl) (by kernel_rfl) (by kernel_rfl) (by rfl) (by first | assumption | decide +kernel) (by decide +kernel) ⟨rfl, rfl, rfl, rfl, rfl, by decide +kernel⟩ ?hw ?hc
  case hw => w_witness2
  case hc =>
    refine L2.walk_ofE (l := PySem.Challenge.rw_returnsdue_k78_errors_made) (n := 63) (k := 13) (x := "_law_script") (CX := Ev.CXw PySem.Challenge.pw_returnsdue_k78_errors_made) rfl (by decide) (by kernel_rfl) ⟨rfl, by decide, by decide⟩ ?F Ev.cxw_no
    intro w mg fa h Y G hmg0
    obtain ⟨K, KX, c⟩ := Y
    have hmg : mg ("law" : PySem.Str) = some (.ref fa) := by
      have e : (HandSHeadRun.topDef K78.R.prog K78.lawIx).name = ("law" : PySem.Str) := by kernel_rfl
      rw [← e]
      exact hmg0
    obtain ⟨fd, hb, hF⟩ := K78.facts (w := w) KX G hmg c
    exact ⟨K, fd, _, KX, hb, fun H a ns hl hO hS => Ev.law_sp hO hS (K78.plain ns hl), hF⟩
