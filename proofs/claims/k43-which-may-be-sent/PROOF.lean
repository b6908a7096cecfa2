import PyProof.Rows.All
import Wide.All
import OpenK.AllK
import Wide.FinOn
import HandS.ForMost
import HandS.StrMore
import HandS.ReplaceLit
import KE.SortData
import PyProof.ReprReads
import HandS.Walk
import HandS.CallSlots
import HandS.TupAny
import HandS.Strs
import HandS.Dict
import HandS.Deep
import HandS.Iter
import HandS.Text
import HandS.Conv
import PyProof.ListStr
import HandS.WordsExc
import HandS.ExcOwn
import HandS.Flow
import HandS.Style
import HandS.IsInst
import HandS.RaiseMore
import HandS.More
import KE.DataCmp
import KE.DataMinMax
import PyProof.ReprRoads
import HandS.Rev
import HandS.Zip
import HandS.HeadWalk
import HandS.HeadHook1
import HandS.HeadHook2
import HandS.Head0
import HandS.Head1
import HandS.Head2
import HandS.HeadEnd
import PySem.Challenge.RW_wagoncalls_k43_which_may_be_sent
set_option Elab.async false
set_option linter.all false
set_option maxRecDepth 100000
set_option maxHeartbeats 0
/-! Iv0: a small interpreter of the fragment, over data trees, slots and a store of boxes -/
namespace Iv
open PySem
/-- data -/
inductive D where
  | non | bl (b : Bool) | int (i : Int) | str (x : Str)
  | tup (xs : List D) | lst (xs : List D) | dct (t : Bool) (kvs : List (D × D))
  | ref (a : Nat) | exc (c : Nat) (vs : List D)
  deriving Inhabited
mutual
def D.eqB : D → D → Bool
  | .non, .non => true
  | .bl a, .bl b => a == b
  | .int a, .int b => decide (a = b)
  | .str a, .str b => decide (a = b)
  | .tup a, .tup b => D.eqBs a b
  | .lst a, .lst b => D.eqBs a b
  | .dct t a, .dct u b => t == u && D.eqBk a b
  | .ref a, .ref b => a == b
  | .exc a x, .exc b y => a == b && D.eqBs x y
  | _, _ => false
def D.eqBs : List D → List D → Bool
  | [], [] => true
  | x :: xs, y :: ys => D.eqB x y && D.eqBs xs ys
  | _, _ => false
def D.eqBk : List (D × D) → List (D × D) → Bool
  | [], [] => true
  | (a, b) :: xs, (c, d) :: ys => D.eqB a c && D.eqB b d && D.eqBk xs ys
  | _, _ => false
end
section
variable (g : Nat → Option PyData)
mutual
/-- as the library's data, the boxes by g: no exceptions -/
def D.py : D → Option PyData
  | .non => some .none
  | .bl b => some (.bool b)
  | .int i => some (.int i)
  | .str x => some (.str x)
  | .tup xs => (D.pys xs).map .tuple
  | .lst xs => (D.pys xs).map .list
  | .dct _ kvs => (D.pyk kvs).map .dict
  | .ref a => g a
  | .exc _ _ => none
def D.pys : List D → Option (List PyData)
  | [] => some []
  | x :: xs => match D.py x, D.pys xs with
    | some y, some ys => some (y :: ys)
    | _, _ => none
def D.pyk : List (D × D) → Option (List (PyData × PyData))
  | [] => some []
  | (a, b) :: xs => match D.py a, D.py b, D.pyk xs with
    | some p, some q, some ys => some ((p, q) :: ys)
    | _, _, _ => none
end
end
/-- a box's content -/
inductive Cell where
  | lst (xs : List D) | dct (t : Bool) (kvs : List (D × D)) | ins (c : Nat) (fs : List (Str × D))
  deriving Inhabited
/-- a slot: nothing, a value, a list or dict of the slot's own -/
inductive Slot where
  | no | v (d : D) | ol (xs : List D) | od (t : Bool) (kvs : List (D × D))
  deriving Inhabited
/-- what an expression gives: a value, or a new list or dict that nobody holds -/
inductive R where
  | v (d : D) | ol (xs : List D) | od (t : Bool) (kvs : List (D × D))
  deriving Inhabited
def R.d : R → D
  | .v d => d
  | .ol xs => .lst xs
  | .od t kvs => .dct t kvs
def R.slot : R → Slot
  | .v d => .v d
  | .ol xs => .ol xs
  | .od t kvs => .od t kvs
abbrev Env := List Slot
abbrev Sto := List Cell
inductive Res (α : Type) where
  | ok (a : α) (ρ : Env) (S : Sto)
  | exc (c : Nat) (vs : List D) (ρ : Env) (S : Sto)
  | err
  deriving Inhabited
def Res.bind {α β : Type} (m : Res α) (f : α → Env → Sto → Res β) : Res β := match m with
  | .ok a ρ S => f a ρ S
  | .exc c vs ρ S => .exc c vs ρ S
  | .err => .err
/-- an answer that may be missing -/
def Res.of {α : Type} (o : Option α) (ρ : Env) (S : Sto) : Res α := match o with
  | some a => .ok a ρ S
  | none => .err
/-- the built-in functions and methods of built-in types that change nothing -/
inductive Prim where
  | len | abs | min2 | max2 | min1 | max1 | minD | maxD | sum | all | any | sorted | sortedSet | lenSet
  | tuple | list | dict | dict0 | int | str | repr | boolc | rangeL
  | isi (ts : List String) | isx (cs : List Nat)
  | split | join | partition | index | sortedItems | get1 | get2 | find | rfind | replace | startswith | upper | countL | itemsL | keysL | revL
  deriving Inhabited
/-- targets -/
inductive Tg where
  | nm (i : Nat) | tp (ts : List Tg)
  deriving Inhabited
/-- what a loop walks -/
inductive Ik where
  | seq | range1 | range2 | enum | zip | rev | items | values
  deriving Inhabited, DecidableEq
inductive E where
  | bad
  | non | bl (b : Bool) | int (i : Int) | str (x : Str)
  | var (i : Nat) | glob (g : Nat)
  | tup (es : List E) | lst (es : List E) | dct (kvs : List E) | dt0
  | bin (op : Operator) (a b : E) | neg (a : E) | inv (a : E) | not (a : E)
  | andE (es : List E) | orE (es : List E)
  | cmp (op : CmpOp) (a b : E) | cmp2 (op op' : CmpOp) (a b c : E)
  | ite (c a b : E)
  | call (f : Nat) (es : List E) | meth (o : E) (m : Nat) (es : List E) | make (c : Nat) (es : List E)
  | prim (p : Prim) (es : List E) | mth (p : Prim) (o : E) (es : List E) | sortK (f : Nat) (e : E)
  | ix (a i : E) | sl (a : E) (lo hi : List E) | slS (a st : E)
  | attr (a : E) (f : Str)
  | lc (elt : E) (tg : Tg) (k : Ik) (its : List E) (cond : List E) (own : List Nat)
  | box (e : E)
  | pop (o : E) (es : List E) | setdef (o k e : E) | mkx (c : Nat) (es : List E)
  deriving Inhabited
inductive Mut where
  | append | extend | insert | remove | clear | reverse | popL | update | setix | clearD
  deriving Inhabited, DecidableEq
inductive Sm where
  | bad | pass
  | asg (tg : Tg) (e : E)
  | asgM (i j : Nat) | retM (i : Nat)        -- x = y, return y: y's own list or dict moved
  | asgA (o : E) (f : Str) (e : E)          -- o.f = e
  | asgTA (tgs : List (Option Nat × E × Str)) (e : E)     -- a, self.f = e (a name where some, else o.f)
  | setX (o i e : E)                        -- o[i] = e
  | setO (i : Nat) (k e : E)                -- x[k] = e, x a local list of its own
  | setK (i : Nat) (k e : E)                -- x[k] = e, x a local dict of its own
  | setXK (o k e : E)                       -- o[k] = e, o a box of a dict
  | expr (e : E)
  | mutX (o : E) (m : Mut) (es : List E)    -- a box changed by a method
  | mutO (i : Nat) (m : Mut) (es : List E)  -- a list of the slot's own changed
  | ite (c : E) (t f : List Sm)
  | for_ (tg : Tg) (k : Ik) (its : List E) (body : List Sm) (kill : List Nat)
  | while_ (c : E) (body : List Sm) (kill : List Nat)
  | ret (e : E) | retN
  | raise (c : Nat) (es : List E)
  | try_ (body : List Sm) (cs : List Nat) (as_ : Option Nat) (suite : List Sm)
  deriving Inhabited
end Iv
/-! Iv1: the interpreter -/
namespace Iv
open PySem
/-! ### the program's tables -/
structure FD where
  np : Nat
  ns : Nat
  body : List Sm
  deriving Inhabited
structure CD where
  init : Option Nat
  ms : List (Nat × Nat)
  deriving Inhabited
structure XD where
  fields : List Str
  ups : List Nat
  deriving Inhabited
structure Pg where
  fns : List FD
  cls : List CD
  exs : List XD
  glo : List D
  deriving Inhabited
/-! ### reading values -/
def cellAt (S : Sto) (a : Nat) : Option Cell := S[a]?
def lstD (S : Sto) : D → Option (List D)
  | .lst xs => some xs
  | .ref a => match cellAt S a with
    | some (.lst xs) => some xs
    | _ => none
  | _ => none
def seqD (S : Sto) : D → Option (List D)
  | .tup xs => some xs
  | d => lstD S d
def dctD (S : Sto) : D → Option (Bool × List (D × D))
  | .dct t kvs => some (t, kvs)
  | .ref a => match cellAt S a with
    | some (.dct t kvs) => some (t, kvs)
    | _ => none
  | _ => none
/-- a box as data, n boxes deep -/
def boxPy (S : Sto) : Nat → Nat → Option PyData
  | 0, _ => none
  | n + 1, a => match cellAt S a with
    | some (.lst xs) => (D.pys (boxPy S n) xs).map .list
    | some (.dct _ kvs) => (D.pyk (boxPy S n) kvs).map .dict
    | _ => none
def pyD (S : Sto) (d : D) : Option PyData := D.py (boxPy S 3) d
def pysD (S : Sto) (ds : List D) : Option (List PyData) := D.pys (boxPy S 3) ds
def truthD (S : Sto) : D → Option Bool
  | .non => some false
  | .bl b => some b
  | .int i => some (i != 0)
  | .str x => if x.length ≤ sizeLine then some (x.length != 0) else none
  | .tup xs => some (!xs.isEmpty)
  | .lst xs => some (!xs.isEmpty)
  | .dct _ _ => none
  | .ref a => match cellAt S a with
    | some (.lst xs) => some (!xs.isEmpty)
    | some (.dct false kvs) => some (!kvs.isEmpty)
    | _ => none
  | .exc _ _ => none
/-! ### dicts -/
def flatK : D → Bool
  | .int _ => true
  | .str _ => true
  | _ => false
def keyOk : Bool → D → Bool
  | true, .tup xs => xs.all flatK
  | false, d => flatK d
  | _, _ => false
def hashOk : D → Bool
  | .tup xs => xs.all flatK
  | d => flatK d
def getK (kvs : List (D × D)) (k : D) : Option D := (kvs.find? fun kv => D.eqB kv.1 k).map (·.2)
def hasK (kvs : List (D × D)) (k : D) : Bool := kvs.any fun kv => D.eqB kv.1 k
def putK (kvs : List (D × D)) (k v : D) : List (D × D) := if hasK kvs k then kvs.map (fun kv => if D.eqB kv.1 k then (kv.1, v) else kv) else kvs ++ [(k, v)]
def dropK (kvs : List (D × D)) (k : D) : List (D × D) := kvs.filter fun kv => !D.eqB kv.1 k
/-! ### operators -/
def mulOk (i j : Int) : Bool := decide (-(2 ^ 64) < i ∧ i < 2 ^ 64) || decide (-(2 ^ 64) < j ∧ j < 2 ^ 64)
def powOk (i j : Int) : Bool := decide (0 ≤ j ∧ j ≤ 1000000 ∧ i.natAbs < 2 ^ 64)
def repS (x : Str) (n : Nat) : Str := ⟨(List.replicate n x.cps.toList).flatten.toArray⟩
def binD (S : Sto) (op : Operator) (x y : D) : Option R := match op, x, y with
  | .Add, .int i, .int j => some (.v (.int (i + j)))
  | .Add, .str a, .str b => if a.length + b.length ≤ sizeLine then some (.v (.str (a ++ b))) else none
  | .Add, .tup a, .tup b => if a.length + b.length ≤ sizeLine then some (.v (.tup (a ++ b))) else none
  | .Add, a, b => match lstD S a, lstD S b with
    | some xs, some ys => if xs.length + ys.length ≤ sizeLine then some (.ol (xs ++ ys)) else none
    | _, _ => none
  | .Sub, .int i, .int j => some (.v (.int (i - j)))
  | .Mult, .int i, .int j => if mulOk i j then some (.v (.int (i * j))) else none
  | .Mult, .str a, .int n => if a.length * n.toNat ≤ sizeLine ∧ n < 2 ^ 62 ∧ -(2 ^ 62) ≤ n then some (.v (.str (repS a n.toNat))) else none
  | .FloorDiv, .int i, .int j => if j ≠ 0 ∧ j.natAbs < 1073741824 then some (.v (.int (i.fdiv j))) else none
  | .Mod, .int i, .int j => if j ≠ 0 then some (.v (.int (i.fmod j))) else none
  | .Pow, .int i, .int j => if powOk i j then some (.v (.int (i ^ j.toNat))) else none
  | .LShift, .int i, .int j => if powOk i j then some (.v (.int (i * 2 ^ j.toNat))) else none
  | .RShift, .int i, .int j => if 0 ≤ j then some (.v (.int (i / 2 ^ j.toNat))) else none
  | .BitAnd, .int i, .int j => some (.v (.int (Builtin.bitAnd i j)))
  | .BitOr, .int i, .int j => some (.v (.int (Builtin.bitOr i j)))
  | _, _, _ => none
/-- == of data; none where the model's rule does not reach -/
def eqD0 (S : Sto) (x y : D) : Option Bool := match pyD S x, pyD S y with
  | some a, some b => if SeqAt.shaped a = true ∧ SeqAt.shaped b = true then some (PyData.eqv a b) else none
  | _, _ => none
def scalD : D → D → Bool
  | .non, .non => true | .non, .int _ => true | .int _, .non => true | .non, .bl _ => true | .bl _, .non => true | .non, .str _ => true | .str _, .non => true
  | .int _, .int _ => true | .bl _, .bl _ => true | .str _, .str _ => true
  | .int _, .str _ => true | .str _, .int _ => true | .bl _, .str _ => true | .str _, .bl _ => true
  | _, _ => false
/-- equal scalars of one kind -/
def sameD : D → D → Bool
  | .non, .non => true
  | .int i, .int j => decide (i = j)
  | .bl i, .bl j => i == j
  | .str a, .str b => decide (a = b)
  | _, _ => false
def eqD (S : Sto) (x y : D) : Option Bool := if scalD x y then some (sameD x y) else eqD0 S x y
def flatD : D → Bool
  | .non => true | .bl _ => true | .int _ => true | .str _ => true
  | _ => false
/-- == of flat things -/
def eqF : D → D → Bool
  | .non, .non => true
  | .bl a, .bl b => a == b
  | .bl a, .int j => (if a then 1 else 0) == j
  | .int i, .bl b => i == (if b then 1 else 0)
  | .int i, .int j => i == j
  | .str x, .str y => x == y
  | _, _ => false
def inD (S : Sto) (x y : D) : Option Bool := match y with
  | .str z => match x with
    | .str c => match c.cps.toList with
      | [k] => some (decide (k ∈ z.cps.toList))
      | _ => none
    | _ => none
  | y => match seqD S y with
    | some ys => if flatD x = true ∧ ys.all flatD = true then some (ys.any fun z => eqF z x) else match pyD S x, pysD S ys with
      | some a, some bs => if SeqAt.shaped a = true ∧ SeqAt.shaped (.list bs) = true then some (bs.any fun b => PyData.eqv b a) else none
      | _, _ => none
    | none => (dctD S y).bind fun p => if p.1 = false ∧ flatK x = true then some (hasK p.2 x) else none
def isNone : PyData → Bool
  | .none => true
  | _ => false
/-- < of alike data -/
def ltD (S : Sto) (x y : D) : Option Bool := match pyD S x, pyD S y with
  | some a, some b => if W.alike a b = true ∧ W.alike b a = true ∧ isNone a = false ∧ isNone b = false ∧ a.hasDict = false ∧ b.hasDict = false ∧ a.depth ≤ 64 ∧ b.depth ≤ 64 then some (W.dataLt a b) else none
  | _, _ => none
def cmpD (S : Sto) (op : CmpOp) (x y : D) : Option Bool := match op with
  | .Eq => eqD S x y
  | .NotEq => (eqD S x y).map (!·)
  | .Lt => ltD S x y
  | .Gt => ltD S y x
  | .LtE => (ltD S y x).map (!·)
  | .GtE => (ltD S x y).map (!·)
  | .Is => match y with
    | .non => some (match x with | .non => true | _ => false)
    | .bl b => some (match x with | .bl c => b == c | _ => false)
    | _ => none
  | .IsNot => match y with
    | .non => some (match x with | .non => false | _ => true)
    | .bl b => some (match x with | .bl c => !(b == c) | _ => true)
    | _ => none
  | .In => inD S x y
  | .NotIn => (inD S x y).map (!·)
/-! ### subscripts -/
def one (c : Nat) : Str := ⟨#[c]⟩
def ixK (S : Sto) (x i : D) : Option D := (dctD S x).bind fun p => if p.1 = false ∧ flatK i = true then getK p.2 i else none
def ixQ (S : Sto) (x i : D) : Option D := match i with
  | .int k => match x with
    | .str z => if z.length ≤ sizeLine then (L2.atI z.cps.toList k).map fun c => .str (one c) else none
    | x => (seqD S x).bind fun xs => L2.atI xs k
  | _ => none
def ixD (S : Sto) (x i : D) : Option D := match ixQ S x i with
  | some d => some d
  | none => ixK S x i
def optI : List D → Option (Option Int)
  | [] => some none
  | [.int i] => some (some i)
  | _ => none
def cutD (xs : List D) (lo hi : Option Int) : List D := (xs.drop (HT.sIx xs.length 0 lo)).take (HT.sIx xs.length xs.length hi - HT.sIx xs.length 0 lo)
def slD (S : Sto) (x : D) (lo hi : Option Int) : Option R := match x with
  | .str z => if z.length ≤ sizeLine then some (.v (.str (L2.cutS z lo hi))) else none
  | .tup xs => some (.v (.tup (cutD xs lo hi)))
  | x => (lstD S x).map fun xs => .ol (cutD xs lo hi)
/-- x[::s], s 1 or -1 -/
def revS (x : Str) : Str := ⟨x.cps.toList.reverse.toArray⟩
def slSD (S : Sto) (x : D) (st : Int) : Option R := if st = 1 then (lstD S x).map fun xs => .ol xs else if st = -1 then (lstD S x).map fun xs => .ol xs.reverse else none
/-! ### built-ins -/
def intsOf : List D → Option (List Int)
  | [] => some []
  | .int i :: r => (intsOf r).map (i :: ·)
  | _ => none
def boolsOf : List D → Option (List Bool)
  | [] => some []
  | .bl i :: r => (boolsOf r).map (i :: ·)
  | _ => none
def strsOf : List D → Option (List Str)
  | [] => some []
  | .str i :: r => (strsOf r).map (i :: ·)
  | _ => none
/-- data that may be sorted together -/
def sortable (ps : List PyData) : Bool := ps.all (fun a => ps.all fun b => W.alike a b) && (ps.all (fun a => match a with | .tuple (_ :: _) => true | _ => false) || ps.all (fun a => match a with | .none => false | .tuple _ => false | _ => true)) && ps.all (fun a => decide (a.depth ≤ 64))
/-- pairs sorted by their keys -/
def sortBy (kxs : List (PyData × D)) : List D := (kxs.mergeSort (W.dataLe false (fun p : PyData × D => p.1))).map (·.2)
def sortD (S : Sto) (xs : List D) : Option (List D) := match pysD S xs with
  | some ps => if sortable ps = true ∧ xs.length ≤ sizeLine ∧ PyData.hasDictAll ps = false then some (sortBy (ps.zip xs)) else none
  | none => none
/-- the first of the least -/
def leastD (lt : D → D → Option Bool) : List D → Option D
  | [] => none
  | x :: r => r.foldl (fun m y => match m with
    | some m => match lt y m with
      | some true => some y
      | some false => some m
      | none => none
    | none => none) (some x)
/-- the name of the type -/
def tyD (S : Sto) : D → Option String
  | .non => some "NoneType"
  | .bl _ => some "bool"
  | .int _ => some "int"
  | .str _ => some "str"
  | .tup _ => some "tuple"
  | .lst _ => some "list"
  | .dct _ _ => some "dict"
  | .ref a => match cellAt S a with
    | some (.lst _) => some "list"
    | some (.dct _ _) => some "dict"
    | _ => none
  | .exc _ _ => none
def subTy (t T : String) : Bool := t == T || (t == "bool" && T == "int")
def firstIx (xs : List PyData) (a : PyData) : Option Nat := xs.findIdx? fun b => PyData.eqv b a
def keysNodup (xs : List D) : List D := xs.foldl (fun acc x => if acc.any (D.eqB x) then acc else acc ++ [x]) []
def pairsOf : List D → Option (List (D × D))
  | [] => some []
  | .tup [k, v] :: r => if flatK k then (pairsOf r).map ((k, v) :: ·) else none
  | _ => none
def strOk (d : PyData) : Bool := d.showable && decide (d.depth ≤ 64) && decide (d.shown.length ≤ sizeLine)
def p_len (S : Sto) : List D → Option R
  | [.str z] => if z.length ≤ sizeLine then some (.v (.int z.length)) else none
  | [d] => match seqD S d with
    | some ys => some (.v (.int ys.length))
    | none => (dctD S d).bind fun p => if p.1 then none else some (.v (.int p.2.length))
  | _ => none
def p_abs (S : Sto) : List D → Option R
  | [.int i] => some (.v (.int (if i < 0 then -i else i)))
  | _ => none
def p_min2 (S : Sto) : List D → Option R
  | [.int i, .int j] => some (.v (.int (if j < i then j else i)))
  | _ => none
def p_max2 (S : Sto) : List D → Option R
  | [.int i, .int j] => some (.v (.int (if j > i then j else i)))
  | _ => none
/-- the least of data: all others are greater, or the same -/
def minV (S : Sto) (ys : List D) : Option D := match pysD S ys with
  | some ps => if (ps.all fun a => ps.all fun b => W.alike a b) = true ∧ (ps.all fun a => !isNone a) = true ∧ PyData.hasDictAll ps = false ∧ PyData.depthAll ps ≤ 64 then
      (match (ps.zip ys).find? fun p => (ps.zip ys).all fun q => (D.eqB q.2 p.2 || W.dataLt p.1 q.1) && !W.dataLt q.1 p.1 with
        | some p => some p.2
        | none => none) else none
  | none => none
def p_min1 (S : Sto) : List D → Option R
  | [d] => (lstD S d).bind fun ys => match intsOf ys with
    | some ns => ns.min?.map fun n => .v (.int n)
    | none => (minV S ys).map .v
  | _ => none
def p_max1 (S : Sto) : List D → Option R
  | [d] => (seqD S d).bind fun ys => (leastD (fun y m => ltD S m y) ys).map .v
  | _ => none
def p_minD (S : Sto) : List D → Option R
  | [d, x] => (seqD S d).bind fun ys => if ys.isEmpty then some (.v x) else (leastD (ltD S) ys).map .v
  | _ => none
def p_maxD (S : Sto) : List D → Option R
  | [d, x] => (seqD S d).bind fun ys => if ys.isEmpty then some (.v x) else (leastD (fun y m => ltD S m y) ys).map .v
  | _ => none
def p_sum (S : Sto) : List D → Option R
  | [d] => (lstD S d).bind fun ys => (intsOf ys).map fun ns => .v (.int ns.sum)
  | _ => none
def p_all (S : Sto) : List D → Option R
  | [d] => (lstD S d).bind fun ys => (boolsOf ys).map fun bs => .v (.bl (bs.all id))
  | _ => none
def p_any (S : Sto) : List D → Option R
  | [d] => (lstD S d).bind fun ys => (boolsOf ys).map fun bs => .v (.bl (bs.any id))
  | _ => none
def p_sorted (S : Sto) : List D → Option R
  | [d] => (lstD S d).bind fun ys => (sortD S ys).map .ol
  | _ => none
def p_sortedSet (S : Sto) : List D → Option R
  | [d] => (seqD S d).bind fun ys => if ys.all hashOk then (sortD S (keysNodup ys)).map .ol else none
  | _ => none
def p_lenSet (S : Sto) : List D → Option R
  | [d] => (seqD S d).bind fun ys => if ys.all hashOk then some (.v (.int (keysNodup ys).length)) else none
  | _ => none
def p_tuple (S : Sto) : List D → Option R
  | [d] => (seqD S d).map fun ys => .v (.tup ys)
  | _ => none
def p_list (S : Sto) : List D → Option R
  | [d] => match seqD S d with
    | some ys => some (.ol ys)
    | none => match d with
      | .str z => if z.length ≤ sizeLine then some (.ol (z.cps.toList.map fun c => .str (one c))) else none
      | d => (dctD S d).bind fun p => if p.1 then none else some (.ol (p.2.map (·.1)))
  | _ => none
def p_dict (S : Sto) : List D → Option R
  | [d] => match dctD S d with
    | some (false, kvs) => some (.od false kvs)
    | some (true, _) => none
    | none => (lstD S d).bind fun ys => (pairsOf ys).map fun ps => .od false (ps.foldl (fun acc kv => putK acc kv.1 kv.2) [])
  | _ => none
def p_dict0 (S : Sto) : List D → Option R
  | [] => some (.od false [])
  | _ => none
def p_int (S : Sto) : List D → Option R
  | [.int i] => some (.v (.int i))
  | [.bl b] => some (.v (.int (if b then 1 else 0)))
  | [.str z] => match intText? z with
    | some n => if z.length ≤ 640 then some (.v (.int n)) else none
    | none => none
  | _ => none
def p_str (S : Sto) : List D → Option R
  | [.int i] => if i.natAbs.log2 < 1920 then some (.v (.str (toString i))) else none
  | [.str z] => some (.v (.str z))
  | _ => none
def flatPy : D → Option PyData
  | .non => some .none
  | .bl b => some (.bool b)
  | .int i => some (.int i)
  | .str x => some (.str x)
  | _ => none
def kDPy : D → PyData
  | .int i => .int i
  | .str x => .str x
  | _ => .none
def reprP (p : PyData) : Option R := if strOk p then some (.v (.str p.shown)) else none
def p_repr (S : Sto) : List D → Option R
  | [d] => match dctD S d with
    | some (false, kds) => ((kds.map (·.2)).mapM flatPy).bind fun ps => reprP (.dict ((kds.map fun kv => kDPy kv.1).zip ps))
    | some (true, _) => none
    | none => (pyD S d).bind fun a => if a.hasDict then none else reprP a
  | _ => none
def p_boolc (S : Sto) : List D → Option R
  | [d] => (truthD S d).map fun b => .v (.bl b)
  | _ => none
def p_rangeL (S : Sto) : List D → Option R
  | [.int i] => if -(2 ^ 62) ≤ i ∧ i ≤ 16777216 then some (.ol ((List.range i.toNat).map fun (k : Nat) => .int (k : Int))) else none
  | _ => none
def p_isi (S : Sto) (ts : List String) : List D → Option R
  | [d] => (tyD S d).map fun t => .v (.bl (ts.any (subTy t)))
  | _ => none
def p_isx (S : Sto) (cs : List Nat) : List D → Option R
  | [d] => some (.v (.bl (match d with | .exc c _ => cs.contains c | _ => false)))
  | _ => none
def p_split (S : Sto) : List D → Option R
  | [.str a, .str b] => if b.length ≠ 0 ∧ a.length + 2 ≤ sizeLine then some (.ol ((Txt.split a b).map .str)) else none
  | _ => none
def p_join (S : Sto) : List D → Option R
  | [.str a, d] => (seqD S d).bind fun ys => (strsOf ys).bind fun zs => if (zs.map fun z => z.length).sum + zs.length * a.length ≤ 16777216 then some (.v (.str (Txt.join a zs))) else none
  | _ => none
def p_partition (S : Sto) : List D → Option R
  | [.str a, .str b] => if b.length ≠ 0 ∧ a.length ≤ sizeLine then (match Txt.partition a b with | (x, y, z) => some (.v (.tup [.str x, .str y, .str z]))) else none
  | _ => none
def p_index (S : Sto) : List D → Option R
  | [.tup ys, .str z] => (strsOf ys).bind fun zs => (zs.findIdx? fun y => decide (y = z)).map fun (n : Nat) => .v (.int (n : Int))
  | [d, x] => (lstD S d).bind fun ys => match pysD S ys, pyD S x with
    | some bs, some a => if SeqAt.shaped (.list bs) = true ∧ SeqAt.shaped a = true then (firstIx bs a).map fun (n : Nat) => .v (.int (n : Int)) else none
    | _, _ => none
  | _ => none
def p_sortedItems (S : Sto) : List D → Option R
  | [d] => (dctD S d).bind fun p => (sortD S (p.2.map fun kv => .tup [kv.1, kv.2])).map .ol
  | _ => none
def p_get1 (S : Sto) : List D → Option R
  | [d, k] => (dctD S d).bind fun p => if p.1 = false ∧ flatK k = true then some (.v ((getK p.2 k).getD .non)) else none
  | _ => none
def p_get2 (S : Sto) : List D → Option R
  | [d, k, x] => (dctD S d).bind fun p => if p.1 = false ∧ flatK k = true then some (.v ((getK p.2 k).getD x)) else none
  | _ => none
def p_find (S : Sto) : List D → Option R
  | [.str a, .str b] => some (.v (.int (Txt.find a b)))
  | _ => none
def p_rfind (S : Sto) : List D → Option R
  | [.str a, .str b] => some (.v (.int (Txt.rfind a b)))
  | _ => none
def p_replace (S : Sto) : List D → Option R
  | [.str x, .str y, .str z] => if x.length + (x.length + 1) * z.length ≤ 16777216 then some (.v (.str (Txt.replace x y z))) else none
  | _ => none
def p_startswith (S : Sto) : List D → Option R
  | [.str a, .str b] => some (.v (.bl (Txt.startswith a b)))
  | _ => none
def p_upper (S : Sto) : List D → Option R
  | [.str a] => if a.length ≤ 5592405 then some (.v (.str (Txt.upper a))) else none
  | _ => none
def p_countL (S : Sto) : List D → Option R
  | [d, x] => (lstD S d).bind fun ys => match pysD S ys, pyD S x with
    | some bs, some a => if SeqAt.shaped (.list bs) = true ∧ SeqAt.shaped a = true then some (.v (.int (bs.filter fun b => PyData.eqv b a).length)) else none
    | _, _ => none
  | _ => none
def p_itemsL (S : Sto) : List D → Option R
  | [d] => (dctD S d).map fun p => .ol (p.2.map fun kv => .tup [kv.1, kv.2])
  | _ => none
def p_keysL (S : Sto) : List D → Option R
  | [d] => (dctD S d).map fun p => .ol (p.2.map (·.1))
  | _ => none
def p_revL (S : Sto) : List D → Option R
  | [d] => (lstD S d).map fun xs => .ol xs.reverse
  | _ => none
def primD (S : Sto) : Prim → List D → Option R
  | .len => p_len S
  | .abs => p_abs S
  | .min2 => p_min2 S
  | .max2 => p_max2 S
  | .min1 => p_min1 S
  | .max1 => p_max1 S
  | .minD => p_minD S
  | .maxD => p_maxD S
  | .sum => p_sum S
  | .all => p_all S
  | .any => p_any S
  | .sorted => p_sorted S
  | .sortedSet => p_sortedSet S
  | .lenSet => p_lenSet S
  | .tuple => p_tuple S
  | .list => p_list S
  | .dict => p_dict S
  | .dict0 => p_dict0 S
  | .int => p_int S
  | .str => p_str S
  | .repr => p_repr S
  | .boolc => p_boolc S
  | .rangeL => p_rangeL S
  | .isi ts => p_isi S ts
  | .isx cs => p_isx S cs
  | .split => p_split S
  | .join => p_join S
  | .partition => p_partition S
  | .index => p_index S
  | .sortedItems => p_sortedItems S
  | .get1 => p_get1 S
  | .get2 => p_get2 S
  | .find => p_find S
  | .rfind => p_rfind S
  | .replace => p_replace S
  | .startswith => p_startswith S
  | .upper => p_upper S
  | .countL => p_countL S
  | .itemsL => p_itemsL S
  | .keysL => p_keysL S
  | .revL => p_revL S
/-! ### what loops walk -/
def rangeI (lo : Int) (n : Nat) : List D := (List.range n).map fun (k : Nat) => .int (lo + k)
def enumI (k : Nat) : List D → List D
  | [] => []
  | x :: r => .tup [.int k, x] :: enumI (k + 1) r
def zipI : List D → List D → List D
  | x :: r, y :: q => .tup [x, y] :: zipI r q
  | _, _ => []
def tupD : D → Option (List D)
  | .tup xs => some xs
  | _ => none
def walkD (S : Sto) : D → Option (List D)
  | .str z => some (z.cps.toList.map fun c => .str (one c))
  | d => seqD S d
def itemsD (S : Sto) (k : Ik) (ds : List D) : Option (List D) := match k, ds with
  | .seq, [d] => walkD S d
  | .range1, [.int j] => if -(2 ^ 62) ≤ j ∧ j < 2 ^ 62 then some (rangeI 0 j.toNat) else none
  | .range2, [.int i, .int j] => if -(2 ^ 62) ≤ i ∧ i < 2 ^ 62 ∧ -(2 ^ 62) ≤ j ∧ j < 2 ^ 62 then some (rangeI i (j - i).toNat) else none
  | .enum, [d] => (seqD S d).map (enumI 0)
  | .zip, [d, e] => match tupD d, tupD e with
    | some xs, some ys => some (zipI xs ys)
    | _, _ => match lstD S d, lstD S e with
      | some xs, some ys => some (zipI xs ys)
      | _, _ => none
  | .rev, [d] => (lstD S d).map List.reverse
  | .items, [d] => (dctD S d).map fun p => p.2.map fun kv => .tup [kv.1, kv.2]
  | .values, [d] => (dctD S d).map fun p => p.2.map (·.2)
  | _, _ => none
/-! ### stores to names -/
mutual
def bindT : Tg → D → Env → Option Env
  | .nm i, d, ρ => if i < ρ.length then some (ρ.set i (.v d)) else none
  | .tp ts, .tup ds, ρ => bindTs ts ds ρ
  | .tp _, _, _ => none
def bindTs : List Tg → List D → Env → Option Env
  | [], [], ρ => some ρ
  | t :: ts, d :: ds, ρ => (bindT t d ρ).bind fun ρ' => bindTs ts ds ρ'
  | _, _, _ => none
end
def kill : List Nat → Env → Env
  | [], ρ => ρ
  | k :: ks, ρ => (kill ks ρ).set k .no
/-- the slots of a comprehension's own names as they were -/
def back : List Nat → Env → Env → Env
  | [], _, ρ' => ρ'
  | k :: ks, ρ, ρ' => (back ks ρ ρ').set k (ρ.getD k .no)
/-- no slot of these holds a list or dict of its own -/
def Slot.own : Slot → Bool
  | .ol _ => true
  | .od _ _ => true
  | _ => false
def noOwn (ks : List Nat) (ρ : Env) : Bool := ks.all fun k => !(ρ.getD k .no).own
mutual
def tgIx : Tg → List Nat
  | .nm i => [i]
  | .tp ts => tgIxs ts
def tgIxs : List Tg → List Nat
  | [] => []
  | t :: ts => tgIx t ++ tgIxs ts
end
/-! ### the run -/
inductive ResF where
  | ok (r : R) (S : Sto) | exc (c : Nat) (vs : List D) (S : Sto) | err
  deriving Inhabited
def ResF.res (ρ : Env) : ResF → Res R
  | .ok r S => .ok r ρ S
  | .exc c vs S => .exc c vs ρ S
  | .err => .err
inductive Fl where
  | next | ret (r : R)
  deriving Inhabited
/-- a box's content put otherwise -/
def setCell (S : Sto) (a : Nat) (c : Cell) : Sto := S.set a c
def putF (f : Str) (v : D) : List (Str × D) → List (Str × D)
  | [] => [(f, v)]
  | (g, w) :: r => if g = f then (g, v) :: r else (g, w) :: putF f v r
def compLoop (tg : Tg) (own : List Nat) (ft : Env → Sto → Res Bool) (fe : Env → Sto → Res D) (st : Sto → Bool) : List D → List D → Env → Sto → Res (List D)
  | [], acc, ρ, S => .ok acc ρ S
  | x :: xs, acc, ρ, S => match bindT tg x (kill own ρ) with
    | none => .err
    | some ρ1 => match ft ρ1 S with
      | .ok false ρ2 S2 => if st S2 = true then compLoop tg own ft fe st xs acc ρ2 S2 else .err
      | .ok true ρ2 S2 => match fe ρ2 S2 with
        | .ok y ρ3 S3 => if acc.length < sizeLine ∧ st S3 = true then compLoop tg own ft fe st xs (acc ++ [y]) ρ3 S3 else .err
        | .exc _ _ _ _ => .err
        | .err => .err
      | .exc _ _ _ _ => .err
      | .err => .err
section
variable (P : Pg) (cf cm : Nat → List D → Sto → ResF)
def peekSlot : Slot → Option D
  | .no => none
  | .v d => some d
  | .ol xs => some (.lst xs)
  | .od t kvs => some (.dct t kvs)
/-- an instance's class and fields -/
def insAt (S : Sto) : D → Option (Nat × Nat × List (Str × D))
  | .ref a => match cellAt S a with
    | some (.ins c fs) => some (a, c, fs)
    | _ => none
  | _ => none
def attrD (S : Sto) (d : D) (f : Str) : Option D := match d with
  | .exc c vs => ((P.exs[c]?).bind fun x => x.fields.findIdx? (fun g => decide (g = f))).bind fun k => vs[k]?
  | d => (insAt S d).bind fun p => p.2.2.lookup f
/-- the types whose method it is -/
def mown : Prim → List String
  | .split => ["str"] | .join => ["str"] | .partition => ["str"] | .find => ["str"] | .rfind => ["str"] | .replace => ["str"] | .startswith => ["str"] | .upper => ["str"]
  | .index => ["list", "tuple"] | .countL => ["list"] | .get1 => ["dict"] | .get2 => ["dict"]
  | _ => []
def ownOk (S : Sto) (p : Prim) (x : D) : Bool := match tyD S x with
  | some t => (mown p).contains t
  | none => false
/-- a box of a list -/
def isBoxL (S : Sto) (x : D) : Bool := match x with
  | .ref a => (match cellAt S a with
    | some (.lst _) => true
    | _ => false)
  | _ => false
def popA (a : Nat) (xs : List D) (i : Int) (ρ : Env) (S : Sto) : Res R := if -(2 ^ 62) ≤ i ∧ i < 2 ^ 62 then (match L2.ixN xs.length i with
  | some k => (match xs[k]? with
    | some y => .ok (.v y) ρ (setCell S a (.lst (xs.eraseIdx k)))
    | none => .err)
  | none => .err) else .err
def popR (x : D) (ks : List D) (ρ : Env) (S : Sto) : Res R := match x with
  | .ref a => (match cellAt S a with
    | some (.lst xs) => (match ks with
      | [.int i] => popA a xs i ρ S
      | _ => .err)
    | _ => .err)
  | _ => .err
/-- the boxes of a list that walks must not change -/
def stays (S : Sto) (ds : List D) (S' : Sto) : Bool := ds.all fun d => match d with
  | .ref a => (match cellAt S a, cellAt S' a with
    | some (.lst xs), some (.lst ys) => D.eqBs xs ys
    | some (.dct t xs), some (.dct u ys) => t == u && D.eqBk xs ys
    | _, _ => false)
  | _ => true
/-- an operand: what it reads as; a list of a slot's own stays so -/
def pk (e : E) (f : Env → Sto → Res R) (ρ : Env) (S : Sto) : Res D := match e with
  | .var i => .of ((ρ[i]?).bind peekSlot) ρ S
  | _ => (f ρ S).bind fun r ρ S => .ok r.d ρ S
def twos : List D → Option (List (D × D))
  | [] => some []
  | k :: v :: r => (twos r).map ((k, v) :: ·)
  | _ => none
def Cell.eqB : Cell → Cell → Bool
  | .lst a, .lst b => D.eqBs a b
  | .dct t a, .dct u b => t == u && D.eqBk a b
  | .ins c fs, .ins d gs => c == d && (fs.map (·.1)) == (gs.map (·.1)) && D.eqBs (fs.map (·.2)) (gs.map (·.2))
  | _, _ => false
def stoEq : Sto → Sto → Bool
  | [], [] => true
  | a :: r, b :: q => Cell.eqB a b && stoEq r q
  | _, _ => false
/-- the keys of a sort: the def changes no box -/
def keysOf (f : Nat) : List D → Sto → Option (List PyData)
  | [], _ => some []
  | x :: xs, S => match cf f [x] S with
    | .ok r S' => if stoEq S S' then (match pyD S r.d, keysOf f xs S with
      | some k, some ks => some (k :: ks)
      | _, _ => none) else none
    | _ => none
mutual
def evE : E → Env → Sto → Res R
  | .bad, _, _ => .err
  | .non, ρ, S => .ok (.v .non) ρ S
  | .bl b, ρ, S => .ok (.v (.bl b)) ρ S
  | .int i, ρ, S => .ok (.v (.int i)) ρ S
  | .str x, ρ, S => .ok (.v (.str x)) ρ S
  | .var i, ρ, S => match ρ[i]? with
    | some (.v d) => .ok (.v d) ρ S
    | some (.ol xs) => .ok (.v (.lst xs)) (ρ.set i (.v (.lst xs))) S
    | some (.od t kvs) => .ok (.v (.dct t kvs)) (ρ.set i (.v (.dct t kvs))) S
    | _ => .err
  | .glob g, ρ, S => .of ((P.glo[g]?).map .v) ρ S
  | .tup es, ρ, S => (evEs es ρ S).bind fun ds ρ S => if ds.length ≤ sizeLine then .ok (.v (.tup ds)) ρ S else .err
  | .lst es, ρ, S => (evEs es ρ S).bind fun ds ρ S => if ds.length ≤ sizeLine then .ok (.ol ds) ρ S else .err
  | .dct es, ρ, S => (evEs es ρ S).bind fun ds ρ S => match twos ds with
    | some kvs => if kvs.length ≤ 15 ∧ kvs.all (fun kv => flatK kv.1) = true then .ok (.od false (kvs.foldl (fun acc kv => putK acc kv.1 kv.2) [])) ρ S else .err
    | none => .err
  | .dt0, ρ, S => .ok (.od true []) ρ S
  | .bin op a b, ρ, S => (pk a (evE a) ρ S).bind fun x ρ S => (pk b (evE b) ρ S).bind fun y ρ S => .of (binD S op x y) ρ S
  | .neg a, ρ, S => (pk a (evE a) ρ S).bind fun x ρ S => match x with
    | .int i => .ok (.v (.int (-i))) ρ S
    | _ => .err
  | .inv a, ρ, S => (pk a (evE a) ρ S).bind fun x ρ S => match x with
    | .int i => .ok (.v (.int (Builtin.bitNot i))) ρ S
    | _ => .err
  | .not a, ρ, S => (pk a (evE a) ρ S).bind fun x ρ S => (Res.of (truthD S x) ρ S).bind fun b ρ S => .ok (.v (.bl (!b))) ρ S
  | .andE es, ρ, S => evAnd es ρ S
  | .orE es, ρ, S => evOr es ρ S
  | .cmp op a b, ρ, S => (pk a (evE a) ρ S).bind fun x ρ S => (pk b (evE b) ρ S).bind fun y ρ S => .of ((cmpD S op x y).map fun b => .v (.bl b)) ρ S
  | .cmp2 op op' a b c, ρ, S => (pk a (evE a) ρ S).bind fun x ρ S => (pk b (evE b) ρ S).bind fun y ρ S => (Res.of (cmpD S op x y) ρ S).bind fun r ρ S => match r with
    | false => .ok (.v (.bl false)) ρ S
    | true => (pk c (evE c) ρ S).bind fun z ρ S => .of ((cmpD S op' y z).map fun b => .v (.bl b)) ρ S
  | .ite c a b, ρ, S => (pk c (evE c) ρ S).bind fun x ρ S => (Res.of (truthD S x) ρ S).bind fun r ρ S => match r with
    | true => evE a ρ S
    | false => evE b ρ S
  | .call f es, ρ, S => (evEs es ρ S).bind fun ds ρ S => (cf f ds S).res ρ
  | .meth o m es, ρ, S => (pk o (evE o) ρ S).bind fun x ρ S => match insAt S x with
    | some (_, c, fs) => (evEs es ρ S).bind fun ds ρ S => match (P.cls[c]?).bind fun k => k.ms.lookup m with
      | some f => (cf f (x :: ds) S).res ρ
      | none => .err
    | none => .err
  | .make c es, ρ, S => (evEs es ρ S).bind fun ds ρ S => match (P.cls[c]?).bind fun k => k.init with
    | some f => match cm f (.ref S.length :: ds) (S ++ [.ins c []]) with
      | .ok (.v .non) S' => .ok (.v (.ref S.length)) ρ S'
      | .ok _ _ => .err
      | .exc c vs S' => .exc c vs ρ S'
      | .err => .err
    | none => .err
  | .mkx c es, ρ, S => (evEs es ρ S).bind fun ds ρ S => .ok (.v (.exc c ds)) ρ S
  | .prim p es, ρ, S => (evPs es ρ S).bind fun ds ρ S => .of (primD S p ds) ρ S
  | .mth p o es, ρ, S => (pk o (evE o) ρ S).bind fun x ρ S => if ownOk S p x = true then (evPs es ρ S).bind fun ds ρ S => .of (primD S p (x :: ds)) ρ S else .err
  | .sortK f e, ρ, S => (pk e (evE e) ρ S).bind fun x ρ S => match seqD S x with
    | none => .err
    | some xs => match keysOf cf f xs S with
      | none => .err
      | some ks => if sortable ks = true ∧ xs.length ≤ sizeLine then .ok (.ol (sortBy (ks.zip xs))) ρ S else .err
  | .ix a i, ρ, S => (pk a (evE a) ρ S).bind fun x ρ S => (pk i (evE i) ρ S).bind fun k ρ S => .of ((ixD S x k).map .v) ρ S
  | .sl a lo hi, ρ, S => (pk a (evE a) ρ S).bind fun x ρ S => ((evPs lo ρ S).bind fun l ρ S => .of (optI l) ρ S).bind fun l ρ S => ((evPs hi ρ S).bind fun h ρ S => .of (optI h) ρ S).bind fun h ρ S => .of (slD S x l h) ρ S
  | .slS a st, ρ, S => (pk a (evE a) ρ S).bind fun x ρ S => (pk st (evE st) ρ S).bind fun k ρ S => match k with
    | .int i => .of (slSD S x i) ρ S
    | _ => .err
  | .attr a f, ρ, S => (pk a (evE a) ρ S).bind fun x ρ S => .of ((attrD P S x f).map .v) ρ S
  | .lc elt tg k its cond own, ρ, S => (evEs its ρ S).bind fun ds ρ S => match itemsD S k ds with
    | none => .err
    | some xs => if noOwn own ρ = true ∧ (tgIx tg).all own.contains = true ∧ stays S ds S = true then (match compLoop tg own (evC cond) (fun ρ S => (evE elt ρ S).bind fun r ρ S => .ok r.d ρ S) (stays S ds) xs [] ρ S with
      | .ok acc ρ' S' => .ok (.ol acc) (back own ρ ρ') S'
      | _ => .err) else .err
  | .box e, ρ, S => (evE e ρ S).bind fun r ρ S => match r with
    | .ol xs => .ok (.v (.ref S.length)) ρ (S ++ [.lst xs])
    | .od t kvs => .ok (.v (.ref S.length)) ρ (S ++ [.dct t kvs])
    | .v (.ref a) => .ok (.v (.ref a)) ρ S
    | .v _ => .err
  | .pop o es, ρ, S => (pk o (evE o) ρ S).bind fun x ρ S => if isBoxL S x = true then ((evPs es ρ S).bind fun ks ρ S => popR x ks ρ S) else .err
  | .setdef o k e, ρ, S => (pk o (evE o) ρ S).bind fun x ρ S => (pk k (evE k) ρ S).bind fun k ρ S => (evE e ρ S).bind fun r ρ S => match x with
    | .ref a => match cellAt S a with
      | some (.dct t kvs) => if keyOk t k then (match getK kvs k with
        | some y => .ok (.v y) ρ S
        | none => if kvs.length < sizeLine then .ok (.v r.d) ρ (setCell S a (.dct t (kvs ++ [(k, r.d)]))) else .err) else .err
      | _ => .err
    | _ => .err
def evPs : List E → Env → Sto → Res (List D)
  | [], ρ, S => .ok [] ρ S
  | e :: es, ρ, S => (pk e (evE e) ρ S).bind fun d ρ S => (evPs es ρ S).bind fun ds ρ S => .ok (d :: ds) ρ S
/-- values -/
def evEs : List E → Env → Sto → Res (List D)
  | [], ρ, S => .ok [] ρ S
  | e :: es, ρ, S => (evE e ρ S).bind fun r ρ S => (evEs es ρ S).bind fun ds ρ S => .ok (r.d :: ds) ρ S
def evC : List E → Env → Sto → Res Bool
  | [], ρ, S => .ok true ρ S
  | e :: _, ρ, S => (pk e (evE e) ρ S).bind fun x ρ S => .of (truthD S x) ρ S
def evAnd : List E → Env → Sto → Res R
  | [], _, _ => .err
  | [e], ρ, S => evE e ρ S
  | e :: es, ρ, S => (evE e ρ S).bind fun r ρ S => (Res.of (truthD S r.d) ρ S).bind fun b ρ S => match b with
    | true => evAnd es ρ S
    | false => .ok r ρ S
def evOr : List E → Env → Sto → Res R
  | [], _, _ => .err
  | [e], ρ, S => evE e ρ S
  | e :: es, ρ, S => (evE e ρ S).bind fun r ρ S => (Res.of (truthD S r.d) ρ S).bind fun b ρ S => match b with
    | true => .ok r ρ S
    | false => evOr es ρ S
end
end
end Iv
/-! Iv2: statements, defs -/
namespace Iv
open PySem
def forLoop (tg : Tg) (fb : Env → Sto → Res Fl) (ks : List Nat) (st : Sto → Bool) : List D → Env → Sto → Res Fl
  | [], ρ, S => .ok .next ρ S
  | x :: xs, ρ, S => match bindT tg x ρ with
    | none => .err
    | some ρ1 => match fb ρ1 S with
      | .ok .next ρ2 S2 => if st S2 then forLoop tg fb ks st xs (kill ks ρ2) S2 else .err
      | .ok (.ret r) ρ2 S2 => .ok (.ret r) ρ2 S2
      | .exc c vs ρ2 S2 => .exc c vs ρ2 S2
      | .err => .err
def whileLoop (ft : Env → Sto → Res Bool) (fb : Env → Sto → Res Fl) (ks : List Nat) : Nat → Env → Sto → Res Fl
  | 0, _, _ => .err
  | n + 1, ρ, S => match ft ρ S with
    | .ok false ρ1 S1 => .ok .next ρ1 S1
    | .ok true ρ1 S1 => match fb ρ1 S1 with
      | .ok .next ρ2 S2 => whileLoop ft fb ks n (kill ks ρ2) S2
      | .ok (.ret r) ρ2 S2 => .ok (.ret r) ρ2 S2
      | .exc c vs ρ2 S2 => .exc c vs ρ2 S2
      | .err => .err
    | .exc c vs ρ1 S1 => .exc c vs ρ1 S1
    | .err => .err
/-- a while's turns at most -/
def turns : Nat := 1000000
/-- a list changed by a method -/
def mutL (S : Sto) (m : Mut) (xs : List D) (ds : List D) : Option (List D) := match m, ds with
  | .append, [d] => if xs.length < sizeLine then some (xs ++ [d]) else none
  | .extend, [d] => (lstD S d).bind fun ys => if xs.length + ys.length ≤ sizeLine then some (xs ++ ys) else none
  | .insert, [.int i, d] => if xs.length < sizeLine ∧ 0 ≤ i ∧ i < 2 ^ 62 then some (xs.take i.toNat ++ d :: xs.drop i.toNat) else none
  | .remove, [d] => match pysD S xs, pyD S d with
    | some bs, some a => if SeqAt.shaped (.list bs) = true ∧ SeqAt.shaped a = true then (firstIx bs a).map fun k => xs.eraseIdx k else none
    | _, _ => none
  | .clear, [] => some []
  | .reverse, [] => some xs.reverse
  | .popL, [] => if xs = [] then none else some xs.dropLast
  | .popL, [.int i] => (L2.ixN xs.length i).map fun k => xs.eraseIdx k
  | _, _ => none
def mutK (S : Sto) (m : Mut) (t : Bool) (kvs : List (D × D)) (ds : List D) : Option (List (D × D)) := match m, ds with
  | .update, [d] => (dctD S d).bind fun p => if p.1 = false ∧ t = false then some (p.2.foldl (fun acc kv => putK acc kv.1 kv.2) kvs) else none
  | .clearD, [] => some []
  | .popL, [k] => if flatK k ∧ t = false ∧ hasK kvs k = true then some (dropK kvs k) else none
  | _, _ => none
/-- methods of dicts -/
def dictM : Mut → Bool
  | .update => true
  | .clearD => true
  | _ => false
def isBoxK (S : Sto) (x : D) : Bool := match x with
  | .ref a => (match cellAt S a with
    | some (.dct false _) => true
    | _ => false)
  | _ => false
def mutBL (m : Mut) (x : D) (ds : List D) (ρ : Env) (S : Sto) : Res Fl := match x with
  | .ref a => (match cellAt S a with
    | some (.lst xs) => (match mutL S m xs ds with
      | some ys => .ok .next ρ (setCell S a (.lst ys))
      | none => .err)
    | _ => .err)
  | _ => .err
def mutBK (m : Mut) (x : D) (ds : List D) (ρ : Env) (S : Sto) : Res Fl := match x with
  | .ref a => (match cellAt S a with
    | some (.dct false kvs) => (match mutK S m false kvs ds with
      | some ys => .ok .next ρ (setCell S a (.dct false ys))
      | none => .err)
    | _ => .err)
  | _ => .err
/-- the slot has a list of its own -/
def ownAt (ρ : Env) (i : Nat) : Bool := match ρ[i]? with
  | some (.ol _) => true
  | _ => false
/-- .. a dict of its own -/
def ownAtK (ρ : Env) (i : Nat) : Bool := match ρ[i]? with
  | some (.od _ _) => true
  | _ => false
def peeks : Mut → Bool
  | .append => false
  | .insert => false
  | _ => true
section
variable (P : Pg) (cf cm : Nat → List D → Sto → ResF)
/-- the store with o[i] = v -/
def setIx (S : Sto) (o i v : D) : Option Sto := match o with
  | .ref a => match cellAt S a with
    | some (.lst xs) => match i with
      | .int k => (L2.ixN xs.length k).map fun j => setCell S a (.lst (xs.set j v))
      | _ => none
    | _ => none
  | _ => none
def setFld (S : Sto) (o : D) (f : Str) (v : D) : Option Sto := match insAt S o with
  | some (a, c, fs) => if fs.length < 900 then some (setCell S a (.ins c (putF f v fs))) else none
  | none => none
def evTA : List (Option Nat × E × Str) → List D → Env → Sto → Res Unit
  | [], [], ρ, S => .ok () ρ S
  | (some i, _, _) :: ts, d :: ds, ρ, S => if i < ρ.length then evTA ts ds (ρ.set i (.v d)) S else .err
  | (none, o, f) :: ts, d :: ds, ρ, S => (pk o (evE P cf cm o) ρ S).bind fun x ρ S => match setFld S x f d with
    | some S' => evTA ts ds ρ S'
    | none => .err
  | _, _, _, _ => .err
mutual
def evS : Sm → Env → Sto → Res Fl
  | .bad, _, _ => .err
  | .pass, ρ, S => .ok .next ρ S
  | .asg (.nm i) e, ρ, S => (evE P cf cm e ρ S).bind fun r ρ S => if i < ρ.length then .ok .next (ρ.set i r.slot) S else .err
  | .asg (.tp ts) e, ρ, S => (evE P cf cm e ρ S).bind fun r ρ S => match bindT (.tp ts) r.d ρ with
    | some ρ' => .ok .next ρ' S
    | none => .err
  | .asgA o f e, ρ, S => (evE P cf cm e ρ S).bind fun r ρ S => (pk o (evE P cf cm o) ρ S).bind fun x ρ S => match setFld S x f r.d with
    | some S' => .ok .next ρ S'
    | none => .err
  | .asgTA ts e, ρ, S => (evE P cf cm e ρ S).bind fun r ρ S => match r.d with
    | .tup ds => (evTA P cf cm ts ds ρ S).bind fun _ ρ S => .ok .next ρ S
    | _ => .err
  | .setX o i e, ρ, S => (evE P cf cm e ρ S).bind fun r ρ S => (pk o (evE P cf cm o) ρ S).bind fun x ρ S => (pk i (evE P cf cm i) ρ S).bind fun k ρ S => match setIx S x k r.d with
    | some S' => .ok .next ρ S'
    | none => .err
  | .setO i k e, ρ, S => (evE P cf cm e ρ S).bind fun r ρ S => if ownAt ρ i = true then ((pk k (evE P cf cm k) ρ S).bind fun k ρ S => match ρ[i]? with
    | some (.ol xs) => match k with
      | .int k => match L2.ixN xs.length k with
        | some j => .ok .next (ρ.set i (.ol (xs.set j r.d))) S
        | none => .err
      | _ => .err
    | _ => .err) else .err
  | .setK i k e, ρ, S => (evE P cf cm e ρ S).bind fun r ρ S => if ownAtK ρ i = true then ((pk k (evE P cf cm k) ρ S).bind fun k ρ S => match ρ[i]? with
    | some (.od false kvs) => if flatK k = true ∧ kvs.length < sizeLine then .ok .next (ρ.set i (.od false (putK kvs k r.d))) S else .err
    | _ => .err) else .err
  | .setXK o k e, ρ, S => (evE P cf cm e ρ S).bind fun r ρ S => (pk o (evE P cf cm o) ρ S).bind fun x ρ S => (pk k (evE P cf cm k) ρ S).bind fun k ρ S => match x with
    | .ref a => match cellAt S a with
      | some (.dct false kvs) => if flatK k = true ∧ kvs.length < sizeLine then .ok .next ρ (setCell S a (.dct false (putK kvs k r.d))) else .err
      | _ => .err
    | _ => .err
  | .expr e, ρ, S => (pk e (evE P cf cm e) ρ S).bind fun _ ρ S => .ok .next ρ S
  | .mutX o m es, ρ, S => (pk o (evE P cf cm o) ρ S).bind fun x ρ S => if dictM m = true then (if isBoxK S x = true then (((if peeks m then evPs P cf cm es else evEs P cf cm es) ρ S).bind fun ds ρ S => mutBK m x ds ρ S) else .err)
      else if isBoxL S x = true then (((if peeks m then evPs P cf cm es else evEs P cf cm es) ρ S).bind fun ds ρ S => mutBL m x ds ρ S) else .err
  | .mutO i m es, ρ, S => if ownAt ρ i = true then ((if peeks m then evPs P cf cm es else evEs P cf cm es) ρ S).bind fun ds ρ S => match ρ[i]? with
    | some (.ol xs) => match mutL S m xs ds with
      | some ys => .ok .next (ρ.set i (.ol ys)) S
      | none => .err
    | _ => .err else .err
  | .ite c t f, ρ, S => (pk c (evE P cf cm c) ρ S).bind fun x ρ S => (Res.of (truthD S x) ρ S).bind fun b ρ S => match b with
    | true => evSs t ρ S
    | false => evSs f ρ S
  | .for_ tg k its body ks, ρ, S => (evEs P cf cm its ρ S).bind fun ds ρ S => match itemsD S k ds with
    | none => .err
    | some xs => forLoop tg (evSs body) ks (stays S ds) xs (kill ks ρ) S
  | .while_ c body ks, ρ, S => whileLoop (fun ρ S => (pk c (evE P cf cm c) ρ S).bind fun x ρ S => .of (truthD S x) ρ S) (evSs body) ks turns (kill ks ρ) S
  | .ret e, ρ, S => (evE P cf cm e ρ S).bind fun r ρ S => .ok (.ret r) ρ S
  | .retN, ρ, S => .ok (.ret (.v .non)) ρ S
  | .retM i, ρ, S => match ρ[i]? with
    | some (.v d) => .ok (.ret (.v d)) ρ S
    | some (.ol xs) => .ok (.ret (.ol xs)) ρ S
    | some (.od t kvs) => .ok (.ret (.od t kvs)) ρ S
    | _ => .err
  | .asgM i j, ρ, S => match ρ[j]? with
    | none => .err
    | some .no => .err
    | some s => if i < ρ.length then .ok .next ((ρ.set j .no).set i s) S else .err
  | .raise c es, ρ, S => (evEs P cf cm es ρ S).bind fun ds ρ S => .exc c ds ρ S
  | .try_ body cs as_ suite, ρ, S => match evSs body ρ S with
    | .exc c vs ρ1 S1 => if cs.contains c then (match as_ with
      | some i => if i < ρ1.length then (evSs suite (ρ1.set i (.v (.exc c vs))) S1).bind fun f ρ S => .ok f (ρ.set i .no) S else .err
      | none => evSs suite ρ1 S1) else .exc c vs ρ1 S1
    | r => r
def evSs : List Sm → Env → Sto → Res Fl
  | [], ρ, S => .ok .next ρ S
  | s :: ss, ρ, S => (evS s ρ S).bind fun f ρ S => match f with
    | .next => evSs ss ρ S
    | .ret r => .ok (.ret r) ρ S
end
end
/-- a def's body run -/
def runF (P : Pg) (cf cm : Nat → List D → Sto → ResF) (f : Nat) (ds : List D) (S : Sto) : ResF := match P.fns[f]? with
  | none => .err
  | some fd => if ds.length = fd.np then (match evSs P cf cm fd.body (ds.map .v ++ List.replicate (fd.ns - fd.np) .no) S with
    | .ok (.ret r) _ S' => .ok r S'
    | .ok .next _ S' => .ok (.v .non) S'
    | .exc c vs _ S' => .exc c vs S'
    | .err => .err) else .err
def callF (P : Pg) : Nat → Nat → List D → Sto → ResF
  | 0 => fun _ _ _ => .err
  | n + 1 => runF P (callF P n) (match n with | 0 => fun _ _ _ => .err | m + 1 => callF P m)
def makeF (P : Pg) : Nat → Nat → List D → Sto → ResF
  | 0 => fun _ _ _ => .err
  | m + 1 => callF P m
theorem callF_succ (P : Pg) (n : Nat) : callF P (n + 1) = runF P (callF P n) (makeF P n) := by
  cases n <;> rfl
end Iv
/-! Su0: new tuples, known to bear no dict; methods of such -/
namespace Iv
open PySem PySem.Spec PyProof.Rows L2
/-- a tuple's object -/
abbrev tob (us : List Value) : Obj := { cls := .type "tuple", data := .seq us.toArray }
/-- a tuple that bears no dict -/
def NT (K : PySem.W.Frag) (H : Hp) (a : Addr) (xs : List V) : Prop := (∃ o : Obj, o.dict = none ∧ H a = some (.frz o (.tup xs))) ∨
  ∃ (o : Obj) (its : Array Value) (n : Nat), K.lookup a = some o ∧ o.cls = .type "tuple" ∧ o.dict = none ∧ o.data = .seq its n ∧ its.size ≤ sizeLine ∧ Vals xs its.toList
theorem NT.sq {K : PySem.W.Frag} {H : Hp} {a : Addr} {xs : List V} (h : NT K H a xs) : SqT K H a xs := by
  rcases h with ⟨o, _, h⟩ | ⟨o, its, n, h1, h2, _, h4, h5, h6⟩
  · exact .inl (.inr ⟨o, h⟩)
  · exact .inr ⟨o, its, n, h1, h2, h4, h5, h6⟩
/-- what a new tuple leaves -/
def NewT (H : Hp) (xs : List V) (Q : VK) : Prop := ∀ (p : Addr) (us : List Value), H p = none → Q (.ref p) (upd H p (.frz (tob us) (.tup xs)))
section
variable {X : Cx} {pins : List (Addr × Obj)} {σ : L2.St} {H : Hp} {s : Shared} {Q : VK}
theorem laidT {xs : List V} {us : List Value} {k : Nat} (I : Inv X pins σ H s) (r : Vals xs us) (hz : xs.length ≤ sizeLine) (q : NewT H xs Q) : EP X pins σ Q (.ref s.heap.objs.size) { s with toks := k, heap := s.heap.push (tob us) } := by
  have f := I.hok.fresh (Nat.le_refl s.heap.objs.size)
  have g : (s.heap.push (tob us)).get? s.heap.objs.size = some (tob us) := Heap.get?_push_size _ rfl
  refine ⟨.ref s.heap.objs.size, _, I.laid (t' := k) (h' := s.heap.push (tob us)) (fun c w hw => Heap.get?_push_of_some _ hw) (Nat.le_refl _) (o := .frz (tob us) (.tup xs)) ?_, rfl, q _ us f⟩
  exact ⟨g, hz, us, r, _, g, rfl, _, rfl⟩
def tTupN (t : TA) : TE := fun σ H Q => t σ H fun xs H1 => xs.length ≤ sizeLine ∧ NewT H1 xs Q
theorem pe_tupN {t : TA} {es : List Expr} {x1} {pos : Pos} (h : PA X es t) : PE X (.Tuple es x1 pos) (tTupN t) := by
  constructor
  intro pins s σ H Q I hq
  refine wpAny_Tuple_spliced (thn (h.run pos pins s σ H _ I hq) fun us s1 hs => ?_)
  obtain ⟨xs, H1, I1, r, z, q⟩ := hs
  exact ⟨by rw [← r.length]; exact z, laidT I1 r z q⟩
/-- tuple(x) -/
def rTupN (K : PySem.W.Frag) : List V → Hp → VK → Prop := fun xs H Q => ∃ p ys, xs = [.ref p] ∧ ((SqL K H p ys ∧ NewT H ys Q) ∨ (SqT K H p ys ∧ Q (.ref p) H))
theorem call_tupN : CallR X (.type "tuple") (rTupN X.K) := by
  intro pins s σ H xs us Q I r h
  obtain ⟨p, ys, rfl, h⟩ := h
  obtain ⟨u, rfl, rx⟩ := vals1 r
  cases rx
  rcases h with ⟨hq, q⟩ | ⟨hq, q⟩
  · obtain ⟨its, r', pl, hz⟩ := I.list hq
    have hl := r'.length
    refine call_tuple_list pl.isList (fun h' kp => ?_) (by rw [List.size_toArray, ← hl]; exact hz)
    have J : Inv X pins σ H { s with heap := h' } := I.kept (t' := s.toks) kp
    exact laidT J r' hz q
  · obtain ⟨its, _, pl, _⟩ := I.tuple hq
    exact call_tuple_same pl ⟨.ref p, H, I, rfl, q⟩
/-- t + u -/
def rCatN (K : PySem.W.Frag) : R2 := fun x y H Q => ∃ a b xs ys, x = .ref a ∧ y = .ref b ∧ SqT K H a xs ∧ SqT K H b ys ∧ xs.length + ys.length ≤ sizeLine ∧
  (xs = [] → Q (.ref b) H) ∧ (xs ≠ [] → ys = [] → Q (.ref a) H) ∧ (xs ≠ [] → ys ≠ [] → NewT H (xs ++ ys) Q)
theorem op_catN : OpR X (binaryOp .Add) (rCatN X.K) := by
  intro pins s σ H x y v u Q I rx ry h
  obtain ⟨a, b, xs, ys, rfl, rfl, ha, hb, hz, q0, q1, q2⟩ := h
  cases xs with
  | nil => exact op_catA pins s σ H _ _ v u Q I rx ry ⟨a, b, [], ys, rfl, rfl, ha, hb, hz, q0, fun z => absurd rfl z, fun z => absurd rfl z⟩
  | cons x0 xr =>
    cases rx
    cases ry
    obtain ⟨its, r1, p1, _⟩ := I.tuple ha
    obtain ⟨its2, r2, p2, _⟩ := I.tuple hb
    have hne : its ≠ [] := fun z => by rw [z] at r1; cases r1
    refine HT.cat_tup p1 p2 hne (fun z => ⟨.ref a, H, I, rfl, q1 (List.cons_ne_nil _ _) (r2.nil_iff.mp z)⟩) (fun z => ?_) (by rw [← r1.length, ← r2.length]; exact hz)
    exact laidT (k := s.toks) I (r1.append r2) (by rw [List.length_append]; exact hz) (q2 (List.cons_ne_nil _ _) fun w => z (r2.nil_iff.mpr w))
/-- t[lo:hi] -/
def rSlN (K : PySem.W.Frag) : V → Option Int → Option Int → Hp → VK → Prop := fun x lo hi H Q => ∃ a xs, x = .ref a ∧ SqT K H a xs ∧
  (HT.sIx xs.length 0 lo = 0 ∧ HT.sIx xs.length xs.length hi = xs.length → Q (.ref a) H) ∧ (¬ (HT.sIx xs.length 0 lo = 0 ∧ HT.sIx xs.length xs.length hi = xs.length) → NewT H (cutV xs lo hi) Q)
theorem sl_tupN : SlR X (rSlN X.K) := by
  intro pins s σ H x v vl vu lo hi sl Q I rx hs pl pu h
  obtain ⟨a, xs, rfl, hx, q1, q2⟩ := h
  by_cases hw : HT.sIx xs.length 0 lo = 0 ∧ HT.sIx xs.length xs.length hi = xs.length
  · exact sl_tupA pins s σ H _ v vl vu lo hi sl Q I rx hs pl pu ⟨a, xs, rfl, hx, q1, fun z => absurd hw z⟩
  · cases rx
    obtain ⟨its, r, ht, hz⟩ := I.tuple hx
    have hn : its.toArray.size = xs.length := r.length.symm
    refine ⟨"tuple", _, PyProof.Rows.slot_tuple_getitem.lookup, ht.typeIs, HT.getItem_tuple_cut ht hs pl pu (by rw [hn]; exact hw) ?_ (by rw [hn]; exact hz)⟩
    rw [hn]
    exact laidT (k := s.toks) I ((r.drop _).take _) (Nat.le_trans (cutV_length xs lo hi) hz) (q2 hw)
theorem rs0 (z : Str) (t : Tok) : RelV (.str z) (.str z t) := ⟨t, rfl⟩
/-- x.partition(sep) -/
def rPartN : V → List V → Hp → VK → Prop := fun x xs H Q => ∃ a b, x = .str a ∧ xs = [.str b] ∧ (b.length == 0) = false ∧ a.length ≤ sizeLine ∧ NewT H [.str (Txt.partition a b).1, .str (Txt.partition a b).2.1, .str (Txt.partition a b).2.2] Q
theorem mt_partN : MtR X "str.partition" rPartN := by
  intro pins s σ H x xs v us Q I rx rs h
  obtain ⟨a, b, rfl, rfl, hb, hz, h⟩ := h
  obtain ⟨t, rfl⟩ := rx
  obtain ⟨w, rfl, rw'⟩ := rs.one
  obtain ⟨u, rfl⟩ := rw'
  refine call_meets F.slot_str_partition (typeIs_str _ _ _) F.entry_str_partition (F.args_str_partition_2 _ _) (meets_str_partition a b t u hb hz) ?_
  have three : (3 : Nat) ≤ sizeLine := by decide
  unfold Txt.partition at h
  revert h
  cases Builtin.Str.occurrences a b 0 a.length 1 with
  | nil => exact fun h => laidT I (.cons (rs0 _ _) (.cons (rs0 _ _) (.cons (rs0 _ _) .nil))) three h
  | cons i r => exact fun h => laidT I (.cons (rs0 _ _) (.cons (rs0 _ _) (.cons (rs0 _ _) .nil))) three h
/-! ### o.m(..) where the type is seen otherwise -/
/-- the value is of type ty and bears no dict -/
def Seen (X : Cx) (ty : String) (x : V) (H : Hp) : Prop := ∀ (pins : List (Addr × Obj)) (σ : L2.St) (s : Shared) (v : Value), Inv X pins σ H s → RelV x v → s.TypeIs v ty ∧ ∀ a, v = .ref a → ∃ ob, s.heap.get? a = some ob ∧ ob.dict = none
theorem seen_tup {a : Addr} {xs : List V} (h : NT X.K H a xs) : Seen X "tuple" (.ref a) H := by
  intro pins σ s v I r
  cases r
  rcases h with ⟨o, hd, h⟩ | ⟨o, its, n, h1, h2, h3, _⟩
  · obtain ⟨e, hz, us, r, o', e', c, _⟩ := I.hok a _ h
    rw [e] at e'
    cases e'
    exact ⟨⟨o, e, c⟩, fun b q => by cases q; exact ⟨o, e, hd⟩⟩
  · exact ⟨⟨o, I.kIn a o h1, h2⟩, fun b q => by cases q; exact ⟨o, I.kIn _ o h1, h3⟩⟩
theorem seen_of {x : V} {T : String} (h : tyV X.K T x H) : Seen X T x H := fun pins σ s v I r => tyV_is I r h
/-- one way in which a method is found: the type, the builtin, what it asks -/
structure Way (X : Cx) (name : Str) where
  T : String
  id : String
  r : V → List V → Hp → VK → Prop
  pa : PlainAttrs T
  slot : PySem.Slot T name id
  ty : typeOf (.builtin id) = pure (.type "method_descriptor")
  mt : MtR X id r
def tMv (X : Cx) {name : Str} (ws : List (Way X name)) (to : TE) (t : TA) : TE := fun σ H Q => to σ H fun x H1 => ∃ w ∈ ws, Seen X w.T x H1 ∧ t σ H1 fun xs H2 => w.r x xs H2 Q
theorem pe_mv {o e : Expr} {es : List Expr} {to : TE} {t : TA} {name : Str} {apos cpos : Pos} (ws : List (Way X name)) (ho : PE X o to) (ha : PA X (e :: es) t)
    (hbase : attributeBase o name X.env (eval o X.env) = eval o X.env)
    (hfew : ((backTo cpos (starEach (e :: es) X.env)).all (fun x => !x.1) && (backToKw cpos (keywordEach [] X.env)).all (fun x => x.1.isSome) && decide ((e :: es).length + ([] : List Keyword).length + (if ([] : List Keyword).isEmpty then 0 else 1) < 30)) = true)
    (hline : (apos.endLine == cpos.line) = true) (hs : starEach (e :: es) X.env = (false, eval e X.env) :: starEach es X.env) (hplain : (backTo cpos (starEach es X.env)).any (·.1) = false) : PE X (.Call (.Attribute o name apos) (e :: es) [] cpos) (tMv X ws to t) := by
  constructor
  intro pins s σ H Q I h
  refine wpAny_Call_method_late hbase hfew hline rfl (thn (ho.run pins s σ H _ I h) fun v s1 hv => ?_)
  obtain ⟨x, H1, I1, r1, w, _, ty, q1⟩ := hv
  obtain ⟨h1, h2⟩ := ty pins σ s1 v I1 r1
  refine ⟨w.T, w.id, w.pa, w.slot, w.ty, h1, h2, ?_⟩
  have hA := ha.run cpos pins s1 σ H1 _ I1 q1
  rw [hs] at hA ⊢
  have no : ((false, eval e X.env) :: backTo cpos (starEach es X.env)).any (·.1) = false := by rw [List.any_cons, hplain]; rfl
  exact Calls.callWith_builtin no (Calls.evalArgs_plain (thn hA fun us s2 hw => by
    obtain ⟨vs, H2, I2, r2, q2⟩ := hw
    exact w.mt pins s2 σ H2 x vs v us Q I2 r1 r2 q2))
/-- .. without arguments -/
def tMv0 (X : Cx) {name : Str} (ws : List (Way X name)) (to : TE) : TE := fun σ H Q => to σ H fun x H1 => ∃ w ∈ ws, Seen X w.T x H1 ∧ w.r x [] H1 Q
theorem pe_mv0 {o : Expr} {to : TE} {name : Str} {apos cpos : Pos} (ws : List (Way X name)) (ho : PE X o to) (hbase : attributeBase o name X.env (eval o X.env) = eval o X.env) (hline : (apos.endLine == cpos.line) = true) :
    PE X (.Call (.Attribute o name apos) [] [] cpos) (tMv0 X ws to) := by
  constructor
  intro pins s σ H Q I h
  refine wpAny_Call_method0_late hbase hline (thn (ho.run pins s σ H _ I h) fun v s1 hv => ?_)
  obtain ⟨x, H1, I1, r1, w, _, ty, q1⟩ := hv
  obtain ⟨h1, h2⟩ := ty pins σ s1 v I1 r1
  exact ⟨w.T, w.id, w.pa, w.slot, w.ty, h1, h2, Calls.callWith_builtin rfl (PySem.evalArgs_none (w.mt pins s1 σ H1 x [] v [] Q I1 r1 .nil q1))⟩
theorem seen_str (z : Str) : Seen X "str" (.str z) H := seen_of rfl
theorem seen_lst {a : Addr} {xs : List V} (h : SqL X.K H a xs) : Seen X "list" (.ref a) H := seen_of (.inl ⟨rfl, xs, h⟩)
theorem seen_dct {a : Addr} (h : IsD H a) : Seen X "dict" (.ref a) H := by
  intro pins σ s v I r
  cases r
  obtain ⟨h1, h2, _⟩ := isD_at I h
  exact ⟨h1, h2⟩
/-! ### dicts by subscripts -/
def rIxK : R2 := fun x y H Q => ∃ a v, x = .ref a ∧ DGet H a y (some v) ∧ Q v H
theorem ix_dict (hu : X.A.units + 1 < cLine) : IxR X rIxK := by
  intro value slice pins s σ H x y v u Q I rx ry h hs
  obtain ⟨a, z, rfl, g, q⟩ := h
  cases rx
  exact tail_any (dict_typeIs I g) PySem.F.slot_dict_getitem.lookup (d_getItem hu I g ry fun w' s3 I3 rw' => ⟨z, H, I3, rw', q⟩) hs
def rSetK : V → V → V → Hp → (Hp → Prop) → Prop := fun o i v H Q => ∃ p H', o = .ref p ∧ DPut H p i v H' ∧ Q H'
theorem set_dict (hu : X.A.units + 1 < cLine) : PSet X rSetK := by
  intro pins s σ H o i v ov iv u Q I ro ri rv h
  obtain ⟨p, H', rfl, g, q⟩ := h
  cases ro
  exact d_setItem hu I g ri rv fun s' I' => ⟨H', I', q⟩
/-! ### list(a text) -/
theorem call_list_sgn (hc : X.calm = true) : CallR X (.type "list") (fun xs H Q => ∃ z : Str, xs = [.str z] ∧ z.length ≤ sizeLine ∧ ∀ l, H l = none → Q (.ref l) (upd H l (.lst (z.cps.toList.map fun c => V.str (one c))))) := by
  intro pins s σ H xs us Q I r h
  obtain ⟨z, rfl, hz, q⟩ := h
  obtain ⟨u, rfl, t, rfl⟩ := vals1 r
  have hl : z.cps.size = z.length := rfl
  refine call_list_str (I.ok.hd hc) z t (fun h' tk acc c kp e it => ?_) hz
  refine ⟨.ref s.heap.objs.size, _, I.laid (t' := tk) kp (Nat.le_refl _) (show ObjOk X.prog X.w _ h' _ (.lst (z.cps.toList.map fun c => V.str (one c))) from ⟨by rw [List.length_map, Array.length_toList]; exact hz, acc.toList, c, ?_, by rw [Array.toArray_toList]; exact e⟩), rfl, q _ (I.hok.fresh (Nat.le_refl _))⟩
  refine vals_of_at (by rw [List.length_map, Array.length_toList, Array.length_toList, it.1]) fun j x w h1 h2 => ?_
  obtain ⟨k, y, e1, e2⟩ := it.2 j w (by rw [← Array.getElem?_toList]; exact h2)
  rw [List.getElem?_map, Array.getElem?_toList, e1] at h1
  cases h1
  exact ⟨y, e2⟩
end
end Iv
/-! Sv0: worlds, what values stand for -/
namespace Iv
open PySem PySem.Spec PyProof.Rows L2
/-- where the text's classes stand -/
structure Tb where
  ca : Nat → Addr
  xa : Nat → Addr
def kD : Key → D
  | .inl i => .int i
  | .inr x => .str x
/-- frozen addresses, the boxes' addresses, the heap, the store -/
structure Wd where
  F : Addr → Prop
  ι : Nat → Addr
  H : Hp
  S : Sto
/-- a list of the written part -/
def KL (K : PySem.W.Frag) (a : Addr) (xs : List V) : Prop := ∃ (o : Obj) (its : Array Value) (n : Nat), K.lookup a = some o ∧ o.cls = .type "list" ∧ o.dict = none ∧ o.data = .seq its n ∧ its.size ≤ sizeLine ∧ Vals xs its.toList
section
variable (K : PySem.W.Frag)
mutual
/-- a value stands for data for good -/
inductive RD (W : Wd) : V → D → Prop
  | non : RD W .non .non
  | bl (b : Bool) : RD W (.bl b) (.bl b)
  | int (i : Int) : RD W (.int i) (.int i)
  | str (x : Str) : RD W (.str x) (.str x)
  | tup {a : Addr} {vs : List V} {ds : List D} : NT K W.H a vs → RDs W vs ds → RD W (.ref a) (.tup ds)
  | lst {a : Addr} {vs : List V} {ds : List D} : (W.F a ∨ KL K a vs) → SqL K W.H a vs → RDs W vs ds → RD W (.ref a) (.lst ds)
  | dK {a : Addr} {kvs : List (Key × V)} {ks ds : List D} : W.F a → Rd W.H a (.dK kvs) → ks = kvs.map (fun p => kD p.1) → RDs W (kvs.map (·.2)) ds → RD W (.ref a) (.dct false (ks.zip ds))
  | dT {a : Addr} {kvs : List (List Key × V)} {ks ds : List D} : W.F a → W.H a = some (.dT kvs) → ks = kvs.map (fun p => .tup (p.1.map kD)) → RDs W (kvs.map (·.2)) ds → RD W (.ref a) (.dct true (ks.zip ds))
  | ref {id : Nat} : id < W.S.length → RD W (.ref (W.ι id)) (.ref id)
inductive RDs (W : Wd) : List V → List D → Prop
  | nil : RDs W [] []
  | cons {v : V} {vs : List V} {d : D} {ds : List D} : RD W v d → RDs W vs ds → RDs W (v :: vs) (d :: ds)
end
end
section
variable {K : PySem.W.Frag} {W W' : Wd}
theorem RDs.length : ∀ {vs : List V} {ds : List D}, RDs K W vs ds → vs.length = ds.length
  | _, _, .nil => rfl
  | _, _, .cons _ t => by simp [RDs.length t]
theorem RDs.at : ∀ {vs : List V} {ds : List D} {i : Nat} {d : D}, RDs K W vs ds → ds[i]? = some d → ∃ v, vs[i]? = some v ∧ RD K W v d
  | _, _, _, _, .nil, e => by simp at e
  | _, _, 0, _, .cons r _, e => by
    simp at e; subst e; exact ⟨_, by simp, r⟩
  | _, _, i + 1, d, .cons _ t, e => by
    obtain ⟨v, h1, h2⟩ := RDs.at (i := i) (d := d) t (by simpa using e)
    exact ⟨v, by simpa using h1, h2⟩
theorem RDs.atV : ∀ {vs : List V} {ds : List D} {i : Nat} {v : V}, RDs K W vs ds → vs[i]? = some v → ∃ d, ds[i]? = some d ∧ RD K W v d
  | _, _, _, _, .nil, e => by simp at e
  | _, _, 0, _, .cons r _, e => by
    simp at e; subst e; exact ⟨_, by simp, r⟩
  | _, _, i + 1, d, .cons _ t, e => by
    obtain ⟨v, h1, h2⟩ := RDs.atV (i := i) (v := d) t (by simpa using e)
    exact ⟨v, by simpa using h1, h2⟩
theorem RDs.append : ∀ {vs ws : List V} {ds es : List D}, RDs K W vs ds → RDs K W ws es → RDs K W (vs ++ ws) (ds ++ es)
  | _, _, _, _, .nil, s => s
  | _, _, _, _, .cons r t, s => .cons r (RDs.append t s)
theorem RDs.one {v : V} {d : D} (h : RD K W v d) : RDs K W [v] [d] := .cons h .nil
theorem RDs.take : ∀ {vs : List V} {ds : List D} (n : Nat), RDs K W vs ds → RDs K W (vs.take n) (ds.take n)
  | _, _, 0, _ => by simp; exact .nil
  | _, _, n + 1, .nil => .nil
  | _, _, n + 1, .cons r t => .cons r (RDs.take n t)
theorem RDs.drop : ∀ {vs : List V} {ds : List D} (n : Nat), RDs K W vs ds → RDs K W (vs.drop n) (ds.drop n)
  | _, _, 0, h => by simpa using h
  | _, _, n + 1, .nil => .nil
  | _, _, n + 1, .cons r t => by simpa using RDs.drop n t
theorem RDs.rev : ∀ {vs : List V} {ds : List D}, RDs K W vs ds → RDs K W vs.reverse ds.reverse
  | _, _, .nil => .nil
  | _, _, .cons r t => by
    simp only [List.reverse_cons]
    exact (RDs.rev t).append (.one r)
theorem RDs.set {v : V} {d : D} (h : RD K W v d) : ∀ {vs : List V} {ds : List D} (i : Nat), RDs K W vs ds → RDs K W (vs.set i v) (ds.set i d)
  | _, _, _, .nil => .nil
  | _, _, 0, .cons r t => .cons h t
  | _, _, i + 1, .cons r t => .cons r (RDs.set h i t)
theorem RDs.erase : ∀ {vs : List V} {ds : List D} (i : Nat), RDs K W vs ds → RDs K W (vs.eraseIdx i) (ds.eraseIdx i)
  | _, _, _, .nil => .nil
  | _, _, 0, .cons r t => t
  | _, _, i + 1, .cons r t => .cons r (RDs.erase i t)
/-- what stands for good keeps standing -/
structure Mono (W W' : Wd) : Prop where
  f : ∀ a, W.F a → W'.F a
  h : ∀ a o, W.F a → W.H a = some o → W'.H a = some o
  t : ∀ a xs, W.H a = some (.tup xs) → W'.H a = some (.tup xs)
  z : ∀ a o xs, W.H a = some (.frz o xs) → W'.H a = some (.frz o xs)
  n : W.S.length ≤ W'.S.length
  i : ∀ id, id < W.S.length → W'.ι id = W.ι id
theorem Mono.refl (W : Wd) : Mono W W := ⟨fun _ h => h, fun _ _ _ h => h, fun _ _ h => h, fun _ _ _ h => h, Nat.le_refl _, fun _ _ => rfl⟩
theorem Mono.trans {W1 W2 W3 : Wd} (a : Mono W1 W2) (b : Mono W2 W3) : Mono W1 W3 :=
  ⟨fun x h => b.f x (a.f x h), fun x o f h => b.h x o (a.f x f) (a.h x o f h), fun x xs h => b.t x xs (a.t x xs h), fun x o xs h => b.z x o xs (a.z x o xs h), Nat.le_trans a.n b.n,
    fun id h => (b.i id (Nat.lt_of_lt_of_le h a.n)).trans (a.i id h)⟩
theorem Mono.rd_ {a : Addr} {u : HO} (m : Mono W W') (f : W.F a) (h : Rd W.H a u) : Rd W'.H a u := by
  rcases h with h | ⟨o, h⟩
  · exact .inl (m.h _ _ f h)
  · exact .inr ⟨o, m.h _ _ f h⟩
theorem Mono.sqT {a : Addr} {xs : List V} (m : Mono W W') (h : SqT K W.H a xs) : SqT K W'.H a xs := by
  rcases h with (h | ⟨o, h⟩) | h
  · exact .inl (.inl (m.t _ _ h))
  · exact .inl (.inr ⟨o, m.z _ _ _ h⟩)
  · exact .inr h
theorem Mono.nt {a : Addr} {xs : List V} (m : Mono W W') (h : NT K W.H a xs) : NT K W'.H a xs := h.imp (fun ⟨o, h1, h2⟩ => ⟨o, h1, m.z _ _ _ h2⟩) id
theorem Mono.sqL {a : Addr} {xs : List V} (m : Mono W W') (f : W.F a ∨ KL K a xs) (h : SqL K W.H a xs) : SqL K W'.H a xs := by
  rcases f with f | f
  · rcases h with h | h
    · exact .inl (m.rd_ f h)
    · exact .inr h
  · exact .inr f
mutual
theorem RD.mono (m : Mono W W') : ∀ {v : V} {d : D}, RD K W v d → RD K W' v d
  | _, _, .non => .non
  | _, _, .bl b => .bl b
  | _, _, .int i => .int i
  | _, _, .str x => .str x
  | _, _, .tup h t => .tup (m.nt h) (RDs.mono m t)
  | _, _, .lst f h t => .lst (f.imp (m.f _) id) (m.sqL f h) (RDs.mono m t)
  | _, _, .dK f h e t => .dK (m.f _ f) (m.rd_ f h) e (RDs.mono m t)
  | _, _, .dT f h e t => .dT (m.f _ f) (m.h _ _ f h) e (RDs.mono m t)
  | _, _, .ref h => by
    rw [← m.i _ h]
    exact .ref (Nat.lt_of_lt_of_le h m.n)
theorem RDs.mono (m : Mono W W') : ∀ {vs : List V} {ds : List D}, RDs K W vs ds → RDs K W' vs ds
  | _, _, .nil => .nil
  | _, _, .cons h t => .cons (RD.mono m h) (RDs.mono m t)
end
end
/-! ### the store's boxes -/
/-- a dict's entries stand for these -/
def DctAt (K : PySem.W.Frag) (W : Wd) (a : Addr) (t : Bool) (kds : List (D × D)) : Prop :=
  (t = false ∧ ∃ (kvs : List (Key × V)) (ds : List D), W.H a = some (.dK kvs) ∧ RDs K W (kvs.map (·.2)) ds ∧ kds = (kvs.map fun p => kD p.1).zip ds) ∨
  (t = true ∧ ∃ (kvs : List (List Key × V)) (ds : List D), W.H a = some (.dT kvs) ∧ RDs K W (kvs.map (·.2)) ds ∧ kds = (kvs.map fun p => D.tup (p.1.map kD)).zip ds)
def CellOk (K : PySem.W.Frag) (T : Tb) (W : Wd) (a : Addr) : Cell → Prop
  | .lst ds => ∃ vs, W.H a = some (.lst vs) ∧ RDs K W vs ds
  | .dct t kds => DctAt K W a t kds
  | .ins c fs => ∃ dx vs, W.H a = some (.ins (T.ca c) dx ((fs.map (·.1)).zip vs)) ∧ RDs K W vs (fs.map (·.2))
/-- a box stands at a -/
def Wd.B (W : Wd) (a : Addr) : Prop := ∃ id, id < W.S.length ∧ W.ι id = a
structure SR (K : PySem.W.Frag) (T : Tb) (W : Wd) : Prop where
  cell : ∀ id c, W.S[id]? = some c → CellOk K T W (W.ι id) c
  inj : ∀ i j, i < W.S.length → j < W.S.length → W.ι i = W.ι j → i = j
  nf : ∀ id, id < W.S.length → ¬ W.F (W.ι id)
  fs : ∀ a, W.F a → W.H a ≠ none
/-- boxes aside, all that stood stands; own: what may be frozen besides -/
structure Ext (W W' : Wd) (own : Addr → Prop) : Prop where
  f1 : ∀ a, W.F a → W'.F a
  f2 : ∀ a, W'.F a → W.F a ∨ W.H a = none ∨ own a
  h : ∀ a o, W.H a = some o → ¬ W.B a → W'.H a = some o
  hb : ∀ a, W.H a ≠ none → W'.H a ≠ none
  n : W.S.length ≤ W'.S.length
  i : ∀ id, id < W.S.length → W'.ι id = W.ι id
  new : ∀ id, W.S.length ≤ id → id < W'.S.length → W.H (W'.ι id) = none
section
variable {K : PySem.W.Frag} {T : Tb} {W W' W0 W1 W2 : Wd} {own own' : Addr → Prop}
theorem SR.some (s : SR K T W) {id : Nat} (h : id < W.S.length) : ∃ o, W.H (W.ι id) = some o := by
  have hc := s.cell id W.S[id] (List.getElem?_eq_getElem h)
  cases e : W.S[id] with
  | lst ds => rw [e] at hc; obtain ⟨vs, h, _⟩ := hc; exact ⟨_, h⟩
  | dct t kds => rw [e] at hc; rcases hc with ⟨_, _, _, h, _⟩ | ⟨_, _, _, h, _⟩ <;> exact ⟨_, h⟩
  | ins c fs => rw [e] at hc; obtain ⟨_, _, h, _⟩ := hc; exact ⟨_, h⟩
theorem SR.notTup (s : SR K T W) {a : Addr} {xs : List V} (h : W.H a = .some (.tup xs)) : ¬ W.B a := by
  rintro ⟨id, hi, rfl⟩
  have hc := s.cell id W.S[id] (List.getElem?_eq_getElem hi)
  cases e : W.S[id] with
  | lst ds => rw [e] at hc; obtain ⟨vs, h', _⟩ := hc; rw [h] at h'; cases h'
  | dct t kds => rw [e] at hc; rcases hc with ⟨_, _, _, h', _⟩ | ⟨_, _, _, h', _⟩ <;> (rw [h] at h'; cases h')
  | ins c fs => rw [e] at hc; obtain ⟨_, _, h', _⟩ := hc; rw [h] at h'; cases h'
theorem SR.notFrz (s : SR K T W) {a : Addr} {o : Obj} {u : HO} (h : W.H a = .some (.frz o u)) : ¬ W.B a := by
  rintro ⟨id, hi, rfl⟩
  have hc := s.cell id W.S[id] (List.getElem?_eq_getElem hi)
  cases e : W.S[id] with
  | lst ds => rw [e] at hc; obtain ⟨vs, h', _⟩ := hc; rw [h] at h'; cases h'
  | dct t kds => rw [e] at hc; rcases hc with ⟨_, _, _, h', _⟩ | ⟨_, _, _, h', _⟩ <;> (rw [h] at h'; cases h')
  | ins c fs => rw [e] at hc; obtain ⟨_, _, h', _⟩ := hc; rw [h] at h'; cases h'
theorem SR.notF (s : SR K T W) {a : Addr} (f : W.F a) : ¬ W.B a := by
  rintro ⟨id, hi, rfl⟩
  exact s.nf id hi f
theorem Ext.mono (s : SR K T W) (e : Ext W W' own) : Mono W W' :=
  ⟨e.f1, fun a o f h => e.h a o h (s.notF f), fun a xs h => e.h a _ h (s.notTup h), fun a o xs h => e.h a _ h (s.notFrz h), e.n, e.i⟩
theorem Ext.refl (W : Wd) : Ext W W own := ⟨fun _ h => h, fun _ h => .inl h, fun _ _ h _ => h, fun _ h => h, Nat.le_refl _, fun _ _ => rfl, fun id h1 h2 => absurd h2 (Nat.not_lt.mpr h1)⟩
theorem Ext.notB (s : SR K T W) (e : Ext W W' own) {a : Addr} {o : HO} (h : W.H a = .some o) (n : ¬ W.B a) : ¬ W'.B a := by
  rintro ⟨id, hi, rfl⟩
  by_cases hl : id < W.S.length
  · exact n ⟨id, hl, (e.i id hl).symm⟩
  · have := e.new id (Nat.le_of_not_lt hl) hi
    rw [this] at h; cases h
theorem Ext.trans (s : SR K T W) (a : Ext W W1 own) (b : Ext W1 W2 own') (c : ∀ x, own' x → own x ∨ W.H x = none) : Ext W W2 own :=
  ⟨fun x h => b.f1 x (a.f1 x h), fun x h => by
    rcases b.f2 x h with h | h | h
    · exact a.f2 x h
    · refine .inr (.inl ?_)
      cases q : W.H x with
      | none => rfl
      | some o => exact absurd h (a.hb x (by rw [q]; exact fun z => nomatch z))
    · rcases c x h with h | h
      · exact .inr (.inr h)
      · exact .inr (.inl h), fun x o h n => b.h x o (a.h x o h n) (a.notB s h n), fun x h => b.hb x (a.hb x h), Nat.le_trans a.n b.n,
    fun id h => (b.i id (Nat.lt_of_lt_of_le h a.n)).trans (a.i id h), fun id h1 h2 => by
    by_cases hl : id < W1.S.length
    · rw [b.i id hl]; exact a.new id h1 hl
    · have := b.new id (Nat.le_of_not_lt hl) h2
      cases q : W.H (W2.ι id) with
      | none => rfl
      | some o => exact absurd this (a.hb _ (by rw [q]; exact fun z => nomatch z))⟩
theorem Ext.weak (e : Ext W W' own) (h : ∀ x, own x → own' x) : Ext W W' own' := ⟨e.f1, fun a f => (e.f2 a f).imp id (Or.imp id (h a)), e.h, e.hb, e.n, e.i, e.new⟩
end
end Iv
/-! Sv1: slots, results, demands -/
namespace Iv
open PySem PySem.Spec PyProof.Rows L2
section
variable (K : PySem.W.Frag) (T : Tb) (W0 : Wd)
def OwnL (W : Wd) (a : Addr) (vs : List V) (ds : List D) : Prop := W.H a = some (.lst vs) ∧ RDs K W vs ds ∧ ¬ W.F a ∧ ¬ W.B a ∧ W0.H a = none
def OwnD (W : Wd) (a : Addr) (t : Bool) (kds : List (D × D)) : Prop := DctAt K W a t kds ∧ ¬ W.F a ∧ ¬ W.B a ∧ W0.H a = none
def SlotOk (W : Wd) (x : Option (Option V)) : Slot → Prop
  | .no => True
  | .v d => ∃ v, x = some (some v) ∧ RD K W v d
  | .ol ds => ∃ a vs, x = some (some (.ref a)) ∧ OwnL K W0 W a vs ds
  | .od t kds => ∃ a, x = some (some (.ref a)) ∧ OwnD K W0 W a t kds
/-- a is a slot's own -/
def OwnS (σ : L2.St) (ρ : Env) (a : Addr) : Prop := ∃ (i : Nat) (s : Slot), ρ[i]? = some s ∧ s.own = true ∧ σ[i]? = some (some (.ref a))
structure ER (W : Wd) (σ : L2.St) (ρ : Env) : Prop where
  len : ρ.length = σ.length
  ok : ∀ (i : Nat) (s : Slot), ρ[i]? = some s → SlotOk K W0 W σ[i]? s
  ap : ∀ (i j : Nat) (a : Addr) (s t : Slot), ρ[i]? = some s → ρ[j]? = some t → s.own = true → t.own = true → σ[i]? = some (some (.ref a)) → σ[j]? = some (some (.ref a)) → i = j
structure Good (W : Wd) (σ : L2.St) (ρ : Env) : Prop where
  s0 : SR K T W0
  ext : Ext W0 W fun _ => False
  sr : SR K T W
  er : ER K W0 W σ ρ
/-- a result: a value for good, or a new list or dict that no slot holds; W1 ρ1: ahead -/
def RR (σ : L2.St) (W1 : Wd) (ρ1 : Env) (W : Wd) (ρ : Env) (v : V) : R → Prop
  | .v d => RD K W v d
  | .ol ds => ∃ a vs, v = .ref a ∧ OwnL K W0 W a vs ds ∧ ¬ OwnS σ ρ a ∧ W1.H a = none
  | .od t kds => ∃ a, v = .ref a ∧ OwnD K W0 W a t kds ∧ ¬ OwnS σ ρ a ∧ W1.H a = none
/-- an operand reads as data -/
def RQ (W : Wd) (v : V) (d : D) : Prop :=
  RD K W v d ∨ (∃ a vs ds, v = .ref a ∧ d = .lst ds ∧ W.H a = some (.lst vs) ∧ RDs K W vs ds ∧ ¬ W.B a) ∨ ∃ a t kds, v = .ref a ∧ d = .dct t kds ∧ DctAt K W a t kds ∧ ¬ W.B a
inductive RQs (W : Wd) : List V → List D → Prop
  | nil : RQs W [] []
  | cons {v : V} {vs : List V} {d : D} {ds : List D} : RQ K W v d → RQs W vs ds → RQs W (v :: vs) (d :: ds)
/-- an exception: its class, its own dict -/
def XR (W : Wd) (cls : Value) (d : Option Addr) (c : Nat) (vs : List D) : Prop := False
end
/-- slots are frozen, none is filled -/
def EnvLe (ρ ρ' : Env) : Prop := ρ'.length = ρ.length ∧ ∀ (i : Nat) (s : Slot), ρ'[i]? = some s → s.own = true → ρ[i]? = some s
structure Step (σ : L2.St) (W : Wd) (ρ : Env) (W' : Wd) (ρ' : Env) : Prop where
  e : Ext W W' (OwnS σ ρ)
  l : EnvLe ρ ρ'
section
variable {K : PySem.W.Frag} {T : Tb} {W0 W W' W1 W2 : Wd} {σ : L2.St} {ρ ρ' ρ1 ρ2 : Env}
theorem EnvLe.refl (ρ : Env) : EnvLe ρ ρ := ⟨rfl, fun _ _ h _ => h⟩
theorem EnvLe.trans (a : EnvLe ρ ρ1) (b : EnvLe ρ1 ρ2) : EnvLe ρ ρ2 := ⟨b.1.trans a.1, fun i s h o => a.2 i s (b.2 i s h o) o⟩
theorem EnvLe.own (a : EnvLe ρ ρ') {x : Addr} (h : OwnS σ ρ' x) : OwnS σ ρ x := by
  obtain ⟨i, s, h1, h2, h3⟩ := h
  exact ⟨i, s, a.2 i s h1 h2, h2, h3⟩
theorem Step.refl (W : Wd) (ρ : Env) : Step σ W ρ W ρ := ⟨Ext.refl W, EnvLe.refl ρ⟩
theorem Step.trans (s : SR K T W) (a : Step σ W ρ W1 ρ1) (b : Step σ W1 ρ1 W2 ρ2) : Step σ W ρ W2 ρ2 :=
  ⟨a.e.trans s b.e fun x h => .inl (a.l.own h), a.l.trans b.l⟩
theorem RQ.of {v : V} {d : D} (h : RD K W v d) : RQ K W v d := .inl h
theorem DctAt.ext {a : Addr} {t : Bool} {kds : List (D × D)} {own : Addr → Prop} (s : SR K T W) (e : Ext W W' own) (h : DctAt K W a t kds) (n : ¬ W.B a) : DctAt K W' a t kds := by
  rcases h with ⟨ht, kvs, ds, h1, h2, h3⟩ | ⟨ht, kvs, ds, h1, h2, h3⟩
  · exact .inl ⟨ht, kvs, ds, e.h _ _ h1 n, h2.mono (e.mono s), h3⟩
  · exact .inr ⟨ht, kvs, ds, e.h _ _ h1 n, h2.mono (e.mono s), h3⟩
theorem DctAt.some {a : Addr} {t : Bool} {kds : List (D × D)} (h : DctAt K W a t kds) : ∃ o, W.H a = .some o := by
  rcases h with ⟨ht, kvs, ds, h1, h2, h3⟩ | ⟨ht, kvs, ds, h1, h2, h3⟩ <;> exact ⟨_, h1⟩
theorem RQ.ext {v : V} {d : D} {own : Addr → Prop} (s : SR K T W) (e : Ext W W' own) (h : RQ K W v d) : RQ K W' v d := by
  rcases h with h | ⟨a, vs, ds, rfl, rfl, h1, h2, h3⟩ | ⟨a, t, kds, rfl, rfl, h1, h2⟩
  · exact .inl (h.mono (e.mono s))
  · exact .inr (.inl ⟨a, vs, ds, rfl, rfl, e.h _ _ h1 h3, h2.mono (e.mono s), e.notB s h1 h3⟩)
  · obtain ⟨o, ho⟩ := h1.some
    exact .inr (.inr ⟨a, t, kds, rfl, rfl, h1.ext s e h2, e.notB s ho h2⟩)
theorem RQs.ext {own : Addr → Prop} (s : SR K T W) (e : Ext W W' own) : ∀ {vs : List V} {ds : List D}, RQs K W vs ds → RQs K W' vs ds
  | _, _, .nil => .nil
  | _, _, .cons h t => .cons (h.ext s e) (RQs.ext s e t)
theorem RQs.of : ∀ {vs : List V} {ds : List D}, RDs K W vs ds → RQs K W vs ds
  | _, _, .nil => .nil
  | _, _, .cons h t => .cons (.of h) (RQs.of t)
end
/-! ### demands -/
/-- what is wished of an exception -/
abbrev Wish := Value → Option Addr → L2.St → Hp → Prop
/-- how a result stands in the world behind, seen from the one ahead -/
structure Rl (K : PySem.W.Frag) (T : Tb) (σ : L2.St) (β α : Type) where
  r : Wd → Env → Wd → Env → β → α → Prop
  sh : ∀ {W : Wd} {ρ : Env} {W1 : Wd} {ρ1 : Env} {W' : Wd} {ρ' : Env} {x : β} {a : α}, Step σ W ρ W1 ρ1 → r W1 ρ1 W' ρ' x a → r W ρ W' ρ' x a
/-- one that looks at the world behind alone -/
def Rl.at (K : PySem.W.Frag) (T : Tb) (σ : L2.St) {β α : Type} (r : Wd → β → α → Prop) : Rl K T σ β α := ⟨fun _ _ W' _ x a => r W' x a, fun _ h => h⟩
theorem Ext.back {W W' : Wd} {own : Addr → Prop} (e : Ext W W' own) {a : Addr} (h : W'.H a = none) : W.H a = none := by
  cases q : W.H a with
  | none => rfl
  | some o => exact absurd h (e.hb a (by rw [q]; exact fun z => nomatch z))
theorem Step.old {σ : L2.St} {W W1 : Wd} {ρ ρ1 : Env} (s : Step σ W ρ W1 ρ1) {a : Addr} (h : W1.H a = none ∨ OwnS σ ρ1 a) : W.H a = none ∨ OwnS σ ρ a :=
  h.imp s.e.back s.l.own
def rV (K : PySem.W.Frag) (T : Tb) (W0 : Wd) (σ : L2.St) : Rl K T σ V R := ⟨fun W1 ρ1 W ρ v r => RR K W0 σ W1 ρ1 W ρ v r, fun {W ρ W1 ρ1 W' ρ' x a} st h => by
  cases a with
  | v d => exact h
  | ol ds => obtain ⟨a, vs, e, o, n, q⟩ := h; exact ⟨a, vs, e, o, n, st.e.back q⟩
  | od t kds => obtain ⟨a, e, o, n, q⟩ := h; exact ⟨a, e, o, n, st.e.back q⟩⟩
abbrev rO (K : PySem.W.Frag) (T : Tb) (σ : L2.St) : Rl K T σ V D := .at K T σ (RQ K)
abbrev rD (K : PySem.W.Frag) (T : Tb) (σ : L2.St) : Rl K T σ V D := .at K T σ (RD K)
abbrev rOs (K : PySem.W.Frag) (T : Tb) (σ : L2.St) : Rl K T σ (List V) (List D) := .at K T σ (RQs K)
abbrev rDs (K : PySem.W.Frag) (T : Tb) (σ : L2.St) : Rl K T σ (List V) (List D) := .at K T σ (RDs K)
abbrev rB (K : PySem.W.Frag) (T : Tb) (σ : L2.St) : Rl K T σ Bool Bool := .at K T σ (fun _ b c => b = c)
section
variable (K : PySem.W.Frag) (T : Tb) (W0 : Wd) (wish : Wish)
def Dm {α β : Type} (r : Res α) (W : Wd) (σ : L2.St) (ρ : Env) (RA : Rl K T σ β α) (Q : β → Hp → Prop) : Prop := match r with
  | .ok a ρ' S' => ∀ (x : β) (W' : Wd), W'.S = S' → Good K T W0 W' σ ρ' → Step σ W ρ W' ρ' → RA.r W ρ W' ρ' x a → Q x W'.H
  | .exc c vs ρ' S' => ∀ (cls : Value) (d : Option Addr) (W' : Wd), W'.S = S' → Good K T W0 W' σ ρ' → Step σ W ρ W' ρ' → XR W' cls d c vs → wish cls d σ W'.H
  | .err => False
def tG {α β : Type} (f : Env → Sto → Res α) (RA : (σ : L2.St) → Rl K T σ β α) : L2.St → Hp → (β → Hp → Prop) → Prop := fun σ H Q =>
  ∃ (W : Wd) (ρ : Env), W.H = H ∧ Good K T W0 W σ ρ ∧ Dm K T W0 wish (f ρ W.S) W σ ρ (RA σ) Q
end
section
variable {K : PySem.W.Frag} {T : Tb} {W0 W W1 : Wd} {wish : Wish} {σ : L2.St} {ρ ρ1 : Env} {α β γ δ : Type} {RA : Rl K T σ β α} {RF : Rl K T σ δ γ} {Q Q' : β → Hp → Prop}
theorem Dm.imp {r : Res α} (h : Dm K T W0 wish r W σ ρ RA Q) (q : ∀ x H, Q x H → Q' x H) : Dm K T W0 wish r W σ ρ RA Q' := by
  cases r with
  | ok a ρ' S' => exact fun x W' e g s r => q _ _ (h x W' e g s r)
  | exc c vs ρ' S' => exact h
  | err => exact h
theorem Dm.shift {r : Res α} (s : SR K T W) (st : Step σ W ρ W1 ρ1) (h : Dm K T W0 wish r W σ ρ RA Q) : Dm K T W0 wish r W1 σ ρ1 RA Q := by
  cases r with
  | ok a ρ' S' => exact fun x W' e g st' r => h x W' e g (st.trans s st') (RA.sh st r)
  | exc c vs ρ' S' => exact fun x d W' e g st' r => h x d W' e g (st.trans s st') r
  | err => exact h
/-- what the first part leaves -/
def Aft (K : PySem.W.Frag) (T : Tb) (W0 : Wd) (wish : Wish) (σ : L2.St) (RF : Rl K T σ δ γ) (g : γ → Env → Sto → Res α) (W : Wd) (ρ : Env) (RA : Rl K T σ β α) (Q : β → Hp → Prop) : δ → Hp → Prop := fun x H1 =>
  ∃ (W1 : Wd) (ρ1 : Env) (a : γ), W1.H = H1 ∧ Good K T W0 W1 σ ρ1 ∧ Step σ W ρ W1 ρ1 ∧ RF.r W ρ W1 ρ1 x a ∧ Dm K T W0 wish (g a ρ1 W1.S) W1 σ ρ1 RA Q
theorem Dm.bind {m : Res γ} {g : γ → Env → Sto → Res α} (s : SR K T W) (h : Dm K T W0 wish (m.bind g) W σ ρ RA Q) : Dm K T W0 wish m W σ ρ RF (Aft K T W0 wish σ RF g W ρ RA Q) := by
  cases m with
  | ok a ρ1 S1 => exact fun x W1 e g1 st r => ⟨W1, ρ1, a, rfl, g1, st, r, Dm.shift s st (by rw [e]; exact h)⟩
  | exc c vs ρ1 S1 => exact h
  | err => exact h
theorem Dm.of {o : Option α} {S : Sto} (h : Dm K T W0 wish (Res.of o ρ S) W σ ρ RA Q) : ∃ a, o = some a ∧ Dm K T W0 wish (.ok a ρ S) W σ ρ RA Q := by
  cases o with
  | none => exact h.elim
  | some a => exact ⟨a, rfl, h⟩
theorem Dm.ok {a : α} (h : Dm K T W0 wish (.ok a ρ W.S) W σ ρ RA Q) {x : β} (g : Good K T W0 W σ ρ) (r : RA.r W ρ W ρ x a) : Q x W.H := h x W rfl g (Step.refl W ρ) r
end
theorem PE.imp {X : Cx} {e : Expr} {t t' : TE} (h : PE X e t) (i : ∀ σ H Q, t' σ H Q → t σ H Q) : PE X e t' := ⟨fun pins s σ H Q I q => h.run pins s σ H Q I (i σ H Q q)⟩
theorem PE.or {X : Cx} {e : Expr} {t t' : TE} (h : PE X e t) (h' : PE X e t') : PE X e (fun σ H Q => t σ H Q ∨ t' σ H Q) := ⟨fun pins s σ H Q I q => q.elim (h.run pins s σ H Q I) (h'.run pins s σ H Q I)⟩
theorem PT.imp {X : Cx} {e : Expr} {t t' : TT} (h : PT X e t) (i : ∀ σ H Q, t' σ H Q → t σ H Q) : PT X e t' := ⟨fun pins s σ H Q I q => h.run pins s σ H Q I (i σ H Q q)⟩
theorem PA.imp {X : Cx} {es : List Expr} {t t' : TA} (h : PA X es t) (i : ∀ σ H Q, t' σ H Q → t σ H Q) : PA X es t' := ⟨fun pos pins s σ H Q I q => h.run pos pins s σ H Q I (i σ H Q q)⟩
theorem PS.imp {X : Cx} {st : Stmt} {t t' : TS} (h : PS X st t) (i : ∀ D σ H, t' D σ H → t D σ H) : PS X st t' := ⟨fun pins s σ H D I q => h.run pins s σ H D I (i D σ H q)⟩
theorem PSs.imp {X : Cx} {st : List Stmt} {t t' : TS} (h : PSs X st t) (i : ∀ D σ H, t' D σ H → t D σ H) : PSs X st t' := ⟨fun pins s σ H D I q => h.run pins s σ H D I (i D σ H q)⟩
theorem PI.imp {X : Cx} {tg it : Expr} {t t' : TI} (h : PI X tg it t) (i : ∀ σ H R, t' σ H R → t σ H R) : PI X tg it t' := ⟨fun pins s σ H R I q => h.run pins s σ H R I (i σ H R q)⟩
theorem OpR.imp {X : Cx} {f : Value → Value → Sem Value} {r r' : R2} (h : OpR X f r) (i : ∀ x y H Q, r' x y H Q → r x y H Q) : OpR X f r' := fun pins s σ H x y v u Q I rx ry q => h pins s σ H x y v u Q I rx ry (i x y H Q q)
theorem OpR.or {X : Cx} {f : Value → Value → Sem Value} {r r' : R2} (h : OpR X f r) (h' : OpR X f r') : OpR X f (fun x y H Q => r x y H Q ∨ r' x y H Q) := fun pins s σ H x y v u Q I rx ry q =>
  q.elim (h pins s σ H x y v u Q I rx ry) (h' pins s σ H x y v u Q I rx ry)
end Iv
/-! Sv2: new objects, freezing, reading -/
namespace Iv
open PySem PySem.Spec PyProof.Rows L2
def Wd.put (W : Wd) (p : Addr) (o : HO) : Wd := { W with H := upd W.H p o }
def Wd.frz (W : Wd) (a : Addr) : Wd := { W with F := fun x => W.F x ∨ x = a }
section
variable {K : PySem.W.Frag} {T : Tb} {W0 W W' W1 : Wd} {σ : L2.St} {ρ ρ' : Env} {p a : Addr} {o : HO}
theorem putExt {own : Addr → Prop} (hp : W.H p = none) : Ext W (W.put p o) own :=
  ⟨fun _ h => h, fun _ h => .inl h, fun a u h _ => by
    show upd W.H p o a = _
    rw [upd_ne (ne_of_none h hp)]; exact h, fun a h => by
    show upd W.H p o a ≠ none
    by_cases e : a = p
    · rw [e, upd_same]; exact fun z => nomatch z
    · rw [upd_ne e]; exact h, Nat.le_refl _, fun _ _ => rfl, fun id h1 h2 => absurd h2 (Nat.not_lt.mpr h1)⟩
theorem frzExt {own : Addr → Prop} (h : W.H a = none ∨ own a) : Ext W (W.frz a) own :=
  ⟨fun _ h => .inl h, fun x h' => h'.imp id fun e => by rw [e]; exact h, fun a u h _ => h, fun a h => h, Nat.le_refl _, fun _ _ => rfl, fun id h1 h2 => absurd h2 (Nat.not_lt.mpr h1)⟩
theorem put_at {b : Addr} {u : HO} (hp : W.H p = none) (h : W.H b = some u) : (W.put p o).H b = some u := by
  show upd W.H p o b = _
  rw [upd_ne (ne_of_none h hp)]; exact h
theorem put_same : (W.put p o).H p = some o := upd_same
theorem DctAt.mono {t : Bool} {kds : List (D × D)} (m : Mono W W') (hh : ∀ u, W.H a = Option.some u → W'.H a = Option.some u) (h : DctAt K W a t kds) : DctAt K W' a t kds := by
  rcases h with ⟨ht, kvs, ds, h1, h2, h3⟩ | ⟨ht, kvs, ds, h1, h2, h3⟩
  · exact .inl ⟨ht, kvs, ds, hh _ h1, h2.mono m, h3⟩
  · exact .inr ⟨ht, kvs, ds, hh _ h1, h2.mono m, h3⟩
theorem CellOk.mono {c : Cell} (m : Mono W W') (hh : ∀ u, W.H a = some u → W'.H a = some u) (h : CellOk K T W a c) : CellOk K T W' a c := by
  cases c with
  | lst ds => obtain ⟨vs, h1, h2⟩ := h; exact ⟨vs, hh _ h1, h2.mono m⟩
  | dct t kds => exact DctAt.mono m hh h
  | ins c fs => obtain ⟨dx, vs, h1, h2⟩ := h; exact ⟨dx, vs, hh _ h1, h2.mono m⟩
theorem SR.put (s : SR K T W) (hp : W.H p = none) : SR K T (W.put p o) := by
  have m : Mono W (W.put p o) := (putExt (own := fun _ => False) hp).mono s
  exact ⟨fun id c h => CellOk.mono m (fun u hu => put_at hp hu) (s.cell id c h), s.inj, s.nf, fun b f => (putExt (own := fun _ => False) hp).hb b (s.fs b f)⟩
theorem B_of (e : W'.S.length = W.S.length) (i : W'.ι = W.ι) {x : Addr} : W'.B x ↔ W.B x := by
  unfold Wd.B
  rw [e, i]
theorem SlotOk.mono {x : Option (Option V)} {s : Slot} (m : Mono W W') (h : SlotOk K W0 W x s)
    (k : s.own = true → ∀ a, x = some (some (.ref a)) → (∀ u, W.H a = some u → W'.H a = some u) ∧ (W'.F a → W.F a) ∧ (W'.B a → W.B a)) : SlotOk K W0 W' x s := by
  cases s with
  | no => exact trivial
  | v d => obtain ⟨v, e, r⟩ := h; exact ⟨v, e, r.mono m⟩
  | ol ds =>
    obtain ⟨a, vs, e, h1, h2, h3, h4, h5⟩ := h
    obtain ⟨k1, k2, k3⟩ := k rfl a e
    exact ⟨a, vs, e, k1 _ h1, h2.mono m, fun z => h3 (k2 z), fun z => h4 (k3 z), h5⟩
  | od t kds =>
    obtain ⟨a, e, h1, h3, h4, h5⟩ := h
    obtain ⟨k1, k2, k3⟩ := k rfl a e
    exact ⟨a, e, DctAt.mono m k1 h1, fun z => h3 (k2 z), fun z => h4 (k3 z), h5⟩
theorem Good.put (g : Good K T W0 W σ ρ) (hp : W.H p = none) : Good K T W0 (W.put p o) σ ρ := by
  have m : Mono W (W.put p o) := (putExt (own := fun _ => False) hp).mono g.sr
  refine ⟨g.s0, g.ext.trans g.s0 (putExt (own := fun _ => False) hp) fun _ z => z.elim, g.sr.put hp, g.er.len, fun i s h => ?_, g.er.ap⟩
  exact (g.er.ok i s h).mono m fun _ a _ => ⟨fun u hu => put_at hp hu, fun z => z, fun z => z⟩
theorem Step.put (hp : W.H p = none) : Step σ W ρ (W.put p o) ρ := ⟨putExt hp, EnvLe.refl ρ⟩
theorem Good.fresh0 (g : Good K T W0 W σ ρ) (hp : W.H p = none) : W0.H p = none := g.ext.back hp
theorem Good.notB (g : Good K T W0 W σ ρ) (hp : W.H p = none) : ¬ W.B p := by
  rintro ⟨id, h, rfl⟩
  obtain ⟨o, e⟩ := g.sr.some h
  rw [hp] at e; cases e
theorem Good.notF (g : Good K T W0 W σ ρ) (hp : W.H p = none) : ¬ W.F p := fun f => g.sr.fs p f hp
theorem Good.ownAt (g : Good K T W0 W σ ρ) {x : Addr} (h : OwnS σ ρ x) : W.H x ≠ none ∧ ¬ W.F x ∧ ¬ W.B x ∧ W0.H x = none := by
  obtain ⟨i, s, h1, h2, h3⟩ := h
  have := g.er.ok i s h1
  cases s with
  | no => cases h2
  | v d => cases h2
  | ol ds =>
    obtain ⟨a, vs, e, q1, q2, q3, q4, q5⟩ := this
    rw [h3] at e
    cases e
    exact ⟨by rw [q1]; exact (fun z => nomatch z), q3, q4, q5⟩
  | od t kds =>
    obtain ⟨a, e, q1, q3, q4, q5⟩ := this
    rw [h3] at e
    cases e
    obtain ⟨o, ho⟩ := q1.some
    exact ⟨by rw [ho]; exact (fun z => nomatch z), q3, q4, q5⟩
theorem Good.notOwn (g : Good K T W0 W σ ρ) (hp : W.H p = none) : ¬ OwnS σ ρ p := fun h => (g.ownAt h).1 hp
/-- a new list -/
theorem newL (g : Good K T W0 W σ ρ) (hp : W.H p = none) {vs : List V} {ds : List D} (r : RDs K W vs ds) : RR K W0 σ W ρ (W.put p (.lst vs)) ρ (.ref p) (.ol ds) := by
  have m : Mono W (W.put p (.lst vs)) := (putExt (own := fun _ => False) hp).mono g.sr
  exact ⟨p, vs, rfl, ⟨put_same, r.mono m, g.notF hp, g.notB hp, g.fresh0 hp⟩, g.notOwn hp, hp⟩
/-- a new tuple -/
theorem newT (g : Good K T W0 W σ ρ) (hp : W.H p = none) {vs : List V} {ds : List D} (r : RDs K W vs ds) : ∀ us : List Value, RD K (W.put p (.frz (tob us) (.tup vs))) (.ref p) (.tup ds) := fun us =>
  .tup (.inl ⟨tob us, rfl, put_same⟩) (r.mono ((putExt (own := fun _ => False) hp).mono g.sr))
/-! ### freezing -/
theorem SR.frz (s : SR K T W) (h : W.H a ≠ none) (hb : ¬ W.B a) : SR K T (W.frz a) := by
  have m : Mono W (W.frz a) := ⟨fun _ h => .inl h, fun _ _ _ h => h, fun _ _ h => h, fun _ _ _ h => h, Nat.le_refl _, fun _ _ => rfl⟩
  refine ⟨fun id c hc => CellOk.mono m (fun u hu => hu) (s.cell id c hc), s.inj, fun id hi f => ?_, fun b f => ?_⟩
  · rcases f with f | f
    · exact s.nf id hi f
    · exact hb ⟨id, hi, f⟩
  · rcases f with f | f
    · exact s.fs b f
    · rw [f]; exact h
theorem frzMono : Mono W (W.frz a) := ⟨fun _ h => .inl h, fun _ _ _ h => h, fun _ _ h => h, fun _ _ _ h => h, Nat.le_refl _, fun _ _ => rfl⟩
/-- a temporary frozen -/
theorem Good.frz (g : Good K T W0 W σ ρ) (h : W.H a ≠ none) (hb : ¬ W.B a) (h0 : W0.H a = none) (no : ¬ OwnS σ ρ a) : Good K T W0 (W.frz a) σ ρ := by
  refine ⟨g.s0, g.ext.trans g.s0 (frzExt (own := fun x => x = a) (.inr rfl)) fun x e => .inr (by rw [e]; exact h0), g.sr.frz h hb, g.er.len, fun i s hs => ?_, g.er.ap⟩
  refine (g.er.ok i s hs).mono frzMono fun os b hx => ⟨fun u hu => hu, fun f => ?_, fun z => z⟩
  rcases f with f | f
  · exact f
  · exact absurd ⟨i, s, hs, os, by rw [hx, f]⟩ no
/-- a result as a value -/
theorem toD (g : Good K T W0 W' σ ρ') {v : V} {r : R} (st : Step σ W ρ W' ρ') (h : RR K W0 σ W ρ W' ρ' v r) : ∃ W2, W2.S = W'.S ∧ W2.H = W'.H ∧ Good K T W0 W2 σ ρ' ∧ Step σ W ρ W2 ρ' ∧ RD K W2 v r.d := by
  cases r with
  | v d => exact ⟨W', rfl, rfl, g, st, h⟩
  | ol ds =>
    obtain ⟨a, vs, rfl, ⟨h1, h2, h3, h4, h5⟩, no, old⟩ := h
    refine ⟨W'.frz a, rfl, rfl, g.frz (by rw [h1]; exact fun z => nomatch z) h4 h5 no, ⟨⟨fun x f => .inl (st.e.f1 x f), fun x f => ?_, st.e.h, st.e.hb, st.e.n, st.e.i, st.e.new⟩, st.l⟩, ?_⟩
    · rcases f with f | f
      · exact st.e.f2 x f
      · rw [f]; exact .inr (.inl old)
    · exact .lst (.inl (.inr rfl)) (.inl (.inl h1)) (h2.mono frzMono)
  | od t kds =>
    obtain ⟨a, rfl, ⟨h1, h3, h4, h5⟩, no, old⟩ := h
    obtain ⟨o, ho⟩ := h1.some
    refine ⟨W'.frz a, rfl, rfl, g.frz (by rw [ho]; exact fun z => nomatch z) h4 h5 no, ⟨⟨fun x f => .inl (st.e.f1 x f), fun x f => ?_, st.e.h, st.e.hb, st.e.n, st.e.i, st.e.new⟩, st.l⟩, ?_⟩
    · rcases f with f | f
      · exact st.e.f2 x f
      · rw [f]; exact .inr (.inl old)
    · rcases h1 with ⟨rfl, kvs, ds, q1, q2, q3⟩ | ⟨rfl, kvs, ds, q1, q2, q3⟩
      · have e : kds = (kvs.map fun p => kD p.1).zip ds := q3
        show RD K (W'.frz a) (.ref a) (.dct false kds)
        rw [e]
        exact .dK (.inr rfl) (.inl q1) rfl (q2.mono frzMono)
      · have e : kds = (kvs.map fun p => D.tup (p.1.map kD)).zip ds := q3
        show RD K (W'.frz a) (.ref a) (.dct true kds)
        rw [e]
        exact .dT (.inr rfl) q1 rfl (q2.mono frzMono)
/-! ### reading -/
theorem rd_lst (s : SR K T W) {v : V} {d : D} {xs : List D} (h : RQ K W v d) (e : lstD W.S d = some xs) : ∃ a vs, v = .ref a ∧ SqL K W.H a vs ∧ RDs K W vs xs := by
  rcases h with h | ⟨a, vs, ds, rfl, rfl, h1, h2, _⟩ | ⟨a, t, kds, rfl, rfl, _⟩
  · cases h with
    | @lst a vs ds f h t =>
      cases e
      exact ⟨a, vs, rfl, h, t⟩
    | @ref id hi =>
      have hc := s.cell id W.S[id] (List.getElem?_eq_getElem hi)
      simp only [lstD, cellAt] at e
      rw [List.getElem?_eq_getElem hi] at e
      cases q : W.S[id] with
      | lst ds =>
        rw [q] at e hc
        cases e
        obtain ⟨vs, h1, h2⟩ := hc
        exact ⟨_, vs, rfl, .inl (.inl h1), h2⟩
      | dct t kds => rw [q] at e; cases e
      | ins c fs => rw [q] at e; cases e
    | _ => cases e
  · cases e
    exact ⟨a, vs, rfl, .inl (.inl h1), h2⟩
  · cases e
theorem rd_seqN (s : SR K T W) {v : V} {d : D} {xs : List D} (h : RQ K W v d) (e : seqD W.S d = some xs) : ∃ a vs, v = .ref a ∧ (SqL K W.H a vs ∨ NT K W.H a vs) ∧ RDs K W vs xs := by
  cases d with
  | tup ds =>
    rcases h with h | ⟨a, vs, ds, rfl, h, _⟩ | ⟨a, t, kds, rfl, h, _⟩
    · cases h with
      | @tup a vs _ h t =>
        cases e
        exact ⟨a, vs, rfl, .inr h, t⟩
    · cases h
    · cases h
  | lst ds => obtain ⟨a, vs, e1, e2, e3⟩ := rd_lst s h e; exact ⟨a, vs, e1, .inl e2, e3⟩
  | ref id => obtain ⟨a, vs, e1, e2, e3⟩ := rd_lst s h e; exact ⟨a, vs, e1, .inl e2, e3⟩
  | _ => cases e
theorem rd_seq (s : SR K T W) {v : V} {d : D} {xs : List D} (h : RQ K W v d) (e : seqD W.S d = some xs) : ∃ a vs, v = .ref a ∧ (SqL K W.H a vs ∨ SqT K W.H a vs) ∧ RDs K W vs xs := by
  obtain ⟨a, vs, h1, h2, h3⟩ := rd_seqN s h e
  exact ⟨a, vs, h1, h2.imp id NT.sq, h3⟩
theorem rd_tup {v : V} {xs : List D} (h : RQ K W v (.tup xs)) : ∃ a vs, v = .ref a ∧ NT K W.H a vs ∧ RDs K W vs xs := by
  rcases h with h | ⟨a, vs, ds, rfl, h, _⟩ | ⟨a, t, kds, rfl, h, _⟩
  · cases h with
    | @tup a vs _ h t => exact ⟨a, vs, rfl, h, t⟩
  · cases h
  · cases h
theorem rd_str {v : V} {x : Str} (h : RQ K W v (.str x)) : v = .str x := by
  rcases h with h | ⟨a, vs, ds, rfl, h, _⟩ | ⟨a, t, kds, rfl, h, _⟩
  · cases h; rfl
  · cases h
  · cases h
theorem rd_int {v : V} {x : Int} (h : RQ K W v (.int x)) : v = .int x := by
  rcases h with h | ⟨a, vs, ds, rfl, h, _⟩ | ⟨a, t, kds, rfl, h, _⟩
  · cases h; rfl
  · cases h
  · cases h
theorem rd_bl {v : V} {x : Bool} (h : RQ K W v (.bl x)) : v = .bl x := by
  rcases h with h | ⟨a, vs, ds, rfl, h, _⟩ | ⟨a, t, kds, rfl, h, _⟩
  · cases h; rfl
  · cases h
  · cases h
theorem rd_non {v : V} (h : RQ K W v .non) : v = .non := by
  rcases h with h | ⟨a, vs, ds, rfl, h, _⟩ | ⟨a, t, kds, rfl, h, _⟩
  · cases h; rfl
  · cases h
  · cases h
/-- a dict that reads as these entries -/
def DctRd (K : PySem.W.Frag) (W : Wd) (a : Addr) (t : Bool) (kds : List (D × D)) : Prop :=
  (t = false ∧ ∃ (kvs : List (Key × V)) (ds : List D), Rd W.H a (.dK kvs) ∧ RDs K W (kvs.map (·.2)) ds ∧ kds = (kvs.map fun p => kD p.1).zip ds) ∨
  (t = true ∧ ∃ (kvs : List (List Key × V)) (ds : List D), W.H a = some (.dT kvs) ∧ RDs K W (kvs.map (·.2)) ds ∧ kds = (kvs.map fun p => D.tup (p.1.map kD)).zip ds)
theorem DctAt.rd {t : Bool} {kds : List (D × D)} (h : DctAt K W a t kds) : DctRd K W a t kds := by
  rcases h with ⟨ht, kvs, ds, q1, q2, q3⟩ | ⟨ht, kvs, ds, q1, q2, q3⟩
  · exact .inl ⟨ht, kvs, ds, .inl q1, q2, q3⟩
  · exact .inr ⟨ht, kvs, ds, q1, q2, q3⟩
theorem rd_dct (s : SR K T W) {v : V} {d : D} {t : Bool} {kds : List (D × D)} (h : RQ K W v d) (e : dctD W.S d = some (t, kds)) : ∃ a, v = .ref a ∧ DctRd K W a t kds := by
  rcases h with h | ⟨a, vs, ds, rfl, rfl, _⟩ | ⟨a, t2, k2, rfl, rfl, h, _⟩
  · cases h with
    | @dK a kvs ks ds f h e2 t =>
      cases e
      exact ⟨a, rfl, .inl ⟨rfl, kvs, ds, h, t, by rw [e2]⟩⟩
    | @dT a kvs ks ds f h e2 t =>
      cases e
      exact ⟨a, rfl, .inr ⟨rfl, kvs, ds, h, t, by rw [e2]⟩⟩
    | @ref id hi =>
      have hc := s.cell id W.S[id] (List.getElem?_eq_getElem hi)
      simp only [dctD, cellAt] at e
      rw [List.getElem?_eq_getElem hi] at e
      cases q : W.S[id] with
      | lst ds => rw [q] at e; cases e
      | dct t kds =>
        rw [q] at e hc
        cases e
        exact ⟨_, rfl, DctAt.rd hc⟩
      | ins c fs => rw [q] at e; cases e
    | _ => cases e
  · cases e
  · cases e
    exact ⟨a, rfl, h.rd⟩
/-- as the library's data, where no dict is in it -/
def BoxDp (K : PySem.W.Frag) (W : Wd) (g : Nat → Option PyData) : Prop := ∀ id p, id < W.S.length → g id = some p → p.hasDict = false → Dp K W.H (.ref (W.ι id)) p
mutual
theorem rd_pyG {g : Nat → Option PyData} (hg : BoxDp K W g) : ∀ (d : D) (v : V) (p : PyData), RD K W v d → D.py g d = some p → p.hasDict = false → Dp K W.H v p
  | .non, v, p, h, e, _ => by cases h; simp only [D.py, Option.some.injEq] at e; subst e; exact .non
  | .bl b, v, p, h, e, _ => by cases h; simp only [D.py, Option.some.injEq] at e; subst e; exact .bl b
  | .int i, v, p, h, e, _ => by cases h; simp only [D.py, Option.some.injEq] at e; subst e; exact .int i
  | .str x, v, p, h, e, _ => by cases h; simp only [D.py, Option.some.injEq] at e; subst e; exact .str x
  | .tup xs, v, p, h, e, hd => by
    cases h with
    | tup h t =>
      simp only [D.py, Option.map_eq_some_iff] at e
      obtain ⟨ps, e1, rfl⟩ := e
      exact .tup h.sq (rd_pysG hg xs _ _ t e1 (by simpa [PyData.hasDict] using hd))
  | .lst xs, v, p, h, e, hd => by
    cases h with
    | lst f h t =>
      simp only [D.py, Option.map_eq_some_iff] at e
      obtain ⟨ps, e1, rfl⟩ := e
      exact .lst h (rd_pysG hg xs _ _ t e1 (by simpa [PyData.hasDict] using hd))
  | .dct _ kvs, v, p, h, e, hd => by
    simp only [D.py, Option.map_eq_some_iff] at e
    obtain ⟨ps, e1, rfl⟩ := e
    simp [PyData.hasDict] at hd
  | .ref a, v, p, h, e, hd => by
    cases h with
    | ref hi => exact hg a p hi (by simpa [D.py] using e) hd
  | .exc c vs, v, p, h, e, hd => by simp [D.py] at e
theorem rd_pysG {g : Nat → Option PyData} (hg : BoxDp K W g) : ∀ (ds : List D) (vs : List V) (ps : List PyData), RDs K W vs ds → D.pys g ds = some ps → PyData.hasDictAll ps = false → DpAll K W.H vs ps
  | [], vs, ps, h, e, _ => by cases h; simp only [D.pys, Option.some.injEq] at e; subst e; exact .nil
  | x :: xs, vs, ps, h, e, hd => by
    cases h with
    | cons h t =>
      simp only [D.pys] at e
      split at e
      · rename_i y ys e1 e2
        cases e
        simp only [PyData.hasDictAll, Bool.or_eq_false_iff] at hd
        exact .cons (rd_pyG hg x _ _ h e1 hd.1) (rd_pysG hg xs _ _ t e2 hd.2)
      · cases e
end
theorem boxDp (s : SR K T W) : ∀ n, BoxDp K W (boxPy W.S n)
  | 0 => fun id p _ e _ => by simp [boxPy] at e
  | n + 1 => fun id p hi e hd => by
    have hc := s.cell id W.S[id] (List.getElem?_eq_getElem hi)
    unfold boxPy cellAt at e
    rw [List.getElem?_eq_getElem hi] at e
    cases q : W.S[id] with
    | lst ds =>
      simp only [q] at e hc
      simp only [Option.map_eq_some_iff] at e
      obtain ⟨ps, e1, rfl⟩ := e
      obtain ⟨vs, h1, h2⟩ := hc
      exact .lst (.inl (.inl h1)) (rd_pysG (boxDp s n) ds _ _ h2 e1 (by simpa [PyData.hasDict] using hd))
    | dct t kds =>
      simp only [q] at e hc
      simp only [Option.map_eq_some_iff] at e
      obtain ⟨ps, e1, rfl⟩ := e
      simp [PyData.hasDict] at hd
    | ins c fs => simp only [q] at e; cases e
theorem rd_py (s : SR K T W) {d : D} {v : V} {p : PyData} (h : RQ K W v d) (e : pyD W.S d = some p) (hd : p.hasDict = false) : Dp K W.H v p := by
  rcases h with h | ⟨a, vs, ds, rfl, rfl, h1, h2, _⟩ | ⟨a, t2, k2, rfl, rfl, h, _⟩
  · exact rd_pyG (boxDp s 3) d v p h e hd
  · unfold pyD at e
    simp only [D.py, Option.map_eq_some_iff] at e
    obtain ⟨ps, e1, rfl⟩ := e
    exact .lst (.inl (.inl h1)) (rd_pysG (boxDp s 3) ds _ _ h2 e1 (by simpa [PyData.hasDict] using hd))
  · unfold pyD at e
    simp only [D.py, Option.map_eq_some_iff] at e
    obtain ⟨ps, e1, rfl⟩ := e
    simp [PyData.hasDict] at hd
theorem rd_pys (s : SR K T W) {ds : List D} {vs : List V} {ps : List PyData} (h : RDs K W vs ds) (e : pysD W.S ds = some ps) (hd : PyData.hasDictAll ps = false) : DpAll K W.H vs ps := rd_pysG (boxDp s 3) ds vs ps h e hd
end
end Iv
/-! Su1: dicts by their keys -/
namespace Iv
open PySem PySem.Spec PyProof.Rows L2
section
variable {K : PySem.W.Frag} {T : Tb} {W W' W0 : Wd}
def keyD : D → Option Key
  | .int i => some (.inl i)
  | .str x => some (.inr x)
  | _ => none
theorem keyD_of {d : D} (h : flatK d = true) : ∃ k : Key, d = kD k := by
  cases d with
  | int i => exact ⟨.inl i, rfl⟩
  | str x => exact ⟨.inr x, rfl⟩
  | _ => cases h
theorem kD_eq (a b : Key) : D.eqB (kD a) (kD b) = decide (a = b) := by
  cases a <;> cases b <;> simp [kD, D.eqB]
theorem rd_key {v : V} {k : Key} (h : RQ K W v (kD k)) : v = kV k := by
  cases k with
  | inl i => exact rd_int h
  | inr x => exact rd_str h
/-- a dict's entries, pair by pair -/
inductive KDs (K : PySem.W.Frag) (W : Wd) : List (Key × V) → List (D × D) → Prop
  | nil : KDs K W [] []
  | cons {k : Key} {v : V} {d : D} {kvs : List (Key × V)} {kds : List (D × D)} : RD K W v d → KDs K W kvs kds → KDs K W ((k, v) :: kvs) ((kD k, d) :: kds)
theorem KDs.of : ∀ {kvs : List (Key × V)} {ds : List D}, RDs K W (kvs.map (·.2)) ds → KDs K W kvs ((kvs.map fun p => kD p.1).zip ds)
  | [], _, .nil => .nil
  | (k, v) :: kvs, _, .cons r t => .cons r (KDs.of t)
theorem KDs.to : ∀ {kvs : List (Key × V)} {kds : List (D × D)}, KDs K W kvs kds → ∃ ds, RDs K W (kvs.map (·.2)) ds ∧ kds = (kvs.map fun p => kD p.1).zip ds
  | _, _, .nil => ⟨[], .nil, rfl⟩
  | _, _, .cons (d := d) r t => by
    obtain ⟨ds, h1, h2⟩ := KDs.to t
    exact ⟨d :: ds, .cons r h1, by rw [h2]; rfl⟩
theorem KDs.length : ∀ {kvs : List (Key × V)} {kds : List (D × D)}, KDs K W kvs kds → kvs.length = kds.length
  | _, _, .nil => rfl
  | _, _, .cons r t => by simp [KDs.length t]
theorem KDs.mono (m : Mono W W') : ∀ {kvs : List (Key × V)} {kds : List (D × D)}, KDs K W kvs kds → KDs K W' kvs kds
  | _, _, .nil => .nil
  | _, _, .cons r t => .cons (r.mono m) (KDs.mono m t)
theorem KDs.get (k : Key) : ∀ {kvs : List (Key × V)} {kds : List (D × D)}, KDs K W kvs kds → (valV kvs k = none ∧ getK kds (kD k) = none) ∨ ∃ v d, valV kvs k = some v ∧ getK kds (kD k) = some d ∧ RD K W v d
  | _, _, .nil => .inl ⟨rfl, rfl⟩
  | _, _, .cons (k := j) (v := v) (d := d) (kvs := kvs) (kds := kds) r t => by
    by_cases e : j = k
    · subst e
      refine .inr ⟨v, d, valV_pos rfl, ?_, r⟩
      simp [getK, kD_eq]
    · have h1 : valV ((j, v) :: kvs) k = valV kvs k := valV_neg e
      have h2 : getK ((kD j, d) :: kds) (kD k) = getK kds (kD k) := by simp [getK, kD_eq, e]
      rw [h1, h2]
      exact KDs.get k t
theorem hasK_get (kds : List (D × D)) (k : D) : hasK kds k = (getK kds k).isSome := by
  unfold hasK getK
  rw [Option.isSome_map]
  induction kds with
  | nil => rfl
  | cons p r ih =>
    rw [List.any_cons, List.find?_cons]
    cases D.eqB p.1 k with
    | true => rfl
    | false => simpa using ih
theorem KDs.has (k : Key) {kvs : List (Key × V)} {kds : List (D × D)} (h : KDs K W kvs kds) : (valV kvs k).isSome = hasK kds (kD k) := by
  rw [hasK_get]
  rcases h.get k with ⟨h1, h2⟩ | ⟨v, d, h1, h2, _⟩ <;> rw [h1, h2] <;> rfl
theorem KDs.app {kvs ls : List (Key × V)} {kds lds : List (D × D)} (h : KDs K W kvs kds) (h' : KDs K W ls lds) : KDs K W (kvs ++ ls) (kds ++ lds) := by
  induction h with
  | nil => exact h'
  | cons r t ih => exact .cons r ih
theorem KDs.repl {k : Key} {v : V} {d : D} (r0 : RD K W v d) : ∀ {kvs : List (Key × V)} {kds : List (D × D)}, KDs K W kvs kds →
    KDs K W (kvs.map fun kv => if kv.1 = k then (kv.1, v) else kv) (kds.map fun kv => if D.eqB kv.1 (kD k) then (kv.1, d) else kv)
  | _, _, .nil => .nil
  | _, _, .cons (k := j) r t => by
    simp only [List.map_cons, kD_eq]
    by_cases e : j = k
    · simp only [e, if_true, decide_true]
      exact .cons r0 (KDs.repl r0 t)
    · simp only [e, if_false, decide_false]
      exact .cons r (KDs.repl r0 t)
theorem KDs.put {k : Key} {v : V} {d : D} (r0 : RD K W v d) {kvs : List (Key × V)} {kds : List (D × D)} (h : KDs K W kvs kds) : KDs K W (L2.putK kvs k v) (Iv.putK kds (kD k) d) := by
  unfold L2.putK Iv.putK
  rw [valV_any, h.has]
  split
  · exact h.repl r0
  · exact h.app (.cons r0 .nil)
theorem KDs.merge : ∀ {ls : List (Key × V)} {lds : List (D × D)} {kvs : List (Key × V)} {kds : List (D × D)}, KDs K W ls lds → KDs K W kvs kds → KDs K W (mergeK kvs ls) (lds.foldl (fun acc kv => Iv.putK acc kv.1 kv.2) kds)
  | _, _, _, _, .nil, h => h
  | _, _, _, _, .cons (k := k) r t, h => by
    have h2 := KDs.put (k := k) r h
    have h3 := KDs.merge t h2
    exact h3
/-- a dict with flat keys, as read -/
theorem DctRd.k {a : Addr} {kds : List (D × D)} (h : DctRd K W a false kds) : ∃ kvs : List (Key × V), Rd W.H a (HO.dK kvs) ∧ KDs K W kvs kds := by
  rcases h with ⟨_, kvs, ds, h1, h2, rfl⟩ | ⟨h, _⟩
  · exact ⟨kvs, h1, .of h2⟩
  · cases h
theorem DctAt.k {a : Addr} {kds : List (D × D)} (h : DctAt K W a false kds) : ∃ kvs : List (Key × V), W.H a = Option.some (HO.dK kvs) ∧ KDs K W kvs kds := by
  rcases h with ⟨_, kvs, ds, h1, h2, rfl⟩ | ⟨h, _⟩
  · exact ⟨kvs, h1, .of h2⟩
  · cases h
theorem DctAt.mk {a : Addr} {kvs : List (Key × V)} {kds : List (D × D)} (h : W.H a = Option.some (HO.dK kvs)) (t : KDs K W kvs kds) : DctAt K W a false kds := by
  obtain ⟨ds, h1, h2⟩ := t.to
  exact .inl ⟨rfl, kvs, ds, h, h1, h2⟩
/-- what a dict tells of a key -/
theorem dget_rd (s : SR K T W) {x y : V} {dx dy : D} {kds : List (D × D)} (hx : RQ K W x dx) (e : dctD W.S dx = some (false, kds)) (hy : RQ K W y dy) (hk : flatK dy = true) :
    ∃ a o, x = .ref a ∧ DGet W.H a y o ∧ ((o = none ∧ getK kds dy = none) ∨ ∃ v d, o = some v ∧ getK kds dy = some d ∧ RD K W v d) := by
  obtain ⟨a, rfl, h⟩ := rd_dct s hx e
  obtain ⟨kvs, h1, h2⟩ := h.k
  obtain ⟨k, rfl⟩ := keyD_of hk
  exact ⟨a, valV kvs k, rfl, .inl ⟨kvs, k, h1, rd_key hy, rfl⟩, h2.get k⟩
end
end Iv
/-! Sv3: operators by values -/
namespace Iv
open PySem PySem.Spec PyProof.Rows L2
/-! ### rules that the layer lacks -/
section
variable {X : Cx}
/-- list + list, whatever lists -/
def rCatL (K : PySem.W.Frag) : R2 := fun x y H Q => ∃ l b xs zs, x = .ref l ∧ y = .ref b ∧ SqL K H l xs ∧ SqL K H b zs ∧ xs.length + zs.length ≤ sizeLine ∧ ∀ p, H p = none → Q (.ref p) (upd H p (.lst (xs ++ zs)))
theorem op_catL : OpR X (binaryOp .Add) (rCatL X.K) := by
  intro pins s σ H x y v u Q I rx ry h
  obtain ⟨l, b, xs, zs, rfl, rfl, hH, hB, hz, q⟩ := h
  cases rx
  cases ry
  obtain ⟨its, r, ⟨⟨cls, dd, data, sl⟩, n, ho, hc, hd0, hd⟩, _⟩ := I.list hH
  obtain ⟨its2, r2, ⟨⟨cls2, dd2, data2, sl2⟩, n2, ho2, hc2, hd02, hd2⟩, _⟩ := I.list hB
  simp only at hc hd hc2 hd2
  subst hc hd hc2 hd2
  have ea : its.toArray ++ its2.toArray = (its ++ its2).toArray := by simp
  have hsz : its.toArray.size + its2.toArray.size ≤ sizeLine := by
    rw [List.size_toArray, List.size_toArray, ← r.length, ← r2.length]; exact hz
  refine concat_meets ⟨_, ho, rfl⟩ ⟨_, ho2, rfl⟩ noFill_list_add seq_list_add PySem.F.slot_list_add PySem.F.entry_list_add (PySem.F.args_list_add_2 _ _) (list_addW l b its.toArray its2.toArray n n2 dd dd2 sl sl2 hsz) ⟨ho, ho2, ?_⟩
  rw [ea]
  exact ⟨.ref _, _, I.lnew (t' := s.toks) (r.append r2) (by rw [List.length_append]; omega), rfl, q _ I.fresh⟩
theorem repS_eq (x : Str) (n : Nat) : (⟨(List.replicate n x.cps).foldl (· ++ ·) #[]⟩ : Str) = repS x n := by
  have f0 : ∀ (m : Nat) (acc : Array Nat), (List.replicate m x.cps).foldl (· ++ ·) acc = acc ++ (List.replicate m x.cps.toList).flatten.toArray := fun m => by
    induction m with
    | zero => intro acc; simp
    | succ m ih =>
      intro acc
      rw [List.replicate_succ, List.foldl_cons, ih, List.replicate_succ, List.flatten_cons, Array.append_assoc]
      congr 1
      simp
  unfold repS
  rw [f0]
  simp
def rMulS : R2 := fun x y H Q => ∃ (a : Str) (n : Int), x = .str a ∧ y = .int n ∧ a.length * n.toNat ≤ sizeLine ∧ n < 2 ^ 62 ∧ -(2 ^ 62) ≤ n ∧ Q (.str (repS a n.toNat)) H
theorem op_mulS : OpR X (binaryOp .Mult) rMulS := by
  intro pins s σ H x y v u Q I rx ry h
  obtain ⟨a, n, rfl, rfl, hz, h1, h2, q⟩ := h
  obtain ⟨t, rfl⟩ := rx
  obtain ⟨t', rfl⟩ := ry
  have hs : (sizeLine : Nat) = 2 ^ 24 := rfl
  refine PySem.P.mul_str ?_ ?_ ?_ ?_
  · have e1 : ¬ n < -(2 ^ 63 : Int) := by omega
    have e2 : ¬ n ≥ (2 ^ 63 : Int) := by omega
    rw [decide_eq_false e1, decide_eq_false e2]; rfl
  · intro hn _ hgt
    have hp : 0 < n := by omega
    have h3 : (a.length : Int) * n ≤ 2 ^ 24 := by
      have e : n = ((n.toNat : Nat) : Int) := (Int.toNat_of_nonneg (by omega)).symm
      rw [e]
      have : ((a.length * n.toNat : Nat) : Int) ≤ ((2 ^ 24 : Nat) : Int) := by exact_mod_cast hz
      simpa using this
    have h4 : (a.length : Int) ≤ (2 ^ 63 - 1) / n := by
      rw [Int.le_ediv_iff_mul_le hp]
      omega
    omega
  · intro _ _
    unfold Builtin.Str.tooLong
    simp only [decide_eq_false_iff_not]
    omega
  · by_cases hn : n < 1
    · rw [if_pos hn]
      have e : repS a n.toNat = Str.empty := by
        have : n.toNat = 0 := by omega
        rw [this]
        rfl
      rw [e] at q
      exact ⟨by decide, ⟨.str Str.empty, H, I.tok _, ⟨_, rfl⟩, q⟩⟩
    · rw [if_neg hn]
      by_cases h1' : (n == 1 || a.length == 0) = true
      · rw [if_pos h1']
        have e : repS a n.toNat = a := by
          rcases Bool.or_eq_true_iff.mp h1' with e | e
          · have : n = 1 := by simpa using e
            subst this
            cases a
            simp [repS]
          · have e0 : a.cps.size = 0 := by simpa [Str.length] using e
            have e1 : a.cps = #[] := Array.eq_empty_of_size_eq_zero e0
            cases a
            simp only at e1
            subst e1
            simp [repS]
        rw [e] at q
        exact ⟨.str a, H, I, ⟨_, rfl⟩, q⟩
      · rw [if_neg h1']
        refine ⟨?_, ?_⟩
        · rw [repS_eq]
          show (repS a n.toNat).cps.size ≤ _
          unfold repS
          simp only [List.size_toArray, List.length_flatten, List.map_replicate, List.sum_replicate_nat]
          have : a.cps.toList.length = a.length := by simp [Str.length]
          rw [this, Nat.mul_comm]
          exact hz
        · rw [repS_eq]
          exact ⟨.str _, H, I.tok _, ⟨_, rfl⟩, q⟩
end
/-! ### two-place operators -/
abbrev rAdd (K : PySem.W.Frag) : R2 := fun x y H Q => (∃ i j, x = .int i ∧ y = .int j ∧ Q (.int (i + j)) H) ∨
  ((∃ i j, x = .str i ∧ y = .str j ∧ i.length + j.length ≤ sizeLine ∧ Q (.str (i ++ j)) H) ∨ (rCatN K x y H Q ∨ rCatL K x y H Q))
/-- what the operator asks -/
def rBin (K : PySem.W.Frag) : Operator → R2
  | .Add => rAdd K
  | .Sub => rI0 fun i j => .int (i - j)
  | .Mult => fun x y H Q => rI CMul (fun i j => .int (i * j)) x y H Q ∨ rMulS x y H Q
  | .FloorDiv => rI CDivN fun i j => .int (i.fdiv j)
  | .Mod => rI (fun _ j => j ≠ 0) fun i j => .int (i.fmod j)
  | .Pow => rI CPow fun i j => .int (i ^ j.toNat)
  | .LShift => rI CPow fun i j => .int (i * 2 ^ j.toNat)
  | .RShift => rI (fun _ j => 0 ≤ j) fun i j => .int (i / 2 ^ j.toNat)
  | .BitAnd => rI0 fun i j => .int (Builtin.bitAnd i j)
  | .BitOr => rI0 fun i j => .int (Builtin.bitOr i j)
  | _ => fun _ _ _ _ => False
theorem opBin {X : Cx} : ∀ op, OpR X (binaryOp op) (rBin X.K op)
  | .Add => op_add.or (op_add_str.or (op_catN.or op_catL))
  | .Sub => op_sub
  | .Mult => op_mul.or op_mulS
  | .FloorDiv => op_fdivN
  | .Mod => op_modN
  | .Pow => op_pow
  | .LShift => op_shl
  | .RShift => op_shr
  | .BitAnd => op_and
  | .BitOr => op_or
  | .MatMult => fun _ _ _ _ _ _ _ _ _ _ _ _ h => h.elim
  | .Div => fun _ _ _ _ _ _ _ _ _ _ _ _ h => h.elim
  | .BitXor => fun _ _ _ _ _ _ _ _ _ _ _ _ h => h.elim
section
variable {K : PySem.W.Frag} {T : Tb} {W0 W : Wd} {σ : L2.St} {ρ : Env} {Q : VK}
/-- the demand behind a step that gives r at the store as it is -/
abbrev Nxt (K : PySem.W.Frag) (T : Tb) (W0 W : Wd) (σ : L2.St) (ρ : Env) (Q : VK) (r : R) : Prop := ∀ v W', W'.S = W.S → Good K T W0 W' σ ρ → Step σ W ρ W' ρ → RR K W0 σ W ρ W' ρ v r → Q v W'.H
theorem Nxt.v {v : V} {d : D} (n : Nxt K T W0 W σ ρ Q (.v d)) (g : Good K T W0 W σ ρ) (h : RD K W v d) : Q v W.H := n v W rfl g (Step.refl W ρ) h
theorem Nxt.l {vs : List V} {ds : List D} (n : Nxt K T W0 W σ ρ Q (.ol ds)) (g : Good K T W0 W σ ρ) (h : RDs K W vs ds) : ∀ p, W.H p = none → Q (.ref p) (upd W.H p (.lst vs)) := fun p hp =>
  n (.ref p) (W.put p (.lst vs)) rfl (g.put hp) (Step.put hp) (newL g hp h)
theorem Nxt.t {vs : List V} {ds : List D} (n : Nxt K T W0 W σ ρ Q (.v (.tup ds))) (g : Good K T W0 W σ ρ) (h : RDs K W vs ds) : NewT W.H vs Q := fun p us hp =>
  n (.ref p) (W.put p (.frz (tob us) (.tup vs))) rfl (g.put hp) (Step.put hp) (newT g hp h us)
theorem binOk {op : Operator} {dx dy : D} {x y : V} {r : R} (g : Good K T W0 W σ ρ) (e : binD W.S op dx dy = some r) (hx : RQ K W x dx) (hy : RQ K W y dy) (n : Nxt K T W0 W σ ρ Q r) : rBin K op x y W.H Q := by
  unfold binD at e
  split at e
  · cases e
    rw [rd_int hx, rd_int hy]
    exact .inl ⟨_, _, rfl, rfl, n.v g (.int _)⟩
  · split at e
    · cases e
      rw [rd_str hx, rd_str hy]
      exact .inr (.inl ⟨_, _, rfl, rfl, by assumption, n.v g (.str _)⟩)
    · cases e
  · split at e
    · cases e
      obtain ⟨a, vs, rfl, h1, t1⟩ := rd_tup hx
      obtain ⟨b, ws, rfl, h2, t2⟩ := rd_tup hy
      refine .inr (.inr (.inl ⟨a, b, vs, ws, rfl, rfl, h1.sq, h2.sq, by rw [t1.length, t2.length]; assumption, fun e0 => ?_, fun _ e1 => ?_, fun _ _ => n.t g (t1.append t2)⟩))
      · subst e0
        cases t1
        exact n.v g (.tup h2 t2)
      · subst e1
        cases t2
        rw [List.append_nil] at n
        exact n.v g (.tup h1 t1)
    · cases e
  · split at e
    · rename_i xs ys e1 e2
      split at e
      · cases e
        obtain ⟨a, vs, rfl, h1, t1⟩ := rd_lst g.sr hx e1
        obtain ⟨b, ws, rfl, h2, t2⟩ := rd_lst g.sr hy e2
        exact .inr (.inr (.inr ⟨a, b, vs, ws, rfl, rfl, h1, h2, by rw [t1.length, t2.length]; assumption, n.l g (t1.append t2)⟩))
      · cases e
    · cases e
  · cases e
    rw [rd_int hx, rd_int hy]
    exact ⟨_, _, rfl, rfl, n.v g (.int _)⟩
  · split at e
    · cases e
      rw [rd_int hx, rd_int hy]
      rename_i hm
      refine .inl ⟨_, _, rfl, rfl, ?_, n.v g (.int _)⟩
      unfold mulOk at hm
      simpa [CMul] using hm
    · cases e
  · split at e
    · cases e
      rename_i hm
      rw [rd_str hx, rd_int hy]
      exact .inr ⟨_, _, rfl, rfl, hm.1, hm.2.1, hm.2.2, n.v g (.str _)⟩
    · cases e
  · split at e
    · cases e
      rw [rd_int hx, rd_int hy]
      exact ⟨_, _, rfl, rfl, by assumption, n.v g (.int _)⟩
    · cases e
  · split at e
    · cases e
      rw [rd_int hx, rd_int hy]
      exact ⟨_, _, rfl, rfl, by assumption, n.v g (.int _)⟩
    · cases e
  · split at e
    · cases e
      rw [rd_int hx, rd_int hy]
      rename_i hm
      exact ⟨_, _, rfl, rfl, by simpa [powOk, CPow] using hm, n.v g (.int _)⟩
    · cases e
  · split at e
    · cases e
      rw [rd_int hx, rd_int hy]
      rename_i hm
      exact ⟨_, _, rfl, rfl, by simpa [powOk, CPow] using hm, n.v g (.int _)⟩
    · cases e
  · split at e
    · cases e
      rw [rd_int hx, rd_int hy]
      exact ⟨_, _, rfl, rfl, by assumption, n.v g (.int _)⟩
    · cases e
  · cases e
    rw [rd_int hx, rd_int hy]
    exact ⟨_, _, rfl, rfl, n.v g (.int _)⟩
  · cases e
    rw [rd_int hx, rd_int hy]
    exact ⟨_, _, rfl, rfl, n.v g (.int _)⟩
  · cases e
end
end Iv
namespace Iv
open PySem PySem.Spec PyProof.Rows L2
/-! ### comparisons -/
section
variable {X : Cx}
def rOrd (K : PySem.W.Frag) (f : PyData → PyData → Bool) : R2 := fun x y H Q => ∃ d e, Dp K H x d ∧ Dp K H y e ∧ W.alike d e = true ∧ d ≠ .none ∧ d.depth ≤ 64 ∧ Q (.bl (f d e)) H
theorem room_min {A : Around} {d e : PyData} (hu : A.units + 64 < cLine) (h : d.depth ≤ 64) : A.units + min d.depth e.depth < cLine := by
  have : min d.depth e.depth ≤ d.depth := Nat.min_le_left _ _
  omega
theorem op_ltD (hu : X.A.units + 64 < cLine) : OpR X (compareOp .Lt) (rOrd X.K fun d e => W.dataLt d e) := by
  intro pins s σ H x y v u Q I rx ry h
  obtain ⟨d, e, hd, he, ha, hn, hz, q⟩ := h
  obtain ⟨as, r1⟩ := Dp.reads I d x v hd rx
  obtain ⟨bs, r2⟩ := Dp.reads I e y u he ry
  exact PySem.W.lt_data r1 r2 ha hn (room_min hu hz) ⟨.bl _, H, I, rfl, q⟩
theorem op_gtD (hu : X.A.units + 64 < cLine) : OpR X (compareOp .Gt) (rOrd X.K fun d e => W.dataLt e d) := by
  intro pins s σ H x y v u Q I rx ry h
  obtain ⟨d, e, hd, he, ha, hn, hz, q⟩ := h
  obtain ⟨as, r1⟩ := Dp.reads I d x v hd rx
  obtain ⟨bs, r2⟩ := Dp.reads I e y u he ry
  exact PySem.W.gt_data r1 r2 ha hn (room_min hu hz) ⟨.bl _, H, I, rfl, q⟩
theorem op_leD (hu : X.A.units + 64 < cLine) : OpR X (compareOp .LtE) (rOrd X.K fun d e => !W.dataLt e d) := by
  intro pins s σ H x y v u Q I rx ry h
  obtain ⟨d, e, hd, he, ha, hn, hz, q⟩ := h
  obtain ⟨as, r1⟩ := Dp.reads I d x v hd rx
  obtain ⟨bs, r2⟩ := Dp.reads I e y u he ry
  exact PySem.W.le_data r1 r2 ha hn (room_min hu hz) ⟨.bl _, H, I, rfl, q⟩
theorem op_geD (hu : X.A.units + 64 < cLine) : OpR X (compareOp .GtE) (rOrd X.K fun d e => !W.dataLt d e) := by
  intro pins s σ H x y v u Q I rx ry h
  obtain ⟨d, e, hd, he, ha, hn, hz, q⟩ := h
  obtain ⟨as, r1⟩ := Dp.reads I d x v hd rx
  obtain ⟨bs, r2⟩ := Dp.reads I e y u he ry
  exact PySem.W.ge_data r1 r2 ha hn (room_min hu hz) ⟨.bl _, H, I, rfl, q⟩
/-- x in a tuple of data -/
def rInT (K : PySem.W.Frag) (neg : Bool) : R2 := fun x y H Q => ∃ d ds, Dp K H x d ∧ Dp K H y (.tuple ds) ∧ SeqAt.shaped d = true ∧ SeqAt.shaped (.tuple ds) = true ∧ Q (.bl (if neg then !ds.any fun z => PyData.eqv z d else ds.any fun z => PyData.eqv z d)) H
theorem op_inT (hu : X.A.units + 65 < cLine) : OpR X (compareOp .In) (rInT X.K false) := by
  intro pins s σ H x y v u Q I rx ry h
  obtain ⟨d, ds, hd, he, sd, se, q⟩ := h
  obtain ⟨as, r1⟩ := Dp.reads I d x v hd rx
  obtain ⟨bs, r2⟩ := Dp.reads I (.tuple ds) y u he ry
  exact SeqAt.in_tuple_reads r2 r1 (SeqAt.canLay_of_shaped se) (SeqAt.canLay_of_shaped sd) (room_in_shaped sd hu) ⟨.bl _, H, I, rfl, q⟩
theorem op_notInT (hu : X.A.units + 65 < cLine) : OpR X (compareOp .NotIn) (rInT X.K true) := by
  intro pins s σ H x y v u Q I rx ry h
  obtain ⟨d, ds, hd, he, sd, se, q⟩ := h
  obtain ⟨as, r1⟩ := Dp.reads I d x v hd rx
  obtain ⟨bs, r2⟩ := Dp.reads I (.tuple ds) y u he ry
  exact SeqAt.notIn_tuple_reads r2 r1 (SeqAt.canLay_of_shaped se) (SeqAt.canLay_of_shaped sd) (room_in_shaped sd hu) ⟨.bl _, H, I, rfl, q⟩
/-- x is True, x is False -/
theorem plain_bl {x : V} {v : Value} (r : RelV x v) (b : Bool) : plainIs v (.bool b) = true ∧ (v = Value.bool b ↔ x = .bl b) := by
  cases x with
  | non => cases r; exact ⟨rfl, by simp⟩
  | bl c => cases r; exact ⟨rfl, by simp⟩
  | int _ => obtain ⟨t, rfl⟩ := r; exact ⟨rfl, by simp⟩
  | str _ => obtain ⟨t, rfl⟩ := r; exact ⟨rfl, by simp⟩
  | byt _ => obtain ⟨t, rfl⟩ := r; exact ⟨rfl, by simp⟩
  | flt _ => obtain ⟨t, rfl⟩ := r; exact ⟨rfl, by simp⟩
  | ref _ => cases r; exact ⟨rfl, by simp⟩
  | ty _ => cases r; exact ⟨rfl, by simp⟩
def rIsC (neg : Bool) : R2 := fun x y H Q => ∃ b, y = .bl b ∧ Q (.bl (if neg then !decide (x = .bl b) else decide (x = .bl b))) H
theorem op_isC : OpR X (compareOp .Is) (rIsC false) := by
  intro pins s σ H x y v u Q I rx ry h
  obtain ⟨b, rfl, q⟩ := h
  cases (show u = Value.bool b from ry)
  obtain ⟨h1, h2⟩ := plain_bl rx b
  by_cases e : x = .bl b
  · have := h2.mpr e
    subst this
    exact wpAny_is_self h1 ⟨.bl true, H, I, rfl, by simpa [e] using q⟩
  · exact wpAny_is_other h1 (fun z => e (h2.mp z)) ⟨.bl false, H, I, rfl, by simpa [e] using q⟩
theorem op_isNotC : OpR X (compareOp .IsNot) (rIsC true) := by
  intro pins s σ H x y v u Q I rx ry h
  obtain ⟨b, rfl, q⟩ := h
  cases (show u = Value.bool b from ry)
  obtain ⟨h1, h2⟩ := plain_bl rx b
  by_cases e : x = .bl b
  · have := h2.mpr e
    subst this
    exact wpAny_isNot_self h1 ⟨.bl false, H, I, rfl, by simpa [e] using q⟩
  · exact wpAny_isNot_other h1 (fun z => e (h2.mp z)) ⟨.bl true, H, I, rfl, by simpa [e] using q⟩
/-- x in a dict -/
def rInK (neg : Bool) : R2 := fun x y H Q => ∃ a o, y = .ref a ∧ DGet H a x o ∧ Q (.bl (if neg then !o.isSome else o.isSome)) H
theorem op_inK (hu : X.A.units + 1 < cLine) : OpR X (compareOp .In) (rInK false) := by
  intro pins s σ H x y v u Q I rx ry h
  obtain ⟨a, o, rfl, g, q⟩ := h
  cases ry
  exact d_in hu I g rx fun s' I' => ⟨.bl _, H, I', rfl, q⟩
theorem op_notInK (hu : X.A.units + 1 < cLine) : OpR X (compareOp .NotIn) (rInK true) := by
  intro pins s σ H x y v u Q I rx ry h
  obtain ⟨a, o, rfl, g, q⟩ := h
  cases ry
  exact d_notIn hu I g rx fun s' I' => ⟨.bl _, H, I', rfl, q⟩
end
section
variable {X : Cx}
def rCmp (K : PySem.W.Frag) : CmpOp → R2
  | .Eq => fun x y H Q => rEq x y H Q ∨ rEqD K x y H Q
  | .NotEq => fun x y H Q => rNe x y H Q ∨ rNeD K x y H Q
  | .Lt => rOrd K fun d e => W.dataLt d e
  | .Gt => rOrd K fun d e => W.dataLt e d
  | .LtE => rOrd K fun d e => !W.dataLt e d
  | .GtE => rOrd K fun d e => !W.dataLt d e
  | .Is => fun x y H Q => (y = .non ∧ Q (.bl (decide (x = .non))) H) ∨ rIsC false x y H Q
  | .IsNot => fun x y H Q => (y = .non ∧ Q (.bl (!decide (x = .non))) H) ∨ rIsC true x y H Q
  | .In => fun x y H Q => rIn K false x y H Q ∨ (rInD K x y H Q ∨ (rInT K false x y H Q ∨ ((∃ (c : Nat) (z : Str), x = .str ⟨#[c]⟩ ∧ y = .str z ∧ Q (.bl (decide (c ∈ z.cps.toList))) H) ∨ rInK false x y H Q)))
  | .NotIn => fun x y H Q => rIn K true x y H Q ∨ (rNotInD K x y H Q ∨ (rInT K true x y H Q ∨ ((∃ (c : Nat) (z : Str), x = .str ⟨#[c]⟩ ∧ y = .str z ∧ Q (.bl (!decide (c ∈ z.cps.toList))) H) ∨ rInK true x y H Q)))
theorem opCmp (hu : X.A.units + 65 < cLine) : ∀ op, OpR X (compareOp op) (rCmp X.K op)
  | .Eq => op_eq.or (op_eqD (by omega))
  | .NotEq => op_ne.or (op_neD (by omega))
  | .Lt => op_ltD (by omega)
  | .Gt => op_gtD (by omega)
  | .LtE => op_leD (by omega)
  | .GtE => op_geD (by omega)
  | .Is => op_isN.or op_isC
  | .IsNot => op_notN.or op_isNotC
  | .In => op_in_seq.or ((op_inD hu).or ((op_inT hu).or (op_in_sign.or (op_inK (by omega)))))
  | .NotIn => op_notIn_seq.or ((op_notInD hu).or ((op_notInT hu).or (op_notIn_sign.or (op_notInK (by omega)))))
end
section
variable {K : PySem.W.Frag} {T : Tb} {W0 W : Wd} {σ : L2.St} {ρ : Env} {Q : VK}
theorem noDict_of {p : PyData} (h : SeqAt.shaped p = true) : p.hasDict = false := PyData.hasDict_of_canLay p (SeqAt.canLay_of_shaped h)
theorem scal_rd {x y : V} {dx dy : D} (h : scalD dx dy = true) (hx : RQ K W x dx) (hy : RQ K W y dy) : scal x y = true ∧ decide (x = y) = sameD dx dy := by
  cases dx <;> cases dy <;> first
    | exact absurd (show false = true from h) Bool.false_ne_true
    | (first
        | rw [rd_non hx]
        | rw [rd_bl hx]
        | rw [rd_int hx]
        | rw [rd_str hx]
       first
        | rw [rd_non hy]
        | rw [rd_bl hy]
        | rw [rd_int hy]
        | rw [rd_str hy]
       refine ⟨rfl, ?_⟩
       first
        | rfl
        | (simp only [sameD]; rw [Bool.eq_iff_iff]; simp; done)
        | (simp [sameD]; done))
theorem eqOk {dx dy : D} {x y : V} {b : Bool} (g : Good K T W0 W σ ρ) (e : eqD W.S dx dy = some b) (hx : RQ K W x dx) (hy : RQ K W y dy) (q : Q (.bl b) W.H) : rEq x y W.H Q ∨ rEqD K x y W.H Q := by
  unfold eqD at e
  split at e
  · rename_i h
    cases e
    obtain ⟨h1, h2⟩ := scal_rd h hx hy
    exact .inl ⟨h1, by rw [h2]; exact q⟩
  · unfold eqD0 at e
    split at e
    · rename_i a c e1 e2
      split at e
      · rename_i hs
        cases e
        exact .inr ⟨a, c, rd_py g.sr hx e1 (noDict_of hs.1), rd_py g.sr hy e2 (noDict_of hs.2), hs.1, hs.2, q⟩
      · cases e
    · cases e
theorem neOk {dx dy : D} {x y : V} {b : Bool} (g : Good K T W0 W σ ρ) (e : eqD W.S dx dy = some b) (hx : RQ K W x dx) (hy : RQ K W y dy) (q : Q (.bl (!b)) W.H) : rNe x y W.H Q ∨ rNeD K x y W.H Q := by
  unfold eqD at e
  split at e
  · rename_i h
    cases e
    obtain ⟨h1, h2⟩ := scal_rd h hx hy
    exact .inl ⟨h1, by rw [h2]; exact q⟩
  · unfold eqD0 at e
    split at e
    · rename_i a c e1 e2
      split at e
      · rename_i hs
        cases e
        exact .inr ⟨a, c, rd_py g.sr hx e1 (noDict_of hs.1), rd_py g.sr hy e2 (noDict_of hs.2), hs.1, hs.2, q⟩
      · cases e
    · cases e
theorem ltOk {dx dy : D} {x y : V} {b : Bool} (g : Good K T W0 W σ ρ) (e : ltD W.S dx dy = some b) (hx : RQ K W x dx) (hy : RQ K W y dy) :
    ∃ d e, Dp K W.H x d ∧ Dp K W.H y e ∧ PySem.W.alike d e = true ∧ PySem.W.alike e d = true ∧ d ≠ .none ∧ e ≠ .none ∧ d.depth ≤ 64 ∧ e.depth ≤ 64 ∧ b = PySem.W.dataLt d e := by
  unfold ltD at e
  split at e
  · rename_i a c e1 e2
    split at e
    · rename_i h
      cases e
      obtain ⟨h1, h2, h3, h4, h5, h6, h7, h8⟩ := h
      exact ⟨a, c, rd_py g.sr hx e1 h5, rd_py g.sr hy e2 h6, h1, h2, (fun (z : a = .none) => by rw [z] at h3; cases h3), (fun (z : c = .none) => by rw [z] at h4; cases h4), h7, h8, rfl⟩
    · cases e
  · cases e
theorem flat_rd {x : V} {d : D} (h : flatD d = true) (hx : RQ K W x d) : flatV x = true := by
  cases d with
  | non => rw [rd_non hx]; rfl
  | bl b => rw [rd_bl hx]; rfl
  | int i => rw [rd_int hx]; rfl
  | str z => rw [rd_str hx]; rfl
  | _ => exact absurd (show false = true from h) Bool.false_ne_true
theorem eqF_rd {x y : V} {dx dy : D} (h1 : flatD dx = true) (h2 : flatD dy = true) (hx : RQ K W x dx) (hy : RQ K W y dy) : eqV x y = eqF dx dy := by
  cases dx <;> cases dy <;> first
    | exact absurd (show false = true from h1) Bool.false_ne_true
    | exact absurd (show false = true from h2) Bool.false_ne_true
    | (first
        | rw [rd_non hx]
        | rw [rd_bl hx]
        | rw [rd_int hx]
        | rw [rd_str hx]
       first
        | rw [rd_non hy]
        | rw [rd_bl hy]
        | rw [rd_int hy]
        | rw [rd_str hy]
       rfl)
theorem flats_rd : ∀ {vs : List V} {ds : List D}, RDs K W vs ds → ds.all flatD = true → vs.all flatV = true
  | _, _, .nil, _ => rfl
  | _, _, .cons h t, e => by
    simp only [List.all_cons, Bool.and_eq_true] at e ⊢
    exact ⟨flat_rd e.1 (.of h), flats_rd t e.2⟩
theorem inF_rd {x : V} {dx : D} (h1 : flatD dx = true) (hx : RQ K W x dx) : ∀ {vs : List V} {ds : List D}, RDs K W vs ds → ds.all flatD = true → inV x vs = ds.any fun z => eqF z dx
  | _, _, .nil, _ => rfl
  | _, _, .cons h t, e => by
    simp only [List.all_cons, Bool.and_eq_true] at e
    unfold inV
    rw [List.any_cons, List.any_cons, eqF_rd e.1 h1 (.of h) hx]
    congr 1
    exact inF_rd h1 hx t e.2
theorem any_swap (ds : List PyData) (a : PyData) : (ds.any fun b => PyData.eqv b a) = ds.any fun z => PyData.eqv z a := rfl
theorem shaped_tup {bs : List PyData} (h : SeqAt.shaped (.list bs) = true) : SeqAt.shaped (.tuple bs) = true := by
  simpa [SeqAt.shaped, PyData.canLay0, PyData.depth] using h
theorem hasDictAll_of {bs : List PyData} (h : SeqAt.shaped (.list bs) = true) : PyData.hasDictAll bs = false := by
  have := noDict_of h
  simpa [PyData.hasDict] using this
/-- what in gives, either way -/
theorem inOk {dx dy : D} {x y : V} {b : Bool} (g : Good K T W0 W σ ρ) (e : inD W.S dx dy = some b) (hx : RQ K W x dx) (hy : RQ K W y dy) :
    (∃ p xs, y = .ref p ∧ (SqL K W.H p xs ∨ SqT K W.H p xs) ∧ flatV x = true ∧ xs.all flatV = true ∧ inV x xs = b) ∨
    (∃ d ds, Dp K W.H x d ∧ Dp K W.H y (.list ds) ∧ SeqAt.shaped d = true ∧ SeqAt.shaped (.list ds) = true ∧ (ds.any fun z => PyData.eqv z d) = b) ∨
    (∃ d ds, Dp K W.H x d ∧ Dp K W.H y (.tuple ds) ∧ SeqAt.shaped d = true ∧ SeqAt.shaped (.tuple ds) = true ∧ (ds.any fun z => PyData.eqv z d) = b) ∨
    (∃ (c : Nat) (z : Str), x = .str ⟨#[c]⟩ ∧ y = .str z ∧ decide (c ∈ z.cps.toList) = b) ∨
    (∃ a o, y = .ref a ∧ DGet W.H a x o ∧ o.isSome = b) := by
  unfold inD at e
  split at e
  · split at e
    · split at e
      · rename_i c _ k hk
        cases e
        refine .inr (.inr (.inr (.inl ⟨k, _, ?_, rd_str hy, rfl⟩)))
        rw [rd_str hx]
        have : c = ⟨#[k]⟩ := by
          cases c with
          | mk cps =>
            simp only at hk
            have : cps = #[k] := by
              rw [← Array.toList_inj]
              simpa using hk
            rw [this]
        rw [this]
      · cases e
    · cases e
  · split at e
    · rename_i ys eq
      split at e
      · rename_i hf
        cases e
        obtain ⟨a, vs, e1, h2, t⟩ := rd_seq g.sr hy eq
        exact .inl ⟨a, vs, e1, h2, flat_rd hf.1 hx, flats_rd t hf.2, inF_rd hf.1 hx t hf.2⟩
      · split at e
        · rename_i a bs e1 e2
          split at e
          · rename_i hs
            cases e
            have ha := rd_py g.sr hx e1 (noDict_of hs.1)
            obtain ⟨p, vs, rfl, h2, t⟩ := rd_seq g.sr hy eq
            have hb := rd_pys g.sr t e2 (hasDictAll_of hs.2)
            rcases h2 with h2 | h2
            · exact .inr (.inl ⟨a, bs, ha, .lst h2 hb, hs.1, hs.2, rfl⟩)
            · exact .inr (.inr (.inl ⟨a, bs, ha, .tup h2 hb, hs.1, shaped_tup hs.2, rfl⟩))
          · cases e
        · cases e
    · obtain ⟨p, e1, e2⟩ := Option.bind_eq_some_iff.mp e
      split at e2
      · rename_i hp
        cases e2
        obtain ⟨t, kds⟩ := p
        obtain ⟨h1, h2⟩ := hp
        cases (show t = false from h1)
        obtain ⟨a, o, h3, h4, h5⟩ := dget_rd g.sr hy e1 hx h2
        refine .inr (.inr (.inr (.inr ⟨a, o, h3, h4, ?_⟩)))
        show o.isSome = hasK kds dx
        rw [hasK_get]
        rcases h5 with ⟨rfl, h6⟩ | ⟨v, d, rfl, h6, _⟩ <;> rw [h6] <;> rfl
      · cases e2
theorem isOk {dx dy : D} {x y : V} {b : Bool} (e : cmpD W.S .Is dx dy = some b) (hx : RQ K W x dx) (hy : RQ K W y dy) : ∃ u : Unit, u = () ∧ ((y = .non ∧ decide (x = .non) = b) ∨ ∃ c, y = .bl c ∧ decide (x = .bl c) = b) := by
  refine ⟨(), rfl, ?_⟩
  have xr : ∀ (_ : Unit), dx ≠ .non → (∀ c, dx ≠ .bl c) → x ≠ .non ∧ ∀ c, x ≠ .bl c := fun _ h1 h2 => by
    rcases hx with h | ⟨a, vs, ds, rfl, _⟩ | ⟨a, t, k, rfl, _⟩
    · cases h with
      | non => exact absurd rfl h1
      | bl c => exact absurd rfl (h2 c)
      | _ => exact ⟨(fun z => nomatch z), fun c z => nomatch z⟩
    · exact ⟨(fun z => nomatch z), fun c z => nomatch z⟩
    · exact ⟨(fun z => nomatch z), fun c z => nomatch z⟩
  simp only [cmpD] at e
  cases dy with
  | non =>
    refine .inl ⟨rd_non hy, ?_⟩
    cases dx with
    | non => cases e; rw [rd_non hx]; rfl
    | bl c => cases e; rw [rd_bl hx]; rfl
    | _ => cases e; exact decide_eq_false (xr () (by simp) (by simp)).1
  | bl c =>
    refine .inr ⟨c, rd_bl hy, ?_⟩
    cases dx with
    | non => cases e; rw [rd_non hx]; rfl
    | bl d =>
      cases e
      rw [rd_bl hx, Bool.eq_iff_iff]
      simp
      exact eq_comm
    | _ => cases e; exact decide_eq_false ((xr () (by simp) (by simp)).2 c)
  | _ => cases e
theorem cmpOk {op : CmpOp} {dx dy : D} {x y : V} {b : Bool} (g : Good K T W0 W σ ρ) (e : cmpD W.S op dx dy = some b) (hx : RQ K W x dx) (hy : RQ K W y dy) (q : Q (.bl b) W.H) : rCmp K op x y W.H Q := by
  cases op with
  | Eq => exact eqOk g e hx hy q
  | NotEq =>
    simp only [cmpD, Option.map_eq_some_iff] at e
    obtain ⟨c, e, rfl⟩ := e
    exact neOk g e hx hy q
  | Lt =>
    obtain ⟨d, e', h1, h2, h3, h4, h5, h6, h7, h8, rfl⟩ := ltOk g e hx hy
    exact ⟨d, e', h1, h2, h3, h5, h7, q⟩
  | Gt =>
    obtain ⟨d, e', h1, h2, h3, h4, h5, h6, h7, h8, rfl⟩ := ltOk g e hy hx
    exact ⟨e', d, h2, h1, h4, h6, h8, q⟩
  | LtE =>
    simp only [cmpD, Option.map_eq_some_iff] at e
    obtain ⟨c, e, rfl⟩ := e
    obtain ⟨d, e', h1, h2, h3, h4, h5, h6, h7, h8, rfl⟩ := ltOk g e hy hx
    exact ⟨e', d, h2, h1, h4, h6, h8, q⟩
  | GtE =>
    simp only [cmpD, Option.map_eq_some_iff] at e
    obtain ⟨c, e, rfl⟩ := e
    obtain ⟨d, e', h1, h2, h3, h4, h5, h6, h7, h8, rfl⟩ := ltOk g e hx hy
    exact ⟨d, e', h1, h2, h3, h5, h7, q⟩
  | Is =>
    obtain ⟨dy', e1, e2⟩ := isOk e hx hy
    rcases e2 with ⟨rfl, e2⟩ | ⟨c, rfl, e2⟩
    · exact .inl ⟨rfl, by rw [e2]; exact q⟩
    · exact .inr ⟨c, rfl, by
        show Q (.bl (decide (x = .bl c))) W.H
        rw [e2]; exact q⟩
  | IsNot =>
    have e' : cmpD W.S .Is dx dy = some (!b) := by
      unfold cmpD at e ⊢
      cases dy <;> first
        | (cases e; done)
        | (cases dx <;> cases e <;> first | rfl | simp)
    obtain ⟨dy', e1, e2⟩ := isOk e' hx hy
    rcases e2 with ⟨rfl, e2⟩ | ⟨c, rfl, e2⟩
    · exact .inl ⟨rfl, by rw [e2, Bool.not_not]; exact q⟩
    · exact .inr ⟨c, rfl, by
        show Q (.bl (!decide (x = .bl c))) W.H
        rw [e2, Bool.not_not]; exact q⟩
  | In =>
    rcases inOk g e hx hy with ⟨p, xs, h1, h2, h3, h4, h5⟩ | ⟨d, ds, h1, h2, h3, h4, h5⟩ | ⟨d, ds, h1, h2, h3, h4, h5⟩ | ⟨c, z, h1, h2, h3⟩ | ⟨a, o, h1, h2, h3⟩
    · exact .inl ⟨p, xs, h1, h2, h3, h4, by subst h5; exact q⟩
    · exact .inr (.inl ⟨d, ds, h1, h2, h3, h4, by rw [h5]; exact q⟩)
    · exact .inr (.inr (.inl ⟨d, ds, h1, h2, h3, h4, by subst h5; exact q⟩))
    · exact .inr (.inr (.inr (.inl ⟨c, z, h1, h2, by rw [h3]; exact q⟩)))
    · exact .inr (.inr (.inr (.inr ⟨a, o, h1, h2, by subst h3; exact q⟩)))
  | NotIn =>
    simp only [cmpD, Option.map_eq_some_iff] at e
    obtain ⟨c, e, rfl⟩ := e
    rcases inOk g e hx hy with ⟨p, xs, h1, h2, h3, h4, h5⟩ | ⟨d, ds, h1, h2, h3, h4, h5⟩ | ⟨d, ds, h1, h2, h3, h4, h5⟩ | ⟨c, z, h1, h2, h3⟩ | ⟨a, o, h1, h2, h3⟩
    · exact .inl ⟨p, xs, h1, h2, h3, h4, by subst h5; exact q⟩
    · exact .inr (.inl ⟨d, ds, h1, h2, h3, h4, by rw [h5]; exact q⟩)
    · exact .inr (.inr (.inl ⟨d, ds, h1, h2, h3, h4, by subst h5; exact q⟩))
    · exact .inr (.inr (.inr (.inl ⟨c, z, h1, h2, by rw [h3]; exact q⟩)))
    · exact .inr (.inr (.inr (.inr ⟨a, o, h1, h2, by subst h3; exact q⟩)))
end
end Iv
/-! Sv4: expressions, one construct at a time -/
namespace Iv
open PySem PySem.Spec PyProof.Rows L2
/-! ### calls of defs -/
/-- what a def hands back: a value for good, or a new list or dict -/
def RF (K : PySem.W.Frag) (W W' : Wd) (v : V) : R → Prop
  | .v d => RD K W' v d
  | .ol ds => ∃ a vs, v = .ref a ∧ W'.H a = some (.lst vs) ∧ RDs K W' vs ds ∧ ¬ W'.F a ∧ ¬ W'.B a ∧ W.H a = none
  | .od t kds => ∃ a, v = .ref a ∧ DctAt K W' a t kds ∧ ¬ W'.F a ∧ ¬ W'.B a ∧ W.H a = none
/-- the promise of a def by its run g -/
def spI (K : PySem.W.Frag) (T : Tb) (np : Nat) (g : List D → Sto → ResF) : Sp := fun vs H Q E => vs.length = np ∧ ∃ (W : Wd) (ds : List D), W.H = H ∧ SR K T W ∧ RDs K W vs ds ∧ (match g ds W.S with
  | .ok r S' => ∀ v W', W'.S = S' → SR K T W' → Ext W W' (fun _ => False) → RF K W W' v r → Q v W'.H
  | .exc c xs S' => ∀ cls d W', W'.S = S' → SR K T W' → Ext W W' (fun _ => False) → XR W' cls d c xs → E cls d W'.H
  | .err => False)
def nostar : Expr → Bool
  | .Starred _ _ => false
  | _ => true
theorem star_ns {e : Expr} {es : List Expr} {env : PySem.Env} (h : nostar e = true) : starEach (e :: es) env = (false, eval e env) :: starEach es env := by
  cases e <;> first | rfl | cases h
theorem any_ns {pos : Pos} {env : PySem.Env} : ∀ {es : List Expr}, es.all nostar = true → (backTo pos (starEach es env)).any (·.1) = false
  | [], _ => rfl
  | e :: es, h => by
    simp only [List.all_cons, Bool.and_eq_true] at h
    rw [star_ns h.1]
    show ((false, _) :: backTo pos (starEach es env)).any (·.1) = false
    rw [List.any_cons, any_ns h.2]
    rfl
section
variable {K : PySem.W.Frag} {T : Tb} {W0 W W' : Wd} {σ : L2.St} {ρ ρ' : Env}
theorem Good.call (g : Good K T W0 W σ ρ) (s' : SR K T W') (e : Ext W W' fun _ => False) : Good K T W0 W' σ ρ := by
  refine ⟨g.s0, g.ext.trans g.s0 e fun _ z => z.elim, s', g.er.len, fun i s h => ?_, g.er.ap⟩
  refine (g.er.ok i s h).mono (e.mono g.sr) fun os a hx => ?_
  have o := g.ownAt ⟨i, s, h, os, hx⟩
  refine ⟨fun u hu => e.h _ _ hu o.2.2.1, fun f => ?_, fun b => ?_⟩
  · rcases e.f2 a f with f | f | f
    · exact f
    · exact absurd f o.1
    · exact f.elim
  · cases q : W.H a with
    | none => exact absurd q o.1
    | some u => exact absurd b (e.notB g.sr q o.2.2.1)
theorem Step.call (e : Ext W W' fun _ => False) : Step σ W ρ W' ρ := ⟨e.weak fun _ z => z.elim, EnvLe.refl ρ⟩
theorem RF.rr {v : V} {r : R} (g : Good K T W0 W σ ρ) (h : RF K W W' v r) : RR K W0 σ W ρ W' ρ v r := by
  cases r with
  | v d => exact h
  | ol ds =>
    obtain ⟨a, vs, e, h1, h2, h3, h4, h5⟩ := h
    exact ⟨a, vs, e, ⟨h1, h2, h3, h4, g.fresh0 h5⟩, g.notOwn h5, h5⟩
  | od t kds =>
    obtain ⟨a, e, h1, h3, h4, h5⟩ := h
    exact ⟨a, e, ⟨h1, h3, h4, g.fresh0 h5⟩, g.notOwn h5, h5⟩
end
section
variable {X : Cx} {T : Tb} {W0 : Wd} {wish : Wish} {P : Pg} {cf cm : Nat → List D → Sto → ResF}
variable (T W0 wish P cf cm) in
/-- an expression's reading -/
abbrev tE (K : PySem.W.Frag) (e : E) : TE := tG K T W0 wish (evE P cf cm e) (rV K T W0)
variable (T W0 wish P cf cm) in
/-- .. as an operand -/
abbrev tO (K : PySem.W.Frag) (e : E) : TE := tG K T W0 wish (pk e (evE P cf cm e)) (rO K T)
variable (T W0 wish P cf cm) in
abbrev tOs (K : PySem.W.Frag) (es : List E) : TA := tG K T W0 wish (evPs P cf cm es) (rOs K T)
variable (T W0 wish P cf cm) in
abbrev tEs (K : PySem.W.Frag) (es : List E) : TA := tG K T W0 wish (evEs P cf cm es) (rDs K T)
/-! ### constants, names -/
theorem sn_bad {x : Expr} : PE X x (tE T W0 wish P cf cm X.K .bad) := ⟨fun pins s σ H Q I h => by
  obtain ⟨W, ρ, _, _, h⟩ := h
  exact h.elim⟩
theorem sn_c {e : E} {x : Expr} {v : V} {d : D} (h : PE X x (tC v)) (r : ∀ W, RD X.K W v d) (he : ∀ ρ S, evE P cf cm e ρ S = .ok (.v d) ρ S) : PE X x (tE T W0 wish P cf cm X.K e) := by
  refine Iv.PE.imp h fun σ H Q q => ?_
  obtain ⟨W, ρ, rfl, g, q⟩ := q
  rw [he] at q
  exact q.ok g (r W)
theorem sn_glob {gi : Nat} {x : Str} {p : Pos} {u : Value} {v : V} {d : D} (hg : Gl X x) (hm : X.mg x = some u) (r : RelV v u) (hd : (x == ("__debug__" : Str)) = false) (hr : ∀ W, RD X.K W v d) (he : P.glo[gi]? = some d) :
    PE X (.Name x p) (tE T W0 wish P cf cm X.K (.glob gi)) := by
  refine Iv.PE.imp (pe_glob hg hm r hd) fun σ H Q q => ?_
  obtain ⟨W, ρ, rfl, g, q⟩ := q
  simp only [evE, he, Option.map_some] at q
  exact Dm.ok q g (hr W)
theorem own_set {ρ : Env} {σ : L2.St} {i : Nat} {d : D} {s : Slot} (hs : ρ[i]? = some s) {x : Addr} (h : OwnS σ (ρ.set i (.v d)) x) : OwnS σ ρ x ∧ ∀ a, σ[i]? = some (some (.ref a)) → s.own = true → True := by
  obtain ⟨j, t, h1, h2, h3⟩ := h
  by_cases e : i = j
  · subst e
    by_cases hl : i < ρ.length
    · rw [List.getElem?_set_self hl] at h1
      cases h1
      cases h2
    · rw [List.getElem?_eq_none (by simpa using hl)] at h1
      cases h1
  · rw [List.getElem?_set_ne e] at h1
    exact ⟨⟨j, t, h1, h2, h3⟩, fun _ _ _ => trivial⟩
theorem envLe_set {ρ : Env} {i : Nat} {t : Slot} (ht : t.own = false) : EnvLe ρ (ρ.set i t) := by
  refine ⟨List.length_set, fun j s h o => ?_⟩
  by_cases e : i = j
  · subst e
    by_cases hl : i < ρ.length
    · rw [List.getElem?_set_self hl] at h
      cases h
      rw [ht] at o; cases o
    · rw [List.getElem?_eq_none (by simpa using hl)] at h
      cases h
  · rw [List.getElem?_set_ne e] at h
    exact h
/-- a slot put otherwise, no list of its own -/
theorem Good.setN {W W' : Wd} {σ : L2.St} {ρ : Env} {i : Nat} {t : Slot} (g : Good X.K T W0 W σ ρ) (ht : t.own = false) (hok : SlotOk X.K W0 W' σ[i]? t) (hS : SR X.K T W') (hE : Ext W0 W' fun _ => False)
    (m : Mono W W') (k : ∀ j s a, j ≠ i → ρ[j]? = some s → s.own = true → σ[j]? = some (some (.ref a)) → (∀ u, W.H a = some u → W'.H a = some u) ∧ (W'.F a → W.F a) ∧ (W'.B a → W.B a)) : Good X.K T W0 W' σ (ρ.set i t) := by
  refine ⟨g.s0, hE, hS, by rw [List.length_set]; exact g.er.len, fun j s h => ?_, fun j l a s u h1 h2 o1 o2 e1 e2 => ?_⟩
  · by_cases e : i = j
    · subst e
      by_cases hl : i < ρ.length
      · rw [List.getElem?_set_self hl] at h
        cases h
        exact hok
      · rw [List.getElem?_eq_none (by simpa using hl)] at h
        cases h
    · rw [List.getElem?_set_ne e] at h
      exact (g.er.ok j s h).mono m fun os a hx => k j s a (fun z => e z.symm) h os hx
  · have le := envLe_set (ρ := ρ) (i := i) ht
    exact g.er.ap j l a s u (le.2 j s h1 o1) (le.2 l u h2 o2) o1 o2 e1 e2
/-- the slot's own list frozen -/
theorem Good.frzSlot {W : Wd} {σ : L2.St} {ρ : Env} {i : Nat} {s t : Slot} {a : Addr} (g : Good X.K T W0 W σ ρ) (hs : ρ[i]? = some s) (os : s.own = true) (ha : σ[i]? = some (some (.ref a))) (ht : t.own = false)
    (hok : SlotOk X.K W0 (W.frz a) σ[i]? t) : Good X.K T W0 (W.frz a) σ (ρ.set i t) ∧ Step σ W ρ (W.frz a) (ρ.set i t) := by
  have own : OwnS σ ρ a := ⟨i, s, hs, os, ha⟩
  obtain ⟨o1, o2, o3, o4⟩ := g.ownAt own
  refine ⟨g.setN ht hok (g.sr.frz o1 o3) (g.ext.trans g.s0 (frzExt (own := fun x => x = a) (.inr rfl)) fun x e => .inr (by rw [e]; exact o4)) frzMono fun j u b hj h1 h2 h3 => ⟨fun _ h => h, fun f => ?_, fun z => z⟩, ⟨frzExt (.inr own), envLe_set ht⟩⟩
  rcases f with f | f
  · exact f
  · subst f
    exact absurd (g.er.ap j i b u s h1 hs h2 os h3 ha) hj
theorem pe_varO {i : Nat} {x : Str} {p : Pos} (h : PE X (.Name x p) (tVar i)) : PE X (.Name x p) (tO T W0 wish P cf cm X.K (.var i)) := by
  refine Iv.PE.imp h fun σ H Q q => ?_
  obtain ⟨W, ρ, rfl, g, q⟩ := q
  simp only [pk] at q
  obtain ⟨d, e, q⟩ := q.of
  cases hs : ρ[i]? with
  | none => rw [hs] at e; cases e
  | some s =>
    rw [hs] at e
    have ok := g.er.ok i s hs
    cases s with
    | no => cases e
    | v d' =>
      cases e
      obtain ⟨v, e, r⟩ := ok
      exact ⟨v, e, q.ok g (.inl r)⟩
    | ol xs =>
      cases e
      obtain ⟨a, vs, e, h1, h2, h3, h4, h5⟩ := ok
      exact ⟨.ref a, e, q.ok g (.inr (.inl ⟨a, vs, xs, rfl, rfl, h1, h2, h4⟩))⟩
    | od t kvs =>
      cases e
      obtain ⟨a, e, h1, h3, h4, h5⟩ := ok
      exact ⟨.ref a, e, q.ok g (.inr (.inr ⟨a, t, kvs, rfl, rfl, h1, h4⟩))⟩
theorem rd_frzL {W : Wd} {a : Addr} {vs : List V} {xs : List D} (h1 : W.H a = some (.lst vs)) (h2 : RDs X.K W vs xs) : RD X.K (W.frz a) (.ref a) (.lst xs) := .lst (.inl (.inr rfl)) (.inl (.inl h1)) (h2.mono frzMono)
theorem rd_frzD {W : Wd} {a : Addr} {t : Bool} {kds : List (D × D)} (h1 : DctAt X.K W a t kds) : RD X.K (W.frz a) (.ref a) (.dct t kds) := by
  rcases h1 with ⟨rfl, kvs, ds, q1, q2, q3⟩ | ⟨rfl, kvs, ds, q1, q2, q3⟩
  · subst q3
    exact .dK (.inr rfl) (.inl q1) rfl (q2.mono frzMono)
  · subst q3
    exact .dT (.inr rfl) q1 rfl (q2.mono frzMono)
theorem sn_var {i : Nat} {x : Str} {p : Pos} (h : PE X (.Name x p) (tVar i)) : PE X (.Name x p) (tE T W0 wish P cf cm X.K (.var i)) := by
  refine Iv.PE.imp h fun σ H Q q => ?_
  obtain ⟨W, ρ, rfl, g, q⟩ := q
  simp only [evE] at q
  cases hs : ρ[i]? with
  | none => rw [hs] at q; exact q.elim
  | some s =>
    rw [hs] at q
    have ok := g.er.ok i s hs
    cases s with
    | no => exact q.elim
    | v d' =>
      obtain ⟨v, e, r⟩ := ok
      exact ⟨v, e, Dm.ok q g r⟩
    | ol xs =>
      obtain ⟨a, vs, e, h1, h2, h3, h4, h5⟩ := ok
      obtain ⟨g', st⟩ := g.frzSlot (t := .v (.lst xs)) hs rfl e rfl ⟨.ref a, e, rd_frzL h1 h2⟩
      exact ⟨.ref a, e, q (.ref a) (W.frz a) rfl g' st (rd_frzL h1 h2)⟩
    | od t kvs =>
      obtain ⟨a, e, h1, h3, h4, h5⟩ := ok
      obtain ⟨g', st⟩ := g.frzSlot (t := .v (.dct t kvs)) hs rfl e rfl ⟨.ref a, e, rd_frzD h1⟩
      exact ⟨.ref a, e, q (.ref a) (W.frz a) rfl g' st (rd_frzD h1)⟩
/-- the slot's own moved away -/
theorem Good.moved {W : Wd} {σ : L2.St} {ρ : Env} {i : Nat} (g : Good X.K T W0 W σ ρ) : Good X.K T W0 W σ (ρ.set i .no) ∧ Step σ W ρ W (ρ.set i .no) :=
  ⟨g.setN rfl trivial g.sr g.ext (Mono.refl W) fun _ _ _ _ _ _ _ => ⟨fun _ h => h, fun h => h, fun h => h⟩, ⟨Ext.refl W, envLe_set rfl⟩⟩
theorem notOwn_set {σ : L2.St} {ρ : Env} {i : Nat} {s : Slot} {a : Addr} {W : Wd} (g : Good X.K T W0 W σ ρ) (hs : ρ[i]? = some s) (os : s.own = true) (ha : σ[i]? = some (some (.ref a))) : ¬ OwnS σ (ρ.set i .no) a := by
  rintro ⟨j, t, h1, h2, h3⟩
  by_cases e : i = j
  · subst e
    by_cases hl : i < ρ.length
    · rw [List.getElem?_set_self hl] at h1
      cases h1
      cases h2
    · rw [List.getElem?_eq_none (by simpa using hl)] at h1
      cases h1
  · rw [List.getElem?_set_ne e] at h1
    exact e (g.er.ap i j a s t hs h1 os h2 ha h3)
/-- an operand that is no name: as a value -/
theorem sn_o {e : E} {x : Expr} (hn : ∀ i, e ≠ .var i) (h : PE X x (tE T W0 wish P cf cm X.K e)) : PE X x (tO T W0 wish P cf cm X.K e) := by
  refine Iv.PE.imp h fun σ H Q q => ?_
  obtain ⟨W, ρ, rfl, g, q⟩ := q
  have e1 : pk e (evE P cf cm e) ρ W.S = (evE P cf cm e ρ W.S).bind fun r ρ S => .ok r.d ρ S := by
    cases e <;> first | rfl | exact absurd rfl (hn _)
  rw [e1] at q
  refine ⟨W, ρ, rfl, g, ?_⟩
  generalize evE P cf cm e ρ W.S = m at q ⊢
  cases m with
  | ok r ρ' S' =>
    intro v W' hS g' st rr
    obtain ⟨W2, e2, e3, g2, st2, rd⟩ := toD g' st rr
    rw [← e3]
    exact q v W2 (e2.trans hS) g2 st2 (.inl rd)
  | exc c vs ρ' S' => exact q
  | err => exact q.elim
end
end Iv
/-! Sv5: expressions, operators, displays, calls -/
namespace Iv
open PySem PySem.Spec PyProof.Rows L2
theorem Res.bind_assoc {α β γ : Type} (m : Res α) (f : α → Env → Sto → Res β) (h : β → Env → Sto → Res γ) : (m.bind f).bind h = m.bind fun a ρ S => (f a ρ S).bind h := by
  cases m <;> rfl
section
variable {K : PySem.W.Frag} {T : Tb} {W0 W : Wd} {wish : Wish} {σ : L2.St} {ρ : Env} {α β γ δ : Type}
/-- the first part of a bind -/
theorem tG.step {RF : (σ : L2.St) → Rl K T σ δ γ} {RA : Rl K T σ β α} {f : Env → Sto → Res γ} {k : γ → Env → Sto → Res α} {Q : β → Hp → Prop} {Q' : δ → Hp → Prop}
    (g : Good K T W0 W σ ρ) (q : Dm K T W0 wish ((f ρ W.S).bind k) W σ ρ RA Q)
    (h : ∀ x W1 ρ1 a, Good K T W0 W1 σ ρ1 → Step σ W ρ W1 ρ1 → (RF σ).r W ρ W1 ρ1 x a → Dm K T W0 wish (k a ρ1 W1.S) W1 σ ρ1 RA Q → Q' x W1.H) : tG K T W0 wish f RF σ W.H Q' :=
  ⟨W, ρ, rfl, g, Dm.imp (Dm.bind (RF := RF σ) g.sr q) fun x H ⟨W1, ρ1, a, e, g1, st, r, q1⟩ => by subst e; exact h x W1 ρ1 a g1 st r q1⟩
end
section
variable {X : Cx} {T : Tb} {W0 : Wd} {wish : Wish} {P : Pg} {cf cm : Nat → List D → Sto → ResF}
variable (T W0 wish P cf cm) in
/-- .. as a value for good -/
abbrev tD (K : PySem.W.Frag) (e : E) : TE := tG K T W0 wish (fun ρ S => (evE P cf cm e ρ S).bind fun r ρ S => .ok r.d ρ S) (rD K T)
variable (T W0 wish P cf cm) in
/-- .. as a test -/
abbrev tT (K : PySem.W.Frag) (e : E) : TT := tG K T W0 wish (fun ρ S => (pk e (evE P cf cm e) ρ S).bind fun x ρ S => .of (truthD S x) ρ S) (rB K T)
variable (T W0 wish P cf cm) in
abbrev tTe (K : PySem.W.Frag) (e : E) : TT := tG K T W0 wish (fun ρ S => (evE P cf cm e ρ S).bind fun r ρ S => .of (truthD S r.d) ρ S) (rB K T)
theorem sn_d {e : E} {x : Expr} (h : PE X x (tE T W0 wish P cf cm X.K e)) : PE X x (tD T W0 wish P cf cm X.K e) := by
  refine Iv.PE.imp h fun σ H Q q => ?_
  obtain ⟨W, ρ, rfl, g, q⟩ := q
  refine ⟨W, ρ, rfl, g, ?_⟩
  dsimp only at q
  generalize evE P cf cm e ρ W.S = m at q ⊢
  cases m with
  | ok r ρ' S' =>
    intro v W' hS g' st rr
    obtain ⟨W2, e2, e3, g2, st2, rd⟩ := toD g' st rr
    rw [← e3]
    exact q v W2 (e2.trans hS) g2 st2 rd
  | exc c vs ρ' S' => exact q
  | err => exact q.elim
/-- truths -/
theorem tru_rd {W : Wd} {v : V} {d : D} {b : Bool} (s : SR X.K T W) (h : RQ X.K W v d) (e : truthD W.S d = some b) : TruV X.K v W.H b := by
  cases d with
  | non => rw [rd_non h]; cases e; rfl
  | bl c => rw [rd_bl h]; cases e; rfl
  | int i => rw [rd_int h]; cases e; rfl
  | str z =>
    rw [rd_str h]
    simp only [truthD] at e
    split at e
    · cases e
      refine ⟨by assumption, ?_⟩
      rw [Bool.eq_iff_iff]; simp [bne]
    · cases e
  | tup xs =>
    cases e
    obtain ⟨a, vs, rfl, h1, h2⟩ := rd_tup h
    exact .inr (.inl ⟨vs, h1.sq, by cases h2 <;> rfl⟩)
  | lst xs =>
    cases e
    obtain ⟨a, vs, rfl, h1, h2⟩ := rd_lst s h rfl
    exact .inl ⟨vs, h1, by cases h2 <;> rfl⟩
  | dct t kvs => cases e
  | ref id =>
    simp only [truthD, cellAt] at e
    cases q : W.S[id]? with
    | none => rw [q] at e; cases e
    | some c =>
      rw [q] at e
      cases c with
      | lst xs =>
        cases e
        obtain ⟨a, vs, rfl, h1, h2⟩ := rd_lst (xs := xs) s h (by simp [lstD, cellAt, q])
        exact .inl ⟨vs, h1, by cases h2 <;> rfl⟩
      | dct t kvs =>
        cases t with
        | true => cases e
        | false =>
          cases e
          rcases h with h | ⟨a, vs, ds, rfl, h, _⟩ | ⟨a, t, kds, rfl, h, _⟩
          · cases h with
            | ref hi =>
              have hc := s.cell id _ q
              rcases hc with ⟨_, kv2, ds, h1, h2, h3⟩ | ⟨h0, _⟩
              · refine .inr (.inr ⟨kv2, h1, ?_⟩)
                subst h3
                have hl := h2.length
                cases kv2 with
                | nil => cases h2; rfl
                | cons p r =>
                  cases ds with
                  | nil => cases h2
                  | cons d ds => rfl
              · cases h0
          · cases h
          · cases h
      | ins c fs => cases e
  | exc c vs => cases e
theorem pt_plain {e : E} {x : Expr} (h : PE X x (tO T W0 wish P cf cm X.K e)) (he : ∀ whole, isTrue x X.env whole = (do let v ← whole; standAt x.pos; holding [v] (truthy v))) : PT X x (tT T W0 wish P cf cm X.K e) := by
  refine Iv.PT.imp (pt_truth h he) fun σ H Q q => ?_
  obtain ⟨W, ρ, rfl, g, q⟩ := q
  refine tG.step g q fun v W1 ρ1 d g1 st1 r q => ?_
  obtain ⟨b, e, q⟩ := q.of
  exact ⟨b, tru_rd g1.sr r e, q.ok g1 rfl⟩
theorem pt_plainE {e : E} {x : Expr} (h : PE X x (tD T W0 wish P cf cm X.K e)) (he : ∀ whole, isTrue x X.env whole = (do let v ← whole; standAt x.pos; holding [v] (truthy v))) : PT X x (tTe T W0 wish P cf cm X.K e) := by
  refine Iv.PT.imp (pt_truth h he) fun σ H Q q => ?_
  obtain ⟨W, ρ, rfl, g, q⟩ := q
  have e1 : ((evE P cf cm e ρ W.S).bind fun r ρ S => Res.of (truthD S r.d) ρ S) = ((evE P cf cm e ρ W.S).bind fun r ρ S => Res.ok r.d ρ S).bind fun d ρ S => Res.of (truthD S d) ρ S := by
    rw [Res.bind_assoc]; rfl
  dsimp only at q
  rw [e1] at q
  refine tG.step (f := fun ρ S => (evE P cf cm e ρ S).bind fun r ρ S => Res.ok r.d ρ S) g q fun v W1 ρ1 d g1 st1 r q => ?_
  obtain ⟨b, e, q⟩ := q.of
  exact ⟨b, tru_rd g1.sr (.of r) e, q.ok g1 rfl⟩
/-- a test of no name: one reading -/
theorem tT_of {e : E} {x : Expr} (hn : ∀ i, e ≠ .var i) (h : PT X x (tTe T W0 wish P cf cm X.K e)) : PT X x (tT T W0 wish P cf cm X.K e) := by
  refine Iv.PT.imp h fun σ H Q q => ?_
  obtain ⟨W, ρ, rfl, g, q⟩ := q
  refine ⟨W, ρ, rfl, g, ?_⟩
  have e1 : pk e (evE P cf cm e) ρ W.S = (evE P cf cm e ρ W.S).bind fun r ρ S => .ok r.d ρ S := by
    cases e <;> first | rfl | exact absurd rfl (hn _)
  dsimp only at q
  rw [e1, Res.bind_assoc] at q
  exact q
/-! ### operators -/
theorem sn_bin {op : Operator} {a b : E} {xa xb : Expr} {pos : Pos} (ha : PE X xa (tO T W0 wish P cf cm X.K a)) (hb : PE X xb (tO T W0 wish P cf cm X.K b)) : PE X (.BinOp xa op xb pos) (tE T W0 wish P cf cm X.K (.bin op a b)) := by
  refine Iv.PE.imp (pe_op (opBin op) ha hb) fun σ H Q q => ?_
  obtain ⟨W, ρ, rfl, g, q⟩ := q
  simp only [evE] at q
  refine tG.step g q fun x W1 ρ1 dx g1 st1 rx q => ?_
  refine tG.step g1 q fun y W2 ρ2 dy g2 st2 ry q => ?_
  obtain ⟨r, e, q⟩ := q.of
  exact binOk g2 e (rx.ext g1.sr st2.e) ry q
theorem sn_neg {a : E} {xa : Expr} {pos : Pos} (ha : PE X xa (tO T W0 wish P cf cm X.K a)) : PE X (.UnaryOp .USub xa pos) (tE T W0 wish P cf cm X.K (.neg a)) := by
  refine Iv.PE.imp (pe_un un_neg ha) fun σ H Q q => ?_
  obtain ⟨W, ρ, rfl, g, q⟩ := q
  simp only [evE] at q
  refine tG.step g q fun x W1 ρ1 dx g1 st1 rx q => ?_
  cases dx with
  | int i =>
    rw [rd_int rx]
    exact ⟨i, rfl, Dm.ok q g1 (.int _)⟩
  | _ => exact q.elim
theorem sn_not {a : E} {xa : Expr} {pos : Pos} (ha : PE X xa (tO T W0 wish P cf cm X.K a)) : PE X (.UnaryOp .Not xa pos) (tE T W0 wish P cf cm X.K (.not a)) := by
  refine Iv.PE.imp (pe_notT ha) fun σ H Q q => ?_
  obtain ⟨W, ρ, rfl, g, q⟩ := q
  simp only [evE] at q
  refine tG.step g q fun x W1 ρ1 dx g1 st1 rx q => ?_
  cases e : truthD W1.S dx with
  | none => rw [e] at q; exact q.elim
  | some b =>
    rw [e] at q
    exact ⟨b, tru_rd g1.sr rx e, Dm.ok q g1 (.bl _)⟩
theorem snT_not {a : E} {xa : Expr} {pos : Pos} (ha : PT X xa (tT T W0 wish P cf cm X.K a)) : PT X (.UnaryOp .Not xa pos) (tTe T W0 wish P cf cm X.K (.not a)) := by
  refine Iv.PT.imp (pt_not ha) fun σ H Q q => ?_
  obtain ⟨W, ρ, rfl, g, q⟩ := q
  have e1 : ((evE P cf cm (.not a) ρ W.S).bind fun r ρ S => Res.of (truthD S r.d) ρ S) = ((pk a (evE P cf cm a) ρ W.S).bind fun x ρ S => .of (truthD S x) ρ S).bind fun b ρ S => Res.ok (!b) ρ S := by
    simp only [evE]
    rw [Res.bind_assoc, Res.bind_assoc]
    congr 1
    funext x ρ S
    rw [Res.bind_assoc]
    rfl
  dsimp only at q
  rw [e1] at q
  exact tG.step (f := fun ρ S => (pk a (evE P cf cm a) ρ S).bind fun x ρ S => .of (truthD S x) ρ S) g q fun x W1 ρ1 dx g1 st1 rx q => Dm.ok q g1 (by show (!x) = !dx; rw [show x = dx from rx])
theorem sn_cmp {op : CmpOp} {a b : E} {xa xb : Expr} {pos : Pos} (hu : X.A.units + 65 < cLine) (ha : PE X xa (tO T W0 wish P cf cm X.K a)) (hb : PE X xb (tO T W0 wish P cf cm X.K b)) (hm : behindInMarks op xb = false) :
    PE X (.Compare xa [op] [xb] pos) (tE T W0 wish P cf cm X.K (.cmp op a b)) := by
  refine Iv.PE.imp (pe_cmpR (opCmp hu op) ha hb hm) fun σ H Q q => ?_
  obtain ⟨W, ρ, rfl, g, q⟩ := q
  simp only [evE] at q
  refine tG.step g q fun x W1 ρ1 dx g1 st1 rx q => ?_
  refine tG.step g1 q fun y W2 ρ2 dy g2 st2 ry q => ?_
  obtain ⟨r, e, q⟩ := q.of
  obtain ⟨c, e2, rfl⟩ := Option.map_eq_some_iff.mp e
  exact cmpOk g2 e2 (rx.ext g1.sr st2.e) ry (Dm.ok q g2 (.bl _))
theorem snT_cmp {op : CmpOp} {a b : E} {xa xb : Expr} {pos : Pos} (hu : X.A.units + 65 < cLine) (ha : PE X xa (tO T W0 wish P cf cm X.K a)) (hb : PE X xb (tO T W0 wish P cf cm X.K b)) (hm : behindInMarks op xb = false) :
    PT X (.Compare xa [op] [xb] pos) (tTe T W0 wish P cf cm X.K (.cmp op a b)) := by
  refine Iv.PT.imp (pt_cmpR (opCmp hu op) ha hb hm) fun σ H Q q => ?_
  obtain ⟨W, ρ, rfl, g, q⟩ := q
  simp only [evE] at q
  rw [Res.bind_assoc] at q
  refine tG.step g q fun x W1 ρ1 dx g1 st1 rx q => ?_
  rw [Res.bind_assoc] at q
  refine tG.step g1 q fun y W2 ρ2 dy g2 st2 ry q => ?_
  cases e : cmpD W2.S op dx dy with
  | none => rw [e] at q; exact q.elim
  | some c =>
    rw [e] at q
    exact cmpOk g2 e (rx.ext g1.sr st2.e) ry ⟨c, rfl, Dm.ok q g2 rfl⟩
theorem sn_cmp2 {op op' : CmpOp} {a b c : E} {xa xb xc : Expr} {pos : Pos} (hu : X.A.units + 65 < cLine) (ha : PE X xa (tO T W0 wish P cf cm X.K a)) (hb : PE X xb (tO T W0 wish P cf cm X.K b)) (hc : PE X xc (tO T W0 wish P cf cm X.K c))
    (hm : lastMarks [op, op'] [xb, xc] = false) : PE X (.Compare xa [op, op'] [xb, xc] pos) (tE T W0 wish P cf cm X.K (.cmp2 op op' a b c)) := by
  refine Iv.PE.imp (pe_chain (opCmp hu op) (opCmp hu op') ha hb hc hm) fun σ H Q q => ?_
  obtain ⟨W, ρ, rfl, g, q⟩ := q
  simp only [evE] at q
  refine tG.step g q fun x W1 ρ1 dx g1 st1 rx q => ?_
  refine tG.step g1 q fun y W2 ρ2 dy g2 st2 ry q => ?_
  cases e : cmpD W2.S op dx dy with
  | none => rw [e] at q; exact q.elim
  | some r =>
    rw [e] at q
    refine cmpOk g2 e (rx.ext g1.sr st2.e) ry ⟨r, rfl, ?_⟩
    cases r with
    | false => exact iteF (Dm.ok q g2 (.bl _))
    | true =>
      refine iteT ?_
      refine tG.step g2 q fun z W3 ρ3 dz g3 st3 rz q => ?_
      obtain ⟨r, e, q⟩ := q.of
      obtain ⟨c, e2, rfl⟩ := Option.map_eq_some_iff.mp e
      exact cmpOk g3 e2 (ry.ext g2.sr st3.e) rz (Dm.ok q g3 (.bl _))
theorem snT_cmp2 {op op' : CmpOp} {a b c : E} {xa xb xc : Expr} {pos : Pos} (hu : X.A.units + 65 < cLine) (ha : PE X xa (tO T W0 wish P cf cm X.K a)) (hb : PE X xb (tO T W0 wish P cf cm X.K b)) (hc : PE X xc (tO T W0 wish P cf cm X.K c))
    (hm : lastMarks [op, op'] [xb, xc] = false) : PT X (.Compare xa [op, op'] [xb, xc] pos) (tTe T W0 wish P cf cm X.K (.cmp2 op op' a b c)) := by
  refine Iv.PT.imp (pt_chain (opCmp hu op) (opCmp hu op') ha hb hc hm) fun σ H Q q => ?_
  obtain ⟨W, ρ, rfl, g, q⟩ := q
  simp only [evE] at q
  rw [Res.bind_assoc] at q
  refine tG.step g q fun x W1 ρ1 dx g1 st1 rx q => ?_
  rw [Res.bind_assoc] at q
  refine tG.step g1 q fun y W2 ρ2 dy g2 st2 ry q => ?_
  rw [Res.bind_assoc] at q
  cases e : cmpD W2.S op dx dy with
  | none => rw [e] at q; exact q.elim
  | some r =>
    rw [e] at q
    refine cmpOk g2 e (rx.ext g1.sr st2.e) ry ⟨r, rfl, ?_⟩
    cases r with
    | false => exact iteF ⟨false, rfl, Dm.ok q g2 rfl⟩
    | true =>
      refine iteT ?_
      have q : Dm X.K T W0 wish (((pk c (evE P cf cm c) ρ2 W2.S).bind fun z ρ S => Res.of ((cmpD S op' dy z).map fun b => R.v (.bl b)) ρ S).bind fun r ρ S => Res.of (truthD S r.d) ρ S) W2 σ ρ2 (rB X.K T σ) Q := q
      rw [Res.bind_assoc] at q
      refine tG.step g2 q fun z W3 ρ3 dz g3 st3 rz q => ?_
      cases e : cmpD W3.S op' dy dz with
      | none => rw [e] at q; exact q.elim
      | some c =>
        rw [e] at q
        exact cmpOk g3 e (ry.ext g2.sr st3.e) rz ⟨c, rfl, Dm.ok q g3 rfl⟩
theorem sn_ite {c a b : E} {xc xa xb : Expr} {pos : Pos} (hc : PT X xc (tT T W0 wish P cf cm X.K c)) (ha : PE X xa (tE T W0 wish P cf cm X.K a)) (hb : PE X xb (tE T W0 wish P cf cm X.K b)) :
    PE X (.IfExp xc xa xb pos) (tE T W0 wish P cf cm X.K (.ite c a b)) := by
  refine Iv.PE.imp (pe_ifExp hc ha hb) fun σ H Q q => ?_
  obtain ⟨W, ρ, rfl, g, q⟩ := q
  simp only [evE] at q
  rw [← Res.bind_assoc] at q
  refine tG.step (f := fun ρ S => (pk c (evE P cf cm c) ρ S).bind fun x ρ S => .of (truthD S x) ρ S) g q fun x W1 ρ1 r g1 st1 rx q => ?_
  have rx : x = r := rx
  subst rx
  cases x with
  | true => exact iteT ⟨W1, ρ1, rfl, g1, q⟩
  | false => exact iteF ⟨W1, ρ1, rfl, g1, q⟩
theorem wpAny_isTrue_IfExp {prog : Program} {w : World} {A : Around} {env : PySem.Env} {c a b : Expr} {pos : Pos} {whole : Sem Value} {Q : Bool → Shared → Prop} {E : Value → Shared → Prop} {s : Shared}
    (h : wpAny (model prog w) A (PySem.isTrue c env (eval c env)) (fun t s1 => if t = true then wpAny (model prog w) A (PySem.isTrue a env (eval a env)) Q E s1 else wpAny (model prog w) A (PySem.isTrue b env (eval b env)) Q E s1) E s) :
    wpAny (model prog w) A (PySem.isTrue (.IfExp c a b pos) env whole) Q E s := by
  simp only [PySem.isTrue]
  refine wpAny_bind (thn h fun t s1 q => ?_)
  cases t with
  | true => simpa using q
  | false => simpa using q
theorem snT_ite {c a b : E} {xc xa xb : Expr} {pos : Pos} (hc : PT X xc (tT T W0 wish P cf cm X.K c)) (ha : PT X xa (tTe T W0 wish P cf cm X.K a)) (hb : PT X xb (tTe T W0 wish P cf cm X.K b)) :
    PT X (.IfExp xc xa xb pos) (tTe T W0 wish P cf cm X.K (.ite c a b)) := by
  refine ⟨fun pins s σ H Q I q => wpAny_isTrue_IfExp ?_⟩
  obtain ⟨W, ρ, rfl, g, q⟩ := q
  simp only [evE] at q
  rw [← Res.bind_assoc, Res.bind_assoc] at q
  have q2 : tT T W0 wish P cf cm X.K c σ W.H (fun b' H1 => if b' = true then tTe T W0 wish P cf cm X.K a σ H1 Q else tTe T W0 wish P cf cm X.K b σ H1 Q) := by
    refine tG.step (f := fun ρ S => (pk c (evE P cf cm c) ρ S).bind fun x ρ S => .of (truthD S x) ρ S) g q fun x W1 ρ1 r g1 st1 rx q => ?_
    have rx : x = r := rx
    subst rx
    cases x with
    | true => exact iteT ⟨W1, ρ1, rfl, g1, q⟩
    | false => exact iteF ⟨W1, ρ1, rfl, g1, q⟩
  refine thn (hc.run pins s σ W.H _ I q2) fun t s1 ⟨H1, I1, q1⟩ => ?_
  cases t with
  | true =>
    rw [if_pos rfl] at q1 ⊢
    exact ha.run pins s1 σ H1 Q I1 q1
  | false =>
    rw [if_neg Bool.false_ne_true] at q1 ⊢
    exact hb.run pins s1 σ H1 Q I1 q1
/-! ### and, or -/
theorem sn_and1 {e : E} {x : Expr} {pos : Pos} (h : PE X x (tE T W0 wish P cf cm X.K e)) : PE X (.BoolOp .And [x] pos) (tE T W0 wish P cf cm X.K (.andE [e])) := by
  refine Iv.PE.imp (pe_one h) fun σ H Q q => ?_
  obtain ⟨W, ρ, e1, g, q⟩ := q
  simp only [evE, evAnd] at q
  exact ⟨W, ρ, e1, g, q⟩
theorem sn_or1 {e : E} {x : Expr} {pos : Pos} (h : PE X x (tE T W0 wish P cf cm X.K e)) : PE X (.BoolOp .Or [x] pos) (tE T W0 wish P cf cm X.K (.orE [e])) := by
  refine Iv.PE.imp (pe_one h) fun σ H Q q => ?_
  obtain ⟨W, ρ, e1, g, q⟩ := q
  simp only [evE, evOr] at q
  exact ⟨W, ρ, e1, g, q⟩
end
end Iv
/-! Sg0: promises of defs that are called where nothing is being displayed (guards none): what repr asks -/
namespace Iv
open PySem PySem.Spec PyProof.Rows L2
/-- a def's promise, kept wherever no display is under way -/
structure FnG (pr : Program) (w : World) (K : PySem.W.Frag) (mg : Str → Option Value) (base : Heap) (cx : CXT) (n : Nat) (f : Addr) (fd : FuncData) (ps : List Str) (sp : Sp) : Prop where
  len : ∀ (vs : List V) (H : Hp) (Q : VK) (E : XK), sp vs H Q E → vs.length = ps.length
  go : ∀ {A : Around} {outer : List PySem.Env} {s : Shared} {H : Hp} {args : Args} {us : List Value} {vs : List V} {Q : VK} {E : XK}, A.guards = some [] → Room n A → Env0 pr w K mg base A outer s H →
    BindsTo s fd args (ps.zip us) → Vals vs us → sp vs H Q E → codeAny (model pr w) A (.call (.ref f) args) (CR cx outer pr w H s Q E) s
section
variable {X : Cx} {cx : CXT} {n : Nat} {f : Addr} {fd : FuncData} {ps : List Str} {sp : Sp} {E : L2.St → XK}
theorem run_g {pins : List (Addr × Obj)} {σ : L2.St} {H : Hp} {s : Shared} {Q : VK} {us : List Value} {vs : List V} (F : FnG X.prog X.w X.K X.mg X.base cx n f fd ps sp) (gd : X.A.guards = some []) (room : Room n X.A) (bi : Binds X.K fd ps [])
    (pass : PassesAt cx X σ (E σ)) (I : Inv X pins σ H s) (rv : Vals vs us) (q : sp vs H Q (E σ)) : wpAny (model X.prog X.w) X.A (call (.ref f) us) (EP X pins σ Q) X.xe s := by
  have el : us.length = ps.length := rv.length.symm.trans (F.len vs H Q (E σ) q)
  have bt : BindsTo s fd ⟨us, []⟩ (ps.zip us) := by
    have z := bi s us I.kIn (by simpa using el)
    simpa using z
  have run := F.go gd room I.env0 bt rv q
  refine wpAny_call (codeAny_mono run ?_)
  rintro (e | fl) s' h
  · exact pass pins H s e s' I h
  · cases fl <;> first | exact I.after h | exact h.elim
theorem pe_g0 {x : Str} {p pos : Pos} (F : FnG X.prog X.w X.K X.mg X.base cx n f fd ps sp) (gd : X.A.guards = some []) (room : Room n X.A) (hg : Gl X x) (hm : X.mg x = some (.ref f)) (hk : PySem.W.keepIn X.K (.ref f) = true)
    (bi : Binds X.K fd ps []) (pass : ∀ σ, PassesAt cx X σ (E σ)) (hdb : (x == ("__debug__" : Str)) = false) : PE X (.Call (.Name x p) [] [] pos) (tCallS sp E tNil) :=
  ⟨fun pins s σ H Q I h => wpAny_Call_Name_kw (ld_glob I hg hm (PySem.W.callWith_K0 I.kIn hk (run_g (us := []) F gd room bi (pass σ) I .nil h)) hdb)⟩
theorem pe_g {x : Str} {p pos : Pos} {e1 : Expr} {er : List Expr} {t : TA} (F : FnG X.prog X.w X.K X.mg X.base cx n f fd ps sp) (gd : X.A.guards = some []) (room : Room n X.A) (hg : Gl X x) (hm : X.mg x = some (.ref f)) (hk : PySem.W.keepIn X.K (.ref f) = true)
    (bi : Binds X.K fd ps []) (pass : ∀ σ, PassesAt cx X σ (E σ)) (ha : PA X (e1 :: er) t) (hdb : (x == ("__debug__" : Str)) = false) (h1 : nostar e1 = true) (h2 : er.all nostar = true) : PE X (.Call (.Name x p) (e1 :: er) [] pos) (tCallS sp E t) := by
  refine ⟨fun pins s σ H Q I h => wpAny_Call_Name_kw (ld_glob I hg hm ?_ hdb)⟩
  refine PySem.W.callWith_K (h₀ := X.base) I.ok.mod.kin hk (thn (ha.run pos pins s σ H _ I h) ?_) (star_ns h1) (any_ns h2)
  rintro us s1 ⟨vs, H1, I1, r, q⟩
  exact ⟨I1.kIn, run_g F gd room bi (pass σ) I1 r q⟩
end
/-- a def's body, run, keeps its promise -/
theorem mk_g {pr : Program} {w : World} {K : PySem.W.Frag} {mg : Str → Option Value} {base : Heap} {cx : CXT} {n : Nat} {x qual : Str} {st : Stmt} {f : Addr} {fd : FuncData} {N ps : List Str} {sp : Sp} (F : L2.Fun K x qual st f fd) (S : FnScope N ps (defScope st))
    (len : ∀ (vs : List V) (H : Hp) (Q : VK) (E : XK), sp vs H Q E → vs.length = ps.length)
    (body : ∀ (cdv : Value) (A : Around) (outer : List PySem.Env) (s : Shared) (H : Hp) (vs : List V) (Q : VK) (E : XK), A.guards = some [] → Room n (A.deeper (envOfC qual (defScope st) s.heap.objs.size f cdv)) → sp vs H Q E →
      ∃ t, PSs (cxOf cx pr w K mg base N qual (defScope st) f cdv A outer s H E) (defBody st) t ∧ t { nx := fun _ H' => Q .non H', rt := Q } (L2.start N vs) H) : FnG pr w K mg base cx (n + 1) f fd ps sp := by
  obtain ⟨oc, od, kV, doc, pm, an, cdv, ct, osl, rfl, lk, hcd⟩ := F.ex
  refine ⟨len, fun {A outer s H args us vs Q E} gd room e0 bi rv q => ?_⟩
  have up : ∀ b o, base.get? b = some o → s.heap.get? b = some o := fun b o e => (e0.bs b o e).1
  have kin : K.In s.heap := e0.mod.kin.keeps up
  have lim : s.heap.NoLimit := e0.mod.nolimit.keeps up
  have kinds : ∀ y ∈ ps.zip us, (defScope st).names.lookup y.1 = some .local ∨ ((defScope st).names.lookup y.1 = some .cell ∧ ((cellsFrom (s.heap.objs.size + 1) (defScope st).names []).lookup y.1).isSome = true) := by
    rintro ⟨y, v⟩ hy
    exact (S.par y (List.of_mem_zip hy).1).imp id fun z => ⟨z, PySem.W.cellsFrom_some _ _ _ (.inl z)⟩
  refine codeAny_call_function room.depth (kin _ _ lk) rfl S.co S.gen rfl (PySem.W.codeRec_of kin hcd) (bi _ _ _ _ (wpAny_newFunctionEnv_cells S.kind kinds ?_))
  rintro env rfl s1 ic
  obtain ⟨t, ht, hq⟩ := body cdv A outer s H vs Q E gd (room.deeper _) q
  have I := inv_start (CX := cx) (cd := cdv) (E := E) S room.hd e0 (len vs H Q E q) rv ic
  refine ⟨lim.keeps ic.toInCall.keep, codeAny_func (wpAny_mono (ht.run [] s1 (L2.start N vs) H _ I hq) ?_ fun _ _ z => z)⟩
  rintro fl s' h
  cases fl with
  | ret u => obtain ⟨v, σ', H', J, r, z⟩ := h; exact ⟨v, H', J.os, J.bare, J.base, J.hok, r, z⟩
  | next => obtain ⟨σ', H', J, z⟩ := h; exact ⟨V.non, H', J.os, J.bare, J.base, J.hok, rfl, z⟩
  | brk => obtain ⟨_, _, _, z⟩ := h; exact z.elim
  | cont => obtain ⟨_, _, _, z⟩ := h; exact z.elim
end Iv
/-! Sv6: and, or; lists of operands; displays; calls of defs -/
namespace Iv
open PySem PySem.Spec PyProof.Rows L2
section
variable {X : Cx} {T : Tb} {W0 : Wd} {wish : Wish} {P : Pg} {cf cm : Nat → List D → Sto → ResF}
/-- a step to a value that stays a result when it is no more needed: the world behind frozen -/
theorem step_d {σ : L2.St} {W : Wd} {ρ : Env} {α β : Type} {RA : Rl X.K T σ β α} {e : E} {k : R → Env → Sto → Res α} {Q : β → Hp → Prop} {Q' : V → Hp → Prop}
    (g : Good X.K T W0 W σ ρ) (q : Dm X.K T W0 wish ((evE P cf cm e ρ W.S).bind k) W σ ρ RA Q) (hk : ∀ r ρ S, k r ρ S = k (.v r.d) ρ S)
    (h : ∀ x W1 ρ1 d, Good X.K T W0 W1 σ ρ1 → Step σ W ρ W1 ρ1 → RD X.K W1 x d → Dm X.K T W0 wish (k (.v d) ρ1 W1.S) W1 σ ρ1 RA Q → Q' x W1.H) : tD T W0 wish P cf cm X.K e σ W.H Q' := by
  have e1 : (evE P cf cm e ρ W.S).bind k = ((evE P cf cm e ρ W.S).bind fun r ρ S => Res.ok r.d ρ S).bind fun d ρ S => k (.v d) ρ S := by
    rw [Res.bind_assoc]
    congr 1
    funext r ρ S
    exact hk r ρ S
  rw [e1] at q
  exact tG.step (f := fun ρ S => (evE P cf cm e ρ S).bind fun r ρ S => Res.ok r.d ρ S) g q h
/-! ### and, or -/
theorem sn_and {e e' : E} {es : List E} {x x' : Expr} {xs : List Expr} {pos : Pos} (h : PE X x (tE T W0 wish P cf cm X.K e)) (ht : PE X (.BoolOp .And (x' :: xs) pos) (tE T W0 wish P cf cm X.K (.andE (e' :: es)))) :
    PE X (.BoolOp .And (x :: x' :: xs) pos) (tE T W0 wish P cf cm X.K (.andE (e :: e' :: es))) := by
  refine Iv.PE.imp (pe_andT h ht) fun σ H Q q => ?_
  obtain ⟨W, ρ, rfl, g, q⟩ := q
  simp only [evE] at q
  rw [evAnd] at q
  · refine ⟨W, ρ, rfl, g, ?_⟩
    generalize evE P cf cm e ρ W.S = m at q ⊢
    cases m with
    | ok r ρ' S' =>
      intro v W' hS g' st rr
      subst hS
      have q : Dm X.K T W0 wish ((Res.of (truthD W'.S r.d) ρ' W'.S).bind fun b ρ S => match b with
        | true => evAnd P cf cm (e' :: es) ρ S
        | false => .ok r ρ S) W σ ρ (rV X.K T W0 σ) Q := q
      obtain ⟨W2, e2, e3, g2, st2, rd⟩ := toD g' st rr
      cases e : truthD W'.S r.d with
      | none => rw [e] at q; exact q.elim
      | some b =>
        rw [e] at q
        refine ⟨b, by rw [← e3]; exact tru_rd g2.sr (.of rd) (by rw [e2]; exact e), ?_⟩
        cases b with
        | true =>
          refine iteT ⟨W', ρ', rfl, g', ?_⟩
          have q : Dm X.K T W0 wish (evAnd P cf cm (e' :: es) ρ' W'.S) W σ ρ (rV X.K T W0 σ) Q := q
          have q := Dm.shift g.sr st q
          simp only [evE]
          exact q
        | false => exact iteF (q v W' rfl g' st rr)
    | exc c vs ρ' S' => exact q
    | err => exact q.elim
  · simp
theorem sn_or {e e' : E} {es : List E} {x x' : Expr} {xs : List Expr} {pos : Pos} (h : PE X x (tE T W0 wish P cf cm X.K e)) (ht : PE X (.BoolOp .Or (x' :: xs) pos) (tE T W0 wish P cf cm X.K (.orE (e' :: es)))) :
    PE X (.BoolOp .Or (x :: x' :: xs) pos) (tE T W0 wish P cf cm X.K (.orE (e :: e' :: es))) := by
  refine Iv.PE.imp (pe_orT h ht) fun σ H Q q => ?_
  obtain ⟨W, ρ, rfl, g, q⟩ := q
  simp only [evE] at q
  rw [evOr] at q
  · refine ⟨W, ρ, rfl, g, ?_⟩
    generalize evE P cf cm e ρ W.S = m at q ⊢
    cases m with
    | ok r ρ' S' =>
      intro v W' hS g' st rr
      subst hS
      have q : Dm X.K T W0 wish ((Res.of (truthD W'.S r.d) ρ' W'.S).bind fun b ρ S => match b with
        | true => .ok r ρ S
        | false => evOr P cf cm (e' :: es) ρ S) W σ ρ (rV X.K T W0 σ) Q := q
      obtain ⟨W2, e2, e3, g2, st2, rd⟩ := toD g' st rr
      cases e : truthD W'.S r.d with
      | none => rw [e] at q; exact q.elim
      | some b =>
        rw [e] at q
        refine ⟨b, by rw [← e3]; exact tru_rd g2.sr (.of rd) (by rw [e2]; exact e), ?_⟩
        cases b with
        | false =>
          refine iteF ⟨W', ρ', rfl, g', ?_⟩
          have q : Dm X.K T W0 wish (evOr P cf cm (e' :: es) ρ' W'.S) W σ ρ (rV X.K T W0 σ) Q := q
          have q := Dm.shift g.sr st q
          simp only [evE]
          exact q
        | true => exact iteT (q v W' rfl g' st rr)
    | exc c vs ρ' S' => exact q
    | err => exact q.elim
  · simp
/-- .. as tests -/
theorem snW_and1 {e : E} {x : Expr} {pos : Pos} (h : PT X x (tTe T W0 wish P cf cm X.K e)) : PW X (.BoolOp .And [x] pos) (tTe T W0 wish P cf cm X.K (.andE [e])) := by
  have := pw_and1 (pos := pos) h
  refine ⟨fun whole pins s σ H Q I q => this.run whole pins s σ H Q I ?_⟩
  obtain ⟨W, ρ, e1, g, q⟩ := q
  simp only [evE, evAnd] at q
  exact ⟨W, ρ, e1, g, q⟩
theorem snW_or1 {e : E} {x : Expr} {pos : Pos} (h : PT X x (tTe T W0 wish P cf cm X.K e)) : PW X (.BoolOp .Or [x] pos) (tTe T W0 wish P cf cm X.K (.orE [e])) := by
  have := pw_or1 (pos := pos) h
  refine ⟨fun whole pins s σ H Q I q => this.run whole pins s σ H Q I ?_⟩
  obtain ⟨W, ρ, e1, g, q⟩ := q
  simp only [evE, evOr] at q
  exact ⟨W, ρ, e1, g, q⟩
theorem andT_eq (e e' : E) (es : List E) (ρ : Env) (S : Sto) : ((evE P cf cm (.andE (e :: e' :: es)) ρ S).bind fun r ρ S => Res.of (truthD S r.d) ρ S) =
    ((evE P cf cm e ρ S).bind fun r ρ S => Res.of (truthD S r.d) ρ S).bind fun b ρ S => if b = true then (evE P cf cm (.andE (e' :: es)) ρ S).bind fun r ρ S => Res.of (truthD S r.d) ρ S else .ok false ρ S := by
  simp only [evE]
  rw [evAnd, Res.bind_assoc, Res.bind_assoc]
  · congr 1
    funext r ρ S
    rw [Res.bind_assoc]
    cases q : truthD S r.d with
    | none => rfl
    | some b =>
      cases b with
      | true => rfl
      | false =>
        show Res.of (truthD S r.d) ρ S = _
        rw [q]; rfl
  · simp
theorem orT_eq (e e' : E) (es : List E) (ρ : Env) (S : Sto) : ((evE P cf cm (.orE (e :: e' :: es)) ρ S).bind fun r ρ S => Res.of (truthD S r.d) ρ S) =
    ((evE P cf cm e ρ S).bind fun r ρ S => Res.of (truthD S r.d) ρ S).bind fun b ρ S => if b = true then .ok true ρ S else (evE P cf cm (.orE (e' :: es)) ρ S).bind fun r ρ S => Res.of (truthD S r.d) ρ S := by
  simp only [evE]
  rw [evOr, Res.bind_assoc, Res.bind_assoc]
  · congr 1
    funext r ρ S
    rw [Res.bind_assoc]
    cases q : truthD S r.d with
    | none => rfl
    | some b =>
      cases b with
      | false => rfl
      | true =>
        show Res.of (truthD S r.d) ρ S = _
        rw [q]; rfl
  · simp
theorem snW_and {e e' : E} {es : List E} {x x' : Expr} {xs : List Expr} {pos : Pos} (h : PT X x (tTe T W0 wish P cf cm X.K e)) (ht : PW X (.BoolOp .And (x' :: xs) pos) (tTe T W0 wish P cf cm X.K (.andE (e' :: es)))) :
    PW X (.BoolOp .And (x :: x' :: xs) pos) (tTe T W0 wish P cf cm X.K (.andE (e :: e' :: es))) := by
  have := pw_and h ht
  refine ⟨fun whole pins s σ H Q I q => this.run whole pins s σ H Q I ?_⟩
  obtain ⟨W, ρ, rfl, g, q⟩ := q
  dsimp only at q
  rw [andT_eq] at q
  refine tG.step (f := fun ρ S => (evE P cf cm e ρ S).bind fun r ρ S => Res.of (truthD S r.d) ρ S) g q fun b W1 ρ1 c g1 st1 r q => ?_
  have r : b = c := r
  subst r
  cases b with
  | true => exact iteT ⟨W1, ρ1, rfl, g1, q⟩
  | false => exact iteF (Dm.ok q g1 rfl)
theorem snW_or {e e' : E} {es : List E} {x x' : Expr} {xs : List Expr} {pos : Pos} (h : PT X x (tTe T W0 wish P cf cm X.K e)) (ht : PW X (.BoolOp .Or (x' :: xs) pos) (tTe T W0 wish P cf cm X.K (.orE (e' :: es)))) :
    PW X (.BoolOp .Or (x :: x' :: xs) pos) (tTe T W0 wish P cf cm X.K (.orE (e :: e' :: es))) := by
  have := pw_or h ht
  refine ⟨fun whole pins s σ H Q I q => this.run whole pins s σ H Q I ?_⟩
  obtain ⟨W, ρ, rfl, g, q⟩ := q
  dsimp only at q
  rw [orT_eq] at q
  refine tG.step (f := fun ρ S => (evE P cf cm e ρ S).bind fun r ρ S => Res.of (truthD S r.d) ρ S) g q fun b W1 ρ1 c g1 st1 r q => ?_
  have r : b = c := r
  subst r
  cases b with
  | true => exact iteT (Dm.ok q g1 rfl)
  | false => exact iteF ⟨W1, ρ1, rfl, g1, q⟩
/-! ### lists of operands -/
theorem sn_nilO : PA X [] (tOs T W0 wish P cf cm X.K []) := by
  refine Iv.PA.imp pa_nil fun σ H Q q => ?_
  obtain ⟨W, ρ, rfl, g, q⟩ := q
  simp only [evPs] at q
  exact Dm.ok q g .nil
theorem sn_nilD : PA X [] (tEs T W0 wish P cf cm X.K []) := by
  refine Iv.PA.imp pa_nil fun σ H Q q => ?_
  obtain ⟨W, ρ, rfl, g, q⟩ := q
  simp only [evEs] at q
  exact Dm.ok q g .nil
theorem sn_consO {e : E} {es : List E} {x : Expr} {xs : List Expr} (hs : nostar x = true) (h : PE X x (tO T W0 wish P cf cm X.K e)) (ht : PA X xs (tOs T W0 wish P cf cm X.K es)) : PA X (x :: xs) (tOs T W0 wish P cf cm X.K (e :: es)) := by
  refine Iv.PA.imp (pa_cons h ht (star_ns hs)) fun σ H Q q => ?_
  obtain ⟨W, ρ, rfl, g, q⟩ := q
  simp only [evPs] at q
  refine tG.step g q fun x W1 ρ1 dx g1 st1 rx q => ?_
  refine tG.step g1 q fun y W2 ρ2 dy g2 st2 ry q => ?_
  exact Dm.ok q g2 (.cons (rx.ext g1.sr st2.e) ry)
theorem sn_consD {e : E} {es : List E} {x : Expr} {xs : List Expr} (hs : nostar x = true) (h : PE X x (tE T W0 wish P cf cm X.K e)) (ht : PA X xs (tEs T W0 wish P cf cm X.K es)) : PA X (x :: xs) (tEs T W0 wish P cf cm X.K (e :: es)) := by
  refine Iv.PA.imp (pa_cons (sn_d h) ht (star_ns hs)) fun σ H Q q => ?_
  obtain ⟨W, ρ, rfl, g, q⟩ := q
  simp only [evEs] at q
  refine step_d g q (fun r ρ S => by cases r <;> rfl) fun x W1 ρ1 dx g1 st1 rx q => ?_
  refine tG.step g1 q fun y W2 ρ2 dy g2 st2 ry q => ?_
  exact Dm.ok q g2 (.cons (rx.mono (st2.e.mono g1.sr)) ry)
/-! ### displays -/
theorem sn_tup {es : List E} {xs : List Expr} {x1} {pos : Pos} (h : PA X xs (tEs T W0 wish P cf cm X.K es)) : PE X (.Tuple xs x1 pos) (tE T W0 wish P cf cm X.K (.tup es)) := by
  refine Iv.PE.imp (pe_tupN h) fun σ H Q q => ?_
  obtain ⟨W, ρ, rfl, g, q⟩ := q
  simp only [evE] at q
  refine tG.step g q fun x W1 ρ1 dx g1 st1 rx q => ?_
  have rx : RDs X.K W1 x dx := rx
  split at q
  · exact ⟨by rw [rx.length]; assumption, Nxt.t q g1 rx⟩
  · exact q.elim
theorem sn_lst {es : List E} {xs : List Expr} {pos : Pos} (h : PA X xs (tEs T W0 wish P cf cm X.K es)) : PE X (.List xs pos) (tE T W0 wish P cf cm X.K (.lst es)) := by
  refine Iv.PE.imp (pe_lst h) fun σ H Q q => ?_
  obtain ⟨W, ρ, rfl, g, q⟩ := q
  simp only [evE] at q
  refine tG.step g q fun x W1 ρ1 dx g1 st1 rx q => ?_
  have rx : RDs X.K W1 x dx := rx
  split at q
  · exact ⟨by rw [rx.length]; assumption, Nxt.l q g1 rx⟩
  · exact q.elim
/-! ### calls -/
/-- a def as the program's tables have it -/
structure FnAt (X : Cx) (T : Tb) (k : Nat) (x : Str) (np : Nat) (g : List D → Sto → ResF) : Prop where
  at_ : ∃ (f : Addr) (fd : FuncData) (ps : List Str), X.mg x = some (.ref f) ∧ PySem.W.keepIn X.K (.ref f) = true ∧ Binds X.K fd ps [] ∧ FnG X.prog X.w X.K X.mg X.base (L2.CX X.prog X.w) k f fd ps (spI X.K T np g)
  len : ∀ ds S, ds.length ≠ np → g ds S = .err
theorem call_dm {σ : L2.St} {W : Wd} {ρ : Env} {Q : VK} {np : Nat} {g : List D → Sto → ResF} {vs : List V} {ds : List D} (hl : ∀ ds S, ds.length ≠ np → g ds S = .err) (gd : Good X.K T W0 W σ ρ) (r : RDs X.K W vs ds)
    (q : Dm X.K T W0 wish ((g ds W.S).res ρ) W σ ρ (rV X.K T W0 σ) Q) : spI X.K T np g vs W.H Q (WE wish σ) := by
  by_cases hn : ds.length = np
  · refine ⟨by rw [r.length]; exact hn, W, ds, rfl, gd.sr, r, ?_⟩
    generalize g ds W.S = m at q ⊢
    cases m with
    | ok r S' => exact fun v W' e s' ex rf => q v W' e (gd.call s' ex) (Step.call ex) (rf.rr gd)
    | exc c xs S' => exact fun cls d W' e s' ex xr => q cls d W' e (gd.call s' ex) (Step.call ex) xr
    | err => exact q.elim
  · rw [hl ds W.S hn] at q
    exact q.elim
theorem sn_call {k i np : Nat} {x : Str} {p pos : Pos} {es : List E} {xs : List Expr} (hl : es.length = xs.length) (gd : X.A.guards = some []) (F : FnAt X T k x np (cf i)) (hr : Room k X.A) (hg : Gl X x) (tk : Takes X wish) (hd : (x == ("__debug__" : Str)) = false) (hs : xs.all nostar = true)
    (h : PA X xs (tEs T W0 wish P cf cm X.K es)) : PE X (.Call (.Name x p) xs [] pos) (tE T W0 wish P cf cm X.K (.call i es)) := by
  obtain ⟨f, fd, ps, hm, hk, hb, hF⟩ := F.at_
  cases xs with
  | nil =>
    refine Iv.PE.imp (pe_g0 hF gd hr hg hm hk hb (passAt tk) hd) fun σ H Q q => ?_
    obtain ⟨W, ρ, rfl, g, q⟩ := q
    have he : es = [] := List.length_eq_zero_iff.mp hl
    subst he
    simp only [evE, evEs] at q
    exact call_dm F.len g .nil q
  | cons x1 xr =>
    simp only [List.all_cons, Bool.and_eq_true] at hs
    refine Iv.PE.imp (pe_g hF gd hr hg hm hk hb (passAt tk) h hd hs.1 hs.2) fun σ H Q q => ?_
    obtain ⟨W, ρ, rfl, g, q⟩ := q
    simp only [evE] at q
    refine tG.step g q fun x W1 ρ1 dx g1 st1 rx q => ?_
    exact call_dm F.len g1 rx q
end
end Iv
/-! Sv7: built-in functions, subscripts, slices -/
namespace Iv
open PySem PySem.Spec PyProof.Rows L2
/-! ### shapes of expressions -/
def plainBase : Expr → Bool
  | .Call (.Name _ _) [] [] _ => false
  | _ => true
def plainTest : Expr → Bool
  | .UnaryOp .Not _ _ => false
  | .BoolOp _ _ _ => false
  | .IfExp _ _ _ _ => false
  | .Compare _ _ _ _ => false
  | _ => true
def noSlice : Expr → Bool
  | .Slice _ _ _ _ => false
  | _ => true
def notComp : Expr → Bool
  | .ListComp _ _ _ _ => false
  | .SetComp _ _ _ _ => false
  | .DictComp _ _ _ _ _ => false
  | _ => true
theorem base_ok {o : Expr} {n : Str} {env : PySem.Env} {w : Sem Value} (h : plainBase o = true) : attributeBase o n env w = w := by
  unfold attributeBase
  split
  · cases h
  · rfl
theorem test_ok {x : Expr} {env : PySem.Env} (h : plainTest x = true) : ∀ whole, PySem.isTrue x env whole = (do let v ← whole; standAt x.pos; holding [v] (truthy v)) := by
  intro whole
  cases x <;> first
    | rfl
    | cases h
    | (rename_i op a p; cases op <;> first | rfl | cases h)
theorem ix_ok {b : Expr} (h : noSlice b = true) : PlainIx b := by
  intro o i
  cases b <;> first | rfl | cases h
section
variable {X : Cx} {T : Tb} {W0 : Wd} {wish : Wish} {P : Pg} {cf cm : Nat → List D → Sto → ResF}
/-- what a built-in does with operands: given by its data's reading -/
def PrimOk (K : PySem.W.Frag) (T : Tb) (W0 : Wd) (p : Prim) (r : List V → Hp → VK → Prop) : Prop :=
  ∀ {W : Wd} {σ : L2.St} {ρ : Env} {vs : List V} {ds : List D} {res : R} {Q : VK}, Good K T W0 W σ ρ → primD W.S p ds = some res → RQs K W vs ds → Nxt K T W0 W σ ρ Q res → r vs W.H Q
theorem sn_primB {p : Prim} {r : List V → Hp → VK → Prop} {id : String} {x : Str} {pn pos : Pos} {es : List E} {xa : Expr} {xs : List Expr} (hc : CallR X (.builtin id) r) (hp : PrimOk X.K T W0 p r) (hg : Gl X x) (hm : X.mg x = none) (hv : bootBuiltins x = some (.builtin id))
    (hn : x ≠ "__name__") (hd : (x == ("__debug__" : Str)) = false) (hs : (xa :: xs).all nostar = true) (h : PA X (xa :: xs) (tOs T W0 wish P cf cm X.K es)) : PE X (.Call (.Name x pn) (xa :: xs) [] pos) (tE T W0 wish P cf cm X.K (.prim p es)) := by
  simp only [List.all_cons, Bool.and_eq_true] at hs
  refine Iv.PE.imp (pe_callB hc hg hm hv h hn hd (star_ns hs.1) (any_ns hs.2)) fun σ H Q q => ?_
  obtain ⟨W, ρ, rfl, g, q⟩ := q
  simp only [evE] at q
  refine tG.step g q fun x W1 ρ1 dx g1 st1 rx q => ?_
  obtain ⟨res, e, q⟩ := q.of
  exact hp g1 e rx q
theorem sn_primT {p : Prim} {r : List V → Hp → VK → Prop} {ty : String} {x : Str} {pn pos : Pos} {es : List E} {xa : Expr} {xs : List Expr} (hc : CallR X (.type ty) r) (hp : PrimOk X.K T W0 p r) (hg : Gl X x) (hm : X.mg x = none) (hv : bootBuiltins x = some (.type ty))
    (hn : x ≠ "__name__") (hd : (x == ("__debug__" : Str)) = false) (hs : (xa :: xs).all nostar = true) (h : PA X (xa :: xs) (tOs T W0 wish P cf cm X.K es)) : PE X (.Call (.Name x pn) (xa :: xs) [] pos) (tE T W0 wish P cf cm X.K (.prim p es)) := by
  simp only [List.all_cons, Bool.and_eq_true] at hs
  refine Iv.PE.imp (pe_callTy hc hg hm hv h hn hd (star_ns hs.1) (any_ns hs.2)) fun σ H Q q => ?_
  obtain ⟨W, ρ, rfl, g, q⟩ := q
  simp only [evE] at q
  refine tG.step g q fun x W1 ρ1 dx g1 st1 rx q => ?_
  obtain ⟨res, e, q⟩ := q.of
  exact hp g1 e rx q
theorem str_own {W : Wd} {v : V} {d : D} {p : Prim} (hown : mown p = ["str"]) (hk : ownOk W.S p d = true) (r : RQ X.K W v d) : ∃ a, v = .str a := by
  unfold ownOk at hk
  rw [hown] at hk
  have no : ∀ t : String, t ≠ "str" → (["str"].contains t) = true → False := fun t h1 h2 => by
    simp at h2; exact h1 h2
  cases d with
  | str z => exact ⟨z, rd_str r⟩
  | ref id =>
    simp only [tyD] at hk
    split at hk
    · rename_i t e
      split at e <;> first | (cases e; exact (no _ (by decide) hk).elim) | cases e
    · cases hk
  | exc c vs => cases hk
  | _ => exact (no _ (by decide) hk).elim
/-- a method of a text, one operand -/
theorem sn_mthS {p : Prim} {r : V → List V → Hp → VK → Prop} {id : String} {name : Str} {apos pos : Pos} {a b : E} {xa xb : Expr} (slot : PySem.Slot "str" name id) (ty : typeOf (.builtin id) = pure (.type "method_descriptor")) (hc : MtR X id r)
    (hp : ∀ {W : Wd} {σ : L2.St} {ρ : Env} {v w : V} {d e : D} {res : R} {Q : VK}, Good X.K T W0 W σ ρ → primD W.S p [d, e] = some res → RQ X.K W v d → RQ X.K W w e → Nxt X.K T W0 W σ ρ Q res → r v [w] W.H Q)
    (hown : mown p = ["str"])
    (ha : PE X xa (tO T W0 wish P cf cm X.K a)) (hb : PE X xb (tO T W0 wish P cf cm X.K b)) (hs : nostar xb = true) (hbase : plainBase xa = true) (hline : (apos.endLine == pos.line) = true) :
    PE X (.Call (.Attribute xa name apos) [xb] [] pos) (tE T W0 wish P cf cm X.K (.mth p a [b])) := by
  refine Iv.PE.imp (pe_m1 slot ty hc ha hb (by rw [star_ns hs]; rfl) (base_ok hbase) hline) fun σ H Q q => ?_
  obtain ⟨W, ρ, rfl, g, q⟩ := q
  simp only [evE, evPs] at q
  refine tG.step g q fun x W1 ρ1 dx g1 st1 rx q => ?_
  split at q
  · rename_i hk
    rw [Res.bind_assoc] at q
    refine ⟨str_own hown hk rx, tG.step g1 q fun y W2 ρ2 dy g2 st2 ry q => ?_⟩
    have q : Dm X.K T W0 wish (.of (primD W2.S p [dx, dy]) ρ2 W2.S) W2 σ ρ2 (rV X.K T W0 σ) Q := q
    obtain ⟨res, e, q⟩ := q.of
    exact hp g2 e (rx.ext g1.sr st2.e) ry q
  · exact q.elim
/-! ### readings of lists of operands -/
theorem qs1 {W : Wd} {vs : List V} {d : D} (h : RQs X.K W vs [d]) : ∃ v, vs = [v] ∧ RQ X.K W v d := by
  cases h with
  | cons h t => cases t; exact ⟨_, rfl, h⟩
theorem qs2 {W : Wd} {vs : List V} {d e : D} (h : RQs X.K W vs [d, e]) : ∃ v w, vs = [v, w] ∧ RQ X.K W v d ∧ RQ X.K W w e := by
  cases h with
  | cons h t => obtain ⟨w, rfl, r⟩ := qs1 t; exact ⟨_, w, rfl, h, r⟩
theorem rd_intsOf {W : Wd} : ∀ {vs : List V} {ds : List D} {ns : List Int}, RDs X.K W vs ds → intsOf ds = some ns → vs = ns.map V.int
  | _, _, _, .nil, e => by cases e; rfl
  | _, _, _, .cons (d := d) h t, e => by
    cases d with
    | int i =>
      simp only [intsOf, Option.map_eq_some_iff] at e
      obtain ⟨r, e, rfl⟩ := e
      rw [rd_int (.of h), rd_intsOf t e]; rfl
    | _ => cases e
theorem rd_boolsOf {W : Wd} : ∀ {vs : List V} {ds : List D} {ns : List Bool}, RDs X.K W vs ds → boolsOf ds = some ns → vs = ns.map V.bl
  | _, _, _, .nil, e => by cases e; rfl
  | _, _, _, .cons (d := d) h t, e => by
    cases d with
    | bl i =>
      simp only [boolsOf, Option.map_eq_some_iff] at e
      obtain ⟨r, e, rfl⟩ := e
      rw [rd_bl (.of h), rd_boolsOf t e]; rfl
    | _ => cases e
theorem rd_strsOf {W : Wd} : ∀ {vs : List V} {ds : List D} {ns : List Str}, RDs X.K W vs ds → strsOf ds = some ns → vs = ns.map V.str
  | _, _, _, .nil, e => by cases e; rfl
  | _, _, _, .cons (d := d) h t, e => by
    cases d with
    | str i =>
      simp only [strsOf, Option.map_eq_some_iff] at e
      obtain ⟨r, e, rfl⟩ := e
      rw [rd_str (.of h), rd_strsOf t e]; rfl
    | _ => cases e
/-! ### the built-ins -/
theorem ok_abs : PrimOk X.K T W0 .abs (fun xs H Q => ∃ i, xs = [.int i] ∧ Q (.int (if i < 0 then -i else i)) H) := by
  intro W σ ρ vs ds res Q g e r n
  change p_abs W.S _ = _ at e
  unfold p_abs at e
  split at e
  · cases e
    obtain ⟨v, rfl, h⟩ := qs1 r
    rw [rd_int h]
    exact ⟨_, rfl, n.v g (.int _)⟩
  · cases e
theorem ok_min2 : PrimOk X.K T W0 .min2 (fun xs H Q => ∃ i j, xs = [.int i, .int j] ∧ Q (.int (if j < i then j else i)) H) := by
  intro W σ ρ vs ds res Q g e r n
  change p_min2 W.S _ = _ at e
  unfold p_min2 at e
  split at e
  · cases e
    obtain ⟨v, w, rfl, h1, h2⟩ := qs2 r
    rw [rd_int h1, rd_int h2]
    exact ⟨_, _, rfl, n.v g (.int _)⟩
  · cases e
theorem ok_max2 : PrimOk X.K T W0 .max2 (fun xs H Q => ∃ i j, xs = [.int i, .int j] ∧ Q (.int (if j > i then j else i)) H) := by
  intro W σ ρ vs ds res Q g e r n
  change p_max2 W.S _ = _ at e
  unfold p_max2 at e
  split at e
  · cases e
    obtain ⟨v, w, rfl, h1, h2⟩ := qs2 r
    rw [rd_int h1, rd_int h2]
    exact ⟨_, _, rfl, n.v g (.int _)⟩
  · cases e
theorem ok_sum : PrimOk X.K T W0 .sum (rSum X.K) := by
  intro W σ ρ vs ds res Q g e r n
  change p_sum W.S _ = _ at e
  unfold p_sum at e
  split at e
  · simp only [Option.bind_eq_some_iff, Option.map_eq_some_iff] at e
    obtain ⟨ys, e1, ns, e2, rfl⟩ := e
    obtain ⟨v, rfl, h⟩ := qs1 r
    obtain ⟨a, ws, rfl, h1, t⟩ := rd_lst g.sr h e1
    exact ⟨a, ns, rfl, by rw [← rd_intsOf t e2]; exact h1, n.v g (.int _)⟩
  · cases e
theorem ok_all : PrimOk X.K T W0 .all (rAll X.K) := by
  intro W σ ρ vs ds res Q g e r n
  change p_all W.S _ = _ at e
  unfold p_all at e
  split at e
  · simp only [Option.bind_eq_some_iff, Option.map_eq_some_iff] at e
    obtain ⟨ys, e1, ns, e2, rfl⟩ := e
    obtain ⟨v, rfl, h⟩ := qs1 r
    obtain ⟨a, ws, rfl, h1, t⟩ := rd_lst g.sr h e1
    exact ⟨a, ns, rfl, by rw [← rd_boolsOf t e2]; exact h1, n.v g (.bl _)⟩
  · cases e
theorem ok_any : PrimOk X.K T W0 .any (rAny X.K) := by
  intro W σ ρ vs ds res Q g e r n
  change p_any W.S _ = _ at e
  unfold p_any at e
  split at e
  · simp only [Option.bind_eq_some_iff, Option.map_eq_some_iff] at e
    obtain ⟨ys, e1, ns, e2, rfl⟩ := e
    obtain ⟨v, rfl, h⟩ := qs1 r
    obtain ⟨a, ws, rfl, h1, t⟩ := rd_lst g.sr h e1
    exact ⟨a, ns, rfl, by rw [← rd_boolsOf t e2]; exact h1, n.v g (.bl _)⟩
  · cases e
theorem ok_tuple : PrimOk X.K T W0 .tuple (rTupN X.K) := by
  intro W σ ρ vs ds res Q g e r n
  change p_tuple W.S _ = _ at e
  unfold p_tuple at e
  split at e
  · simp only [Option.map_eq_some_iff] at e
    obtain ⟨ys, e1, rfl⟩ := e
    obtain ⟨v, rfl, h⟩ := qs1 r
    obtain ⟨a, ws, rfl, h1, t⟩ := rd_seqN g.sr h e1
    refine ⟨a, ws, rfl, ?_⟩
    rcases h1 with h1 | h1
    · exact .inl ⟨h1, n.t g t⟩
    · exact .inr ⟨h1.sq, n.v g (.tup h1 t)⟩
  · cases e
theorem ok_int : PrimOk X.K T W0 .int (fun xs H Q => ((∃ i, xs = [.int i] ∧ Q (.int i) H) ∨ ∃ k, xs = [.bl k] ∧ Q (.int (if k then 1 else 0)) H) ∨ ∃ a n, xs = [.str a] ∧ PySem.intText? a = some n ∧ a.length ≤ 640 ∧ Q (.int n) H) := by
  intro W σ ρ vs ds res Q g e r n
  change p_int W.S _ = _ at e
  unfold p_int at e
  split at e
  · cases e
    obtain ⟨v, rfl, h⟩ := qs1 r
    rw [rd_int h]
    exact .inl (.inl ⟨_, rfl, n.v g (.int _)⟩)
  · cases e
    obtain ⟨v, rfl, h⟩ := qs1 r
    rw [rd_bl h]
    exact .inl (.inr ⟨_, rfl, n.v g (.int _)⟩)
  · obtain ⟨v, rfl, h⟩ := qs1 r
    rw [rd_str h]
    split at e
    · rename_i m hm
      split at e
      · cases e
        exact .inr ⟨_, m, rfl, hm, by assumption, n.v g (.int _)⟩
      · cases e
    · cases e
  · cases e
theorem CallR.or {f : Value} {r r' : List V → Hp → VK → Prop} (h : CallR X f r) (h' : CallR X f r') : CallR X f (fun xs H Q => r xs H Q ∨ r' xs H Q) := fun pins s σ H xs us Q I rs q => q.elim (h pins s σ H xs us Q I rs) (h' pins s σ H xs us Q I rs)
theorem ok_str : PrimOk X.K T W0 .str (fun xs H Q => (∃ i, xs = [.int i] ∧ i.natAbs.log2 < 1920 ∧ Q (.str (toString i)) H) ∨ ∃ a, xs = [.str a] ∧ Q (.str a) H) := by
  intro W σ ρ vs ds res Q g e r n
  change p_str W.S _ = _ at e
  unfold p_str at e
  split at e
  · obtain ⟨v, rfl, h⟩ := qs1 r
    rw [rd_int h]
    split at e
    · cases e
      exact .inl ⟨_, rfl, by assumption, n.v g (.str _)⟩
    · cases e
  · cases e
    obtain ⟨v, rfl, h⟩ := qs1 r
    rw [rd_str h]
    exact .inr ⟨_, rfl, n.v g (.str _)⟩
  · cases e
theorem call_lenD : CallR X (.builtin "len") (fun xs H Q => ∃ a kvs, xs = [.ref a] ∧ Rd H a (.dK kvs) ∧ Q (.int kvs.length) H) := by
  intro pins s σ H xs us Q I r h
  obtain ⟨a, kvs, rfl, e, q⟩ := h
  cases r with
  | cons r1 r2 =>
    cases r2
    cases r1
    exact d_len I e fun t s' I' => ⟨.int kvs.length, H, I', ⟨t, rfl⟩, q⟩
theorem kds_len {W : Wd} {a : Addr} {kds : List (D × D)} (h : DctRd X.K W a false kds) : ∃ kvs : List (Key × V), Rd W.H a (.dK kvs) ∧ kvs.length = kds.length ∧ RDs X.K W (kvs.map fun kv => kV kv.1) (kds.map (·.1)) := by
  rcases h with ⟨_, kvs, ds, h1, h2, rfl⟩ | ⟨h, _⟩
  · have hl := h2.length
    rw [List.length_map] at hl
    refine ⟨kvs, h1, by simp [hl], ?_⟩
    have : ((kvs.map fun p => kD p.1).zip ds).map (·.1) = kvs.map fun p => kD p.1 := by
      rw [List.map_fst_zip]; simp [hl]
    rw [this]
    clear h1 h2 hl this
    induction kvs with
    | nil => exact .nil
    | cons p r ih =>
      refine .cons ?_ ih
      obtain ⟨k, w⟩ := p
      cases k with
      | inl i => exact .int i
      | inr z => exact .str z
  · cases h
theorem ok_len : PrimOk X.K T W0 .len (fun xs H Q => (∃ x n, xs = [x] ∧ LenV X.K x H n ∧ Q (.int n) H) ∨ ∃ a kvs, xs = [.ref a] ∧ Rd H a (.dK kvs) ∧ Q (.int kvs.length) H) := by
  intro W σ ρ vs ds res Q g e r n
  change p_len W.S _ = _ at e
  unfold p_len at e
  split at e
  · obtain ⟨v, rfl, h⟩ := qs1 r
    rw [rd_str h]
    split at e
    · cases e
      exact .inl ⟨_, _, rfl, ⟨by assumption, rfl⟩, n.v g (.int _)⟩
    · cases e
  · obtain ⟨v, rfl, h⟩ := qs1 r
    split at e
    · rename_i ys e1
      cases e
      obtain ⟨a, ws, rfl, h1, t⟩ := rd_seq g.sr h e1
      refine .inl ⟨_, ws.length, rfl, ?_, by rw [t.length]; exact n.v g (.int _)⟩
      rcases h1 with h1 | h1
      · exact .inl ⟨ws, h1, rfl⟩
      · exact .inr ⟨ws, h1, rfl⟩
    · simp only [Option.bind_eq_some_iff] at e
      obtain ⟨⟨t, kds⟩, e1, e⟩ := e
      cases t with
      | true => cases e
      | false =>
        cases e
        obtain ⟨a, rfl, h1⟩ := rd_dct g.sr h e1
        obtain ⟨kvs, h2, h3, _⟩ := kds_len h1
        exact .inr ⟨a, kvs, rfl, h2, by rw [h3]; exact n.v g (.int _)⟩
  · cases e
theorem ok_list : PrimOk X.K T W0 .list (fun xs H Q => (∃ p ys, xs = [.ref p] ∧ (SqL X.K H p ys ∨ SqT X.K H p ys) ∧ ∀ l, H l = none → Q (.ref l) (upd H l (.lst ys))) ∨
    ((∃ (a : Addr) (kvs : List (Key × V)), xs = [.ref a] ∧ Rd H a (.dK kvs) ∧ ∀ p, H p = none → Q (.ref p) (upd H p (.lst (kvs.map fun kv => kV kv.1)))) ∨
      ∃ z : Str, xs = [.str z] ∧ z.length ≤ sizeLine ∧ ∀ l, H l = none → Q (.ref l) (upd H l (.lst (z.cps.toList.map fun c => V.str (one c)))))) := by
  intro W σ ρ vs ds res Q g e r n
  change p_list W.S _ = _ at e
  unfold p_list at e
  split at e
  · obtain ⟨v, rfl, h⟩ := qs1 r
    split at e
    · rename_i ys e1
      cases e
      obtain ⟨a, ws, rfl, h1, t⟩ := rd_seq g.sr h e1
      exact .inl ⟨a, ws, rfl, h1, n.l g t⟩
    · split at e
      · split at e
        · cases e
          rename_i z _ hz
          have t : ∀ l : List Nat, RDs X.K W (l.map fun c => V.str (one c)) (l.map fun c => D.str (one c)) := fun l => by
            induction l with
            | nil => exact .nil
            | cons a l ih => exact .cons (.str _) ih
          exact .inr (.inr ⟨z, by rw [rd_str h], hz, n.l g (t _)⟩)
        · cases e
      · simp only [Option.bind_eq_some_iff] at e
        obtain ⟨⟨t, kds⟩, e1, e⟩ := e
        cases t with
        | true => cases e
        | false =>
          cases e
          obtain ⟨a, rfl, h1⟩ := rd_dct g.sr h e1
          obtain ⟨kvs, h2, h3, h4⟩ := kds_len h1
          exact .inr (.inl ⟨a, kvs, rfl, h2, n.l g h4⟩)
  · cases e
/-- isinstance by one built-in type -/
theorem ty_rd {W : Wd} {v : V} {d : D} {t : String} (s : SR X.K T W) (h : RQ X.K W v d) (e : tyD W.S d = some t) : TyX X.K W.H v (.type t) := by
  have tupTy : ∀ {a : Addr} {vs : List V}, SqT X.K W.H a vs → TyX X.K W.H (.ref a) (.type "tuple") := fun h => by
    rcases h with (h | ⟨o, h⟩) | ⟨o, its, n, h1, h2, _⟩
    · exact .base (.tup h)
    · exact .fTuple h
    · exact .kTuple h1 h2
  have lstTy : ∀ {a : Addr} {vs : List V}, SqL X.K W.H a vs → TyX X.K W.H (.ref a) (.type "list") := fun h => by
    rcases h with (h | ⟨o, h⟩) | ⟨o, its, n, h1, h2, _⟩
    · exact .base (.lst h)
    · exact .base (.frz h)
    · exact .kList h1 h2
  have dctTy : ∀ {a : Addr} {t : Bool} {kds : List (D × D)}, DctRd X.K W a t kds → TyX X.K W.H (.ref a) (.type "dict") := fun h => by
    rcases h with ⟨_, kvs, ds, (h | ⟨o, h⟩), _⟩ | ⟨_, kvs, ds, h, _⟩
    · exact .base (.dK h)
    · exact .fDict h
    · exact .base (.dT h)
  cases d with
  | non => rw [rd_non h]; cases e; exact .base .non
  | bl c => rw [rd_bl h]; cases e; exact .base (.bl c)
  | int i => rw [rd_int h]; cases e; exact .base (.int i)
  | str z => rw [rd_str h]; cases e; exact .base (.str z)
  | tup xs => cases e; obtain ⟨a, vs, rfl, h1, h2⟩ := rd_tup h; exact tupTy h1.sq
  | lst xs => cases e; obtain ⟨a, vs, rfl, h1, h2⟩ := rd_lst s h rfl; exact lstTy h1
  | dct t kvs => cases e; obtain ⟨a, rfl, h1⟩ := rd_dct s h rfl; exact dctTy h1
  | ref id =>
    simp only [tyD] at e
    split at e
    · rename_i xs q
      cases e
      obtain ⟨a, vs, rfl, h1, h2⟩ := rd_lst (xs := xs) s h (by simp only [lstD, q])
      exact lstTy h1
    · rename_i t kvs q
      cases e
      obtain ⟨a, rfl, h1⟩ := rd_dct (t := t) (kds := kvs) s h (by simp only [dctD, q])
      exact dctTy h1
    · cases e
  | exc c vs => cases e
theorem tyD_in {S : Sto} {d : D} {t : String} (e : tyD S d = some t) : t ∈ ["NoneType", "bool", "int", "str", "tuple", "list", "dict"] := by
  cases d <;> simp only [tyD] at e <;> first
    | (cases e; simp; done)
    | (split at e <;> first | (cases e; simp; done) | cases e)
    | cases e
theorem kit_all (K : PySem.W.Frag) : ∀ t ∈ ["NoneType", "bool", "int", "str", "tuple", "list", "dict"], ∀ U ∈ ["bool", "int", "str", "tuple", "list", "dict", "ValueError"], PySem.W.kitOne K (.type t) (.type U) = some (subTy t U) := by
  simp only [List.mem_cons, List.not_mem_nil, or_false]
  rintro t (rfl | rfl | rfl | rfl | rfl | rfl | rfl) U (rfl | rfl | rfl | rfl | rfl | rfl | rfl) <;> rfl
theorem sn_isi {U : String} {x : Str} {pn pos py : Pos} {a : E} {xa : Expr} {y : Str} (hg : Gl X "isinstance") (hm : X.mg "isinstance" = none) (hU : U ∈ ["bool", "int", "str", "tuple", "list", "dict", "ValueError"]) (hgy : Gl X y) (hmy : X.mg y = none) (hvy : bootBuiltins y = some (.type U)) (hny : y ≠ "__name__") (hdy : (y == ("__debug__" : Str)) = false)
    (hs : nostar xa = true) (h : PE X xa (tO T W0 wish P cf cm X.K a)) : PE X (.Call (.Name "isinstance" pn) [xa, .Name y py] [] pos) (tE T W0 wish P cf cm X.K (.prim (.isi [U]) [a])) := by
  refine Iv.PE.imp (pe_callB call_isi hg hm rfl (pa_cons h (pa_cons (pe_bltn hgy hmy hvy (show RelV (.ty U) (.type U) from rfl) hny hdy) pa_nil) (star_ns hs)) (by decide) (by decide) (star_ns hs) (any_ns (by rfl))) fun σ H Q q => ?_
  obtain ⟨W, ρ, rfl, g, q⟩ := q
  simp only [evE, evPs] at q
  rw [Res.bind_assoc] at q
  refine tG.step g q fun x W1 ρ1 dx g1 st1 rx q => ?_
  have q : Dm X.K T W0 wish (.of (primD W1.S (.isi [U]) [dx]) ρ1 W1.S) W1 σ ρ1 (rV X.K T W0 σ) Q := q
  obtain ⟨res, e, q⟩ := q.of
  simp only [primD, p_isi, Option.map_eq_some_iff] at e
  obtain ⟨t, e, rfl⟩ := e
  refine ⟨x, .ty U, .type t, .type U, subTy t U, rfl, .ty U, ty_rd g1.sr rx e, kit_all _ t (tyD_in e) U hU, ?_⟩
  have e2 : [U].any (subTy t) = subTy t U := by simp
  rw [e2] at q
  exact Dm.ok q g1 (.bl _)
/-! ### methods of texts -/
theorem ok_partition {W : Wd} {σ : L2.St} {ρ : Env} {v w : V} {d e : D} {res : R} {Q : VK} (g : Good X.K T W0 W σ ρ) (h : primD W.S .partition [d, e] = some res) (hv : RQ X.K W v d) (hw : RQ X.K W w e) (n : Nxt X.K T W0 W σ ρ Q res) :
    rPartN v [w] W.H Q := by
  change p_partition W.S _ = _ at h
  unfold p_partition at h
  split at h
  · rename_i e1
    cases e1
    rw [rd_str hv, rd_str hw]
    split at h
    · rename_i hk
      cases h
      exact ⟨_, _, rfl, rfl, by simpa using hk.1, hk.2, n.t g (.cons (.str _) (.cons (.str _) (.cons (.str _) .nil)))⟩
    · cases h
  · cases h
theorem ok_split {W : Wd} {σ : L2.St} {ρ : Env} {v w : V} {d e : D} {res : R} {Q : VK} (g : Good X.K T W0 W σ ρ) (h : primD W.S .split [d, e] = some res) (hv : RQ X.K W v d) (hw : RQ X.K W w e) (n : Nxt X.K T W0 W σ ρ Q res) :
    ∃ a b, v = .str a ∧ [w] = [.str b] ∧ (b.length == 0) = false ∧ a.length + 2 ≤ sizeLine ∧ rNewStrs (Txt.split a b) W.H Q := by
  change p_split W.S _ = _ at h
  unfold p_split at h
  split at h
  · rename_i e1
    cases e1
    rw [rd_str hv, rd_str hw]
    split at h
    · rename_i hk
      cases h
      refine ⟨_, _, rfl, rfl, by simpa using hk.1, hk.2, n.l g ?_⟩
      generalize Txt.split _ _ = zs
      induction zs with
      | nil => exact .nil
      | cons z r ih => exact .cons (.str z) ih
    · cases h
  · cases h
theorem ok_join {W : Wd} {σ : L2.St} {ρ : Env} {v w : V} {d e : D} {res : R} {Q : VK} (g : Good X.K T W0 W σ ρ) (h : primD W.S .join [d, e] = some res) (hv : RQ X.K W v d) (hw : RQ X.K W w e) (n : Nxt X.K T W0 W σ ρ Q res) :
    ∃ a p, ∃ ys : List Str, v = .str a ∧ [w] = [.ref p] ∧ (SqL X.K W.H p (ys.map V.str) ∨ SqT X.K W.H p (ys.map V.str)) ∧ (ys.map (·.length)).sum + ys.length * a.length ≤ 16777216 ∧ Q (.str (Txt.join a ys)) W.H := by
  change p_join W.S _ = _ at h
  unfold p_join at h
  split at h
  · rename_i e1
    cases e1
    rw [rd_str hv]
    simp only [Option.bind_eq_some_iff] at h
    obtain ⟨ys, h1, zs, h2, h⟩ := h
    obtain ⟨p, ws, rfl, h3, t⟩ := rd_seq g.sr hw h1
    split at h
    · cases h
      rw [rd_strsOf t h2] at h3
      exact ⟨_, p, zs, rfl, rfl, h3, by assumption, n.v g (.str _)⟩
    · cases h
  · cases h
/-! ### subscripts, slices -/
theorem rds_atI {W : Wd} {vs : List V} {ds : List D} {i : Int} {d : D} (h : RDs X.K W vs ds) (e : atI ds i = some d) : ∃ v, atI vs i = some v ∧ RD X.K W v d := by
  unfold atI at e ⊢
  rw [h.length]
  cases q : ixN ds.length i with
  | none => rw [q] at e; cases e
  | some k => rw [q] at e; exact h.at e
theorem sn_ix {a i : E} {xa xi : Expr} {pos : Pos} (hu : X.A.units + 1 < cLine) (ha : PE X xa (tO T W0 wish P cf cm X.K a)) (hi : PE X xi (tO T W0 wish P cf cm X.K i)) (hs : noSlice xi = true) : PE X (.Subscript xa xi pos) (tE T W0 wish P cf cm X.K (.ix a i)) := by
  refine Iv.PE.imp (pe_ix (ix_seq.or (ix_dict hu)) ha hi (ix_ok hs)) fun σ H Q q => ?_
  obtain ⟨W, ρ, rfl, g, q⟩ := q
  simp only [evE] at q
  refine tG.step g q fun x W1 ρ1 dx g1 st1 rx q => ?_
  refine tG.step g1 q fun y W2 ρ2 dy g2 st2 ry q => ?_
  obtain ⟨r, e, q⟩ := q.of
  obtain ⟨d, e2, rfl⟩ := Option.map_eq_some_iff.mp e
  clear e
  have rx := RQ.ext g1.sr st2.e rx
  unfold ixD at e2
  split at e2
  · rename_i d' e
    cases e2
    refine .inl ?_
    have seq : ∀ {xs : List D} {k : Int}, seqD W2.S dx = some xs → atI xs k = some d → RQ X.K W2 y (.int k) → rIx X.K x y W2.H Q := fun {xs k} h1 h2 h3 => by
      obtain ⟨p, vs, rfl, h4, t⟩ := rd_seq g2.sr rx h1
      obtain ⟨v, h5, h6⟩ := rds_atI t h2
      rw [rd_int h3]
      rcases h4 with h4 | h4
      · exact .inl ⟨p, vs, k, v, rfl, rfl, h4, h5, Dm.ok q g2 h6⟩
      · exact .inr (.inl ⟨p, vs, k, v, rfl, rfl, h4, h5, Dm.ok q g2 h6⟩)
    unfold ixQ at e
    split at e
    · split at e
      · split at e
        · obtain ⟨c, h1, h2⟩ := Option.map_eq_some_iff.mp e
          subst h2
          rw [rd_str rx, rd_int ry]
          exact .inr (.inr ⟨_, _, c, rfl, rfl, by assumption, h1, Dm.ok q g2 (.str _)⟩)
        · cases e
      · obtain ⟨xs, h1, h2⟩ := Option.bind_eq_some_iff.mp e
        exact seq h1 h2 ry
    · cases e
  · unfold ixK at e2
    obtain ⟨p, h1, h2⟩ := Option.bind_eq_some_iff.mp e2
    split at h2
    · rename_i hp
      obtain ⟨t, kds⟩ := p
      obtain ⟨e3, e4⟩ := hp
      cases (show t = false from e3)
      obtain ⟨a, o, rfl, h4, h5⟩ := dget_rd g2.sr rx h1 ry e4
      rcases h5 with ⟨_, h6⟩ | ⟨v, d', rfl, h6, h7⟩
      · rw [h2] at h6; cases h6
      · rw [h2] at h6
        cases h6
        exact .inr ⟨a, v, rfl, h4, Dm.ok q g2 h7⟩
    · cases h2
theorem cut_len {α : Type} {β : Type} {xs : List α} {ys : List β} (h : xs.length = ys.length) {lo hi : Option Int} : HT.sIx xs.length 0 lo = HT.sIx ys.length 0 lo ∧ HT.sIx xs.length xs.length hi = HT.sIx ys.length ys.length hi := by rw [h]; exact ⟨rfl, rfl⟩
theorem cut_rd {W : Wd} {vs : List V} {ds : List D} (h : RDs X.K W vs ds) (lo hi : Option Int) : RDs X.K W (cutV vs lo hi) (cutD ds lo hi) := by
  unfold cutV cutD
  rw [h.length]
  exact (h.drop _).take _
end
end Iv
/-! Sv8: targets, statements -/
namespace Iv
open PySem PySem.Spec PyProof.Rows L2
section
variable {K : PySem.W.Frag} {T : Tb} {W0 W W' W1 : Wd} {σ σ' : L2.St} {ρ ρ' : Env}
/-- a slot set to a result -/
theorem Good.setR {Wa : Wd} {ρa : Env} {i : Nat} {v : V} {r : R} (g : Good K T W0 W σ ρ) (h : RR K W0 σ Wa ρa W ρ v r) (hi : i < ρ.length) : Good K T W0 W (σ.set i (some v)) (ρ.set i r.slot) := by
  have hi' : i < σ.length := by rw [← g.er.len]; exact hi
  refine ⟨g.s0, g.ext, g.sr, by simp [g.er.len], fun j s hs => ?_, fun j l a s t h1 h2 o1 o2 e1 e2 => ?_⟩
  · by_cases e : i = j
    · subst e
      rw [List.getElem?_set_self hi] at hs
      rw [List.getElem?_set_self hi']
      cases hs
      cases r with
      | v d => exact ⟨v, rfl, h⟩
      | ol ds => obtain ⟨a, vs, rfl, o, _⟩ := h; exact ⟨a, vs, rfl, o⟩
      | od t kds => obtain ⟨a, rfl, o, _⟩ := h; exact ⟨a, rfl, o⟩
    · rw [List.getElem?_set_ne e] at hs ⊢
      exact g.er.ok j s hs
  · have key : ∀ m (u : Slot), (ρ.set i r.slot)[i]? = some u → u.own = true → (σ.set i (some v))[i]? = some (some (.ref a)) → i ≠ m → ∀ w : Slot, ρ[m]? = some w → w.own = true → σ[m]? = some (some (.ref a)) → False := fun m u p1 p2 p3 p4 w p5 p6 p7 => by
      rw [List.getElem?_set_self hi] at p1
      rw [List.getElem?_set_self hi'] at p3
      cases p1
      cases p3
      cases r with
      | v d => cases p2
      | ol ds => obtain ⟨a', vs, e, o, no, _⟩ := h; cases e; exact no ⟨m, w, p5, p6, p7⟩
      | od t kds => obtain ⟨a', e, o, no, _⟩ := h; cases e; exact no ⟨m, w, p5, p6, p7⟩
    by_cases ej : i = j
    · by_cases el : i = l
      · rw [← ej, ← el]
      · subst ej
        rw [List.getElem?_set_ne el] at h2 e2
        exact (key l s h1 o1 e1 el t h2 o2 e2).elim
    · by_cases el : i = l
      · subst el
        rw [List.getElem?_set_ne ej] at h1 e1
        exact (key j t h2 o2 e2 ej s h1 o1 e1).elim
      · rw [List.getElem?_set_ne ej] at h1 e1
        rw [List.getElem?_set_ne el] at h2 e2
        exact g.er.ap j l a s t h1 h2 o1 o2 e1 e2
theorem Good.setD {i : Nat} {v : V} {d : D} (g : Good K T W0 W σ ρ) (h : RD K W v d) (hi : i < ρ.length) : Good K T W0 W (σ.set i (some v)) (ρ.set i (.v d)) :=
  Good.setR (Wa := W) (ρa := ρ) (r := .v d) g h hi
/-- a slot dropped -/
theorem Good.drop {i : Nat} (g : Good K T W0 W σ ρ) : Good K T W0 W σ (ρ.set i .no) := by
  refine ⟨g.s0, g.ext, g.sr, by rw [List.length_set]; exact g.er.len, fun j s h => ?_, fun j l a s u h1 h2 o1 o2 e1 e2 => ?_⟩
  · by_cases e : i = j
    · subst e
      by_cases hl : i < ρ.length
      · rw [List.getElem?_set_self hl] at h
        cases h
        exact trivial
      · rw [List.getElem?_eq_none (by simpa using hl)] at h
        cases h
    · rw [List.getElem?_set_ne e] at h
      exact g.er.ok j s h
  · have le := envLe_set (ρ := ρ) (i := i) (t := .no) rfl
    exact g.er.ap j l a s u (le.2 j s h1 o1) (le.2 l u h2 o2) o1 o2 e1 e2
theorem Good.kill (g : Good K T W0 W σ ρ) : ∀ ks : List Nat, Good K T W0 W σ (Iv.kill ks ρ)
  | [] => g
  | k :: ks => (Good.kill g ks).drop
end
section
variable {X : Cx} {T : Tb} {W0 : Wd} {wish : Wish} {P : Pg} {cf cm : Nat → List D → Sto → ResF}
/-! ### targets -/
/-- slots alike but there -/
def Off (is : List Nat) (σ σ' : L2.St) : Prop := σ'.length = σ.length ∧ ∀ j, j ∉ is → σ'[j]? = σ[j]?
theorem Off.refl (is : List Nat) (σ : L2.St) : Off is σ σ := ⟨rfl, fun _ _ => rfl⟩
theorem Off.app {a b : List Nat} {σ σ1 σ2 : L2.St} (h : Off a σ σ1) (h' : Off b σ1 σ2) : Off (a ++ b) σ σ2 := ⟨h'.1.trans h.1, fun j hj => by
  simp only [List.mem_append, not_or] at hj
  rw [h'.2 j hj.2, h.2 j hj.1]⟩
variable (T W0) in
def tTg (K : PySem.W.Frag) (tg : Tg) : TG := fun v σ H Q => ∃ (W : Wd) (ρ ρ' : Env) (d : D), W.H = H ∧ Good K T W0 W σ ρ ∧ RD K W v d ∧ bindT tg d ρ = some ρ' ∧ ∀ σ', Off (tgIx tg) σ σ' → Good K T W0 W σ' ρ' → Q σ' H
variable (T W0) in
def tTgs (K : PySem.W.Frag) (ts : List Tg) : TGs := fun vs σ H Q => ∃ (W : Wd) (ρ ρ' : Env) (ds : List D), W.H = H ∧ Good K T W0 W σ ρ ∧ RDs K W vs ds ∧ bindTs ts ds ρ = some ρ' ∧ ∀ σ', Off (tgIxs ts) σ σ' → Good K T W0 W σ' ρ' → Q σ' H
theorem PG.imp {e : Expr} {t t' : TG} (h : PG X e t) (i : ∀ v σ H Q, t' v σ H Q → t v σ H Q) : PG X e t' := ⟨fun pins s σ H v u Q I r q => h.run pins s σ H v u Q I r (i v σ H Q q)⟩
theorem PGs.imp {e : List Expr} {t t' : TGs} (h : PGs X e t) (i : ∀ v σ H Q, t' v σ H Q → t v σ H Q) : PGs X e t' := ⟨fun pins s σ H v u Q I r q => h.run pins s σ H v u Q I r (i v σ H Q q)⟩
theorem sn_tgN {i : Nat} {x : Str} {p : Pos} (h : PG X (.Name x p) (gName i)) : PG X (.Name x p) (tTg T W0 X.K (.nm i)) := by
  refine Iv.PG.imp h fun v σ H Q q => ?_
  obtain ⟨W, ρ, ρ', d, rfl, g, r, e, q⟩ := q
  simp only [bindT] at e
  split at e
  · cases e
    refine q _ ⟨by simp, fun j hj => ?_⟩ (g.setD r (by assumption))
    rw [List.getElem?_set_ne]
    intro z
    subst z
    simp [tgIx] at hj
  · cases e
/-- no star among the targets -/
def tgShape : Expr → Bool
  | .Name _ _ => true
  | .Tuple _ _ _ => true
  | _ => false
theorem each_cons {e : Expr} {es : List Expr} {env : PySem.Env} (h : tgShape e = true) : (assignEach (e :: es) env).map (·.2) = assign e env :: (assignEach es env).map (·.2) := by
  cases e <;> first | rfl | cases h
theorem each_len {env : PySem.Env} : ∀ {es : List Expr}, es.all tgShape = true → (assignEach es env).length = es.length ∧ (assignEach es env).findIdx? (·.1) = none
  | [], _ => ⟨rfl, rfl⟩
  | e :: es, h => by
    simp only [List.all_cons, Bool.and_eq_true] at h
    obtain ⟨h1, h2⟩ := each_len (env := env) h.2
    cases e with
    | Name x p =>
      refine ⟨by show (_ :: assignEach es env).length = _; simp [h1], ?_⟩
      show List.findIdx? _ ((false, _) :: assignEach es env) = none
      rw [List.findIdx?_cons]
      simp [h2]
    | Tuple a b c =>
      refine ⟨by show (_ :: assignEach es env).length = _; simp [h1], ?_⟩
      show List.findIdx? _ ((false, _) :: assignEach es env) = none
      rw [List.findIdx?_cons]
      simp [h2]
    | _ => exact absurd h.1 (by simp [tgShape])
theorem sn_tgs0 : PGs X [] (tTgs T W0 X.K []) := by
  refine Iv.PGs.imp pgs_nil fun v σ H Q q => ?_
  obtain ⟨W, ρ, ρ', d, rfl, g, r, e, q⟩ := q
  cases r with
  | nil => simp only [bindTs] at e; cases e; exact ⟨rfl, q σ (Off.refl _ _) g⟩
  | cons h t => simp only [bindTs] at e; cases e
theorem sn_tgsC {t : Tg} {ts : List Tg} {x : Expr} {xs : List Expr} (hs : tgShape x = true) (h : PG X x (tTg T W0 X.K t)) (ht : PGs X xs (tTgs T W0 X.K ts)) : PGs X (x :: xs) (tTgs T W0 X.K (t :: ts)) := by
  refine Iv.PGs.imp (pgs_cons h ht (each_cons hs)) fun v σ H Q q => ?_
  obtain ⟨W, ρ, ρ', d, rfl, g, r, e, q⟩ := q
  cases r with
  | nil => simp only [bindTs] at e; cases e
  | cons h t =>
    simp only [bindTs, Option.bind_eq_some_iff] at e
    obtain ⟨ρ1, e1, e2⟩ := e
    exact ⟨_, _, rfl, W, ρ, ρ1, _, rfl, g, h, e1, fun σ1 o1 g1 => ⟨W, ρ1, ρ', _, rfl, g1, t, e2, fun σ2 o2 g2 => q σ2 (by simpa [tgIxs] using o1.app o2) g2⟩⟩
theorem bindTs_len : ∀ {ts : List Tg} {ds : List D} {ρ ρ' : Env}, bindTs ts ds ρ = some ρ' → ts.length = ds.length
  | [], [], _, _, _ => rfl
  | [], _ :: _, _, _, e => by simp only [bindTs] at e; cases e
  | _ :: _, [], _, _, e => by simp only [bindTs] at e; cases e
  | t :: ts, d :: ds, ρ, ρ', e => by
    simp only [bindTs, Option.bind_eq_some_iff] at e
    obtain ⟨ρ1, e1, e2⟩ := e
    simp [bindTs_len e2]
theorem sn_tgT {ts : List Tg} {xs : List Expr} {k : Nat} {p : Pos} (hc : X.calm = true) (hs : xs.all tgShape = true) (hl : ts.length = xs.length) (h : PGs X xs (tTgs T W0 X.K ts)) : PG X (.Tuple xs k p) (tTg T W0 X.K (.tp ts)) := by
  refine Iv.PG.imp (pg_tup (n := xs.length) hc h (each_len hs).1 (each_len hs).2) fun v σ H Q q => ?_
  obtain ⟨W, ρ, ρ', d, rfl, g, r, e, q⟩ := q
  cases d with
  | tup ds =>
    simp only [bindT] at e
    obtain ⟨a, vs, rfl, h1, h2⟩ := rd_tup (.of r)
    refine ⟨a, vs, rfl, h1.sq, by rw [h2.length, ← hl, bindTs_len e], W, ρ, ρ', ds, rfl, g, h2, e, fun σ' o => q σ' (by simpa [tgIx] using o)⟩
  | _ => simp only [bindT] at e; cases e
/-! ### statements -/
end
section
variable (K : PySem.W.Frag) (T : Tb) (W0 : Wd) (wish : Wish)
def DmS (r : Res Fl) (W : Wd) (D : Ends) : Prop := match r with
  | .ok .next ρ' S' => ∀ (σ' : L2.St) (W' : Wd), W'.S = S' → Good K T W0 W' σ' ρ' → Mono W W' → D.nx σ' W'.H
  | .ok (.ret r) ρ' S' => ∀ (v : V) (W' : Wd), W'.S = S' → SR K T W' → Ext W0 W' (fun _ => False) → RF K W0 W' v r → D.rt v W'.H
  | .exc c vs ρ' S' => ∀ (cls : Value) (d : Option Addr) (σ' : L2.St) (W' : Wd), W'.S = S' → Good K T W0 W' σ' ρ' → Mono W W' → XR W' cls d c vs → wish cls d σ' W'.H
  | .err => False
def tS (f : Env → Sto → Res Fl) : TS := fun D σ H => ∃ (W : Wd) (ρ : Env), W.H = H ∧ Good K T W0 W σ ρ ∧ DmS K T W0 wish (f ρ W.S) W D
end
section
variable {X : Cx} {T : Tb} {W0 : Wd} {wish : Wish} {P : Pg} {cf cm : Nat → List D → Sto → ResF}
theorem DmS.shift {K : PySem.W.Frag} {r : Res Fl} {W W1 : Wd} {D : Ends} (m : Mono W W1) (h : DmS K T W0 wish r W D) : DmS K T W0 wish r W1 D := by
  cases r with
  | ok f ρ' S' =>
    cases f with
    | next => exact fun σ' W' e g m' => h σ' W' e g (m.trans m')
    | ret r => exact h
  | exc c vs ρ' S' => exact fun cls d σ' W' e g m' x => h cls d σ' W' e g (m.trans m') x
  | err => exact h
theorem DmS.nx {K : PySem.W.Frag} {r : Res Fl} {W : Wd} {D D' : Ends} (h : DmS K T W0 wish r W D) (n : ∀ σ H, D.nx σ H → D'.nx σ H) (t : ∀ v H, D.rt v H → D'.rt v H) : DmS K T W0 wish r W D' := by
  cases r with
  | ok f ρ' S' =>
    cases f with
    | next => exact fun σ' W' e g m' => n _ _ (h σ' W' e g m')
    | ret r => exact fun v W' e s x f => t _ _ (h v W' e s x f)
  | exc c vs ρ' S' => exact h
  | err => exact h
/-- an expression ahead of a statement's rest -/
theorem tG.stm {α β : Type} {K : PySem.W.Frag} {σ : L2.St} {W : Wd} {ρ : Env} {RF : (σ : L2.St) → Rl K T σ β α} {f : Env → Sto → Res α} {k : α → Env → Sto → Res Fl} {D : Ends} {Q' : β → Hp → Prop}
    (g : Good K T W0 W σ ρ) (q : DmS K T W0 wish ((f ρ W.S).bind k) W D)
    (h : ∀ x W1 ρ1 a, Good K T W0 W1 σ ρ1 → Step σ W ρ W1 ρ1 → (RF σ).r W ρ W1 ρ1 x a → DmS K T W0 wish (k a ρ1 W1.S) W1 D → Q' x W1.H) : tG K T W0 wish f RF σ W.H Q' := by
  refine ⟨W, ρ, rfl, g, ?_⟩
  generalize f ρ W.S = m at q ⊢
  cases m with
  | ok a ρ1 S1 =>
    intro x W1 e g1 st r
    subst e
    exact h x W1 ρ1 a g1 st r (DmS.shift (st.e.mono g.sr) q)
  | exc c vs ρ1 S1 => exact fun cls d W1 e g1 st xr => q cls d σ W1 e g1 (st.e.mono g.sr) xr
  | err => exact q
theorem tD.stm {K : PySem.W.Frag} {σ : L2.St} {W : Wd} {ρ : Env} {e : E} {k : R → Env → Sto → Res Fl} {D : Ends} {Q' : V → Hp → Prop}
    (g : Good K T W0 W σ ρ) (q : DmS K T W0 wish ((evE P cf cm e ρ W.S).bind k) W D) (hk : ∀ r ρ S, k r ρ S = k (.v r.d) ρ S)
    (h : ∀ x W1 ρ1 d, Good K T W0 W1 σ ρ1 → Step σ W ρ W1 ρ1 → RD K W1 x d → DmS K T W0 wish (k (.v d) ρ1 W1.S) W1 D → Q' x W1.H) : tD T W0 wish P cf cm K e σ W.H Q' := by
  have e1 : (evE P cf cm e ρ W.S).bind k = ((evE P cf cm e ρ W.S).bind fun r ρ S => Res.ok r.d ρ S).bind fun d ρ S => k (.v d) ρ S := by
    rw [Res.bind_assoc]
    congr 1
    funext r ρ S
    exact hk r ρ S
  rw [e1] at q
  exact tG.stm (f := fun ρ S => (evE P cf cm e ρ S).bind fun r ρ S => Res.ok r.d ρ S) g q h
theorem ss_nil : PSs X [] (tS X.K T W0 wish (evSs P cf cm [])) := by
  refine Iv.PSs.imp pss_nil fun D σ H q => ?_
  obtain ⟨W, ρ, rfl, g, q⟩ := q
  simp only [evSs] at q
  exact q σ W rfl g (Mono.refl W)
theorem ss_cons {s : Sm} {ss : List Sm} {x : Stmt} {xs : List Stmt} (h : PS X x (tS X.K T W0 wish (evS P cf cm s))) (ht : PSs X xs (tS X.K T W0 wish (evSs P cf cm ss))) : PSs X (x :: xs) (tS X.K T W0 wish (evSs P cf cm (s :: ss))) := by
  refine Iv.PSs.imp (pss_cons h ht) fun D σ H q => ?_
  obtain ⟨W, ρ, rfl, g, q⟩ := q
  simp only [evSs] at q
  refine ⟨W, ρ, rfl, g, ?_⟩
  generalize evS P cf cm s ρ W.S = m at q ⊢
  cases m with
  | ok f ρ' S' =>
    cases f with
    | next => exact fun σ' W' e g' m => ⟨W', ρ', rfl, g', by subst e; exact DmS.shift m q⟩
    | ret r => exact q
  | exc c vs ρ' S' => exact q
  | err => exact q
theorem st_bad {x : Stmt} : PS X x (tS X.K T W0 wish (evS P cf cm .bad)) := ⟨fun pins s σ H D I h => by
  obtain ⟨W, ρ, _, _, h⟩ := h
  simp only [evS] at h
  exact h.elim⟩
theorem st_pass {p : Pos} : PS X (.Pass p) (tS X.K T W0 wish (evS P cf cm .pass)) := by
  refine Iv.PS.imp ps_pass fun D σ H q => ?_
  obtain ⟨W, ρ, rfl, g, q⟩ := q
  simp only [evS] at q
  exact q σ W rfl g (Mono.refl W)
theorem RF.of_rr {K : PySem.W.Frag} {σ : L2.St} {Wa W : Wd} {ρa ρ : Env} {v : V} {r : R} (h : RR K W0 σ Wa ρa W ρ v r) : RF K W0 W v r := by
  cases r with
  | v d => exact h
  | ol ds => obtain ⟨a, vs, rfl, ⟨h1, h2, h3, h4, h5⟩, _⟩ := h; exact ⟨a, vs, rfl, h1, h2, h3, h4, h5⟩
  | od t kds => obtain ⟨a, rfl, ⟨h1, h3, h4, h5⟩, _⟩ := h; exact ⟨a, rfl, h1, h3, h4, h5⟩
theorem st_ret {e : E} {x : Expr} {p : Pos} (h : PE X x (tE T W0 wish P cf cm X.K e)) : PS X (.Return (some x) p) (tS X.K T W0 wish (evS P cf cm (.ret e))) := by
  refine Iv.PS.imp (ps_ret h) fun D σ H q => ?_
  obtain ⟨W, ρ, rfl, g, q⟩ := q
  simp only [evS] at q
  refine tG.stm g q fun x W1 ρ1 r g1 st1 rr q => ?_
  exact q x W1 rfl g1.sr g1.ext (RF.of_rr (ρa := ρ) rr)
theorem st_retN {p : Pos} : PS X (.Return none p) (tS X.K T W0 wish (evS P cf cm .retN)) := by
  refine Iv.PS.imp ps_retN fun D σ H q => ?_
  obtain ⟨W, ρ, rfl, g, q⟩ := q
  simp only [evS] at q
  exact q .non W rfl g.sr g.ext .non
theorem swaps_ok {x : Expr} {t : Option Expr} {l : Nat} {env : PySem.Env} (h : notComp x = true) : swapsWith x t l env = pure false := by
  cases x <;> first | rfl | cases h
theorem st_expr {e : E} {x : Expr} {p : Pos} (hs : notComp x = true) (h : PE X x (tO T W0 wish P cf cm X.K e)) : PS X (.Expr x p) (tS X.K T W0 wish (evS P cf cm (.expr e))) := by
  refine Iv.PS.imp (ps_expr h (swaps_ok hs)) fun D σ H q => ?_
  obtain ⟨W, ρ, rfl, g, q⟩ := q
  simp only [evS] at q
  exact tG.stm g q fun x W1 ρ1 r g1 st1 rr q => q σ W1 rfl g1 (Mono.refl W1)
theorem st_ite {c : E} {t f : List Sm} {xc : Expr} {xt xf : List Stmt} {p : Pos} (hc : PT X xc (tT T W0 wish P cf cm X.K c)) (ht : PSs X xt (tS X.K T W0 wish (evSs P cf cm t))) (hf : PSs X xf (tS X.K T W0 wish (evSs P cf cm f))) :
    PS X (.If xc xt xf p) (tS X.K T W0 wish (evS P cf cm (.ite c t f))) := by
  refine Iv.PS.imp (ps_if hc ht hf) fun D σ H q => ?_
  obtain ⟨W, ρ, rfl, g, q⟩ := q
  simp only [evS] at q
  rw [← Res.bind_assoc] at q
  refine tG.stm (f := fun ρ S => (pk c (evE P cf cm c) ρ S).bind fun x ρ S => .of (truthD S x) ρ S) g q fun b W1 ρ1 r g1 st1 rr q => ?_
  have rr : b = r := rr
  subst rr
  cases b with
  | true => exact iteT ⟨W1, ρ1, rfl, g1, q⟩
  | false => exact iteF ⟨W1, ρ1, rfl, g1, q⟩
theorem st_asgN {i : Nat} {e : E} {y : Str} {x : Expr} {p p' : Pos} (hN : X.N.Nodup) (hi : X.N[i]? = some y) (hx : Loc X.env.scope y) (hf : X.fn y = true ∨ X.env.scope.names.lookup y = some .local) (hs : swapsWith x (some (.Name y p')) p.line X.env = pure false) (h : PE X x (tE T W0 wish P cf cm X.K e)) :
    PS X (.Assign [.Name y p'] x p) (tS X.K T W0 wish (evS P cf cm (.asg (.nm i) e))) := by
  refine Iv.PS.imp (ps_set hN hi hx h hs hf) fun D σ H q => ?_
  obtain ⟨W, ρ, rfl, g, q⟩ := q
  simp only [evS] at q
  refine tG.stm g q fun v W1 ρ1 r g1 st1 rr q => ?_
  split at q
  · rename_i hl
    exact q _ W1 rfl (Good.setR (ρa := ρ) g1 rr hl) (Mono.refl W1)
  · exact q.elim
theorem st_asgT {ts : List Tg} {e : E} {xs : List Expr} {k : Nat} {x : Expr} {p p' : Pos} (hg : PG X (.Tuple xs k p') (tTg T W0 X.K (.tp ts))) (hs : notComp x = true) (hw : swappedStores [.Tuple xs k p'] x X.env = pure none) (h : PE X x (tE T W0 wish P cf cm X.K e)) :
    PS X (.Assign [.Tuple xs k p'] x p) (tS X.K T W0 wish (evS P cf cm (.asg (.tp ts) e))) := by
  refine Iv.PS.imp (ps_asg (sn_d h) hg (by unfold swapsWithSole; exact swaps_ok hs) hw) fun D σ H q => ?_
  obtain ⟨W, ρ, rfl, g, q⟩ := q
  simp only [evS] at q
  refine tD.stm g q (fun r ρ S => by cases r <;> rfl) fun v W1 ρ1 d g1 st1 rd q => ?_
  split at q
  · rename_i ρ' hb
    exact ⟨W1, ρ1, ρ', d, rfl, g1, rd, hb, fun σ' _ g' => q σ' W1 rfl g' (Mono.refl W1)⟩
  · exact q.elim
theorem st_par {i j : Nat} {e1 e2 : E} {y z : Str} {x1 x2 : Expr} {k k2 : Nat} {p p1 p2 p3 p4 : Pos} (hc : X.calm = true) (hN : X.N.Nodup) (hi : X.N[i]? = some y) (hj : X.N[j]? = some z) (hij : i ≠ j)
    (hy : X.env.scope.names.lookup y = some .local) (hz : X.env.scope.names.lookup z = some .local) (h1 : nostar x1 = true) (h2 : nostar x2 = true)
    (hw : swappedStores [.Tuple [.Name y p1, .Name z p2] k p3] (.Tuple [x1, x2] k2 p4) X.env = pure (some [y, z])) (ha : PE X x1 (tE T W0 wish P cf cm X.K e1)) (hb : PE X x2 (tE T W0 wish P cf cm X.K e2)) :
    PS X (.Assign [.Tuple [.Name y p1, .Name z p2] k p3] (.Tuple [x1, x2] k2 p4) p) (tS X.K T W0 wish (evS P cf cm (.asg (.tp [.nm i, .nm j]) (.tup [e1, e2])))) := by
  refine Iv.PS.imp (ps_par hc hN hi hj hij hy hz (sn_consD h1 ha (sn_consD h2 hb sn_nilD)) hw) fun D σ H q => ?_
  obtain ⟨W, ρ, rfl, g, q⟩ := q
  have e0 : evS P cf cm (.asg (.tp [.nm i, .nm j]) (.tup [e1, e2])) ρ W.S = (evEs P cf cm [e1, e2] ρ W.S).bind fun ds ρ S => match (if ds.length ≤ sizeLine then bindT (.tp [.nm i, .nm j]) (.tup ds) ρ else none) with
      | some ρ' => .ok .next ρ' S
      | none => .err := by
    simp only [evS, evE]
    rw [Res.bind_assoc]
    congr 1
    funext ds ρ S
    by_cases hl : ds.length ≤ sizeLine
    · rw [if_pos hl, if_pos hl]; rfl
    · rw [if_neg hl, if_neg hl]; rfl
  rw [e0] at q
  refine tG.stm g q fun vs W1 ρ1 ds g1 st1 rd q => ?_
  have rd : RDs X.K W1 vs ds := rd
  split at q
  · rename_i ρ' hb
    split at hb
    · simp only [bindT] at hb
      cases rd with
      | nil => simp only [bindTs] at hb; cases hb
      | cons r1 t =>
        cases t with
        | nil => simp [bindTs] at hb
        | cons r2 t =>
          cases t with
          | cons r3 t => simp [bindTs] at hb
          | nil =>
            simp only [bindTs, bindT, Option.bind_eq_some_iff] at hb
            obtain ⟨ρ2, hb1, ρ3, hb2, hb3⟩ := hb
            cases hb3
            split at hb1
            · cases hb1
              split at hb2
              · cases hb2
                have ga := g1.setD r1 (by assumption : i < ρ1.length)
                exact ⟨_, _, rfl, q _ W1 rfl (ga.setD r2 (by assumption)) (Mono.refl W1)⟩
              · cases hb2
            · cases hb1
    · cases hb
  · exact q.elim
end
end Iv
/-! Sv9: what is walked; for, while, comprehensions -/
namespace Iv
open PySem PySem.Spec PyProof.Rows L2
mutual
theorem D.eqB_ok : ∀ {a b : D}, D.eqB a b = true → a = b
  | .non, .non, _ => rfl
  | .bl a, .bl b, h => by simp only [D.eqB, beq_iff_eq] at h; rw [h]
  | .int a, .int b, h => by simp only [D.eqB, decide_eq_true_eq] at h; rw [h]
  | .str a, .str b, h => by simp only [D.eqB, decide_eq_true_eq] at h; rw [h]
  | .tup a, .tup b, h => by simp only [D.eqB] at h; rw [D.eqBs_ok h]
  | .lst a, .lst b, h => by simp only [D.eqB] at h; rw [D.eqBs_ok h]
  | .dct t a, .dct u b, h => by
    simp only [D.eqB, Bool.and_eq_true, beq_iff_eq] at h
    rw [h.1, D.eqBk_ok h.2]
  | .ref a, .ref b, h => by simp only [D.eqB, beq_iff_eq] at h; rw [h]
  | .exc a x, .exc b y, h => by
    simp only [D.eqB, Bool.and_eq_true, beq_iff_eq] at h
    rw [h.1, D.eqBs_ok h.2]
  | .non, .bl _, h | .non, .int _, h | .non, .str _, h | .non, .tup _, h | .non, .lst _, h | .non, .dct _ _, h | .non, .ref _, h | .non, .exc _ _, h => by simp [D.eqB] at h
  | .bl _, .non, h | .bl _, .int _, h | .bl _, .str _, h | .bl _, .tup _, h | .bl _, .lst _, h | .bl _, .dct _ _, h | .bl _, .ref _, h | .bl _, .exc _ _, h => by simp [D.eqB] at h
  | .int _, .non, h | .int _, .bl _, h | .int _, .str _, h | .int _, .tup _, h | .int _, .lst _, h | .int _, .dct _ _, h | .int _, .ref _, h | .int _, .exc _ _, h => by simp [D.eqB] at h
  | .str _, .non, h | .str _, .bl _, h | .str _, .int _, h | .str _, .tup _, h | .str _, .lst _, h | .str _, .dct _ _, h | .str _, .ref _, h | .str _, .exc _ _, h => by simp [D.eqB] at h
  | .tup _, .non, h | .tup _, .bl _, h | .tup _, .int _, h | .tup _, .str _, h | .tup _, .lst _, h | .tup _, .dct _ _, h | .tup _, .ref _, h | .tup _, .exc _ _, h => by simp [D.eqB] at h
  | .lst _, .non, h | .lst _, .bl _, h | .lst _, .int _, h | .lst _, .str _, h | .lst _, .tup _, h | .lst _, .dct _ _, h | .lst _, .ref _, h | .lst _, .exc _ _, h => by simp [D.eqB] at h
  | .dct _ _, .non, h | .dct _ _, .bl _, h | .dct _ _, .int _, h | .dct _ _, .str _, h | .dct _ _, .tup _, h | .dct _ _, .lst _, h | .dct _ _, .ref _, h | .dct _ _, .exc _ _, h => by simp [D.eqB] at h
  | .ref _, .non, h | .ref _, .bl _, h | .ref _, .int _, h | .ref _, .str _, h | .ref _, .tup _, h | .ref _, .lst _, h | .ref _, .dct _ _, h | .ref _, .exc _ _, h => by simp [D.eqB] at h
  | .exc _ _, .non, h | .exc _ _, .bl _, h | .exc _ _, .int _, h | .exc _ _, .str _, h | .exc _ _, .tup _, h | .exc _ _, .lst _, h | .exc _ _, .dct _ _, h | .exc _ _, .ref _, h => by simp [D.eqB] at h
theorem D.eqBs_ok : ∀ {a b : List D}, D.eqBs a b = true → a = b
  | [], [], _ => rfl
  | x :: xs, y :: ys, h => by
    simp only [D.eqBs, Bool.and_eq_true] at h
    rw [D.eqB_ok h.1, D.eqBs_ok h.2]
  | [], _ :: _, h => by simp [D.eqBs] at h
  | _ :: _, [], h => by simp [D.eqBs] at h
theorem D.eqBk_ok : ∀ {a b : List (D × D)}, D.eqBk a b = true → a = b
  | [], [], _ => rfl
  | (x, z) :: xs, (y, w) :: ys, h => by
    simp only [D.eqBk, Bool.and_eq_true] at h
    rw [D.eqB_ok h.1.1, D.eqB_ok h.1.2, D.eqBk_ok h.2]
  | [], _ :: _, h => by simp [D.eqBk] at h
  | _ :: _, [], h => by simp [D.eqBk] at h
end
/-- what is walked: its turns, read in the world -/
def Src (K : PySem.W.Frag) (T : Tb) (W0 : Wd) (J : It) (xs : List D) (st : Sto → Bool) (W1 : Wd) : Prop :=
  ∃ (G : Hp → Prop) (Y : Nat → Hp → V → Hp → Prop) (I : Wd → Prop), Walk J xs.length G Y ∧ I W1 ∧ (∀ W, SR K T W → I W → G W.H) ∧
    (∀ (i : Nat) (W : Wd) (σ : L2.St) (ρ : Env) (v : V) (H' : Hp), i < xs.length → Good K T W0 W σ ρ → I W → Y i W.H v H' → ∃ (W' : Wd) (d : D), W'.H = H' ∧ W'.S = W.S ∧ Good K T W0 W' σ ρ ∧ Ext W W' (fun _ => False) ∧ xs[i]? = some d ∧ RD K W' v d ∧ I W') ∧
    (∀ (W W' : Wd), SR K T W → SR K T W' → I W → Mono W W' → st W'.S = true → I W')
section
variable {K : PySem.W.Frag} {T : Tb} {W0 W1 : Wd} {st : Sto → Bool}
theorem src_range {lo : Int} {n : Nat} : Src K T W0 (Itr lo n) (rangeI lo n) st W1 := by
  have hl : (rangeI lo n).length = n := by simp [rangeI]
  refine ⟨fun _ => True, YFn fun i => .int (lo + i), fun _ => True, by rw [hl]; exact walk_range, trivial, fun _ _ _ => trivial, fun i W σ ρ v H' hi g _ y => ?_, fun _ _ _ _ _ _ _ => trivial⟩
  rw [hl] at hi
  refine ⟨W, .int (lo + i), y.1.symm, rfl, g, Ext.refl W, ?_, ?_, trivial⟩
  · simp [rangeI, hi]
  · rw [y.2]; exact .int _
theorem src_str {z : Str} : Src K T W0 (Its z) (z.cps.toList.map fun c => .str (one c)) st W1 := by
  have hl : (z.cps.toList.map fun c => D.str (one c)).length = z.cps.size := by simp
  refine ⟨fun _ => True, _, fun _ => True, by rw [hl]; exact walk_str, trivial, fun _ _ _ => trivial, fun i W σ ρ v H' hi g _ y => ?_, fun _ _ _ _ _ _ _ => trivial⟩
  obtain ⟨y1, c, y2, y3⟩ := y
  refine ⟨W, .str (one c), y1.symm, rfl, g, Ext.refl W, ?_, ?_, trivial⟩
  · simp [y2]
  · rw [y3]; exact .str _
theorem src_tup {v0 : V} {xs : List D} (h : RD K W1 v0 (.tup xs)) : ∃ a vs, v0 = .ref a ∧ SqT K W1.H a vs ∧ Src K T W0 (Itt K a) xs st W1 := by
  obtain ⟨a, vs, rfl, h1, h2⟩ := rd_tup (.of h)
  have h1 := h1.sq
  refine ⟨a, vs, rfl, h1, fun H => SqT K H a vs, YAt vs, fun W => SqT K W.H a vs ∧ RDs K W vs xs, by rw [← h2.length]; exact walk_tup, ⟨h1, h2⟩, fun W _ i => i.1, fun i W σ ρ v H' hi g q y => ?_, fun W W' _ _ q m _ => ⟨m.sqT q.1, q.2.mono m⟩⟩
  obtain ⟨d, e1, e2⟩ := q.2.atV y.2
  exact ⟨W, d, y.1.symm, rfl, g, Ext.refl W, e1, e2, q⟩
theorem walk_listG {a : Addr} {n : Nat} : Walk (Itl K a) n (fun H => ∃ vs, SqL K H a vs ∧ vs.length = n) (fun i H x H' => H' = H ∧ ∀ vs, SqL K H a vs → vs[i]? = some x) :=
  ⟨fun i H hi ⟨vs, q, e⟩ => ⟨vs, vs[i], q, by simp [e, hi]⟩, fun H ⟨vs, q, e⟩ => ⟨vs, q, by omega⟩, fun i H x H' _ _ y => y⟩
theorem seq_stays {S S' : Sto} {d : D} {xs : List D} (h : lstD S d = some xs) (hs : stays S [d] S' = true) : lstD S' d = some xs := by
  cases d with
  | ref a =>
    simp only [stays, List.all_cons, List.all_nil, Bool.and_true] at hs
    simp only [lstD] at h ⊢
    cases q : cellAt S a with
    | none => rw [q] at h; cases h
    | some c =>
      rw [q] at h hs
      cases c with
      | lst ys =>
        cases h
        cases q2 : cellAt S' a with
        | none => rw [q2] at hs; cases hs
        | some c2 =>
          rw [q2] at hs
          cases c2 with
          | lst zs => rw [D.eqBs_ok hs]
          | _ => cases hs
      | _ => cases h
  | lst ys => exact h
  | _ => cases h
theorem src_list {v0 : V} {d : D} {xs : List D} (s : SR K T W1) (h : RD K W1 v0 d) (e : lstD W1.S d = some xs) (hst : st = stays W1.S [d]) : ∃ a vs, v0 = .ref a ∧ SqL K W1.H a vs ∧ Src K T W0 (Itl K a) xs st W1 := by
  obtain ⟨a, vs, rfl, h1, h2⟩ := rd_lst s (.of h) e
  refine ⟨a, vs, rfl, h1, _, _, fun W => RD K W (.ref a) d ∧ lstD W.S d = some xs, walk_listG, ⟨h, e⟩, fun W s i => ?_, fun i W σ ρ v H' hi g q y => ?_, fun W W' _ _ q m hs => ⟨q.1.mono m, ?_⟩⟩
  · obtain ⟨b, ws, e1, e2, e3⟩ := rd_lst s (.of i.1) i.2
    cases e1
    exact ⟨ws, e2, e3.length⟩
  · obtain ⟨b, ws, e1, e2, e3⟩ := rd_lst g.sr (.of q.1) q.2
    cases e1
    obtain ⟨d', e4, e5⟩ := e3.atV (y.2 ws e2)
    exact ⟨W, d', y.1.symm, rfl, g, Ext.refl W, e4, e5, q⟩
  · subst hst
    exact seq_stays e hs
end
section
variable {X : Cx} {T : Tb} {W0 : Wd} {wish : Wish} {P : Pg} {cf cm : Nat → List D → Sto → ResF}
variable (T W0 wish P cf cm) in
/-- what a loop walks -/
def tW (K : PySem.W.Frag) (k : Ik) (its : List E) : TI := fun σ H R => ∃ (W : Wd) (ρ : Env), W.H = H ∧ Good K T W0 W σ ρ ∧ match evEs P cf cm its ρ W.S with
  | .ok ds ρ1 S1 => ∃ xs, itemsD S1 k ds = some xs ∧ ∀ (W1 : Wd) (J : It), W1.S = S1 → Good K T W0 W1 σ ρ1 → Step σ W ρ W1 ρ1 → Src K T W0 J xs (stays S1 ds) W1 → R J W1.H
  | .exc c vs ρ1 S1 => ∀ (cls : Value) (d : Option Addr) (W1 : Wd), W1.S = S1 → Good K T W0 W1 σ ρ1 → Step σ W ρ W1 ρ1 → XR W1 cls d c vs → wish cls d σ W1.H
  | .err => False
theorem PI.or {tg it : Expr} {t t' : TI} (h : PI X tg it t) (h' : PI X tg it t') : PI X tg it (fun σ H R => t σ H R ∨ t' σ H R) := ⟨fun pins s σ H R I q => q.elim (h.run pins s σ H R I) (h'.run pins s σ H R I)⟩
theorem wk_seq {e : E} {x tg : Expr} (h : PE X x (tE T W0 wish P cf cm X.K e)) : PI X tg x (tW T W0 wish P cf cm X.K .seq [e]) := by
  have h := sn_d h
  refine Iv.PI.imp (Iv.PI.or (pi_list h) (Iv.PI.or (pi_tup h) (pi_str h))) fun σ H R q => ?_
  obtain ⟨W, ρ, rfl, g, q⟩ := q
  have e1 : evEs P cf cm [e] ρ W.S = ((evE P cf cm e ρ W.S).bind fun r ρ S => .ok r.d ρ S).bind fun d ρ S => .ok [d] ρ S := by
    simp only [evEs]
    rw [Res.bind_assoc]; rfl
  rw [e1] at q
  cases m : (evE P cf cm e ρ W.S).bind fun r ρ S => .ok r.d ρ S with
  | ok d ρ1 S1 =>
    rw [m] at q
    obtain ⟨xs, e2, q⟩ := q
    have go : ∀ {Q : V → Hp → Prop}, (∀ v W1, W1.S = S1 → Good X.K T W0 W1 σ ρ1 → Step σ W ρ W1 ρ1 → RD X.K W1 v d → Q v W1.H) → tD T W0 wish P cf cm X.K e σ W.H Q := fun hq =>
      ⟨W, ρ, rfl, g, by dsimp only; rw [m]; exact hq⟩
    have e2 : walkD S1 d = some xs := e2
    cases d with
    | str z =>
      cases e2
      exact .inr (.inr (go fun v W1 hS g1 st1 r => ⟨z, rd_str (.of r), q W1 _ hS g1 st1 src_str⟩))
    | tup ys =>
      cases e2
      refine .inr (.inl (go fun v W1 hS g1 st1 r => ?_))
      obtain ⟨a, vs, e3, e4, e5⟩ := src_tup r
      exact ⟨a, e3, ⟨vs, e4⟩, q W1 _ hS g1 st1 e5⟩
    | lst ys =>
      refine .inl (go fun v W1 hS g1 st1 r => ?_)
      obtain ⟨a, vs, e3, e4, e5⟩ := src_list (T := T) (W0 := W0) (xs := xs) (st := stays S1 [.lst ys]) g1.sr r e2 (by rw [hS])
      exact ⟨a, e3, ⟨vs, e4⟩, q W1 _ hS g1 st1 e5⟩
    | ref id =>
      refine .inl (go fun v W1 hS g1 st1 r => ?_)
      obtain ⟨a, vs, e3, e4, e5⟩ := src_list (T := T) (W0 := W0) (xs := xs) (st := stays S1 [.ref id]) g1.sr r (by rw [hS]; exact e2) (by rw [hS])
      exact ⟨a, e3, ⟨vs, e4⟩, q W1 _ hS g1 st1 e5⟩
    | _ => cases e2
  | exc c vs ρ1 S1 =>
    rw [m] at q
    exact .inl ⟨W, ρ, rfl, g, by dsimp only; rw [m]; exact q⟩
  | err => rw [m] at q; exact q.elim
theorem wk_range1 {e : E} {x tg : Expr} {p pos : Pos} (hg : Gl X "range") (hm : X.mg "range" = none) (hs : nostar x = true) (h : PE X x (tE T W0 wish P cf cm X.K e)) : PI X tg (.Call (.Name "range" p) [x] [] pos) (tW T W0 wish P cf cm X.K .range1 [e]) := by
  refine Iv.PI.imp (pi_range1 hg hm (sn_consD hs h sn_nilD) (by rw [star_ns hs]; rfl)) fun σ H R q => ?_
  obtain ⟨W, ρ, rfl, g, q⟩ := q
  cases m : evEs P cf cm [e] ρ W.S with
  | ok ds ρ1 S1 =>
    rw [m] at q
    obtain ⟨xs, e2, q⟩ := q
    refine ⟨W, ρ, rfl, g, ?_⟩
    rw [m]
    intro vs W1 hS g1 st1 r
    have r : RDs X.K W1 vs ds := r
    unfold itemsD at e2
    split at e2 <;> try contradiction
    split at e2
    · rename_i hb
      cases e2
      cases r with
      | cons r1 r2 =>
        cases r2
        rw [rd_int (.of r1)]
        exact ⟨_, rfl, hb.1, hb.2, q W1 _ hS g1 st1 src_range⟩
    · cases e2
  | exc c vs ρ1 S1 =>
    rw [m] at q
    exact ⟨W, ρ, rfl, g, by rw [m]; exact q⟩
  | err => rw [m] at q; exact q.elim
theorem wk_range2 {e e' : E} {x x' tg : Expr} {p pos : Pos} (hg : Gl X "range") (hm : X.mg "range" = none) (hs : nostar x = true) (hs' : nostar x' = true) (h : PE X x (tE T W0 wish P cf cm X.K e)) (h' : PE X x' (tE T W0 wish P cf cm X.K e')) :
    PI X tg (.Call (.Name "range" p) [x, x'] [] pos) (tW T W0 wish P cf cm X.K .range2 [e, e']) := by
  refine Iv.PI.imp (pi_range2 hg hm (sn_consD hs h (sn_consD hs' h' sn_nilD)) (by rw [star_ns hs, star_ns hs']; rfl) (by rw [star_ns hs']; rfl)) fun σ H R q => ?_
  obtain ⟨W, ρ, rfl, g, q⟩ := q
  cases m : evEs P cf cm [e, e'] ρ W.S with
  | ok ds ρ1 S1 =>
    rw [m] at q
    obtain ⟨xs, e2, q⟩ := q
    refine ⟨W, ρ, rfl, g, ?_⟩
    rw [m]
    intro vs W1 hS g1 st1 r
    have r : RDs X.K W1 vs ds := r
    unfold itemsD at e2
    split at e2 <;> try contradiction
    split at e2
    · rename_i hb
      cases e2
      cases r with
      | cons r1 r2 =>
        cases r2 with
        | cons r2 r3 =>
          cases r3
          rw [rd_int (.of r1), rd_int (.of r2)]
          exact ⟨_, _, rfl, hb, q W1 _ hS g1 st1 src_range⟩
    · cases e2
  | exc c vs ρ1 S1 =>
    rw [m] at q
    exact ⟨W, ρ, rfl, g, by rw [m]; exact q⟩
  | err => rw [m] at q; exact q.elim
/-! ### for -/
def notSet : Expr → Bool
  | .Set _ _ _ => false
  | _ => true
theorem folded_ok {x : Expr} {env : PySem.Env} (h : notSet x = true) : ∀ v, foldedSetIterable x env v = pure v := by
  intro v
  cases x <;> first | rfl | cases h
theorem st_for {tg : Tg} {k : Ik} {its : List E} {body : List Sm} {ks : List Nat} {xt xi : Expr} {xb : List Stmt} {p : Pos} (hp : PassesOwn (model X.prog X.w) X.A X.env X.xe) (hc : X.calm = true) (hi : PI X xt xi (tW T W0 wish P cf cm X.K k its)) (hg : PG X xt (tTg T W0 X.K tg))
    (hb : PSs X xb (tS X.K T W0 wish (evSs P cf cm body))) (hs : notSet xi = true) : PS X (.For xt xi xb [] p) (tS X.K T W0 wish (evS P cf cm (.for_ tg k its body ks))) := by
  refine Iv.PS.imp (ps_for hp hc hi hg hb (folded_ok hs)) fun D σ H q => ?_
  obtain ⟨W, ρ, rfl, g, q⟩ := q
  simp only [evS] at q
  refine ⟨W, ρ, rfl, g, ?_⟩
  cases m : evEs P cf cm its ρ W.S with
  | ok ds ρ1 S1 =>
    rw [m] at q
    have q : DmS X.K T W0 wish (match itemsD S1 k ds with
      | none => .err
      | some xs => forLoop tg (evSs P cf cm body) ks (stays S1 ds) xs (kill ks ρ1) S1) W D := q
    cases e : itemsD S1 k ds with
    | none => rw [e] at q; exact q.elim
    | some xs =>
      rw [e] at q
      refine ⟨xs, e, fun W1 J hS g1 st1 src => ?_⟩
      have q : DmS X.K T W0 wish (forLoop tg (evSs P cf cm body) ks (stays S1 ds) xs (kill ks ρ1) W1.S) W1 D := by
        rw [hS]
        exact DmS.shift (st1.e.mono g.sr) q
      obtain ⟨G, Y, I, w, i0, hG, hY, hM⟩ := src
      refine for_it w (fun i σ H => ∃ (W : Wd) (ρ : Env), W.H = H ∧ Good X.K T W0 W σ ρ ∧ I W ∧ DmS X.K T W0 wish (forLoop tg (evSs P cf cm body) ks (stays S1 ds) (xs.drop i) ρ W.S) W D) ⟨W1, kill ks ρ1, rfl, g1.kill ks, i0, q⟩
        (fun i σ H _ ⟨W, ρ, e, g, i, _⟩ => by rw [← e]; exact hG W g.sr i) (fun i v σ H H' hlt ⟨W2, ρ2, e2, g2, i2, q2⟩ y => ?_) (fun σ H ⟨W2, ρ2, e2, g2, i2, q2⟩ => ?_)
      · subst e2
        obtain ⟨W3, d, e3, e4, g3, x3, e5, r3, i3⟩ := hY i W2 σ ρ2 v H' hlt g2 i2 y
        have hd : xs.drop i = d :: xs.drop (i + 1) := by
          rw [List.drop_eq_getElem_cons hlt]
          rw [List.getElem?_eq_getElem hlt] at e5
          rw [Option.some.inj e5]
        rw [hd] at q2
        simp only [forLoop] at q2
        have q2 := DmS.shift (x3.mono g2.sr) q2
        rw [← e4] at q2
        split at q2
        · exact q2.elim
        · rename_i ρ3 hb3
          refine ⟨W3, ρ2, ρ3, d, e3, g3, r3, hb3, fun σ4 o4 g4 => ⟨W3, ρ3, e3, g4, ?_⟩⟩
          generalize evSs P cf cm body ρ3 W3.S = mb at q2 ⊢
          cases mb with
          | ok f ρ5 S5 =>
            cases f with
            | next =>
              intro σ6 W6 hS6 g6 m6
              subst hS6
              have q2 : DmS X.K T W0 wish (if stays S1 ds W6.S = true then forLoop tg (evSs P cf cm body) ks (stays S1 ds) (xs.drop (i + 1)) (kill ks ρ5) W6.S else .err) W3 D := q2
              split at q2
              · rename_i hst
                exact ⟨W6, kill ks ρ5, rfl, g6.kill ks, hM W3 W6 g3.sr g6.sr i3 m6 hst, DmS.shift m6 q2⟩
              · exact q2.elim
            | ret r => exact q2
          | exc c vs ρ5 S5 => exact q2
          | err => exact q2.elim
      · subst e2
        rw [List.drop_length] at q2
        simp only [forLoop] at q2
        exact q2 σ W2 rfl g2 (Mono.refl W2)
  | exc c vs ρ1 S1 =>
    rw [m] at q
    exact fun cls d W1 hS g1 st1 xr => q cls d σ W1 hS g1 (st1.e.mono g.sr) xr
  | err => rw [m] at q; exact q.elim
/-! ### while -/
theorem st_while {c : E} {body : List Sm} {ks : List Nat} {xc : Expr} {xb : List Stmt} {p : Pos} (hp : PassesOwn (model X.prog X.w) X.A X.env X.xe) (hc : PT X xc (tT T W0 wish P cf cm X.K c)) (hb : PSs X xb (tS X.K T W0 wish (evSs P cf cm body))) :
    PS X (.While xc xb [] p) (tS X.K T W0 wish (evS P cf cm (.while_ c body ks))) := by
  refine Iv.PS.imp (ps_while hp hc hb) fun D σ H q => ?_
  obtain ⟨W, ρ, rfl, g, q⟩ := q
  simp only [evS] at q
  refine ⟨fun n σ H => ∃ (W : Wd) (ρ : Env), W.H = H ∧ Good X.K T W0 W σ ρ ∧ DmS X.K T W0 wish (whileLoop (fun ρ S => (pk c (evE P cf cm c) ρ S).bind fun x ρ S => .of (truthD S x) ρ S) (evSs P cf cm body) ks n ρ W.S) W D,
    ⟨turns, W, kill ks ρ, rfl, g.kill ks, q⟩, fun n σ H ⟨W1, ρ1, e1, g1, q1⟩ => ?_⟩
  subst e1
  cases n with
  | zero => simp only [whileLoop] at q1; exact q1.elim
  | succ n =>
    simp only [whileLoop] at q1
    refine ⟨W1, ρ1, rfl, g1, ?_⟩
    dsimp only
    generalize ((pk c (evE P cf cm c) ρ1 W1.S).bind fun x ρ S => Res.of (truthD S x) ρ S) = mt at q1 ⊢
    cases mt with
    | ok b ρ2 S2 =>
      intro b' W2 hS g2 st2 rb
      have rb : b' = b := rb
      subst rb
      subst hS
      have q1 := DmS.shift (st2.e.mono g1.sr) q1
      cases b' with
      | false => exact iteF (q1 σ W2 rfl g2 (Mono.refl W2))
      | true =>
        refine iteT ⟨fun σ H => ∃ (W : Wd) (ρ : Env), W.H = H ∧ Good X.K T W0 W σ ρ ∧ DmS X.K T W0 wish (whileLoop (fun ρ S => (pk c (evE P cf cm c) ρ S).bind fun x ρ S => .of (truthD S x) ρ S) (evSs P cf cm body) ks n ρ W.S) W D,
          fun σ' H' h => ⟨n, Nat.lt_succ_self n, h⟩, W2, ρ2, rfl, g2, ?_⟩
        have q1 : DmS X.K T W0 wish (match evSs P cf cm body ρ2 W2.S with
          | .ok .next ρ2 S2 => whileLoop (fun ρ S => (pk c (evE P cf cm c) ρ S).bind fun x ρ S => .of (truthD S x) ρ S) (evSs P cf cm body) ks n (kill ks ρ2) S2
          | .ok (.ret r) ρ2 S2 => .ok (.ret r) ρ2 S2
          | .exc c vs ρ2 S2 => .exc c vs ρ2 S2
          | .err => .err) W2 D := q1
        generalize evSs P cf cm body ρ2 W2.S = mb at q1 ⊢
        cases mb with
        | ok f ρ5 S5 =>
          cases f with
          | next =>
            intro σ6 W6 hS6 g6 m6
            subst hS6
            exact ⟨W6, kill ks ρ5, rfl, g6.kill ks, DmS.shift m6 q1⟩
          | ret r => exact q1
        | exc c vs ρ5 S5 => exact q1
        | err => exact q1.elim
    | exc c' vs ρ2 S2 => exact fun cls d W2 hS g2 st2 xr => q1 cls d σ W2 hS g2 (st2.e.mono g1.sr) xr
    | err => exact q1.elim
end
end Iv
/-! Sv10: comprehensions -/
namespace Iv
open PySem PySem.Spec PyProof.Rows L2
section
variable {K : PySem.W.Frag} {T : Tb} {W0 W W' W1 W2 : Wd} {σ σ' : L2.St} {ρ ρ' : Env} {p : Addr} {o : HO}
/-- a list, a dict at p: it may be changed -/
def Chg (W : Wd) (p : Addr) : Prop := (∀ xs, W.H p ≠ some (.tup xs)) ∧ (∀ o u, W.H p ≠ some (.frz o u))
theorem monoPut (nF : ¬ W.F p) (c : Chg W p) : Mono W (W.put p o) :=
  ⟨fun _ h => h, fun a u f h => by
    show upd W.H p o a = _
    rw [upd_ne (fun z => by rw [z] at f; exact nF f)]; exact h, fun a xs h => by
    show upd W.H p o a = _
    rw [upd_ne (fun z => by rw [z] at h; exact c.1 _ h)]; exact h, fun a u xs h => by
    show upd W.H p o a = _
    rw [upd_ne (fun z => by rw [z] at h; exact c.2 _ _ h)]; exact h, Nat.le_refl _, fun _ _ => rfl⟩
/-- a list that nobody holds put otherwise -/
theorem Good.putAt (g : Good K T W0 W σ ρ) (nF : ¬ W.F p) (nB : ¬ W.B p) (n0 : W0.H p = none) (no : ¬ OwnS σ ρ p) (c : Chg W p) : Good K T W0 (W.put p o) σ ρ := by
  have m := monoPut (o := o) nF c
  have ne : ∀ {b : Addr} {u : HO}, b ≠ p → W.H b = some u → (W.put p o).H b = some u := fun {b u} h e => by
    show upd W.H p o b = _
    rw [upd_ne h]; exact e
  have e0 : Ext W0 (W.put p o) fun _ => False := ⟨g.ext.f1, g.ext.f2, fun a u h nb => ne (fun z => by rw [z, n0] at h; cases h) (g.ext.h a u h nb), fun a h => by
    show upd W.H p o a ≠ none
    by_cases z : a = p
    · rw [z, upd_same]; exact fun z => nomatch z
    · rw [upd_ne z]; exact g.ext.hb a h, g.ext.n, g.ext.i, g.ext.new⟩
  refine ⟨g.s0, e0, ⟨fun id cl h => ?_, g.sr.inj, g.sr.nf, fun b f => ?_⟩, g.er.len, fun i s h => ?_, g.er.ap⟩
  · refine CellOk.mono m (fun u hu => ne (fun z => ?_) hu) (g.sr.cell id cl h)
    have : id < W.S.length := (List.getElem?_eq_some_iff.mp h).1
    exact nB ⟨id, this, z⟩
  · show upd W.H p o b ≠ none
    by_cases z : b = p
    · rw [z, upd_same]; exact fun z => nomatch z
    · rw [upd_ne z]; exact g.sr.fs b f
  · exact (g.er.ok i s h).mono m fun os a hx => ⟨fun u hu => ne (fun z => no (by rw [← z]; exact ⟨i, s, h, os, hx⟩)) hu, fun f => f, fun b => b⟩
theorem Ext.put {own : Addr → Prop} (e : Ext W1 W own) (h1 : W1.H p = none) : Ext W1 (W.put p o) own :=
  ⟨e.f1, e.f2, fun a u h nb => by
    show upd W.H p o a = _
    rw [upd_ne (fun z => by rw [z, h1] at h; cases h)]; exact e.h a u h nb, fun a h => by
    show upd W.H p o a ≠ none
    by_cases z : a = p
    · rw [z, upd_same]; exact fun z => nomatch z
    · rw [upd_ne z]; exact e.hb a h, e.n, e.i, e.new⟩
/-! ### slots forgotten -/
theorem kill_len : ∀ (ks : List Nat) (ρ : Env), (kill ks ρ).length = ρ.length
  | [], _ => rfl
  | k :: ks, ρ => by simp [kill, kill_len ks ρ]
theorem kill_at : ∀ (ks : List Nat) (ρ : Env) (j : Nat), (kill ks ρ)[j]? = if j ∈ ks ∧ j < ρ.length then some .no else ρ[j]?
  | [], ρ, j => by simp [kill]
  | k :: ks, ρ, j => by
    unfold kill
    by_cases e : k = j
    · subst e
      by_cases hl : k < ρ.length
      · rw [List.getElem?_set_self (by rw [kill_len]; exact hl)]
        simp [hl]
      · rw [List.getElem?_eq_none (by simp [kill_len]; omega), List.getElem?_eq_none (by omega)]
        simp [hl]
    · rw [List.getElem?_set_ne e, kill_at ks ρ j]
      have : (j ∈ k :: ks) ↔ j ∈ ks := by simp [Ne.symm e]
      simp only [this]
theorem wipe_at : ∀ (ks : List Nat) (σ : L2.St) (j : Nat), (wipe σ ks)[j]? = if j ∈ ks ∧ j < σ.length then some none else σ[j]?
  | [], σ, j => by simp [wipe]
  | k :: ks, σ, j => by
    unfold wipe
    by_cases e : k = j
    · subst e
      by_cases hl : k < σ.length
      · rw [List.getElem?_set_self (by rw [wipe_length]; exact hl)]
        simp [hl]
      · rw [List.getElem?_eq_none (by simp [wipe_length]; omega), List.getElem?_eq_none (by omega)]
        simp [hl]
    · rw [List.getElem?_set_ne e, wipe_at ks σ j]
      have : (j ∈ k :: ks) ↔ j ∈ ks := by simp [Ne.symm e]
      simp only [this]
theorem wipe_off {is ks : List Nat} (h : Off is (wipe σ ks) σ') (hs : ∀ i ∈ is, i ∈ ks) : wipe σ' ks = wipe σ ks := by
  have hl : σ'.length = σ.length := by rw [h.1, wipe_length]
  apply List.ext_getElem?
  intro j
  rw [wipe_at, wipe_at, hl]
  split
  · rfl
  · rename_i hj
    have hn : j ∉ is ∨ ¬ j < σ.length := by
      by_cases hi : j ∈ is
      · exact .inr fun z => hj ⟨hs j hi, z⟩
      · exact .inl hi
    rcases hn with hn | hn
    · rw [h.2 j hn, wipe_at, if_neg hj]
    · rw [List.getElem?_eq_none (by omega), List.getElem?_eq_none (by omega)]
theorem Good.wipe1 {k : Nat} (g : Good K T W0 W σ ρ) : Good K T W0 W (σ.set k none) (ρ.set k .no) := by
  refine ⟨g.s0, g.ext, g.sr, by simp [g.er.len], fun j s h => ?_, fun j l a s u h1 h2 o1 o2 e1 e2 => ?_⟩
  · by_cases e : k = j
    · subst e
      by_cases hl : k < ρ.length
      · rw [List.getElem?_set_self hl] at h
        cases h
        exact trivial
      · rw [List.getElem?_eq_none (by simpa using hl)] at h
        cases h
    · rw [List.getElem?_set_ne e] at h ⊢
      exact g.er.ok j s h
  · have ne : ∀ {m : Nat} {s : Slot}, (ρ.set k .no)[m]? = some s → s.own = true → k ≠ m := fun {m s} h o z => by
      subst z
      by_cases hl : k < ρ.length
      · rw [List.getElem?_set_self hl] at h
        cases h
        cases o
      · rw [List.getElem?_eq_none (by simpa using hl)] at h
        cases h
    have n1 := ne h1 o1
    have n2 := ne h2 o2
    rw [List.getElem?_set_ne n1] at h1 e1
    rw [List.getElem?_set_ne n2] at h2 e2
    exact g.er.ap j l a s u h1 h2 o1 o2 e1 e2
theorem Good.wipe (g : Good K T W0 W σ ρ) : ∀ ks : List Nat, Good K T W0 W (L2.wipe σ ks) (Iv.kill ks ρ)
  | [] => g
  | k :: ks => (Good.wipe g ks).wipe1
theorem OwnS.wipe {ks : List Nat} {a : Addr} (h : OwnS (L2.wipe σ ks) (Iv.kill ks ρ) a) : OwnS σ ρ a := by
  obtain ⟨j, s, h1, h2, h3⟩ := h
  rw [kill_at] at h1
  split at h1
  · cases h1; cases h2
  · rename_i hj
    rw [wipe_at] at h3
    split at h3
    · cases h3
    · exact ⟨j, s, h1, h2, h3⟩
/-! ### targets and own slots -/
mutual
theorem bindT_own : ∀ {tg : Tg} {d : D} {ρ ρ' : Env}, bindT tg d ρ = some ρ' → ρ'.length = ρ.length ∧ ∀ j s, ρ'[j]? = some s → s.own = true → j ∉ tgIx tg ∧ ρ[j]? = some s
  | .nm i, d, ρ, ρ', h => by
    simp only [bindT] at h
    split at h
    · cases h
      refine ⟨by simp, fun j s hs o => ?_⟩
      by_cases e : i = j
      · subst e
        rw [List.getElem?_set_self (by assumption)] at hs
        cases hs; cases o
      · rw [List.getElem?_set_ne e] at hs
        exact ⟨by simp [tgIx, Ne.symm e], hs⟩
    · cases h
  | .tp ts, .tup ds, ρ, ρ', h => by
    simp only [bindT] at h
    obtain ⟨h1, h2⟩ := bindTs_own h
    exact ⟨h1, fun j s hs o => by simpa [tgIx] using h2 j s hs o⟩
  | .tp ts, .non, ρ, ρ', h | .tp ts, .bl _, ρ, ρ', h | .tp ts, .int _, ρ, ρ', h | .tp ts, .str _, ρ, ρ', h | .tp ts, .lst _, ρ, ρ', h | .tp ts, .dct _ _, ρ, ρ', h | .tp ts, .ref _, ρ, ρ', h | .tp ts, .exc _ _, ρ, ρ', h => by simp [bindT] at h
theorem bindTs_own : ∀ {ts : List Tg} {ds : List D} {ρ ρ' : Env}, bindTs ts ds ρ = some ρ' → ρ'.length = ρ.length ∧ ∀ j s, ρ'[j]? = some s → s.own = true → j ∉ tgIxs ts ∧ ρ[j]? = some s
  | [], [], ρ, ρ', h => by
    simp only [bindTs, Option.some.injEq] at h
    subst h
    exact ⟨rfl, fun j s hs o => ⟨by simp [tgIxs], hs⟩⟩
  | t :: ts, d :: ds, ρ, ρ', h => by
    simp only [bindTs, Option.bind_eq_some_iff] at h
    obtain ⟨ρ1, e1, e2⟩ := h
    obtain ⟨h1, h2⟩ := bindT_own e1
    obtain ⟨h3, h4⟩ := bindTs_own e2
    refine ⟨h3.trans h1, fun j s hs o => ?_⟩
    obtain ⟨h5, h6⟩ := h4 j s hs o
    obtain ⟨h7, h8⟩ := h2 j s h6 o
    exact ⟨by simp [tgIxs, h5, h7], h8⟩
  | [], _ :: _, ρ, ρ', h => by simp [bindTs] at h
  | _ :: _, [], ρ, ρ', h => by simp [bindTs] at h
end
theorem OwnS.bind {tg : Tg} {d : D} {ρ ρ' : Env} {a : Addr} (hb : bindT tg d ρ = some ρ') (ho : Off (tgIx tg) σ σ') (h : OwnS σ' ρ' a) : OwnS σ ρ a := by
  obtain ⟨j, s, h1, h2, h3⟩ := h
  obtain ⟨h4, h5⟩ := (bindT_own hb).2 j s h1 h2
  exact ⟨j, s, h5, h2, by rw [← ho.2 j h4]; exact h3⟩
theorem back_len : ∀ (ks : List Nat) (ρ ρ' : Env), (back ks ρ ρ').length = ρ'.length
  | [], _, _ => rfl
  | k :: ks, ρ, ρ' => by simp [back, back_len ks ρ ρ']
theorem back_at : ∀ (ks : List Nat) (ρ ρ' : Env) (j : Nat), (back ks ρ ρ')[j]? = if j ∈ ks ∧ j < ρ'.length then some (ρ.getD j .no) else ρ'[j]?
  | [], ρ, ρ', j => by simp [back]
  | k :: ks, ρ, ρ', j => by
    unfold back
    by_cases e : k = j
    · subst e
      by_cases hl : k < ρ'.length
      · rw [List.getElem?_set_self (by rw [back_len]; exact hl)]
        simp [hl]
      · rw [List.getElem?_eq_none (by simp [back_len]; omega), List.getElem?_eq_none (by omega)]
        simp [hl]
    · rw [List.getElem?_set_ne e, back_at ks ρ ρ' j]
      have : (j ∈ k :: ks) ↔ j ∈ ks := by simp [Ne.symm e]
      simp only [this]
theorem Good.back {ks : List Nat} {ρ1 : Env} (g1 : Good K T W0 W1 σ ρ1) (g : Good K T W0 W (L2.wipe σ ks) (Iv.kill ks ρ)) (hn : noOwn ks ρ1 = true) (m : Mono W1 W) : Good K T W0 W σ (Iv.back ks ρ1 ρ) := by
  have hl : ρ.length = σ.length := by have := g.er.len; rw [kill_len, wipe_length] at this; exact this
  have hl1 := g1.er.len
  have inn : ∀ j, j ∈ ks → (ρ1.getD j .no).own = false := fun j hj => by
    have := List.all_eq_true.mp hn j hj
    simpa using this
  have off : ∀ j s, (Iv.back ks ρ1 ρ)[j]? = some s → s.own = true → j ∉ ks ∧ (Iv.kill ks ρ)[j]? = some s ∧ (L2.wipe σ ks)[j]? = σ[j]? := fun j s h o => by
    rw [back_at] at h
    split at h
    · rename_i hj
      cases h
      rw [inn j hj.1] at o; cases o
    · rename_i hj
      have hlt : j < ρ.length := (List.getElem?_eq_some_iff.mp h).1
      have hjk : j ∉ ks := fun z => hj ⟨z, hlt⟩
      refine ⟨hjk, ?_, ?_⟩
      · rw [kill_at, if_neg hj]; exact h
      · rw [wipe_at, if_neg (fun z => hjk z.1)]
  refine ⟨g.s0, g.ext, g.sr, by rw [back_len]; exact hl, fun j s h => ?_, fun j l a s u h1 h2 o1 o2 e1 e2 => ?_⟩
  · rw [back_at] at h
    split at h
    · rename_i hj
      cases h
      have hlt : j < ρ1.length := by omega
      have hs : ρ1[j]? = some ρ1[j] := List.getElem?_eq_getElem hlt
      have hgd : ρ1.getD j .no = ρ1[j] := by simp [List.getD, hs]
      have no := inn j hj.1
      rw [hgd] at no ⊢
      exact (g1.er.ok j _ hs).mono m fun os => by rw [no] at os; cases os
    · rename_i hj
      have hlt : j < ρ.length := (List.getElem?_eq_some_iff.mp h).1
      have hjk : j ∉ ks := fun z => hj ⟨z, hlt⟩
      have := g.er.ok j s (by rw [kill_at, if_neg hj]; exact h)
      rw [wipe_at, if_neg (fun z => hjk z.1)] at this
      exact this
  · obtain ⟨k1, q1, w1⟩ := off j s h1 o1
    obtain ⟨k2, q2, w2⟩ := off l u h2 o2
    exact g.er.ap j l a s u q1 q2 o1 o2 (by rw [w1]; exact e1) (by rw [w2]; exact e2)
theorem EnvLe.back {ks : List Nat} {ρ1 : Env} (le : EnvLe (Iv.kill ks ρ1) (Iv.kill ks ρ)) (hn : noOwn ks ρ1 = true) : EnvLe ρ1 (Iv.back ks ρ1 ρ) := by
  have hl : ρ.length = ρ1.length := by have := le.1; rw [kill_len, kill_len] at this; exact this
  refine ⟨by rw [back_len]; exact hl, fun j s h o => ?_⟩
  rw [back_at] at h
  split at h
  · rename_i hj
    cases h
    have := List.all_eq_true.mp hn j hj.1
    rw [o] at this
    cases this
  · rename_i hj
    have hlt : j < ρ.length := (List.getElem?_eq_some_iff.mp h).1
    have hjk : j ∉ ks := fun z => hj ⟨z, hlt⟩
    have := le.2 j s (by rw [kill_at, if_neg hj]; exact h) o
    rw [kill_at, if_neg (fun z => hjk z.1)] at this
    exact this
end
end Iv
/-! Sv11: comprehensions, the rule -/
namespace Iv
open PySem PySem.Spec PyProof.Rows L2
section
variable {X : Cx} {T : Tb} {W0 : Wd} {wish : Wish} {P : Pg} {cf cm : Nat → List D → Sto → ResF}
abbrev noW : Wish := fun _ _ _ _ => False
theorem EnvLe.own2 {σ : L2.St} {ρ ρ' : Env} (a : EnvLe ρ ρ') {x : Addr} (h : OwnS σ ρ' x) : OwnS σ ρ x := a.own h
variable (T W0 P cf cm) in
/-- a comprehension's test -/
abbrev tCd (K : PySem.W.Frag) (cond : List E) : TT := tG K T W0 noW (evC P cf cm cond) (rB K T)
theorem lc_imp {elt : E} {tg : Tg} {k : Ik} {its cond : List E} {own : List (Str × Nat)} (σ : L2.St) (H : Hp) (Q : VK) (q : tE T W0 wish P cf cm X.K (.lc elt tg k its cond (own.map (·.2))) σ H Q) :
    tLc (tW T W0 wish P cf cm X.K k its) (tTg T W0 X.K tg) (tCd T W0 P cf cm X.K cond) (tD T W0 noW P cf cm X.K elt) (own.map (·.2)) σ H Q := by
  obtain ⟨W, ρ, rfl, g, q⟩ := q
  simp only [evE] at q
  refine ⟨W, ρ, rfl, g, ?_⟩
  cases m : evEs P cf cm its ρ W.S with
  | ok ds ρ1 S1 =>
    rw [m] at q
    have q : Dm X.K T W0 wish (match itemsD S1 k ds with
      | none => .err
      | some xs => if noOwn (own.map (·.2)) ρ1 = true ∧ (tgIx tg).all (own.map (·.2)).contains = true ∧ stays S1 ds S1 = true then (match compLoop tg (own.map (·.2)) (evC P cf cm cond) (fun ρ S => (evE P cf cm elt ρ S).bind fun r ρ S => .ok r.d ρ S) (stays S1 ds) xs [] ρ1 S1 with
        | .ok acc ρ' S' => .ok (.ol acc) (back (own.map (·.2)) ρ1 ρ') S'
        | _ => .err) else .err) W σ ρ (rV X.K T W0 σ) Q := q
    generalize own.map (·.2) = vs at q ⊢
    cases e : itemsD S1 k ds with
    | none => rw [e] at q; exact q.elim
    | some xs =>
      rw [e] at q
      have q : Dm X.K T W0 wish (if noOwn vs ρ1 = true ∧ (tgIx tg).all vs.contains = true ∧ stays S1 ds S1 = true then (match compLoop tg vs (evC P cf cm cond) (fun ρ S => (evE P cf cm elt ρ S).bind fun r ρ S => .ok r.d ρ S) (stays S1 ds) xs [] ρ1 S1 with
        | .ok acc ρ' S' => .ok (.ol acc) (back vs ρ1 ρ') S'
        | _ => .err) else .err) W σ ρ (rV X.K T W0 σ) Q := q
      refine ⟨xs, e, fun W1 J hS g1 st1 src => ?_⟩
      split at q
      rotate_left
      · exact q.elim
      rename_i hh
      obtain ⟨hno, hin, hst0⟩ := hh
      have hin : ∀ i ∈ tgIx tg, i ∈ vs := fun i hi => by simpa using List.all_eq_true.mp hin i hi
      cases mc : compLoop tg vs (evC P cf cm cond) (fun ρ S => (evE P cf cm elt ρ S).bind fun r ρ S => .ok r.d ρ S) (stays S1 ds) xs [] ρ1 S1 with
      | exc c v' ρ' S' => rw [mc] at q; exact q.elim
      | err => rw [mc] at q; exact q.elim
      | ok accF ρF SF =>
        rw [mc] at q
        have q : Dm X.K T W0 wish (.ok (.ol accF) (back vs ρ1 ρF) SF) W σ ρ (rV X.K T W0 σ) Q := q
        obtain ⟨G, Y, I, w, i0, hG, hY, hM⟩ := src
        intro D hD
        have gw := g1.wipe vs
        -- D stands apart
        have notOwn : ∀ a, OwnS (wipe σ vs) (kill vs ρ1) a → a ≠ D := fun a h z => by
          subst z
          exact (g1.ownAt h.wipe).1 hD
        have hD0 : W0.H D = none := g1.fresh0 hD
        refine lc_it w (fun i H => ∃ (W2 : Wd) (ρ2 : Env) (acc : List Iv.D) (accV : List V), W2.H = H ∧ Good X.K T W0 W2 (wipe σ vs) (kill vs ρ2) ∧ Ext W1 W2 (OwnS (wipe σ vs) (kill vs ρ1)) ∧ EnvLe (kill vs ρ1) (kill vs ρ2) ∧ I W2 ∧ W2.H D = some (.lst accV) ∧ RDs X.K W2 accV acc ∧ ¬ W2.F D ∧ ¬ W2.B D ∧
          compLoop tg vs (evC P cf cm cond) (fun ρ S => (evE P cf cm elt ρ S).bind fun r ρ S => .ok r.d ρ S) (stays S1 ds) (xs.drop i) acc ρ2 W2.S = .ok accF ρF SF) ?_ ?_ ?_ ?_
        · have gp := g1.put (o := .lst []) hD
          have x0 : Ext W1 (W1.put D (.lst [])) (OwnS (wipe σ vs) (kill vs ρ1)) := putExt hD
          exact ⟨W1.put D (.lst []), ρ1, [], [], rfl, gp.wipe vs, x0, EnvLe.refl _, hM W1 _ g1.sr gp.sr i0 (x0.mono g1.sr) (by
            show stays S1 ds W1.S = true
            rw [hS]
            exact hst0), put_same, .nil, g1.notF hD, g1.notB hD, by
              show compLoop tg vs _ _ _ xs [] ρ1 W1.S = _
              rw [hS]; exact mc⟩
        · rintro i H hi ⟨W2, ρ2, acc, accV, e2, g2, x2, l2, i2, _⟩
          rw [← e2]
          exact hG W2 g2.sr i2
        · rintro i v H H' hlt ⟨W2, ρ2, acc, accV, e2, g2, x2, l2, i2, hl2, r2, nF2, nB2, m2⟩ y
          subst e2
          have ow2 : ∀ a, OwnS (wipe σ vs) (kill vs ρ2) a → OwnS (wipe σ vs) (kill vs ρ1) a := fun a h => l2.own h
          obtain ⟨W3, d, e3, e4, g3, x3, e5, r3, i3⟩ := hY i W2 (wipe σ vs) (kill vs ρ2) v H' hlt g2 i2 y
          have hd : xs.drop i = d :: xs.drop (i + 1) := by
            rw [List.drop_eq_getElem_cons hlt]
            rw [List.getElem?_eq_getElem hlt] at e5
            rw [Option.some.inj e5]
          rw [hd] at m2
          simp only [compLoop] at m2
          have x13 : Ext W1 W3 (OwnS (wipe σ vs) (kill vs ρ1)) := x2.trans g1.sr x3 fun _ z => z.elim
          have hl3 : W3.H D = some (.lst accV) := x3.h D _ hl2 nB2
          have nB3 : ¬ W3.B D := x3.notB g2.sr hl2 nB2
          have nF3 : ¬ W3.F D := fun f => by
            rcases x3.f2 D f with f | f | f
            · exact nF2 f
            · rw [hl2] at f; cases f
            · exact f
          rw [← e4] at m2
          split at m2
          · cases m2
          rename_i ρ3 hb
          have hkl : (kill vs ρ3).length = ρ3.length := kill_len vs ρ3
          refine ⟨W3, kill vs ρ2, ρ3, d, e3, g3, r3, hb, fun σ4 o4 g4 => ⟨wipe_off o4 hin, ?_⟩⟩
          have wo : wipe σ4 vs = wipe σ vs := wipe_off o4 hin
          have ow4 : ∀ a, OwnS σ4 ρ3 a → OwnS (wipe σ vs) (kill vs ρ1) a := fun a h => ow2 a (OwnS.bind hb o4 h)
          have le3 : EnvLe (kill vs ρ2) ρ3 := ⟨(bindT_own hb).1, fun j s h o => ((bindT_own hb).2 j s h o).2⟩
          -- what a step behind the target keeps
          have next : ∀ {W5 : Wd} {ρ5 : Env}, Good X.K T W0 W5 σ4 ρ5 → Step σ4 W3 ρ3 W5 ρ5 → Good X.K T W0 W5 (wipe σ vs) (kill vs ρ5) ∧ Ext W1 W5 (OwnS (wipe σ vs) (kill vs ρ1)) ∧ EnvLe (kill vs ρ1) (kill vs ρ5) ∧ W5.H D = some (.lst accV) ∧ ¬ W5.F D ∧ ¬ W5.B D := fun {W5 ρ5} g5 st5 => by
            refine ⟨by rw [← wo]; exact g5.wipe vs, x13.trans g1.sr st5.e fun a h => .inl (ow4 a h), ⟨?_, fun j s h o => ?_⟩, st5.e.h D _ hl3 nB3, fun f => ?_, st5.e.notB g3.sr hl3 nB3⟩
            · rw [kill_len, st5.l.1, ← le3.1.symm]
              exact l2.1
            · have hj : (kill vs ρ5)[j]? = some s := h
              rw [kill_at] at h
              split at h
              · cases h; cases o
              · exact l2.2 j s (le3.2 j s (st5.l.2 j s h o) o) o
            · rcases st5.e.f2 D f with f | f | f
              · exact nF3 f
              · rw [hl3] at f; cases f
              · exact notOwn D (ow4 D f) rfl
          refine ⟨W3, ρ3, e3, g4, ?_⟩
          generalize hq : evC P cf cm cond ρ3 W3.S = mt at m2 ⊢
          cases mt with
          | exc c v' ρ' S' => cases m2
          | err => cases m2
          | ok b ρ5 S5 =>
            intro b' W5 hS5 g5 st5 rb
            have rb : b' = b := rb
            subst rb
            subst hS5
            obtain ⟨gw5, x5, l5, hl5, nF5, nB5⟩ := next g5 st5
            cases b' with
            | false =>
              refine iteF ?_
              have m2 : (if stays S1 ds W5.S = true then compLoop tg vs (evC P cf cm cond) (fun ρ S => (evE P cf cm elt ρ S).bind fun r ρ S => .ok r.d ρ S) (stays S1 ds) (xs.drop (i + 1)) acc ρ5 W5.S else .err) = .ok accF ρF SF := m2
              split at m2
              · rename_i hst
                exact ⟨W5, ρ5, acc, accV, rfl, gw5, x5, l5, hM W3 W5 g3.sr g5.sr i3 (st5.e.mono g3.sr) hst, hl5, r2.mono ((x3.mono g2.sr).trans (st5.e.mono g3.sr)), nF5, nB5, m2⟩
              · cases m2
            | true =>
              refine iteT ⟨W5, ρ5, rfl, g5, ?_⟩
              have m2 : (match (evE P cf cm elt ρ5 W5.S).bind fun r ρ S => .ok r.d ρ S with
                | .ok y ρ3 S3 => if acc.length < sizeLine ∧ stays S1 ds S3 = true then compLoop tg vs (evC P cf cm cond) (fun ρ S => (evE P cf cm elt ρ S).bind fun r ρ S => .ok r.d ρ S) (stays S1 ds) (xs.drop (i + 1)) (acc ++ [y]) ρ3 S3 else .err
                | .exc _ _ _ _ => .err
                | .err => .err) = .ok accF ρF SF := m2
              dsimp only
              generalize ((evE P cf cm elt ρ5 W5.S).bind fun r ρ S => Res.ok r.d ρ S) = me at m2 ⊢
              cases me with
              | exc c v' ρ' S' => cases m2
              | err => cases m2
              | ok z ρ6 S6 =>
                intro u W6 hS6 g6 st6 ru
                have ru : RD X.K W6 u z := ru
                subst hS6
                have st36 : Step σ4 W3 ρ3 W6 ρ6 := st5.trans g3.sr st6
                obtain ⟨gw6, x6, l6, hl6, nF6, nB6⟩ := next g6 st36
                dsimp only at m2
                split at m2
                · rename_i hst
                  have r6 : RDs X.K W6 accV acc := r2.mono ((x3.mono g2.sr).trans (st36.e.mono g3.sr))
                  have chg : Chg W6 D := ⟨fun xs h => (by rw [hl6] at h; cases h), fun o u h => (by rw [hl6] at h; cases h)⟩
                  have mp := monoPut (o := .lst (accV ++ [u])) nF6 chg
                  have gp := gw6.putAt (o := .lst (accV ++ [u])) nF6 nB6 hD0 (fun h => notOwn D (l6.own h) rfl) chg
                  exact ⟨accV, hl6, by rw [r6.length]; exact hst.1, W6.put D (.lst (accV ++ [u])), ρ6, acc ++ [z], accV ++ [u], rfl, gp, x6.put hD, l6,
                    hM W3 _ g3.sr gp.sr i3 ((st36.e.mono g3.sr).trans mp) hst.2, put_same, (r6.append (.one ru)).mono mp, nF6, nB6, m2⟩
                · cases m2
        · rintro H ⟨W2, ρ2, acc, accV, e2, g2, x2, l2, i2, hl2, r2, nF2, nB2, m2⟩
          subst e2
          rw [List.drop_length] at m2
          simp only [compLoop, Res.ok.injEq] at m2
          obtain ⟨rfl, rfl, hSF⟩ := m2
          have gF : Good X.K T W0 W2 σ (back vs ρ1 ρ2) := Good.back g1 g2 hno (x2.mono g1.sr)
          have stF : Step σ W1 ρ1 W2 (back vs ρ1 ρ2) := ⟨x2.weak fun a h => h.wipe, EnvLe.back l2 hno⟩
          have stA := st1.trans g.sr stF
          refine q (.ref D) W2 hSF gF stA ⟨D, accV, rfl, ⟨hl2, r2, nF2, nB2, hD0⟩, fun h => ?_, st1.e.back hD⟩
          exact (g1.ownAt (stF.l.own h)).1 hD
  | exc c v' ρ1 S1 =>
    rw [m] at q
    exact q
  | err => rw [m] at q; exact q.elim
theorem sn_lc {elt : E} {tg : Tg} {k : Ik} {its cond : List E} {own : List (Str × Nat)} {xelt xtg xit : Expr} {xifs : List Expr} {scope : Scope} {pos : Pos} (hc : X.calm = true) (hN : X.N.Nodup) (hi : PI X xtg xit (tW T W0 wish P cf cm X.K k its)) (ok : BlkOk X.N X.env.scope scope own)
    (hg : ∀ (s : Shared) (H : Hp) (C : Addr) (cl : List (Str × Addr)) (fp : List Addr), PG (X.blk s H scope (compEnvC scope cl C X.env) fp) xtg (tTg T W0 X.K tg))
    (ht : ∀ (s : Shared) (H : Hp) (C : Addr) (cl : List (Str × Addr)) (fp : List Addr), PTs (X.blk s H scope (compEnvC scope cl C X.env) fp) xifs (tCd T W0 P cf cm X.K cond))
    (he : ∀ (s : Shared) (H : Hp) (C : Addr) (cl : List (Str × Addr)) (fp : List Addr), PE (X.blk s H scope (compEnvC scope cl C X.env) fp) xelt (tE T W0 noW P cf cm X.K elt)) (hs : notSet xit = true) :
    PE X (.ListComp xelt [⟨xtg, xit, xifs, 0⟩] scope pos) (tE T W0 wish P cf cm X.K (.lc elt tg k its cond (own.map (·.2)))) := by
  refine Iv.PE.imp (pe_lc (te := tD T W0 noW P cf cm X.K elt) hc hN hi ok hg ht (fun s H C cl fp => sn_d (he s H C cl fp)) (folded_ok hs)) fun σ H Q q => lc_imp σ H Q q
/-- x = [..] in which the comprehension's names stand for a while in the frame -/
theorem st_asgLc {i : Nat} {y : Str} {py spos : Pos} {elt : E} {tg : Tg} {k : Ik} {its cond : List E} {own : List (Str × Nat)} {xelt xtg xit : Expr} {xifs : List Expr} {scope : Scope} {pos : Pos} (hc : X.calm = true) (hN : X.N.Nodup) (hy : X.N[i]? = some y) (hyl : X.env.scope.names.lookup y = some .local)
    (hsw : swapsWith (.ListComp xelt [⟨xtg, xit, xifs, 0⟩] scope pos) (some (.Name y py)) spos.line X.env = pure true) (hi : PI X xtg xit (tW T W0 wish P cf cm X.K k its)) (ok : BlkOk X.N X.env.scope scope own)
    (hg : ∀ (s : Shared) (H : Hp) (C : Addr) (cl : List (Str × Addr)) (fp : List Addr), PG (X.blk s H scope (compEnvC scope cl C X.env) fp) xtg (tTg T W0 X.K tg))
    (ht : ∀ (s : Shared) (H : Hp) (C : Addr) (cl : List (Str × Addr)) (fp : List Addr), PTs (X.blk s H scope (compEnvC scope cl C X.env) fp) xifs (tCd T W0 P cf cm X.K cond))
    (he : ∀ (s : Shared) (H : Hp) (C : Addr) (cl : List (Str × Addr)) (fp : List Addr), PE (X.blk s H scope (compEnvC scope cl C X.env) fp) xelt (tE T W0 noW P cf cm X.K elt)) (hs : notSet xit = true) :
    PS X (.Assign [.Name y py] (.ListComp xelt [⟨xtg, xit, xifs, 0⟩] scope pos) spos) (tS X.K T W0 wish (evS P cf cm (.asg (.nm i) (.lc elt tg k its cond (own.map (·.2)))))) := by
  refine Iv.PS.imp (ps_setLc (te := tD T W0 noW P cf cm X.K elt) hc hN hy hyl hsw hi ok hg ht (fun s H C cl fp => sn_d (he s H C cl fp)) (folded_ok hs)) fun D σ H q => ?_
  refine lc_imp (X := X) σ H _ ?_
  obtain ⟨W, ρ, rfl, g, q⟩ := q
  simp only [evS] at q
  refine tG.stm g q fun v W1 ρ1 r g1 st1 rr q => ?_
  split at q
  · rename_i hl
    exact q _ W1 rfl (Good.setR (ρa := ρ) g1 rr hl) (Mono.refl W1)
  · exact q.elim
end
end Iv
/-! Sv12: boxes; lists changed; slices -/
namespace Iv
open PySem PySem.Spec PyProof.Rows L2
/-- a box more -/
def Wd.box (W : Wd) (a : Addr) (c : Cell) : Wd := { W with ι := fun i => if i = W.S.length then a else W.ι i, S := W.S ++ [c] }
/-- a box changed -/
def Wd.setC (W : Wd) (id : Nat) (o : HO) (c : Cell) : Wd := { W with H := upd W.H (W.ι id) o, S := setCell W.S id c }
section
variable {K : PySem.W.Frag} {T : Tb} {W0 W W' W1 : Wd} {σ : L2.St} {ρ ρ' : Env} {a : Addr} {c : Cell} {o : HO} {id : Nat}
theorem boxMono : Mono W (W.box a c) := ⟨fun _ h => h, fun _ _ _ h => h, fun _ _ h => h, fun _ _ _ h => h, by simp [Wd.box], fun i h => by
  show (if i = W.S.length then a else W.ι i) = W.ι i
  rw [if_neg (by omega)]⟩
theorem box_at {i : Nat} (h : i < W.S.length) : (W.box a c).ι i = W.ι i := if_neg (by omega)
theorem box_new : (W.box a c).ι W.S.length = a := if_pos rfl
theorem box_len : (W.box a c).S.length = W.S.length + 1 := by simp [Wd.box]
theorem box_B {x : Addr} : (W.box a c).B x ↔ W.B x ∨ x = a := by
  constructor
  · rintro ⟨i, h, rfl⟩
    rw [box_len] at h
    by_cases e : i < W.S.length
    · rw [box_at e]; exact .inl ⟨i, e, rfl⟩
    · have : i = W.S.length := by omega
      subst this
      exact .inr box_new
  · rintro (⟨i, h, rfl⟩ | rfl)
    · exact ⟨i, by rw [box_len]; omega, box_at h⟩
    · exact ⟨W.S.length, by rw [box_len]; omega, box_new⟩
theorem Good.box (g : Good K T W0 W σ ρ) (hc : CellOk K T W a c) (nF : ¬ W.F a) (nB : ¬ W.B a) (n0 : W0.H a = none) (no : ¬ OwnS σ ρ a) : Good K T W0 (W.box a c) σ ρ := by
  have m : Mono W (W.box a c) := boxMono
  refine ⟨g.s0, ⟨g.ext.f1, g.ext.f2, g.ext.h, g.ext.hb, by rw [box_len]; have := g.ext.n; omega, fun i h => by rw [box_at (Nat.lt_of_lt_of_le h g.ext.n)]; exact g.ext.i i h, fun i h1 h2 => ?_⟩,
    ⟨fun i cl h => ?_, fun i j h1 h2 e => ?_, fun i h => ?_, g.sr.fs⟩, g.er.len, fun i s h => ?_, g.er.ap⟩
  · rw [box_len] at h2
    by_cases e : i < W.S.length
    · rw [box_at e]; exact g.ext.new i h1 e
    · have : i = W.S.length := by omega
      rw [this, box_new]; exact n0
  · have hl : i < (W.S ++ [c]).length := (List.getElem?_eq_some_iff.mp h).1
    by_cases e : i < W.S.length
    · have h : (W.S ++ [c])[i]? = some cl := h
      rw [List.getElem?_append_left e] at h
      rw [box_at e]
      exact CellOk.mono m (fun u hu => hu) (g.sr.cell i cl h)
    · have e : i = W.S.length := by simp at hl; omega
      subst e
      have h : (W.S ++ [c])[W.S.length]? = some cl := h
      simp at h
      subst h
      rw [box_new]
      exact CellOk.mono m (fun u hu => hu) hc
  · rw [box_len] at h1 h2
    by_cases e1 : i < W.S.length
    · by_cases e2 : j < W.S.length
      · rw [box_at e1, box_at e2] at e; exact g.sr.inj i j e1 e2 e
      · have : j = W.S.length := by omega
        subst this
        rw [box_at e1, box_new] at e
        exact absurd ⟨i, e1, e⟩ nB
    · have : i = W.S.length := by omega
      subst this
      by_cases e2 : j < W.S.length
      · rw [box_at e2, box_new] at e
        exact absurd ⟨j, e2, e.symm⟩ nB
      · omega
  · rw [box_len] at h
    by_cases e : i < W.S.length
    · rw [box_at e]; exact g.sr.nf i e
    · have : i = W.S.length := by omega
      rw [this, box_new]; exact nF
  · refine (g.er.ok i s h).mono m fun os b hx => ⟨fun u hu => hu, fun f => f, fun z => ?_⟩
    rcases box_B.mp z with z | z
    · exact z
    · exact absurd ⟨i, s, h, os, by rw [hx, z]⟩ no
theorem Step.box (st : Step σ W ρ W1 ρ') (s : SR K T W) (old : W.H a = none) : Step σ W ρ (W1.box a c) ρ' :=
  ⟨⟨st.e.f1, st.e.f2, st.e.h, st.e.hb, by rw [box_len]; have := st.e.n; omega, fun i h => by rw [box_at (Nat.lt_of_lt_of_le h st.e.n)]; exact st.e.i i h, fun i h1 h2 => by
    rw [box_len] at h2
    by_cases e : i < W1.S.length
    · rw [box_at e]; exact st.e.new i h1 e
    · have : i = W1.S.length := by omega
      rw [this, box_new]; exact old⟩, st.l⟩
theorem cell_chg (s : SR K T W) (h : id < W.S.length) : Chg W (W.ι id) := by
  have hc := s.cell id W.S[id] (List.getElem?_eq_getElem h)
  cases q : W.S[id] with
  | lst ds => rw [q] at hc; obtain ⟨vs, h1, _⟩ := hc; exact ⟨fun xs z => (by rw [h1] at z; cases z), fun o u z => (by rw [h1] at z; cases z)⟩
  | dct t kds =>
    rw [q] at hc
    rcases hc with ⟨_, _, _, h1, _⟩ | ⟨_, _, _, h1, _⟩ <;> exact ⟨fun xs z => (by rw [h1] at z; cases z), fun o u z => (by rw [h1] at z; cases z)⟩
  | ins c fs => rw [q] at hc; obtain ⟨_, _, h1, _⟩ := hc; exact ⟨fun xs z => (by rw [h1] at z; cases z), fun o u z => (by rw [h1] at z; cases z)⟩
theorem setC_len : (W.setC id o c).S.length = W.S.length := by simp [Wd.setC, setCell]
theorem setC_mono (s : SR K T W) (h : id < W.S.length) : Mono W (W.setC id o c) := by
  have m := monoPut (W := W) (o := o) (s.nf id h) (cell_chg s h)
  exact ⟨m.f, m.h, m.t, m.z, by rw [setC_len]; exact Nat.le_refl _, fun _ _ => rfl⟩
theorem Good.setC (g : Good K T W0 W σ ρ) (h : id < W.S.length) (hc : CellOk K T (W.setC id o c) (W.ι id) c) : Good K T W0 (W.setC id o c) σ ρ := by
  have m : Mono W (W.setC id o c) := setC_mono g.sr h
  have ne : ∀ {b : Addr} {u : HO}, b ≠ W.ι id → W.H b = some u → (W.setC id o c).H b = some u := fun {b u} h e => by
    show upd W.H (W.ι id) o b = _
    rw [upd_ne h]; exact e
  have nz : ∀ b, W.H b ≠ none → (W.setC id o c).H b ≠ none := fun b h => by
    show upd W.H (W.ι id) o b ≠ none
    by_cases z : b = W.ι id
    · rw [z, upd_same]; exact fun z => nomatch z
    · rw [upd_ne z]; exact h
  have hB : ∀ x, (W.setC id o c).B x ↔ W.B x := fun x => B_of setC_len rfl
  refine ⟨g.s0, ⟨g.ext.f1, g.ext.f2, fun b u hb nb => ne (fun z => ?_) (g.ext.h b u hb nb), fun b hb => nz b (g.ext.hb b hb), by rw [setC_len]; exact g.ext.n, g.ext.i, fun i h1 h2 => g.ext.new i h1 (by rw [setC_len] at h2; exact h2)⟩,
    ⟨fun i cl hi => ?_, fun i j h1 h2 e => g.sr.inj i j (by rw [setC_len] at h1; exact h1) (by rw [setC_len] at h2; exact h2) e, fun i hi => g.sr.nf i (by rw [setC_len] at hi; exact hi), fun b f => nz b (g.sr.fs b f)⟩, g.er.len, fun i s hs => ?_, g.er.ap⟩
  · by_cases e : id < W0.S.length
    · rw [g.ext.i id e] at z
      exact nb ⟨id, e, z.symm⟩
    · have := g.ext.new id (by omega) h
      rw [← z, hb] at this
      cases this
  · have hi : (W.S.set id c)[i]? = some cl := hi
    by_cases e : id = i
    · subst e
      rw [List.getElem?_set_self h] at hi
      cases hi
      exact hc
    · rw [List.getElem?_set_ne e] at hi
      have hl := (List.getElem?_eq_some_iff.mp hi).1
      exact CellOk.mono m (fun u hu => ne (fun z => e (g.sr.inj id i h hl z.symm)) hu) (g.sr.cell i cl hi)
  · refine (g.er.ok i s hs).mono m fun os b hx => ⟨fun u hu => ne (fun z => (g.ownAt ⟨i, s, hs, os, hx⟩).2.2.1 ⟨id, h, z.symm⟩) hu, fun f => f, fun z => (hB b).mp z⟩
end
section
variable {X : Cx} {T : Tb} {W0 : Wd} {wish : Wish} {P : Pg} {cf cm : Nat → List D → Sto → ResF}
theorem sn_box {e : E} {x : Expr} (h : PE X x (tE T W0 wish P cf cm X.K e)) : PE X x (tE T W0 wish P cf cm X.K (.box e)) := by
  refine Iv.PE.imp h fun σ H Q q => ?_
  obtain ⟨W, ρ, rfl, g, q⟩ := q
  simp only [evE] at q
  refine ⟨W, ρ, rfl, g, ?_⟩
  generalize evE P cf cm e ρ W.S = m at q ⊢
  cases m with
  | ok r ρ' S' =>
    intro v W' hS g' st rr
    subst hS
    cases r with
    | v d =>
      cases d with
      | ref a => exact q v W' rfl g' st rr
      | _ => exact q.elim
    | ol xs =>
      obtain ⟨a, vs, rfl, ⟨h1, h2, h3, h4, h5⟩, no, old⟩ := rr
      have gb := g'.box (c := .lst xs) ⟨vs, h1, h2⟩ h3 h4 h5 no
      have hr : RD X.K (W'.box a (.lst xs)) (.ref ((W'.box a (.lst xs)).ι W'.S.length)) (.ref W'.S.length) := .ref (by rw [box_len]; omega)
      rw [box_new] at hr
      exact q (.ref a) (W'.box a (.lst xs)) rfl gb (st.box g.sr old) hr
    | od t kds =>
      obtain ⟨a, rfl, ⟨h1, h3, h4, h5⟩, no, old⟩ := rr
      have gb := g'.box (c := .dct t kds) h1 h3 h4 h5 no
      have hr : RD X.K (W'.box a (.dct t kds)) (.ref ((W'.box a (.dct t kds)).ι W'.S.length)) (.ref W'.S.length) := .ref (by rw [box_len]; omega)
      rw [box_new] at hr
      exact q (.ref a) (W'.box a (.dct t kds)) rfl gb (st.box g.sr old) hr
  | exc c vs ρ' S' => exact q
  | err => exact q.elim
/-! ### x[i] = e, boxes of lists -/
theorem asub_ok {o i : Expr} {pos : Pos} {env : PySem.Env} (h : noSlice i = true) : ∀ v, assign (.Subscript o i pos) env v = (do
      let ov ← holding [v] (eval o env)
      let iv ← holding [v, ov] (eval i env)
      standAt pos
      holding [v, ov, iv] (setItem ov iv v)
      release [v, ov, iv] []) := by
  intro v
  cases i <;> first | rfl | cases h
theorem st_setX {o i e : E} {xo xi x : Expr} {p p' : Pos} (ho : PE X xo (tO T W0 wish P cf cm X.K o)) (hi : PE X xi (tO T W0 wish P cf cm X.K i)) (hsl : noSlice xi = true) (hs : notComp x = true) (h : PE X x (tE T W0 wish P cf cm X.K e)) :
    PS X (.Assign [.Subscript xo xi p'] x p) (tS X.K T W0 wish (evS P cf cm (.setX o i e))) := by
  refine Iv.PS.imp (ps_asg (sn_d h) (pg_sub ho hi set_list (asub_ok hsl)) (by unfold swapsWithSole; exact swaps_ok hs) (by rfl) (by rfl)) fun D σ H q => ?_
  obtain ⟨W, ρ, rfl, g, q⟩ := q
  simp only [evS] at q
  refine tD.stm g q (fun r ρ S => by cases r <;> rfl) fun v W1 ρ1 d g1 st1 rd q => ?_
  refine tG.stm g1 q fun x W2 ρ2 dx g2 st2 rx q => ?_
  refine tG.stm g2 q fun y W3 ρ3 dy g3 st3 ry q => ?_
  have rx := RQ.ext g2.sr st3.e rx
  have rd := (rd.mono (st2.e.mono g1.sr)).mono (st3.e.mono g2.sr)
  cases he : setIx W3.S dx dy d with
  | none =>
    have q : DmS X.K T W0 wish (match setIx W3.S dx dy d with
      | some S' => .ok .next ρ3 S'
      | none => .err) W3 D := q
    rw [he] at q
    exact q.elim
  | some S' =>
    have q : DmS X.K T W0 wish (match setIx W3.S dx dy d with
      | some S' => .ok .next ρ3 S'
      | none => .err) W3 D := q
    rw [he] at q
    cases dx with
    | ref id =>
      simp only [setIx] at he
      cases hcell : cellAt W3.S id with
      | none => rw [hcell] at he; cases he
      | some c =>
        rw [hcell] at he
        cases c with
        | lst xs =>
          cases dy with
          | int k =>
            obtain ⟨j, hj, rfl⟩ := Option.map_eq_some_iff.mp he
            have hid : id < W3.S.length := (List.getElem?_eq_some_iff.mp hcell).1
            obtain ⟨vs, h1, h2⟩ := g3.sr.cell id _ hcell
            have hx : x = .ref (W3.ι id) := by
              rcases rx with rx | ⟨a, _, ds, _, e, _⟩ | ⟨a, _, kds, _, e, _⟩
              · cases rx; rfl
              · cases e
              · cases e
            have m := setC_mono (o := .lst (vs.set j v)) (c := .lst (xs.set j d)) g3.sr hid
            refine ⟨W3.ι id, vs, k, j, hx, rd_int ry, h1, by rw [h2.length]; exact hj, ?_⟩
            exact q σ (W3.setC id (.lst (vs.set j v)) (.lst (xs.set j d))) rfl (g3.setC hid ⟨vs.set j v, upd_same, (RDs.set rd j h2).mono m⟩) m
          | _ => cases he
        | _ => cases he
    | _ => cases he
/-! ### a slot's own list handed on -/
theorem st_retM {i : Nat} {x : Str} {p p' : Pos} (h : PE X (.Name x p') (tVar i)) : PS X (.Return (some (.Name x p')) p) (tS X.K T W0 wish (evS P cf cm (.retM i))) := by
  refine Iv.PS.imp (ps_ret h) fun D σ H q => ?_
  obtain ⟨W, ρ, rfl, g, q⟩ := q
  simp only [evS] at q
  cases hs : ρ[i]? with
  | none => rw [hs] at q; exact q.elim
  | some s =>
    rw [hs] at q
    have ok := g.er.ok i s hs
    cases s with
    | no => exact q.elim
    | v d => obtain ⟨v, e, r⟩ := ok; exact ⟨v, e, q v W rfl g.sr g.ext r⟩
    | ol xs => obtain ⟨a, vs, e, h1, h2, h3, h4, h5⟩ := ok; exact ⟨.ref a, e, q (.ref a) W rfl g.sr g.ext ⟨a, vs, rfl, h1, h2, h3, h4, h5⟩⟩
    | od t kvs => obtain ⟨a, e, h1, h3, h4, h5⟩ := ok; exact ⟨.ref a, e, q (.ref a) W rfl g.sr g.ext ⟨a, rfl, h1, h3, h4, h5⟩⟩
end
end Iv
/-! Sw0: slices; lists of slots changed -/
namespace Iv
open PySem PySem.Spec PyProof.Rows L2
section
variable {K : PySem.W.Frag} {T : Tb} {W0 W : Wd} {σ : L2.St} {ρ : Env}
/-- a slot's own list put otherwise -/
theorem Good.putSlot {i : Nat} {a : Addr} {xs ys : List D} {ws : List V} (g : Good K T W0 W σ ρ) (hs : ρ[i]? = some (.ol xs)) (ha : σ[i]? = some (some (.ref a))) (r : RDs K W ws ys) :
    Good K T W0 (W.put a (.lst ws)) σ (ρ.set i (.ol ys)) ∧ Mono W (W.put a (.lst ws)) := by
  have hi : i < ρ.length := (List.getElem?_eq_some_iff.mp hs).1
  obtain ⟨b, vs, e, h1, h2, h3, h4, h5⟩ := g.er.ok i _ hs
  rw [ha] at e
  cases e
  have chg : Chg W a := ⟨fun xs h => (by rw [h1] at h; cases h), fun o u h => (by rw [h1] at h; cases h)⟩
  have m := monoPut (o := .lst ws) h3 chg
  have no : ¬ OwnS σ (ρ.set i .no) a := by
    rintro ⟨j, t, q1, q2, q3⟩
    by_cases e : i = j
    · subst e
      rw [List.getElem?_set_self hi] at q1
      cases q1; cases q2
    · rw [List.getElem?_set_ne e] at q1
      exact e (g.er.ap i j a _ t hs q1 rfl q2 ha q3)
  have g1 := (g.drop (i := i)).putAt (o := .lst ws) h3 h4 h5 no chg
  have g2 := Good.setR (Wa := ⟨fun _ => False, fun _ => 0, fun _ => none, []⟩) (ρa := ρ) (r := .ol ys) (v := .ref a) (i := i) g1 ⟨a, ws, rfl, ⟨put_same, r.mono m, h3, h4, h5⟩, no, rfl⟩ (by rw [List.length_set]; exact hi)
  have e1 : σ.set i (some (.ref a)) = σ := by
      apply List.ext_getElem?
      intro j
      by_cases e : i = j
      · subst e
        rw [List.getElem?_set_self (by rw [← g.er.len]; exact hi), ha]
      · rw [List.getElem?_set_ne e]
  rw [e1, List.set_set] at g2
  exact ⟨g2, m⟩
end
section
variable {X : Cx} {T : Tb} {W0 : Wd} {wish : Wish} {P : Pg} {cf cm : Nat → List D → Sto → ResF}
/-! ### slices -/
variable (T W0 wish P cf cm) in
abbrev tPo (K : PySem.W.Frag) (es : List E) : TO := tG K T W0 wish (fun ρ S => (evPs P cf cm es ρ S).bind fun l ρ S => .of (optI l) ρ S) (fun σ => Rl.at K T σ (fun _ (x : Option Int) y => x = y))
theorem PO.imp {e : Option Expr} {t t' : TO} (h : PO X e t) (i : ∀ σ H Q, t' σ H Q → t σ H Q) : PO X e t' := ⟨fun pins s σ H Q I q => h.run pins s σ H Q I (i σ H Q q)⟩
theorem sn_po0 : PO X none (tPo T W0 wish P cf cm X.K []) := by
  refine Iv.PO.imp po_none fun σ H Q q => ?_
  obtain ⟨W, ρ, rfl, g, q⟩ := q
  simp only [evPs] at q
  exact Dm.ok (a := (none : Option Int)) q g rfl
theorem sn_po1 {e : E} {x : Expr} (h : PE X x (tO T W0 wish P cf cm X.K e)) : PO X (some x) (tPo T W0 wish P cf cm X.K [e]) := by
  refine Iv.PO.imp (po_some h) fun σ H Q q => ?_
  obtain ⟨W, ρ, rfl, g, q⟩ := q
  simp only [evPs] at q
  rw [Res.bind_assoc] at q
  refine tG.step g q fun v W1 ρ1 d g1 st1 r q => ?_
  have q : Dm X.K T W0 wish (.of (optI [d]) ρ1 W1.S) W1 σ ρ1 (Rl.at X.K T σ (fun _ (x : Option Int) y => x = y)) Q := q
  cases d with
  | int i =>
    rw [rd_int r]
    exact ⟨i, rfl, Dm.ok (a := some i) q g1 rfl⟩
  | _ => exact q.elim
theorem sn_sl {a : E} {lo hi : List E} {xa : Expr} {xl xh : Option Expr} {p2 pos : Pos} (ha : PE X xa (tO T W0 wish P cf cm X.K a)) (hl : PO X xl (tPo T W0 wish P cf cm X.K lo)) (hh : PO X xh (tPo T W0 wish P cf cm X.K hi)) :
    PE X (.Subscript xa (.Slice xl xh none p2) pos) (tE T W0 wish P cf cm X.K (.sl a lo hi)) := by
  refine Iv.PE.imp (pe_slice (sl_list.or (sl_tupN.or sl_str)) ha hl hh) fun σ H Q q => ?_
  obtain ⟨W, ρ, rfl, g, q⟩ := q
  simp only [evE] at q
  refine tG.step g q fun x W1 ρ1 dx g1 st1 rx q => ?_
  refine tG.step (f := fun ρ S => (evPs P cf cm lo ρ S).bind fun l ρ S => .of (optI l) ρ S) g1 q fun l W2 ρ2 l' g2 st2 rl q => ?_
  refine tG.step (f := fun ρ S => (evPs P cf cm hi ρ S).bind fun l ρ S => .of (optI l) ρ S) g2 q fun h W3 ρ3 h' g3 st3 rh q => ?_
  have rl : l = l' := rl
  have rh : h = h' := rh
  subst rl rh
  have rx := RQ.ext g2.sr st3.e (RQ.ext g1.sr st2.e rx)
  obtain ⟨res, e, q⟩ := q.of
  unfold slD at e
  split at e
  · split at e
    · cases e
      rw [rd_str rx]
      exact .inr (.inr ⟨_, rfl, by assumption, Dm.ok q g3 (.str _)⟩)
    · cases e
  · cases e
    obtain ⟨a, vs, rfl, h1, t⟩ := rd_tup rx
    refine .inr (.inl ⟨a, vs, rfl, h1.sq, fun hz => ?_, fun hz => ?_⟩)
    · have : ∀ xs : List D, RDs X.K W3 vs xs → cutD xs l h = xs := fun xs t => by
        unfold cutD
        rw [t.length] at hz
        rw [hz.1, hz.2]
        simp
      rw [this _ t] at q
      exact Dm.ok q g3 (.tup h1 t)
    · exact Nxt.t q g3 (cut_rd t l h)
  · obtain ⟨xs, h1, rfl⟩ := Option.map_eq_some_iff.mp e
    obtain ⟨a, vs, rfl, h2, t⟩ := rd_lst g3.sr rx h1
    exact .inl ⟨a, vs, rfl, h2, Nxt.l q g3 (cut_rd t l h)⟩
/-! ### x.append(e), x[k] = e: x a list of the slot's own -/
theorem own_at {i : Nat} {ρ : Env} (h : ownAt ρ i = true) : ∃ xs, ρ[i]? = some (.ol xs) := by
  unfold ownAt at h
  split at h
  · exact ⟨_, by assumption⟩
  · cases h
theorem own_addr {W : Wd} {σ : L2.St} {ρ : Env} {i : Nat} (g : Good X.K T W0 W σ ρ) (h : ownAt ρ i = true) : ∃ a vs, σ[i]? = some (some (.ref a)) ∧ W.H a = some (.lst vs) := by
  obtain ⟨xs, h⟩ := own_at h
  obtain ⟨a, vs, e, h1, _⟩ := g.er.ok i _ h
  exact ⟨a, vs, e, h1⟩
/-- a slot's list changed by a method of values -/
theorem st_mutD {i : Nat} {m : Iv.Mut} {es : List E} {y name : Str} {id : String} {r : V → List V → Hp → VK → Prop} {xa : Expr} {xs : List Expr} {py ap pos p : Pos} (slot : PySem.Slot "list" name id) (ty : typeOf (.builtin id) = pure (.type "method_descriptor")) (hm : MtR X id r) (hpk : peeks m = false)
    (hr : ∀ {W : Wd} {a : Addr} {vs ws : List V} {xs ds ys : List D} {Q : VK}, mutL W.S m xs ds = some ys → W.H a = some (.lst vs) → RDs X.K W vs xs → RDs X.K W ws ds → (∀ (u : V) zs, RDs X.K W zs ys → Q u (upd W.H a (.lst zs))) → r (.ref a) ws W.H Q)
    (hy : PE X (.Name y py) (tVar i)) (hs : (xa :: xs).all nostar = true) (hfew : (xa :: xs).length < 30) (hline : (ap.endLine == pos.line) = true) (h : PA X (xa :: xs) (tEs T W0 wish P cf cm X.K es)) :
    PS X (.Expr (.Call (.Attribute (.Name y py) name ap) (xa :: xs) [] pos) p) (tS X.K T W0 wish (evS P cf cm (.mutO i m es))) := by
  have hs' := hs
  simp only [List.all_cons, Bool.and_eq_true] at hs
  have few : ((backTo pos (starEach (xa :: xs) X.env)).all (fun x => !x.1) && (backToKw pos (keywordEach [] X.env)).all (fun x => x.1.isSome)
      && decide ((xa :: xs).length + ([] : List Keyword).length + (if ([] : List Keyword).isEmpty then 0 else 1) < 30)) = true := by
    have h1 : (backTo pos (starEach (xa :: xs) X.env)).any (·.1) = false := any_ns hs'
    have h2 : (backTo pos (starEach (xa :: xs) X.env)).all (fun x => !x.1) = true := by
      rw [List.all_eq_true]
      intro z hz
      have := List.any_eq_false.mp h1 z hz
      simpa using this
    rw [h2]
    simp only [List.length_nil, Nat.add_zero, List.isEmpty_nil, if_true, Bool.true_and, Bool.and_eq_true, decide_eq_true_eq]
    exact ⟨rfl, hfew⟩
  refine Iv.PS.imp (ps_expr (pe_bm PySem.F.plainAttrs_list slot ty hm hy h rfl few hline (star_ns hs.1) (any_ns hs.2)) rfl) fun D σ H q => ?_
  obtain ⟨W, ρ, rfl, g, q⟩ := q
  simp only [evS, hpk] at q
  split at q
  · rename_i ho
    obtain ⟨a, vs0, e1, e2⟩ := own_addr g ho
    refine ⟨.ref a, e1, .inl ⟨rfl, vs0, .inl (.inl e2)⟩, ?_⟩
    refine tG.stm (f := fun ρ S => evEs P cf cm es ρ S) g q fun ws W1 ρ1 ds g1 st1 rd q => ?_
    have rd : RDs X.K W1 ws ds := rd
    split at q
    · rename_i xs' hs1
      split at q
      · rename_i ys hmut
        obtain ⟨b, vs, e3, h1, h2, h3, h4, h5⟩ := g1.er.ok i _ hs1
        rw [e1] at e3
        cases e3
        exact hr hmut h1 h2 rd fun _ zs rz => by
          obtain ⟨gp, mp⟩ := g1.putSlot hs1 e1 rz
          exact q σ (W1.put a (.lst zs)) rfl gp mp
      · exact q.elim
    · exact q.elim
  · exact q.elim
theorem app_ok {W : Wd} {a : Addr} {vs ws : List V} {xs ds ys : List D} {Q : VK} (h : mutL W.S .append xs ds = some ys) (h1 : W.H a = some (.lst vs)) (h2 : RDs X.K W vs xs) (h3 : RDs X.K W ws ds) (q : ∀ (u : V) zs, RDs X.K W zs ys → Q u (upd W.H a (.lst zs))) : rAppend (.ref a) ws W.H Q := by
  cases h3 with
  | nil => simp [mutL] at h
  | cons r t =>
    cases t with
    | cons r2 t => simp [mutL] at h
    | nil =>
      simp only [mutL] at h
      split at h
      · cases h
        exact ⟨a, vs, _, rfl, rfl, h1, by rw [h2.length]; assumption, q _ _ (h2.append (.one r))⟩
      · cases h
theorem st_append {i : Nat} {e : E} {y : Str} {xa : Expr} {py ap pos p : Pos} (hy : PE X (.Name y py) (tVar i)) (hs : nostar xa = true) (hline : (ap.endLine == pos.line) = true) (h : PE X xa (tE T W0 wish P cf cm X.K e)) :
    PS X (.Expr (.Call (.Attribute (.Name y py) "append" ap) [xa] [] pos) p) (tS X.K T W0 wish (evS P cf cm (.mutO i .append [e]))) :=
  st_mutD PySem.F.slot_list_append PySem.F.type_list_append mt_append rfl (fun h h1 h2 h3 q => app_ok h h1 h2 h3 q) hy (by simp [hs]) (by simp) hline (sn_consD hs h sn_nilD)
theorem st_setO {i : Nat} {k e : E} {y : Str} {xk x : Expr} {py p p' : Pos} (hy : PE X (.Name y py) (tVar i)) (hk : PE X xk (tO T W0 wish P cf cm X.K k)) (hsl : noSlice xk = true) (hs : notComp x = true) (h : PE X x (tE T W0 wish P cf cm X.K e)) :
    PS X (.Assign [.Subscript (.Name y py) xk p'] x p) (tS X.K T W0 wish (evS P cf cm (.setO i k e))) := by
  refine Iv.PS.imp (ps_asg (sn_d h) (pg_sub hy hk set_list (asub_ok hsl)) (by unfold swapsWithSole; exact swaps_ok hs) (by rfl) (by rfl)) fun D σ H q => ?_
  obtain ⟨W, ρ, rfl, g, q⟩ := q
  simp only [evS] at q
  refine tD.stm g q (fun r ρ S => by cases r <;> rfl) fun v W1 ρ1 d g1 st1 rd q => ?_
  split at q
  · rename_i ho
    obtain ⟨a, vs0, e1, e2⟩ := own_addr g1 ho
    refine ⟨.ref a, e1, ?_⟩
    refine tG.stm g1 q fun y W2 ρ2 dy g2 st2 ry q => ?_
    have rd := rd.mono (st2.e.mono g1.sr)
    split at q
    · rename_i xs hs1
      split at q
      · split at q
        · rename_i j hj
          obtain ⟨b, vs, e3, h1, h2, h3, h4, h5⟩ := g2.er.ok i _ hs1
          rw [e1] at e3
          cases e3
          obtain ⟨gp, mp⟩ := g2.putSlot hs1 e1 (RDs.set rd j h2)
          exact ⟨a, vs, _, j, rfl, rd_int ry, h1, by rw [h2.length]; exact hj, q σ (W2.put a (.lst (vs.set j v))) rfl gp mp⟩
        · exact q.elim
      · exact q.elim
    · exact q.elim
  · exact q.elim
theorem st_asgM {i j : Nat} {y z : Str} {pz p p' : Pos} (hN : X.N.Nodup) (hi : X.N[i]? = some y) (hx : L2.Loc X.env.scope y) (hf : X.fn y = true ∨ X.env.scope.names.lookup y = some .local) (hz : PE X (.Name z pz) (tVar j)) :
    PS X (.Assign [.Name y p'] (.Name z pz) p) (tS X.K T W0 wish (evS P cf cm (.asgM i j))) := by
  refine Iv.PS.imp (ps_set hN hi hx hz (swaps_ok rfl) hf) fun D σ H q => ?_
  obtain ⟨W, ρ, rfl, g, q⟩ := q
  simp only [evS] at q
  cases hs : ρ[j]? with
  | none => rw [hs] at q; exact q.elim
  | some s =>
    rw [hs] at q
    have ok := g.er.ok j s hs
    have gd := g.drop (i := j)
    cases s with
    | no => exact q.elim
    | v d =>
      obtain ⟨v, e, r⟩ := ok
      have q : DmS X.K T W0 wish (if i < ρ.length then .ok .next ((ρ.set j .no).set i (.v d)) W.S else .err) W D := q
      split at q
      · rename_i hl
        exact ⟨v, e, q _ W rfl (gd.setD r (by rw [List.length_set]; exact hl)) (Mono.refl W)⟩
      · exact q.elim
    | ol xs =>
      obtain ⟨a, vs, e, o⟩ := ok
      have q : DmS X.K T W0 wish (if i < ρ.length then .ok .next ((ρ.set j .no).set i (.ol xs)) W.S else .err) W D := q
      split at q
      · rename_i hl
        exact ⟨.ref a, e, q _ W rfl (Good.setR (Wa := ⟨fun _ => False, fun _ => 0, fun _ => none, []⟩) (ρa := ρ) (r := .ol xs) gd ⟨a, vs, rfl, o, notOwn_set g hs rfl e, rfl⟩ (by rw [List.length_set]; exact hl)) (Mono.refl W)⟩
      · exact q.elim
    | od t kvs =>
      obtain ⟨a, e, o⟩ := ok
      have q : DmS X.K T W0 wish (if i < ρ.length then .ok .next ((ρ.set j .no).set i (.od t kvs)) W.S else .err) W D := q
      split at q
      · rename_i hl
        exact ⟨.ref a, e, q _ W rfl (Good.setR (Wa := ⟨fun _ => False, fun _ => 0, fun _ => none, []⟩) (ρa := ρ) (r := .od t kvs) gd ⟨a, rfl, o, notOwn_set g hs rfl e, rfl⟩ (by rw [List.length_set]; exact hl)) (Mono.refl W)⟩
      · exact q.elim
end
end Iv
/-! Sw1: repr of data without dicts -/
namespace Iv
open PySem PySem.Spec PyProof.Rows L2
section
variable {X : Cx}
/-- repr(x), x data without dicts -/
def rRepr (K : PySem.W.Frag) : List V → Hp → VK → Prop := fun xs H Q => ∃ x p, xs = [x] ∧ Dp K H x p ∧ p.showable = true ∧ p.hasDict = false ∧ p.depth ≤ 64 ∧ p.shown.length ≤ sizeLine ∧ Q (.str p.shown) H
theorem call_repr (gd : X.A.guards = some []) (hu : X.A.units + 65 < cLine) : CallR X (.builtin "repr") (rRepr X.K) := by
  intro pins s σ H xs us Q I r h
  obtain ⟨x, p, rfl, hd, h1, h2, h3, h4, q⟩ := h
  cases r with
  | cons ru rn =>
    cases rn
    rename_i u
    obtain ⟨as, rr⟩ := Dp.reads I p x u hd ru
    have fin : ∀ (h' : Heap) (u' : Tok) (tk : Nat), (∀ b o, s.heap.get? b = some o → h'.get? b = some o) → EP X pins σ Q (.str p.shown u') { s with heap := h', toks := tk } := fun h' u' tk kp =>
      ⟨.str p.shown, H, I.kept (t' := tk) kp, ⟨u', rfl⟩, q⟩
    cases hd with
    | non => cases ru; exact PySem.P.repr_of_none (fin _ _ _ fun _ _ e => e)
    | bl b => cases ru; exact PySem.P.repr_of_bool (by cases b <;> exact fin _ _ _ fun _ _ e => e)
    | int i =>
      obtain ⟨t, rfl⟩ := ru
      exact PySem.P.repr_of_int (by simpa [PyData.showable] using h1) (fin _ _ _ fun _ _ e => e)
    | str z =>
      obtain ⟨t, rfl⟩ := ru
      exact PySem.P.repr_of_str (fin _ _ _ fun _ _ e => e) h4
    | lst h t =>
      cases ru
      exact repr_of_reads' rr h1 (fun e => by rw [h2] at e; cases e) gd (by omega) (fun _ _ e => e) (fun h' u' tk kp => fin h' u' tk kp) h4
    | tup h t =>
      cases ru
      exact repr_of_reads' rr h1 (fun e => by rw [h2] at e; cases e) gd (by omega) (fun _ _ e => e) (fun h' u' tk kp => fin h' u' tk kp) h4
end
end Iv
/-! Sw2: repr of a dict of flat entries -/
namespace Iv
open PySem PySem.Spec PyProof.Rows L2
section
variable {X : Cx}
theorem flat_reads {W : Wd} {h : Heap} {v : V} {d : D} {p : PyData} {u : Value} (r : RD X.K W v d) (e : flatPy d = some p) (ru : RelV v u) : Reads h u p [] := by
  cases d <;> simp only [flatPy, Option.some.injEq, reduceCtorEq] at e <;> subst e
  · cases r; cases ru; exact .none
  · cases r; cases ru; exact .bool _
  · cases r; obtain ⟨t, rfl⟩ := ru; exact .int _ _
  · cases r; obtain ⟨t, rfl⟩ := ru; exact .str _ _
theorem app0 {as bs : List Addr} (h : as = []) (h' : bs = []) : as ++ bs = [] := by rw [h, h']; rfl
def kPy : Key → PyData
  | .inl i => .int i
  | .inr x => .str x
theorem key_reads {h : Heap} {k : Key} {v : Value} (e : keyIs k v = true) : Reads h v (kPy k) [] := by
  rcases keyIs_shape e with ⟨i, u, rfl, rfl⟩ | ⟨z, u, rfl, rfl⟩
  · exact .int i u
  · exact .str z u
/-- a dict's rows as read -/
theorem rows_read {W : Wd} {h : Heap} {pr : Program} {w : World} : ∀ {es : List DictEntry} {vs : List (Key × Value)} {kvs : List (Key × V)} {ds : List D} {ps : List PyData}, Pairs (mixKind pr w) es vs → KV kvs vs → RDs X.K W (kvs.map (·.2)) ds → ds.mapM flatPy = some ps →
    ReadsAll h (es.map (·.key)) (kvs.map fun p => kPy p.1) [] ∧ ReadsAll h (es.map (·.val)) ps [] ∧ ps.length = kvs.length
  | _, _, _, _, _, .nil, .nil, .nil, e => by
    simp at e
    subst e
    exact ⟨.nil, .nil, rfl⟩
  | _, _, _, _, _, .cons hk hv t, .cons h1 t1, .cons r t2, e => by
    simp only [List.mapM_cons, Option.pure_def, Option.bind_eq_bind, Option.bind_eq_some_iff, Option.some.injEq] at e
    obtain ⟨p, e1, ps, e2, rfl⟩ := e
    obtain ⟨q1, q2, q3⟩ := rows_read (h := h) t t1 t2 e2
    obtain ⟨h1, h2⟩ := h1
    refine ⟨?_, ?_, by simp [q3]⟩
    · have a := key_reads (h := h) hk
      rw [← h1] at a
      exact ReadsAll.cons (as := []) a q1
    · have b := flat_reads (h := h) r e1 h2
      rw [← hv] at b
      exact ReadsAll.cons (as := []) b q2
/-- repr(d), d a dict of flat entries -/
def rReprD (K : PySem.W.Frag) : List V → Hp → VK → Prop := fun xs H Q => ∃ (W : Wd) (a : Addr) (kvs : List (Key × V)) (ds : List D) (ps : List PyData), W.H = H ∧ xs = [.ref a] ∧ Rd H a (.dK kvs) ∧ RDs K W (kvs.map (·.2)) ds ∧ ds.mapM flatPy = some ps ∧
  (PyData.dict ((kvs.map fun p => kPy p.1).zip ps)).showable = true ∧ (PyData.dict ((kvs.map fun p => kPy p.1).zip ps)).depth ≤ 64 ∧ (PyData.dict ((kvs.map fun p => kPy p.1).zip ps)).shown.length ≤ sizeLine ∧ Q (.str (PyData.dict ((kvs.map fun p => kPy p.1).zip ps)).shown) H
theorem call_reprD (gd : X.A.guards = some []) (hu : X.A.units + 66 < cLine) : CallR X (.builtin "repr") (rReprD X.K) := by
  intro pins s σ H xs us Q I r h
  obtain ⟨W, a, kvs, ds, ps, rfl, rfl, hd, rd, hm, h1, h3, h4, q⟩ := h
  cases r with
  | cons ru rn =>
    cases rn
    cases ru
    obtain ⟨z, lo, vs, rel, o, es, ep, e1, e2, e3, e4, e5, e6⟩ := dk_rd I.hok hd
    obtain ⟨q1, q2, q3⟩ := rows_read (h := s.heap) e5 rel rd hm
    have f1 : ((kvs.map fun p => kPy p.1).zip ps).map (·.1) = kvs.map fun p => kPy p.1 := by rw [List.map_fst_zip]; simp [q3]
    have f2 : ((kvs.map fun p => kPy p.1).zip ps).map (·.2) = ps := by rw [List.map_snd_zip]; simp [q3]
    have rr : Reads s.heap (.ref a) (.dict ((kvs.map fun p => kPy p.1).zip ps)) (a :: [] ++ []) := .dict e1 e2.1 e3 (by rw [f1]; exact q1) (by rw [f2]; exact q2)
    exact repr_of_reads' rr h1 (fun _ hm => by
      have : sysModules = a := by simpa using hm
      rw [← this] at lo
      simp at lo) gd (by omega) (fun _ _ e => e) (fun h' u' tk kp => ⟨.str _, W.H, I.kept (t' := tk) kp, ⟨u', rfl⟩, q⟩) h4
theorem ok_repr {T : Tb} {W0 : Wd} : PrimOk X.K T W0 .repr (fun xs H Q => rRepr X.K xs H Q ∨ rReprD X.K xs H Q) := by
  intro W σ ρ vs ds res Q g e r n
  change p_repr W.S _ = _ at e
  unfold p_repr at e
  split at e
  · obtain ⟨v, rfl, h⟩ := qs1 r
    split at e
    · rename_i kds e1
      obtain ⟨ps, e2, e3⟩ := Option.bind_eq_some_iff.mp e
      unfold reprP at e3
      split at e3
      · rename_i ok
        cases e3
        simp only [strOk, Bool.and_eq_true, decide_eq_true_eq] at ok
        obtain ⟨a, rfl, h1⟩ := rd_dct g.sr h e1
        rcases h1 with ⟨_, kvs, es, h2, h3, rfl⟩ | ⟨h1, _⟩
        · have hl := h3.length
          rw [List.length_map] at hl
          have f1 : ((kvs.map fun p => kD p.1).zip es).map (·.2) = es := by rw [List.map_snd_zip]; simp [hl]
          have f2 : ((kvs.map fun p => kD p.1).zip es).map (fun kv => kDPy kv.1) = kvs.map fun p => kPy p.1 := by
            have : ((kvs.map fun p => kD p.1).zip es).map (·.1) = kvs.map fun p => kD p.1 := by rw [List.map_fst_zip]; simp [hl]
            have e5 := congrArg (List.map kDPy) this
            rw [List.map_map, List.map_map] at e5
            refine e5.trans (List.map_congr_left fun p _ => ?_)
            obtain ⟨k, w⟩ := p
            cases k <;> rfl
          rw [f1] at e2
          rw [f2] at ok n
          exact .inr ⟨W, a, kvs, es, ps, rfl, rfl, h2, h3, e2, ok.1.1, ok.1.2, ok.2, n.v g (.str _)⟩
        · cases h1
      · cases e3
    · cases e
    · obtain ⟨p, e2, e3⟩ := Option.bind_eq_some_iff.mp e
      split at e3
      · cases e3
      · rename_i hh
        have hh : p.hasDict = false := by simpa using hh
        unfold reprP at e3
        split at e3
        · rename_i ok
          cases e3
          simp only [strOk, Bool.and_eq_true, decide_eq_true_eq] at ok
          exact .inl ⟨v, p, rfl, rd_py g.sr h e2 hh, ok.1.1, hh, ok.1.2, ok.2, n.v g (.str _)⟩
        · cases e3
  · cases e
end
end Iv
/-! Sw3: index, dicts: displays, get, stores -/
namespace Iv
open PySem PySem.Spec PyProof.Rows L2
section
variable {X : Cx} {T : Tb} {W0 : Wd} {wish : Wish} {P : Pg} {cf cm : Nat → List D → Sto → ResF}
theorem few1 {x : Expr} {pos : Pos} {env : PySem.Env} (hs : nostar x = true) : ((backTo pos (starEach [x] env)).all (fun x => !x.1) && (backToKw pos (keywordEach [] env)).all (fun x => x.1.isSome)
      && decide (([x] : List Expr).length + ([] : List Keyword).length + (if ([] : List Keyword).isEmpty then 0 else 1) < 30)) = true := by
  rw [star_ns hs]
  rfl
/-! ### index -/
theorem strs_back {W : Wd} {vs : List V} {ds : List D} {zs : List Str} (h : RDs X.K W vs ds) (e : strsOf ds = some zs) : vs = zs.map V.str := rd_strsOf h e
theorem ix_tupS {W : Wd} {a : Addr} {vs : List V} {ys : List D} {zs : List Str} {z : Str} {n : Nat} {Q : VK} (h1 : NT X.K W.H a vs) (t : RDs X.K W vs ys) (e : strsOf ys = some zs) (hn : (zs.findIdx? fun y => decide (y = z)) = some n) (q : Q (.int (n : Nat)) W.H) :
    ∃ p, ∃ ys : List Str, ∃ z' j, V.ref a = .ref p ∧ [V.str z] = [.str z'] ∧ SqT X.K W.H p (ys.map V.str) ∧ ys[j]? = some z' ∧ (∀ m, m < j → ys[m]? ≠ some z') ∧ Q (.int (j : Nat)) W.H := by
  obtain ⟨hl, h2, h3⟩ := List.findIdx?_eq_some_iff_getElem.mp hn
  have h2 := of_decide_eq_true h2
  refine ⟨a, zs, z, n, rfl, rfl, by rw [← rd_strsOf t e]; exact h1.sq, by rw [List.getElem?_eq_getElem hl, h2], fun m hm q => ?_, q⟩
  have h4 := h3 m hm
  obtain ⟨h5, h6⟩ := List.getElem?_eq_some_iff.mp q
  rw [h6] at h4
  simp at h4
def wIndex (hu : X.A.units + 65 < cLine) : List (Way X "index") := [⟨"tuple", "tuple.index", _, PySem.F.plainAttrs_tuple, PySem.F.slot_tuple_index, PySem.F.type_tuple_index, mt_tup_index⟩, ⟨"list", "list.index", _, PySem.F.plainAttrs_list, PySem.F.slot_list_index, PySem.F.type_list_index, mt_indexD hu⟩]
theorem sn_index {ap pos : Pos} {a b : E} {xa xb : Expr} (hu : X.A.units + 65 < cLine) (ha : PE X xa (tO T W0 wish P cf cm X.K a)) (hb : PE X xb (tO T W0 wish P cf cm X.K b)) (hs : nostar xb = true) (hbase : plainBase xa = true) (hline : (ap.endLine == pos.line) = true) :
    PE X (.Call (.Attribute xa "index" ap) [xb] [] pos) (tE T W0 wish P cf cm X.K (.mth .index a [b])) := by
  refine Iv.PE.imp (pe_mv (wIndex hu) ha (sn_consO hs hb sn_nilO) (base_ok hbase) (few1 hs) hline (star_ns hs) rfl) fun σ H Q q => ?_
  obtain ⟨W, ρ, rfl, g, q⟩ := q
  simp only [evE] at q
  refine tG.step g q fun x W1 ρ1 dx g1 st1 rx q => ?_
  split at q
  · rename_i hk
    by_cases ht : ∃ ys, dx = .tup ys
    · obtain ⟨ys, rfl⟩ := ht
      obtain ⟨c, vs, rfl, h1, t⟩ := rd_tup rx
      refine ⟨_, .head _, seen_tup h1, tG.step (f := fun ρ S => evPs P cf cm [b] ρ S) g1 q fun ws W2 ρ2 ds g2 st2 rs q => ?_⟩
      obtain ⟨res, e, q⟩ := q.of
      change p_index W2.S _ = _ at e
      unfold p_index at e
      split at e
      · rename_i h2
        cases h2
        obtain ⟨zs, e1, e2⟩ := Option.bind_eq_some_iff.mp e
        obtain ⟨n, e3, rfl⟩ := Option.map_eq_some_iff.mp e2
        obtain ⟨w, rfl, rw'⟩ := qs1 rs
        rw [rd_str rw']
        obtain ⟨c', vs', e4, h1', t'⟩ := rd_tup (rx.ext g1.sr st2.e)
        cases e4
        exact ix_tupS h1' t' e1 e3 (Dm.ok q g2 (.int _))
      · rename_i h2
        cases h2
        obtain ⟨xs, e1, _⟩ := Option.bind_eq_some_iff.mp e
        cases e1
      · cases e
    · have hl : ∃ c vs, x = .ref c ∧ SqL X.K W1.H c vs := by
        have hk : (match tyD W1.S dx with | some t => ["list", "tuple"].contains t | none => false) = true := hk
        cases dx with
        | tup ys => exact absurd ⟨ys, rfl⟩ ht
        | lst xs => obtain ⟨c, vs, h1, h2, _⟩ := rd_lst g1.sr rx (xs := xs) rfl; exact ⟨c, vs, h1, h2⟩
        | ref id =>
          have : ∃ xs, lstD W1.S (.ref id) = some xs := by
            simp only [lstD]
            simp only [tyD] at hk
            cases hc : cellAt W1.S id with
            | none => rw [hc] at hk; cases hk
            | some c =>
              rw [hc] at hk
              cases c with
              | lst xs => exact ⟨xs, rfl⟩
              | dct t kvs => simp at hk
              | ins c fs => cases hk
          obtain ⟨xs, e⟩ := this
          obtain ⟨c, vs, h1, h2, _⟩ := rd_lst g1.sr rx e
          exact ⟨c, vs, h1, h2⟩
        | exc c vs => cases hk
        | _ => simp [tyD] at hk
      obtain ⟨c, vs, rfl, h1⟩ := hl
      refine ⟨_, .tail _ (.head _), seen_lst h1, tG.step (f := fun ρ S => evPs P cf cm [b] ρ S) g1 q fun ws W2 ρ2 ds g2 st2 rs q => ?_⟩
      obtain ⟨res, e, q⟩ := q.of
      change p_index W2.S _ = _ at e
      unfold p_index at e
      split at e
      · rename_i h2
        cases h2
        exact absurd ⟨_, rfl⟩ ht
      · rename_i h2
        cases h2
        obtain ⟨w, rfl, rw'⟩ := qs1 rs
        obtain ⟨ys, e1, e2⟩ := Option.bind_eq_some_iff.mp e
        split at e2
        · rename_i bs d' q1 q2
          split at e2
          · rename_i hsh
            obtain ⟨n, e3, rfl⟩ := Option.map_eq_some_iff.mp e2
            obtain ⟨c', vs', e4, h4, t'⟩ := rd_lst g2.sr (rx.ext g1.sr st2.e) e1
            cases e4
            have hb := rd_pys g2.sr t' q1 (hasDictAll_of hsh.1)
            have ha := rd_py g2.sr rw' q2 (noDict_of hsh.2)
            obtain ⟨hl, f1, f2⟩ := List.findIdx?_eq_some_iff_getElem.mp e3
            refine ⟨c, w, d', bs, n, bs[n], rfl, rfl, .lst h4 hb, ha, hsh.1, hsh.2, List.getElem?_eq_getElem hl, f1, fun m z hm hz => ?_, Dm.ok q g2 (.int _)⟩
            obtain ⟨h5, h6⟩ := List.getElem?_eq_some_iff.mp hz
            have := f2 m hm
            rw [h6] at this
            simpa using this
          · cases e2
        · cases e2
      · cases e
  · exact q.elim
end
end Iv
/-! Sw4: dict displays, get, stores to dicts -/
namespace Iv
open PySem PySem.Spec PyProof.Rows L2
section
variable {X : Cx} {T : Tb} {W0 : Wd} {wish : Wish} {P : Pg} {cf cm : Nat → List D → Sto → ResF}
/-! ### {k: v, ..} -/
variable (X T W0 wish P cf cm) in
def prs : List E → List (TE × TE)
  | k :: v :: r => (tD T W0 wish P cf cm X.K k, tD T W0 wish P cf cm X.K v) :: prs r
  | _ => []
/-- pairs that stand for these -/
inductive PDs (K : PySem.W.Frag) (W : Wd) : List (V × V) → List (D × D) → Prop
  | nil : PDs K W [] []
  | cons {x y : V} {dx dy : D} {ps : List (V × V)} {ds : List (D × D)} : RD K W x dx → RD K W y dy → PDs K W ps ds → PDs K W ((x, y) :: ps) ((dx, dy) :: ds)
abbrev rPs (K : PySem.W.Frag) (T : Tb) (σ : L2.St) : Rl K T σ (List (V × V)) (List D) := .at K T σ (fun W ps ds => ∃ kds, twos ds = some kds ∧ PDs K W ps kds)
theorem pairs_ok {σ : L2.St} : ∀ {n : Nat} {es : List E} {W : Wd} {ρ : Env} {QQ : List (V × V) → Hp → Prop}, es.length ≤ n → Good X.K T W0 W σ ρ → Dm X.K T W0 wish (evEs P cf cm es ρ W.S) W σ ρ (rPs X.K T σ) QQ →
    es.length % 2 = 0 → tPairs (prs X T W0 wish P cf cm es) σ W.H QQ
  | _, [], W, ρ, QQ, _, g, q, _ => by
    simp only [evEs] at q
    exact Dm.ok q g ⟨[], rfl, .nil⟩
  | _, [_], W, ρ, QQ, _, g, q, he => by simp at he
  | 0, _ :: _ :: _, W, ρ, QQ, hn, g, q, he => by simp at hn
  | n + 1, a :: b :: es, W, ρ, QQ, hn, g, q, he => by
    simp only [evEs] at q
    refine step_d g q (fun r ρ S => by cases r <;> rfl) fun x W1 ρ1 dx g1 st1 rx q => ?_
    rw [Res.bind_assoc] at q
    refine step_d g1 q (fun r ρ S => by cases r <;> rfl) fun y W2 ρ2 dy g2 st2 ry q => ?_
    rw [Res.bind_assoc] at q
    refine pairs_ok (n := n) (es := es) (by simp at hn; omega) g2 (Dm.imp (Dm.bind (RF := rPs X.K T σ) g2.sr q) ?_) (by simp at he; omega)
    intro ps H hq
    obtain ⟨W3, ρ3, ds, rfl, g3, st3, ⟨kds, e3, r3⟩, q⟩ := hq
    have m := st3.e.mono g2.sr
    exact Dm.ok q g3 ⟨(dx, dy) :: kds, by simp [twos, e3]; exact ⟨rfl, rfl⟩, .cons ((rx.mono (st2.e.mono g1.sr)).mono m) (ry.mono m) r3⟩
theorem pds_keys {W : Wd} : ∀ {ps : List (V × V)} {kds : List (D × D)}, PDs X.K W ps kds → kds.all (fun kv => flatK kv.1) = true → ∃ kvs : List (Key × V), ps = kvs.map (fun kv => (kV kv.1, kv.2)) ∧ KDs X.K W kvs kds
  | _, _, .nil, _ => ⟨[], rfl, .nil⟩
  | _, _, .cons r1 r2 t, h => by
    simp only [List.all_cons, Bool.and_eq_true] at h
    obtain ⟨kvs, rfl, h2⟩ := pds_keys t h.2
    obtain ⟨k, rfl⟩ := keyD_of h.1
    rw [rd_key (.of r1)]
    exact ⟨(k, _) :: kvs, rfl, .cons r2 h2⟩
theorem sn_dct0 {pos : Pos} : PE X (.Dict [] [] pos) (tE T W0 wish P cf cm X.K (.dct [])) := by
  refine Iv.PE.imp pe_dnewK fun σ H Q q p hp => ?_
  obtain ⟨W, ρ, rfl, g, q⟩ := q
  simp only [evE, evEs] at q
  have q : Dm X.K T W0 wish (.ok (.od false []) ρ W.S) W σ ρ (rV X.K T W0 σ) Q := q
  exact q (.ref p) (W.put p (.dK [])) rfl (g.put hp) (Step.put hp) ⟨p, rfl, ⟨DctAt.mk put_same .nil, g.notF hp, fun z => g.notB hp ((B_of rfl rfl).mp z), g.fresh0 hp⟩, g.notOwn hp, hp⟩
theorem sn_dct {es : List E} {ks : List (Option Expr)} {vs : List Expr} {pos : Pos} (h : PPs X pos ks vs (prs X T W0 wish P cf cm es)) (hall : ks.all (·.isSome) = true) (hl : ks.length = vs.length) (h0 : ks ≠ []) (h15 : ks.length ≤ 15) (he : es.length % 2 = 0) :
    PE X (.Dict ks vs pos) (tE T W0 wish P cf cm X.K (.dct es)) := by
  refine Iv.PE.imp (pe_disp h hall hl h0 h15) fun σ H Q q p hp => ?_
  obtain ⟨W, ρ, rfl, g, q⟩ := q
  simp only [evE] at q
  have gp := g.put (o := .dK []) hp
  have sp : Step σ W ρ (W.put p (.dK [])) ρ := Step.put hp
  refine pairs_ok (W := W.put p (.dK [])) (n := es.length) (Nat.le_refl _) gp ?_ he
  show Dm X.K T W0 wish (evEs P cf cm es ρ W.S) (W.put p (.dK [])) σ ρ (rPs X.K T σ) _
  generalize evEs P cf cm es ρ W.S = m at q ⊢
  cases m with
  | err => exact q.elim
  | exc c vs ρ1 S1 => exact fun cls d W1 hS g1 st1 xr => q cls d W1 hS g1 (sp.trans g.sr st1) xr
  | ok ds ρ1 S1 =>
    intro ps W1 hS g1 st1 r1
    subst hS
    obtain ⟨kds, e1, r1⟩ := r1
    have q : Dm X.K T W0 wish (match twos ds with
      | some kvs => if kvs.length ≤ 15 ∧ kvs.all (fun kv => flatK kv.1) = true then .ok (.od false (kvs.foldl (fun acc kv => putK acc kv.1 kv.2) [])) ρ1 W1.S else .err
      | none => .err) W σ ρ (rV X.K T W0 σ) Q := q
    rw [e1] at q
    dsimp only at q
    split at q
    · rename_i hk
      obtain ⟨kvs, rfl, t⟩ := pds_keys r1 hk.2
      have nB : ¬ (W.put p (.dK [])).B p := fun z => g.notB hp ((B_of rfl rfl).mp z)
      have h1 : W1.H p = some (.dK []) := st1.e.h p _ put_same nB
      have nO : ¬ OwnS σ ρ p := g.notOwn hp
      have nF : ¬ W1.F p := fun f => by
        rcases st1.e.f2 p f with f | f | f
        · exact g.notF hp f
        · rw [show (W.put p (.dK [])).H p = some (.dK []) from put_same] at f; cases f
        · exact nO f
      have nB1 : ¬ W1.B p := st1.e.notB gp.sr put_same nB
      have nO1 : ¬ OwnS σ ρ1 p := fun z => nO (st1.l.own z)
      have chg : Chg W1 p := ⟨fun xs h => (by rw [h1] at h; cases h), fun o u h => (by rw [h1] at h; cases h)⟩
      have g2 := g1.putAt (o := .dK (mergeK [] kvs)) nF nB1 (g.fresh0 hp) nO1 chg
      have m2 := monoPut (o := .dK (mergeK [] kvs)) nF chg
      have st : Step σ W ρ W1 ρ1 := sp.trans g.sr st1
      have len : kvs.length ≤ 15 := by rw [t.length]; exact hk.1
      have tm := KDs.merge (t.mono m2) (.nil (K := X.K) (W := W1.put p (.dK (mergeK [] kvs))))
      exact ⟨h1, kvs, rfl, len, q (.ref p) (W1.put p (.dK (mergeK [] kvs))) rfl g2 ⟨st.e.put hp, st.l⟩ ⟨p, rfl, ⟨DctAt.mk put_same tm, nF, fun z => nB1 ((B_of rfl rfl).mp z), g.fresh0 hp⟩, nO1, hp⟩⟩
    · exact q.elim
/-! ### d.get(k), d.get(k, x) -/
theorem dict_own {W : Wd} {v : V} {d : D} {p : Prim} (hp : mown p = ["dict"]) (s : SR X.K T W) (hk : ownOk W.S p d = true) (r : RQ X.K W v d) : ∃ c, v = .ref c ∧ IsD W.H c := by
  have hd : ∃ t kds, dctD W.S d = some (t, kds) := by
    unfold ownOk at hk
    rw [hp] at hk
    cases d with
    | dct t kds => exact ⟨t, kds, rfl⟩
    | ref id =>
      simp only [tyD] at hk
      simp only [dctD]
      cases hc : cellAt W.S id with
      | none => rw [hc] at hk; cases hk
      | some c =>
        rw [hc] at hk
        cases c with
        | lst xs => simp at hk
        | dct t kvs => exact ⟨t, kvs, rfl⟩
        | ins c fs => cases hk
    | exc c vs => cases hk
    | _ => simp [tyD] at hk
  obtain ⟨t, kds, e⟩ := hd
  obtain ⟨a, rfl, h⟩ := rd_dct s r e
  rcases h with ⟨_, kvs, ds, h, _⟩ | ⟨_, kvs, ds, h, _⟩
  · exact ⟨a, rfl, .inl ⟨kvs, h⟩⟩
  · exact ⟨a, rfl, .inr ⟨kvs, .inl h⟩⟩
theorem sn_get1 {ap pos : Pos} {a b : E} {xa xb : Expr} (hu : X.A.units + 1 < cLine) (ha : PE X xa (tO T W0 wish P cf cm X.K a)) (hb : PE X xb (tO T W0 wish P cf cm X.K b)) (hs : nostar xb = true) (hbase : plainBase xa = true) (hline : (ap.endLine == pos.line) = true) :
    PE X (.Call (.Attribute xa "get" ap) [xb] [] pos) (tE T W0 wish P cf cm X.K (.mth .get1 a [b])) := by
  refine Iv.PE.imp (pe_dget1 hu ha hb ⟨base_ok hbase, few1 hs, hline, by rw [star_ns hs]; rfl⟩) fun σ H Q q => ?_
  obtain ⟨W, ρ, rfl, g, q⟩ := q
  simp only [evE, evPs] at q
  refine tG.step g q fun x W1 ρ1 dx g1 st1 rx q => ?_
  split at q
  · rename_i hk
    rw [Res.bind_assoc] at q
    obtain ⟨c, rfl, hd⟩ := dict_own (p := .get1) rfl g1.sr hk rx
    refine ⟨c, rfl, hd, tG.step g1 q fun y W2 ρ2 dy g2 st2 ry q => ?_⟩
    have q : Dm X.K T W0 wish (.of (primD W2.S .get1 [dx, dy]) ρ2 W2.S) W2 σ ρ2 (rV X.K T W0 σ) Q := q
    obtain ⟨res, e, q⟩ := q.of
    have e : p_get1 W2.S [dx, dy] = some res := e
    unfold p_get1 at e
    obtain ⟨⟨t, kds⟩, e1, e2⟩ := Option.bind_eq_some_iff.mp e
    split at e2
    · rename_i hp
      obtain ⟨e3, e4⟩ := hp
      cases (show t = false from e3)
      cases e2
      obtain ⟨c', o, e5, h4, h5⟩ := dget_rd g2.sr (rx.ext g1.sr st2.e) e1 ry e4
      cases e5
      refine ⟨o, h4, ?_⟩
      rcases h5 with ⟨rfl, h6⟩ | ⟨v, d', rfl, h6, h7⟩
      · rw [h6] at q
        exact Dm.ok q g2 .non
      · rw [h6] at q
        exact Dm.ok q g2 h7
    · cases e2
  · exact q.elim
/-- constants: what they give is for good -/
def scalE : E → Bool
  | .non => true
  | .int _ => true
  | .str _ => true
  | .bl _ => true
  | _ => false
theorem pk_scal {c : E} (h : scalE c = true) {f : Env → Sto → Res R} {ρ : Env} {S : Sto} : pk c f ρ S = (f ρ S).bind fun r ρ S => .ok r.d ρ S := by
  cases c <;> first | rfl | cases h
theorem sn_get2 {ap pos : Pos} {a b c : E} {xa xb xc : Expr} (hu : X.A.units + 1 < cLine) (ha : PE X xa (tO T W0 wish P cf cm X.K a)) (hb : PE X xb (tO T W0 wish P cf cm X.K b)) (hc : PE X xc (tE T W0 wish P cf cm X.K c)) (hs : nostar xb = true) (hs' : nostar xc = true) (hbase : plainBase xa = true) (hline : (ap.endLine == pos.line) = true) (hsc : scalE c = true) :
    PE X (.Call (.Attribute xa "get" ap) [xb, xc] [] pos) (tE T W0 wish P cf cm X.K (.mth .get2 a [b, c])) := by
  have st : starEach [xb, xc] X.env = [(false, eval xb X.env), (false, eval xc X.env)] := by rw [star_ns hs, star_ns hs']; rfl
  refine Iv.PE.imp (pe_dget2 hu ha hb (sn_d hc) ⟨base_ok hbase, by rw [st]; rfl, hline, by rw [st]; rfl⟩) fun σ H Q q => ?_
  obtain ⟨W, ρ, rfl, g, q⟩ := q
  simp only [evE, evPs] at q
  refine tG.step g q fun x W1 ρ1 dx g1 st1 rx q => ?_
  split at q
  · rename_i hk
    rw [Res.bind_assoc] at q
    obtain ⟨l, rfl, hd⟩ := dict_own (p := .get2) rfl g1.sr hk rx
    refine ⟨l, rfl, hd, tG.step g1 q fun y W2 ρ2 dy g2 st2 ry q => ?_⟩
    rw [Res.bind_assoc, Res.bind_assoc, pk_scal hsc] at q
    rw [Res.bind_assoc] at q
    refine step_d g2 q (fun r ρ S => by cases r <;> rfl) fun z W3 ρ3 dz g3 st3 rz q => ?_
    have q : Dm X.K T W0 wish (.of (primD W3.S .get2 [dx, dy, dz]) ρ3 W3.S) W3 σ ρ3 (rV X.K T W0 σ) Q := q
    obtain ⟨res, e, q⟩ := q.of
    have e : p_get2 W3.S [dx, dy, dz] = some res := e
    unfold p_get2 at e
    obtain ⟨⟨t, kds⟩, e1, e2⟩ := Option.bind_eq_some_iff.mp e
    split at e2
    · rename_i hp
      obtain ⟨e3, e4⟩ := hp
      cases (show t = false from e3)
      cases e2
      obtain ⟨c', o, e5, h4, h5⟩ := dget_rd g3.sr ((rx.ext g1.sr st2.e).ext g2.sr st3.e) e1 (ry.ext g2.sr st3.e) e4
      cases e5
      refine ⟨o, h4, ?_⟩
      rcases h5 with ⟨rfl, h6⟩ | ⟨v, d', rfl, h6, h7⟩
      · rw [h6] at q
        exact Dm.ok q g3 rz
      · rw [h6] at q
        exact Dm.ok q g3 h7
    · cases e2
  · exact q.elim
/-! ### x[k] = e, x a dict of the slot's own, or a box -/
theorem Good.putSlotK {W : Wd} {σ : L2.St} {ρ : Env} {i : Nat} {a : Addr} {kds kds' : List (D × D)} {kvs : List (Key × V)} (g : Good X.K T W0 W σ ρ) (hs : ρ[i]? = some (.od false kds)) (ha : σ[i]? = some (some (.ref a))) (r : KDs X.K W kvs kds') :
    Good X.K T W0 (W.put a (.dK kvs)) σ (ρ.set i (.od false kds')) ∧ Mono W (W.put a (.dK kvs)) := by
  have hi : i < ρ.length := (List.getElem?_eq_some_iff.mp hs).1
  obtain ⟨b, e, h1, h3, h4, h5⟩ := g.er.ok i _ hs
  rw [ha] at e
  cases e
  obtain ⟨kvs0, h0, _⟩ := h1.k
  have chg : Chg W a := ⟨fun xs h => (by rw [h0] at h; cases h), fun o u h => (by rw [h0] at h; cases h)⟩
  have m := monoPut (o := .dK kvs) h3 chg
  have no : ¬ OwnS σ (ρ.set i .no) a := by
    rintro ⟨j, t, q1, q2, q3⟩
    by_cases e : i = j
    · subst e
      rw [List.getElem?_set_self hi] at q1
      cases q1; cases q2
    · rw [List.getElem?_set_ne e] at q1
      exact e (g.er.ap i j a _ t hs q1 rfl q2 ha q3)
  have g1 := (g.drop (i := i)).putAt (o := .dK kvs) h3 h4 h5 no chg
  have g2 := Good.setR (Wa := ⟨fun _ => False, fun _ => 0, fun _ => none, []⟩) (ρa := ρ) (r := .od false kds') (v := .ref a) (i := i) g1 ⟨a, rfl, ⟨DctAt.mk put_same (r.mono m), h3, fun z => h4 ((B_of rfl rfl).mp z), h5⟩, no, rfl⟩ (by rw [List.length_set]; exact hi)
  have e1 : σ.set i (some (.ref a)) = σ := by
    apply List.ext_getElem?
    intro j
    by_cases e : i = j
    · subst e
      rw [List.getElem?_set_self (by rw [← g.er.len]; exact hi), ha]
    · rw [List.getElem?_set_ne e]
  rw [e1, List.set_set] at g2
  exact ⟨g2, m⟩
theorem own_addrK {W : Wd} {σ : L2.St} {ρ : Env} {i : Nat} (g : Good X.K T W0 W σ ρ) (h : ownAtK ρ i = true) : ∃ a, σ[i]? = some (some (.ref a)) := by
  unfold ownAtK at h
  split at h
  · rename_i t kvs hs
    obtain ⟨a, e, _⟩ := g.er.ok i _ hs
    exact ⟨a, e⟩
  · cases h
theorem st_setK {i : Nat} {k e : E} {y : Str} {xk x : Expr} {py p p' : Pos} (hu : X.A.units + 1 < cLine) (hy : PE X (.Name y py) (tVar i)) (hk : PE X xk (tO T W0 wish P cf cm X.K k)) (hsl : noSlice xk = true) (hs : notComp x = true) (h : PE X x (tE T W0 wish P cf cm X.K e)) :
    PS X (.Assign [.Subscript (.Name y py) xk p'] x p) (tS X.K T W0 wish (evS P cf cm (.setK i k e))) := by
  refine Iv.PS.imp (ps_asg (sn_d h) (pg_sub hy hk (set_dict hu) (asub_ok hsl)) (by unfold swapsWithSole; exact swaps_ok hs) (by rfl) (by rfl)) fun D σ H q => ?_
  obtain ⟨W, ρ, rfl, g, q⟩ := q
  simp only [evS] at q
  refine tD.stm g q (fun r ρ S => by cases r <;> rfl) fun v W1 ρ1 d g1 st1 rd q => ?_
  split at q
  · rename_i ho
    obtain ⟨a, e1⟩ := own_addrK g1 ho
    refine ⟨.ref a, e1, ?_⟩
    refine tG.stm g1 q fun y W2 ρ2 dy g2 st2 ry q => ?_
    have rd := rd.mono (st2.e.mono g1.sr)
    split at q
    · rename_i kds hs1
      split at q
      · rename_i hh
        obtain ⟨b, e3, h1, h3, h4, h5⟩ := g2.er.ok i _ hs1
        rw [e1] at e3
        cases e3
        obtain ⟨kvs, h0, t⟩ := h1.k
        obtain ⟨k', rfl⟩ := keyD_of hh.1
        have tp := KDs.put (k := k') rd t
        obtain ⟨gp, mp⟩ := g2.putSlotK hs1 e1 tp
        exact ⟨a, _, rfl, .inl ⟨kvs, k', h0, rd_key ry, by rw [t.length]; exact hh.2, rfl⟩, q σ (W2.put a (.dK (L2.putK kvs k' v))) rfl gp mp⟩
      · exact q.elim
    · exact q.elim
  · exact q.elim
theorem st_setXK {o i e : E} {xo xi x : Expr} {p p' : Pos} (hu : X.A.units + 1 < cLine) (ho : PE X xo (tO T W0 wish P cf cm X.K o)) (hi : PE X xi (tO T W0 wish P cf cm X.K i)) (hsl : noSlice xi = true) (hs : notComp x = true) (h : PE X x (tE T W0 wish P cf cm X.K e)) :
    PS X (.Assign [.Subscript xo xi p'] x p) (tS X.K T W0 wish (evS P cf cm (.setXK o i e))) := by
  refine Iv.PS.imp (ps_asg (sn_d h) (pg_sub ho hi (set_dict hu) (asub_ok hsl)) (by unfold swapsWithSole; exact swaps_ok hs) (by rfl) (by rfl)) fun D σ H q => ?_
  obtain ⟨W, ρ, rfl, g, q⟩ := q
  simp only [evS] at q
  refine tD.stm g q (fun r ρ S => by cases r <;> rfl) fun v W1 ρ1 d g1 st1 rd q => ?_
  refine tG.stm g1 q fun x W2 ρ2 dx g2 st2 rx q => ?_
  refine tG.stm g2 q fun y W3 ρ3 dy g3 st3 ry q => ?_
  have rx := RQ.ext g2.sr st3.e rx
  have rd := (rd.mono (st2.e.mono g1.sr)).mono (st3.e.mono g2.sr)
  have q : DmS X.K T W0 wish (match (generalizing := false) dx with
    | .ref a => (match cellAt W3.S a with
      | some (.dct false kvs) => if flatK dy = true ∧ kvs.length < sizeLine then .ok .next ρ3 (setCell W3.S a (.dct false (putK kvs dy d))) else .err
      | _ => .err)
    | _ => .err) W3 D := q
  cases dx with
  | ref id =>
    dsimp only at q
    split at q
    · rename_i kds hcell
      split at q
      · rename_i hh
        have hid : id < W3.S.length := (List.getElem?_eq_some_iff.mp hcell).1
        have hc := g3.sr.cell id _ hcell
        obtain ⟨kvs, h0, t⟩ := DctAt.k hc
        obtain ⟨k', rfl⟩ := keyD_of hh.1
        have hx : x = .ref (W3.ι id) := by
          rcases rx with rx | ⟨a, _, ds, _, e, _⟩ | ⟨a, _, kds, _, e, _⟩
          · cases rx; rfl
          · cases e
          · cases e
        have tp := KDs.put (k := k') rd t
        have m := setC_mono (o := .dK (L2.putK kvs k' v)) (c := .dct false (Iv.putK kds (kD k') d)) g3.sr hid
        refine ⟨W3.ι id, _, hx, .inl ⟨kvs, k', h0, rd_key ry, by rw [t.length]; exact hh.2, rfl⟩, ?_⟩
        exact q σ (W3.setC id (.dK (L2.putK kvs k' v)) (.dct false (Iv.putK kds (kD k') d))) rfl (g3.setC hid (DctAt.mk upd_same (tp.mono m))) m
      · exact q.elim
    · exact q.elim
  | _ => exact q.elim
end
end Iv
/-! Su2: list(reversed(x)) -/
namespace Iv
open PySem PySem.Spec PyProof.Rows L2 PySem.Builtin
section
variable {prog : Program} {w : World} {A : Around} {E : Value → Shared → Prop} {s : Shared}
/-- a new list of what an iterator from a list's end tells -/
theorem list_of_rev {it l : Addr} {xs : Array Value} {Q : Value → Shared → Prop} (hh : A.handled = none) (hi : s.heap.IsRevIter it l ((xs.size : Int) - 1)) (hl : s.heap.IsList l xs) (ne : l ≠ it) (hz : xs.size ≤ sizeLine)
    (k : ∀ (h' : Heap) (tk : Nat) (ys : Array Value) (c : Nat), (∀ b o, b ≠ it → s.heap.get? b = some o → h'.get? b = some o) → h'.get? s.heap.objs.size = some { cls := .type "list", dict := none, data := .seq ys c, slots := #[] } →
      ItemsOf (fun i v => xs[xs.size - 1 - i]? = some v) ys xs.size → Q (.ref s.heap.objs.size) { s with heap := h', toks := tk }) :
    wpAny (model prog w) A (call (.type "list") [.ref it]) Q E s := by
  let S := s.heap.objs.size
  let o0 : Obj := { cls := .type "list", data := .seq #[] }
  refine callType_codes (Q₁ := fun z t => z = .ref S ∧ t = { s with heap := s.heap.push o0 }) PySem.F.called_list (PySem.F.typeCall_list_1 _) PySem.F.entry_list_init (code_list_new _ ⟨rfl, rfl⟩) fun z t hzt => ?_
  obtain ⟨rfl, rfl⟩ := hzt
  have g0 : (s.heap.push o0).get? S = some o0 := Heap.get?_push_size _ rfl
  have ltI : it < S := by obtain ⟨o, e, _⟩ := id hi; exact Heap.lt_size e
  have ltL : l < S := by obtain ⟨o, e, _⟩ := id hl; exact Heap.lt_size e
  refine ⟨⟨_, g0, rfl⟩, PySem.F.args_list_init_2 _ _, ?_⟩
  unfold Builtin.«list.__init__»
  refine wpAny_bind ?_; unfold Builtin.List.listItems
  refine wpAny_bind (wpAny_seqItems g0 rfl (wpAny_pure ?_)); refine wpAny_bind ?_; unfold Builtin.List.listUpdate
  refine wpAny_updateSeq g0 rfl ?_
  have g1 := Heap.get?_update_self (Obj.mapSeq (fun _ => (#[] : Array Value))) g0 rfl
  have oth : ∀ b o, s.heap.get? b = some o → ((s.heap.push o0).update S (Obj.mapSeq (fun _ => (#[] : Array Value)))).get? b = some o := fun b o e =>
    (Heap.get?_update_other _ _ (Nat.ne_of_gt (Heap.lt_size e))).trans (Heap.get?_push_of_some _ e)
  refine wpAny_bind (wpAny_letGo ?_)
  have hi1 := hi.at (h' := (s.heap.push o0).update S (Obj.mapSeq (fun _ => (#[] : Array Value)))) fun o e => oth it o e
  have hT : ({ s with heap := (s.heap.push o0).update S (Obj.mapSeq (fun _ => (#[] : Array Value))) } : Shared).TypeIs (.ref it) "list_reverseiterator" := Heap.IsRevIter.typeIs (s := { s with heap := _ }) hi1
  have no : Builtin.List.listSameRef (.ref S) (.ref it) = false := by simp [Builtin.List.listSameRef, Nat.ne_of_gt ltI]
  unfold Builtin.List.listExtendWith
  refine wpAny_bind (wpAny_typeOf hT ?_); rw [if_neg (by rw [no]; decide)]
  refine wpAny_bind (wpAny_pyIter_revIter (s := { s with heap := _ }) hi1 ?_); refine wpAny_bind (wpAny_holding ?_); unfold Builtin.List.listLengthHint
  refine wpAny_bind (wpAny_specialOf hT RT.nolen_lri ?_); refine wpAny_bind (wpAny_specialOf hT RT.hint_lri ?_)
  generalize hid : ("list_reverseiterator.__length_hint__" : String) = i0
  wp_delta
  rw [show splitId i0 = some ("list_reverseiterator", "__length_hint__") from by subst hid; decide +kernel]; subst hid
  refine wpAny_bind (wpAny_isInstance (b := true) hT (by rw [isSubtype_type]; kernel_rfl) ?_); refine wpAny_pure ?_; rw [if_neg (by decide)]
  have e0 : ((xs.size : Nat) : Int) - 1 - ((0 : Nat) : Int) = (xs.size : Int) - 1 := by omega
  have W := (Walks.listRev (prog := prog) (w := w) (A := A.in1.in1) hh it l ne xs).toS
  have nS : S ∉ [it, l] := by simp only [List.mem_cons, List.not_mem_nil, or_false, not_or]; exact ⟨Nat.ne_of_gt ltI, Nat.ne_of_gt ltL⟩
  refine wpAny_pure ⟨plainId_quiet PySem.F.plain_extend_loop _, codeAny_extend_loopS W hz S nS _ xs.size 0 _ _ _ rfl (Nat.zero_le _) ⟨Nat.zero_le _, by rw [e0]; exact hi1, hl.at fun o e => oth l o e⟩ g1 (ItemsOf.nil _) fun s' ys c mv g2 its => ?_⟩
  rw [Moved.eq_with mv]
  refine ⟨rfl, k s'.heap s'.toks ys c (fun b o hb e => mv.heap b o (fun hm => ?_) (oth b o e)) g2 its⟩
  rcases List.mem_cons.mp hm with q | hm
  · exact absurd (Heap.lt_size e) (by rw [q]; exact Nat.lt_irrefl _)
  · exact hb (List.mem_singleton.mp hm)
end
section
variable {X : Cx}
def tListRev (K : PySem.W.Frag) (te : TE) : TE := fun σ H Q => te σ H fun v H1 => ∃ (a : Addr) (xs : List V), v = .ref a ∧ SqL K H1 a xs ∧ ∀ q, H1 q = none → Q (.ref q) (upd H1 q (.lst xs.reverse))
theorem pe_listRev {e : Expr} {te : TE} {p p2 pos pos2 : Pos} (hc : X.calm = true) (hg : Gl X "list") (hm : X.mg "list" = none) (hg2 : Gl X "reversed") (hm2 : X.mg "reversed" = none) (he : PE X e te)
    (hs : starEach [e] X.env = (false, eval e X.env) :: starEach [] X.env) :
    PE X (.Call (.Name "list" p) [.Call (.Name "reversed" p2) [e] [] pos2] [] pos) (tListRev X.K te) := by
  constructor
  intro pins s σ H Q I h
  refine Call_ (ld_blt I hg hm (u := .type "list") rfl (PyProof.Rows.callWith_type1 (args_cons (Call_ (ld_blt I hg2 hm2 PyProof.Rows.boot_reversed (PyProof.Rows.callWith_type1 (args_cons (thn (he.run pins s σ H _ I h) fun u s1 hu => args_nil ?_) hs) hs rfl))) rfl) rfl rfl))
  obtain ⟨v, H1, I1, r1, a, xs, rfl, hq, q⟩ := hu
  cases r1
  obtain ⟨its, rv, p', hz⟩ := I1.list hq
  have hl := p'.isList
  have ha : a < s1.heap.objs.size := by obtain ⟨o, e, _⟩ := id hl; exact Heap.lt_size e
  refine call_reversed_list hl (args_nil ?_)
  obtain ⟨f0, f1, f2, f3, f4, f5⟩ := I1.fpOk (H' := H1) (b := s1.heap.objs.size) (Nat.le_refl _) (I1.hok.fresh (Nat.le_refl _))
  have I2 : Inv X pins σ H1 { s1 with heap := s1.heap.push (revObj a ((its.toArray.size : Int) - 1)) } := I1.kept (t' := s1.toks) fun b o e => Heap.get?_push_of_some _ e
  refine list_of_rev (s := { s1 with heap := s1.heap.push (revObj a ((its.toArray.size : Int) - 1)) }) (I1.ok.hd hc) ⟨_, Heap.get?_push_size _ rfl, rfl, rfl⟩ (hl.push _) (Nat.ne_of_lt ha) (by rw [List.size_toArray, ← rv.length]; exact hz) fun h' tk ys c hk g it => ?_
  refine ⟨.ref (s1.heap.push (revObj a ((its.toArray.size : Int) - 1))).objs.size, upd H1 (s1.heap.push (revObj a ((its.toArray.size : Int) - 1))).objs.size (.lst xs.reverse), ?_, rfl, q _ (I2.hok.fresh (Nat.le_refl _))⟩
  refine Inv.turnedNew (s := { s1 with heap := s1.heap.push (revObj a ((its.toArray.size : Int) - 1)) }) (ch := [s1.heap.objs.size]) I2 (fun b o hb e => hk b o (fun z => hb (by rw [z]; exact List.mem_singleton.mpr rfl)) e) (fun b hb => ?_) (Nat.le_refl _) ?_
  · rw [List.mem_singleton.mp hb]; exact ⟨f0, f1, f2, f3, f4, f5⟩
  · refine (show ObjOk X.prog X.w _ _ _ (.lst xs.reverse) from ⟨by rw [List.length_reverse]; exact hz, ys.toList, c, RT.vals_rev rv it, ?_⟩)
    rw [Array.toArray_toList]
    exact g
end
end Iv
/-! Su3: x[::s] of a list, s reckoned: 1 or -1 -/
namespace Iv
open PySem PySem.Spec PyProof.Rows L2
theorem pick_all1 (items : Array Value) : slicePick items none none (some 1) = items := by
  have e : slicePick items none none (some 1) = slicePick items none none none := rfl
  rw [e]
  exact slicePick_all items
section
variable {X : Cx}
def tSlS (K : PySem.W.Frag) (te : TE) (ts : TO) : TE := fun σ H Q => te σ H fun x H1 => ts σ H1 fun o H2 => ∃ (a : Addr) (xs : List V), x = .ref a ∧ SqL K H2 a xs ∧
  ((o = some 1 ∧ ∀ p, H2 p = none → Q (.ref p) (upd H2 p (.lst xs))) ∨ (o = some (-1) ∧ ∀ p, H2 p = none → Q (.ref p) (upd H2 p (.lst xs.reverse))))
theorem pe_slS {e st : Expr} {te : TE} {ts : TO} {p3 pos : Pos} (he : PE X e te) (hst : PO X (some st) ts) : PE X (.Subscript e (.Slice none none (some st) p3) pos) (tSlS X.K te ts) := by
  constructor
  intro pins s σ H Q I h
  refine Subscript_ (thn (he.run pins s σ H _ I h) fun v s1 hv => ?_)
  obtain ⟨x, H1, I1, r1, q1⟩ := hv
  refine wpAny_Slice (thn (po_none.run pins s1 σ H1 (fun o H2 => o = none ∧ H2 = H1) I1 ⟨rfl, rfl⟩) fun vl s2 h2 => ?_)
  obtain ⟨l, H2, I2, pl, rfl, rfl⟩ := h2
  refine thn (po_none.run pins s2 σ H2 (fun o H3 => o = none ∧ H3 = H2) I2 ⟨rfl, rfl⟩) fun vu s3 h3 => ?_
  obtain ⟨u, H3, I3, pu, rfl, rfl⟩ := h3
  refine thn (hst.run pins s3 σ H3 _ I3 q1) fun vs s4 h4 => ?_
  obtain ⟨o, H4, I4, ps, a, xs, rfl, hx, q⟩ := h4
  cases r1
  have I5 : Inv X pins σ H4 { s4 with heap := s4.heap.push { cls := .type "slice", data := .fields #[vl, vu, vs] } } := I4.kept (t' := s4.toks) fun b ob z => Heap.get?_push_of_some _ z
  obtain ⟨its, r, ht, hz⟩ := I5.list hx
  have hlen := r.length
  show wpAny _ X.A (subscriptTail e _ (.ref a) (.ref s4.heap.objs.size)) (EP X pins σ Q) X.xe { s4 with heap := s4.heap.push { cls := .type "slice", data := .fields #[vl, vu, vs] } }
  refine tail_any (ops := [.ref a, .ref s4.heap.objs.size]) ht.isList.typeIs PySem.slot_list_getitem.lookup ?_ (by with_unfolding_all rfl)
  rcases q with ⟨rfl, q⟩ | ⟨rfl, q⟩
  · refine wpAny_getItem_list_slice ht.isList (Heap.IsSliceOf.new _ vl vu vs) pl pu ps (by decide) ?_ (by rw [List.size_toArray]; omega)
    rw [pick_all1]
    exact ⟨.ref _, _, I5.laid (t' := s4.toks) (o := .lst xs) (fun b ob z => Heap.get?_push_of_some _ z) (Nat.le_refl _) ⟨hz, its, 0, r, Heap.get?_push_size _ rfl⟩, rfl, q _ (I5.hok.fresh (Nat.le_refl _))⟩
  · refine wpAny_getItem_list_slice ht.isList (Heap.IsSliceOf.new _ vl vu vs) pl pu ps (by decide) ?_ (by rw [List.size_toArray]; omega)
    rw [PySem.W.krv_pick]
    exact ⟨.ref _, _, I5.laid (t' := s4.toks) (o := .lst xs.reverse) (fun b ob z => Heap.get?_push_of_some _ z) (Nat.le_refl _) ⟨by rw [List.length_reverse]; exact hz, its.reverse, 0, r.reverse, Heap.get?_push_size _ rfl⟩, rfl, q _ (I5.hok.fresh (Nat.le_refl _))⟩
end
end Iv
/-! Sw5: list(reversed(x)), x[::-1], t.upper(), min(x) -/
namespace Iv
open PySem PySem.Spec PyProof.Rows L2
section
variable {X : Cx} {T : Tb} {W0 : Wd} {wish : Wish} {P : Pg} {cf cm : Nat → List D → Sto → ResF}
theorem rev_core {σ : L2.St} {W : Wd} {ρ : Env} {e : E} {Q : VK} (g : Good X.K T W0 W σ ρ)
    (q : Dm X.K T W0 wish ((evE P cf cm (.prim .revL [e])) ρ W.S) W σ ρ (rV X.K T W0 σ) Q) :
    tO T W0 wish P cf cm X.K e σ W.H fun v H1 => ∃ (a : Addr) (xs : List V), v = .ref a ∧ SqL X.K H1 a xs ∧ ∀ q, H1 q = none → Q (.ref q) (upd H1 q (.lst xs.reverse)) := by
  simp only [evE, evPs] at q
  rw [Res.bind_assoc] at q
  refine tG.step g q fun x W1 ρ1 dx g1 st1 rx q => ?_
  have q : Dm X.K T W0 wish (.of (primD W1.S .revL [dx]) ρ1 W1.S) W1 σ ρ1 (rV X.K T W0 σ) Q := q
  obtain ⟨res, e, q⟩ := q.of
  have e : p_revL W1.S [dx] = some res := e
  obtain ⟨xs, h1, rfl⟩ := Option.map_eq_some_iff.mp e
  obtain ⟨a, vs, rfl, h2, t⟩ := rd_lst g1.sr rx h1
  exact ⟨a, vs, rfl, h2, Nxt.l q g1 t.rev⟩
theorem sn_listRev {e : E} {xe : Expr} {p p2 pos pos2 : Pos} (hc : X.calm = true) (hg : Gl X "list") (hm : X.mg "list" = none) (hg2 : Gl X "reversed") (hm2 : X.mg "reversed" = none) (he : PE X xe (tO T W0 wish P cf cm X.K e)) (hs : nostar xe = true) :
    PE X (.Call (.Name "list" p) [.Call (.Name "reversed" p2) [xe] [] pos2] [] pos) (tE T W0 wish P cf cm X.K (.prim .revL [e])) := by
  refine Iv.PE.imp (pe_listRev hc hg hm hg2 hm2 he (star_ns hs)) fun σ H Q q => ?_
  obtain ⟨W, ρ, rfl, g, q⟩ := q
  exact rev_core g q
theorem sn_revL {e : E} {xe : Expr} {k : Nat} {p1 p2 p3 pos : Pos} (he : PE X xe (tO T W0 wish P cf cm X.K e)) :
    PE X (.Subscript xe (.Slice none none (some (.UnaryOp .USub (.Constant (.int 1) k p1) p2)) p3) pos) (tE T W0 wish P cf cm X.K (.prim .revL [e])) := by
  refine Iv.PE.imp (pe_revL he) fun σ H Q q => ?_
  obtain ⟨W, ρ, rfl, g, q⟩ := q
  exact rev_core g q
theorem sn_upper {ap pos : Pos} {a : E} {xa : Expr} (ha : PE X xa (tO T W0 wish P cf cm X.K a)) (hbase : plainBase xa = true) (hline : (ap.endLine == pos.line) = true) :
    PE X (.Call (.Attribute xa "upper" ap) [] [] pos) (tE T W0 wish P cf cm X.K (.mth .upper a [])) := by
  refine Iv.PE.imp (pe_upper ha (base_ok hbase) hline) fun σ H Q q => ?_
  obtain ⟨W, ρ, rfl, g, q⟩ := q
  simp only [evE, evPs] at q
  refine tG.step g q fun x W1 ρ1 dx g1 st1 rx q => ?_
  split at q
  · rename_i hk
    have q : Dm X.K T W0 wish (.of (primD W1.S .upper [dx]) ρ1 W1.S) W1 σ ρ1 (rV X.K T W0 σ) Q := q
    obtain ⟨res, e, q⟩ := q.of
    change p_upper W1.S _ = _ at e
    unfold p_upper at e
    split at e
    · rename_i h2
      cases h2
      split at e
      · cases e
        rw [rd_str rx]
        exact ⟨⟨_, rfl⟩, _, rfl, rfl, by assumption, Nxt.v q g1 (.str _)⟩
      · cases e
    · cases e
  · exact q.elim
theorem sn_slS {a st : E} {xa xs : Expr} {p3 pos : Pos} (ha : PE X xa (tO T W0 wish P cf cm X.K a)) (hs : PE X xs (tO T W0 wish P cf cm X.K st)) :
    PE X (.Subscript xa (.Slice none none (some xs) p3) pos) (tE T W0 wish P cf cm X.K (.slS a st)) := by
  refine Iv.PE.imp (pe_slS ha (po_some hs)) fun σ H Q q => ?_
  obtain ⟨W, ρ, rfl, g, q⟩ := q
  simp only [evE] at q
  refine tG.step g q fun x W1 ρ1 dx g1 st1 rx q => ?_
  refine tG.step g1 q fun y W2 ρ2 dy g2 st2 ry q => ?_
  have rx := RQ.ext g1.sr st2.e rx
  cases dy with
  | int i =>
    rw [rd_int ry]
    have q : Dm X.K T W0 wish (.of (slSD W2.S dx i) ρ2 W2.S) W2 σ ρ2 (rV X.K T W0 σ) Q := q
    obtain ⟨res, e, q⟩ := q.of
    unfold slSD at e
    split at e
    · rename_i hi
      obtain ⟨ds, h1, rfl⟩ := Option.map_eq_some_iff.mp e
      obtain ⟨b, vs, rfl, h2, t⟩ := rd_lst g2.sr rx h1
      exact ⟨i, rfl, b, vs, rfl, h2, .inl ⟨by rw [hi], Nxt.l q g2 t⟩⟩
    · split at e
      · rename_i hi
        obtain ⟨ds, h1, rfl⟩ := Option.map_eq_some_iff.mp e
        obtain ⟨b, vs, rfl, h2, t⟩ := rd_lst g2.sr rx h1
        exact ⟨i, rfl, b, vs, rfl, h2, .inr ⟨by rw [hi], Nxt.l q g2 t.rev⟩⟩
      · cases e
  | _ => exact q.elim
end
end Iv
/-! Su4: enumerate(x), zip(x, y), of lists and of tuples; each turn's pair a new tuple that bears no dict -/
namespace Iv
open PySem PySem.Spec PyProof.Rows L2
open PySem.AutoSeq1 (wpAny_loadPart')
/-! ### an iterator over a list or a tuple -/
def ItB (u : Bool) (h : Heap) (j l : Addr) (i : Nat) : Prop := match u with
  | true => h.IsTupleIter j l i
  | false => h.IsListIter j l i
def AtB (u : Bool) (h : Heap) (l : Addr) (vs : Array Value) : Prop := match u with
  | true => h.IsTuple l vs
  | false => h.IsList l vs
theorem ItB.ext {u : Bool} {h h' : Heap} {j c l : Addr} {i : Nat} (q : ItB u h j l i) (s : Heap.ExtBut c h h') (n : j ≠ c) : ItB u h' j l i := by
  cases u
  · exact Heap.IsListIter.extBut q s n
  · exact Heap.IsTupleIter.extBut q s n
theorem ItB.obj {u : Bool} {h : Heap} {j l : Addr} {i : Nat} (q : ItB u h j l i) : ∃ o, h.get? j = some o ∧ ∀ v, o.data ≠ .cell v := by
  cases u
  · obtain ⟨o, h1, _, h3⟩ := q; exact ⟨o, h1, fun v z => by rw [h3] at z; cases z⟩
  · obtain ⟨o, h1, _, h3⟩ := q; exact ⟨o, h1, fun v z => by rw [h3] at z; cases z⟩
theorem ItB.lt {u : Bool} {h : Heap} {j l : Addr} {i : Nat} (q : ItB u h j l i) : j < h.objs.size := by
  obtain ⟨o, h1, _⟩ := q.obj; exact Heap.lt_size h1
theorem ItB.to {u : Bool} {h h' : Heap} {j l : Addr} {i : Nat} (q : ItB u h j l i) (k : ∀ o, h.get? j = some o → h'.get? j = some o) : ItB u h' j l i := by
  cases u
  · obtain ⟨o, h1, h2⟩ := q; exact ⟨o, k o h1, h2⟩
  · obtain ⟨o, h1, h2⟩ := q; exact ⟨o, k o h1, h2⟩
section
variable {prog : Program} {w : World} {A : Around} {E : Value → Shared → Prop} {s : Shared}
theorem nx_item {u : Bool} {j l : Addr} {i : Nat} {vs} {x : Value} {Q : Value → Shared → Prop} (q : ItB u s.heap j l i) (hl : AtB u s.heap l vs) (hx : vs[i]? = some x)
    (k : ∀ h', ItB u h' j l (i + 1) → Heap.SameBut j s.heap h' → Q x { s with heap := h' }) : wpAny (model prog w) A (Builtin.SmallTypes.nextOf (.ref j)) Q E s := by
  cases u
  · exact wpAny_nextOf_list_item q hl hx k
  · exact RZ.nextOf_tuple_item q hl hx k
theorem nx_end {u : Bool} {j l : Addr} {i : Nat} {vs} {Q : Value → Shared → Prop} (hh : A.handled = none) (q : ItB u s.heap j l i) (hl : AtB u s.heap l vs) (hx : vs[i]? = none)
    (k : ∀ h' x, Heap.ExtBut j s.heap h' → (∃ o, h'.get? x = some o ∧ o.cls = .type "StopIteration") → E (.ref x) { s with heap := h' }) : wpAny (model prog w) A (Builtin.SmallTypes.nextOf (.ref j)) Q E s := by
  cases u
  · exact wpAny_nextOf_list_end hh q hl hx k
  · exact RZ.nextOf_tuple_end hh q hl hx k
/-! ### enumerate -/
theorem en_next {u : Bool} {z j l : Addr} {i : Nat} {vs : Array Value} {x old : Value} {Q : Value → Shared → Prop} (hz : IsEnum s.heap z j i old) (hj : ItB u s.heap j l i) (hl : AtB u s.heap l vs) (hx : vs[i]? = some x) (ne : z ≠ j)
    (k : ∀ h', IsEnumOut h' z j ((i : Int) + 1) x s.heap.objs.size → ItB u h' j l (i + 1) → h'.get? s.heap.objs.size = some (tob [.int i s.toks, x]) → h'.objs.size = s.heap.objs.size + 1 →
      (∀ b o, b ≠ z → b ≠ j → s.heap.get? b = some o → h'.get? b = some o) → Q (.ref s.heap.objs.size) { s with heap := h', toks := s.toks + 1 }) :
    wpAny (model prog w) A (Builtin.«enumerate.__next__» ⟨[.ref z], []⟩) (fun fin t => ∃ v, fin = .done (.ret v) ∧ Q v t) E s := by
  obtain ⟨g, fs, d, tk, os⟩ := s
  have hzl : z < g.objs.size := Heap.lt_size hz
  show wpAny _ _ (field (.ref z) 2 >>= _) _ _ _
  refine wpAny_bind (wpAny_field hz rfl (x := .ref j) rfl (wpAny_bind (nx_item hj hl hx fun g1 j1 e1 => ?_)))
  replace e1 : Heap.SameBut j g g1 := e1
  have z1 : IsEnum g1 z j i old := (e1.2 z ne).trans hz
  show wpAny _ _ (field (.ref z) 3 >>= _) _ _ ⟨g1, fs, d, tk, os⟩
  refine wpAny_bind (wpAny_field z1 rfl (x := rawInt i) rfl ?_)
  show wpAny _ _ (field (.ref z) 4 >>= _) _ _ ⟨g1, fs, d, tk, os⟩
  refine wpAny_bind (wpAny_field z1 rfl (x := .none) rfl ?_)
  show wpAny _ _ (mkInt i >>= _) _ _ ⟨g1, fs, d, tk, os⟩
  refine wpAny_bind (wpAny_mkInt ?_)
  show wpAny _ _ (setField (.ref z) 3 (rawInt ((i : Int) + 1)) >>= _) _ _ ⟨g1, fs, d, tk + 1, os⟩
  refine wpAny_bind (wpAny_setField_rec z1 (by simp) fun g2 z2 e2 => ?_)
  replace e2 : Heap.SameBut z g1 g2 := e2
  replace z2 : IsEnum g2 z j ((i : Int) + 1) old := z2
  show wpAny _ _ (setField (.ref z) 4 .none >>= _) _ _ ⟨g2, fs, d, tk + 1, os⟩
  refine wpAny_bind (wpAny_setField_rec z2 (by simp) fun g3 z3 e3 => ?_)
  replace e3 : Heap.SameBut z g2 g3 := e3
  replace z3 : IsEnum g3 z j ((i : Int) + 1) old := z3
  show wpAny _ _ (newTuple [.int i tk, x] >>= _) _ _ ⟨g3, fs, d, tk + 1, os⟩
  refine wpAny_bind (wpAny_newTuple ?_)
  have z4 : IsEnum (g3.push (tob [.int i tk, x])) z j ((i : Int) + 1) old := Heap.get?_push_of_some _ z3
  have sz : g3.objs.size = g.objs.size := by rw [e3.1, e2.1, e1.1]
  have t4 : (g3.push (tob [.int i tk, x])).get? g.objs.size = some (tob [.int i tk, x]) := by rw [← sz]; exact Heap.get?_push_size _ rfl
  have s4 : (g3.push (tob [.int i tk, x])).objs.size = g.objs.size + 1 := by rw [Heap.size_push, sz]
  have k4 : ∀ b o, b ≠ z → b ≠ j → g.get? b = some o → (g3.push (tob [.int i tk, x])).get? b = some o := fun b o n1 n2 hb =>
    Heap.get?_push_of_some _ (e3.extBut b o n1 (e2.extBut b o n1 (e1.extBut b o n2 hb)))
  have j4 : ItB u (g3.push (tob [.int i tk, x])) j l (i + 1) := ((j1.ext e2.extBut (Ne.symm ne)).ext e3.extBut (Ne.symm ne)).to fun o ho => Heap.get?_push_of_some _ ho
  show wpAny _ _ (Builtin.SmallTypes.ownedTupleIsFree (.ref z) >>= _) _ _ ⟨g3.push (tob [.int i tk, x]), fs, d, tk + 1, os⟩
  rw [sz]
  generalize g3.push (tob [.int i tk, x]) = g4 at *
  refine wpAny_bind ?_
  unfold Builtin.SmallTypes.ownedTupleIsFree
  refine wpAny_bind (wpAny_field z4 rfl (x := .none) rfl (wpAny_pure ?_))
  simp only [if_true]
  refine wpAny_bind (wpAny_rule (wpAny_bind (wpAny_field z4 rfl (x := old) rfl (wpAny_bind (wpAny_setField_rec z4 (by simp) fun g5 z5 e5 => ?_)))))
  replace e5 : Heap.SameBut z g4 g5 := e5
  replace z5 : IsEnum g5 z j ((i : Int) + 1) x := z5
  show wpAny _ _ (Builtin.SmallTypes.ownedTupleHandOut (.ref z) (.ref g.objs.size) >>= _) _ _ ⟨g5, fs, d, tk + 1, os⟩
  refine wpAny_bind ?_
  unfold Builtin.SmallTypes.ownedTupleHandOut
  refine wpAny_bind (wpAny_setField_rec z5 (by simp) fun g6 z6 e6 => ?_)
  replace e6 : Heap.SameBut z g5 g6 := e6
  replace z6 : IsEnumOut g6 z j ((i : Int) + 1) x g.objs.size := z6
  refine wpAny_setField_rec z6 (by simp) fun g7 z7 e7 => ?_
  replace e7 : Heap.SameBut z g6 g7 := e7
  replace z7 : IsEnumOut g7 z j ((i : Int) + 1) x g.objs.size := z7
  refine wpAny_bind (wpAny_letGo (wpAny_pure ⟨_, rfl, k g7 z7 ?_ ?_ ?_ ?_⟩))
  · exact ((j4.ext e5.extBut (Ne.symm ne)).ext e6.extBut (Ne.symm ne)).ext e7.extBut (Ne.symm ne)
  · exact e7.extBut _ _ (Nat.ne_of_gt hzl) (e6.extBut _ _ (Nat.ne_of_gt hzl) (e5.extBut _ _ (Nat.ne_of_gt hzl) t4))
  · rw [e7.1, e6.1, e5.1, s4]
  · exact fun b o n1 n2 hb => e7.extBut b o n1 (e6.extBut b o n1 (e5.extBut b o n1 (k4 b o n1 n2 hb)))
theorem en_item {u : Bool} {z j l : Addr} {i : Nat} {vs : Array Value} {x old : Value} {Q : Option Value → Shared → Prop} (hz : IsEnum s.heap z j i old) (hj : ItB u s.heap j l i) (hl : AtB u s.heap l vs) (hx : vs[i]? = some x) (ne : z ≠ j)
    (k : ∀ h', IsEnumOut h' z j ((i : Int) + 1) x s.heap.objs.size → ItB u h' j l (i + 1) → h'.get? s.heap.objs.size = some (tob [.int i s.toks, x]) → h'.objs.size = s.heap.objs.size + 1 →
      (∀ b o, b ≠ z → b ≠ j → s.heap.get? b = some o → h'.get? b = some o) → Q (some (.ref s.heap.objs.size)) { s with heap := h', toks := s.toks + 1 }) :
    wpAny (model prog w) A (pyNext (.ref z)) Q E s := by
  have ty : s.TypeIs (.ref z) "enumerate" := ⟨_, hz, rfl⟩
  unfold pyNext
  refine wpAny_bind (wpAny_attempt (wpAny_callSpecial?_slot (name := Str.ofString "__next__") ty F.slot_enumerate_next ?_))
  exact wpAny_call_entry F.slot_enumerate_next ty F.entry_enumerate_next (en_next hz hj hl hx ne fun h' q1 q2 q3 q4 q5 => wpAny_pure (k h' q1 q2 q3 q4 q5)) (F.args_enumerate_next_1 _)
theorem en_end {u : Bool} {z j l : Addr} {i : Nat} {vs : Array Value} {old : Value} {Q : Option Value → Shared → Prop} (hh : A.handled = none) (hz : IsEnum s.heap z j i old) (hj : ItB u s.heap j l i) (hl : AtB u s.heap l vs) (hx : vs[i]? = none)
    (k : ∀ h', Heap.ExtBut j s.heap h' → Q none { s with heap := h' }) : wpAny (model prog w) A (pyNext (.ref z)) Q E s := by
  have ty : s.TypeIs (.ref z) "enumerate" := ⟨_, hz, rfl⟩
  unfold pyNext
  refine wpAny_bind (wpAny_attempt (wpAny_callSpecial?_slot (name := Str.ofString "__next__") ty F.slot_enumerate_next ?_))
  refine wpAny_call_entry F.slot_enumerate_next ty F.entry_enumerate_next ?_ (F.args_enumerate_next_1 _)
  show wpAny _ _ (field (.ref z) 2 >>= _) _ _ _
  refine wpAny_bind (wpAny_field hz rfl (x := .ref j) rfl (wpAny_bind (nx_end hh hj hl hx fun h' x q1 q2 => ?_)))
  obtain ⟨o, ho, hc⟩ := q2
  exact wpAny_bind (wpAny_isInstance (T := "StopIteration") (b := true) ⟨o, ho, hc⟩ isSubtype_stop (wpAny_pure (k _ q1)))
theorem en_new (l : Addr) (vs : Array Value) (n : Nat) (dct : Option Addr) (sl : Array (Option Value)) :
    Meets (Builtin.«enumerate.__new__» ⟨[.type "enumerate", .ref l], []⟩) (fun _ R s => s.heap.get? l = some { cls := .type "tuple", dict := dct, data := .seq vs n, slots := sl } ∧
      R (.ok (.ret (.ref (s.heap.push { cls := .type "tuple_iterator", data := .fields #[.ref l, .int 0 0] }).objs.size)))
        { s with heap := (s.heap.push { cls := .type "tuple_iterator", data := .fields #[.ref l, .int 0 0] }).push { cls := .type "enumerate", data := .fields #[.none, .bool false, .ref s.heap.objs.size, rawInt 0, .none, .none] } }) :=
  .of_wp fun prog w A R s h => by
    obtain ⟨g, fs, d, tk, os⟩ := s
    obtain ⟨hl, h⟩ := h
    have sub := sub_enumerate
    have hT : Heap.IsTuple (Shared.heap ⟨g, fs, d, tk, os⟩) l vs := ⟨_, hl, rfl, n, rfl⟩
    wp_walk using wpAny_loadPart' hl
    refine wpAny_stack_any fun st => wpAny_pure ?_
    split
    · rename_i c _ _ _ _ _
      cases (c == Value.type "enumerate")
      · wp_walk using wpAny_loadPart' hl, wpAny_pyIter_tuple hT
        exact ⟨_, rfl, h⟩
      · wp_walk using wpAny_loadPart' hl, wpAny_pyIter_tuple hT
        exact ⟨_, rfl, h⟩
    · wp_walk using wpAny_loadPart' hl, wpAny_pyIter_tuple hT
      exact ⟨_, rfl, h⟩
theorem en_callT {l : Addr} {vs : Array Value} {Q : Value → Shared → Prop} (hT : s.heap.IsTuple l vs)
    (k : ∀ h', IsEnum h' (s.heap.objs.size + 1) s.heap.objs.size 0 .none → h'.IsTupleIter s.heap.objs.size l 0 → (∀ b o, s.heap.get? b = some o → h'.get? b = some o) → Q (.ref (s.heap.objs.size + 1)) { s with heap := h' }) :
    wpAny (model prog w) A (call (.type "enumerate") [.ref l]) Q E s := by
  obtain ⟨⟨c, dct, dt, sl⟩, hl, hc, n, hd⟩ := hT
  replace hc : c = .type "tuple" := hc
  replace hd : dt = .seq vs n := hd
  subst hc hd
  have sz : (s.heap.push { cls := .type "tuple_iterator", data := .fields #[.ref l, .int 0 0] }).objs.size = s.heap.objs.size + 1 := Heap.size_push ..
  refine callType_new F.called_enumerate (by decide) (F.typeCall_enumerate_1 _) (F.newCall_enumerate_1 _) (fun obj => F.args_object_init_2 obj _) F.entry_enumerate_new (en_new l vs n dct sl) ⟨hl, ?_⟩
  show _ ∧ _
  have he := Heap.get?_push_size (s.heap.push { cls := .type "tuple_iterator", data := .fields #[.ref l, .int 0 0] }) (o := { cls := .type "enumerate", data := .fields #[.none, .bool false, .ref s.heap.objs.size, rawInt 0, .none, .none] }) rfl
  rw [sz] at he ⊢
  exact ⟨⟨_, he, rfl⟩, k _ he ⟨_, Heap.get?_push_of_some _ (Heap.get?_push_size _ rfl), rfl, rfl⟩ fun b o x => Heap.get?_push_of_some _ (Heap.get?_push_of_some _ x)⟩
end
/-- a list or a tuple, tracked -/
def SqB (K : PySem.W.Frag) (u : Bool) (H : Hp) (a : Addr) (xs : List V) : Prop := match u with
  | true => SqT K H a xs
  | false => SqL K H a xs
theorem SqB.at {X : Cx} {pins : List (Addr × Obj)} {σ : L2.St} {H : Hp} {s : Shared} {u : Bool} {a : Addr} {xs : List V} (I : Inv X pins σ H s) (q : SqB X.K u H a xs) : ∃ its : List Value, Vals xs its ∧ AtB u s.heap a its.toArray := by
  cases u
  · obtain ⟨its, rv, p, _⟩ := I.list q; exact ⟨its, rv, p.isList⟩
  · obtain ⟨its, rv, p, _⟩ := I.tuple q; exact ⟨its, rv, p⟩
theorem SqB.inj {X : Cx} {pins : List (Addr × Obj)} {σ : L2.St} {H : Hp} {s : Shared} {u : Bool} {a : Addr} {xs ys : List V} (I : Inv X pins σ H s) (q : SqB X.K u H a xs) (q' : SqB X.K u H a ys) : ys = xs := by
  cases u
  · exact I.list_inj q' q
  · exact I.tuple_inj q' q
/-- the turns of enumerate(x) -/
def ItE (K : PySem.W.Frag) (u : Bool) (a : Addr) : It :=
  ⟨fun i H => ∃ (xs : List V) (x : V), SqB K u H a xs ∧ xs[i]? = some x,
   fun i H v H' => ∃ (T : Addr) (us : List Value) (x : V), v = .ref T ∧ H T = none ∧ H' = upd H T (.frz (tob us) (.tup [.int (i : Nat), x])) ∧ ∀ xs, SqB K u H a xs → xs[i]? = some x,
   fun i H => ∃ xs : List V, SqB K u H a xs ∧ xs.length ≤ i⟩
theorem turn_en {P : Program} {w : World} {K : PySem.W.Frag} {elts : List Expr} {kk : Nat} {tpos : Pos} (u : Bool) (a z j : Addr) :
    Turn P w K (.Tuple elts kk tpos) (ItE K u a) [z, j] z (fun i h => (∃ old, IsEnum h z j ((i : Nat) : Int) old) ∧ ItB u h j a i ∧ z ≠ j) where
  mem := by simp
  obj := fun i h q b hb => by
    obtain ⟨⟨old, hz⟩, hj, _⟩ := q
    rcases (by simpa using hb : b = z ∨ b = j) with e | e
    · rw [e]; exact ⟨_, hz, fun v q => nomatch q⟩
    · rw [e]; exact hj.obj
  keep := fun i h h' q k => by
    obtain ⟨⟨old, hz⟩, hj, ne⟩ := q
    exact ⟨⟨old, k z (by simp) _ hz⟩, hj.to fun o ho => k j (by simp) o ho, ne⟩
  item := by
    intro X hP hw hK hc i pins s σ H E I hf q hg
    subst hP hw hK
    obtain ⟨⟨old, hz⟩, hj, ne⟩ := q
    obtain ⟨xs, x, hq, hx⟩ := hg
    obtain ⟨its, rv, p⟩ := SqB.at I hq
    obtain ⟨c, hcx, rc⟩ := rv.get hx
    have lz : z < s.heap.objs.size := Heap.lt_size hz
    have lj := hj.lt
    refine en_item hz hj p (x := c) (by simpa using hcx) ne fun h1 ho hj1 hT _ hk => ⟨_, rfl, wpAny_letOwnedTupleGo_enum (s := { s with heap := h1, toks := s.toks + 1 }) ho fun h2 hz2 sb => ?_⟩
    have g2 : h2.get? s.heap.objs.size = some (tob [.int i s.toks, c]) := (sb.2 _ (Nat.ne_of_gt lz)).trans hT
    have new : ObjOk X.prog X.w (upd H s.heap.objs.size (.frz (tob [.int i s.toks, c]) (.tup [.int (i : Nat), x]))) h2 s.heap.objs.size (.frz (tob [.int i s.toks, c]) (.tup [.int (i : Nat), x])) :=
      ⟨g2, (by show 2 ≤ sizeLine; decide), [.int i s.toks, c], .cons ⟨_, rfl⟩ (.cons rc .nil), _, g2, rfl, _, rfl⟩
    have I1 : Inv X pins σ (upd H s.heap.objs.size (.frz (tob [.int i s.toks, c]) (.tup [.int (i : Nat), x]))) { s with heap := h2, toks := s.toks + 1 } :=
      I.turnedNew (ch := [z, j]) (fun b ob hb q => (sb.2 b (fun e => hb (by simp [e]))).trans (hk b ob (fun e => hb (by simp [e])) (fun e => hb (by simp [e])) q)) hf (Nat.le_refl _) new
    refine ⟨.ref s.heap.objs.size, _, I1, rfl, ⟨_, _, x, rfl, I.hok.fresh (Nat.le_refl _), rfl, fun ys hy => by rw [SqB.inj I hq hy]; exact hx⟩, ⟨⟨c, ?_⟩, hj1.to fun o e => (sb.2 j (Ne.symm ne)).trans e, ne⟩, fun b hb => ?_⟩
    · have e1 : ((i + 1 : Nat) : Int) = (i : Int) + 1 := by omega
      rw [e1]; exact hz2
    · have lb : b < s.heap.objs.size := by
        rcases (by simpa using hb : b = z ∨ b = j) with e | e
        · rw [e]; exact lz
        · rw [e]; exact lj
      rw [upd_ne (Nat.ne_of_lt lb)]
      exact (hf b hb).1
  done := by
    intro X hP hw hK hc i pins s σ H E I hf q hg
    subst hP hw hK
    obtain ⟨⟨old, hz⟩, hj, ne⟩ := q
    obtain ⟨xs, hq, hx⟩ := hg
    obtain ⟨its, rv, p⟩ := SqB.at I hq
    have hl := rv.length
    obtain ⟨f0, f1, f2, f3, f4, f5⟩ := hf j (by simp)
    exact en_end (I.ok.hd hc) hz hj p (by simp; omega) fun h' eb => ⟨rfl, I.turned (t' := s.toks) (fun b o hb q => eb b o hb q) f0 f1 f3 f4 f5⟩
  self := fun A i s Q E q h => by
    obtain ⟨⟨_, hz⟩, _⟩ := q
    exact wpAny_pyIter_enum hz h
def iEn (K : PySem.W.Frag) (ta : TA) : TI := fun σ H R => ta σ H fun vs H1 => ∃ a xs u, vs = [.ref a] ∧ SqB K u H1 a xs ∧ R (ItE K u a) H1
theorem pi_en {X : Cx} {e : Expr} {ta : TA} {p pos tpos : Pos} {elts : List Expr} {kk : Nat} (hg : Gl X "enumerate") (hm : X.mg "enumerate" = none) (ha : PA X [e] ta) (hs : starEach [e] X.env = [(false, eval e X.env)]) :
    PI X (.Tuple elts kk tpos) (.Call (.Name "enumerate" p) [e] [] pos) (iEn X.K ta) := by
  constructor
  intro pins s σ H R I h
  refine Call_ (ld_blt I hg hm boot_enumerate (PyProof.Rows.callWith_type1 (thn (ha.run pos pins s σ H _ I h) fun us s1 hu => ?_) hs rfl))
  obtain ⟨vs, H1, I1, r1, a, xs, u, rfl, hq, q⟩ := hu
  obtain ⟨c, rfl, rc⟩ := vals1 r1
  cases rc
  have fp : ∀ b, b ∈ [s1.heap.objs.size + 1, s1.heap.objs.size] → FpOk X pins H1 b := fun b hb => by
    have hle : s1.heap.objs.size ≤ b := by
      rcases (by simpa using hb : b = s1.heap.objs.size + 1 ∨ b = s1.heap.objs.size) with e | e
      · rw [e]; exact Nat.le_add_right _ _
      · rw [e]; exact Nat.le_refl _
    exact I1.fpOk hle (I1.hok.fresh hle)
  obtain ⟨its, rv, p1⟩ := SqB.at I1 hq
  cases u with
  | false => exact call_enumerate_list p1 fun h' he hit _ hk => wpAny_pyIter_enum he ⟨s1.heap.objs.size + 1, _, _, _, H1, rfl, I1.kept (t' := s1.toks) hk, turn_en false a (s1.heap.objs.size + 1) s1.heap.objs.size, ⟨⟨.none, he⟩, hit, Nat.succ_ne_self _⟩, fp, q⟩
  | true => exact en_callT p1 fun h' he hit hk => wpAny_pyIter_enum he ⟨s1.heap.objs.size + 1, _, _, _, H1, rfl, I1.kept (t' := s1.toks) hk, turn_en true a (s1.heap.objs.size + 1) s1.heap.objs.size, ⟨⟨.none, he⟩, hit, Nat.succ_ne_self _⟩, fp, q⟩
end Iv
/-! Su5: zip(x, y), both lists or both tuples; each turn's pair a new tuple that bears no dict -/
namespace Iv
open PySem PySem.Spec PyProof.Rows L2
section
variable {prog : Program} {w : World} {A : Around} {E : Value → Shared → Prop} {s : Shared}
theorem zp_item {u : Bool} {z p o i j l m : Addr} {k n : Nat} {xs ys : Array Value} {x y a b : Value} {Q : Option Value → Shared → Prop} (D : ZipApart z p o i j l m) (hz : IsZip s.heap z p o .none) (hp : IsPair s.heap p (.ref i) (.ref j)) (ho : IsPair s.heap o a b)
    (h1 : ItB u s.heap i l k) (h2 : ItB u s.heap j m n) (q1 : AtB u s.heap l xs) (q2 : AtB u s.heap m ys) (hx : xs[k]? = some x) (hy : ys[n]? = some y)
    (hQ : ∀ h', IsZip h' z p o (rawInt s.heap.objs.size) → IsPair h' o x y → ItB u h' i l (k + 1) → ItB u h' j m (n + 1) → h'.get? s.heap.objs.size = some (tob [x, y]) →
      (∀ c ob, c ≠ z → c ≠ o → c ≠ i → c ≠ j → s.heap.get? c = some ob → h'.get? c = some ob) → Q (some (.ref s.heap.objs.size)) { s with heap := h' }) : wpAny (model prog w) A (pyNext (.ref z)) Q E s := by
  cases u
  · exact wpAny_pyNext_zip_item D hz hp ho h1 h2 q1 q2 hx hy fun h' e1 e2 e3 e4 e5 _ e7 => hQ h' e1 e2 e3 e4 e5 e7
  · exact RZ.pyNext_zipT_item D hz hp ho h1 h2 q1 q2 hx hy fun h' e1 e2 e3 e4 e5 _ e7 => hQ h' e1 e2 e3 e4 e5 e7
theorem zp_end {u : Bool} {z p o i j l m : Addr} {k n : Nat} {xs ys : Array Value} {a b : Value} {Q : Option Value → Shared → Prop} (hh : A.handled = none) (D : ZipApart z p o i j l m) (hz : IsZip s.heap z p o .none) (hp : IsPair s.heap p (.ref i) (.ref j)) (ho : IsPair s.heap o a b)
    (h1 : ItB u s.heap i l k) (h2 : ItB u s.heap j m n) (q1 : AtB u s.heap l xs) (q2 : AtB u s.heap m ys) (hx : xs[k]? = none ∨ ys[n]? = none)
    (hQ : ∀ h', (∀ c ob, c ≠ z → c ≠ o → c ≠ i → c ≠ j → s.heap.get? c = some ob → h'.get? c = some ob) → Q none { s with heap := h' }) : wpAny (model prog w) A (pyNext (.ref z)) Q E s := by
  cases u
  · exact wpAny_pyNext_zip_end hh D hz hp ho h1 h2 q1 q2 hx hQ
  · exact RZ.pyNext_zipT_end hh D hz hp ho h1 h2 q1 q2 hx hQ
end
theorem five {c z p o i j : Addr} (h : c ∈ [z, p, o, i, j]) : c = z ∨ c = p ∨ c = o ∨ c = i ∨ c = j := by simpa using h
/-- the turns of zip(x, y) -/
def ItZ (K : PySem.W.Frag) (u : Bool) (a b : Addr) : It :=
  ⟨fun i H => ∃ (xs ys : List V) (x y : V), SqB K u H a xs ∧ SqB K u H b ys ∧ xs[i]? = some x ∧ ys[i]? = some y,
   fun i H v H' => ∃ (T : Addr) (us : List Value) (x y : V), v = .ref T ∧ H T = none ∧ H' = upd H T (.frz (tob us) (.tup [x, y])) ∧ (∀ xs, SqB K u H a xs → xs[i]? = some x) ∧ ∀ ys, SqB K u H b ys → ys[i]? = some y,
   fun i H => ∃ xs ys : List V, SqB K u H a xs ∧ SqB K u H b ys ∧ (xs.length ≤ i ∨ ys.length ≤ i)⟩
theorem turn_zp {P : Program} {w : World} {K : PySem.W.Frag} {elts : List Expr} {kk : Nat} {tpos : Pos} (u : Bool) {a b z p o i1 i2 : Addr} (D : ZipApart z p o i1 i2 a b) :
    Turn P w K (.Tuple elts kk tpos) (ItZ K u a b) [z, p, o, i1, i2] z (fun i h => IsZip h z p o .none ∧ IsPair h p (.ref i1) (.ref i2) ∧ (∃ x y, IsPair h o x y) ∧ ItB u h i1 a i ∧ ItB u h i2 b i) where
  mem := by simp
  obj := fun i h q c hc => by
    obtain ⟨hz, hp, ⟨x, y, ho⟩, j1, j2⟩ := q
    rcases five hc with e | e | e | e | e
    · rw [e]; exact ⟨_, hz, fun v q => nomatch q⟩
    · rw [e]; exact ⟨_, hp, fun v q => nomatch q⟩
    · rw [e]; exact ⟨_, ho, fun v q => nomatch q⟩
    · rw [e]; exact j1.obj
    · rw [e]; exact j2.obj
  keep := fun i h h' q k => by
    obtain ⟨hz, hp, ⟨x, y, ho⟩, j1, j2⟩ := q
    exact ⟨k z (by simp) _ hz, k p (by simp) _ hp, ⟨x, y, k o (by simp) _ ho⟩, j1.to fun c e => k i1 (by simp) c e, j2.to fun c e => k i2 (by simp) c e⟩
  item := by
    intro X hP hw hK hc i pins s σ H E I hf q hg
    subst hP hw hK
    obtain ⟨hz, hp, ⟨x0, y0, ho⟩, j1, j2⟩ := q
    obtain ⟨xs, ys, x, y, hqx, hqy, hx, hy⟩ := hg
    obtain ⟨its, rv, p1⟩ := SqB.at I hqx
    obtain ⟨jts, rw1, p2⟩ := SqB.at I hqy
    obtain ⟨c, hc1, rc⟩ := rv.get hx
    obtain ⟨d, hd1, rd⟩ := rw1.get hy
    have lz : z < s.heap.objs.size := Heap.lt_size hz
    refine zp_item D hz hp ho j1 j2 p1 p2 (x := c) (y := d) (by simpa using hc1) (by simpa using hd1) fun h1 hz1 ho1 k1 k2 hT hk => ⟨_, rfl, wpAny_letOwnedTupleGo_zip (s := { s with heap := h1 }) hz1 fun h2 hz2 sb => ?_⟩
    have g2 : h2.get? s.heap.objs.size = some (tob [c, d]) := (sb.2 _ (Nat.ne_of_gt lz)).trans hT
    have new : ObjOk X.prog X.w (upd H s.heap.objs.size (.frz (tob [c, d]) (.tup [x, y]))) h2 s.heap.objs.size (.frz (tob [c, d]) (.tup [x, y])) :=
      ⟨g2, (by show 2 ≤ sizeLine; decide), [c, d], .cons rc (.cons rd .nil), _, g2, rfl, _, rfl⟩
    have I1 : Inv X pins σ (upd H s.heap.objs.size (.frz (tob [c, d]) (.tup [x, y]))) { s with heap := h2 } :=
      I.turnedNew (t' := s.toks) (ch := [z, p, o, i1, i2]) (fun v ob hb q => (sb.2 v (fun e => hb (by simp [e]))).trans (hk v ob (fun e => hb (by simp [e])) (fun e => hb (by simp [e])) (fun e => hb (by simp [e])) (fun e => hb (by simp [e])) q)) hf (Nat.le_refl _) new
    refine ⟨.ref s.heap.objs.size, _, I1, rfl, ⟨_, _, x, y, rfl, I.hok.fresh (Nat.le_refl _), rfl, fun l hl => by rw [SqB.inj I hqx hl]; exact hx, fun l hl => by rw [SqB.inj I hqy hl]; exact hy⟩, ⟨hz2, ?_, ⟨c, d, ?_⟩, ?_, ?_⟩, fun v hv => ?_⟩
    · exact (sb.2 _ D.TIz).trans (hk _ _ D.TIz D.TITO D.TIi1 D.TIi2 hp)
    · exact (sb.2 _ D.TOz).trans ho1
    · exact k1.to fun v e => (sb.2 _ D.i1z).trans e
    · exact k2.to fun v e => (sb.2 _ D.i2z).trans e
    · have lv : v < s.heap.objs.size := by
        rcases five hv with e | e | e | e | e
        · rw [e]; exact lz
        · rw [e]; exact Heap.lt_size hp
        · rw [e]; exact Heap.lt_size ho
        · rw [e]; exact j1.lt
        · rw [e]; exact j2.lt
      rw [upd_ne (Nat.ne_of_lt lv)]
      exact (hf v hv).1
  done := by
    intro X hP hw hK hc i pins s σ H E I hf q hg
    subst hP hw hK
    obtain ⟨hz, hp, ⟨x0, y0, ho⟩, j1, j2⟩ := q
    obtain ⟨xs, ys, hqx, hqy, he⟩ := hg
    obtain ⟨its, rv, p1⟩ := SqB.at I hqx
    obtain ⟨jts, rw1, p2⟩ := SqB.at I hqy
    have l1 := rv.length
    have l2 := rw1.length
    have he : its.toArray[i]? = none ∨ jts.toArray[i]? = none := by
      rcases he with e | e
      · exact .inl (by simp; omega)
      · exact .inr (by simp; omega)
    exact zp_end (I.ok.hd hc) D hz hp ho j1 j2 p1 p2 he fun h' hk => ⟨rfl, I.turnedL (t' := s.toks) (ch := [z, p, o, i1, i2])
      (fun v ob hb q => hk v ob (fun e => hb (by simp [e])) (fun e => hb (by simp [e])) (fun e => hb (by simp [e])) (fun e => hb (by simp [e])) q) hf⟩
  self := fun A i s Q E q h => wpAny_pyIter_zip q.1 h
def iZp (K : PySem.W.Frag) (ta : TA) : TI := fun σ H R => ta σ H fun vs H1 => ∃ a b xs ys u, vs = [.ref a, .ref b] ∧ SqB K u H1 a xs ∧ SqB K u H1 b ys ∧ R (ItZ K u a b) H1
theorem pi_zp {X : Cx} {e d : Expr} {ta : TA} {p pos tpos : Pos} {elts : List Expr} {kk : Nat} (hg : Gl X "zip") (hm : X.mg "zip" = none) (ha : PA X [e, d] ta)
    (hs : starEach [e, d] X.env = (false, eval e X.env) :: starEach [d] X.env) (hpl : (backTo pos (starEach [d] X.env)).any (·.1) = false) :
    PI X (.Tuple elts kk tpos) (.Call (.Name "zip" p) [e, d] [] pos) (iZp X.K ta) := by
  constructor
  intro pins s σ H R I h
  refine Call_ (ld_blt I hg hm PyProof.Rows.boot_zip (PyProof.Rows.callWith_type1 (thn (ha.run pos pins s σ H _ I h) fun us s1 hu => ?_) hs hpl))
  obtain ⟨vs, H1, I1, r1, a, b, xs, ys, u, rfl, hqx, hqy, q⟩ := hu
  cases r1 with
  | cons r rr =>
    obtain ⟨c, rfl, rc⟩ := vals1 rr
    cases r
    cases rc
    have fp : ∀ c, c ∈ [s1.heap.objs.size + 4, s1.heap.objs.size + 2, s1.heap.objs.size + 3, s1.heap.objs.size, s1.heap.objs.size + 1] → FpOk X pins H1 c := fun c hc => by
      have hle : s1.heap.objs.size ≤ c := by
        rcases five hc with e | e | e | e | e <;> rw [e] <;> first | exact Nat.le_add_right _ _ | exact Nat.le_refl _
      exact I1.fpOk hle (I1.hok.fresh hle)
    obtain ⟨its, rv, p1⟩ := SqB.at I1 hqx
    obtain ⟨jts, rw1, p2⟩ := SqB.at I1 hqy
    have la : a < s1.heap.objs.size := by cases u <;> (obtain ⟨ob, e, _⟩ := p1; exact Heap.lt_size e)
    have lb : b < s1.heap.objs.size := by cases u <;> (obtain ⟨ob, e, _⟩ := p2; exact Heap.lt_size e)
    have D := PySem.W.ktu_apart s1.heap.objs.size a b la lb
    cases u with
    | false => exact call_zip_2 p1 p2 fun h' hz hp ho j1 j2 _ hk => wpAny_pyIter_zip hz ⟨s1.heap.objs.size + 4, _, _, _, H1, rfl, I1.kept (t' := s1.toks) hk, turn_zp false D, ⟨hz, hp, ⟨_, _, ho⟩, j1, j2⟩, fp, q⟩
    | true => exact RZ.call_zipT p1 p2 fun h' hz hp ho j1 j2 _ hk => wpAny_pyIter_zip hz ⟨s1.heap.objs.size + 4, _, _, _, H1, rfl, I1.kept (t' := s1.toks) hk, turn_zp true D, ⟨hz, hp, ⟨_, _, ho⟩, j1, j2⟩, fp, q⟩
end Iv
/-! Sx0: loops over enumerate(x) and zip(x, y) -/
namespace Iv
open PySem PySem.Spec PyProof.Rows L2
theorem enumI_len : ∀ (k : Nat) (xs : List D), (enumI k xs).length = xs.length
  | _, [] => rfl
  | k, x :: r => by rw [enumI, List.length_cons, enumI_len (k + 1) r, List.length_cons]
theorem enumI_at : ∀ (k i : Nat) (xs : List D), (enumI k xs)[i]? = (xs[i]?).map fun x => D.tup [.int ((k + i : Nat) : Int), x]
  | _, _, [] => by simp [enumI]
  | k, 0, x :: r => by simp [enumI]
  | k, i + 1, x :: r => by
    rw [enumI, List.getElem?_cons_succ, List.getElem?_cons_succ, enumI_at (k + 1) i r]
    have : k + 1 + i = k + (i + 1) := by omega
    rw [this]
theorem zipI_len : ∀ (xs ys : List D), (zipI xs ys).length = min xs.length ys.length
  | [], _ => by simp [zipI]
  | _ :: _, [] => by simp [zipI]
  | x :: r, y :: q => by
    rw [zipI, List.length_cons, zipI_len r q, List.length_cons, List.length_cons]; omega
theorem zipI_at : ∀ (i : Nat) (xs ys : List D) (x y : D), xs[i]? = some x → ys[i]? = some y → (zipI xs ys)[i]? = some (.tup [x, y])
  | 0, a :: r, b :: q, x, y, h1, h2 => by
    simp at h1 h2
    simp [zipI, h1, h2]
  | i + 1, a :: r, b :: q, x, y, h1, h2 => by
    rw [List.getElem?_cons_succ] at h1 h2
    rw [zipI, List.getElem?_cons_succ]
    exact zipI_at i r q x y h1 h2
  | _, [], _, x, y, h1, _ => by simp at h1
  | _, _ :: _, [], x, y, _, h2 => by simp at h2
theorem items_en {S : Sto} {ds xs : List D} (h : itemsD S .enum ds = some xs) : ∃ d ys, ds = [d] ∧ seqD S d = some ys ∧ xs = enumI 0 ys := by
  match ds, h with
  | [d], h =>
    have h : (seqD S d).map (enumI 0) = some xs := h
    obtain ⟨ys, e1, e2⟩ := Option.map_eq_some_iff.mp h
    exact ⟨d, ys, rfl, e1, e2.symm⟩
  | [], h => cases h
  | _ :: _ :: _, h => cases h
theorem tupD_some {d : D} {xs : List D} (h : tupD d = some xs) : d = .tup xs := by
  cases d with
  | tup ys => cases h; rfl
  | _ => cases h
theorem items_zp {S : Sto} {ds xs : List D} (h : itemsD S .zip ds = some xs) : ∃ d e as bs, ds = [d, e] ∧ xs = zipI as bs ∧ ((d = .tup as ∧ e = .tup bs) ∨ (lstD S d = some as ∧ lstD S e = some bs)) := by
  match ds, h with
  | [d, e], h =>
    have h : (match tupD d, tupD e with
      | some xs, some ys => some (zipI xs ys)
      | _, _ => match lstD S d, lstD S e with
        | some xs, some ys => some (zipI xs ys)
        | _, _ => none) = some xs := h
    split at h
    · rename_i as bs h1 h2
      cases h
      exact ⟨d, e, as, bs, rfl, rfl, .inl ⟨tupD_some h1, tupD_some h2⟩⟩
    · split at h
      · rename_i as bs h1 h2
        cases h
        exact ⟨d, e, as, bs, rfl, rfl, .inr ⟨h1, h2⟩⟩
      · cases h
  | [], h => cases h
  | [_], h => cases h
  | _ :: _ :: _ :: _, h => cases h
section
variable {K : PySem.W.Frag} {T : Tb} {W0 W1 : Wd} {st : Sto → Bool}
theorem putMono {W : Wd} {p : Addr} {o : HO} (s : SR K T W) (hp : W.H p = none) : Mono W (W.put p o) := (Ext.put (own := fun _ => False) (Ext.refl W) hp).mono s
theorem src_en {u : Bool} {a : Addr} {xs : List D} (I : Wd → Prop) (h0 : I W1) (hI : ∀ W, SR K T W → I W → ∃ vs, SqB K u W.H a vs ∧ RDs K W vs xs) (hP : ∀ (W : Wd) (p : Addr) (o : HO), SR K T W → W.H p = none → I W → I (W.put p o))
    (hM : ∀ (W W' : Wd), SR K T W → SR K T W' → I W → Mono W W' → st W'.S = true → I W') : Src K T W0 (ItE K u a) (enumI 0 xs) st W1 := by
  refine ⟨fun H => ∃ vs, SqB K u H a vs ∧ vs.length = xs.length, fun i H v H' => ∃ (t : Addr) (us : List Value) (x : V), v = .ref t ∧ H t = none ∧ H' = upd H t (.frz (tob us) (.tup [.int (i : Nat), x])) ∧ ∀ vs, SqB K u H a vs → vs[i]? = some x, I, ?_, h0, fun W s i => ?_, fun i W σ ρ v H' hi g q y => ?_, hM⟩
  · rw [enumI_len]
    exact ⟨fun i H hi ⟨vs, q, e⟩ => ⟨vs, vs[i], q, by simp [e, hi]⟩, fun H ⟨vs, q, e⟩ => ⟨vs, q, by omega⟩, fun i H x H' _ _ y => y⟩
  · obtain ⟨vs, q, r⟩ := hI W s i
    exact ⟨vs, q, r.length⟩
  · obtain ⟨t, us, x, rfl, ht, rfl, hx⟩ := y
    obtain ⟨vs, q1, r⟩ := hI W g.sr q
    obtain ⟨d, e1, e2⟩ := r.atV (hx vs q1)
    refine ⟨W.put t (.frz (tob us) (.tup [.int (i : Nat), x])), .tup [.int (i : Int), d], rfl, rfl, g.put ht, Ext.put (Ext.refl W) ht, ?_, newT g ht (.cons (.int _) (.cons e2 .nil)) us, hP W t _ g.sr ht q⟩
    rw [enumI_at, e1]
    simp
theorem src_zp {u : Bool} {a b : Addr} {xs ys : List D} (I : Wd → Prop) (h0 : I W1) (hI : ∀ W, SR K T W → I W → ∃ vs ws, SqB K u W.H a vs ∧ RDs K W vs xs ∧ SqB K u W.H b ws ∧ RDs K W ws ys) (hP : ∀ (W : Wd) (p : Addr) (o : HO), SR K T W → W.H p = none → I W → I (W.put p o))
    (hM : ∀ (W W' : Wd), SR K T W → SR K T W' → I W → Mono W W' → st W'.S = true → I W') : Src K T W0 (ItZ K u a b) (zipI xs ys) st W1 := by
  refine ⟨fun H => ∃ vs ws, SqB K u H a vs ∧ SqB K u H b ws ∧ vs.length = xs.length ∧ ws.length = ys.length, fun i H v H' => ∃ (t : Addr) (us : List Value) (x y : V), v = .ref t ∧ H t = none ∧ H' = upd H t (.frz (tob us) (.tup [x, y])) ∧ (∀ vs, SqB K u H a vs → vs[i]? = some x) ∧ ∀ vs, SqB K u H b vs → vs[i]? = some y, I, ?_, h0, fun W s i => ?_, fun i W σ ρ v H' hi g q y => ?_, hM⟩
  · rw [zipI_len]
    exact ⟨fun i H hi ⟨vs, ws, q1, q2, e1, e2⟩ => ⟨vs, ws, vs[i], ws[i], q1, q2, List.getElem?_eq_getElem _, List.getElem?_eq_getElem _⟩, fun H ⟨vs, ws, q1, q2, e1, e2⟩ => ⟨vs, ws, q1, q2, by omega⟩, fun i H x H' _ _ y => y⟩
  · obtain ⟨vs, ws, q1, r1, q2, r2⟩ := hI W s i
    exact ⟨vs, ws, q1, q2, r1.length, r2.length⟩
  · obtain ⟨t, us, x, y, rfl, ht, rfl, hx, hy⟩ := y
    obtain ⟨vs, ws, q1, r1, q2, r2⟩ := hI W g.sr q
    obtain ⟨d, e1, e2⟩ := r1.atV (hx vs q1)
    obtain ⟨e, f1, f2⟩ := r2.atV (hy ws q2)
    exact ⟨W.put t (.frz (tob us) (.tup [x, y])), .tup [d, e], rfl, rfl, g.put ht, Ext.put (Ext.refl W) ht, zipI_at i xs ys d e e1 f1, newT g ht (.cons e2 (.cons f2 .nil)) us, hP W t _ g.sr ht q⟩
/-- a tuple or a list walked, as it stands -/
theorem keep_tup {a : Addr} {vs : List V} {xs : List D} {W W' : Wd} (q : SqT K W.H a vs ∧ RDs K W vs xs) (m : Mono W W') : SqT K W'.H a vs ∧ RDs K W' vs xs := ⟨m.sqT q.1, q.2.mono m⟩
theorem at_list {v0 : V} {d : D} {xs : List D} {W : Wd} (s : SR K T W) (h : RD K W v0 d) (e : lstD W.S d = some xs) : ∃ a, v0 = .ref a ∧ ∀ W, SR K T W → RD K W (.ref a) d ∧ lstD W.S d = some xs → ∃ vs, SqL K W.H a vs ∧ RDs K W vs xs := by
  obtain ⟨a, vs, rfl, h1, h2⟩ := rd_lst s (.of h) e
  refine ⟨a, rfl, fun W s q => ?_⟩
  obtain ⟨b, ws, e1, e2, e3⟩ := rd_lst s (.of q.1) q.2
  cases e1
  exact ⟨ws, e2, e3⟩
theorem stays_two {S S' : Sto} {d e : D} (h : stays S [d, e] S' = true) : stays S [d] S' = true ∧ stays S [e] S' = true := by
  unfold stays at h ⊢
  simp only [List.all_cons, List.all_nil, Bool.and_true, Bool.and_eq_true] at h ⊢
  exact h
end
section
variable {X : Cx} {T : Tb} {W0 : Wd} {wish : Wish} {P : Pg} {cf cm : Nat → List D → Sto → ResF}
theorem wk_enum {e : E} {x : Expr} {p pos tpos : Pos} {elts : List Expr} {kk : Nat} (hg : Gl X "enumerate") (hm : X.mg "enumerate" = none) (hs : nostar x = true) (h : PE X x (tE T W0 wish P cf cm X.K e)) :
    PI X (.Tuple elts kk tpos) (.Call (.Name "enumerate" p) [x] [] pos) (tW T W0 wish P cf cm X.K .enum [e]) := by
  refine Iv.PI.imp (pi_en hg hm (sn_consD hs h sn_nilD) (by rw [star_ns hs]; rfl)) fun σ H R q => ?_
  obtain ⟨W, ρ, rfl, g, q⟩ := q
  cases m : evEs P cf cm [e] ρ W.S with
  | ok ds ρ1 S1 =>
    rw [m] at q
    obtain ⟨xs, e2, q⟩ := q
    refine ⟨W, ρ, rfl, g, ?_⟩
    rw [m]
    intro vs W1 hS g1 st1 r
    have r : RDs X.K W1 vs ds := r
    obtain ⟨d, ys, rfl, e3, rfl⟩ := items_en e2
    obtain ⟨v, rfl, rv⟩ : ∃ v, vs = [v] ∧ RD X.K W1 v d := by
      cases r with
      | cons r1 r2 => cases r2; exact ⟨_, rfl, r1⟩
    have tup : ∀ zs, d = .tup zs → ∃ a xs u, [v] = [.ref a] ∧ SqB X.K u W1.H a xs ∧ R (ItE X.K u a) W1.H := fun zs hd => by
      subst hd
      cases e3
      obtain ⟨a, ws, rfl, h1, h2⟩ := rd_tup (.of rv)
      exact ⟨a, ws, true, rfl, h1.sq, q W1 _ hS g1 st1 (src_en (u := true) (fun W => SqT X.K W.H a ws ∧ RDs X.K W ws ys) ⟨h1.sq, h2⟩ (fun W _ i => ⟨ws, i⟩) (fun W p o s hp i => keep_tup i (putMono s hp)) (fun W W' _ _ i m _ => keep_tup i m))⟩
    have lst : lstD W1.S d = some ys → ∃ a xs u, [v] = [.ref a] ∧ SqB X.K u W1.H a xs ∧ R (ItE X.K u a) W1.H := fun hl => by
      obtain ⟨a, rfl, hI⟩ := at_list g1.sr rv hl
      obtain ⟨ws, h1, h2⟩ := hI W1 g1.sr ⟨rv, hl⟩
      refine ⟨a, ws, false, rfl, h1, q W1 _ hS g1 st1 (src_en (u := false) (fun W => RD X.K W (.ref a) d ∧ lstD W.S d = some ys) ⟨rv, hl⟩ hI (fun W p o s hp i => ⟨i.1.mono (putMono s hp), i.2⟩) (fun W W' _ _ i m hs => ⟨i.1.mono m, ?_⟩))⟩
      subst hS
      exact seq_stays hl hs
    cases d with
    | tup zs => exact tup zs rfl
    | _ => exact lst (by rw [hS]; exact e3)
  | exc c vs ρ1 S1 =>
    rw [m] at q
    exact ⟨W, ρ, rfl, g, by rw [m]; exact q⟩
  | err => rw [m] at q; exact q.elim
theorem wk_zip {e f : E} {x y : Expr} {p pos tpos : Pos} {elts : List Expr} {kk : Nat} (hg : Gl X "zip") (hm : X.mg "zip" = none) (hs : nostar x = true) (hs' : nostar y = true) (h : PE X x (tE T W0 wish P cf cm X.K e)) (h' : PE X y (tE T W0 wish P cf cm X.K f)) :
    PI X (.Tuple elts kk tpos) (.Call (.Name "zip" p) [x, y] [] pos) (tW T W0 wish P cf cm X.K .zip [e, f]) := by
  refine Iv.PI.imp (pi_zp hg hm (sn_consD hs h (sn_consD hs' h' sn_nilD)) (by rw [star_ns hs]) (by rw [star_ns hs']; rfl)) fun σ H R q => ?_
  obtain ⟨W, ρ, rfl, g, q⟩ := q
  cases m : evEs P cf cm [e, f] ρ W.S with
  | ok ds ρ1 S1 =>
    rw [m] at q
    obtain ⟨xs, e2, q⟩ := q
    refine ⟨W, ρ, rfl, g, ?_⟩
    rw [m]
    intro vs W1 hS g1 st1 r
    have r : RDs X.K W1 vs ds := r
    obtain ⟨d, d', as, bs, rfl, rfl, hc⟩ := items_zp e2
    obtain ⟨v, w, rfl, rv, rw1⟩ : ∃ v w, vs = [v, w] ∧ RD X.K W1 v d ∧ RD X.K W1 w d' := by
      cases r with
      | cons r1 r2 =>
        cases r2 with
        | cons r2 r3 => cases r3; exact ⟨_, _, rfl, r1, r2⟩
    rcases hc with ⟨rfl, rfl⟩ | ⟨h1, h2⟩
    · obtain ⟨a, ws, rfl, p1, p2⟩ := rd_tup (.of rv)
      obtain ⟨b, zs, rfl, q1, q2⟩ := rd_tup (.of rw1)
      exact ⟨a, b, ws, zs, true, rfl, p1.sq, q1.sq, q W1 _ hS g1 st1 (src_zp (u := true) (fun W => (SqT X.K W.H a ws ∧ RDs X.K W ws _) ∧ (SqT X.K W.H b zs ∧ RDs X.K W zs _)) ⟨⟨p1.sq, p2⟩, ⟨q1.sq, q2⟩⟩ (fun W _ i => ⟨ws, zs, i.1.1, i.1.2, i.2.1, i.2.2⟩)
        (fun W p o s hp i => ⟨keep_tup i.1 (putMono s hp), keep_tup i.2 (putMono s hp)⟩) (fun W W' _ _ i m _ => ⟨keep_tup i.1 m, keep_tup i.2 m⟩))⟩
    · · rw [← hS] at h1 h2
        obtain ⟨a, rfl, hI⟩ := at_list g1.sr rv h1
        obtain ⟨b, rfl, hJ⟩ := at_list g1.sr rw1 h2
        obtain ⟨ws, p1, p2⟩ := hI W1 g1.sr ⟨rv, h1⟩
        obtain ⟨zs, q1, q2⟩ := hJ W1 g1.sr ⟨rw1, h2⟩
        refine ⟨a, b, ws, zs, false, rfl, p1, q1, q W1 _ hS g1 st1 (src_zp (u := false) (fun W => (RD X.K W (.ref a) d ∧ lstD W.S d = some as) ∧ (RD X.K W (.ref b) d' ∧ lstD W.S d' = some bs)) ⟨⟨rv, h1⟩, ⟨rw1, h2⟩⟩ (fun W s i => ?_)
          (fun W p o s hp i => ⟨⟨i.1.1.mono (putMono s hp), i.1.2⟩, ⟨i.2.1.mono (putMono s hp), i.2.2⟩⟩) (fun W W' _ _ i m hs => ?_))⟩
        · obtain ⟨ws, p1, p2⟩ := hI W s i.1
          obtain ⟨zs, q1, q2⟩ := hJ W s i.2
          exact ⟨ws, zs, p1, p2, q1, q2⟩
        · obtain ⟨s1, s2⟩ := stays_two hs
          rw [← hS] at s1 s2
          exact ⟨⟨i.1.1.mono m, seq_stays h1 s1⟩, ⟨i.2.1.mono m, seq_stays h2 s2⟩⟩
  | exc c vs ρ1 S1 =>
    rw [m] at q
    exact ⟨W, ρ, rfl, g, by rw [m]; exact q⟩
  | err => rw [m] at q; exact q.elim
end
end Iv
/-! Sx1: list(range(n)); three names stored at once; x.insert, x.reverse of a slot's own list; x.pop(i) of a box -/
namespace Iv
open PySem PySem.Spec PyProof.Rows L2
section
variable {X : Cx} {T : Tb} {W0 : Wd} {wish : Wish} {P : Pg} {cf cm : Nat → List D → Sto → ResF}
theorem rds_range {W : Wd} (n : Nat) : RDs X.K W (rgV 0 n) ((List.range n).map fun k : Nat => D.int (k : Int)) := by
  unfold rgV
  rw [show (((n : Int) - 0).toNat) = n from by omega]
  have gen : ∀ l : List Nat, RDs X.K W (l.map fun i : Nat => V.int (0 + (i : Int))) (l.map fun k : Nat => D.int (k : Int)) := fun l => by
    induction l with
    | nil => exact .nil
    | cons a r ih =>
      refine .cons ?_ ih
      show RD X.K W (.int (0 + (a : Int))) (.int (a : Int))
      rw [Int.zero_add]
      exact .int _
  exact gen _
theorem rangeL_inv {S : Sto} {d : D} {res : R} (h : p_rangeL S [d] = some res) : ∃ i : Int, d = .int i ∧ -(2 ^ 62) ≤ i ∧ i ≤ 16777216 ∧ res = .ol ((List.range i.toNat).map fun (k : Nat) => .int (k : Int)) := by
  cases d with
  | int i =>
    have h : (if -(2 ^ 62) ≤ i ∧ i ≤ 16777216 then some (R.ol ((List.range i.toNat).map fun (k : Nat) => D.int (k : Int))) else none) = some res := h
    split at h
    · rename_i hb
      cases h
      exact ⟨i, rfl, hb.1, hb.2, rfl⟩
    · cases h
  | _ => cases h
theorem ins_inv {S : Sto} {xs ys : List D} {d e : D} (h : mutL S .insert xs [d, e] = some ys) : ∃ i : Int, d = .int i ∧ xs.length < sizeLine ∧ 0 ≤ i ∧ i < 2 ^ 62 ∧ ys = xs.take i.toNat ++ e :: xs.drop i.toNat := by
  cases d with
  | int i =>
    have h : (if xs.length < sizeLine ∧ 0 ≤ i ∧ i < 2 ^ 62 then some (xs.take i.toNat ++ e :: xs.drop i.toNat) else none) = some ys := h
    split at h
    · rename_i hb
      cases h
      exact ⟨i, rfl, hb.1, hb.2.1, hb.2.2, rfl⟩
    · cases h
  | _ => cases h
theorem sn_rangeL {e : E} {x : Expr} {p p2 pos pos2 : Pos} (hc : X.calm = true) (hg : Gl X "list") (hm : X.mg "list" = none) (hg2 : Gl X "range") (hm2 : X.mg "range" = none) (he : PE X x (tO T W0 wish P cf cm X.K e)) (hs : nostar x = true) :
    PE X (.Call (.Name "list" p) [.Call (.Name "range" p2) [x] [] pos2] [] pos) (tE T W0 wish P cf cm X.K (.prim .rangeL [e])) := by
  refine Iv.PE.imp (pe_listRg hc hg hm (prg_1 hg2 hm2 he (star_ns hs)) (by rfl)) fun σ H Q q => ?_
  obtain ⟨W, ρ, rfl, g, q⟩ := q
  simp only [evE, evPs] at q
  rw [Res.bind_assoc] at q
  refine tG.step g q fun x W1 ρ1 dx g1 st1 rx q => ?_
  have q : Dm X.K T W0 wish (.of (primD W1.S .rangeL [dx]) ρ1 W1.S) W1 σ ρ1 (rV X.K T W0 σ) Q := q
  obtain ⟨res, e, q⟩ := q.of
  have e : p_rangeL W1.S [dx] = some res := e
  obtain ⟨i, rfl, b1, b2, rfl⟩ := rangeL_inv e
  refine ⟨i, rd_int rx, ⟨by omega, by omega, by omega, by omega, by omega⟩, ?_⟩
  have hv : rgV 0 i = rgV 0 (i.toNat : Int) := by unfold rgV; congr 2; omega
  rw [hv]
  exact Nxt.l q g1 (rds_range i.toNat)
theorem st_par3 {i j l : Nat} {e1 e2 e3 : E} {y z w : Str} {x1 x2 x3 : Expr} {k k2 : Nat} {p p1 p2 p3 p4 p5 : Pos} (hc : X.calm = true) (hN : X.N.Nodup) (hi : X.N[i]? = some y) (hj : X.N[j]? = some z) (hl : X.N[l]? = some w) (hij : i ≠ j) (hil : i ≠ l) (hjl : j ≠ l)
    (hy : X.env.scope.names.lookup y = some .local) (hz : X.env.scope.names.lookup z = some .local) (hw : X.env.scope.names.lookup w = some .local) (h1 : nostar x1 = true) (h2 : nostar x2 = true) (h3 : nostar x3 = true)
    (hsw : swappedStores [.Tuple [.Name y p1, .Name z p2, .Name w p5] k p3] (.Tuple [x1, x2, x3] k2 p4) X.env = pure (some [y, z, w])) (ha : PE X x1 (tE T W0 wish P cf cm X.K e1)) (hb : PE X x2 (tE T W0 wish P cf cm X.K e2)) (hd : PE X x3 (tE T W0 wish P cf cm X.K e3)) :
    PS X (.Assign [.Tuple [.Name y p1, .Name z p2, .Name w p5] k p3] (.Tuple [x1, x2, x3] k2 p4) p) (tS X.K T W0 wish (evS P cf cm (.asg (.tp [.nm i, .nm j, .nm l]) (.tup [e1, e2, e3])))) := by
  refine Iv.PS.imp (ps_par3 hc hN hi hj hl hij hil hjl hy hz hw (sn_consD h1 ha (sn_consD h2 hb (sn_consD h3 hd sn_nilD))) hsw (by rfl)) fun D σ H q => ?_
  obtain ⟨W, ρ, rfl, g, q⟩ := q
  have e0 : evS P cf cm (.asg (.tp [.nm i, .nm j, .nm l]) (.tup [e1, e2, e3])) ρ W.S = (evEs P cf cm [e1, e2, e3] ρ W.S).bind fun ds ρ S => match (if ds.length ≤ sizeLine then bindT (.tp [.nm i, .nm j, .nm l]) (.tup ds) ρ else none) with
      | some ρ' => .ok .next ρ' S
      | none => .err := by
    simp only [evS, evE]
    rw [Res.bind_assoc]
    congr 1
    funext ds ρ S
    by_cases hl : ds.length ≤ sizeLine
    · rw [if_pos hl, if_pos hl]; rfl
    · rw [if_neg hl, if_neg hl]; rfl
  rw [e0] at q
  refine tG.stm g q fun vs W1 ρ1 ds g1 st1 rd q => ?_
  have rd : RDs X.K W1 vs ds := rd
  split at q
  · rename_i ρ' hb
    split at hb
    · simp only [bindT] at hb
      cases rd with
      | nil => simp only [bindTs] at hb; cases hb
      | cons r1 t =>
        cases t with
        | nil => simp [bindTs] at hb
        | cons r2 t =>
          cases t with
          | nil => simp [bindTs] at hb
          | cons r3 t =>
            cases t with
            | cons r4 t => simp [bindTs] at hb
            | nil =>
              simp only [bindTs, bindT, Option.bind_eq_some_iff] at hb
              obtain ⟨ρ2, hb1, ρ3, hb2, ρ4, hb3, hb4⟩ := hb
              cases hb4
              split at hb1
              · cases hb1
                split at hb2
                · cases hb2
                  split at hb3
                  · cases hb3
                    have ga := g1.setD r1 (by assumption : i < ρ1.length)
                    have gb := ga.setD r2 (by assumption)
                    exact ⟨_, _, _, rfl, q _ W1 rfl (gb.setD r3 (by assumption)) (Mono.refl W1)⟩
                  · cases hb3
                · cases hb2
              · cases hb1
    · cases hb
  · exact q.elim
/-! ### a slot's own list -/
theorem ins_ok {W : Wd} {a : Addr} {vs ws : List V} {xs ds ys : List D} {Q : VK} (h : mutL W.S .insert xs ds = some ys) (h1 : W.H a = some (.lst vs)) (h2 : RDs X.K W vs xs) (h3 : RDs X.K W ws ds) (q : ∀ (u : V) zs, RDs X.K W zs ys → Q u (upd W.H a (.lst zs))) :
    ∃ (l : Addr) (xs : List V) (i : Int) (y : V), (V.ref a) = .ref l ∧ ws = [.int i, y] ∧ W.H l = some (.lst xs) ∧ xs.length < sizeLine ∧ 0 ≤ i ∧ i < 2 ^ 63 ∧ Q .non (upd W.H l (.lst (xs.take i.toNat ++ [y] ++ xs.drop i.toNat))) := by
  cases h3 with
  | nil => simp [mutL] at h
  | cons r t =>
    cases t with
    | nil => simp [mutL] at h
    | cons r2 t =>
      cases t with
      | cons r3 t => simp [mutL] at h
      | nil =>
        obtain ⟨i, rfl, b1, b2, b3, rfl⟩ := ins_inv h
        refine ⟨a, vs, i, _, rfl, by rw [rd_int (.of r)], h1, by rw [h2.length]; exact b1, b2, by omega, q _ _ ?_⟩
        have := ((h2.take i.toNat).append (.one r2)).append (h2.drop i.toNat)
        refine Eq.mp (congrArg (RDs X.K W _) ?_) this
        simp
end
end Iv
/-! Sx2: sorted(x), min(x) of data -/
namespace Iv
open PySem PySem.Spec PyProof.Rows L2
abbrev kvLe {α : Type} : PyData × α → PyData × α → Bool := W.dataLe false (fun p : PyData × α => p.1)
section
variable {X : Cx} {T : Tb} {W0 : Wd}
/-- a sorted list of data -/
def rSortA (K : PySem.W.Frag) : List V → Hp → VK → Prop := fun xs H Q => ∃ (a : Addr) (vs : List V) (ps : List PyData), xs = [.ref a] ∧ SqL K H a vs ∧ DpAll K H vs ps ∧ W.AllAlike ps ∧ W.Sortable ps ∧ (∀ p ∈ ps, p.depth ≤ 64) ∧
  ∀ q, H q = none → Q (.ref q) (upd H q (.lst (((ps.zip vs).mergeSort kvLe).map (·.2))))
theorem dpAll_len {K : PySem.W.Frag} {H : Hp} : ∀ {vs : List V} {ps : List PyData}, DpAll K H vs ps → vs.length = ps.length
  | _, _, .nil => rfl
  | _, _, .cons _ t => by rw [List.length_cons, List.length_cons, dpAll_len t]
theorem each_vals : ∀ {vs : List V} {us : List Value} {ps : List PyData}, Vals vs us → ps.length = vs.length → W.EachIs (fun u (b : PyData × V) => RelV b.2 u) us (ps.zip vs)
  | _, _, [], .nil, _ => .nil
  | _, _, p :: ps, .cons r t, h => .cons r (each_vals t (by simpa using h))
  | _, _, _ :: _, .nil, h => by simp at h
  | _, _, [], .cons _ _, h => by simp at h
theorem each_reads {h : Heap} : ∀ {us : List Value} {ps : List PyData} {as : List Addr} {vs : List V}, ReadsAll h us ps as → ps.length = vs.length → W.EachIs (fun u (b : PyData × V) => ∃ as, Reads h u b.1 as) us (ps.zip vs)
  | _, _, _, [], .nil, _ => .nil
  | _, _, _, v :: vs, .cons r t, h => .cons ⟨_, r⟩ (each_reads t (by simpa using h))
  | _, _, _, _ :: _, .nil, h => by simp at h
  | _, _, _, [], .cons _ _, h => by simp at h
theorem vals_each : ∀ {us : List Value} {bs : List (PyData × V)}, W.EachIs (fun u (b : PyData × V) => RelV b.2 u) us bs → Vals (bs.map (·.2)) us
  | _, _, .nil => .nil
  | _, _, .cons r t => .cons r (vals_each t)
theorem call_sortA (hu : X.A.units + 67 < cLine) : CallR X (.builtin "sorted") (rSortA X.K) := by
  intro pins s σ H xs us Q I r h
  obtain ⟨a, vs, ps, rfl, hq, hd, h1, h2, h3, q⟩ := h
  obtain ⟨its, rv, pl, hz⟩ := I.list hq
  rw [Vals.ref1 r]
  have hl : ps.length = vs.length := (dpAll_len hd).symm
  obtain ⟨as, ra⟩ := Dp.readsAll I ps vs its hd rv
  have e1 : (ps.zip vs).map (fun b : PyData × V => b.1) = ps := by rw [List.map_fst_zip]; omega
  refine W.sorted_data (R := fun u (b : PyData × V) => RelV b.2 u) (enc := fun b : PyData × V => b.1) (bs := ps.zip vs) (s := s) pl.isList (each_vals rv hl) (each_reads ra hl) (by rw [e1]; exact h1) (by rw [e1]; exact h2) (by rw [List.length_zip, hl]; omega)
    (fun b hb => by have := h3 b.1 (List.of_mem_zip hb).1; omega) fun out ho he => ?_
  obtain ⟨ep, he'⟩ := PyProof.Rows.sortedAll_at s.heap its out.toArray
  have hlen : (((ps.zip vs).mergeSort kvLe).map (·.2)).length ≤ sizeLine := by
    rw [List.length_map, List.length_mergeSort, List.length_zip, hl]; omega
  exact ⟨.ref _, upd H (s.heap.objs.size + 1) (.lst (((ps.zip vs).mergeSort kvLe).map (·.2))), I.laid (t' := s.toks) (fun _ _ => PyProof.Rows.sortedAll_old) (Nat.le_succ _) ⟨hlen, out, ep, vals_each he, he'⟩, rfl, q _ (I.hok.fresh (Nat.le_succ _))⟩
theorem rds_zip {W : Wd} : ∀ {vs : List V} {ds : List D}, RDs X.K W vs ds → ∀ t ∈ vs.zip ds, RD X.K W t.1 t.2
  | _, _, .nil, t, h => by simp at h
  | _, _, .cons r q, t, h => by
    rcases List.mem_cons.mp h with rfl | h
    · exact r
    · exact rds_zip q t h
theorem rds_of {α : Type} {W : Wd} (f : α → V) (g : α → D) : ∀ l : List α, (∀ a ∈ l, RD X.K W (f a) (g a)) → RDs X.K W (l.map f) (l.map g)
  | [], _ => .nil
  | a :: l, h => .cons (h a (by simp)) (rds_of f g l fun b hb => h b (by simp [hb]))
theorem zip_map3 {α β γ : Type} : ∀ (ps : List α) (vs : List β) (ds : List γ), vs.length = ds.length → (ps.zip (vs.zip ds)).map (fun t => (t.1, t.2.1)) = ps.zip vs ∧ (ps.zip (vs.zip ds)).map (fun t => (t.1, t.2.2)) = ps.zip ds
  | [], _, _, _ => by simp
  | _ :: _, [], [], _ => by simp
  | _ :: _, [], _ :: _, h => by simp at h
  | _ :: _, _ :: _, [], h => by simp at h
  | p :: ps, v :: vs, d :: ds, h => by
    obtain ⟨h1, h2⟩ := zip_map3 ps vs ds (by simpa using h)
    simp [h1, h2]
theorem rds_sort {W : Wd} {vs : List V} {ds : List D} (ps : List PyData) (r : RDs X.K W vs ds) : RDs X.K W (((ps.zip vs).mergeSort kvLe).map (·.2)) (sortBy (ps.zip ds)) := by
  obtain ⟨e1, e2⟩ := zip_map3 ps vs ds r.length
  have s1 : (ps.zip vs).mergeSort kvLe = ((ps.zip (vs.zip ds)).mergeSort kvLe).map fun t => (t.1, t.2.1) := by
    rw [← e1]
    exact (List.map_mergeSort (f := fun t : PyData × V × D => (t.1, t.2.1)) (r := kvLe) (s := kvLe) (fun a _ b _ => rfl)).symm
  have s2 : (ps.zip ds).mergeSort kvLe = ((ps.zip (vs.zip ds)).mergeSort kvLe).map fun t => (t.1, t.2.2) := by
    rw [← e2]
    exact (List.map_mergeSort (f := fun t : PyData × V × D => (t.1, t.2.2)) (r := kvLe) (s := kvLe) (fun a _ b _ => rfl)).symm
  show RDs X.K W _ (((ps.zip ds).mergeSort kvLe).map (·.2))
  rw [s1, s2, List.map_map, List.map_map]
  refine rds_of _ _ _ fun t ht => ?_
  have hm := List.mem_mergeSort.mp ht
  exact rds_zip r _ (List.of_mem_zip hm).2
theorem sortable_ok {ps : List PyData} (h : sortable ps = true) : W.AllAlike ps ∧ W.Sortable ps ∧ ∀ p ∈ ps, p.depth ≤ 64 := by
  unfold sortable at h
  simp only [Bool.and_eq_true, Bool.or_eq_true, List.all_eq_true, decide_eq_true_eq] at h
  obtain ⟨⟨h1, h2⟩, h3⟩ := h
  refine ⟨fun d hd d' hd' => h1 d hd d' hd', ?_, h3⟩
  rcases h2 with h2 | h2
  · left
    intro d hd
    have := h2 d hd
    split at this
    · exact ⟨_, _, rfl⟩
    · cases this
  · right
    intro d hd
    have := h2 d hd
    split at this
    · cases this
    · cases this
    · rename_i h4 h5
      exact ⟨h4, fun xs e => h5 xs e⟩
theorem ok_sorted : PrimOk X.K T W0 .sorted (rSortA X.K) := by
  intro W σ ρ vs ds res Q g e r n
  change p_sorted W.S _ = _ at e
  unfold p_sorted at e
  split at e
  · simp only [Option.bind_eq_some_iff, Option.map_eq_some_iff] at e
    obtain ⟨ys, e1, zs, e2, rfl⟩ := e
    obtain ⟨v, rfl, h⟩ := qs1 r
    obtain ⟨a, ws, rfl, h1, t⟩ := rd_lst g.sr h e1
    unfold sortD at e2
    split at e2
    · rename_i ps hp
      split at e2
      · rename_i hc
        cases e2
        obtain ⟨c1, c2, c3⟩ := sortable_ok hc.1
        exact ⟨a, ws, ps, rfl, h1, rd_pys g.sr t hp hc.2.2, c1, c2, c3, Nxt.l n g (rds_sort ps t)⟩
      · cases e2
    · cases e2
  · cases e
/-! ### min -/
def rMinA (K : PySem.W.Frag) : List V → Hp → VK → Prop := fun xs H Q => ∃ (a : Addr) (vs : List V) (p : PyData) (ps : List PyData), xs = [.ref a] ∧ SqL K H a vs ∧ DpAll K H vs (p :: ps) ∧ W.AlikeAll (p :: ps) ∧ PyData.depthAll (p :: ps) ≤ 64 ∧
  ∀ (i : Nat) (v : V), vs[i]? = some v → (p :: ps)[i]? = some (W.minD p ps) → Q v H
theorem readsAll_get {h : Heap} : ∀ {us : List Value} {ps : List PyData} {as : List Addr}, ReadsAll h us ps as → ∀ (i : Nat) (u : Value), us[i]? = some u → ∃ p as, ps[i]? = some p ∧ Reads h u p as
  | _, _, _, .nil, i, u, hu => by simp at hu
  | _, _, _, .cons r t, 0, u, hu => by
    simp only [List.getElem?_cons_zero, Option.some.injEq] at hu
    subst hu
    exact ⟨_, _, rfl, r⟩
  | _, _, _, .cons r t, i + 1, u, hu => by
    rw [List.getElem?_cons_succ] at hu
    obtain ⟨p, as, h1, h2⟩ := readsAll_get t i u hu
    exact ⟨p, as, by rw [List.getElem?_cons_succ]; exact h1, h2⟩
theorem call_minA (hc : X.calm = true) (hu : X.A.units + 67 < cLine) : CallR X (.builtin "min") (rMinA X.K) := by
  intro pins s σ H xs us Q I r h
  obtain ⟨a, vs, p, ps, rfl, hq, hd, h1, h2, q⟩ := h
  obtain ⟨its, rv, pl, hz⟩ := I.list hq
  rw [Vals.ref1 r]
  obtain ⟨as, ra⟩ := Dp.readsAll I (p :: ps) vs its hd rv
  refine W.min_list_data (I.ok.hd hc) pl.isList (by simpa using ra) h1 (by omega) fun i u h' tk bs hi hr hk => ?_
  have hi : its[i]? = some u := by simpa using hi
  obtain ⟨d, ds, g1, g2⟩ := readsAll_get ra i u hi
  have e := (reads_det (fun b o hb _ => hk b o hb) g2 hr).1
  obtain ⟨v, hv, rvu⟩ : ∃ v, vs[i]? = some v ∧ RelV v u := by
    have gen : ∀ {vs : List V} {us : List Value}, Vals vs us → ∀ (i : Nat) (u : Value), us[i]? = some u → ∃ v, vs[i]? = some v ∧ RelV v u := by
      intro vs us hh
      induction hh with
      | nil => intro i u hu; simp at hu
      | cons r t ih =>
        intro i u hu
        cases i with
        | zero => simp only [List.getElem?_cons_zero, Option.some.injEq] at hu; subst hu; exact ⟨_, rfl, r⟩
        | succ i => rw [List.getElem?_cons_succ] at hu; obtain ⟨v, a1, a2⟩ := ih i u hu; exact ⟨v, by rw [List.getElem?_cons_succ]; exact a1, a2⟩
    exact gen rv i u hi
  exact ⟨v, H, I.kept (t' := tk) hk, rvu, q i v hv (by rw [g1, e])⟩
theorem foldl_least (P : PyData) (t : PyData → Prop) (hlt : ∀ y, t y → y ≠ P → W.dataLt P y = true) (hge : ∀ y, t y → W.dataLt y P = false) : ∀ (ys : List PyData) (a : PyData), (∀ y ∈ ys, t y) → t a → (a = P ∨ P ∈ ys) → ys.foldl (fun a y => if W.dataLt y a then y else a) a = P
  | [], a, _, _, h => by
    rcases h with h | h
    · exact h
    · simp at h
  | y :: ys, a, hy, ha, h => by
    rw [List.foldl_cons]
    have hy' := hy y (by simp)
    refine foldl_least P t hlt hge ys _ (fun z hz => hy z (by simp [hz])) (by split <;> assumption) ?_
    by_cases e : a = P
    · subst e
      left
      rw [if_neg]
      rw [hge y hy']; simp
    · rcases h with h | h
      · exact absurd h e
      · rcases List.mem_cons.mp h with h | h
        · left
          subst h
          rw [if_pos (hlt a ha e)]
        · exact .inr h
theorem pys_zip {S : Sto} : ∀ {ys : List D} {ps : List PyData}, pysD S ys = some ps → ∀ t ∈ ps.zip ys, pyD S t.2 = some t.1 := by
  intro ys
  induction ys with
  | nil => intro ps h t ht; simp at ht
  | cons y ys ih =>
    intro ps h t ht
    unfold pysD at h
    simp only [D.pys] at h
    split at h
    · rename_i q qs e1 e2
      cases h
      rcases List.mem_cons.mp (by simpa using ht) with rfl | ht
      · exact e1
      · exact ih e2 t ht
    · cases h
theorem pys_len {S : Sto} : ∀ {ys : List D} {ps : List PyData}, pysD S ys = some ps → ps.length = ys.length := by
  intro ys
  induction ys with
  | nil => intro ps h; unfold pysD at h; simp only [D.pys, Option.some.injEq] at h; subst h; rfl
  | cons y ys ih =>
    intro ps h
    unfold pysD at h
    simp only [D.pys] at h
    split at h
    · rename_i q qs e1 e2
      cases h
      rw [List.length_cons, List.length_cons, ih e2]
    · cases h
theorem minV_ok {S : Sto} {ys : List D} {d : D} (hm : minV S ys = some d) : ∃ p ps, pysD S ys = some (p :: ps) ∧ W.AlikeAll (p :: ps) ∧ PyData.hasDictAll (p :: ps) = false ∧ PyData.depthAll (p :: ps) ≤ 64 ∧ ∀ (i : Nat) (y : D), ys[i]? = some y → (p :: ps)[i]? = some (W.minD p ps) → y = d := by
  unfold minV at hm
  split at hm
  · rename_i ps hp
    split at hm
    · rename_i hc
      obtain ⟨c1, c2, c3, c4⟩ := hc
      split at hm
      · rename_i pq hf
        cases hm
        have hall := List.find?_some hf
        have hin := List.mem_of_find?_eq_some hf
        rw [List.all_eq_true] at hall
        cases ps with
        | nil => simp at hin
        | cons p ps =>
          simp only [List.all_eq_true] at c1 c2
          have hz := pys_zip hp
          have hl := pys_len hp
          have at_ : ∀ y ∈ p :: ps, ∃ z, (y, z) ∈ (p :: ps).zip ys := fun y hy => by
            obtain ⟨i, hi, rfl⟩ := List.getElem_of_mem hy
            have hi2 : i < ys.length := by omega
            refine ⟨ys[i], ?_⟩
            have : ((p :: ps).zip ys)[i]? = some ((p :: ps)[i], ys[i]) := by
              rw [List.getElem?_eq_getElem (by rw [List.length_zip]; omega), List.getElem_zip]
            exact List.mem_of_getElem? this
          have h0 : W.dataLt pq.1 pq.1 = false := by
            have := hall pq hin
            simp only [Bool.and_eq_true, Bool.not_eq_true'] at this
            exact this.2
          have same : ∀ y z, (y, z) ∈ (p :: ps).zip ys → D.eqB z pq.2 = true → y = pq.1 := fun y z hy e => by
            have e1 := hz _ hy
            have e2 := hz _ hin
            have e : z = pq.2 := D.eqB_ok e
            rw [e] at e1
            exact Option.some.inj (e1.symm.trans e2)
          have key : W.minD p ps = pq.1 := by
            refine foldl_least pq.1 (fun y => y ∈ p :: ps) (fun y hy hne => ?_) (fun y hy => ?_) ps p (fun y hy => by simp [hy]) (by simp) ?_
            · obtain ⟨z, hyz⟩ := at_ y hy
              have := hall _ hyz
              simp only [Bool.and_eq_true, Bool.or_eq_true, Bool.not_eq_true'] at this
              rcases this.1 with e | e
              · exact absurd (same y z hyz e) hne
              · exact e
            · obtain ⟨z, hyz⟩ := at_ y hy
              have := hall _ hyz
              simp only [Bool.and_eq_true, Bool.or_eq_true, Bool.not_eq_true'] at this
              exact this.2
            · have := (List.of_mem_zip hin).1
              rcases List.mem_cons.mp this with e | e
              · exact .inl e.symm
              · exact .inr e
          refine ⟨p, ps, hp, ⟨c1, fun x hx => by have := c2 x hx; intro z; subst z; simp [isNone] at this⟩, c3, c4, fun i y hy hi => ?_⟩
          rw [key] at hi
          have hm : (pq.1, y) ∈ (p :: ps).zip ys := by
            have : ((p :: ps).zip ys)[i]? = some (pq.1, y) := by
              obtain ⟨l1, q1⟩ := List.getElem?_eq_some_iff.mp hi
              obtain ⟨l2, q2⟩ := List.getElem?_eq_some_iff.mp hy
              rw [List.getElem?_eq_getElem (by rw [List.length_zip]; omega), List.getElem_zip, q1, q2]
            exact List.mem_of_getElem? this
          have := hall _ hm
          simp only [Bool.and_eq_true, Bool.or_eq_true, Bool.not_eq_true'] at this
          rcases this.1 with e | e
          · exact D.eqB_ok e
          · rw [h0] at e; cases e
      · cases hm
    · cases hm
  · cases hm
theorem ok_min1A : PrimOk X.K T W0 .min1 (fun xs H Q => rMin X.K xs H Q ∨ rMinA X.K xs H Q) := by
  intro W σ ρ vs ds res Q g e r n
  change p_min1 W.S _ = _ at e
  unfold p_min1 at e
  split at e
  · simp only [Option.bind_eq_some_iff] at e
    obtain ⟨ys, e1, e2⟩ := e
    obtain ⟨v, rfl, h⟩ := qs1 r
    obtain ⟨a, ws, rfl, h1, t⟩ := rd_lst g.sr h e1
    split at e2
    · rename_i ns e2'
      obtain ⟨m, e3, rfl⟩ := Option.map_eq_some_iff.mp e2
      obtain ⟨h3, h4⟩ := List.min?_eq_some_iff.mp e3
      refine .inl ⟨a, ns, rfl, by rw [← rd_intsOf t e2']; exact h1, List.length_pos_of_mem h3, fun k hk h5 => ?_⟩
      have : k = m := Int.le_antisymm (h5 m h3) (h4 k hk)
      rw [this]
      exact n.v g (.int _)
    · obtain ⟨d, e3, rfl⟩ := Option.map_eq_some_iff.mp e2
      obtain ⟨p, ps, hp, a1, a2, a3, a4⟩ := minV_ok e3
      refine .inr ⟨a, ws, p, ps, rfl, h1, rd_pys g.sr t hp a2, a1, a3, fun i v hv hi => ?_⟩
      obtain ⟨d', e4, e5⟩ := t.atV hv
      have := a4 i d' e4 hi
      subst this
      exact n.v g e5
  · cases e
end
end Iv
/-! Sx3: x.insert(i, y), x.reverse() of a slot's own list; x.pop(i) of a box -/
namespace Iv
open PySem PySem.Spec PyProof.Rows L2
section
variable {X : Cx} {T : Tb} {W0 : Wd} {wish : Wish} {P : Pg} {cf cm : Nat → List D → Sto → ResF}
theorem st_insert {i : Nat} {e1 e2 : E} {y : Str} {xa xb : Expr} {py ap pos p : Pos} (hy : PE X (.Name y py) (tVar i)) (hs : nostar xa = true) (hs2 : nostar xb = true) (hline : (ap.endLine == pos.line) = true) (h : PE X xa (tE T W0 wish P cf cm X.K e1)) (h2 : PE X xb (tE T W0 wish P cf cm X.K e2)) :
    PS X (.Expr (.Call (.Attribute (.Name y py) "insert" ap) [xa, xb] [] pos) p) (tS X.K T W0 wish (evS P cf cm (.mutO i .insert [e1, e2]))) :=
  st_mutD PySem.F.slot_list_insert PySem.F.type_list_insert mt_insert rfl (fun h h1 h2 h3 q => ins_ok h h1 h2 h3 q) hy (by simp [hs, hs2]) (by simp) hline (sn_consD hs h (sn_consD hs2 h2 sn_nilD))
theorem st_reverse {i : Nat} {y : Str} {py ap pos p : Pos} (hy : PE X (.Name y py) (tVar i)) (hline : (ap.endLine == pos.line) = true) :
    PS X (.Expr (.Call (.Attribute (.Name y py) "reverse" ap) [] [] pos) p) (tS X.K T W0 wish (evS P cf cm (.mutO i .reverse []))) := by
  refine Iv.PS.imp (ps_expr (pe_bm0 PySem.F.plainAttrs_list PySem.F.slot_list_reverse PySem.F.type_list_reverse mt_reverse hy rfl hline) rfl) fun D σ H q => ?_
  obtain ⟨W, ρ, rfl, g, q⟩ := q
  by_cases ho : ownAt ρ i = true
  · obtain ⟨a, vs0, e1, e2⟩ := own_addr g ho
    obtain ⟨xs', hs1⟩ := own_at ho
    obtain ⟨b, vs, e3, h1, h2, h3, h4, h5⟩ := g.er.ok i _ hs1
    rw [e1] at e3
    cases e3
    refine ⟨.ref a, e1, .inl ⟨rfl, vs0, .inl (.inl e2)⟩, a, vs, rfl, rfl, h1, ?_⟩
    obtain ⟨gp, mp⟩ := g.putSlot hs1 e1 h2.rev
    have e0 : evS P cf cm (.mutO i .reverse []) ρ W.S = .ok .next (ρ.set i (.ol xs'.reverse)) W.S := by
      simp [evS, ho, peeks, evPs, Res.bind, hs1, mutL]
    rw [e0] at q
    exact q σ (W.put a (.lst vs.reverse)) rfl gp mp
  · have e0 : evS P cf cm (.mutO i .reverse []) ρ W.S = .err := by simp [evS, ho]
    rw [e0] at q
    exact q.elim
theorem extC {W : Wd} {id : Nat} {o : HO} {c : Cell} {own : Addr → Prop} (h : id < W.S.length) : Ext W (W.setC id o c) own := by
  refine ⟨fun a f => f, fun a f => .inl f, fun a u ha nb => ?_, fun a ha => ?_, by rw [setC_len]; exact Nat.le_refl _, fun _ _ => rfl, fun j h1 h2 => by rw [setC_len] at h2; omega⟩
  · show upd W.H (W.ι id) o a = some u
    have : a ≠ W.ι id := fun e => nb ⟨id, h, e.symm⟩
    rw [upd_ne this]; exact ha
  · show upd W.H (W.ι id) o a ≠ none
    by_cases e : a = W.ι id
    · rw [e, upd_same]; exact fun z => nomatch z
    · rw [upd_ne e]; exact ha
theorem rds_erase {W : Wd} : ∀ (k : Nat) {vs : List V} {ds : List D}, RDs X.K W vs ds → RDs X.K W (vs.eraseIdx k) (ds.eraseIdx k)
  | _, _, _, .nil => .nil
  | 0, _, _, .cons _ t => t
  | k + 1, _, _, .cons r t => .cons r (rds_erase k t)
theorem box_ref {W : Wd} {x : V} {id : Nat} (h : RQ X.K W x (.ref id)) : x = .ref (W.ι id) := by
  rcases h with h | ⟨a, _, ds, _, e, _⟩ | ⟨a, _, kds, _, e, _⟩
  · cases h; rfl
  · cases e
  · cases e
theorem isBoxL_ok {S : Sto} {x : D} (h : isBoxL S x = true) : ∃ id xs, x = .ref id ∧ cellAt S id = some (.lst xs) := by
  unfold isBoxL at h
  split at h
  · split at h
    · exact ⟨_, _, rfl, by assumption⟩
    · cases h
  · cases h
theorem popR_ok {W : Wd} {σ : L2.St} {ρ ρ' : Env} {id : Nat} {ds : List D} {Q : VK} {RA : Rl X.K T σ V R} (q : Dm X.K T W0 wish (popR (.ref id) ds ρ' W.S) W σ ρ RA Q) :
    ∃ xs k y i, cellAt W.S id = some (.lst xs) ∧ ds = [.int i] ∧ (-(2 ^ 62) ≤ i ∧ i < 2 ^ 62) ∧ L2.ixN xs.length i = some k ∧ xs[k]? = some y ∧ Dm X.K T W0 wish (.ok (.v y) ρ' (setCell W.S id (.lst (xs.eraseIdx k)))) W σ ρ RA Q := by
  unfold popR at q
  dsimp only at q
  split at q
  · rename_i xs hc
    split at q
    · rename_i i
      unfold popA at q
      split at q
      · rename_i hb
        split at q
        · rename_i k hk
          split at q
          · rename_i y hy
            exact ⟨xs, k, y, i, hc, rfl, hb, hk, hy, q⟩
          · exact q.elim
        · exact q.elim
      · exact q.elim
    · exact q.elim
  · exact q.elim
theorem sn_pop1 {o i : E} {xo xi : Expr} {ap pos : Pos} (ho : PE X xo (tO T W0 wish P cf cm X.K o)) (hi : PE X xi (tO T W0 wish P cf cm X.K i)) (hs : nostar xi = true) (hbase : plainBase xo = true) (hline : (ap.endLine == pos.line) = true) :
    PE X (.Call (.Attribute xo "pop" ap) [xi] [] pos) (tE T W0 wish P cf cm X.K (.pop o [i])) := by
  refine Iv.PE.imp (pe_bm PySem.F.plainAttrs_list PySem.F.slot_list_pop PySem.F.type_list_pop mt_popAt ho (sn_consO hs hi sn_nilO) (base_ok hbase) (few1 hs) hline (star_ns hs) rfl) fun σ H Q q => ?_
  obtain ⟨W, ρ, rfl, g, q⟩ := q
  simp only [evE] at q
  refine tG.step g q fun x W1 ρ1 dx g1 st1 rx q => ?_
  split at q
  · rename_i hk
    obtain ⟨id, xs0, rfl, hc⟩ := isBoxL_ok hk
    have hid : id < W1.S.length := (List.getElem?_eq_some_iff.mp hc).1
    obtain ⟨vs0, c1, c2⟩ := g1.sr.cell id _ hc
    have hx := box_ref rx
    subst hx
    refine ⟨.inl ⟨rfl, vs0, .inl (.inl c1)⟩, tG.step (f := fun ρ S => evPs P cf cm [i] ρ S) g1 q fun ws W2 ρ2 ds g2 st2 rs q => ?_⟩
    have rs : RQs X.K W2 ws ds := rs
    have rx2 := RQ.ext g1.sr st2.e rx
    have hi2 : W2.ι id = W1.ι id := st2.e.i id hid
    obtain ⟨xs, k, y, i', hc2, rfl, hb, hk, hy, q⟩ := popR_ok q
    obtain ⟨w, rfl, rw'⟩ := qs1 rs
    have hid2 : id < W2.S.length := (List.getElem?_eq_some_iff.mp hc2).1
    obtain ⟨vs, d1, d2⟩ := g2.sr.cell id _ hc2
    obtain ⟨s1, s2, s3, s4⟩ := ixN_seq hk
    have hkv : k < vs.length := by rw [d2.length]; exact s2
    have hv : vs[k]? = some vs[k] := List.getElem?_eq_getElem hkv
    obtain ⟨d, e1, e2⟩ := d2.atV hv
    rw [hy] at e1
    cases e1
    have m := setC_mono (o := .lst (vs.eraseIdx k)) (c := .lst (xs.eraseIdx k)) g2.sr hid2
    refine ⟨W1.ι id, vs, i', k, vs[k], rfl, by rw [rd_int rw'], by rw [← hi2]; exact d1, by omega, by omega, by rw [d2.length]; exact s1, hv, ?_⟩
    rw [← hi2]
    exact q _ (W2.setC id (.lst (vs.eraseIdx k)) (.lst (xs.eraseIdx k))) rfl (g2.setC hid2 ⟨vs.eraseIdx k, upd_same, (rds_erase k d2).mono m⟩) ⟨extC hid2, EnvLe.refl _⟩ (e2.mono m)
  · exact q.elim
end
end Iv
/-! Sx4: x = [..] put into a box; dict(x) of pairs; boxes of lists changed by a method -/
namespace Iv
open PySem PySem.Spec PyProof.Rows L2
section
variable {X : Cx} {T : Tb} {W0 : Wd} {wish : Wish} {P : Pg} {cf cm : Nat → List D → Sto → ResF}
theorem box_imp {e : E} (σ : L2.St) (H : Hp) (Q : VK) (q : tE T W0 wish P cf cm X.K (.box e) σ H Q) : tE T W0 wish P cf cm X.K e σ H Q := by
  obtain ⟨W, ρ, rfl, g, q⟩ := q
  simp only [evE] at q
  refine ⟨W, ρ, rfl, g, ?_⟩
  generalize evE P cf cm e ρ W.S = m at q ⊢
  cases m with
  | ok r ρ' S' =>
    intro v W' hS g' st rr
    subst hS
    cases r with
    | v d =>
      cases d with
      | ref a => exact q v W' rfl g' st rr
      | _ => exact q.elim
    | ol xs =>
      obtain ⟨a, vs, rfl, ⟨h1, h2, h3, h4, h5⟩, no, old⟩ := rr
      have gb := g'.box (c := .lst xs) ⟨vs, h1, h2⟩ h3 h4 h5 no
      have hr : RD X.K (W'.box a (.lst xs)) (.ref ((W'.box a (.lst xs)).ι W'.S.length)) (.ref W'.S.length) := .ref (by rw [box_len]; omega)
      rw [box_new] at hr
      exact q (.ref a) (W'.box a (.lst xs)) rfl gb (st.box g.sr old) hr
    | od t kds =>
      obtain ⟨a, rfl, ⟨h1, h3, h4, h5⟩, no, old⟩ := rr
      have gb := g'.box (c := .dct t kds) h1 h3 h4 h5 no
      have hr : RD X.K (W'.box a (.dct t kds)) (.ref ((W'.box a (.dct t kds)).ι W'.S.length)) (.ref W'.S.length) := .ref (by rw [box_len]; omega)
      rw [box_new] at hr
      exact q (.ref a) (W'.box a (.dct t kds)) rfl gb (st.box g.sr old) hr
  | exc c vs ρ' S' => exact q
  | err => exact q.elim
theorem st_asgLcB {i : Nat} {y : Str} {py spos : Pos} {elt : E} {tg : Tg} {k : Ik} {its cond : List E} {own : List (Str × Nat)} {xelt xtg xit : Expr} {xifs : List Expr} {scope : Scope} {pos : Pos} (hc : X.calm = true) (hN : X.N.Nodup) (hy : X.N[i]? = some y) (hyl : X.env.scope.names.lookup y = some .local)
    (hsw : swapsWith (.ListComp xelt [⟨xtg, xit, xifs, 0⟩] scope pos) (some (.Name y py)) spos.line X.env = pure true) (hi : PI X xtg xit (tW T W0 wish P cf cm X.K k its)) (ok : BlkOk X.N X.env.scope scope own)
    (hg : ∀ (s : Shared) (H : Hp) (C : Addr) (cl : List (Str × Addr)) (fp : List Addr), PG (X.blk s H scope (compEnvC scope cl C X.env) fp) xtg (tTg T W0 X.K tg))
    (ht : ∀ (s : Shared) (H : Hp) (C : Addr) (cl : List (Str × Addr)) (fp : List Addr), PTs (X.blk s H scope (compEnvC scope cl C X.env) fp) xifs (tCd T W0 P cf cm X.K cond))
    (he : ∀ (s : Shared) (H : Hp) (C : Addr) (cl : List (Str × Addr)) (fp : List Addr), PE (X.blk s H scope (compEnvC scope cl C X.env) fp) xelt (tE T W0 noW P cf cm X.K elt)) (hs : notSet xit = true) :
    PS X (.Assign [.Name y py] (.ListComp xelt [⟨xtg, xit, xifs, 0⟩] scope pos) spos) (tS X.K T W0 wish (evS P cf cm (.asg (.nm i) (.box (.lc elt tg k its cond (own.map (·.2))))))) := by
  refine Iv.PS.imp (ps_setLc (te := tD T W0 noW P cf cm X.K elt) hc hN hy hyl hsw hi ok hg ht (fun s H C cl fp => sn_d (he s H C cl fp)) (folded_ok hs)) fun D σ H q => ?_
  refine lc_imp (X := X) σ H _ (box_imp (X := X) σ H _ ?_)
  obtain ⟨W, ρ, rfl, g, q⟩ := q
  simp only [evS] at q
  refine tG.stm g q fun v W1 ρ1 r g1 st1 rr q => ?_
  split at q
  · rename_i hl
    exact q _ W1 rfl (Good.setR (ρa := ρ) g1 rr hl) (Mono.refl W1)
  · exact q.elim
/-! ### dict(x) -/
theorem Nxt.k {W : Wd} {σ : L2.St} {ρ : Env} {Q : VK} {kvs : List (Key × V)} {kds : List (D × D)} (n : Nxt X.K T W0 W σ ρ Q (.od false kds)) (g : Good X.K T W0 W σ ρ) (h : KDs X.K W kvs kds) : ∀ p, W.H p = none → Q (.ref p) (upd W.H p (.dK kvs)) := fun p hp => by
  have m := putMono (o := .dK kvs) g.sr hp
  exact n (.ref p) (W.put p (.dK kvs)) rfl (g.put hp) (Step.put hp) ⟨p, rfl, ⟨DctAt.mk put_same (h.mono m), g.notF hp, fun z => g.notB hp ((B_of rfl rfl).mp z), g.fresh0 hp⟩, g.notOwn hp, hp⟩
def rDictK (K : PySem.W.Frag) : List V → Hp → VK → Prop := fun xs H Q => (∃ (a : Addr) (ps : List Addr) (kvs : List (Key × V)), xs = [.ref a] ∧ SqL K H a (ps.map V.ref) ∧ Paired (fun p kv => SqT K H p [kV kv.1, kv.2]) ps kvs ∧
    ∀ p, H p = none → Q (.ref p) (upd H p (.dK (mergeK [] kvs)))) ∨ ∃ (a : Addr) (kvs : List (Key × V)), xs = [.ref a] ∧ Rd H a (.dK kvs) ∧ ∀ p, H p = none → Q (.ref p) (upd H p (.dK kvs))
theorem pairs_of {W : Wd} : ∀ {vs : List V} {ds : List D} {kds : List (D × D)}, RDs X.K W vs ds → pairsOf ds = some kds → ∃ (ps : List Addr) (kvs : List (Key × V)), vs = ps.map V.ref ∧ Paired (fun p (kv : Key × V) => SqT X.K W.H p [kV kv.1, kv.2]) ps kvs ∧ KDs X.K W kvs kds
  | _, _, _, .nil, h => by
    simp only [pairsOf, Option.some.injEq] at h
    subst h
    exact ⟨[], [], rfl, .nil, .nil⟩
  | _, _, kds, .cons (d := d) (ds := r) r1 t, h => by
    have key : ∃ k v ps, d = .tup [k, v] ∧ flatK k = true ∧ pairsOf r = some ps ∧ (k, v) :: ps = kds := by
      cases d with
      | tup l =>
        match l, h with
        | [k, v], h =>
          simp only [pairsOf] at h
          split at h
          · rename_i hk
            obtain ⟨ps, e1, e2⟩ := Option.map_eq_some_iff.mp h
            exact ⟨k, v, ps, rfl, hk, e1, e2⟩
          · cases h
        | [], h => simp [pairsOf] at h
        | [_], h => simp [pairsOf] at h
        | _ :: _ :: _ :: _, h => simp [pairsOf] at h
      | _ => simp [pairsOf] at h
    obtain ⟨k, v, ps, rfl, hk, e1, rfl⟩ := key
    obtain ⟨as, kvs, rfl, p1, t1⟩ := pairs_of t e1
    obtain ⟨a, us, rfl, h1, h2⟩ := rd_tup (.of r1)
    obtain ⟨kk, rfl⟩ := keyD_of hk
    cases h2 with
    | cons r2 t2 =>
      cases t2 with
      | cons r3 t3 =>
        cases t3
        have := rd_key (.of r2)
        subst this
        exact ⟨a :: as, (kk, _) :: kvs, rfl, .cons h1.sq p1, .cons r3 t1⟩
theorem ok_dict : PrimOk X.K T W0 .dict (rDictK X.K) := by
  intro W σ ρ vs ds res Q g e r n
  change p_dict W.S _ = _ at e
  unfold p_dict at e
  split at e
  · rename_i d
    obtain ⟨v, rfl, h⟩ := qs1 r
    split at e
    · rename_i kvs hd
      cases e
      obtain ⟨a, rfl, h'⟩ := rd_dct g.sr h hd
      obtain ⟨kv, h1, h2⟩ := h'.k
      exact .inr ⟨a, kv, rfl, h1, Nxt.k n g h2⟩
    · cases e
    · simp only [Option.bind_eq_some_iff, Option.map_eq_some_iff] at e
      obtain ⟨ys, e1, ps, e2, rfl⟩ := e
      obtain ⟨a, ws, rfl, h1, t⟩ := rd_lst g.sr h e1
      obtain ⟨as, kvs, rfl, p1, t1⟩ := pairs_of t e2
      exact .inl ⟨a, as, kvs, rfl, h1, p1, Nxt.k n g (KDs.merge t1 .nil)⟩
  · cases e
theorem call_dictK (hc : X.calm = true) : CallR X (.type "dict") (rDictK X.K) := CallR.or (call_dictP hc) call_dictD
/-! ### boxes of lists -/
theorem mutBL_ok {D : Ends} {m : Iv.Mut} {W : Wd} {id : Nat} {ds : List Iv.D} {ρ' : Env} (q : DmS X.K T W0 wish (mutBL m (.ref id) ds ρ' W.S) W D) :
    ∃ xs ys, cellAt W.S id = some (.lst xs) ∧ mutL W.S m xs ds = some ys ∧ DmS X.K T W0 wish (.ok .next ρ' (setCell W.S id (.lst ys))) W D := by
  unfold mutBL at q
  dsimp only at q
  split at q
  · rename_i xs hc
    split at q
    · rename_i ys hm
      exact ⟨xs, ys, hc, hm, q⟩
    · exact q.elim
  · exact q.elim
theorem few_of {xa : Expr} {xs : List Expr} {pos : Pos} {env : PySem.Env} (hs' : (xa :: xs).all nostar = true) (hfew : (xa :: xs).length < 30) : ((backTo pos (starEach (xa :: xs) env)).all (fun x => !x.1) && (backToKw pos (keywordEach [] env)).all (fun x => x.1.isSome)
      && decide ((xa :: xs).length + ([] : List Keyword).length + (if ([] : List Keyword).isEmpty then 0 else 1) < 30)) = true := by
  have h1 : (backTo pos (starEach (xa :: xs) env)).any (·.1) = false := any_ns hs'
  have h2 : (backTo pos (starEach (xa :: xs) env)).all (fun x => !x.1) = true := by
    rw [List.all_eq_true]
    intro z hz
    have := List.any_eq_false.mp h1 z hz
    simpa using this
  rw [h2]
  simp only [List.length_nil, Nat.add_zero, List.isEmpty_nil, if_true, Bool.true_and, Bool.and_eq_true, decide_eq_true_eq]
  exact ⟨rfl, hfew⟩
/-- a box of a list changed by a method of values -/
theorem st_mutB {o : E} {m : Iv.Mut} {es : List E} {name : Str} {id : String} {r : V → List V → Hp → VK → Prop} {xo xa : Expr} {xs : List Expr} {ap pos p : Pos} (slot : PySem.Slot "list" name id) (ty : typeOf (.builtin id) = pure (.type "method_descriptor")) (hm : MtR X id r) (hpk : peeks m = false) (hdm : dictM m = false)
    (hr : ∀ {W : Wd} {a : Addr} {vs ws : List V} {xs ds ys : List D} {Q : VK}, mutL W.S m xs ds = some ys → W.H a = some (.lst vs) → RDs X.K W vs xs → RDs X.K W ws ds → (∀ (u : V) zs, (∀ W', Mono W W' → RDs X.K W' zs ys) → Q u (upd W.H a (.lst zs))) → r (.ref a) ws W.H Q)
    (ho : PE X xo (tO T W0 wish P cf cm X.K o)) (hbase : attributeBase xo name X.env (eval xo X.env) = eval xo X.env) (hs : (xa :: xs).all nostar = true) (hfew : (xa :: xs).length < 30) (hline : (ap.endLine == pos.line) = true) (h : PA X (xa :: xs) (tEs T W0 wish P cf cm X.K es)) :
    PS X (.Expr (.Call (.Attribute xo name ap) (xa :: xs) [] pos) p) (tS X.K T W0 wish (evS P cf cm (.mutX o m es))) := by
  have hs' := hs
  simp only [List.all_cons, Bool.and_eq_true] at hs
  refine Iv.PS.imp (ps_expr (pe_bm PySem.F.plainAttrs_list slot ty hm ho h hbase (few_of hs' hfew) hline (star_ns hs.1) (any_ns hs.2)) rfl) fun D σ H q => ?_
  obtain ⟨W, ρ, rfl, g, q⟩ := q
  simp only [evS, hpk, hdm] at q
  refine tG.stm g q fun x W1 ρ1 dx g1 st1 rx q => ?_
  split at q
  · rename_i hk; cases hk
  · split at q
    · rename_i hk
      obtain ⟨id, xs0, rfl, hc⟩ := isBoxL_ok hk
      have hid : id < W1.S.length := (List.getElem?_eq_some_iff.mp hc).1
      obtain ⟨vs0, c1, c2⟩ := g1.sr.cell id _ hc
      have hx := box_ref rx
      subst hx
      refine ⟨.inl ⟨rfl, vs0, .inl (.inl c1)⟩, ?_⟩
      refine tG.stm (f := fun ρ S => evEs P cf cm es ρ S) g1 q fun ws W2 ρ2 ds g2 st2 rd q => ?_
      have rd : RDs X.K W2 ws ds := rd
      have hi2 : W2.ι id = W1.ι id := st2.e.i id hid
      obtain ⟨xs1, ys, hc2, hmut, q⟩ := mutBL_ok q
      have hid2 : id < W2.S.length := (List.getElem?_eq_some_iff.mp hc2).1
      obtain ⟨vs, d1, d2⟩ := g2.sr.cell id _ hc2
      rw [← hi2]
      exact hr hmut d1 d2 rd fun u zs rz => q σ (W2.setC id (.lst zs) (.lst ys)) rfl (g2.setC hid2 ⟨zs, upd_same, rz _ (setC_mono g2.sr hid2)⟩) (setC_mono g2.sr hid2)
    · exact q.elim
theorem app_okB {W : Wd} {a : Addr} {vs ws : List V} {xs ds ys : List D} {Q : VK} (h : mutL W.S .append xs ds = some ys) (h1 : W.H a = some (.lst vs)) (h2 : RDs X.K W vs xs) (h3 : RDs X.K W ws ds) (q : ∀ (u : V) zs, (∀ W', Mono W W' → RDs X.K W' zs ys) → Q u (upd W.H a (.lst zs))) : rAppend (.ref a) ws W.H Q :=
  app_ok h h1 h2 h3 fun u zs rz => q u zs fun W' m => rz.mono m
theorem ins_okB {W : Wd} {a : Addr} {vs ws : List V} {xs ds ys : List D} {Q : VK} (h : mutL W.S .insert xs ds = some ys) (h1 : W.H a = some (.lst vs)) (h2 : RDs X.K W vs xs) (h3 : RDs X.K W ws ds) (q : ∀ (u : V) zs, (∀ W', Mono W W' → RDs X.K W' zs ys) → Q u (upd W.H a (.lst zs))) :
    ∃ (l : Addr) (xs : List V) (i : Int) (y : V), (V.ref a) = .ref l ∧ ws = [.int i, y] ∧ W.H l = some (.lst xs) ∧ xs.length < sizeLine ∧ 0 ≤ i ∧ i < 2 ^ 63 ∧ Q .non (upd W.H l (.lst (xs.take i.toNat ++ [y] ++ xs.drop i.toNat))) :=
  ins_ok h h1 h2 h3 fun u zs rz => q u zs fun W' m => rz.mono m
theorem popS_ok {W : Wd} {a : Addr} {vs ws : List V} {xs ds ys : List D} {Q : VK} (h : mutL W.S .popL xs ds = some ys) (hl : xs.length ≤ 16777216) (h1 : W.H a = some (.lst vs)) (h2 : RDs X.K W vs xs) (h3 : RDs X.K W ws ds) (h0 : ws ≠ []) (q : ∀ (u : V) zs, RDs X.K W zs ys → Q u (upd W.H a (.lst zs))) : rPopAt (.ref a) ws W.H Q := by
  cases h3 with
  | nil => exact absurd rfl h0
  | cons r t =>
    cases t with
    | cons r2 t => simp [mutL] at h
    | nil =>
      rename_i v d
      cases d with
      | int i =>
        have h : (L2.ixN xs.length i).map (fun k => xs.eraseIdx k) = some ys := h
        obtain ⟨k, hk, rfl⟩ := Option.map_eq_some_iff.mp h
        obtain ⟨s1, s2, s3, s4⟩ := ixN_seq hk
        have hkv : k < vs.length := by rw [h2.length]; exact s2
        exact ⟨a, vs, i, k, vs[k], rfl, by rw [rd_int (.of r)], h1, by omega, by omega, by rw [h2.length]; exact s1, List.getElem?_eq_getElem hkv, q _ _ (rds_erase k h2)⟩
      | _ => simp [mutL] at h
/-- .. by a method without values -/
theorem st_mutB0 {o : E} {m : Iv.Mut} {name : Str} {id : String} {r : V → List V → Hp → VK → Prop} {xo : Expr} {ap pos p : Pos} (slot : PySem.Slot "list" name id) (ty : typeOf (.builtin id) = pure (.type "method_descriptor")) (hm : MtR X id r) (hdm : dictM m = false)
    (hr : ∀ {W : Wd} {a : Addr} {vs : List V} {xs ys : List D} {Q : VK}, mutL W.S m xs [] = some ys → W.H a = some (.lst vs) → RDs X.K W vs xs → (∀ (u : V) zs, (∀ W', Mono W W' → RDs X.K W' zs ys) → Q u (upd W.H a (.lst zs))) → r (.ref a) [] W.H Q)
    (ho : PE X xo (tO T W0 wish P cf cm X.K o)) (hbase : attributeBase xo name X.env (eval xo X.env) = eval xo X.env) (hline : (ap.endLine == pos.line) = true) :
    PS X (.Expr (.Call (.Attribute xo name ap) [] [] pos) p) (tS X.K T W0 wish (evS P cf cm (.mutX o m []))) := by
  refine Iv.PS.imp (ps_expr (pe_bm0 PySem.F.plainAttrs_list slot ty hm ho hbase hline) rfl) fun D σ H q => ?_
  obtain ⟨W, ρ, rfl, g, q⟩ := q
  have e0 : evS P cf cm (.mutX o m []) ρ W.S = (pk o (evE P cf cm o) ρ W.S).bind fun x ρ S => if isBoxL S x = true then mutBL m x [] ρ S else .err := by
    simp only [evS, hdm]
    refine congrArg (Res.bind _) ?_
    funext x ρ S
    by_cases hk : isBoxL S x = true
    · cases hp : peeks m <;> simp [hk, evEs, evPs, Res.bind]
    · simp [hk]
  rw [e0] at q
  refine tG.stm g q fun x W1 ρ1 dx g1 st1 rx q => ?_
  split at q
  · rename_i hk
    obtain ⟨id, xs0, rfl, hc⟩ := isBoxL_ok hk
    have hx := box_ref rx
    subst hx
    obtain ⟨xs1, ys, hc2, hmut, q⟩ := mutBL_ok q
    have hid2 : id < W1.S.length := (List.getElem?_eq_some_iff.mp hc2).1
    obtain ⟨vs, d1, d2⟩ := g1.sr.cell id _ hc2
    refine ⟨.inl ⟨rfl, vs, .inl (.inl d1)⟩, ?_⟩
    exact hr hmut d1 d2 fun u zs rz => q σ (W1.setC id (.lst zs) (.lst ys)) rfl (g1.setC hid2 ⟨zs, upd_same, rz _ (setC_mono g1.sr hid2)⟩) (setC_mono g1.sr hid2)
  · exact q.elim
theorem clear_okB {W : Wd} {a : Addr} {vs : List V} {xs ys : List D} {Q : VK} (h : mutL W.S .clear xs [] = some ys) (h1 : W.H a = some (.lst vs)) (_ : RDs X.K W vs xs) (q : ∀ (u : V) zs, (∀ W', Mono W W' → RDs X.K W' zs ys) → Q u (upd W.H a (.lst zs))) : rClear (.ref a) [] W.H Q := by
  cases h
  exact ⟨a, vs, rfl, rfl, h1, q _ _ fun _ _ => .nil⟩
theorem rev_okB {W : Wd} {a : Addr} {vs : List V} {xs ys : List D} {Q : VK} (h : mutL W.S .reverse xs [] = some ys) (h1 : W.H a = some (.lst vs)) (h2 : RDs X.K W vs xs) (q : ∀ (u : V) zs, (∀ W', Mono W W' → RDs X.K W' zs ys) → Q u (upd W.H a (.lst zs))) : rReverse (.ref a) [] W.H Q := by
  cases h
  exact ⟨a, vs, rfl, rfl, h1, q _ _ fun _ m => (h2.rev).mono m⟩
/-- a slot's own list, by a method without values -/
theorem st_clear {i : Nat} {y : Str} {py ap pos p : Pos} (hy : PE X (.Name y py) (tVar i)) (hline : (ap.endLine == pos.line) = true) :
    PS X (.Expr (.Call (.Attribute (.Name y py) "clear" ap) [] [] pos) p) (tS X.K T W0 wish (evS P cf cm (.mutO i .clear []))) := by
  refine Iv.PS.imp (ps_expr (pe_bm0 PySem.F.plainAttrs_list PySem.F.slot_list_clear PySem.F.type_list_clear mt_clear hy rfl hline) rfl) fun D σ H q => ?_
  obtain ⟨W, ρ, rfl, g, q⟩ := q
  by_cases ho : ownAt ρ i = true
  · obtain ⟨a, vs0, e1, e2⟩ := own_addr g ho
    obtain ⟨xs', hs1⟩ := own_at ho
    obtain ⟨b, vs, e3, h1, h2, h3, h4, h5⟩ := g.er.ok i _ hs1
    rw [e1] at e3
    cases e3
    refine ⟨.ref a, e1, .inl ⟨rfl, vs0, .inl (.inl e2)⟩, a, vs, rfl, rfl, h1, ?_⟩
    obtain ⟨gp, mp⟩ := g.putSlot hs1 e1 (RDs.nil (K := X.K) (W := W))
    have e0 : evS P cf cm (.mutO i .clear []) ρ W.S = .ok .next (ρ.set i (.ol [])) W.S := by
      simp [evS, ho, peeks, evPs, Res.bind, hs1, mutL]
    rw [e0] at q
    exact q σ (W.put a (.lst [])) rfl gp mp
  · have e0 : evS P cf cm (.mutO i .clear []) ρ W.S = .err := by simp [evS, ho]
    rw [e0] at q
    exact q.elim
end
end Iv
/-! Sv13: the text against its tables: expressions -/
namespace Iv
open PySem PySem.Spec PyProof.Rows L2
/-- the names of the tables -/
structure Cn where
  fn : List (Str × Nat)
  gl : List Str
def bltNames : List Str := ["len", "abs", "min", "max", "sum", "all", "any", "sorted", "tuple", "list", "dict", "int", "str", "repr", "bool", "range", "isinstance", "set", "enumerate", "zip", "reversed", "ValueError"]
def dbgOk (x : Str) : Bool := !(x == ("__debug__" : Str)) && !(x == ("__classdict__" : Str)) && !(x == ("__name__" : Str))
def glC (sc : Scope) (x : Str) : Bool := match sc.names.lookup x with
  | some .globalImplicit => true
  | _ => false
def visC (sc : Scope) (x : Str) : Bool := match sc.names.lookup x with
  | some .local => true
  | some .cell => true
  | some .free => true
  | _ => false
/-- a name that may be stored: sc the scope, raw the one ahead of the closures -/
def stoC (sc raw : Scope) (x : Str) : Bool := match sc.names.lookup x with
  | some .local => true
  | some .cell => (match raw.names.lookup x with | some .cell => true | _ => false)
  | _ => false
/-- the built-in functions of one name: the name, a type?, the id -/
def primC : Prim → Option (Str × Bool × String)
  | .len => some ("len", false, "len")
  | .abs => some ("abs", false, "abs")
  | .min2 => some ("min", false, "min")
  | .max2 => some ("max", false, "max")
  | .min1 => some ("min", false, "min")
  | .sum => some ("sum", false, "sum")
  | .all => some ("all", false, "all")
  | .any => some ("any", false, "any")
  | .tuple => some ("tuple", true, "tuple")
  | .list => some ("list", true, "list")
  | .int => some ("int", true, "int")
  | .str => some ("str", true, "str")
  | .repr => some ("repr", false, "repr")
  | .sorted => some ("sorted", false, "sorted")
  | .dict => some ("dict", true, "dict")
  | _ => none
def isiNames : List (String × Str) := [("bool", "bool"), ("int", "int"), ("str", "str"), ("tuple", "tuple"), ("list", "list"), ("dict", "dict"), ("ValueError", "ValueError")]
def mthC : Prim → Option Str
  | .split => some "split"
  | .join => some "join"
  | .partition => some "partition"
  | .index => some "index"
  | .get1 => some "get"
  | _ => none
section
variable (cn : Cn) (N : List Str)
mutual
def mT (sc raw : Scope) : Tg → Expr → Bool
  | .nm i, x => (match x with
    | .Name y _ => decide (N[i]? = some y) && stoC sc raw y
    | _ => false)
  | .tp ts, x => (match x with
    | .Tuple xs _ _ => xs.all tgShape && mTs sc raw ts xs
    | _ => false)
def mTs (sc raw : Scope) : List Tg → List Expr → Bool
  | [], [] => true
  | t :: ts, x :: xs => mT sc raw t x && mTs sc raw ts xs
  | _, _ => false
end
def isTupE : Expr → Bool
  | .Tuple _ _ _ => true
  | _ => false
mutual
def mE (sc raw : Scope) : E → Expr → Bool
  | .bad, _ => true
  | .non, x => (match x with | .Constant .none _ _ => true | _ => false)
  | .bl b, x => (match x with | .Constant (.bool c) _ _ => b == c | _ => false)
  | .int i, x => (match x with | .Constant (.int j) _ _ => decide (i = j) | _ => false)
  | .str z, x => (match x with | .Constant (.str y) _ _ => decide (z = y) | _ => false)
  | .var i, x => (match x with | .Name y _ => decide (N[i]? = some y) && visC sc y && dbgOk y | _ => false)
  | .glob g, x => (match x with | .Name y _ => decide (cn.gl[g]? = some y) && glC sc y && dbgOk y | _ => false)
  | .tup es, x => (match x with | .Tuple xs _ _ => xs.all nostar && mEs sc raw es xs | _ => false)
  | .lst es, x => (match x with | .List xs _ => xs.all nostar && mEs sc raw es xs | _ => false)
  | .bin op a b, x => (match x with | .BinOp xa xop xb _ => decide (op = xop) && mE sc raw a xa && mE sc raw b xb | _ => false)
  | .neg a, x => (match x with | .UnaryOp .USub xa _ => mE sc raw a xa | _ => false)
  | .not a, x => (match x with | .UnaryOp .Not xa _ => mE sc raw a xa | _ => false)
  | .andE es, x => (match x with | .BoolOp .And xs _ => !xs.isEmpty && mEs sc raw es xs | _ => false)
  | .orE es, x => (match x with | .BoolOp .Or xs _ => !xs.isEmpty && mEs sc raw es xs | _ => false)
  | .cmp op a b, x => (match x with | .Compare xa [xop] [xb] _ => decide (op = xop) && !behindInMarks op xb && mE sc raw a xa && mE sc raw b xb | _ => false)
  | .cmp2 op op' a b c, x => (match x with | .Compare xa [xop, xop'] [xb, xc] _ => decide (op = xop) && decide (op' = xop') && !lastMarks [op, op'] [xb, xc] && mE sc raw a xa && mE sc raw b xb && mE sc raw c xc | _ => false)
  | .ite c a b, x => (match x with | .IfExp xc xa xb _ => mE sc raw c xc && mE sc raw a xa && mE sc raw b xb | _ => false)
  | .call f es, x => (match x with | .Call (.Name y _) xs [] _ => decide ((cn.fn[f]?).map (·.1) = some y) && glC sc y && dbgOk y && xs.all nostar && decide (es.length = xs.length) && mEs sc raw es xs | _ => false)
  | .prim p es, x => (match x with
    | .Call (.Name y _) xs [] _ => (match primC p with
      | some (z, _, _) => decide (y = z) && glC sc y && !xs.isEmpty && xs.all nostar && mEs sc raw es xs
      | none => (match p, xs with
        | .revL, [.Call (.Name w _) [xa] [] _] => decide (y = ("list" : Str)) && glC sc y && decide (w = ("reversed" : Str)) && glC sc w && nostar xa && mEs sc raw es [xa]
        | .rangeL, [.Call (.Name w _) [xa] [] _] => decide (y = ("list" : Str)) && glC sc y && decide (w = ("range" : Str)) && glC sc w && nostar xa && mEs sc raw es [xa]
        | .isi [U], [xa, .Name w _] => decide (y = ("isinstance" : Str)) && glC sc y && (match isiNames.lookup U with | some w' => decide (w = w') | none => false) && glC sc w && nostar xa && mEs sc raw es [xa]
        | _, _ => false))
    | .Subscript xa (.Slice none none (some (.UnaryOp .USub (.Constant (.int j) _ _) _)) _) _ => (match p with
      | .revL => decide (j = 1) && mEs sc raw es [xa]
      | _ => false)
    | _ => false)
  | .mth p o es, x => (match x with
    | .Call (.Attribute xo m ap) [xb] [] pos => (match mthC p with
      | some z => decide (m = z) && plainBase xo && (ap.endLine == pos.line) && nostar xb && mE sc raw o xo && mEs sc raw es [xb]
      | none => false)
    | .Call (.Attribute xo m ap) [xb, xc] [] pos => (match p, es with
      | .get2, [e1, e2] => decide (m = ("get" : Str)) && plainBase xo && (ap.endLine == pos.line) && nostar xb && nostar xc && scalE e2 && mE sc raw o xo && mE sc raw e1 xb && mE sc raw e2 xc
      | _, _ => false)
    | .Call (.Attribute xo m ap) [] [] pos => (match p, es with
      | .upper, [] => decide (m = ("upper" : Str)) && plainBase xo && (ap.endLine == pos.line) && mE sc raw o xo
      | _, _ => false)
    | _ => false)
  | .dct es, x => (match x with
    | .Dict ks vs _ => (es.isEmpty && ks.isEmpty && vs.isEmpty) || (!ks.isEmpty && decide (ks.length ≤ 15) && mDs sc raw es ks vs)
    | _ => false)
  | .ix a i, x => (match x with | .Subscript xa xi _ => noSlice xi && mE sc raw a xa && mE sc raw i xi | _ => false)
  | .sl a lo hi, x => (match x with | .Subscript xa (.Slice xl xh none _) _ => mE sc raw a xa && mEs sc raw lo xl.toList && mEs sc raw hi xh.toList | _ => false)
  | .slS a st, x => (match x with | .Subscript xa (.Slice none none (some xs) _) _ => mE sc raw a xa && mE sc raw st xs | _ => false)
  | .box e, x => plainTest x && mE sc raw e x
  | .pop o es, x => (match x with
    | .Call (.Attribute xo m ap) [xb] [] pos => (match es with
      | [e1] => decide (m = ("pop" : Str)) && plainBase xo && (ap.endLine == pos.line) && nostar xb && mE sc raw o xo && mE sc raw e1 xb
      | _ => false)
    | _ => false)
  | .lc elt tg k its cond own, x => (match x with
    | .ListComp xelt [⟨xtg, xit, xifs, 0⟩] scope _ => blkC N sc scope (own.map fun i => (N.getD i Str.empty, i)) && notSet xit && (match k, xit with
        | .seq, xit => mEs sc raw its [xit]
        | .range1, .Call (.Name r _) [x1] [] _ => decide (r = ("range" : Str)) && glC sc r && nostar x1 && mEs sc raw its [x1]
        | .range2, .Call (.Name r _) [x1, x2] [] _ => decide (r = ("range" : Str)) && glC sc r && nostar x1 && nostar x2 && mEs sc raw its [x1, x2]
        | .enum, .Call (.Name r _) [x1] [] _ => isTupE xtg && decide (r = ("enumerate" : Str)) && glC sc r && nostar x1 && mEs sc raw its [x1]
        | .zip, .Call (.Name r _) [x1, x2] [] _ => isTupE xtg && decide (r = ("zip" : Str)) && glC sc r && nostar x1 && nostar x2 && mEs sc raw its [x1, x2]
        | _, _ => false) && mT N (relS scope sc) scope tg xtg && mEs (relS scope sc) scope cond xifs && decide (xifs.length ≤ 1) && mE (relS scope sc) scope elt xelt
    | _ => false)
  | _, _ => false
def mEs (sc raw : Scope) : List E → List Expr → Bool
  | [], [] => true
  | e :: es, x :: xs => mE sc raw e x && mEs sc raw es xs
  | _, _ => false
def mDs (sc raw : Scope) : List E → List (Option Expr) → List Expr → Bool
  | [], [], [] => true
  | k :: v :: es, some xk :: ks, xv :: vs => mE sc raw k xk && mE sc raw v xv && mDs sc raw es ks vs
  | _, _, _ => false
end
end
/-- what the rules ask of a def's body -/
structure Ctx (X : Cx) (T : Tb) (cn : Cn) (P : Pg) (cf : Nat → List D → Sto → ResF) (k : Nat) (raw : Scope) : Prop where
  calm : X.calm = true
  nd : X.N.Nodup
  room : Room k X.A
  gd : X.A.guards = some []
  fns : ∀ i x np, cn.fn[i]? = some (x, np) → FnAt X T k x np (cf i)
  glo : ∀ (g : Nat) (x : Str) (d : D), cn.gl[g]? = some x → P.glo[g]? = some d → ∃ u v, X.mg x = some u ∧ RelV v u ∧ ∀ W : Wd, RD X.K W v d
  blt : ∀ x ∈ bltNames, X.mg x = none
  sto : ∀ x, stoC X.env.scope raw x = true → L2.Loc X.env.scope x ∧ (X.fn x = true ∨ X.env.scope.names.lookup x = some .local)
theorem gl_ok {X : Cx} {x : Str} (h : glC X.env.scope x = true) : Gl X x := by
  unfold glC at h
  split at h
  · assumption
  · cases h
theorem vis_ok {sc : Scope} {x : Str} (h : visC sc x = true) : Vis sc x := by
  unfold visC at h
  split at h
  · exact .inl (by assumption)
  · exact .inr (.inl (by assumption))
  · exact .inr (.inr (by assumption))
  · cases h
theorem dbg_ok {x : Str} (h : dbgOk x = true) : (x == ("__debug__" : Str)) = false ∧ (x == ("__classdict__" : Str)) = false ∧ x ≠ "__name__" := by
  simp only [dbgOk, Bool.and_eq_true, Bool.not_eq_true'] at h
  refine ⟨h.1.1, h.1.2, fun z => ?_⟩
  rw [z] at h
  exact absurd h.2 (by decide)
section
variable {X : Cx} {T : Tb} {W0 : Wd} {wish : Wish} {cn : Cn} {P : Pg} {cf cm : Nat → List D → Sto → ResF} {k : Nat} {raw : Scope}
theorem Ctx.blk (c : Ctx X T cn P cf k raw) (s : Shared) (H : Hp) (scope : Scope) (C : Addr) (cl : List (Str × Addr)) (fp : List Addr) : Ctx (X.blk s H scope (compEnvC scope cl C X.env) fp) T cn P cf k scope := by
  refine ⟨c.calm, c.nd, c.room, c.gd, fun i x np h => ?_, c.glo, c.blt, fun x h => ?_⟩
  · exact ⟨(c.fns i x np h).at_, (c.fns i x np h).len⟩
  · unfold stoC at h
    split at h
    · exact ⟨.inl (by assumption), .inr (by assumption)⟩
    · split at h
      · rename_i h1 _ h2
        exact ⟨.inr h1, .inl (by show (scope.names.lookup x == some .cell) = true; rw [h2]; rfl)⟩
      · cases h
    · cases h
/-- all four readings of an expression -/
structure Oks (X : Cx) (T : Tb) (W0 : Wd) (wish : Wish) (P : Pg) (cf cm : Nat → List D → Sto → ResF) (e : E) (x : Expr) : Prop where
  v : PE X x (tE T W0 wish P cf cm X.K e)
  o : PE X x (tO T W0 wish P cf cm X.K e)
  te : PT X x (tTe T W0 wish P cf cm X.K e)
  t : PT X x (tT T W0 wish P cf cm X.K e)
theorem Oks.mk1 {e : E} {x : Expr} (hn : ∀ i, e ≠ .var i) (h : PE X x (tE T W0 wish P cf cm X.K e)) (ht : plainTest x = true) : Oks X T W0 wish P cf cm e x :=
  ⟨h, sn_o hn h, pt_plainE (sn_d h) (test_ok ht), pt_plain (sn_o hn h) (test_ok ht)⟩
theorem Oks.mk2 {e : E} {x : Expr} (hn : ∀ i, e ≠ .var i) (h : PE X x (tE T W0 wish P cf cm X.K e)) (ht : PT X x (tTe T W0 wish P cf cm X.K e)) : Oks X T W0 wish P cf cm e x :=
  ⟨h, sn_o hn h, ht, tT_of hn ht⟩
/-- .. of a box's making the same as of what is boxed -/
theorem mT_nm {sc : Scope} {ts : Tg} {x : Expr} : mT X.N sc raw ts x = true → tgShape x = true := by
  intro h
  cases ts with
  | nm i => cases x <;> first | rfl | (simp [mT] at h)
  | tp ts => cases x <;> first | rfl | (simp [mT] at h)
theorem mTs_len {sc : Scope} : ∀ {ts : List Tg} {xs : List Expr}, mTs X.N sc raw ts xs = true → ts.length = xs.length
  | [], [], _ => rfl
  | t :: ts, x :: xs, h => by
    simp only [mTs, Bool.and_eq_true] at h
    simp [mTs_len h.2]
  | [], _ :: _, h => by simp [mTs] at h
  | _ :: _, [], h => by simp [mTs] at h
mutual
theorem mT_ok (c : Ctx X T cn P cf k raw) : ∀ (tg : Tg) (x : Expr), mT X.N X.env.scope raw tg x = true → PG X x (tTg T W0 X.K tg)
  | .nm i, x, h => by
    cases x with
    | Name y p =>
      simp only [mT, Bool.and_eq_true, decide_eq_true_eq] at h
      obtain ⟨h1, h2⟩ := c.sto y h.2
      exact sn_tgN (pg_name c.nd h.1 h1 h2)
    | _ => simp [mT] at h
  | .tp ts, x, h => by
    cases x with
    | Tuple xs kk p =>
      simp only [mT, Bool.and_eq_true] at h
      exact sn_tgT c.calm h.1 (mTs_len h.2) (mTs_ok c ts xs h.2)
    | _ => simp [mT] at h
theorem mTs_ok (c : Ctx X T cn P cf k raw) : ∀ (ts : List Tg) (xs : List Expr), mTs X.N X.env.scope raw ts xs = true → PGs X xs (tTgs T W0 X.K ts)
  | [], [], _ => sn_tgs0
  | t :: ts, x :: xs, h => by
    simp only [mTs, Bool.and_eq_true] at h
    exact sn_tgsC (mT_nm h.1) (mT_ok c t x h.1) (mTs_ok c ts xs h.2)
  | [], _ :: _, h => by simp [mTs] at h
  | _ :: _, [], h => by simp [mTs] at h
end
/-! ### the built-ins of one name -/
def primR (K : PySem.W.Frag) : Prim → List V → Hp → VK → Prop
  | .len => fun xs H Q => (∃ x n, xs = [x] ∧ LenV K x H n ∧ Q (.int n) H) ∨ ∃ a kvs, xs = [.ref a] ∧ Rd H a (.dK kvs) ∧ Q (.int kvs.length) H
  | .abs => fun xs H Q => ∃ i, xs = [.int i] ∧ Q (.int (if i < 0 then -i else i)) H
  | .min2 => fun xs H Q => ∃ i j, xs = [.int i, .int j] ∧ Q (.int (if j < i then j else i)) H
  | .max2 => fun xs H Q => ∃ i j, xs = [.int i, .int j] ∧ Q (.int (if j > i then j else i)) H
  | .min1 => fun xs H Q => rMin K xs H Q ∨ rMinA K xs H Q
  | .sum => rSum K
  | .all => rAll K
  | .any => rAny K
  | .tuple => rTupN K
  | .list => fun xs H Q => (∃ p ys, xs = [.ref p] ∧ (SqL K H p ys ∨ SqT K H p ys) ∧ ∀ l, H l = none → Q (.ref l) (upd H l (.lst ys))) ∨
    ((∃ (a : Addr) (kvs : List (Key × V)), xs = [.ref a] ∧ Rd H a (.dK kvs) ∧ ∀ p, H p = none → Q (.ref p) (upd H p (.lst (kvs.map fun kv => kV kv.1)))) ∨
      ∃ z : Str, xs = [.str z] ∧ z.length ≤ sizeLine ∧ ∀ l, H l = none → Q (.ref l) (upd H l (.lst (z.cps.toList.map fun c => V.str (one c)))))
  | .int => fun xs H Q => ((∃ i, xs = [.int i] ∧ Q (.int i) H) ∨ ∃ k, xs = [.bl k] ∧ Q (.int (if k then 1 else 0)) H) ∨ ∃ a n, xs = [.str a] ∧ PySem.intText? a = some n ∧ a.length ≤ 640 ∧ Q (.int n) H
  | .str => fun xs H Q => (∃ i, xs = [.int i] ∧ i.natAbs.log2 < 1920 ∧ Q (.str (toString i)) H) ∨ ∃ a, xs = [.str a] ∧ Q (.str a) H
  | .repr => fun xs H Q => rRepr K xs H Q ∨ rReprD K xs H Q
  | .sorted => rSortA K
  | .dict => rDictK K
  | _ => fun _ _ _ => False
theorem units65 {A : Around} {k : Nat} (hr : Room k A) : A.units + 65 < cLine := by have := hr.un; omega
theorem units67 {A : Around} {k : Nat} (hr : Room k A) : A.units + 67 < cLine := by have := hr.un; omega
theorem sn_prim1 {p : Prim} {y : Str} {b : Bool} {id : String} {pn pos : Pos} {es : List E} {xs : List Expr} (c : Ctx X T cn P cf k raw) (hp : primC p = some (y, b, id)) (hg : glC X.env.scope y = true) (he : xs.isEmpty = false) (hs : xs.all nostar = true)
    (h : PA X xs (tOs T W0 wish P cf cm X.K es)) : PE X (.Call (.Name y pn) xs [] pos) (tE T W0 wish P cf cm X.K (.prim p es)) := by
  cases xs with
  | nil => cases he
  | cons xa xr =>
    cases p <;> simp only [primC, Option.some.injEq, Prod.mk.injEq, reduceCtorEq] at hp <;> obtain ⟨rfl, rfl, rfl⟩ := hp
    · exact sn_primB (r := primR X.K .len) (CallR.or call_len call_lenD) ok_len (gl_ok hg) (c.blt _ (by decide)) rfl (by decide) (by decide) hs h
    · exact sn_primB (r := primR X.K .abs) call_abs ok_abs (gl_ok hg) (c.blt _ (by decide)) rfl (by decide) (by decide) hs h
    · exact sn_primB (r := primR X.K .min2) (call_min2 c.calm) ok_min2 (gl_ok hg) (c.blt _ (by decide)) rfl (by decide) (by decide) hs h
    · exact sn_primB (r := primR X.K .max2) (call_max2 c.calm) ok_max2 (gl_ok hg) (c.blt _ (by decide)) rfl (by decide) (by decide) hs h
    · exact sn_primB (r := primR X.K .min1) (CallR.or (cr_min c.calm) (call_minA c.calm (units67 c.room))) ok_min1A (gl_ok hg) (c.blt _ (by decide)) rfl (by decide) (by decide) hs h
    · exact sn_primB (r := primR X.K .sum) (cr_sum c.calm) ok_sum (gl_ok hg) (c.blt _ (by decide)) rfl (by decide) (by decide) hs h
    · exact sn_primB (r := primR X.K .all) (cr_all c.calm) ok_all (gl_ok hg) (c.blt _ (by decide)) rfl (by decide) (by decide) hs h
    · exact sn_primB (r := primR X.K .any) (cr_any c.calm) ok_any (gl_ok hg) (c.blt _ (by decide)) rfl (by decide) (by decide) hs h
    · exact sn_primB (r := primR X.K .sorted) (call_sortA (units67 c.room)) ok_sorted (gl_ok hg) (c.blt _ (by decide)) rfl (by decide) (by decide) hs h
    · exact sn_primT (r := primR X.K .tuple) call_tupN ok_tuple (gl_ok hg) (c.blt _ (by decide)) rfl (by decide) (by decide) hs h
    · exact sn_primT (r := primR X.K .list) (CallR.or call_list_of (CallR.or (call_listD c.calm) (call_list_sgn c.calm))) ok_list (gl_ok hg) (c.blt _ (by decide)) rfl (by decide) (by decide) hs h
    · exact sn_primT (r := primR X.K .dict) (call_dictK c.calm) ok_dict (gl_ok hg) (c.blt _ (by decide)) rfl (by decide) (by decide) hs h
    · exact sn_primT (r := primR X.K .int) (CallR.or call_int1 call_int_str) ok_int (gl_ok hg) (c.blt _ (by decide)) rfl (by decide) (by decide) hs h
    · exact sn_primT (r := primR X.K .str) (CallR.or call_str_int SkE.call_str_str) ok_str (gl_ok hg) (c.blt _ (by decide)) rfl (by decide) (by decide) hs h
    · exact sn_primB (r := primR X.K .repr) (CallR.or (call_repr c.gd (by have := c.room.un; omega)) (call_reprD c.gd (by have := c.room.un; omega))) ok_repr (gl_ok hg) (c.blt _ (by decide)) rfl (by decide) (by decide) hs h
theorem isi_mem {U : String} {w : Str} (h : isiNames.lookup U = some w) : U ∈ ["bool", "int", "str", "tuple", "list", "dict", "ValueError"] ∧ bootBuiltins w = some (.type U) ∧ w ∈ bltNames ∧ w ≠ "__name__" ∧ (w == ("__debug__" : Str)) = false := by
  unfold isiNames at h
  simp only [List.lookup] at h
  repeat' split at h
  all_goals first | cases h | skip
  all_goals (rename_i q; have q := beq_iff_eq.mp q; subst q; first | (refine ⟨by simp, rfl, by decide, by decide, by decide⟩))
theorem sn_mth1 {p : Prim} {z : Str} (hu : X.A.units + 65 < cLine) {ap pos : Pos} {a b : E} {xa xb : Expr} (hp : mthC p = some z) (ha : PE X xa (tO T W0 wish P cf cm X.K a)) (hb : PE X xb (tO T W0 wish P cf cm X.K b)) (hs : nostar xb = true) (hbase : plainBase xa = true) (hline : (ap.endLine == pos.line) = true) :
    PE X (.Call (.Attribute xa z ap) [xb] [] pos) (tE T W0 wish P cf cm X.K (.mth p a [b])) := by
  cases p <;> simp only [mthC, Option.some.injEq, reduceCtorEq] at hp <;> subst hp
  · exact sn_mthS F.slot_str_split F.type_str_split mt_split (fun g h hv hw n => ok_split g h hv hw n) rfl ha hb hs hbase hline
  · exact sn_mthS F.slot_str_join F.type_str_join mt_join (fun g h hv hw n => ok_join g h hv hw n) rfl ha hb hs hbase hline
  · exact sn_mthS F.slot_str_partition F.type_str_partition mt_partN (fun g h hv hw n => ok_partition g h hv hw n) rfl ha hb hs hbase hline
  · exact sn_index hu ha hb hs hbase hline
  · exact sn_get1 (by omega) ha hb hs hbase hline
theorem mEs_len {sc : Scope} : ∀ {es : List E} {xs : List Expr}, mEs cn X.N sc raw es xs = true → es.length = xs.length
  | [], [], _ => rfl
  | e :: es, x :: xs, h => by
    simp only [mEs, Bool.and_eq_true] at h
    simp [mEs_len h.2]
  | [], _ :: _, h => by simp [mEs] at h
  | _ :: _, [], h => by simp [mEs] at h
/-- lists of readings -/
inductive OkL (X : Cx) (T : Tb) (W0 : Wd) (wish : Wish) (P : Pg) (cf cm : Nat → List D → Sto → ResF) : List E → List Expr → Prop
  | nil : OkL X T W0 wish P cf cm [] []
  | cons {e : E} {es : List E} {x : Expr} {xs : List Expr} : Oks X T W0 wish P cf cm e x → OkL X T W0 wish P cf cm es xs → OkL X T W0 wish P cf cm (e :: es) (x :: xs)
theorem OkL.pO : ∀ {es : List E} {xs : List Expr}, OkL X T W0 wish P cf cm es xs → xs.all nostar = true → PA X xs (tOs T W0 wish P cf cm X.K es)
  | _, _, .nil, _ => sn_nilO
  | _, _, .cons h t, hs => by
    simp only [List.all_cons, Bool.and_eq_true] at hs
    exact sn_consO hs.1 h.o (OkL.pO t hs.2)
theorem OkL.pD : ∀ {es : List E} {xs : List Expr}, OkL X T W0 wish P cf cm es xs → xs.all nostar = true → PA X xs (tEs T W0 wish P cf cm X.K es)
  | _, _, .nil, _ => sn_nilD
  | _, _, .cons h t, hs => by
    simp only [List.all_cons, Bool.and_eq_true] at hs
    exact sn_consD hs.1 h.v (OkL.pD t hs.2)
theorem OkL.and {pos : Pos} : ∀ {es : List E} {xs : List Expr}, OkL X T W0 wish P cf cm es xs → xs.isEmpty = false → PE X (.BoolOp .And xs pos) (tE T W0 wish P cf cm X.K (.andE es)) ∧ PW X (.BoolOp .And xs pos) (tTe T W0 wish P cf cm X.K (.andE es))
  | _, _, .nil, h => by cases h
  | _, _, .cons h .nil, _ => ⟨sn_and1 h.v, snW_and1 h.te⟩
  | _, _, .cons h (.cons h' t), _ => by
    obtain ⟨h1, h2⟩ := OkL.and (pos := pos) (.cons h' t) rfl
    exact ⟨sn_and h.v h1, snW_and h.te h2⟩
theorem OkL.or {pos : Pos} : ∀ {es : List E} {xs : List Expr}, OkL X T W0 wish P cf cm es xs → xs.isEmpty = false → PE X (.BoolOp .Or xs pos) (tE T W0 wish P cf cm X.K (.orE es)) ∧ PW X (.BoolOp .Or xs pos) (tTe T W0 wish P cf cm X.K (.orE es))
  | _, _, .nil, h => by cases h
  | _, _, .cons h .nil, _ => ⟨sn_or1 h.v, snW_or1 h.te⟩
  | _, _, .cons h (.cons h' t), _ => by
    obtain ⟨h1, h2⟩ := OkL.or (pos := pos) (.cons h' t) rfl
    exact ⟨sn_or h.v h1, snW_or h.te h2⟩
theorem box_te {e : E} {x : Expr} (h : PE X x (tE T W0 wish P cf cm X.K (.box e))) (hn : plainTest x = true) : Oks X T W0 wish P cf cm (.box e) x := Oks.mk1 (by intro i z; cases z) h hn
end
end Iv
/-! Sv14: expressions against the text -/
namespace Iv
open PySem PySem.Spec PyProof.Rows L2
section
variable {T : Tb} {W0 : Wd} {cn : Cn} {P : Pg} {cf cm : Nat → List D → Sto → ResF} {k : Nat}
theorem isTup_ok {x : Expr} (h : isTupE x = true) : ∃ a b c, x = .Tuple a b c := by
  cases x <;> first | exact ⟨_, _, _, rfl⟩ | cases h
theorem nv {e : E} (h : ∀ i, e ≠ .var i) : ∀ i, e ≠ .var i := h
mutual
theorem mE_ok : ∀ (e : E) {X : Cx} {wish : Wish} {raw : Scope} (c : Ctx X T cn P cf k raw) (tk : Takes X wish) (x : Expr), mE cn X.N X.env.scope raw e x = true → Oks X T W0 wish P cf cm e x
  | .bad, X, wish, raw, c, tk, x, h => by
    refine ⟨sn_bad, sn_o (by intro i z; cases z) sn_bad, ⟨fun pins s σ H Q I h => ?_⟩, ⟨fun pins s σ H Q I h => ?_⟩⟩
    · obtain ⟨W, ρ, _, _, h⟩ := h
      exact h.elim
    · obtain ⟨W, ρ, _, _, h⟩ := h
      exact h.elim
  | .non, X, wish, raw, c, tk, x, h => by
    unfold mE at h
    split at h
    · exact Oks.mk1 (by intro i z; cases z) (sn_c pe_non (fun W => .non) fun ρ S => by simp only [evE]) rfl
    · cases h
  | .bl b, X, wish, raw, c, tk, x, h => by
    unfold mE at h
    split at h
    · have := beq_iff_eq.mp h
      subst this
      exact Oks.mk1 (by intro i z; cases z) (sn_c pe_bl (fun W => .bl _) fun ρ S => by simp only [evE]) rfl
    · cases h
  | .int b, X, wish, raw, c, tk, x, h => by
    unfold mE at h
    split at h
    · have := of_decide_eq_true h
      subst this
      exact Oks.mk1 (by intro i z; cases z) (sn_c pe_int (fun W => .int _) fun ρ S => by simp only [evE]) rfl
    · cases h
  | .str b, X, wish, raw, c, tk, x, h => by
    unfold mE at h
    split at h
    · have := of_decide_eq_true h
      subst this
      exact Oks.mk1 (by intro i z; cases z) (sn_c pe_str (fun W => .str _) fun ρ S => by simp only [evE]) rfl
    · cases h
  | .var i, X, wish, raw, c, tk, x, h => by
    unfold mE at h
    split at h
    · rename_i y py
      simp only [Bool.and_eq_true, decide_eq_true_eq] at h
      obtain ⟨⟨h1, h2⟩, h3⟩ := h
      obtain ⟨d1, d2, d3⟩ := dbg_ok h3
      have hv := pe_var (X := X) (pos := py) h1 (vis_ok h2) d1 d2
      exact ⟨sn_var hv, pe_varO hv, pt_plainE (sn_d (sn_var hv)) (test_ok rfl), pt_plain (pe_varO hv) (test_ok rfl)⟩
    · cases h
  | .glob g, X, wish, raw, c, tk, x, h => by
    unfold mE at h
    split at h
    · simp only [Bool.and_eq_true, decide_eq_true_eq] at h
      obtain ⟨⟨h1, h2⟩, h3⟩ := h
      obtain ⟨d1, d2, d3⟩ := dbg_ok h3
      cases hd : P.glo[g]? with
      | none =>
        refine Oks.mk1 (by intro i z; cases z) ⟨fun pins s σ H Q I h => ?_⟩ rfl
        obtain ⟨W, ρ, _, _, h⟩ := h
        simp only [evE, hd, Option.map_none] at h
        exact h.elim
      | some d =>
        obtain ⟨u, v, m1, m2, m3⟩ := c.glo g _ d h1 hd
        exact Oks.mk1 (by intro i z; cases z) (sn_glob (gl_ok h2) m1 m2 d1 m3 hd) rfl
    · cases h
  | .tup es, X, wish, raw, c, tk, x, h => by
    unfold mE at h
    split at h
    · simp only [Bool.and_eq_true] at h
      exact Oks.mk1 (by intro i z; cases z) (sn_tup ((mEs_ok es c tk _ h.2).pD h.1)) rfl
    · cases h
  | .lst es, X, wish, raw, c, tk, x, h => by
    unfold mE at h
    split at h
    · simp only [Bool.and_eq_true] at h
      exact Oks.mk1 (by intro i z; cases z) (sn_lst ((mEs_ok es c tk _ h.2).pD h.1)) rfl
    · cases h
  | .bin op a b, X, wish, raw, c, tk, x, h => by
    unfold mE at h
    split at h
    · simp only [Bool.and_eq_true, decide_eq_true_eq] at h
      obtain ⟨⟨rfl, h1⟩, h2⟩ := h
      exact Oks.mk1 (by intro i z; cases z) (sn_bin (mE_ok a c tk _ h1).o (mE_ok b c tk _ h2).o) rfl
    · cases h
  | .neg a, X, wish, raw, c, tk, x, h => by
    unfold mE at h
    split at h
    · exact Oks.mk1 (by intro i z; cases z) (sn_neg (mE_ok a c tk _ h).o) rfl
    · cases h
  | .not a, X, wish, raw, c, tk, x, h => by
    unfold mE at h
    split at h
    · have q := mE_ok a c tk _ h
      exact Oks.mk2 (by intro i z; cases z) (sn_not q.o) (snT_not q.t)
    · cases h
  | .andE es, X, wish, raw, c, tk, x, h => by
    unfold mE at h
    split at h
    · simp only [Bool.and_eq_true, Bool.not_eq_true'] at h
      obtain ⟨q1, q2⟩ := (mEs_ok es c tk _ h.2).and h.1
      exact Oks.mk2 (by intro i z; cases z) q1 q2.pt
    · cases h
  | .orE es, X, wish, raw, c, tk, x, h => by
    unfold mE at h
    split at h
    · simp only [Bool.and_eq_true, Bool.not_eq_true'] at h
      obtain ⟨q1, q2⟩ := (mEs_ok es c tk _ h.2).or h.1
      exact Oks.mk2 (by intro i z; cases z) q1 q2.pt
    · cases h
  | .cmp op a b, X, wish, raw, c, tk, x, h => by
    unfold mE at h
    split at h
    · simp only [Bool.and_eq_true, Bool.not_eq_true', decide_eq_true_eq] at h
      obtain ⟨⟨⟨rfl, h0⟩, h1⟩, h2⟩ := h
      have qa := mE_ok a c tk _ h1
      have qb := mE_ok b c tk _ h2
      exact Oks.mk2 (by intro i z; cases z) (sn_cmp (units65 c.room) qa.o qb.o h0) (snT_cmp (units65 c.room) qa.o qb.o h0)
    · cases h
  | .cmp2 op op' a b d, X, wish, raw, c, tk, x, h => by
    unfold mE at h
    split at h
    · simp only [Bool.and_eq_true, Bool.not_eq_true', decide_eq_true_eq] at h
      obtain ⟨⟨⟨⟨⟨rfl, rfl⟩, h0⟩, h1⟩, h2⟩, h3⟩ := h
      have qa := mE_ok a c tk _ h1
      have qb := mE_ok b c tk _ h2
      have qd := mE_ok d c tk _ h3
      exact Oks.mk2 (by intro i z; cases z) (sn_cmp2 (units65 c.room) qa.o qb.o qd.o h0) (snT_cmp2 (units65 c.room) qa.o qb.o qd.o h0)
    · cases h
  | .ite e a b, X, wish, raw, c, tk, x, h => by
    unfold mE at h
    split at h
    · simp only [Bool.and_eq_true] at h
      obtain ⟨⟨h1, h2⟩, h3⟩ := h
      have qc := mE_ok e c tk _ h1
      have qa := mE_ok a c tk _ h2
      have qb := mE_ok b c tk _ h3
      exact Oks.mk2 (by intro i z; cases z) (sn_ite qc.t qa.v qb.v) (snT_ite qc.t qa.te qb.te)
    · cases h
  | .call f es, X, wish, raw, c, tk, x, h => by
    unfold mE at h
    split at h
    · simp only [Bool.and_eq_true, decide_eq_true_eq] at h
      obtain ⟨⟨⟨⟨⟨h1, h2⟩, h3⟩, h4⟩, h5⟩, h6⟩ := h
      obtain ⟨⟨y, np⟩, e1, e2⟩ := Option.map_eq_some_iff.mp h1
      subst e2
      exact Oks.mk1 (by intro i z; cases z) (sn_call h5 c.gd (c.fns f _ np e1) c.room (gl_ok h2) tk (dbg_ok h3).1 h4 ((mEs_ok es c tk _ h6).pD h4)) rfl
    · cases h
  | .prim p es, X, wish, raw, c, tk, x, h => by
    unfold mE at h
    split at h
    · split at h
      · rename_i hp
        simp only [Bool.and_eq_true, Bool.not_eq_true', decide_eq_true_eq] at h
        obtain ⟨⟨⟨⟨rfl, h2⟩, h3⟩, h4⟩, h5⟩ := h
        exact Oks.mk1 (by intro i z; cases z) (sn_prim1 c hp h2 h3 h4 ((mEs_ok es c tk _ h5).pO h4)) rfl
      · split at h
        · simp only [Bool.and_eq_true, decide_eq_true_eq] at h
          obtain ⟨⟨⟨⟨⟨rfl, h2⟩, rfl⟩, h4⟩, h5⟩, h6⟩ := h
          have q := mEs_ok es c tk _ h6
          cases q with
          | cons q1 q2 =>
            cases q2
            exact Oks.mk1 (by intro i z; cases z) (sn_listRev c.calm (gl_ok h2) (c.blt _ (by decide)) (gl_ok h4) (c.blt _ (by decide)) q1.o h5) rfl
        · simp only [Bool.and_eq_true, decide_eq_true_eq] at h
          obtain ⟨⟨⟨⟨⟨rfl, h2⟩, rfl⟩, h4⟩, h5⟩, h6⟩ := h
          have q := mEs_ok es c tk _ h6
          cases q with
          | cons q1 q2 =>
            cases q2
            exact Oks.mk1 (by intro i z; cases z) (sn_rangeL c.calm (gl_ok h2) (c.blt _ (by decide)) (gl_ok h4) (c.blt _ (by decide)) q1.o h5) rfl
        · simp only [Bool.and_eq_true, decide_eq_true_eq] at h
          obtain ⟨⟨⟨⟨⟨rfl, h2⟩, h3⟩, h4⟩, h5⟩, h6⟩ := h
          split at h3
          · rename_i hl
            have h3 := of_decide_eq_true h3
            subst h3
            obtain ⟨m1, m2, m3, m4, m5⟩ := isi_mem hl
            have q := mEs_ok es c tk _ h6
            cases q with
            | cons q1 q2 =>
              cases q2
              exact Oks.mk1 (by intro i z; cases z) (sn_isi (x := Str.empty) (gl_ok h2) (c.blt _ (by decide)) m1 (gl_ok h4) (c.blt _ m3) m2 m4 m5 h5 q1.o) rfl
          · cases h3
        · cases h
    · split at h
      · simp only [Bool.and_eq_true, decide_eq_true_eq] at h
        obtain ⟨rfl, h2⟩ := h
        have q := mEs_ok es c tk _ h2
        cases q with
        | cons q1 q2 =>
          cases q2
          exact Oks.mk1 (by intro i z; cases z) (sn_revL q1.o) rfl
      · cases h
    · cases h
  | .mth p o es, X, wish, raw, c, tk, x, h => by
    unfold mE at h
    split at h
    · split at h
      · rename_i hp
        simp only [Bool.and_eq_true, decide_eq_true_eq] at h
        obtain ⟨⟨⟨⟨⟨rfl, h2⟩, h3⟩, h4⟩, h5⟩, h6⟩ := h
        have q := mEs_ok es c tk _ h6
        have qo := mE_ok o c tk _ h5
        cases q with
        | cons q1 q2 =>
          cases q2
          exact Oks.mk1 (by intro i z; cases z) (sn_mth1 (units65 c.room) hp qo.o q1.o h4 h2 h3) rfl
      · cases h
    · split at h
      · simp only [Bool.and_eq_true, decide_eq_true_eq] at h
        obtain ⟨⟨⟨⟨⟨⟨⟨⟨rfl, h2⟩, h3⟩, h4⟩, h5⟩, h6⟩, h7⟩, h8⟩, h9⟩ := h
        exact Oks.mk1 (by intro i z; cases z) (sn_get2 (by have := units65 c.room; omega) (mE_ok o c tk _ h7).o (mE_ok _ c tk _ h8).o (mE_ok _ c tk _ h9).v h4 h5 h2 h3 h6) rfl
      · cases h
    · split at h
      · simp only [Bool.and_eq_true, decide_eq_true_eq] at h
        obtain ⟨⟨⟨rfl, h2⟩, h3⟩, h4⟩ := h
        exact Oks.mk1 (by intro i z; cases z) (sn_upper (mE_ok o c tk _ h4).o h2 h3) rfl
      · cases h
    · cases h
  | .dct es, X, wish, raw, c, tk, x, h => by
    unfold mE at h
    split at h
    · rename_i ks vs pos
      rw [Bool.or_eq_true] at h
      rcases h with h | h
      · simp only [Bool.and_eq_true, List.isEmpty_iff] at h
        obtain ⟨⟨rfl, rfl⟩, rfl⟩ := h
        exact Oks.mk1 (by intro i z; cases z) sn_dct0 rfl
      · simp only [Bool.and_eq_true, Bool.not_eq_true', decide_eq_true_eq] at h
        obtain ⟨⟨h1, h2⟩, h3⟩ := h
        obtain ⟨q1, q2, q3, q4⟩ := mDs_ok es c tk ks vs pos h3
        exact Oks.mk1 (by intro i z; cases z) (sn_dct q1 q2 q3 (by intro z; rw [z] at h1; cases h1) h2 q4) rfl
    · cases h
  | .ix a i, X, wish, raw, c, tk, x, h => by
    unfold mE at h
    split at h
    · simp only [Bool.and_eq_true] at h
      obtain ⟨⟨h1, h2⟩, h3⟩ := h
      exact Oks.mk1 (by intro i z; cases z) (sn_ix (by have := units65 c.room; omega) (mE_ok a c tk _ h2).o (mE_ok i c tk _ h3).o h1) rfl
    · cases h
  | .slS a st, X, wish, raw, c, tk, x, h => by
    unfold mE at h
    split at h
    · simp only [Bool.and_eq_true] at h
      exact Oks.mk1 (by intro i z; cases z) (sn_slS (mE_ok a c tk _ h.1).o (mE_ok st c tk _ h.2).o) rfl
    · cases h
  | .sl a lo hi, X, wish, raw, c, tk, x, h => by
    unfold mE at h
    split at h
    · rename_i xa xl xh p2 pos
      simp only [Bool.and_eq_true] at h
      obtain ⟨⟨h1, h2⟩, h3⟩ := h
      have ql := mEs_ok lo c tk _ h2
      have qh := mEs_ok hi c tk _ h3
      have pl : PO X xl (tPo T W0 wish P cf cm X.K lo) := by
        cases xl with
        | none => cases ql; exact sn_po0
        | some y => cases ql with | cons q1 q2 => cases q2; exact sn_po1 q1.o
      have ph : PO X xh (tPo T W0 wish P cf cm X.K hi) := by
        cases xh with
        | none => cases qh; exact sn_po0
        | some y => cases qh with | cons q1 q2 => cases q2; exact sn_po1 q1.o
      exact Oks.mk1 (by intro i z; cases z) (sn_sl (mE_ok a c tk _ h1).o pl ph) rfl
    · cases h
  | .box e, X, wish, raw, c, tk, x, h => by
    unfold mE at h
    simp only [Bool.and_eq_true] at h
    exact box_te (sn_box (mE_ok e c tk x h.2).v) h.1
  | .lc elt tg kk its cond own, X, wish, raw, c, tk, x, h => by
    unfold mE at h
    split at h
    · rename_i xelt xtg xit xifs scope pos
      simp only [Bool.and_eq_true, decide_eq_true_eq] at h
      obtain ⟨⟨⟨⟨⟨⟨h1, h2⟩, h3⟩, h4⟩, h5⟩, h6⟩, h7⟩ := h
      have ok := blkOk_by h1
      have hi : PI X xtg xit (tW T W0 wish P cf cm X.K kk its) := by
        split at h3
        · have q := mEs_ok its c tk _ h3
          cases q with
          | cons q1 q2 => cases q2; exact wk_seq q1.v
        · simp only [Bool.and_eq_true, decide_eq_true_eq] at h3
          obtain ⟨⟨⟨rfl, g1⟩, g2⟩, g3⟩ := h3
          have q := mEs_ok its c tk _ g3
          cases q with
          | cons q1 q2 => cases q2; exact wk_range1 (gl_ok g1) (c.blt _ (by decide)) g2 q1.v
        · simp only [Bool.and_eq_true, decide_eq_true_eq] at h3
          obtain ⟨⟨⟨⟨rfl, g1⟩, g2⟩, g3⟩, g4⟩ := h3
          have q := mEs_ok its c tk _ g4
          cases q with
          | cons q1 q2 =>
            cases q2 with
            | cons q2 q3 => cases q3; exact wk_range2 (gl_ok g1) (c.blt _ (by decide)) g2 g3 q1.v q2.v
        · simp only [Bool.and_eq_true, decide_eq_true_eq] at h3
          obtain ⟨⟨⟨⟨g0, rfl⟩, g1⟩, g2⟩, g3⟩ := h3
          obtain ⟨xa, xb, xc, rfl⟩ := isTup_ok g0
          have q := mEs_ok its c tk _ g3
          cases q with
          | cons q1 q2 => cases q2; exact wk_enum (gl_ok g1) (c.blt _ (by decide)) g2 q1.v
        · simp only [Bool.and_eq_true, decide_eq_true_eq] at h3
          obtain ⟨⟨⟨⟨⟨g0, rfl⟩, g1⟩, g2⟩, g3⟩, g4⟩ := h3
          obtain ⟨xa, xb, xc, rfl⟩ := isTup_ok g0
          have q := mEs_ok its c tk _ g4
          cases q with
          | cons q1 q2 =>
            cases q2 with
            | cons q2 q3 => cases q3; exact wk_zip (gl_ok g1) (c.blt _ (by decide)) g2 g3 q1.v q2.v
        · cases h3
      have e1 : own = (own.map fun i => (X.N.getD i Str.empty, i)).map (·.2) := by simp [Function.comp_def]
      have hE : PE X (.ListComp xelt [⟨xtg, xit, xifs, 0⟩] scope pos) (tE T W0 wish P cf cm X.K (.lc elt tg kk its cond own)) := by
        rw [e1]
        refine sn_lc c.calm c.nd hi ok (fun s H C cl fp => mT_ok (c.blk s H scope C cl fp) tg xtg h4) (fun s H C cl fp => ?_) (fun s H C cl fp => (mE_ok elt (c.blk s H scope C cl fp) takes0 xelt h7).v) h2
        have q := mEs_ok cond (c.blk s H scope C cl fp) takes0 xifs h5
        cases q with
        | nil =>
          refine ⟨fun pins s σ H Q I h => pts_nil.run pins s σ H Q I ?_⟩
          obtain ⟨W, ρ, rfl, g, q⟩ := h
          simp only [evC] at q
          exact Dm.ok q g rfl
        | cons q1 q2 =>
          cases q2 with
          | nil =>
            refine ⟨fun pins s σ H Q I h => (pts_one q1.t).run pins s σ H Q I ?_⟩
            obtain ⟨W, ρ, e, g, q⟩ := h
            simp only [evC] at q
            exact ⟨W, ρ, e, g, q⟩
          | cons q2 q3 => simp at h6
      exact Oks.mk1 (by intro i z; cases z) hE rfl
    · cases h
  | .pop o es, X, wish, raw, c, tk, x, h => by
    unfold mE at h
    split at h
    · split at h
      · simp only [Bool.and_eq_true, decide_eq_true_eq] at h
        obtain ⟨⟨⟨⟨⟨rfl, h2⟩, h3⟩, h4⟩, h5⟩, h6⟩ := h
        exact Oks.mk1 (by intro i z; cases z) (sn_pop1 (mE_ok o c tk _ h5).o (mE_ok _ c tk _ h6).o h4 h2 h3) rfl
      · cases h
    · cases h
  | .dt0, X, wish, raw, c, tk, x, h | .inv _, X, wish, raw, c, tk, x, h | .meth _ _ _, X, wish, raw, c, tk, x, h | .make _ _, X, wish, raw, c, tk, x, h | .sortK _ _, X, wish, raw, c, tk, x, h
  | .attr _ _, X, wish, raw, c, tk, x, h | .setdef _ _ _, X, wish, raw, c, tk, x, h | .mkx _ _, X, wish, raw, c, tk, x, h => by simp [mE] at h
theorem mEs_ok : ∀ (es : List E) {X : Cx} {wish : Wish} {raw : Scope} (c : Ctx X T cn P cf k raw) (tk : Takes X wish) (xs : List Expr), mEs cn X.N X.env.scope raw es xs = true → OkL X T W0 wish P cf cm es xs
  | [], X, wish, raw, c, tk, [], _ => .nil
  | e :: es, X, wish, raw, c, tk, x :: xs, h => by
    simp only [mEs, Bool.and_eq_true] at h
    exact .cons (mE_ok e c tk x h.1) (mEs_ok es c tk xs h.2)
  | [], X, wish, raw, c, tk, _ :: _, h => by simp [mEs] at h
  | _ :: _, X, wish, raw, c, tk, [], h => by simp [mEs] at h
theorem mDs_ok : ∀ (es : List E) {X : Cx} {wish : Wish} {raw : Scope} (c : Ctx X T cn P cf k raw) (tk : Takes X wish) (ks : List (Option Expr)) (vs : List Expr) (pos : Pos), mDs cn X.N X.env.scope raw es ks vs = true →
    PPs X pos ks vs (prs X T W0 wish P cf cm es) ∧ ks.all (·.isSome) = true ∧ ks.length = vs.length ∧ es.length % 2 = 0
  | [], X, wish, raw, c, tk, [], [], pos, _ => ⟨pps_nil, rfl, rfl, rfl⟩
  | e1 :: e2 :: es, X, wish, raw, c, tk, some xk :: ks, xv :: vs, pos, h => by
    simp only [mDs, Bool.and_eq_true] at h
    obtain ⟨⟨h1, h2⟩, h3⟩ := h
    obtain ⟨q1, q2, q3, q4⟩ := mDs_ok es c tk ks vs pos h3
    exact ⟨pps_cons (sn_d (mE_ok e1 c tk xk h1).v) (sn_d (mE_ok e2 c tk xv h2).v) q1, by simp [q2], by simp [q3], by simp; omega⟩
  | [], X, wish, raw, c, tk, _ :: _, _, pos, h => by simp [mDs] at h
  | [], X, wish, raw, c, tk, [], _ :: _, pos, h => by simp [mDs] at h
  | [_], X, wish, raw, c, tk, _, _, pos, h => by simp [mDs] at h
  | _ :: _ :: _, X, wish, raw, c, tk, [], _, pos, h => by simp [mDs] at h
  | _ :: _ :: _, X, wish, raw, c, tk, none :: _, _, pos, h => by simp [mDs] at h
  | _ :: _ :: _, X, wish, raw, c, tk, some _ :: _, [], pos, h => by simp [mDs] at h
end
theorem lc_parts {X : Cx} {wish : Wish} {raw : Scope} (c : Ctx X T cn P cf k raw) (tk : Takes X wish) {elt : E} {tg : Tg} {kk : Ik} {its cond : List E} {own : List Nat} {x : Expr} (h : mE cn X.N X.env.scope raw (.lc elt tg kk its cond own) x = true) :
    ∃ xelt xtg xit xifs scope pos, x = .ListComp xelt [⟨xtg, xit, xifs, 0⟩] scope pos ∧ PI X xtg xit (tW T W0 wish P cf cm X.K kk its) ∧ BlkOk X.N X.env.scope scope (own.map fun i => (X.N.getD i Str.empty, i)) ∧
    (∀ (s : Shared) (H : Hp) (C : Addr) (cl : List (Str × Addr)) (fp : List Addr), PG (X.blk s H scope (compEnvC scope cl C X.env) fp) xtg (tTg T W0 X.K tg)) ∧
    (∀ (s : Shared) (H : Hp) (C : Addr) (cl : List (Str × Addr)) (fp : List Addr), PTs (X.blk s H scope (compEnvC scope cl C X.env) fp) xifs (tCd T W0 P cf cm X.K cond)) ∧
    (∀ (s : Shared) (H : Hp) (C : Addr) (cl : List (Str × Addr)) (fp : List Addr), PE (X.blk s H scope (compEnvC scope cl C X.env) fp) xelt (tE T W0 noW P cf cm X.K elt)) ∧ notSet xit = true := by
    unfold mE at h
    split at h
    · rename_i xelt xtg xit xifs scope pos
      simp only [Bool.and_eq_true, decide_eq_true_eq] at h
      obtain ⟨⟨⟨⟨⟨⟨h1, h2⟩, h3⟩, h4⟩, h5⟩, h6⟩, h7⟩ := h
      have ok := blkOk_by h1
      have hi : PI X xtg xit (tW T W0 wish P cf cm X.K kk its) := by
        split at h3
        · have q := mEs_ok (W0 := W0) (cm := cm) its c tk _ h3
          cases q with
          | cons q1 q2 => cases q2; exact wk_seq q1.v
        · simp only [Bool.and_eq_true, decide_eq_true_eq] at h3
          obtain ⟨⟨⟨rfl, g1⟩, g2⟩, g3⟩ := h3
          have q := mEs_ok (W0 := W0) (cm := cm) its c tk _ g3
          cases q with
          | cons q1 q2 => cases q2; exact wk_range1 (gl_ok g1) (c.blt _ (by decide)) g2 q1.v
        · simp only [Bool.and_eq_true, decide_eq_true_eq] at h3
          obtain ⟨⟨⟨⟨rfl, g1⟩, g2⟩, g3⟩, g4⟩ := h3
          have q := mEs_ok (W0 := W0) (cm := cm) its c tk _ g4
          cases q with
          | cons q1 q2 =>
            cases q2 with
            | cons q2 q3 => cases q3; exact wk_range2 (gl_ok g1) (c.blt _ (by decide)) g2 g3 q1.v q2.v
        · simp only [Bool.and_eq_true, decide_eq_true_eq] at h3
          obtain ⟨⟨⟨⟨g0, rfl⟩, g1⟩, g2⟩, g3⟩ := h3
          obtain ⟨xa, xb, xc, rfl⟩ := isTup_ok g0
          have q := mEs_ok (W0 := W0) (cm := cm) its c tk _ g3
          cases q with
          | cons q1 q2 => cases q2; exact wk_enum (gl_ok g1) (c.blt _ (by decide)) g2 q1.v
        · simp only [Bool.and_eq_true, decide_eq_true_eq] at h3
          obtain ⟨⟨⟨⟨⟨g0, rfl⟩, g1⟩, g2⟩, g3⟩, g4⟩ := h3
          obtain ⟨xa, xb, xc, rfl⟩ := isTup_ok g0
          have q := mEs_ok (W0 := W0) (cm := cm) its c tk _ g4
          cases q with
          | cons q1 q2 =>
            cases q2 with
            | cons q2 q3 => cases q3; exact wk_zip (gl_ok g1) (c.blt _ (by decide)) g2 g3 q1.v q2.v
        · cases h3
      refine ⟨xelt, xtg, xit, xifs, scope, pos, rfl, hi, ok, fun s H C cl fp => mT_ok (c.blk s H scope C cl fp) tg xtg h4, fun s H C cl fp => ?_, fun s H C cl fp => (mE_ok elt (c.blk s H scope C cl fp) takes0 xelt h7).v, h2⟩
      have q := mEs_ok (W0 := W0) (cm := cm) cond (c.blk s H scope C cl fp) takes0 xifs h5
      cases q with
      | nil =>
        refine ⟨fun pins s σ H Q I h => pts_nil.run pins s σ H Q I ?_⟩
        obtain ⟨W, ρ, rfl, g, q⟩ := h
        simp only [evC] at q
        exact Dm.ok q g rfl
      | cons q1 q2 =>
        cases q2 with
        | nil =>
          refine ⟨fun pins s σ H Q I h => (pts_one q1.t).run pins s σ H Q I ?_⟩
          obtain ⟨W, ρ, e, g, q⟩ := h
          simp only [evC] at q
          exact ⟨W, ρ, e, g, q⟩
        | cons q2 q3 => simp at h6
    · cases h
end
end Iv
/-! Sv15: statements against the text; defs -/
namespace Iv
open PySem PySem.Spec PyProof.Rows L2
/-- the stores of a tuple's parts are not exchanged -/
def noSwap (x : Expr) : Bool := match x with
  | .Tuple _ _ _ => false
  | _ => true
theorem noSwap_ok {ts : List Expr} {kk : Nat} {p : Pos} {x : Expr} {env : PySem.Env} (h : noSwap x = true) : swappedStores [.Tuple ts kk p] x env = pure none := by
  cases x <;> first | rfl | exact absurd h Bool.false_ne_true
/-- whether a comprehension's names stand in the frame while it is stored -/
def swapB (sc : Scope) (y : Str) (py : Pos) (x : Expr) : Bool := match x with
  | .ListComp _ _ s p => (sc.names.lookup y == some .local) && py.line == p.line && !(s.names.any fun (n, k) => n == y && (k == .local || k == .cell))
  | _ => false
def okV (x : Expr) : Bool := match x with
  | .SetComp _ _ _ _ => false
  | .DictComp _ _ _ _ _ => false
  | _ => true
def isLc : E → Bool
  | .lc _ _ _ _ _ _ => true
  | .box (.lc _ _ _ _ _ _) => true
  | _ => false
def noSwapC (sc : Scope) (xs : List Expr) : Bool := xs.any fun x => match x with
  | .Name y _ => !decide (sc.names.lookup y = some .local)
  | _ => true
theorem noSwapC_ok {ts : List Expr} {kk : Nat} {p : Pos} {x : Expr} {env : PySem.Env} (h : noSwapC env.scope ts = true) : swappedStores [.Tuple ts kk p] x env = pure none := by
  unfold swappedStores
  cases x with
  | Tuple vs k2 p2 =>
    simp
    intro _ _ _ _ hall
    exfalso
    obtain ⟨a, ha, hb⟩ := List.any_eq_true.mp h
    refine hall a ha ?_
    cases a with
    | Name y q =>
      have hb : (!decide (env.scope.names.lookup y = some .local)) = true := hb
      have hb : ¬ (env.scope.names.lookup y = some .local) := by simpa using hb
      exact if_neg fun z => hb z.1
    | _ => rfl
  | _ => rfl
theorem swapB_ok {y : Str} {py : Pos} {l : Nat} {x : Expr} {env : PySem.Env} (hb : env.blockKind = .function) (ho : okV x = true) : swapsWith x (some (.Name y py)) l env = pure (swapB env.scope y py x) := by
  cases x with
  | ListComp a b s p =>
    show (pure (env.blockKind == .function && env.kindOf y == some .local && py.line == p.line && !(s.names.any fun (n, k) => n == y && (k == .local || k == .cell))) : Sem Bool) = pure (swapB env.scope y py (.ListComp a b s p))
    rw [hb]
    rfl
  | SetComp a b s p => cases ho
  | DictComp a b c s p => cases ho
  | _ => rfl
section
variable (cn : Cn) (N : List Str)
def mI (sc raw : Scope) (k : Ik) (its : List E) (xtg x : Expr) : Bool := notSet x && (match k, x with
  | .seq, x => mEs cn N sc raw its [x]
  | .range1, .Call (.Name r _) [x1] [] _ => decide (r = ("range" : Str)) && glC sc r && nostar x1 && mEs cn N sc raw its [x1]
  | .range2, .Call (.Name r _) [x1, x2] [] _ => decide (r = ("range" : Str)) && glC sc r && nostar x1 && nostar x2 && mEs cn N sc raw its [x1, x2]
  | .enum, .Call (.Name r _) [x1] [] _ => isTupE xtg && decide (r = ("enumerate" : Str)) && glC sc r && nostar x1 && mEs cn N sc raw its [x1]
  | .zip, .Call (.Name r _) [x1, x2] [] _ => isTupE xtg && decide (r = ("zip" : Str)) && glC sc r && nostar x1 && nostar x2 && mEs cn N sc raw its [x1, x2]
  | _, _ => false)
def par3C (sc : Scope) (i j l : Nat) (y z w : Str) (p1 p2 p5 : Pos) (x1 x2 x3 : Expr) : Bool := decide (N[i]? = some y) && decide (N[j]? = some z) && decide (N[l]? = some w) && decide (i ≠ j) && decide (i ≠ l) && decide (j ≠ l) &&
  decide (sc.names.lookup y = some .local) && decide (sc.names.lookup z = some .local) && decide (sc.names.lookup w = some .local) && decide (p1.line = p2.line) && decide (p1.line = p5.line) && decide (y ≠ z) && decide (y ≠ w) && decide (z ≠ w) && nostar x1 && nostar x2 && nostar x3 &&
  !(foldedForSure 8 x1 && foldedForSure 8 x2 && foldedForSure 8 x3) && !(constantsAlone 8 x1 && constantsAlone 8 x2 && constantsAlone 8 x3)
mutual
def mS (sc : Scope) : Sm → Stmt → Bool
  | .bad, _ => true
  | .pass, x => (match x with | .Pass _ => true | _ => false)
  | .asg (.nm i) e, x => (match x with | .Assign [.Name y py] xe _ => decide (N[i]? = some y) && stoC sc sc y && okV xe && (!(swapB sc y py xe) || isLc e) && mE cn N sc sc e xe | _ => false)
  | .asg (.tp ts) e, x => (match x with
    | .Assign [.Tuple xs _ _] xe _ => ((noSwap xe || noSwapC sc xs) && notComp xe && xs.all tgShape && mTs N sc sc ts xs && mE cn N sc sc e xe) ||
      (match ts, e, xs, xe with
        | [.nm i, .nm j], .tup [e1, e2], [.Name y p1, .Name z p2], .Tuple [x1, x2] _ _ => decide (N[i]? = some y) && decide (N[j]? = some z) && decide (i ≠ j) && decide (sc.names.lookup y = some .local) && decide (sc.names.lookup z = some .local) && decide (p1.line = p2.line) && decide (y ≠ z) && nostar x1 && nostar x2 && !(foldedForSure 8 x1 && foldedForSure 8 x2) && !(constantsAlone 8 x1 && constantsAlone 8 x2) && mE cn N sc sc e1 x1 && mE cn N sc sc e2 x2
        | [.nm i, .nm j, .nm l], .tup [e1, e2, e3], [.Name y p1, .Name z p2, .Name w p5], .Tuple [x1, x2, x3] _ _ => par3C N sc i j l y z w p1 p2 p5 x1 x2 x3 && mE cn N sc sc e1 x1 && mE cn N sc sc e2 x2 && mE cn N sc sc e3 x3
        | _, _, _, _ => false)
    | _ => false)
  | .setX o i e, x => (match x with | .Assign [.Subscript xo xi _] xe _ => noSlice xi && notComp xe && mE cn N sc sc o xo && mE cn N sc sc i xi && mE cn N sc sc e xe | _ => false)
  | .expr e, x => (match x with | .Expr xe _ => notComp xe && mE cn N sc sc e xe | _ => false)
  | .ite c t f, x => (match x with | .If xc xt xf _ => mE cn N sc sc c xc && mSs sc t xt && mSs sc f xf | _ => false)
  | .for_ tg k its body _, x => (match x with | .For xt xi xb [] _ => mT N sc sc tg xt && mI cn N sc sc k its xt xi && mSs sc body xb | _ => false)
  | .while_ c body _, x => (match x with | .While xc xb [] _ => mE cn N sc sc c xc && mSs sc body xb | _ => false)
  | .ret e, x => (match x with | .Return (some xe) _ => mE cn N sc sc e xe | _ => false)
  | .retN, x => (match x with | .Return none _ => true | _ => false)
  | .asgM i j, x => (match x with | .Assign [.Name y _] (.Name z _) _ => decide (N[i]? = some y) && stoC sc sc y && decide (N[j]? = some z) && visC sc z && dbgOk z | _ => false)
  | .setO i k e, x => (match x with | .Assign [.Subscript (.Name y _) xk _] xe _ => decide (N[i]? = some y) && visC sc y && dbgOk y && noSlice xk && notComp xe && mE cn N sc sc k xk && mE cn N sc sc e xe | _ => false)
  | .setK i k e, x => (match x with | .Assign [.Subscript (.Name y _) xk _] xe _ => decide (N[i]? = some y) && visC sc y && dbgOk y && noSlice xk && notComp xe && mE cn N sc sc k xk && mE cn N sc sc e xe | _ => false)
  | .setXK o i e, x => (match x with | .Assign [.Subscript xo xi _] xe _ => noSlice xi && notComp xe && mE cn N sc sc o xo && mE cn N sc sc i xi && mE cn N sc sc e xe | _ => false)
  | .mutO i m es, x => (match x with
    | .Expr (.Call (.Attribute (.Name y _) nm ap) [xa] [] pos) _ => (match m, es with
      | .append, [e] => decide (nm = ("append" : Str)) && decide (N[i]? = some y) && visC sc y && dbgOk y && nostar xa && (ap.endLine == pos.line) && mE cn N sc sc e xa
      | _, _ => false)
    | .Expr (.Call (.Attribute (.Name y _) nm ap) [xa, xb] [] pos) _ => (match m, es with
      | .insert, [e1, e2] => decide (nm = ("insert" : Str)) && decide (N[i]? = some y) && visC sc y && dbgOk y && nostar xa && nostar xb && (ap.endLine == pos.line) && mE cn N sc sc e1 xa && mE cn N sc sc e2 xb
      | _, _ => false)
    | .Expr (.Call (.Attribute (.Name y _) nm ap) [] [] pos) _ => (match m, es with
      | .reverse, [] => decide (nm = ("reverse" : Str)) && decide (N[i]? = some y) && visC sc y && dbgOk y && (ap.endLine == pos.line)
      | .clear, [] => decide (nm = ("clear" : Str)) && decide (N[i]? = some y) && visC sc y && dbgOk y && (ap.endLine == pos.line)
      | _, _ => false)
    | _ => false)
  | .mutX o m es, x => (match x with
    | .Expr (.Call (.Attribute xo nm ap) [xa] [] pos) _ => (match m, es with
      | .append, [e] => decide (nm = ("append" : Str)) && plainBase xo && nostar xa && (ap.endLine == pos.line) && mE cn N sc sc o xo && mE cn N sc sc e xa
      | _, _ => false)
    | .Expr (.Call (.Attribute xo nm ap) [xa, xb] [] pos) _ => (match m, es with
      | .insert, [e1, e2] => decide (nm = ("insert" : Str)) && plainBase xo && nostar xa && nostar xb && (ap.endLine == pos.line) && mE cn N sc sc o xo && mE cn N sc sc e1 xa && mE cn N sc sc e2 xb
      | _, _ => false)
    | .Expr (.Call (.Attribute xo nm ap) [] [] pos) _ => (match m, es with
      | .reverse, [] => decide (nm = ("reverse" : Str)) && plainBase xo && (ap.endLine == pos.line) && mE cn N sc sc o xo
      | .clear, [] => decide (nm = ("clear" : Str)) && plainBase xo && (ap.endLine == pos.line) && mE cn N sc sc o xo
      | _, _ => false)
    | _ => false)
  | .retM i, x => (match x with | .Return (some (.Name y _)) _ => decide (N[i]? = some y) && visC sc y && dbgOk y | _ => false)
  | _, _ => false
def mSs (sc : Scope) : List Sm → List Stmt → Bool
  | [], [] => true
  | s :: ss, x :: xs => mS sc s x && mSs sc ss xs
  | _, _ => false
end
end
section
variable {T : Tb} {W0 : Wd} {cn : Cn} {P : Pg} {cf cm : Nat → List D → Sto → ResF} {k : Nat} {X : Cx} {wish : Wish}
theorem mI_ok {raw : Scope} (c : Ctx X T cn P cf k raw) (tk : Takes X wish) {kk : Ik} {its : List E} {xit xtg : Expr} (h : mI cn X.N X.env.scope raw kk its xtg xit = true) : PI X xtg xit (tW T W0 wish P cf cm X.K kk its) ∧ notSet xit = true := by
  unfold mI at h
  rw [Bool.and_eq_true] at h
  obtain ⟨h2, h3⟩ := h
  refine ⟨?_, h2⟩
  split at h3
  · have q := mEs_ok (W0 := W0) (cm := cm) its c tk _ h3
    cases q with
    | cons q1 q2 => cases q2; exact wk_seq q1.v
  · simp only [Bool.and_eq_true, decide_eq_true_eq] at h3
    obtain ⟨⟨⟨rfl, g1⟩, g2⟩, g3⟩ := h3
    have q := mEs_ok (W0 := W0) (cm := cm) its c tk _ g3
    cases q with
    | cons q1 q2 => cases q2; exact wk_range1 (gl_ok g1) (c.blt _ (by decide)) g2 q1.v
  · simp only [Bool.and_eq_true, decide_eq_true_eq] at h3
    obtain ⟨⟨⟨⟨rfl, g1⟩, g2⟩, g3⟩, g4⟩ := h3
    have q := mEs_ok (W0 := W0) (cm := cm) its c tk _ g4
    cases q with
    | cons q1 q2 =>
      cases q2 with
      | cons q2 q3 => cases q3; exact wk_range2 (gl_ok g1) (c.blt _ (by decide)) g2 g3 q1.v q2.v
  · simp only [Bool.and_eq_true, decide_eq_true_eq] at h3
    obtain ⟨⟨⟨⟨g0, rfl⟩, g1⟩, g2⟩, g3⟩ := h3
    obtain ⟨xa, xb, xc, rfl⟩ := isTup_ok g0
    have q := mEs_ok (W0 := W0) (cm := cm) its c tk _ g3
    cases q with
    | cons q1 q2 => cases q2; exact wk_enum (gl_ok g1) (c.blt _ (by decide)) g2 q1.v
  · simp only [Bool.and_eq_true, decide_eq_true_eq] at h3
    obtain ⟨⟨⟨⟨⟨g0, rfl⟩, g1⟩, g2⟩, g3⟩, g4⟩ := h3
    obtain ⟨xa, xb, xc, rfl⟩ := isTup_ok g0
    have q := mEs_ok (W0 := W0) (cm := cm) its c tk _ g4
    cases q with
    | cons q1 q2 =>
      cases q2 with
      | cons q2 q3 => cases q3; exact wk_zip (gl_ok g1) (c.blt _ (by decide)) g2 g3 q1.v q2.v
  · cases h3
theorem swap2_ok {y z : Str} {p1 p2 p3 p4 : Pos} {k1 k2 : Nat} {x1 x2 : Expr} {env : PySem.Env} (hb : env.blockKind = .function) (hy : env.kindOf y = some .local) (hz : env.kindOf z = some .local) (hl : p1.line = p2.line) (hn : y ≠ z) (s1 : nostar x1 = true) (s2 : nostar x2 = true)
    (hf : (foldedForSure 8 x1 && foldedForSure 8 x2) = false) (hc : (constantsAlone 8 x1 && constantsAlone 8 x2) = false) :
    swappedStores [.Tuple [.Name y p1, .Name z p2] k1 p3] (.Tuple [x1, x2] k2 p4) env = pure (some [y, z]) := by
  have hyz : (y == z) = false := beq_eq_false_iff_ne.mpr hn
  have hzy : (z == y) = false := beq_eq_false_iff_ne.mpr fun e => hn e.symm
  unfold swappedStores
  simp only [List.length_cons, List.length_nil, List.any_cons, List.any_nil, List.head?_cons, Option.map_some, Option.getD_some, List.filterMap_cons, List.filterMap_nil, hy, hz, hb]
  have p1 : (Expr.Name y p1).pos.line = p2.line := hl
  simp [p1, hl, hc, hf, List.eraseDups_cons, hyz, hzy, hn, Ne.symm hn]
  intro h
  exfalso
  rcases h with h | h
  · cases x1 <;> first | exact absurd h Bool.false_ne_true | exact absurd s1 Bool.false_ne_true
  · cases x2 <;> first | exact absurd h Bool.false_ne_true | exact absurd s2 Bool.false_ne_true
theorem swap3_ok {y z w : Str} {p1 p2 p3 p4 p5 : Pos} {k1 k2 : Nat} {x1 x2 x3 : Expr} {env : PySem.Env} (hb : env.blockKind = .function) (hy : env.kindOf y = some .local) (hz : env.kindOf z = some .local) (hw : env.kindOf w = some .local) (hl : p1.line = p2.line) (hl2 : p1.line = p5.line) (hn : y ≠ z) (hn2 : y ≠ w) (hn3 : z ≠ w)
    (s1 : nostar x1 = true) (s2 : nostar x2 = true) (s3 : nostar x3 = true) (hf : (foldedForSure 8 x1 && foldedForSure 8 x2 && foldedForSure 8 x3) = false) (hc : (constantsAlone 8 x1 && constantsAlone 8 x2 && constantsAlone 8 x3) = false) :
    swappedStores [.Tuple [.Name y p1, .Name z p2, .Name w p5] k1 p3] (.Tuple [x1, x2, x3] k2 p4) env = pure (some [y, z, w]) := by
  have e1 : (y == z) = false := beq_eq_false_iff_ne.mpr hn
  have e2 : (z == y) = false := beq_eq_false_iff_ne.mpr fun e => hn e.symm
  have e3 : (y == w) = false := beq_eq_false_iff_ne.mpr hn2
  have e4 : (w == y) = false := beq_eq_false_iff_ne.mpr fun e => hn2 e.symm
  have e5 : (z == w) = false := beq_eq_false_iff_ne.mpr hn3
  have e6 : (w == z) = false := beq_eq_false_iff_ne.mpr fun e => hn3 e.symm
  unfold swappedStores
  simp only [List.length_cons, List.length_nil, List.any_cons, List.any_nil, List.head?_cons, Option.map_some, Option.getD_some, List.filterMap_cons, List.filterMap_nil, hy, hz, hw, hb]
  have q1 : (Expr.Name y p1).pos.line = p2.line := hl
  have q2 : p2.line = p5.line := hl.symm.trans hl2
  have hf' : (foldedForSure 8 x1 && (foldedForSure 8 x2 && foldedForSure 8 x3)) = false := by rw [← Bool.and_assoc]; exact hf
  have hc' : (constantsAlone 8 x1 && (constantsAlone 8 x2 && constantsAlone 8 x3)) = false := by rw [← Bool.and_assoc]; exact hc
  simp [q1, hl, q2, hc', hf', List.eraseDups_cons, e1, e2, e3, e4, e5, e6, hn, hn2, hn3, Ne.symm hn, Ne.symm hn2, Ne.symm hn3]
  intro h
  exfalso
  rcases h with h | h | h
  · cases x1 <;> first | exact absurd h Bool.false_ne_true | exact absurd s1 Bool.false_ne_true
  · cases x2 <;> first | exact absurd h Bool.false_ne_true | exact absurd s2 Bool.false_ne_true
  · cases x3 <;> first | exact absurd h Bool.false_ne_true | exact absurd s3 Bool.false_ne_true
mutual
theorem mS_ok (c : Ctx X T cn P cf k X.env.scope) (tk : Takes X wish) (hp : PassesOwn (model X.prog X.w) X.A X.env X.xe) (hb : X.env.blockKind = .function) : ∀ (s : Sm) (x : Stmt), mS cn X.N X.env.scope s x = true → PS X x (tS X.K T W0 wish (evS P cf cm s))
  | .bad, x, _ => st_bad
  | .pass, x, h => by
    unfold mS at h
    split at h
    · exact st_pass
    · cases h
  | .asg (.nm i) e, x, h => by
    unfold mS at h
    split at h
    · simp only [Bool.and_eq_true, decide_eq_true_eq] at h
      obtain ⟨⟨⟨⟨h1, h2⟩, h3⟩, h5⟩, h4⟩ := h
      obtain ⟨l1, l2⟩ := c.sto _ h2
      rename_i y py xe p
      cases hsw : swapB X.env.scope y py xe with
      | false => exact st_asgN c.nd h1 l1 l2 (by rw [swapB_ok hb h3, hsw]) (mE_ok e c tk _ h4).v
      | true =>
        rw [hsw] at h5
        cases e with
        | lc elt tg kk its cond own =>
          obtain ⟨xelt, xtg, xit, xifs, scope, pos, rfl, q1, q2, q3, q4, q5, q6⟩ := lc_parts (T := T) (W0 := W0) (cm := cm) c tk h4
          have hl : X.env.scope.names.lookup y = some .local := by
            simp only [swapB, Bool.and_eq_true] at hsw
            exact eq_of_beq hsw.1.1
          have e1 : own = (own.map fun i => (X.N.getD i Str.empty, i)).map (·.2) := by simp [Function.comp_def]
          have h0 := swapB_ok (y := y) (py := py) (l := p.line) hb h3
          rw [hsw] at h0
          rw [e1]
          exact st_asgLc c.calm c.nd h1 hl h0 q1 q2 q3 q4 q5 q6
        | box e =>
          cases e with
          | lc elt tg kk its cond own =>
            unfold mE at h4
            rw [Bool.and_eq_true] at h4
            obtain ⟨xelt, xtg, xit, xifs, scope, pos, rfl, q1, q2, q3, q4, q5, q6⟩ := lc_parts (T := T) (W0 := W0) (cm := cm) c tk h4.2
            have hl : X.env.scope.names.lookup y = some .local := by
              simp only [swapB, Bool.and_eq_true] at hsw
              exact eq_of_beq hsw.1.1
            have e1 : own = (own.map fun i => (X.N.getD i Str.empty, i)).map (·.2) := by simp [Function.comp_def]
            have h0 := swapB_ok (y := y) (py := py) (l := p.line) hb h3
            rw [hsw] at h0
            rw [e1]
            exact st_asgLcB c.calm c.nd h1 hl h0 q1 q2 q3 q4 q5 q6
          | _ => simp [isLc] at h5
        | _ => simp [isLc] at h5
    · cases h
  | .asg (.tp ts) e, x, h => by
    unfold mS at h
    split at h
    · rw [Bool.or_eq_true] at h
      rcases h with h | h
      · simp only [Bool.and_eq_true] at h
        obtain ⟨⟨⟨⟨h1, h2⟩, h3⟩, h4⟩, h5⟩ := h
        exact st_asgT (sn_tgT c.calm h3 (mTs_len h4) (mTs_ok c ts _ h4)) h2 ((Bool.or_eq_true _ _ ▸ h1).elim noSwap_ok noSwapC_ok) (mE_ok e c tk _ h5).v
      · split at h
        · simp only [Bool.and_eq_true, decide_eq_true_eq, Bool.not_eq_true'] at h
          obtain ⟨⟨⟨⟨⟨⟨⟨⟨⟨⟨⟨⟨h1, h2⟩, h3⟩, h4⟩, h5⟩, h6⟩, h7⟩, h8⟩, h9⟩, h10⟩, h11⟩, h12⟩, h13⟩ := h
          exact st_par c.calm c.nd h1 h2 h3 h4 h5 h8 h9 (swap2_ok hb h4 h5 h6 h7 h8 h9 h10 h11) (mE_ok _ c tk _ h12).v (mE_ok _ c tk _ h13).v
        · simp only [Bool.and_eq_true] at h
          obtain ⟨⟨⟨h1, h2⟩, h3⟩, h4⟩ := h
          unfold par3C at h1
          simp only [Bool.and_eq_true, decide_eq_true_eq, Bool.not_eq_true'] at h1
          obtain ⟨⟨⟨⟨⟨⟨⟨⟨⟨⟨⟨⟨⟨⟨⟨⟨⟨⟨a1, a2⟩, a3⟩, a4⟩, a5⟩, a6⟩, a7⟩, a8⟩, a9⟩, b1⟩, b2⟩, b3⟩, b4⟩, b5⟩, b6⟩, b7⟩, b8⟩, b9⟩, c1⟩ := h1
          exact st_par3 c.calm c.nd a1 a2 a3 a4 a5 a6 a7 a8 a9 b6 b7 b8 (swap3_ok hb a7 a8 a9 b1 b2 b3 b4 b5 b6 b7 b8 b9 c1) (mE_ok _ c tk _ h2).v (mE_ok _ c tk _ h3).v (mE_ok _ c tk _ h4).v
        · cases h
    · cases h
  | .setX o i e, x, h => by
    unfold mS at h
    split at h
    · simp only [Bool.and_eq_true] at h
      obtain ⟨⟨⟨⟨h1, h2⟩, h3⟩, h4⟩, h5⟩ := h
      exact st_setX (mE_ok o c tk _ h3).o (mE_ok i c tk _ h4).o h1 h2 (mE_ok e c tk _ h5).v
    · cases h
  | .expr e, x, h => by
    unfold mS at h
    split at h
    · simp only [Bool.and_eq_true] at h
      exact st_expr h.1 (mE_ok e c tk _ h.2).o
    · cases h
  | .ite e t f, x, h => by
    unfold mS at h
    split at h
    · simp only [Bool.and_eq_true] at h
      obtain ⟨⟨h1, h2⟩, h3⟩ := h
      exact st_ite (mE_ok e c tk _ h1).t (mSs_ok c tk hp hb t _ h2) (mSs_ok c tk hp hb f _ h3)
    · cases h
  | .for_ tg kk its body ks, x, h => by
    unfold mS at h
    split at h
    · simp only [Bool.and_eq_true] at h
      obtain ⟨⟨h1, h2⟩, h3⟩ := h
      obtain ⟨i1, i2⟩ := mI_ok (T := T) (W0 := W0) (cm := cm) c tk h2
      exact st_for hp c.calm i1 (mT_ok c tg _ h1) (mSs_ok c tk hp hb body _ h3) i2
    · cases h
  | .while_ e body ks, x, h => by
    unfold mS at h
    split at h
    · simp only [Bool.and_eq_true] at h
      exact st_while hp (mE_ok e c tk _ h.1).t (mSs_ok c tk hp hb body _ h.2)
    · cases h
  | .ret e, x, h => by
    unfold mS at h
    split at h
    · exact st_ret (mE_ok e c tk _ h).v
    · cases h
  | .retN, x, h => by
    unfold mS at h
    split at h
    · exact st_retN
    · cases h
  | .retM i, x, h => by
    unfold mS at h
    split at h
    · simp only [Bool.and_eq_true, decide_eq_true_eq] at h
      obtain ⟨⟨h1, h2⟩, h3⟩ := h
      obtain ⟨d1, d2, d3⟩ := dbg_ok h3
      exact st_retM (pe_var h1 (vis_ok h2) d1 d2)
    · cases h
  | .asgM i j, x, h => by
    unfold mS at h
    split at h
    · simp only [Bool.and_eq_true, decide_eq_true_eq] at h
      obtain ⟨⟨⟨⟨h1, h2⟩, h3⟩, h4⟩, h5⟩ := h
      obtain ⟨d1, d2, d3⟩ := dbg_ok h5
      obtain ⟨l1, l2⟩ := c.sto _ h2
      exact st_asgM c.nd h1 l1 l2 (pe_var h3 (vis_ok h4) d1 d2)
    · cases h
  | .setO i kk e, x, h => by
    unfold mS at h
    split at h
    · simp only [Bool.and_eq_true, decide_eq_true_eq] at h
      obtain ⟨⟨⟨⟨⟨⟨h1, h2⟩, h3⟩, h4⟩, h5⟩, h6⟩, h7⟩ := h
      obtain ⟨d1, d2, d3⟩ := dbg_ok h3
      exact st_setO (pe_var h1 (vis_ok h2) d1 d2) (mE_ok kk c tk _ h6).o h4 h5 (mE_ok e c tk _ h7).v
    · cases h
  | .setK i kk e, x, h => by
    unfold mS at h
    split at h
    · simp only [Bool.and_eq_true, decide_eq_true_eq] at h
      obtain ⟨⟨⟨⟨⟨⟨h1, h2⟩, h3⟩, h4⟩, h5⟩, h6⟩, h7⟩ := h
      obtain ⟨d1, d2, d3⟩ := dbg_ok h3
      exact st_setK (by have := units65 c.room; omega) (pe_var h1 (vis_ok h2) d1 d2) (mE_ok kk c tk _ h6).o h4 h5 (mE_ok e c tk _ h7).v
    · cases h
  | .setXK o i e, x, h => by
    unfold mS at h
    split at h
    · simp only [Bool.and_eq_true] at h
      obtain ⟨⟨⟨⟨h1, h2⟩, h3⟩, h4⟩, h5⟩ := h
      exact st_setXK (by have := units65 c.room; omega) (mE_ok o c tk _ h3).o (mE_ok i c tk _ h4).o h1 h2 (mE_ok e c tk _ h5).v
    · cases h
  | .mutO i m es, x, h => by
    unfold mS at h
    split at h
    · split at h
      · simp only [Bool.and_eq_true, decide_eq_true_eq] at h
        obtain ⟨⟨⟨⟨⟨⟨rfl, h2⟩, h3⟩, h4⟩, h5⟩, h6⟩, h7⟩ := h
        obtain ⟨d1, d2, d3⟩ := dbg_ok h4
        exact st_append (pe_var h2 (vis_ok h3) d1 d2) h5 h6 (mE_ok _ c tk _ h7).v
      · cases h
    · split at h
      · simp only [Bool.and_eq_true, decide_eq_true_eq] at h
        obtain ⟨⟨⟨⟨⟨⟨⟨⟨rfl, h2⟩, h3⟩, h4⟩, h5⟩, h6⟩, h7⟩, h8⟩, h9⟩ := h
        obtain ⟨d1, d2, d3⟩ := dbg_ok h4
        exact st_insert (pe_var h2 (vis_ok h3) d1 d2) h5 h6 h7 (mE_ok _ c tk _ h8).v (mE_ok _ c tk _ h9).v
      · cases h
    · split at h
      · simp only [Bool.and_eq_true, decide_eq_true_eq] at h
        obtain ⟨⟨⟨⟨rfl, h2⟩, h3⟩, h4⟩, h5⟩ := h
        obtain ⟨d1, d2, d3⟩ := dbg_ok h4
        exact st_reverse (pe_var h2 (vis_ok h3) d1 d2) h5
      · simp only [Bool.and_eq_true, decide_eq_true_eq] at h
        obtain ⟨⟨⟨⟨rfl, h2⟩, h3⟩, h4⟩, h5⟩ := h
        obtain ⟨d1, d2, d3⟩ := dbg_ok h4
        exact st_clear (pe_var h2 (vis_ok h3) d1 d2) h5
      · cases h
    · cases h
  | .mutX o m es, x, h => by
    unfold mS at h
    split at h
    · split at h
      · simp only [Bool.and_eq_true, decide_eq_true_eq] at h
        obtain ⟨⟨⟨⟨⟨rfl, h2⟩, h3⟩, h4⟩, h5⟩, h6⟩ := h
        exact st_mutB PySem.F.slot_list_append PySem.F.type_list_append mt_append rfl rfl (fun h h1 h2 h3 q => app_okB h h1 h2 h3 q) (mE_ok o c tk _ h5).o (base_ok h2) (by simp [h3]) (by simp) h4 (sn_consD h3 (mE_ok _ c tk _ h6).v sn_nilD)
      · cases h
    · split at h
      · simp only [Bool.and_eq_true, decide_eq_true_eq] at h
        obtain ⟨⟨⟨⟨⟨⟨⟨rfl, h2⟩, h3⟩, h4⟩, h5⟩, h6⟩, h7⟩, h8⟩ := h
        exact st_mutB PySem.F.slot_list_insert PySem.F.type_list_insert mt_insert rfl rfl (fun h h1 h2 h3 q => ins_okB h h1 h2 h3 q) (mE_ok o c tk _ h6).o (base_ok h2) (by simp [h3, h4]) (by simp) h5 (sn_consD h3 (mE_ok _ c tk _ h7).v (sn_consD h4 (mE_ok _ c tk _ h8).v sn_nilD))
      · cases h
    · split at h
      · simp only [Bool.and_eq_true, decide_eq_true_eq] at h
        obtain ⟨⟨⟨rfl, h2⟩, h3⟩, h4⟩ := h
        exact st_mutB0 PySem.F.slot_list_reverse PySem.F.type_list_reverse mt_reverse rfl (fun h h1 h2 q => rev_okB h h1 h2 q) (mE_ok o c tk _ h4).o (base_ok h2) h3
      · simp only [Bool.and_eq_true, decide_eq_true_eq] at h
        obtain ⟨⟨⟨rfl, h2⟩, h3⟩, h4⟩ := h
        exact st_mutB0 PySem.F.slot_list_clear PySem.F.type_list_clear mt_clear rfl (fun h h1 h2 q => clear_okB h h1 h2 q) (mE_ok o c tk _ h4).o (base_ok h2) h3
      · cases h
    · cases h
  | .asgA _ _ _, x, h | .asgTA _ _, x, h | .raise _ _, x, h | .try_ _ _ _ _, x, h => by simp [mS] at h
theorem mSs_ok (c : Ctx X T cn P cf k X.env.scope) (tk : Takes X wish) (hp : PassesOwn (model X.prog X.w) X.A X.env X.xe) (hb : X.env.blockKind = .function) : ∀ (ss : List Sm) (xs : List Stmt), mSs cn X.N X.env.scope ss xs = true → PSs X xs (tS X.K T W0 wish (evSs P cf cm ss))
  | [], [], _ => ss_nil
  | s :: ss, x :: xs, h => by
    simp only [mSs, Bool.and_eq_true] at h
    exact ss_cons (mS_ok c tk hp hb s x h.1) (mSs_ok c tk hp hb ss xs h.2)
  | [], _ :: _, h => by simp [mSs] at h
  | _ :: _, [], h => by simp [mSs] at h
end
end
end Iv
/-! Sg1: the law's end over such a promise -/
namespace Iv
open PySem PySem.Spec PyProof.Rows L2
section
variable {pr : Program} {w : World} {K : PySem.W.Frag} {mg mb : Str → Option Value} {cx : CXT} {n : Nat} {fa a : Addr} {fd : FuncData} {x : Str} {sp : Sp} {s₁ : Shared} {vs : List Value} {ns : List Int}
/-- from an abstract heap that tracks the script at most -/
theorem law_core {H : Hp} (KX : K.In s₁.heap) (hns : s₁.heap.Ns mainGlobals mg) (hb : s₁.heap.Ns builtinsNs mb) (hbb : ∀ x : Str, x ≠ "__name__" → mb x = bootBuiltins x) (hlim : s₁.heap.NoLimit) (hg : s₁.gens = #[])
    (ha : s₁.heap.get? a = some { cls := .type "list", data := .seq vs.toArray }) (hr : Room n callerA)
    (F : ∀ base : Heap, K.In base → base.Ns mainGlobals mg → FnG pr w K mg base cx n fa fd [x] sp) (hbind : ∀ (s : Shared) (u : Value), BindsTo s fd ⟨[u], []⟩ [(x, u)])
    (q : sp [.ref a] H (fun v _ => v = .bl true) fun _ _ _ => False) (hCX : ∀ e s', cx [] H s₁ (fun _ _ _ => False) e s' → False)
    (hok : HOk pr w H s₁.heap) (hA : ∀ b u, H b = some u → b = a ∧ ∃ o ys, u = .frz o (.lst ys)) (hK : ∀ u, H a = some u → K.lookup a = none) :
    codeAny (model pr w) callerA (.call (.ref fa) ⟨[.ref a], []⟩) (fun r s' => r = .ok (.ret (.bool true)) ∧ OldK s₁.heap s'.heap ∧ s'.os = s₁.os ∧ AllBare s'.gens) s₁ := by
  have free : ∀ {b : Addr} {ob : Obj} {es : Array DictEntry} {ep : Nat}, s₁.heap.get? b = some ob → ob.data = .dict es ep → H b = none := fun {b ob es ep} e d => by
    cases z : H b with
    | none => rfl
    | some u =>
      obtain ⟨rfl, _⟩ := hA b u z
      rw [ha] at e
      cases e
      cases (show Data.seq vs.toArray _ = Data.dict es ep from d)
  have ns' : ∀ {b : Addr} {m : Str → Option Value}, s₁.heap.Ns b m → (hidT s₁.heap H).Ns b m := by
    rintro b m ⟨ob, es, ep, e, d, r⟩
    exact ⟨ob, es, ep, hidT_get e (free e d), d, r⟩
  have kin : K.In (hidT s₁.heap H) := fun b ob e => hidT_get (KX b ob e) (by
    cases z : H b with
    | none => rfl
    | some u =>
      obtain ⟨rfl, _⟩ := hA b u z
      rw [hK u z] at e
      cases e)
  have md : Mod K mg (hidT s₁.heap H) := by
    obtain ⟨mc, l1, l2⟩ := hlim
    exact ⟨kin, ns' hns, ⟨mb, ns' hb, hbb⟩, mc, ns' l1, l2⟩
  have e0 : Env0 pr w K mg (hidT s₁.heap H) callerA [] s₁ H := ⟨rfl, md, fun b ob e => of_hidT e, Nat.le_of_eq (hidT_size _ _), trivial, (fun b z => nomatch z), hok, .of_eq hg⟩
  have run := (F _ kin (ns' hns)).go (us := [.ref a]) rfl hr e0 (hbind s₁ (.ref a)) (.cons (show RelV (.ref a) (.ref a) from rfl) .nil) q
  refine codeAny_mono run ?_
  rintro (e | fl) s' h
  · exact (hCX e s' h).elim
  · cases fl with
    | ret u =>
      obtain ⟨v, H', os, bare, un, hok', r', hv⟩ := h
      have hv : v = .bl true := hv
      subst hv
      cases (show u = Value.bool true from r')
      refine ⟨rfl, OldK.of_keep fun b ob e => ?_, os, bare⟩
      cases z : H b with
      | none => exact un.keep b ob e z (fun z => nomatch z) (fun z => nomatch z)
      | some u =>
        obtain ⟨_, ob2, ys, rfl⟩ := hA b u z
        obtain ⟨k1, _⟩ := hok b _ z
        obtain ⟨k2, _⟩ := hok' b _ (un.frzs b ob2 _ z)
        rw [e] at k1
        cases k1
        exact k2
    | _ => exact h.elim
theorem law_g (KX : K.In s₁.heap) (hns : s₁.heap.Ns mainGlobals mg) (hb : s₁.heap.Ns builtinsNs mb) (hbb : ∀ x : Str, x ≠ "__name__" → mb x = bootBuiltins x) (hlim : s₁.heap.NoLimit) (hg : s₁.gens = #[])
    (ha : s₁.heap.get? a = some { cls := .type "list", data := .seq vs.toArray }) (hi : IntsAre vs ns) (hl : ns.length ≤ sizeLine) (hr : Room n callerA)
    (F : ∀ base : Heap, K.In base → base.Ns mainGlobals mg → FnG pr w K mg base cx n fa fd [x] sp) (hbind : ∀ (s : Shared) (u : Value), BindsTo s fd ⟨[u], []⟩ [(x, u)])
    (hsp : ∀ H : Hp, SqL K H a (ns.map V.int) → sp [.ref a] H (fun v _ => v = .bl true) fun _ _ _ => False) (hCX : ∀ H e s', cx [] H s₁ (fun _ _ _ => False) e s' → False) :
    codeAny (model pr w) callerA (.call (.ref fa) ⟨[.ref a], []⟩) (fun r s' => r = .ok (.ret (.bool true)) ∧ OldK s₁.heap s'.heap ∧ s'.os = s₁.os ∧ AllBare s'.gens) s₁ := by
  have rv := vals_ints hi
  have el := hi.length
  cases hk : K.lookup a with
  | some o =>
    have e := KX a o hk
    rw [ha] at e
    cases e
    exact law_core (H := fun _ => none) KX hns hb hbb hlim hg ha hr F hbind (hsp _ (.inr ⟨_, vs.toArray, _, hk, rfl, rfl, rfl, by rw [List.size_toArray, el]; exact hl, by simpa using rv⟩)) (hCX _) (fun b u z => nomatch z) (fun b u z => nomatch z) fun u z => nomatch z
  | none =>
    have at_a : ∀ b u, (fun b => if b = a then some (HO.frz { cls := .type "list", data := .seq vs.toArray } (.lst (ns.map V.int))) else none) b = some u → b = a ∧ u = HO.frz { cls := .type "list", data := .seq vs.toArray } (.lst (ns.map V.int)) := fun b u z => by
      by_cases hz : b = a
      · simp only [hz, if_true] at z
        exact ⟨hz, (Option.some.inj z).symm⟩
      · simp only [hz, if_false] at z
        cases z
    refine law_core (H := fun b => if b = a then some (.frz { cls := .type "list", data := .seq vs.toArray } (.lst (ns.map V.int))) else none) KX hns hb hbb hlim hg ha hr F hbind (hsp _ (.inl (.inr ⟨{ cls := .type "list", data := .seq vs.toArray }, if_pos rfl⟩))) (hCX _) (fun b u z => ?_) (fun b u z => ?_) fun u z => hk
    · obtain ⟨rfl, rfl⟩ := at_a b u z
      exact ⟨ha, by rw [List.length_map]; exact hl, vs, _, rv, ha⟩
    · obtain ⟨e1, e2⟩ := at_a b u z
      exact ⟨e1, _, _, e2⟩
end
/-- a law by its def's promise -/
theorem walk_g {l : PySem.W.OpenLaw} {m n : Nat} {q : Program} {loose : List Str} {XP : (Str → Option Value) → Heap → Prop} {YP : World → Heap → Prop} {d : DefRec} {x : Str} (hn : l.most = some m) (hm : m ≤ sizeLine) (hdf : d.params.defaults = []) (hr : Room n callerA)
    (F : ∀ (w : World) (mg : Str → Option Value) (fa : Addr) (h : Heap), YP w h → h.Ns mainGlobals mg → mg d.name = some (.ref fa) → ∃ (K : PySem.W.Frag) (fd : FuncData) (sp : Sp), K.In h ∧ (∀ (s : Shared) (u : Value), BindsTo s fd ⟨[u], []⟩ [(x, u)]) ∧
      (∀ (H : Hp) (a : Addr) (ns : List Int), ns.length ≤ m → (∀ z ∈ ns, Builtin.Int.intBits z ≤ 1048576) → SqL K H a (ns.map V.int) → sp [.ref a] H (fun v _ => v = .bl true) fun _ _ _ => False) ∧
      ∀ base : Heap, K.In base → base.Ns mainGlobals mg → FnG l.prog w K mg base (L2.CX l.prog w) n fa fd [x] sp) :
    PySem.W.WalkO q loose XP YP l.row.toRowW d [] (fun f vs => PySem.call f vs) := by
  refine Att.attach_callB hn hdf fun w s₀ s₁ mg mb fa o pm cd doc a vs ns G Y ho hd hcd hmg hobj hints hlen hbits hg => ?_
  obtain ⟨K, fd, sp, KX, hb, hsp, hF⟩ := F w mg fa _ Y G.T.g hmg
  refine law_g KX G.T.g G.T.b G.T.builtins G.T.nolimit hg hobj hints (Nat.le_trans hlen hm) hr hF hb (fun H hS => hsp H a ns hlen hbits hS) ?_
  rintro H e s' ⟨_, _, _, _, _, _, _, _, _, _, _, _, z⟩
  exact z
end Iv
/-! Sv16: defs by their runs -/
namespace Iv
open PySem PySem.Spec PyProof.Rows L2
/-- a def of the text and of the tables -/
structure DefC (K : PySem.W.Frag) (mg : Str → Option Value) (cn : Cn) (P : Pg) (i : Nat) (x : Str) (np : Nat) (qual : Str) (st : Stmt) (f : Addr) (fd : FuncData) (N ps : List Str) (F : FD) : Prop where
  fn : Fun K x qual st f fd
  sc : FnScope N ps (defScope st)
  bi : Binds K fd ps []
  mg : mg x = some (.ref f)
  at_ : P.fns[i]? = some F
  hnp : F.np = ps.length
  hns : F.ns = N.length
  n2 : np = ps.length
  ck : mSs cn N (defScope st) F.body (defBody st) = true
def DefAt (K : PySem.W.Frag) (mg : Str → Option Value) (cn : Cn) (P : Pg) (i : Nat) (x : Str) (np : Nat) : Prop :=
  ∃ (qual : Str) (st : Stmt) (f : Addr) (fd : FuncData) (N ps : List Str) (F : FD), DefC K mg cn P i x np qual st f fd N ps F
theorem Fun.bindsTo {K : PySem.W.Frag} {x qual : Str} {st : Stmt} {f : Addr} {fd : FuncData} {ps : List Str} (F : Fun K x qual st f fd)
    (h : ∀ (kV doc pm : Value) (an : Option Addr) (cdv ct : Value) (us : List Value), us.length = ps.length → bindArgs (PySem.W.fnOf x qual (defArgs st) (defBody st) (defScope st) .none kV doc pm an cdv ct) ⟨us, []⟩ = pure (ps.zip us)) (s : Shared) (us : List Value) (hl : us.length = ps.length) : BindsTo s fd ⟨us, []⟩ (ps.zip us) := by
  obtain ⟨oc, od, kV, doc, pm, an, cdv, ct, osl, rfl, lk, hcd⟩ := F.ex
  exact BindsTo.of_eq (h kV doc pm an cdv ct us hl)
section
variable {pr : Program} {w : World} {K : PySem.W.Frag} {mg : Str → Option Value} {base : Heap} {T : Tb} {cn : Cn} {P : Pg}
theorem callF_len {i : Nat} {F : FD} (h : P.fns[i]? = some F) : ∀ (n : Nat) (ds : List D) (S : Sto), ds.length ≠ F.np → callF P n i ds S = .err
  | 0, ds, S, _ => rfl
  | n + 1, ds, S, hn => by
    rw [callF_succ]
    unfold runF
    rw [h]
    exact if_neg hn
theorem rel_start {W : Wd} {N : List Str} {vs : List V} {ds : List D} {n : Nat} (s : SR K T W) (r : RDs K W vs ds) (hn : n = N.length) (hl : ds.length ≤ n) : Good K T W W (start N vs) (ds.map .v ++ List.replicate (n - ds.length) .no) := by
  subst hn
  have hv := r.length
  have noown : ∀ (i : Nat) (t : Slot), (ds.map Slot.v ++ List.replicate (N.length - ds.length) Slot.no)[i]? = some t → t.own = false ∧ SlotOk K W W (start N vs)[i]? t := fun i t h => by
    by_cases hi : i < ds.length
    · rw [List.getElem?_append_left (by simpa using hi)] at h
      rw [List.getElem?_map] at h
      obtain ⟨d, h1, rfl⟩ := Option.map_eq_some_iff.mp h
      obtain ⟨v, h2, h3⟩ := r.at h1
      refine ⟨rfl, v, ?_, h3⟩
      unfold L2.start
      rw [List.getElem?_append_left (by rw [List.length_map, hv]; exact hi), List.getElem?_map, h2]
      rfl
    · rw [List.getElem?_append_right (by simpa using hi)] at h
      have := List.mem_of_getElem? h
      rw [List.mem_replicate] at this
      rw [this.2]
      exact ⟨rfl, trivial⟩
  refine ⟨s, Ext.refl W, s, ?_, fun i t h => (noown i t h).2, fun i j a t u h1 h2 o1 o2 e1 e2 => ?_⟩
  · simp [L2.start, hv]
  · rw [(noown i t h1).1] at o1; cases o1
theorem fn_ok (hg : ∀ (g : Nat) (x : Str) (d : D), cn.gl[g]? = some x → P.glo[g]? = some d → ∃ u v, mg x = some u ∧ RelV v u ∧ ∀ W : Wd, RD K W v d) (hbl : ∀ x ∈ bltNames, mg x = none)
    (hd : ∀ i x np, cn.fn[i]? = some (x, np) → DefAt K mg cn P i x np) : ∀ (n i : Nat) (x : Str) (np : Nat) (qual : Str) (st : Stmt) (f : Addr) (fd : FuncData) (N ps : List Str) (F : FD), DefC K mg cn P i x np qual st f fd N ps F →
      FnG pr w K mg base (L2.CX pr w) n f fd ps (spI K T np (callF P n i))
  | 0, i, x, np, qual, st, f, fd, N, ps, F, C => by
    refine ⟨fun vs H Q E sp => sp.1.trans C.n2, fun {A outer s H args us vs Q E} gd hr e0 hb hv sp => ?_⟩
    obtain ⟨_, W, ds, _, _, _, q⟩ := sp
    exact q.elim
  | n + 1, i, x, np, qual, st, f, fd, N, ps, F, C => by
    refine mk_g C.fn C.sc (fun vs H Q E sp => sp.1.trans C.n2) fun cdv A outer s H vs Q E gd hr sp => ?_
    obtain ⟨hl, W, ds, hH, sr, rd, q⟩ := sp
    have c : Ctx (cxOf (L2.CX pr w) pr w K mg base N qual (defScope st) f cdv A outer s H E) T cn P (callF P n) n (defScope st) := by
      refine ⟨rfl, C.sc.nd, hr, gd, fun j y m hj => ?_, hg, hbl, fun y hy => ?_⟩
      · obtain ⟨qual2, st2, f2, fd2, N2, ps2, F2, C2⟩ := hd j y m hj
        exact ⟨⟨f2, fd2, ps2, C2.mg, C2.fn.kp, C2.bi, fn_ok hg hbl hd n j y m _ _ _ _ _ _ _ C2⟩, fun ds S hn => callF_len C2.at_ n ds S (by rw [C2.hnp, ← C2.n2]; exact hn)⟩
      · unfold stoC at hy
        split at hy
        · exact ⟨.inl (by assumption), .inl rfl⟩
        · exact ⟨.inr (by assumption), .inl rfl⟩
        · cases hy
    have tk : Takes (cxOf (L2.CX pr w) pr w K mg base N qual (defScope st) f cdv A outer s H E) (fun cls d _ H => E cls d H) := takes_of rfl rfl rfl (E₁ := fun e' s'' => L2.CX pr w outer H s E e' s'') rfl
    have hp : PassesOwn (model pr w) (cxOf (L2.CX pr w) pr w K mg base N qual (defScope st) f cdv A outer s H E).A (cxOf (L2.CX pr w) pr w K mg base N qual (defScope st) f cdv A outer s H E).env (cxOf (L2.CX pr w) pr w K mg base N qual (defScope st) f cdv A outer s H E).xe :=
      passes_of (X := cxOf (L2.CX pr w) pr w K mg base N qual (defScope st) f cdv A outer s H E) (K := fun e s'' => L2.CX pr w outer H s E e s'') (E₁ := fun e' s'' => L2.CX pr w outer H s E e' s'') rfl
    have hb := mSs_ok (T := T) (W0 := W) (cm := makeF P n) c tk hp (by show (if (defScope st).kind.isAnnotationScope then ScopeKind.function else (defScope st).kind) = _; rw [C.sc.kind]; rfl) F.body (defBody st) C.ck
    refine ⟨_, hb, W, _, hH, rel_start sr rd C.hns (by have h1 := C.sc.pre; have := congrArg List.length h1; rw [List.length_take] at this; have e1 := rd.length; have := C.hns; have := C.n2; omega), ?_⟩
    rw [callF_succ] at q
    have hds : ds.length = F.np := by rw [← rd.length, hl, C.n2, C.hnp]
    unfold runF at q
    rw [C.at_] at q
    dsimp only at q
    rw [if_pos hds] at q
    rw [hds]
    subst hH
    generalize evSs P (callF P n) (makeF P n) F.body _ W.S = m at q ⊢
    cases m with
    | ok fl ρ' S' =>
      cases fl with
      | next => exact fun σ' W' e g m' => q .non W' e g.sr g.ext .non
      | ret r => exact fun v W' e s' x rf => q v W' e s' x rf
    | exc cc xs ρ' S' => exact fun cls d σ' W' e g m' xr => q cls d W' e g.sr g.ext xr
    | err => exact q.elim
/-! ### the law -/
/-- the law's def at its end -/
theorem law_sp {H : Hp} {a : Addr} {ns : List Int} {n i : Nat} (hS : SqL K H a (ns.map V.int)) (hr : ∃ S', callF P n i [.lst (ns.map D.int)] [] = .ok (.v (.bl true)) S') : spI K T 1 (callF P n i) [.ref a] H (fun v _ => v = .bl true) fun _ _ _ => False := by
  obtain ⟨S', hr⟩ := hr
  have go : ∀ F : Addr → Prop, (F a ∨ KL K a (ns.map V.int)) → (∀ b, F b → H b ≠ none) → spI K T 1 (callF P n i) [.ref a] H (fun v _ => v = .bl true) fun _ _ _ => False := fun F h1 h2 => by
    have rs : ∀ (W : Wd) (ms : List Int), RDs K W (ms.map V.int) (ms.map D.int) := fun W ms => by
      induction ms with
      | nil => exact .nil
      | cons m r ih => exact .cons (.int m) ih
    refine ⟨rfl, ⟨F, fun _ => 0, H, []⟩, [.lst (ns.map D.int)], rfl, ⟨fun id c h => by simp at h, fun i j h => by simp at h, fun id h => by simp at h, h2⟩, .cons (.lst h1 hS (rs _ _)) .nil, ?_⟩
    show (match callF P n i [.lst (ns.map D.int)] [] with
      | .ok r S' => _
      | .exc c xs S' => _
      | .err => False)
    rw [hr]
    intro v W' e s x rf
    have rf : RD K W' v (.bl true) := rf
    cases rf
    rfl
  rcases hS with h | h
  · refine go (fun b => b = a) (.inl rfl) fun b e => ?_
    subst e
    rcases h with h | ⟨o, h⟩ <;> (rw [h]; exact fun z => nomatch z)
  · exact go (fun _ => False) (.inr h) fun b z => z.elim
end
end Iv
/-! Sg2: names of the module that stand for tuples of texts: what a head finds of them -/
namespace Iv
open PySem PySem.Spec PyProof.Rows L2
/-- the module's name x is a tuple of these texts, and bears no dict -/
def tupG (K : PySem.W.Frag) (x : Str) (zs : List Str) : Bool := match K.lookup (He.ga K x) with
  | some ⟨.type c, none, .seq its _, _⟩ => decide (c = "tuple") && (decide (its.size ≤ sizeLine) && He.relAll (zs.map V.str) its.toList)
  | _ => false
theorem rds_strs {K : PySem.W.Frag} {W : Wd} : ∀ zs : List Str, RDs K W (zs.map V.str) (zs.map .str)
  | [] => .nil
  | z :: zs => .cons (.str z) (rds_strs zs)
theorem tupG_ok {K : PySem.W.Frag} {x : Str} {zs : List Str} (h : tupG K x zs = true) (W : Wd) : RD K W (.ref (He.ga K x)) (.tup (zs.map .str)) := by
  refine .tup (vs := zs.map V.str) ?_ (rds_strs zs)
  unfold tupG at h
  split at h
  · rename_i c its n sl hk
    obtain ⟨h1, h2⟩ := He.ba h
    obtain ⟨h3, h4⟩ := He.ba h2
    exact .inr ⟨_, its, n, hk, congrArg Value.type (of_decide_eq_true h1), rfl, rfl, of_decide_eq_true h3, He.relAll_ok h4⟩
  · cases h
abbrev AlM : Type := He.Al × Bool
def obsM (n : Nat) (fa : List He.Fa) (fn : List He.FnD) (ex : PySem.W.Frag → Bool) (g : Addr → Option Obj) : AlM := (He.obsE fa fn (He.frG g (He.asG g n)), ex (He.frG g (He.asG g n)))
def hookM (n : Nat) (fa : List He.Fa) (fn : List He.FnD) (ex : PySem.W.Frag → Bool) : PySem.W.Hook where
  α := AlM
  obs := fun s => obsM n fa fn ex s.heap.get?
  val := fun _ => (He.valE fn, true)
  says := fun _ h => ∃ K : PySem.W.Frag, K.In h ∧ He.SaysE fa fn K ∧ ex K = true
  of := fun _ _ e => ⟨_, He.frG_in, congrArg Prod.fst e, congrArg Prod.snd e⟩
  keeps := fun _ _ _ ⟨K, hK, c⟩ k => ⟨K, PySem.W.Frag.In.keeps hK k, c⟩
theorem obsM_eq {n : Nat} {fa : List He.Fa} {fn : List He.FnD} {ex : PySem.W.Frag → Bool} {g : Addr → Option Obj} {s : Shared} (h : ∀ a, g a = s.heap.get? a) : obsM n fa fn ex g = (hookM n fa fn ex).obs s := by
  have e : g = s.heap.get? := funext h
  rw [e] <;> rfl
end Iv
namespace Sh
open PySem Iv
def f_driven : FD := { np := 2, ns := 6, body := [(.asg (.tp [(.nm 2), (.nm 3), (.nm 4), (.nm 5)]) (.var 0)),
    (.ite (.andE [(.cmp .Eq (.var 2) (.var 1)), (.cmp .IsNot (.var 4) .non)]) [(.ret (.tup [(.var 3), (.var 4)]))] []),
    (.ite (.andE [(.cmp .Eq (.var 3) (.var 1)), (.cmp .IsNot (.var 5) .non)]) [(.ret (.tup [(.var 2), (.var 5)]))] []),
    (.ret .non)] }
def f_step_by (i_driven : Nat) : FD := { np := 4, ns := 4, body := [(.ite (.cmp .In (.var 3) (.var 1)) [(.ret .non)] []),
    (.ret (.call i_driven [(.ix (.ix (.var 0) (.int 1)) (.var 3)), (.var 2)]))] }
def f_is_road : FD := { np := 2, ns := 2, body := [(.ret (.andE [(.prim (.isi ["int"]) [(.var 1)]), (.not (.prim (.isi ["bool"]) [(.var 1)])), (.cmp2 .LtE .Lt (.int 0) (.var 1) (.prim .len [(.ix (.var 0) (.int 1))]))]))] }
def b1_is_way (i_is_road i_step_by : Nat) : List Sm := [(.ite (.not (.call i_is_road [(.var 0), (.var 6)])) [(.ret (.bl false))] []),
    (.asg (.nm 7) (.call i_step_by [(.var 0), (.var 1), (.var 5), (.var 6)])),
    (.ite (.cmp .Is (.var 7) .non) [(.ret (.bl false))] []),
    (.asg (.nm 5) (.ix (.var 7) (.int 0)))]
def f_is_way (i_is_road i_step_by : Nat) : FD := { np := 5, ns := 8, body := [(.ite (.not (.prim (.isi ["tuple"]) [(.var 4)])) [(.ret (.bl false))] []),
    (.asg (.nm 5) (.var 2)),
    (.for_ (.nm 6) .seq [(.var 4)] (b1_is_way i_is_road i_step_by) [6, 7]),
    (.ret (.cmp .Eq (.var 5) (.var 3)))] }
def f__law_cell_at : FD := { np := 2, ns := 2, body := [(.ite (.cmp .Lt (.var 1) (.prim .len [(.var 0)])) [(.ret (.ix (.var 0) (.var 1)))] []),
    (.ret (.int 0))] }
def b1__law_row : List Sm := [(.ite (.cmp .Lt (.prim .abs [(.var 0)]) (.bin .Pow (.int 10) (.int 18))) [(.asg (.nm 3) (.bin .Mod (.bin .Add (.bin .Add (.bin .Mult (.var 3) (.int 48271)) (.bin .Mult (.int 7) (.var 4))) (.int 11)) (.int 2147483647))),
    (.mutO 2 .append [(.bin .Mod (.bin .FloorDiv (.bin .Mod (.bin .Pow (.var 3) (.int 5)) (.int 2147483629)) (.int 3)) (.bin .Pow (.int 10) (.int 6)))])] [(.mutO 2 .append [(.bin .Mod (.var 3) (.bin .Pow (.int 10) (.int 6)))]),
    (.asg (.nm 3) (.bin .FloorDiv (.var 3) (.bin .Pow (.int 10) (.int 6))))])]
def f__law_row : FD := { np := 2, ns := 5, body := [(.asg (.nm 2) (.lst [])),
    (.asg (.nm 3) (.var 0)),
    (.ite (.cmp .Lt (.prim .abs [(.var 0)]) (.bin .Pow (.int 10) (.int 18))) [(.asg (.nm 3) (.bin .Mod (.var 0) (.int 2147483629)))] []),
    (.for_ (.nm 4) .range1 [(.var 1)] b1__law_row [4]),
    (.retM 2)] }
def e1__law_names : E := (.ix (.var 2) (.bin .Mod (.ix (.var 0) (.bin .Add (.int 2) (.var 10))) (.ix (.lst [(.int 36), (.int 26)]) (.prim .int [(.cmp .Eq (.var 10) (.int 0))]))))
def b1__law_names : List Sm := [(.asg (.nm 11) (.ix (.var 2) (.bin .Mod (.bin .Add (.ix (.var 0) (.int 11)) (.bin .Mult (.var 10) (.var 7))) (.var 6)))),
    (.asg (.nm 12) (.bin .Add (.bin .Add (.sl (.var 5) [] [(.var 4)]) (.var 11)) (.sl (.var 5) [(.bin .Add (.var 4) (.int 1))] []))),
    (.mutO 9 .append [(.sl (.var 12) [] [(.bin .Sub (.var 3) (.bin .Mult (.bin .Mod (.var 8) (.int 2)) (.bin .Mod (.bin .Mult (.int 3) (.var 10)) (.bin .Sub (.var 3) (.var 4)))))])])]
def f__law_names : FD := { np := 2, ns := 15, body := [(.asg (.nm 2) (.str (PySem.Str.ofString "abcdefghijklmnopqrstuvwxyz0123456789"))),
    (.asg (.nm 3) (.bin .Add (.int 1) (.bin .Mod (.ix (.var 0) (.int 0)) (.int 8)))),
    (.asg (.nm 4) (.bin .Mod (.ix (.var 0) (.int 1)) (.var 3))),
    (.asg (.nm 5) (.mth .join (.str (PySem.Str.ofString "")) [(.lc e1__law_names (.nm 10) .range1 [(.var 3)] [] [10])])),
    (.asg (.nm 6) (.ix (.lst [(.int 36), (.int 26)]) (.prim .int [(.cmp .Eq (.var 4) (.int 0))]))),
    (.asg (.nm 7) (.ix (.lst [(.int 1), (.int 5), (.int 7), (.int 11)]) (.bin .Mod (.ix (.var 0) (.int 10)) (.int 4)))),
    (.asg (.nm 8) (.ix (.var 0) (.bin .Sub (.prim .len [(.var 0)]) (.int 1)))),
    (.asg (.nm 9) (.lst [])),
    (.for_ (.nm 10) .range1 [(.var 1)] b1__law_names [10, 11, 12]),
    (.asg (.nm 13) (.mth .split (.str (PySem.Str.ofString "free to at sent there cut done off call told passed on open shut grade bare held")) [(.str (PySem.Str.ofString " "))])),
    (.asg (.nm 14) (.ix (.bin .Add (.var 13) (.lst [(.str (PySem.Str.ofString "moved")), (.str (PySem.Str.ofString "stands")), (.str (PySem.Str.ofString "drives"))])) (.bin .Mod (.bin .FloorDiv (.var 8) (.int 8)) (.int 20)))),
    (.ite (.andE [(.cmp .Eq (.bin .Mod (.bin .FloorDiv (.var 8) (.int 2)) (.int 4)) (.int 1)), (.cmp .NotIn (.var 14) (.var 9))]) [(.setO 9 (.bin .Mod (.bin .FloorDiv (.var 8) (.int 160)) (.var 1)) (.var 14))] []),
    (.retM 9)] }
def f__law_road : FD := { np := 2, ns := 7, body := [(.asg (.nm 2) (.bin .Mod (.ix (.var 0) (.int 0)) (.prim .len [(.var 1)]))),
    (.asg (.nm 3) (.bin .Mod (.bin .Add (.bin .Add (.var 2) (.int 1)) (.bin .Mod (.ix (.var 0) (.int 1)) (.bin .Sub (.prim .len [(.var 1)]) (.int 1)))) (.prim .len [(.var 1)]))),
    (.asg (.nm 4) (.ix (.lst [(.int 2), (.int 5), (.int 60)]) (.bin .Mod (.ix (.var 0) (.int 4)) (.int 3)))),
    (.asg (.nm 5) (.ix (.lst [(.bin .Add (.int 1) (.bin .Mod (.ix (.var 0) (.int 2)) (.var 4))), .non]) (.prim .int [(.cmp .Eq (.bin .Mod (.ix (.var 0) (.int 5)) (.int 5)) (.int 1))]))),
    (.asg (.nm 6) (.ix (.lst [(.bin .Add (.int 1) (.bin .Mod (.ix (.var 0) (.int 3)) (.var 4))), .non]) (.prim .int [(.cmp .Eq (.bin .Mod (.ix (.var 0) (.int 5)) (.int 5)) (.int 2))]))),
    (.ret (.tup [(.ix (.var 1) (.var 2)), (.ix (.var 1) (.var 3)), (.var 5), (.var 6)]))] }
def b1__law_town (i__law_row i__law_cell_at i__law_names i__law_road : Nat) : List Sm := [(.ite (.cmp .Gt (.prim .len [(.var 3)]) (.int 1)) [(.mutO 4 .append [(.call i__law_road [(.call i__law_row [(.var 5), (.int 6)]), (.var 3)])])] [])]
def f__law_town (i__law_row i__law_cell_at i__law_names i__law_road : Nat) : FD := { np := 2, ns := 9, body := [(.asg (.nm 2) (.call i__law_row [(.call i__law_cell_at [(.var 0), (.var 1)]), (.int 20)])),
    (.asg (.nm 3) (.call i__law_names [(.var 2), (.bin .Add (.int 1) (.bin .Mod (.ix (.var 2) (.int 12)) (.int 10)))])),
    (.asg (.nm 4) (.lst [])),
    (.for_ (.nm 5) .seq [(.sl (.var 0) [(.bin .Add (.var 1) (.int 1))] [(.bin .Add (.var 1) (.int 19))])] (b1__law_town i__law_row i__law_cell_at i__law_names i__law_road) [5]),
    (.asg (.nm 6) (.bin .Mod (.ix (.var 2) (.int 14)) (.prim .len [(.var 3)]))),
    (.asg (.nm 7) (.sl (.bin .Add (.var 3) (.var 3)) [(.var 6)] [(.bin .Add (.bin .Add (.var 6) (.int 1)) (.bin .Mod (.ix (.var 2) (.int 13)) (.prim .min2 [(.int 5), (.prim .len [(.var 3)])])))])),
    (.asg (.nm 8) (.ix (.lst [(.bin .Mod (.ix (.var 2) (.int 16)) (.int 121)), (.bin .Mod (.ix (.var 2) (.int 16)) (.int 13)), (.int 120), (.int 0)]) (.bin .Mod (.ix (.var 2) (.int 17)) (.int 4)))),
    (.ret (.tup [(.prim .tuple [(.var 3)]), (.prim .tuple [(.var 4)]), (.prim .tuple [(.var 7)]), (.var 8)]))] }
def t1__law_shut (i__law_row : Nat) : E := (.cmp .Eq (.bin .Mod (.ix (.var 2) (.var 4)) (.var 3)) (.int 1))
def f__law_shut (i__law_row : Nat) : FD := { np := 2, ns := 5, body := [(.asg (.nm 2) (.call i__law_row [(.var 0), (.int 20)])),
    (.asg (.nm 3) (.ix (.lst [(.bin .Add (.bin .Pow (.int 10) (.int 6)) (.int 1)), (.int 5), (.int 2)]) (.bin .Mod (.ix (.var 2) (.int 18)) (.int 3)))),
    (.ret (.prim .tuple [(.lc (.var 4) (.nm 4) .range1 [(.prim .len [(.ix (.var 1) (.int 1))])] [(t1__law_shut i__law_row)] [4])]))] }
def b1__law_steps : List Sm := [(.asg (.tp [(.nm 4), (.nm 5), (.nm 6), (.nm 7)]) (.ix (.ix (.var 0) (.int 1)) (.var 3))),
    (.asg (.nm 8) (.mth .index (.ix (.var 0) (.int 0)) [(.var 4)])),
    (.asg (.nm 9) (.mth .index (.ix (.var 0) (.int 0)) [(.var 5)])),
    (.ite (.andE [(.cmp .NotIn (.var 3) (.var 1)), (.cmp .IsNot (.var 6) .non)]) [(.mutO 2 .append [(.tup [(.var 3), (.var 8), (.var 9), (.var 6)])])] []),
    (.ite (.andE [(.cmp .NotIn (.var 3) (.var 1)), (.cmp .IsNot (.var 7) .non)]) [(.mutO 2 .append [(.tup [(.var 3), (.var 9), (.var 8), (.var 7)])])] [])]
def f__law_steps : FD := { np := 2, ns := 10, body := [(.asg (.nm 2) (.lst [])),
    (.for_ (.nm 3) .range1 [(.prim .len [(.ix (.var 0) (.int 1))])] b1__law_steps [3, 4, 5, 6, 7, 8, 9]),
    (.retM 2)] }
def t1__law_walk : E := (.cmp .Eq (.ix (.var 6) (.int 1)) (.var 2))
def b1__law_walk : List Sm := [(.asg (.nm 5) (.lc (.var 6) (.nm 6) .seq [(.var 0)] [t1__law_walk] [6])),
    (.ite (.cmp .NotEq (.var 5) (.lst [])) [(.asg (.nm 6) (.ix (.var 5) (.bin .Mod (.ix (.var 1) (.bin .Add (.int 24) (.var 4))) (.prim .len [(.var 5)])))),
    (.mutO 3 .append [(.ix (.var 6) (.int 0))]),
    (.asg (.nm 2) (.ix (.var 6) (.int 2)))] [])]
def f__law_walk : FD := { np := 2, ns := 7, body := [(.asg (.nm 2) (.ix (.var 1) (.int 0))),
    (.asg (.nm 3) (.lst [])),
    (.for_ (.nm 4) .range1 [(.bin .Mod (.ix (.var 1) (.int 1)) (.ix (.lst [(.int 13), (.int 41)]) (.bin .FloorDiv (.bin .Mod (.ix (.var 1) (.int 23)) (.int 3)) (.int 2))))] b1__law_walk [4, 5, 6]),
    (.ret (.tup [(.ix (.var 1) (.int 0)), (.var 2), (.var 3)]))] }
def b1_minutes_of (i_driven : Nat) : List Sm := [(.asg (.tp [(.nm 4), (.nm 6)]) (.call i_driven [(.ix (.ix (.var 0) (.int 1)) (.var 5)), (.var 4)])),
    (.asg (.nm 3) (.bin .Add (.var 3) (.var 6)))]
def f_minutes_of (i_driven : Nat) : FD := { np := 3, ns := 7, body := [(.asg (.nm 3) (.int 0)),
    (.asg (.nm 4) (.var 1)),
    (.for_ (.nm 5) .seq [(.var 2)] (b1_minutes_of i_driven) [5, 6]),
    (.ret (.var 3))] }
def f__law_pen : FD := { np := 2, ns := 4, body := [(.asg (.nm 2) (.int 0)),
    (.ite (.cmp .Lt (.var 1) (.prim .len [(.var 0)])) [(.asg (.nm 2) (.ix (.var 0) (.var 1)))] []),
    (.asg (.nm 3) (.int 0)),
    (.ite (.cmp .GtE (.prim .abs [(.var 2)]) (.bin .Pow (.int 10) (.int 18))) [(.asg (.nm 3) (.prim .abs [(.var 2)]))] []),
    (.ret (.lst [(.var 3), (.bin .Mod (.var 2) (.int 2147483629)), (.int 0)]))] }
def f__law_draw : FD := { np := 2, ns := 5, body := [(.ite (.cmp .Gt (.ix (.var 0) (.int 0)) (.int 0)) [(.asg (.nm 2) (.bin .Mod (.ix (.var 0) (.int 0)) (.var 1))),
    (.setX (.var 0) (.int 0) (.bin .FloorDiv (.ix (.var 0) (.int 0)) (.var 1))),
    (.ret (.var 2))] []),
    (.setX (.var 0) (.int 2) (.bin .Add (.ix (.var 0) (.int 2)) (.int 1))),
    (.asg (.nm 3) (.ix (.var 0) (.int 2))),
    (.asg (.nm 4) (.bin .Mod (.bin .Add (.bin .Add (.bin .Mult (.ix (.var 0) (.int 1)) (.int 40503)) (.bin .Mult (.bin .Mult (.int 7919) (.var 3)) (.var 3))) (.bin .Mult (.int 104729) (.var 3))) (.int 2147483647))),
    (.asg (.nm 4) (.bin .Mod (.bin .Mult (.var 4) (.bin .Add (.bin .Mod (.var 4) (.int 65003)) (.int 3))) (.int 2147483587))),
    (.ret (.bin .Mod (.bin .FloorDiv (.bin .Mod (.bin .Add (.bin .Mult (.var 4) (.int 69621)) (.var 3)) (.int 2147483563)) (.int 16)) (.var 1)))] }
def b1_steps_from (i_step_by : Nat) : List Sm := [(.asg (.nm 5) (.call i_step_by [(.var 0), (.var 1), (.var 2), (.var 4)])),
    (.ite (.cmp .IsNot (.var 5) .non) [(.mutO 3 .append [(.tup [(.var 4), (.ix (.var 5) (.int 0)), (.ix (.var 5) (.int 1))])])] [])]
def f_steps_from (i_step_by : Nat) : FD := { np := 3, ns := 6, body := [(.asg (.nm 3) (.lst [])),
    (.for_ (.nm 4) .range1 [(.prim .len [(.ix (.var 0) (.int 1))])] (b1_steps_from i_step_by) [4, 5]),
    (.retM 3)] }
def f_minutes_to : FD := { np := 4, ns := 4, body := [(.ret (.ix (.ix (.var 1) (.mth .index (.ix (.var 0) (.int 0)) [(.var 3)])) (.mth .index (.ix (.var 0) (.int 0)) [(.var 2)])))] }
def b1_first_road (i_minutes_to i_steps_from : Nat) : List Sm := [(.asg (.nm 9) (.call i_minutes_to [(.var 0), (.var 2), (.var 7), (.var 4)])),
    (.ite (.andE [(.cmp .IsNot (.var 9) .non), (.cmp .Eq (.bin .Add (.var 9) (.var 8)) (.var 5))]) [(.ret (.var 6))] [])]
def f_first_road (i_minutes_to i_steps_from : Nat) : FD := { np := 5, ns := 10, body := [(.asg (.nm 5) (.call i_minutes_to [(.var 0), (.var 2), (.var 3), (.var 4)])),
    (.ite (.orE [(.cmp .Is (.var 5) .non), (.cmp .Eq (.var 3) (.var 4))]) [(.ret .non)] []),
    (.for_ (.tp [(.nm 6), (.nm 7), (.nm 8)]) .seq [(.call i_steps_from [(.var 0), (.var 1), (.var 3)])] (b1_first_road i_minutes_to i_steps_from) [6, 7, 8, 9]),
    (.ret .non)] }
def e1__law_chart (i__law_steps : Nat) : E := (.ix (.lst [.non, (.int 0)]) (.prim .int [(.cmp .Eq (.var 6) (.var 4))]))
def b1__law_chart (i__law_steps : Nat) : List Sm := [(.mutO 3 .append [(.box (.lc (e1__law_chart i__law_steps) (.nm 6) .range1 [(.var 2)] [] [6]))])]
def b2__law_chart (i__law_steps : Nat) : List Sm := [(.ite (.orE [(.cmp .Is (.ix (.ix (.var 3) (.var 7)) (.var 6)) .non), (.cmp .Gt (.ix (.ix (.var 3) (.var 7)) (.var 6)) (.var 8))]) [(.setX (.ix (.var 3) (.var 7)) (.var 6) (.var 8))] [])]
def b3__law_chart (i__law_steps : Nat) : List Sm := [(.ite (.andE [(.cmp .IsNot (.ix (.ix (.var 3) (.var 9)) (.var 6)) .non), (.cmp .IsNot (.ix (.ix (.var 3) (.var 4)) (.var 9)) .non)]) [(.asg (.nm 10) (.bin .Add (.ix (.ix (.var 3) (.var 9)) (.var 6)) (.ix (.ix (.var 3) (.var 4)) (.var 9)))),
    (.ite (.orE [(.cmp .Is (.ix (.ix (.var 3) (.var 4)) (.var 6)) .non), (.cmp .Gt (.ix (.ix (.var 3) (.var 4)) (.var 6)) (.var 10))]) [(.setX (.ix (.var 3) (.var 4)) (.var 6) (.var 10))] [])] [])]
def b4__law_chart (i__law_steps : Nat) : List Sm := [(.for_ (.nm 6) .range1 [(.var 2)] (b3__law_chart i__law_steps) [6, 10])]
def b5__law_chart (i__law_steps : Nat) : List Sm := [(.for_ (.nm 4) .range1 [(.var 2)] (b4__law_chart i__law_steps) [4, 6, 10])]
def e2__law_chart (i__law_steps : Nat) : E := (.prim .tuple [(.var 11)])
def f__law_chart (i__law_steps : Nat) : FD := { np := 2, ns := 12, body := [(.asg (.nm 2) (.prim .len [(.ix (.var 0) (.int 0))])),
    (.asg (.nm 3) (.lst [])),
    (.for_ (.nm 4) .range1 [(.var 2)] (b1__law_chart i__law_steps) [4]),
    (.for_ (.tp [(.nm 5), (.nm 6), (.nm 7), (.nm 8)]) .seq [(.call i__law_steps [(.var 0), (.var 1)])] (b2__law_chart i__law_steps) [5, 6, 7, 8]),
    (.for_ (.nm 9) .range1 [(.var 2)] (b5__law_chart i__law_steps) [4, 6, 9, 10]),
    (.ret (.prim .tuple [(.lc (e2__law_chart i__law_steps) (.nm 11) .seq [(.var 3)] [] [11])]))] }
def b1__law_due : List Sm := [(.ite (.andE [(.cmp .Eq (.var 6) (.var 2)), (.cmp .IsNot (.ix (.ix (.var 1) (.var 3)) (.var 7)) .non), (.cmp .Eq (.bin .Add (.ix (.ix (.var 1) (.var 3)) (.var 7)) (.var 8)) (.ix (.ix (.var 1) (.var 3)) (.var 2)))]) [(.mutO 4 .append [(.var 5)])] [])]
def f__law_due : FD := { np := 4, ns := 9, body := [(.ite (.orE [(.cmp .Eq (.var 2) (.var 3)), (.cmp .Is (.ix (.ix (.var 1) (.var 3)) (.var 2)) .non)]) [(.ret .non)] []),
    (.asg (.nm 4) (.lst [])),
    (.for_ (.tp [(.nm 5), (.nm 6), (.nm 7), (.nm 8)]) .seq [(.var 0)] b1__law_due [5, 6, 7, 8]),
    (.ret (.prim .min1 [(.var 4)]))] }
def b1_all_steps (i_steps_from : Nat) : List Sm := [(.mutO 2 .append [(.tup [(.var 4), (.var 3), (.var 5), (.var 6)])])]
def b2_all_steps (i_steps_from : Nat) : List Sm := [(.for_ (.tp [(.nm 4), (.nm 5), (.nm 6)]) .seq [(.call i_steps_from [(.var 0), (.var 1), (.var 3)])] (b1_all_steps i_steps_from) [4, 5, 6])]
def f_all_steps (i_steps_from : Nat) : FD := { np := 2, ns := 7, body := [(.asg (.nm 2) (.lst [])),
    (.for_ (.nm 3) .seq [(.ix (.var 0) (.int 0))] (b2_all_steps i_steps_from) [3, 4, 5, 6]),
    (.retM 2)] }
def b1_least_to : List Sm := [(.ite (.andE [(.cmp .In (.var 6) (.var 2)), (.orE [(.cmp .NotIn (.var 5) (.var 2)), (.cmp .Lt (.bin .Add (.ix (.var 2) (.var 6)) (.var 7)) (.ix (.var 2) (.var 5)))])]) [(.setK 2 (.var 5) (.bin .Add (.ix (.var 2) (.var 6)) (.var 7))),
    (.asg (.nm 3) (.bl true))] [])]
def b2_least_to : List Sm := [(.asg (.nm 3) (.bl false)),
    (.for_ (.tp [(.nm 4), (.nm 5), (.nm 6), (.nm 7)]) .seq [(.var 0)] b1_least_to [4, 5, 6, 7])]
def f_least_to : FD := { np := 2, ns := 8, body := [(.asg (.nm 2) (.dct [(.var 1), (.int 0)])),
    (.asg (.nm 3) (.bl true)),
    (.while_ (.var 3) b2_least_to [4, 5, 6, 7]),
    (.retM 2)] }
def e1_chart_of (i_all_steps i_least_to : Nat) : E := (.mth .get1 (.var 5) [(.var 6)])
def b1_chart_of (i_all_steps i_least_to : Nat) : List Sm := [(.asg (.nm 5) (.call i_least_to [(.var 2), (.var 4)])),
    (.mutO 3 .append [(.prim .tuple [(.lc (e1_chart_of i_all_steps i_least_to) (.nm 6) .seq [(.ix (.var 0) (.int 0))] [] [6])])])]
def f_chart_of (i_all_steps i_least_to : Nat) : FD := { np := 2, ns := 7, body := [(.asg (.nm 2) (.call i_all_steps [(.var 0), (.var 1)])),
    (.asg (.nm 3) (.lst [])),
    (.for_ (.nm 4) .seq [(.ix (.var 0) (.int 0))] (b1_chart_of i_all_steps i_least_to) [4, 5]),
    (.ret (.prim .tuple [(.var 3)]))] }
def t1_way (i_chart_of i_minutes_to i_first_road i_step_by : Nat) : E := (.cmp .NotEq (.var 6) (.var 3))
def b1_way (i_chart_of i_minutes_to i_first_road i_step_by : Nat) : List Sm := [(.asg (.nm 7) (.call i_first_road [(.var 0), (.var 1), (.var 4), (.var 6), (.var 3)])),
    (.mutO 5 .append [(.var 7)]),
    (.asg (.nm 6) (.ix (.call i_step_by [(.var 0), (.var 1), (.var 6), (.var 7)]) (.int 0)))]
def f_way (i_chart_of i_minutes_to i_first_road i_step_by : Nat) : FD := { np := 4, ns := 8, body := [(.asg (.nm 4) (.call i_chart_of [(.var 0), (.var 1)])),
    (.ite (.cmp .Is (.call i_minutes_to [(.var 0), (.var 4), (.var 2), (.var 3)]) .non) [(.ret .non)] []),
    (.asg (.nm 5) (.lst [])),
    (.asg (.nm 6) (.var 2)),
    (.while_ (t1_way i_chart_of i_minutes_to i_first_road i_step_by) (b1_way i_chart_of i_minutes_to i_first_road i_step_by) [7]),
    (.ret (.prim .tuple [(.var 5)]))] }
def b1__law_no_sooner (i__law_steps : Nat) : List Sm := [(.asg (.nm 8) (.ix (.var 7) (.var 5))),
    (.ite (.andE [(.cmp .IsNot (.var 8) .non), (.orE [(.cmp .Is (.ix (.var 7) (.var 4)) .non), (.cmp .Gt (.ix (.var 7) (.var 4)) (.bin .Add (.var 8) (.var 6)))])]) [(.ret (.bl false))] [])]
def b2__law_no_sooner (i__law_steps : Nat) : List Sm := [(.for_ (.nm 7) .seq [(.var 2)] (b1__law_no_sooner i__law_steps) [7, 8])]
def f__law_no_sooner (i__law_steps : Nat) : FD := { np := 3, ns := 9, body := [(.for_ (.tp [(.nm 3), (.nm 4), (.nm 5), (.nm 6)]) .seq [(.call i__law_steps [(.var 0), (.var 1)])] (b2__law_no_sooner i__law_steps) [3, 4, 5, 6, 7, 8]),
    (.ret (.bl true))] }
def b1__law_lined (i__law_town i__law_row i__law_cell_at i__law_names : Nat) : List Sm := [(.asg (.nm 6) (.call i__law_row [(.call i__law_cell_at [(.var 0), (.bin .Add (.int 1) (.var 5))]), (.int 6)])),
    (.asg (.nm 7) (.slS (.sl (.var 3) [(.var 5)] [(.bin .Add (.var 5) (.int 2))]) (.ix (.lst [(.int 1), (.neg (.int 1))]) (.bin .Mod (.bin .FloorDiv (.ix (.var 2) (.int 18)) (.int 6)) (.int 2))))),
    (.asg (.nm 8) (.ix (.lst [(.bin .Add (.int 1) (.bin .Mod (.ix (.var 6) (.int 2)) (.int 60))), (.bin .Add (.int 40) (.bin .Mod (.ix (.var 6) (.int 2)) (.int 21)))]) (.bin .Mod (.bin .FloorDiv (.ix (.var 2) (.int 18)) (.int 24)) (.int 2)))),
    (.mutO 4 .append [(.tup [(.ix (.var 7) (.int 0)), (.ix (.var 7) (.int 1)), (.var 8), (.ix (.lst [(.bin .Add (.int 1) (.bin .Mod (.ix (.var 6) (.int 3)) (.int 60))), .non]) (.prim .int [(.cmp .Eq (.bin .Mod (.ix (.var 6) (.int 5)) (.int 3)) (.int 1))]))])])]
def f__law_lined (i__law_town i__law_row i__law_cell_at i__law_names : Nat) : FD := { np := 1, ns := 9, body := [(.asg (.nm 1) (.call i__law_town [(.var 0), (.int 0)])),
    (.asg (.nm 2) (.call i__law_row [(.call i__law_cell_at [(.var 0), (.int 0)]), (.int 20)])),
    (.ite (.cmp .NotEq (.bin .Mod (.ix (.var 2) (.int 18)) (.int 6)) (.int 1)) [(.ret (.var 1))] []),
    (.asg (.nm 3) (.call i__law_names [(.var 2), (.int 10)])),
    (.asg (.nm 4) (.lst [])),
    (.for_ (.nm 5) .range1 [(.int 9)] (b1__law_lined i__law_town i__law_row i__law_cell_at i__law_names) [5, 6, 7, 8]),
    (.asg (.nm 4) (.slS (.var 4) (.ix (.lst [(.int 1), (.neg (.int 1))]) (.bin .Mod (.bin .FloorDiv (.ix (.var 2) (.int 18)) (.int 12)) (.int 2))))),
    (.ret (.tup [(.prim .tuple [(.var 3)]), (.prim .tuple [(.var 4)]), (.prim .tuple [(.sl (.var 3) [] [(.bin .Add (.int 1) (.bin .Mod (.ix (.var 2) (.int 13)) (.int 5)))])]), (.ix (.var 1) (.int 3))]))] }
def f_far (i_minutes_to : Nat) : FD := { np := 5, ns := 6, body := [(.asg (.nm 5) (.call i_minutes_to [(.var 0), (.var 1), (.ix (.var 3) (.int 3)), (.var 4)])),
    (.ite (.cmp .Is (.var 5) .non) [(.ret .non)] []),
    (.ret (.bin .Add (.prim .max2 [(.int 0), (.bin .Sub (.ix (.var 3) (.int 4)) (.var 2))]) (.var 5)))] }
def e1__law_task : E := (.ix (.var 8) (.int 1))
def t1__law_task : E := (.cmp .Eq (.ix (.var 8) (.int 0)) (.var 6))
def f__law_task : FD := { np := 4, ns := 9, body := [(.asg (.nm 4) (.prim .max2 [(.int 0), (.bin .Add (.var 1) (.ix (.lst [(.int 0), (.bin .Mod (.ix (.var 0) (.int 2)) (.int 9)), (.bin .Mod (.ix (.var 0) (.int 2)) (.int 121)), (.bin .Sub (.int 0) (.bin .Mod (.ix (.var 0) (.int 2)) (.int 9))), (.bin .Sub (.bin .Mod (.ix (.var 0) (.int 2)) (.int 3)) (.int 1))]) (.bin .Mod (.ix (.var 0) (.int 3)) (.int 5))))])),
    (.asg (.nm 5) (.bin .Mod (.ix (.var 0) (.int 4)) (.int 4))),
    (.ite (.orE [(.cmp .Eq (.var 5) (.int 0)), (.cmp .Eq (.var 3) (.lst []))]) [(.ret (.tup [.non, (.var 4), (.tup [(.str (PySem.Str.ofString "free"))])]))] []),
    (.asg (.nm 6) (.pop (.var 3) [(.bin .Mod (.ix (.var 0) (.int 5)) (.prim .len [(.var 3)]))])),
    (.ite (.cmp .Eq (.var 5) (.int 1)) [(.asg (.nm 7) (.ix (.lc e1__law_task (.nm 8) .seq [(.var 2)] [t1__law_task] [8]) (.int 0))),
    (.ret (.tup [(.var 7), (.prim .min2 [(.var 4), (.var 1)]), (.tup [(.str (PySem.Str.ofString "at")), (.var 6)])]))] []),
    (.ret (.tup [.non, (.var 4), (.tup [(.str (PySem.Str.ofString "to")), (.var 6)])]))] }
def b1__law_scene (i__law_town i__law_row i__law_cell_at i__law_names i__law_task : Nat) : List Sm := [(.asg (.nm 7) (.call i__law_row [(.call i__law_cell_at [(.var 0), (.bin .Add (.int 26) (.var 6))]), (.int 6)])),
    (.asg (.nm 8) (.bin .Add (.int 1) (.bin .Mod (.ix (.var 7) (.int 1)) (.ix (.lst [(.int 5), (.int 2), (.int 1)]) (.bin .Mod (.ix (.var 2) (.int 15)) (.int 3)))))),
    (.asg (.nm 9) (.ix (.lst [(.prim .max2 [(.int 0), (.bin .Sub (.var 4) (.bin .Mod (.ix (.var 7) (.int 2)) (.int 3)))]), (.bin .Mod (.ix (.var 7) (.int 2)) (.bin .Add (.var 4) (.int 1))), (.var 4)]) (.bin .Mod (.ix (.var 7) (.int 3)) (.int 3)))),
    (.mutO 5 .append [(.tup [(.ix (.var 3) (.var 6)), (.ix (.ix (.var 1) (.int 0)) (.bin .Mod (.ix (.var 7) (.int 0)) (.prim .len [(.ix (.var 1) (.int 0))]))), (.var 8), (.var 9)])])]
def e1__law_scene (i__law_town i__law_row i__law_cell_at i__law_names i__law_task : Nat) : E := (.ix (.var 17) (.int 0))
def b2__law_scene (i__law_town i__law_row i__law_cell_at i__law_names i__law_task : Nat) : List Sm := [(.asg (.nm 7) (.call i__law_row [(.call i__law_cell_at [(.var 0), (.bin .Add (.int 21) (.var 6))]), (.int 10)])),
    (.asg (.tp [(.nm 12), (.nm 13), (.nm 14)]) (.call i__law_task [(.var 7), (.var 4), (.var 5), (.var 10)])),
    (.asg (.nm 12) (.orE [(.var 12), (.ix (.ix (.var 1) (.int 0)) (.bin .Mod (.ix (.var 7) (.int 0)) (.prim .len [(.ix (.var 1) (.int 0))])))])),
    (.asg (.nm 15) (.ix (.ix (.var 1) (.int 2)) (.bin .Mod (.ix (.var 7) (.int 7)) (.prim .len [(.ix (.var 1) (.int 2))])))),
    (.asg (.nm 16) (.ix (.lst [(.var 15), (.ix (.ix (.var 1) (.int 0)) (.bin .Mod (.ix (.var 7) (.int 6)) (.prim .len [(.ix (.var 1) (.int 0))])))]) (.bin .Mod (.ix (.var 7) (.int 8)) (.int 2)))),
    (.mutO 11 .append [(.tup [(.ix (.var 3) (.bin .Mod (.bin .Add (.ix (.var 2) (.int 17)) (.var 6)) (.int 15))), (.var 15), (.var 16), (.var 12), (.var 13), (.var 14)])])]
def f__law_scene (i__law_town i__law_row i__law_cell_at i__law_names i__law_task : Nat) : FD := { np := 1, ns := 18, body := [(.asg (.nm 1) (.call i__law_town [(.var 0), (.int 0)])),
    (.asg (.nm 2) (.call i__law_row [(.call i__law_cell_at [(.var 0), (.int 20)]), (.int 20)])),
    (.asg (.nm 3) (.call i__law_names [(.var 2), (.int 15)])),
    (.asg (.nm 4) (.ix (.lst [(.bin .Mod (.ix (.var 2) (.int 12)) (.int 30)), (.ix (.var 2) (.int 12)), (.bin .Pow (.int 10) (.int 6))]) (.bin .Mod (.ix (.var 2) (.int 13)) (.int 3)))),
    (.asg (.nm 5) (.lst [])),
    (.for_ (.nm 6) .range1 [(.bin .Mod (.ix (.var 2) (.int 14)) (.int 11))] (b1__law_scene i__law_town i__law_row i__law_cell_at i__law_names i__law_task) [6, 7, 8, 9]),
    (.asg (.nm 10) (.box (.lc (e1__law_scene i__law_town i__law_row i__law_cell_at i__law_names i__law_task) (.nm 17) .seq [(.var 5)] [] [17]))),
    (.asg (.nm 11) (.lst [])),
    (.for_ (.nm 6) .range1 [(.bin .Mod (.ix (.var 2) (.int 16)) (.int 6))] (b2__law_scene i__law_town i__law_row i__law_cell_at i__law_names i__law_task) [6, 7, 12, 13, 14, 15, 16]),
    (.ret (.tup [(.var 1), (.var 4), (.prim .sorted [(.var 11)]), (.prim .sorted [(.var 5)])]))] }
def f__law_far : FD := { np := 5, ns := 6, body := [(.asg (.nm 5) (.ix (.ix (.var 1) (.mth .index (.ix (.var 0) (.int 0)) [(.var 4)])) (.mth .index (.ix (.var 0) (.int 0)) [(.ix (.var 3) (.int 3))]))),
    (.ite (.andE [(.cmp .IsNot (.var 5) .non), (.cmp .Gt (.ix (.var 3) (.int 4)) (.var 2))]) [(.asg (.nm 5) (.bin .Sub (.bin .Add (.var 5) (.ix (.var 3) (.int 4))) (.var 2)))] []),
    (.ret (.var 5))] }
def b1_call_named : List Sm := [(.ite (.cmp .Eq (.ix (.var 2) (.int 0)) (.var 1)) [(.ret (.var 2))] [])]
def f_call_named : FD := { np := 2, ns := 3, body := [(.for_ (.nm 2) .seq [(.var 0)] b1_call_named [2]),
    (.ret .non)] }
def f_may_be_sent (g_FREE i_call_named : Nat) : FD := { np := 3, ns := 4, body := [(.asg (.nm 3) (.ix (.var 1) (.int 5))),
    (.ite (.cmp .Eq (.var 3) (.glob g_FREE)) [(.ret (.bl true))] []),
    (.ite (.orE [(.cmp .Eq (.ix (.var 3) (.int 0)) (.str (PySem.Str.ofString "at"))), (.cmp .Eq (.ix (.var 3) (.int 1)) (.var 2))]) [(.ret (.bl false))] []),
    (.ret (.cmp .Gt (.ix (.call i_call_named [(.var 0), (.ix (.var 3) (.int 1))]) (.int 2)) (.ix (.call i_call_named [(.var 0), (.var 2)]) (.int 2))))] }
def e1__law_may : E := (.tup [(.ix (.var 4) (.int 0)), (.ix (.var 4) (.int 2))])
def f__law_may : FD := { np := 3, ns := 5, body := [(.asg (.nm 3) (.prim .dict [(.lc e1__law_may (.nm 4) .seq [(.var 0)] [] [4])])),
    (.ite (.cmp .Eq (.ix (.var 1) (.int 5)) (.tup [(.str (PySem.Str.ofString "free"))])) [(.ret (.bl true))] []),
    (.ret (.andE [(.cmp .Eq (.ix (.ix (.var 1) (.int 5)) (.int 0)) (.str (PySem.Str.ofString "to"))), (.cmp .NotEq (.ix (.ix (.var 1) (.int 5)) (.int 1)) (.var 2)), (.cmp .Gt (.ix (.var 3) (.ix (.ix (.var 1) (.int 5)) (.int 1))) (.ix (.var 3) (.var 2)))]))] }
end Sh
namespace Lk43
open PySem Iv
abbrev i_call_named : Nat := 0
abbrev i_may_be_sent : Nat := 1
abbrev i__law_cell_at : Nat := 2
abbrev i__law_row : Nat := 3
abbrev i__law_names : Nat := 4
abbrev i__law_road : Nat := 5
abbrev i__law_town : Nat := 6
abbrev i__law_shut : Nat := 7
abbrev i__law_steps : Nat := 8
abbrev i__law_chart : Nat := 9
abbrev i__law_task : Nat := 10
abbrev i__law_scene : Nat := 11
abbrev i__law_may : Nat := 12
abbrev i_law : Nat := 13
abbrev g_FREE : Nat := 0
abbrev b1_call_named : List Sm := Sh.b1_call_named
abbrev f_call_named : FD := Sh.f_call_named
abbrev f_may_be_sent : FD := Sh.f_may_be_sent g_FREE i_call_named
abbrev f__law_cell_at : FD := Sh.f__law_cell_at
abbrev b1__law_row : List Sm := Sh.b1__law_row
abbrev f__law_row : FD := Sh.f__law_row
abbrev e1__law_names : E := Sh.e1__law_names
abbrev b1__law_names : List Sm := Sh.b1__law_names
abbrev f__law_names : FD := Sh.f__law_names
abbrev f__law_road : FD := Sh.f__law_road
abbrev b1__law_town : List Sm := Sh.b1__law_town i__law_row i__law_cell_at i__law_names i__law_road
abbrev f__law_town : FD := Sh.f__law_town i__law_row i__law_cell_at i__law_names i__law_road
abbrev t1__law_shut : E := Sh.t1__law_shut i__law_row
abbrev f__law_shut : FD := Sh.f__law_shut i__law_row
abbrev b1__law_steps : List Sm := Sh.b1__law_steps
abbrev f__law_steps : FD := Sh.f__law_steps
abbrev e1__law_chart : E := Sh.e1__law_chart i__law_steps
abbrev b1__law_chart : List Sm := Sh.b1__law_chart i__law_steps
abbrev b2__law_chart : List Sm := Sh.b2__law_chart i__law_steps
abbrev b3__law_chart : List Sm := Sh.b3__law_chart i__law_steps
abbrev b4__law_chart : List Sm := Sh.b4__law_chart i__law_steps
abbrev b5__law_chart : List Sm := Sh.b5__law_chart i__law_steps
abbrev e2__law_chart : E := Sh.e2__law_chart i__law_steps
abbrev f__law_chart : FD := Sh.f__law_chart i__law_steps
abbrev e1__law_task : E := Sh.e1__law_task
abbrev t1__law_task : E := Sh.t1__law_task
abbrev f__law_task : FD := Sh.f__law_task
abbrev b1__law_scene : List Sm := Sh.b1__law_scene i__law_town i__law_row i__law_cell_at i__law_names i__law_task
abbrev e1__law_scene : E := Sh.e1__law_scene i__law_town i__law_row i__law_cell_at i__law_names i__law_task
abbrev b2__law_scene : List Sm := Sh.b2__law_scene i__law_town i__law_row i__law_cell_at i__law_names i__law_task
abbrev f__law_scene : FD := Sh.f__law_scene i__law_town i__law_row i__law_cell_at i__law_names i__law_task
abbrev e1__law_may : E := Sh.e1__law_may
abbrev f__law_may : FD := Sh.f__law_may
def e1_law : E := (.tup [(.var 8), (.var 9), (.bin .Sub (.int 6) (.var 10)), (.var 11)])
def b1_law : List Sm := [(.asg (.nm 12) (.call i_may_be_sent [(.var 6), (.var 7), (.var 8)])),
    (.ite (.orE [(.not (.prim (.isi ["bool"]) [(.var 12)])), (.cmp .NotEq (.var 12) (.call i__law_may [(.var 6), (.var 7), (.var 8)]))]) [(.ret (.bl false))] [])]
def b2_law : List Sm := [(.for_ (.tp [(.nm 8), (.nm 9), (.nm 10), (.nm 11)]) .seq [(.var 4)] b1_law [8, 9, 10, 11, 12])]
def b3_law : List Sm := [(.for_ (.nm 7) .seq [(.var 3)] b2_law [7, 8, 9, 10, 11, 12])]
def f_law : FD := { np := 1, ns := 13, body := [(.asg (.tp [(.nm 1), (.nm 2), (.nm 3), (.nm 4)]) (.call i__law_scene [(.var 0)])),
    (.asg (.nm 5) (.lc e1_law (.tp [(.nm 8), (.nm 9), (.nm 10), (.nm 11)]) .seq [(.var 4)] [] [8, 9, 10, 11])),
    (.for_ (.nm 6) .seq [(.lst [(.var 4), (.var 5), (.prim .tuple [(.var 4)]), (.var 4)])] b3_law [6, 7, 8, 9, 10, 11, 12]),
    (.ret (.cmp .Eq (.prim .list [(.var 4)]) (.prim .sorted [(.var 4)])))] }
def glo : List D := [(.tup [(.str (PySem.Str.ofString "free"))])]
def pg : Pg := { fns := [f_call_named, f_may_be_sent, f__law_cell_at, f__law_row, f__law_names, f__law_road, f__law_town, f__law_shut, f__law_steps, f__law_chart, f__law_task, f__law_scene, f__law_may, f_law], cls := [], exs := [], glo := glo }
end Lk43
namespace Lk43
open PySem PySem.Spec PyProof.Rows L2 Iv
def top (i : Nat) : Stmt := PySem.Challenge.pw_wagoncalls_k43_which_may_be_sent.main.body.getD i (.Pass ⟨0, 0, 0, 0⟩)
def cn : Cn := { fn := [("call_named", 2), ("may_be_sent", 3), ("_law_cell_at", 2), ("_law_row", 2), ("_law_names", 2), ("_law_road", 2), ("_law_town", 2), ("_law_shut", 2), ("_law_steps", 2), ("_law_chart", 2), ("_law_task", 4), ("_law_scene", 1), ("_law_may", 3), ("law", 1)], gl := ["FREE"] }
def fa : List He.Fa := bltNames.map He.Fa.free ++ [.glo "call_named", .keep "call_named", .glo "may_be_sent", .keep "may_be_sent", .glo "_law_cell_at", .keep "_law_cell_at", .glo "_law_row", .keep "_law_row", .glo "_law_names", .keep "_law_names", .glo "_law_road", .keep "_law_road", .glo "_law_town", .keep "_law_town", .glo "_law_shut", .keep "_law_shut", .glo "_law_steps", .keep "_law_steps", .glo "_law_chart", .keep "_law_chart", .glo "_law_task", .keep "_law_task", .glo "_law_scene", .keep "_law_scene", .glo "_law_may", .keep "_law_may", .glo "law", .keep "law", .glo "FREE"]
def fn : List He.FnD := [⟨("call_named", none), "call_named", "call_named", defArgs (top 2), defBody (top 2), defScope (top 2)⟩, ⟨("may_be_sent", none), "may_be_sent", "may_be_sent", defArgs (top 3), defBody (top 3), defScope (top 3)⟩, ⟨("_law_cell_at", none), "_law_cell_at", "_law_cell_at", defArgs (top 5), defBody (top 5), defScope (top 5)⟩, ⟨("_law_row", none), "_law_row", "_law_row", defArgs (top 6), defBody (top 6), defScope (top 6)⟩, ⟨("_law_names", none), "_law_names", "_law_names", defArgs (top 7), defBody (top 7), defScope (top 7)⟩, ⟨("_law_road", none), "_law_road", "_law_road", defArgs (top 8), defBody (top 8), defScope (top 8)⟩, ⟨("_law_town", none), "_law_town", "_law_town", defArgs (top 9), defBody (top 9), defScope (top 9)⟩, ⟨("_law_shut", none), "_law_shut", "_law_shut", defArgs (top 10), defBody (top 10), defScope (top 10)⟩, ⟨("_law_steps", none), "_law_steps", "_law_steps", defArgs (top 11), defBody (top 11), defScope (top 11)⟩, ⟨("_law_chart", none), "_law_chart", "_law_chart", defArgs (top 12), defBody (top 12), defScope (top 12)⟩, ⟨("_law_task", none), "_law_task", "_law_task", defArgs (top 13), defBody (top 13), defScope (top 13)⟩, ⟨("_law_scene", none), "_law_scene", "_law_scene", defArgs (top 14), defBody (top 14), defScope (top 14)⟩, ⟨("_law_may", none), "_law_may", "_law_may", defArgs (top 15), defBody (top 15), defScope (top 15)⟩, ⟨("law", none), "law", "law", defArgs (top 16), defBody (top 16), defScope (top 16)⟩]
abbrev R : PySem.W.OpenRow := PySem.W.OpenLaw.row PySem.Challenge.rw_wagoncalls_k43_which_may_be_sent
def ex (K : PySem.W.Frag) : Bool := (Iv.tupG K "FREE" [(PySem.Str.ofString "free")])
abbrev hk : PySem.W.Hook := Iv.hookM 4 fa fn ex
def ob (s : PySem.W.SharedT) : Iv.AlM := Iv.obsM 4 fa fn ex (HandSHeadRun.getT s)
theorem ob_eq (s : PySem.W.SharedT) : ob s = hk.obs s.abs := Iv.obsM_eq (HandSHeadRun.getT_eq s)
def loose0 : List Str := ["FREE", "call_named", "may_be_sent", "_law_cell_at", "_law_row", "_law_names", "_law_road", "_law_town", "_law_shut", "_law_steps", "_law_chart", "_law_task", "_law_scene", "_law_may"]
abbrev loose : List Str := loose0
theorem run (w : World) : HandSHeadRun.RunEq R (PySem.W.view R.prog [16]) hk ob 2000 loose w := by
  intro os
  kernel_rfl
section
variable {K : PySem.W.Frag} {h : Heap} {mg : Str → Option Value}
theorem fact (c : He.SaysE fa fn K) {f : He.Fa} (hf : f ∈ fa) : f.ok K = true := by
  have c1 := (He.ba (show ((fa.all fun f => f.ok K) && fn.all fun d => (He.Fa.code d.at_ d.qual).ok K) = true from congrArg (fun z : He.Al => z.1) c)).1
  exact List.all_eq_true.mp c1 f hf
theorem blt (X : K.In h) (G : h.Ns mainGlobals mg) (c : He.SaysE fa fn K) : ∀ x ∈ bltNames, mg x = none := fun x hx => He.free_ok X G (fact c (List.mem_append_left _ (List.mem_map_of_mem hx)))
theorem factI (c : He.SaysE fa fn K) (i : Nat) {f : He.Fa} (hf : fa[i]? = some f) : f.ok K = true := fact c (List.mem_of_getElem? hf)
def N_call_named : List Str := ["calls", "name", "call"]
theorem sc_call_named : FnScope N_call_named ["calls", "name"] (defScope (top 2)) := ⟨rfl, rfl, rfl, by decide +kernel, rfl, by decide +kernel, by decide +kernel⟩
theorem chk_call_named : mSs cn N_call_named (defScope (top 2)) f_call_named.body (defBody (top 2)) = true := by decide +kernel
theorem bnd_call_named (kV doc pm : Value) (an : Option Addr) (cdv ct : Value) (us : List Value) (hl : us.length = ([("calls" : Str), ("name" : Str)] : List Str).length) : bindArgs (PySem.W.fnOf "call_named" "call_named" (defArgs (top 2)) (defBody (top 2)) (defScope (top 2)) .none kV doc pm an cdv ct) ⟨us, []⟩ = pure (List.zip [("calls" : Str), ("name" : Str)] us) :=
  match us, hl with | [_, _], _ => rfl
theorem defc_call_named (X : K.In h) (G : h.Ns mainGlobals mg) (c : He.SaysE fa fn K) : ∃ fd, DefC K mg cn pg 0 "call_named" 2 "call_named" (top 2) (He.ga K "call_named") fd N_call_named ["calls", "name"] f_call_named := by
  obtain ⟨oc, od, osl, kV, doc, pm, an, cdv, ct, l, cc⟩ := c.def_ 0 (d := ⟨("call_named", none), "call_named", "call_named", defArgs (top 2), defBody (top 2), defScope (top 2)⟩) rfl
  have F : Fun K "call_named" "call_named" (top 2) (He.ga K "call_named") _ := fun_mk l cc (He.keep_ok (factI c 23 rfl))
  exact ⟨_, F, sc_call_named, F.binds bnd_call_named, He.glo_ok X G (factI c 22 rfl), rfl, rfl, rfl, rfl, chk_call_named⟩
def N_may_be_sent : List Str := ["calls", "wagon", "name", "task"]
theorem sc_may_be_sent : FnScope N_may_be_sent ["calls", "wagon", "name"] (defScope (top 3)) := ⟨rfl, rfl, rfl, by decide +kernel, rfl, by decide +kernel, by decide +kernel⟩
theorem chk_may_be_sent : mSs cn N_may_be_sent (defScope (top 3)) f_may_be_sent.body (defBody (top 3)) = true := by decide +kernel
theorem bnd_may_be_sent (kV doc pm : Value) (an : Option Addr) (cdv ct : Value) (us : List Value) (hl : us.length = ([("calls" : Str), ("wagon" : Str), ("name" : Str)] : List Str).length) : bindArgs (PySem.W.fnOf "may_be_sent" "may_be_sent" (defArgs (top 3)) (defBody (top 3)) (defScope (top 3)) .none kV doc pm an cdv ct) ⟨us, []⟩ = pure (List.zip [("calls" : Str), ("wagon" : Str), ("name" : Str)] us) :=
  match us, hl with | [_, _, _], _ => rfl
theorem defc_may_be_sent (X : K.In h) (G : h.Ns mainGlobals mg) (c : He.SaysE fa fn K) : ∃ fd, DefC K mg cn pg 1 "may_be_sent" 3 "may_be_sent" (top 3) (He.ga K "may_be_sent") fd N_may_be_sent ["calls", "wagon", "name"] f_may_be_sent := by
  obtain ⟨oc, od, osl, kV, doc, pm, an, cdv, ct, l, cc⟩ := c.def_ 1 (d := ⟨("may_be_sent", none), "may_be_sent", "may_be_sent", defArgs (top 3), defBody (top 3), defScope (top 3)⟩) rfl
  have F : Fun K "may_be_sent" "may_be_sent" (top 3) (He.ga K "may_be_sent") _ := fun_mk l cc (He.keep_ok (factI c 25 rfl))
  exact ⟨_, F, sc_may_be_sent, F.binds bnd_may_be_sent, He.glo_ok X G (factI c 24 rfl), rfl, rfl, rfl, rfl, chk_may_be_sent⟩
def N__law_cell_at : List Str := ["script", "k"]
theorem sc__law_cell_at : FnScope N__law_cell_at ["script", "k"] (defScope (top 5)) := ⟨rfl, rfl, rfl, by decide +kernel, rfl, by decide +kernel, by decide +kernel⟩
theorem chk__law_cell_at : mSs cn N__law_cell_at (defScope (top 5)) f__law_cell_at.body (defBody (top 5)) = true := by decide +kernel
theorem bnd__law_cell_at (kV doc pm : Value) (an : Option Addr) (cdv ct : Value) (us : List Value) (hl : us.length = ([("script" : Str), ("k" : Str)] : List Str).length) : bindArgs (PySem.W.fnOf "_law_cell_at" "_law_cell_at" (defArgs (top 5)) (defBody (top 5)) (defScope (top 5)) .none kV doc pm an cdv ct) ⟨us, []⟩ = pure (List.zip [("script" : Str), ("k" : Str)] us) :=
  match us, hl with | [_, _], _ => rfl
theorem defc__law_cell_at (X : K.In h) (G : h.Ns mainGlobals mg) (c : He.SaysE fa fn K) : ∃ fd, DefC K mg cn pg 2 "_law_cell_at" 2 "_law_cell_at" (top 5) (He.ga K "_law_cell_at") fd N__law_cell_at ["script", "k"] f__law_cell_at := by
  obtain ⟨oc, od, osl, kV, doc, pm, an, cdv, ct, l, cc⟩ := c.def_ 2 (d := ⟨("_law_cell_at", none), "_law_cell_at", "_law_cell_at", defArgs (top 5), defBody (top 5), defScope (top 5)⟩) rfl
  have F : Fun K "_law_cell_at" "_law_cell_at" (top 5) (He.ga K "_law_cell_at") _ := fun_mk l cc (He.keep_ok (factI c 27 rfl))
  exact ⟨_, F, sc__law_cell_at, F.binds bnd__law_cell_at, He.glo_ok X G (factI c 26 rfl), rfl, rfl, rfl, rfl, chk__law_cell_at⟩
def N__law_row : List Str := ["cell", "many", "found", "number", "k"]
theorem sc__law_row : FnScope N__law_row ["cell", "many"] (defScope (top 6)) := ⟨rfl, rfl, rfl, by decide +kernel, rfl, by decide +kernel, by decide +kernel⟩
theorem chk__law_row : mSs cn N__law_row (defScope (top 6)) f__law_row.body (defBody (top 6)) = true := by decide +kernel
theorem bnd__law_row (kV doc pm : Value) (an : Option Addr) (cdv ct : Value) (us : List Value) (hl : us.length = ([("cell" : Str), ("many" : Str)] : List Str).length) : bindArgs (PySem.W.fnOf "_law_row" "_law_row" (defArgs (top 6)) (defBody (top 6)) (defScope (top 6)) .none kV doc pm an cdv ct) ⟨us, []⟩ = pure (List.zip [("cell" : Str), ("many" : Str)] us) :=
  match us, hl with | [_, _], _ => rfl
theorem defc__law_row (X : K.In h) (G : h.Ns mainGlobals mg) (c : He.SaysE fa fn K) : ∃ fd, DefC K mg cn pg 3 "_law_row" 2 "_law_row" (top 6) (He.ga K "_law_row") fd N__law_row ["cell", "many"] f__law_row := by
  obtain ⟨oc, od, osl, kV, doc, pm, an, cdv, ct, l, cc⟩ := c.def_ 3 (d := ⟨("_law_row", none), "_law_row", "_law_row", defArgs (top 6), defBody (top 6), defScope (top 6)⟩) rfl
  have F : Fun K "_law_row" "_law_row" (top 6) (He.ga K "_law_row") _ := fun_mk l cc (He.keep_ok (factI c 29 rfl))
  exact ⟨_, F, sc__law_row, F.binds bnd__law_row, He.glo_ok X G (factI c 28 rfl), rfl, rfl, rfl, rfl, chk__law_row⟩
def N__law_names : List Str := ["row", "many", "signs", "size", "at", "word", "wide", "step", "lot", "names", "k", "sign", "name", "words", "special"]
theorem sc__law_names : FnScope N__law_names ["row", "many"] (defScope (top 7)) := ⟨rfl, rfl, rfl, by decide +kernel, rfl, by decide +kernel, by decide +kernel⟩
theorem chk__law_names : mSs cn N__law_names (defScope (top 7)) f__law_names.body (defBody (top 7)) = true := by decide +kernel
theorem bnd__law_names (kV doc pm : Value) (an : Option Addr) (cdv ct : Value) (us : List Value) (hl : us.length = ([("row" : Str), ("many" : Str)] : List Str).length) : bindArgs (PySem.W.fnOf "_law_names" "_law_names" (defArgs (top 7)) (defBody (top 7)) (defScope (top 7)) .none kV doc pm an cdv ct) ⟨us, []⟩ = pure (List.zip [("row" : Str), ("many" : Str)] us) :=
  match us, hl with | [_, _], _ => rfl
theorem defc__law_names (X : K.In h) (G : h.Ns mainGlobals mg) (c : He.SaysE fa fn K) : ∃ fd, DefC K mg cn pg 4 "_law_names" 2 "_law_names" (top 7) (He.ga K "_law_names") fd N__law_names ["row", "many"] f__law_names := by
  obtain ⟨oc, od, osl, kV, doc, pm, an, cdv, ct, l, cc⟩ := c.def_ 4 (d := ⟨("_law_names", none), "_law_names", "_law_names", defArgs (top 7), defBody (top 7), defScope (top 7)⟩) rfl
  have F : Fun K "_law_names" "_law_names" (top 7) (He.ga K "_law_names") _ := fun_mk l cc (He.keep_ok (factI c 31 rfl))
  exact ⟨_, F, sc__law_names, F.binds bnd__law_names, He.glo_ok X G (factI c 30 rfl), rfl, rfl, rfl, rfl, chk__law_names⟩
def N__law_road : List Str := ["row", "names", "one", "other", "span", "there", "back"]
theorem sc__law_road : FnScope N__law_road ["row", "names"] (defScope (top 8)) := ⟨rfl, rfl, rfl, by decide +kernel, rfl, by decide +kernel, by decide +kernel⟩
theorem chk__law_road : mSs cn N__law_road (defScope (top 8)) f__law_road.body (defBody (top 8)) = true := by decide +kernel
theorem bnd__law_road (kV doc pm : Value) (an : Option Addr) (cdv ct : Value) (us : List Value) (hl : us.length = ([("row" : Str), ("names" : Str)] : List Str).length) : bindArgs (PySem.W.fnOf "_law_road" "_law_road" (defArgs (top 8)) (defBody (top 8)) (defScope (top 8)) .none kV doc pm an cdv ct) ⟨us, []⟩ = pure (List.zip [("row" : Str), ("names" : Str)] us) :=
  match us, hl with | [_, _], _ => rfl
theorem defc__law_road (X : K.In h) (G : h.Ns mainGlobals mg) (c : He.SaysE fa fn K) : ∃ fd, DefC K mg cn pg 5 "_law_road" 2 "_law_road" (top 8) (He.ga K "_law_road") fd N__law_road ["row", "names"] f__law_road := by
  obtain ⟨oc, od, osl, kV, doc, pm, an, cdv, ct, l, cc⟩ := c.def_ 5 (d := ⟨("_law_road", none), "_law_road", "_law_road", defArgs (top 8), defBody (top 8), defScope (top 8)⟩) rfl
  have F : Fun K "_law_road" "_law_road" (top 8) (He.ga K "_law_road") _ := fun_mk l cc (He.keep_ok (factI c 33 rfl))
  exact ⟨_, F, sc__law_road, F.binds bnd__law_road, He.glo_ok X G (factI c 32 rfl), rfl, rfl, rfl, rfl, chk__law_road⟩
def N__law_town : List Str := ["script", "start", "row", "names", "roads", "cell", "at", "stands", "reach"]
theorem sc__law_town : FnScope N__law_town ["script", "start"] (defScope (top 9)) := ⟨rfl, rfl, rfl, by decide +kernel, rfl, by decide +kernel, by decide +kernel⟩
theorem chk__law_town : mSs cn N__law_town (defScope (top 9)) f__law_town.body (defBody (top 9)) = true := by decide +kernel
theorem bnd__law_town (kV doc pm : Value) (an : Option Addr) (cdv ct : Value) (us : List Value) (hl : us.length = ([("script" : Str), ("start" : Str)] : List Str).length) : bindArgs (PySem.W.fnOf "_law_town" "_law_town" (defArgs (top 9)) (defBody (top 9)) (defScope (top 9)) .none kV doc pm an cdv ct) ⟨us, []⟩ = pure (List.zip [("script" : Str), ("start" : Str)] us) :=
  match us, hl with | [_, _], _ => rfl
theorem defc__law_town (X : K.In h) (G : h.Ns mainGlobals mg) (c : He.SaysE fa fn K) : ∃ fd, DefC K mg cn pg 6 "_law_town" 2 "_law_town" (top 9) (He.ga K "_law_town") fd N__law_town ["script", "start"] f__law_town := by
  obtain ⟨oc, od, osl, kV, doc, pm, an, cdv, ct, l, cc⟩ := c.def_ 6 (d := ⟨("_law_town", none), "_law_town", "_law_town", defArgs (top 9), defBody (top 9), defScope (top 9)⟩) rfl
  have F : Fun K "_law_town" "_law_town" (top 9) (He.ga K "_law_town") _ := fun_mk l cc (He.keep_ok (factI c 35 rfl))
  exact ⟨_, F, sc__law_town, F.binds bnd__law_town, He.glo_ok X G (factI c 34 rfl), rfl, rfl, rfl, rfl, chk__law_town⟩
def N__law_shut : List Str := ["cell", "town", "row", "share", "k"]
theorem sc__law_shut : FnScope N__law_shut ["cell", "town"] (defScope (top 10)) := ⟨rfl, rfl, rfl, by decide +kernel, rfl, by decide +kernel, by decide +kernel⟩
theorem chk__law_shut : mSs cn N__law_shut (defScope (top 10)) f__law_shut.body (defBody (top 10)) = true := by decide +kernel
theorem bnd__law_shut (kV doc pm : Value) (an : Option Addr) (cdv ct : Value) (us : List Value) (hl : us.length = ([("cell" : Str), ("town" : Str)] : List Str).length) : bindArgs (PySem.W.fnOf "_law_shut" "_law_shut" (defArgs (top 10)) (defBody (top 10)) (defScope (top 10)) .none kV doc pm an cdv ct) ⟨us, []⟩ = pure (List.zip [("cell" : Str), ("town" : Str)] us) :=
  match us, hl with | [_, _], _ => rfl
theorem defc__law_shut (X : K.In h) (G : h.Ns mainGlobals mg) (c : He.SaysE fa fn K) : ∃ fd, DefC K mg cn pg 7 "_law_shut" 2 "_law_shut" (top 10) (He.ga K "_law_shut") fd N__law_shut ["cell", "town"] f__law_shut := by
  obtain ⟨oc, od, osl, kV, doc, pm, an, cdv, ct, l, cc⟩ := c.def_ 7 (d := ⟨("_law_shut", none), "_law_shut", "_law_shut", defArgs (top 10), defBody (top 10), defScope (top 10)⟩) rfl
  have F : Fun K "_law_shut" "_law_shut" (top 10) (He.ga K "_law_shut") _ := fun_mk l cc (He.keep_ok (factI c 37 rfl))
  exact ⟨_, F, sc__law_shut, F.binds bnd__law_shut, He.glo_ok X G (factI c 36 rfl), rfl, rfl, rfl, rfl, chk__law_shut⟩
def N__law_steps : List Str := ["town", "shut", "found", "k", "one", "other", "there", "back", "a", "b"]
theorem sc__law_steps : FnScope N__law_steps ["town", "shut"] (defScope (top 11)) := ⟨rfl, rfl, rfl, by decide +kernel, rfl, by decide +kernel, by decide +kernel⟩
theorem chk__law_steps : mSs cn N__law_steps (defScope (top 11)) f__law_steps.body (defBody (top 11)) = true := by decide +kernel
theorem bnd__law_steps (kV doc pm : Value) (an : Option Addr) (cdv ct : Value) (us : List Value) (hl : us.length = ([("town" : Str), ("shut" : Str)] : List Str).length) : bindArgs (PySem.W.fnOf "_law_steps" "_law_steps" (defArgs (top 11)) (defBody (top 11)) (defScope (top 11)) .none kV doc pm an cdv ct) ⟨us, []⟩ = pure (List.zip [("town" : Str), ("shut" : Str)] us) :=
  match us, hl with | [_, _], _ => rfl
theorem defc__law_steps (X : K.In h) (G : h.Ns mainGlobals mg) (c : He.SaysE fa fn K) : ∃ fd, DefC K mg cn pg 8 "_law_steps" 2 "_law_steps" (top 11) (He.ga K "_law_steps") fd N__law_steps ["town", "shut"] f__law_steps := by
  obtain ⟨oc, od, osl, kV, doc, pm, an, cdv, ct, l, cc⟩ := c.def_ 8 (d := ⟨("_law_steps", none), "_law_steps", "_law_steps", defArgs (top 11), defBody (top 11), defScope (top 11)⟩) rfl
  have F : Fun K "_law_steps" "_law_steps" (top 11) (He.ga K "_law_steps") _ := fun_mk l cc (He.keep_ok (factI c 39 rfl))
  exact ⟨_, F, sc__law_steps, F.binds bnd__law_steps, He.glo_ok X G (factI c 38 rfl), rfl, rfl, rfl, rfl, chk__law_steps⟩
def N__law_chart : List Str := ["town", "shut", "many", "rows", "goal", "number", "here", "there", "minutes", "mid", "total", "row"]
theorem sc__law_chart : FnScope N__law_chart ["town", "shut"] (defScope (top 12)) := ⟨rfl, rfl, rfl, by decide +kernel, rfl, by decide +kernel, by decide +kernel⟩
theorem chk__law_chart : mSs cn N__law_chart (defScope (top 12)) f__law_chart.body (defBody (top 12)) = true := by decide +kernel
theorem bnd__law_chart (kV doc pm : Value) (an : Option Addr) (cdv ct : Value) (us : List Value) (hl : us.length = ([("town" : Str), ("shut" : Str)] : List Str).length) : bindArgs (PySem.W.fnOf "_law_chart" "_law_chart" (defArgs (top 12)) (defBody (top 12)) (defScope (top 12)) .none kV doc pm an cdv ct) ⟨us, []⟩ = pure (List.zip [("town" : Str), ("shut" : Str)] us) :=
  match us, hl with | [_, _], _ => rfl
theorem defc__law_chart (X : K.In h) (G : h.Ns mainGlobals mg) (c : He.SaysE fa fn K) : ∃ fd, DefC K mg cn pg 9 "_law_chart" 2 "_law_chart" (top 12) (He.ga K "_law_chart") fd N__law_chart ["town", "shut"] f__law_chart := by
  obtain ⟨oc, od, osl, kV, doc, pm, an, cdv, ct, l, cc⟩ := c.def_ 9 (d := ⟨("_law_chart", none), "_law_chart", "_law_chart", defArgs (top 12), defBody (top 12), defScope (top 12)⟩) rfl
  have F : Fun K "_law_chart" "_law_chart" (top 12) (He.ga K "_law_chart") _ := fun_mk l cc (He.keep_ok (factI c 41 rfl))
  exact ⟨_, F, sc__law_chart, F.binds bnd__law_chart, He.glo_ok X G (factI c 40 rfl), rfl, rfl, rfl, rfl, chk__law_chart⟩
def N__law_task : List Str := ["row", "now", "calls", "left", "moment", "mode", "name", "place", "call"]
theorem sc__law_task : FnScope N__law_task ["row", "now", "calls", "left"] (defScope (top 13)) := ⟨rfl, rfl, rfl, by decide +kernel, rfl, by decide +kernel, by decide +kernel⟩
theorem chk__law_task : mSs cn N__law_task (defScope (top 13)) f__law_task.body (defBody (top 13)) = true := by decide +kernel
theorem bnd__law_task (kV doc pm : Value) (an : Option Addr) (cdv ct : Value) (us : List Value) (hl : us.length = ([("row" : Str), ("now" : Str), ("calls" : Str), ("left" : Str)] : List Str).length) : bindArgs (PySem.W.fnOf "_law_task" "_law_task" (defArgs (top 13)) (defBody (top 13)) (defScope (top 13)) .none kV doc pm an cdv ct) ⟨us, []⟩ = pure (List.zip [("row" : Str), ("now" : Str), ("calls" : Str), ("left" : Str)] us) :=
  match us, hl with | [_, _, _, _], _ => rfl
theorem defc__law_task (X : K.In h) (G : h.Ns mainGlobals mg) (c : He.SaysE fa fn K) : ∃ fd, DefC K mg cn pg 10 "_law_task" 4 "_law_task" (top 13) (He.ga K "_law_task") fd N__law_task ["row", "now", "calls", "left"] f__law_task := by
  obtain ⟨oc, od, osl, kV, doc, pm, an, cdv, ct, l, cc⟩ := c.def_ 10 (d := ⟨("_law_task", none), "_law_task", "_law_task", defArgs (top 13), defBody (top 13), defScope (top 13)⟩) rfl
  have F : Fun K "_law_task" "_law_task" (top 13) (He.ga K "_law_task") _ := fun_mk l cc (He.keep_ok (factI c 43 rfl))
  exact ⟨_, F, sc__law_task, F.binds bnd__law_task, He.glo_ok X G (factI c 42 rfl), rfl, rfl, rfl, rfl, chk__law_task⟩
def N__law_scene : List Str := ["script", "town", "row", "names", "now", "calls", "k", "some", "grade", "since", "left", "wagons", "place", "moment", "task", "home", "post", "call"]
theorem sc__law_scene : FnScope N__law_scene ["script"] (defScope (top 14)) := ⟨rfl, rfl, rfl, by decide +kernel, rfl, by decide +kernel, by decide +kernel⟩
theorem chk__law_scene : mSs cn N__law_scene (defScope (top 14)) f__law_scene.body (defBody (top 14)) = true := by decide +kernel
theorem bnd__law_scene (kV doc pm : Value) (an : Option Addr) (cdv ct : Value) (us : List Value) (hl : us.length = ([("script" : Str)] : List Str).length) : bindArgs (PySem.W.fnOf "_law_scene" "_law_scene" (defArgs (top 14)) (defBody (top 14)) (defScope (top 14)) .none kV doc pm an cdv ct) ⟨us, []⟩ = pure (List.zip [("script" : Str)] us) :=
  match us, hl with | [_], _ => rfl
theorem defc__law_scene (X : K.In h) (G : h.Ns mainGlobals mg) (c : He.SaysE fa fn K) : ∃ fd, DefC K mg cn pg 11 "_law_scene" 1 "_law_scene" (top 14) (He.ga K "_law_scene") fd N__law_scene ["script"] f__law_scene := by
  obtain ⟨oc, od, osl, kV, doc, pm, an, cdv, ct, l, cc⟩ := c.def_ 11 (d := ⟨("_law_scene", none), "_law_scene", "_law_scene", defArgs (top 14), defBody (top 14), defScope (top 14)⟩) rfl
  have F : Fun K "_law_scene" "_law_scene" (top 14) (He.ga K "_law_scene") _ := fun_mk l cc (He.keep_ok (factI c 45 rfl))
  exact ⟨_, F, sc__law_scene, F.binds bnd__law_scene, He.glo_ok X G (factI c 44 rfl), rfl, rfl, rfl, rfl, chk__law_scene⟩
def N__law_may : List Str := ["calls", "wagon", "name", "grades", "call"]
theorem sc__law_may : FnScope N__law_may ["calls", "wagon", "name"] (defScope (top 15)) := ⟨rfl, rfl, rfl, by decide +kernel, rfl, by decide +kernel, by decide +kernel⟩
theorem chk__law_may : mSs cn N__law_may (defScope (top 15)) f__law_may.body (defBody (top 15)) = true := by decide +kernel
theorem bnd__law_may (kV doc pm : Value) (an : Option Addr) (cdv ct : Value) (us : List Value) (hl : us.length = ([("calls" : Str), ("wagon" : Str), ("name" : Str)] : List Str).length) : bindArgs (PySem.W.fnOf "_law_may" "_law_may" (defArgs (top 15)) (defBody (top 15)) (defScope (top 15)) .none kV doc pm an cdv ct) ⟨us, []⟩ = pure (List.zip [("calls" : Str), ("wagon" : Str), ("name" : Str)] us) :=
  match us, hl with | [_, _, _], _ => rfl
theorem defc__law_may (X : K.In h) (G : h.Ns mainGlobals mg) (c : He.SaysE fa fn K) : ∃ fd, DefC K mg cn pg 12 "_law_may" 3 "_law_may" (top 15) (He.ga K "_law_may") fd N__law_may ["calls", "wagon", "name"] f__law_may := by
  obtain ⟨oc, od, osl, kV, doc, pm, an, cdv, ct, l, cc⟩ := c.def_ 12 (d := ⟨("_law_may", none), "_law_may", "_law_may", defArgs (top 15), defBody (top 15), defScope (top 15)⟩) rfl
  have F : Fun K "_law_may" "_law_may" (top 15) (He.ga K "_law_may") _ := fun_mk l cc (He.keep_ok (factI c 47 rfl))
  exact ⟨_, F, sc__law_may, F.binds bnd__law_may, He.glo_ok X G (factI c 46 rfl), rfl, rfl, rfl, rfl, chk__law_may⟩
def N_law : List Str := ["script", "town", "now", "wagons", "calls", "turned", "some", "wagon", "name", "place", "grade", "since", "found"]
theorem sc_law : FnScope N_law ["script"] (defScope (top 16)) := ⟨rfl, rfl, rfl, by decide +kernel, rfl, by decide +kernel, by decide +kernel⟩
theorem chk_law : mSs cn N_law (defScope (top 16)) f_law.body (defBody (top 16)) = true := by decide +kernel
theorem bnd_law (kV doc pm : Value) (an : Option Addr) (cdv ct : Value) (us : List Value) (hl : us.length = ([("script" : Str)] : List Str).length) : bindArgs (PySem.W.fnOf "law" "law" (defArgs (top 16)) (defBody (top 16)) (defScope (top 16)) .none kV doc pm an cdv ct) ⟨us, []⟩ = pure (List.zip [("script" : Str)] us) :=
  match us, hl with | [_], _ => rfl
theorem defc_law (X : K.In h) (G : h.Ns mainGlobals mg) (c : He.SaysE fa fn K) : ∃ fd, DefC K mg cn pg 13 "law" 1 "law" (top 16) (He.ga K "law") fd N_law ["script"] f_law := by
  obtain ⟨oc, od, osl, kV, doc, pm, an, cdv, ct, l, cc⟩ := c.def_ 13 (d := ⟨("law", none), "law", "law", defArgs (top 16), defBody (top 16), defScope (top 16)⟩) rfl
  have F : Fun K "law" "law" (top 16) (He.ga K "law") _ := fun_mk l cc (He.keep_ok (factI c 49 rfl))
  exact ⟨_, F, sc_law, F.binds bnd_law, He.glo_ok X G (factI c 48 rfl), rfl, rfl, rfl, rfl, chk_law⟩
theorem defs (X : K.In h) (G : h.Ns mainGlobals mg) (c : He.SaysE fa fn K) : ∀ i x np, cn.fn[i]? = some (x, np) → DefAt K mg cn pg i x np
  | 0, _, _, e => by
    cases e
    obtain ⟨fd, C⟩ := defc_call_named X G c
    exact ⟨_, _, _, fd, _, _, _, C⟩
  | 1, _, _, e => by
    cases e
    obtain ⟨fd, C⟩ := defc_may_be_sent X G c
    exact ⟨_, _, _, fd, _, _, _, C⟩
  | 2, _, _, e => by
    cases e
    obtain ⟨fd, C⟩ := defc__law_cell_at X G c
    exact ⟨_, _, _, fd, _, _, _, C⟩
  | 3, _, _, e => by
    cases e
    obtain ⟨fd, C⟩ := defc__law_row X G c
    exact ⟨_, _, _, fd, _, _, _, C⟩
  | 4, _, _, e => by
    cases e
    obtain ⟨fd, C⟩ := defc__law_names X G c
    exact ⟨_, _, _, fd, _, _, _, C⟩
  | 5, _, _, e => by
    cases e
    obtain ⟨fd, C⟩ := defc__law_road X G c
    exact ⟨_, _, _, fd, _, _, _, C⟩
  | 6, _, _, e => by
    cases e
    obtain ⟨fd, C⟩ := defc__law_town X G c
    exact ⟨_, _, _, fd, _, _, _, C⟩
  | 7, _, _, e => by
    cases e
    obtain ⟨fd, C⟩ := defc__law_shut X G c
    exact ⟨_, _, _, fd, _, _, _, C⟩
  | 8, _, _, e => by
    cases e
    obtain ⟨fd, C⟩ := defc__law_steps X G c
    exact ⟨_, _, _, fd, _, _, _, C⟩
  | 9, _, _, e => by
    cases e
    obtain ⟨fd, C⟩ := defc__law_chart X G c
    exact ⟨_, _, _, fd, _, _, _, C⟩
  | 10, _, _, e => by
    cases e
    obtain ⟨fd, C⟩ := defc__law_task X G c
    exact ⟨_, _, _, fd, _, _, _, C⟩
  | 11, _, _, e => by
    cases e
    obtain ⟨fd, C⟩ := defc__law_scene X G c
    exact ⟨_, _, _, fd, _, _, _, C⟩
  | 12, _, _, e => by
    cases e
    obtain ⟨fd, C⟩ := defc__law_may X G c
    exact ⟨_, _, _, fd, _, _, _, C⟩
  | 13, _, _, e => by
    cases e
    obtain ⟨fd, C⟩ := defc_law X G c
    exact ⟨_, _, _, fd, _, _, _, C⟩
  | n + 14, _, _, e => by simp [cn] at e
theorem glos (X : K.In h) (G : h.Ns mainGlobals mg) (c : He.SaysE fa fn K) (cx : ex K = true) : ∀ (g : Nat) (x : Str) (d : D), cn.gl[g]? = some x → pg.glo[g]? = some d → ∃ u v, mg x = some u ∧ RelV v u ∧ ∀ W : Wd, RD K W v d
  | 0, _, _, e1, e2 => by
    cases e1
    cases e2
    exact ⟨_, .ref (He.ga K "FREE"), He.glo_ok X G (factI c 50 (f := .glo "FREE") rfl), rfl, fun W => Iv.tupG_ok (zs := [(PySem.Str.ofString "free")]) cx W⟩
  | n + 1, _, _, e, _ => by simp [cn] at e
theorem facts {pr : Program} {w : World} {f : Addr} (X : K.In h) (G : h.Ns mainGlobals mg) (hfa : mg ("law" : Str) = some (.ref f)) (c : He.SaysE fa fn K) (cx : ex K = true) :
    ∃ fd : FuncData, (∀ (s : Shared) (v : Value), BindsTo s fd ⟨[v], []⟩ [("script", v)]) ∧ ∀ base : Heap, K.In base → base.Ns mainGlobals mg → FnG pr w K mg base (L2.CX pr w) 12 f fd ["script"] (spI K ⟨fun _ => 0, fun _ => 0⟩ 1 (callF pg 12 i_law)) := by
  obtain ⟨fd, C⟩ := defc_law X G c
  have e := hfa.symm.trans C.mg
  cases e
  exact ⟨fd, fun s v => Fun.bindsTo C.fn bnd_law s [v] rfl, fun base _ _ => Iv.fn_ok (glos X G c cx) (blt X G c) (defs X G c) 12 _ _ _ _ _ _ _ _ _ _ C⟩
end
end Lk43
open PySem PySem.W PySem.Calls PyProof.Rows in
theorem Lk43.ends (hl : ∀ ns : List Int, ns.length ≤ 63 → (∀ z ∈ ns, PySem.Builtin.Int.intBits z ≤ 1048576) → ∃ S', Iv.callF Lk43.pg 12 Lk43.i_law [.lst (ns.map Iv.D.int)] [] = .ok (.v (.bl true)) S') : PySem.Challenge.rw_wagoncalls_k43_which_may_be_sent.Holds := by
  w_on; o_law
  refine HandSHeadRun.head_any (r := OpenLaw.row PySem.Challenge.rw_wagoncalls_k43_which_may_be_sent) (q := view (OpenLaw.row PySem.Challenge.rw_wagoncalls_k43_which_may_be_sent).prog [16]) (H := Lk43.hk) (ob := Lk43.ob) (M := 2000) (loose := Lk43.loose) (d := HandSHeadRun.topDef (OpenLaw.row PySem.Challenge.rw_wagoncalls_k43_which_may_be_sent).prog 16) (kwd := []) Lk43.ob_eq
    (by kernel_rfl) (fun s => by kernel_rfl) Lk43.run (by kernel_rfl) (by kernel_rfl) (by kernel_rfl) (by rfl) (by first | assumption | decide +kernel) (by decide +kernel) ⟨rfl, rfl, rfl, rfl, rfl, by decide +kernel⟩ ?hw ?hc
  case hw => w_witness2
  case hc =>
    refine Iv.walk_g (l := PySem.Challenge.rw_wagoncalls_k43_which_may_be_sent) (m := 63) (n := 12) (x := "script") rfl (by decide) (by kernel_rfl) ⟨rfl, by decide, by decide⟩ ?F
    intro w mg fa h Y G hmg0
    obtain ⟨K, KX, c, cx⟩ := Y
    have hmg : mg ("law" : PySem.Str) = some (.ref fa) := by
      have e : (HandSHeadRun.topDef (OpenLaw.row PySem.Challenge.rw_wagoncalls_k43_which_may_be_sent).prog 16).name = ("law" : PySem.Str) := by kernel_rfl
      rw [← e]
      exact hmg0
    obtain ⟨fd, hb, hF⟩ := Lk43.facts (pr := (PySem.Challenge.rw_wagoncalls_k43_which_may_be_sent).prog) (w := w) KX G hmg c cx
    exact ⟨K, fd, _, KX, hb, fun H a ns h1 h2 hS => Iv.law_sp hS (hl ns h1 h2), hF⟩
/-! Pv0: plain laws: the run by equations -/
namespace Iv
open PySem
section
variable {α β : Type}
/-- what stands behind is not looked into: its place bears a mark that leans on it -/
def TokF (f : α → Env → Sto → Res β) : Type := Unit
def bindC (f : α → Env → Sto → Res β) (t : TokF f) (m : Res α) : Res β := m.bind f
@[simp ↓] theorem toC (m : Res α) (f : α → Env → Sto → Res β) : m.bind f = bindC f () m := rfl
@[simp] theorem c_ok (a : α) (ρ : Env) (S : Sto) (f : α → Env → Sto → Res β) : bindC f () (Res.ok a ρ S) = f a ρ S := rfl
def TokP (x y : Res β) : Type := Unit
def iteC (x y : Res β) (t : TokP x y) (b : Bool) : Res β := cond b x y
@[simp] theorem iteC_t (x y : Res β) : iteC x y () true = x := rfl
@[simp] theorem iteC_f (x y : Res β) : iteC x y () false = y := rfl
@[simp] theorem d_v (d : D) : (R.v d).d = d := rfl
@[simp] theorem d_ol (xs : List D) : (R.ol xs).d = .lst xs := rfl
@[simp] theorem d_od (t : Bool) (xs : List (D × D)) : (R.od t xs).d = .dct t xs := rfl
@[simp] theorem s_v (d : D) : (R.v d).slot = .v d := rfl
@[simp] theorem s_ol (xs : List D) : (R.ol xs).slot = .ol xs := rfl
@[simp] theorem s_od (t : Bool) (xs : List (D × D)) : (R.od t xs).slot = .od t xs := rfl
@[simp] theorem p_v (d : D) : peekSlot (.v d) = some d := rfl
@[simp] theorem p_ol (xs : List D) : peekSlot (.ol xs) = some (.lst xs) := rfl
@[simp] theorem p_od (t : Bool) (xs : List (D × D)) : peekSlot (.od t xs) = some (.dct t xs) := rfl
theorem b_ok (a : α) (ρ : Env) (S : Sto) (f : α → Env → Sto → Res β) : (Res.ok a ρ S).bind f = f a ρ S := rfl
theorem b_err (f : α → Env → Sto → Res β) : (Res.err : Res α).bind f = .err := rfl
@[simp] theorem b_of (a : α) (ρ : Env) (S : Sto) : Res.of (some a) ρ S = .ok a ρ S := rfl
@[simp] theorem res_ok (r : R) (S : Sto) (ρ : Env) : (ResF.ok r S).res ρ = .ok r ρ S := rfl
end
theorem ltD_ii (S : Sto) (i j : Int) : ltD S (.int i) (.int j) = some (decide (i < j)) := by
  unfold ltD pyD
  simp only [D.py, W.dataLt_int]
  rfl
@[simp] theorem cLt (S : Sto) (i j : Int) : cmpD S .Lt (.int i) (.int j) = some (decide (i < j)) := ltD_ii S i j
@[simp] theorem cGt (S : Sto) (i j : Int) : cmpD S .Gt (.int i) (.int j) = some (decide (j < i)) := ltD_ii S j i
@[simp] theorem cLe (S : Sto) (i j : Int) : cmpD S .LtE (.int i) (.int j) = some (!decide (j < i)) := by simp only [cmpD, ltD_ii]; rfl
@[simp] theorem cGe (S : Sto) (i j : Int) : cmpD S .GtE (.int i) (.int j) = some (!decide (i < j)) := by simp only [cmpD, ltD_ii]; rfl
@[simp] theorem cEq (S : Sto) (i j : Int) : cmpD S .Eq (.int i) (.int j) = some (decide (i = j)) := rfl
@[simp] theorem cNe (S : Sto) (i j : Int) : cmpD S .NotEq (.int i) (.int j) = some (!decide (i = j)) := rfl
@[simp] theorem cEqS (S : Sto) (i j : Str) : cmpD S .Eq (.str i) (.str j) = some (decide (i = j)) := rfl
@[simp] theorem cNeS (S : Sto) (i j : Str) : cmpD S .NotEq (.str i) (.str j) = some (!decide (i = j)) := rfl
@[simp] theorem cIs_int (S : Sto) (i : Int) : cmpD S .Is (.int i) .non = some false := rfl
@[simp] theorem cIsN_int (S : Sto) (i : Int) : cmpD S .IsNot (.int i) .non = some true := rfl
@[simp] theorem cIs_str (S : Sto) (i : Str) : cmpD S .Is (.str i) .non = some false := rfl
@[simp] theorem cIsN_str (S : Sto) (i : Str) : cmpD S .IsNot (.str i) .non = some true := rfl
@[simp] theorem cIs_bl (S : Sto) (i : Bool) : cmpD S .Is (.bl i) .non = some false := rfl
@[simp] theorem cIsN_bl (S : Sto) (i : Bool) : cmpD S .IsNot (.bl i) .non = some true := rfl
@[simp] theorem cIs_tup (S : Sto) (i : List D) : cmpD S .Is (.tup i) .non = some false := rfl
@[simp] theorem cIsN_tup (S : Sto) (i : List D) : cmpD S .IsNot (.tup i) .non = some true := rfl
@[simp] theorem cIs_lst (S : Sto) (i : List D) : cmpD S .Is (.lst i) .non = some false := rfl
@[simp] theorem cIsN_lst (S : Sto) (i : List D) : cmpD S .IsNot (.lst i) .non = some true := rfl
@[simp] theorem cIs_ref (S : Sto) (i : Nat) : cmpD S .Is (.ref i) .non = some false := rfl
@[simp] theorem cIsN_ref (S : Sto) (i : Nat) : cmpD S .IsNot (.ref i) .non = some true := rfl
@[simp] theorem cIs_non (S : Sto) : cmpD S .Is .non .non = some true := rfl
@[simp] theorem cIsN_non (S : Sto) : cmpD S .IsNot .non .non = some false := rfl
@[simp] theorem tB (S : Sto) (b : Bool) : truthD S (.bl b) = some b := rfl
@[simp] theorem bAdd (S : Sto) (i j : Int) : binD S .Add (.int i) (.int j) = some (.v (.int (i + j))) := rfl
@[simp] theorem bSub (S : Sto) (i j : Int) : binD S .Sub (.int i) (.int j) = some (.v (.int (i - j))) := rfl
@[simp] theorem bMul (S : Sto) (i j : Int) (h : mulOk i j = true) : binD S .Mult (.int i) (.int j) = some (.v (.int (i * j))) := by simp only [binD, h, if_true]
@[simp] theorem bDiv (S : Sto) (i j : Int) (h : j ≠ 0 ∧ j.natAbs < 1073741824) : binD S .FloorDiv (.int i) (.int j) = some (.v (.int (i.fdiv j))) := by simp only [binD, if_pos h]
@[simp] theorem bMod (S : Sto) (i j : Int) (h : j ≠ 0) : binD S .Mod (.int i) (.int j) = some (.v (.int (i.fmod j))) := by simp only [binD, if_pos h]
@[simp] theorem bPow (S : Sto) (i j : Int) (h : powOk i j = true) : binD S .Pow (.int i) (.int j) = some (.v (.int (i ^ j.toNat))) := by simp only [binD, if_pos h]
/-- a number's text -/
def numS (i : Int) : Str := PySem.Str.ofString (toString i)
theorem log_small {i : Int} (h : i.natAbs < 10 ^ 18) : i.natAbs.log2 < 1920 := by
  rcases Nat.eq_zero_or_pos i.natAbs with h0 | h0
  · rw [h0]; decide
  · rw [Nat.log2_lt (by omega)]
    exact Nat.lt_of_lt_of_le h (Nat.le_trans (by decide : 10 ^ 18 ≤ 2 ^ 64) (Nat.pow_le_pow_right (by decide) (by decide)))
@[simp] theorem q_str (S : Sto) (i : Int) (h : i.natAbs < 10 ^ 18) : primD S .str [.int i] = some (.v (.str (numS i))) := by
  simp only [primD, p_str, if_pos (log_small h)]; rfl
@[simp] theorem q_strS (S : Sto) (z : Str) : primD S .str [.str z] = some (.v (.str z)) := rfl
@[simp] theorem q_len (S : Sto) (z : Str) (h : z.length ≤ sizeLine) : primD S .len [.str z] = some (.v (.int z.length)) := by simp only [primD, p_len, if_pos h]
@[simp] theorem q_lenL (S : Sto) (xs : List D) : primD S .len [.lst xs] = some (.v (.int xs.length)) := rfl
@[simp] theorem q_lenT (S : Sto) (xs : List D) : primD S .len [.tup xs] = some (.v (.int xs.length)) := rfl
@[simp] theorem q_abs (S : Sto) (i : Int) : primD S .abs [.int i] = some (.v (.int (if i < 0 then -i else i))) := rfl
@[simp] theorem q_min2 (S : Sto) (i j : Int) : primD S .min2 [.int i, .int j] = some (.v (.int (if j < i then j else i))) := rfl
@[simp] theorem q_max2 (S : Sto) (i j : Int) : primD S .max2 [.int i, .int j] = some (.v (.int (if j > i then j else i))) := rfl
@[simp] theorem bAddS (S : Sto) (a b : Str) (h : a.length + b.length ≤ sizeLine) : binD S .Add (.str a) (.str b) = some (.v (.str (a ++ b))) := by simp only [binD, if_pos h]
@[simp] theorem bAddL (S : Sto) (xs ys : List D) (h : xs.length + ys.length ≤ sizeLine) : binD S .Add (.lst xs) (.lst ys) = some (.ol (xs ++ ys)) := by simp only [binD, lstD, if_pos h]
theorem len_app (a b : Str) : (a ++ b).length = a.length + b.length := Array.size_append
theorem app_assoc (a b c : Str) : a ++ b ++ c = a ++ (b ++ c) := by
  show Str.append (Str.append a b) c = Str.append a (Str.append b c)
  simp [Str.append, Array.append_assoc]
theorem mulOk_r {i j : Int} (h : -(2 ^ 64) < j ∧ j < 2 ^ 64) : mulOk i j = true := by
  unfold mulOk
  rw [decide_eq_true (p := -(2 ^ 64) < j ∧ j < 2 ^ 64) h, Bool.or_true]
theorem mulOk_l {i j : Int} (h : -(2 ^ 64) < i ∧ i < 2 ^ 64) : mulOk i j = true := by
  unfold mulOk
  rw [decide_eq_true (p := -(2 ^ 64) < i ∧ i < 2 ^ 64) h, Bool.true_or]
theorem ixD_seq {S : Sto} {x : D} {xs : List D} {k : Int} (h : seqD S x = some xs) (hs : ∀ z, x ≠ .str z) : ixD S x (.int k) = L2.atI xs k := by
  have e : ixQ S x (.int k) = L2.atI xs k := by
    cases x <;> first | exact absurd rfl (hs _) | (simp only [ixQ, h, Option.bind_some])
  have e2 : ixK S x (.int k) = none := by
    unfold ixK
    cases x with
    | ref a =>
      simp only [seqD, lstD] at h
      simp only [dctD]
      cases hc : cellAt S a with
      | none => rfl
      | some c => cases c <;> first | rfl | (rw [hc] at h; cases h)
    | dct t kvs => cases h
    | _ => rfl
  unfold ixD
  rw [e, e2]
  cases L2.atI xs k <;> rfl
theorem ixL (S : Sto) (a : Nat) (xs : List D) (k : Int) (h : cellAt S a = some (.lst xs)) : ixD S (.ref a) (.int k) = L2.atI xs k := ixD_seq (by simp only [seqD, lstD, h]) (by intro z e; cases e)
section
variable (P : Pg) (cf cm : Nat → List D → Sto → ResF) (ρ : Env) (S : Sto)
@[simp] theorem pk_var (i : Nat) (f : Env → Sto → Res R) : pk (.var i) f ρ S = .of ((ρ[i]?).bind peekSlot) ρ S := rfl
theorem pk_nv {e : E} (f : Env → Sto → Res R) (h : ∀ i, e ≠ .var i) : pk e f ρ S = (f ρ S).bind fun r ρ S => .ok r.d ρ S := by
  cases e <;> first | rfl | exact absurd rfl (h _)
end
section
variable (P : Pg) (cf cm : Nat → List D → Sto → ResF) (ρ : Env) (S : Sto)
theorem Res.bind_assoc0 {α β γ : Type} (m : Res α) (f : α → Env → Sto → Res β) (h : β → Env → Sto → Res γ) : (m.bind f).bind h = m.bind fun a ρ S => (f a ρ S).bind h := by
  cases m <;> rfl
@[simp] theorem pk_bad  (f : Env → Sto → Res R) : pk (.bad ) f ρ S = (f ρ S).bind fun r ρ S => .ok r.d ρ S := rfl
@[simp] theorem pk_non  (f : Env → Sto → Res R) : pk (.non ) f ρ S = (f ρ S).bind fun r ρ S => .ok r.d ρ S := rfl
@[simp] theorem pk_bl (b : Bool) (f : Env → Sto → Res R) : pk (.bl b) f ρ S = (f ρ S).bind fun r ρ S => .ok r.d ρ S := rfl
@[simp] theorem pk_int (i : Int) (f : Env → Sto → Res R) : pk (.int i) f ρ S = (f ρ S).bind fun r ρ S => .ok r.d ρ S := rfl
@[simp] theorem pk_str (x : Str) (f : Env → Sto → Res R) : pk (.str x) f ρ S = (f ρ S).bind fun r ρ S => .ok r.d ρ S := rfl
@[simp] theorem pk_glob (g : Nat) (f : Env → Sto → Res R) : pk (.glob g) f ρ S = (f ρ S).bind fun r ρ S => .ok r.d ρ S := rfl
@[simp] theorem pk_tup (es : List E) (f : Env → Sto → Res R) : pk (.tup es) f ρ S = (f ρ S).bind fun r ρ S => .ok r.d ρ S := rfl
@[simp] theorem pk_lst (es : List E) (f : Env → Sto → Res R) : pk (.lst es) f ρ S = (f ρ S).bind fun r ρ S => .ok r.d ρ S := rfl
@[simp] theorem pk_dct (es : List E) (f : Env → Sto → Res R) : pk (.dct es) f ρ S = (f ρ S).bind fun r ρ S => .ok r.d ρ S := rfl
@[simp] theorem pk_dt0  (f : Env → Sto → Res R) : pk (.dt0 ) f ρ S = (f ρ S).bind fun r ρ S => .ok r.d ρ S := rfl
@[simp] theorem pk_bin (op : Operator) (a b : E) (f : Env → Sto → Res R) : pk (.bin op a b) f ρ S = (f ρ S).bind fun r ρ S => .ok r.d ρ S := rfl
@[simp] theorem pk_neg (a : E) (f : Env → Sto → Res R) : pk (.neg a) f ρ S = (f ρ S).bind fun r ρ S => .ok r.d ρ S := rfl
@[simp] theorem pk_inv (a : E) (f : Env → Sto → Res R) : pk (.inv a) f ρ S = (f ρ S).bind fun r ρ S => .ok r.d ρ S := rfl
@[simp] theorem pk_not (a : E) (f : Env → Sto → Res R) : pk (.not a) f ρ S = (f ρ S).bind fun r ρ S => .ok r.d ρ S := rfl
@[simp] theorem pk_andE (es : List E) (f : Env → Sto → Res R) : pk (.andE es) f ρ S = (f ρ S).bind fun r ρ S => .ok r.d ρ S := rfl
@[simp] theorem pk_orE (es : List E) (f : Env → Sto → Res R) : pk (.orE es) f ρ S = (f ρ S).bind fun r ρ S => .ok r.d ρ S := rfl
@[simp] theorem pk_cmp (op : CmpOp) (a b : E) (f : Env → Sto → Res R) : pk (.cmp op a b) f ρ S = (f ρ S).bind fun r ρ S => .ok r.d ρ S := rfl
@[simp] theorem pk_cmp2 (op op2 : CmpOp) (a b c : E) (f : Env → Sto → Res R) : pk (.cmp2 op op2 a b c) f ρ S = (f ρ S).bind fun r ρ S => .ok r.d ρ S := rfl
@[simp] theorem pk_ite (c a b : E) (f : Env → Sto → Res R) : pk (.ite c a b) f ρ S = (f ρ S).bind fun r ρ S => .ok r.d ρ S := rfl
@[simp] theorem pk_call (i : Nat) (es : List E) (f : Env → Sto → Res R) : pk (.call i es) f ρ S = (f ρ S).bind fun r ρ S => .ok r.d ρ S := rfl
@[simp] theorem pk_meth (o : E) (m : Nat) (es : List E) (f : Env → Sto → Res R) : pk (.meth o m es) f ρ S = (f ρ S).bind fun r ρ S => .ok r.d ρ S := rfl
@[simp] theorem pk_make (c : Nat) (es : List E) (f : Env → Sto → Res R) : pk (.make c es) f ρ S = (f ρ S).bind fun r ρ S => .ok r.d ρ S := rfl
@[simp] theorem pk_prim (p : Prim) (es : List E) (f : Env → Sto → Res R) : pk (.prim p es) f ρ S = (f ρ S).bind fun r ρ S => .ok r.d ρ S := rfl
@[simp] theorem pk_mth (p : Prim) (o : E) (es : List E) (f : Env → Sto → Res R) : pk (.mth p o es) f ρ S = (f ρ S).bind fun r ρ S => .ok r.d ρ S := rfl
@[simp] theorem pk_sortK (i : Nat) (e : E) (f : Env → Sto → Res R) : pk (.sortK i e) f ρ S = (f ρ S).bind fun r ρ S => .ok r.d ρ S := rfl
@[simp] theorem pk_ix (a i : E) (f : Env → Sto → Res R) : pk (.ix a i) f ρ S = (f ρ S).bind fun r ρ S => .ok r.d ρ S := rfl
@[simp] theorem pk_sl (a : E) (lo hi : List E) (f : Env → Sto → Res R) : pk (.sl a lo hi) f ρ S = (f ρ S).bind fun r ρ S => .ok r.d ρ S := rfl
@[simp] theorem pk_slS (a st : E) (f : Env → Sto → Res R) : pk (.slS a st) f ρ S = (f ρ S).bind fun r ρ S => .ok r.d ρ S := rfl
@[simp] theorem pk_attr (a : E) (n : Str) (f : Env → Sto → Res R) : pk (.attr a n) f ρ S = (f ρ S).bind fun r ρ S => .ok r.d ρ S := rfl
@[simp] theorem pk_lc (elt : E) (tg : Tg) (k : Ik) (its cond : List E) (own : List Nat) (f : Env → Sto → Res R) : pk (.lc elt tg k its cond own) f ρ S = (f ρ S).bind fun r ρ S => .ok r.d ρ S := rfl
@[simp] theorem pk_box (e : E) (f : Env → Sto → Res R) : pk (.box e) f ρ S = (f ρ S).bind fun r ρ S => .ok r.d ρ S := rfl
@[simp] theorem pk_pop (o : E) (es : List E) (f : Env → Sto → Res R) : pk (.pop o es) f ρ S = (f ρ S).bind fun r ρ S => .ok r.d ρ S := rfl
@[simp] theorem pk_setdef (o k e : E) (f : Env → Sto → Res R) : pk (.setdef o k e) f ρ S = (f ρ S).bind fun r ρ S => .ok r.d ρ S := rfl
@[simp] theorem pk_mkx (c : Nat) (es : List E) (f : Env → Sto → Res R) : pk (.mkx c es) f ρ S = (f ρ S).bind fun r ρ S => .ok r.d ρ S := rfl
@[simp] theorem xE_non : evE P cf cm .non ρ S = .ok (.v .non) ρ S := by simp only [evE]
@[simp] theorem xE_bl (b : Bool) : evE P cf cm (.bl b) ρ S = .ok (.v (.bl b)) ρ S := by simp only [evE]
@[simp] theorem xE_int (b : Int) : evE P cf cm (.int b) ρ S = .ok (.v (.int b)) ρ S := by simp only [evE]
@[simp] theorem xE_str (b : Str) : evE P cf cm (.str b) ρ S = .ok (.v (.str b)) ρ S := by simp only [evE]
def getS (i : Nat) (ρ : Env) (S : Sto) : Option Slot → Res R
  | some (.v d) => .ok (.v d) ρ S
  | some (.ol xs) => .ok (.v (.lst xs)) (ρ.set i (.v (.lst xs))) S
  | some (.od t kvs) => .ok (.v (.dct t kvs)) (ρ.set i (.v (.dct t kvs))) S
  | _ => .err
@[simp] theorem getS_v (i : Nat) (ρ : Env) (S : Sto) (d : D) : getS i ρ S (some (.v d)) = .ok (.v d) ρ S := rfl
@[simp] theorem getS_ol (i : Nat) (ρ : Env) (S : Sto) (xs : List D) : getS i ρ S (some (.ol xs)) = .ok (.v (.lst xs)) (ρ.set i (.v (.lst xs))) S := rfl
@[simp] theorem xE_var (i : Nat) : evE P cf cm (.var i) ρ S = getS i ρ S ρ[i]? := by
  simp only [evE]
  rcases ρ[i]? with _ | s
  · rfl
  · cases s <;> rfl
@[simp] theorem xE_glob (g : Nat) : evE P cf cm (.glob g) ρ S = .of ((P.glo[g]?).map .v) ρ S := by simp only [evE]
@[simp] theorem xE_tup (es : List E) : evE P cf cm (.tup es) ρ S = (evEs P cf cm es ρ S).bind fun ds ρ S => if ds.length ≤ sizeLine then .ok (.v (.tup ds)) ρ S else .err := by simp only [evE]
@[simp] theorem xE_lst (es : List E) : evE P cf cm (.lst es) ρ S = (evEs P cf cm es ρ S).bind fun ds ρ S => if ds.length ≤ sizeLine then .ok (.ol ds) ρ S else .err := by simp only [evE]
@[simp] theorem xE_bin (op : Operator) (a b : E) : evE P cf cm (.bin op a b) ρ S = (pk a (evE P cf cm a) ρ S).bind fun x ρ S => (pk b (evE P cf cm b) ρ S).bind fun y ρ S => .of (binD S op x y) ρ S := by simp only [evE]
def notR (b : Bool) (ρ : Env) (S : Sto) : Res R := .ok (.v (.bl (!b))) ρ S
@[simp] theorem xE_not (a : E) : evE P cf cm (.not a) ρ S = ((pk a (evE P cf cm a) ρ S).bind fun x ρ S => .of (truthD S x) ρ S).bind fun b ρ S => .ok (.v (.bl (!b))) ρ S := by simp only [evE]; rw [Res.bind_assoc0]
@[simp] theorem xE_and (es : List E) : evE P cf cm (.andE es) ρ S = evAnd P cf cm es ρ S := by simp only [evE]
@[simp] theorem xE_or (es : List E) : evE P cf cm (.orE es) ρ S = evOr P cf cm es ρ S := by simp only [evE]
@[simp] theorem xA_1 (e : E) : evAnd P cf cm [e] ρ S = evE P cf cm e ρ S := by simp only [evAnd]
@[simp] theorem xA_2 (e e' : E) (es : List E) : evAnd P cf cm (e :: e' :: es) ρ S = (evE P cf cm e ρ S).bind fun r ρ S => (Res.of (truthD S r.d) ρ S).bind fun b ρ S => iteC (evAnd P cf cm (e' :: es) ρ S) (.ok r ρ S) () b := by
  rw [evAnd]
  · refine congrArg (Res.bind _) ?_; funext r ρ S; refine congrArg (Res.bind _) ?_; funext b ρ S; cases b <;> rfl
  · simp
@[simp] theorem xO_1 (e : E) : evOr P cf cm [e] ρ S = evE P cf cm e ρ S := by simp only [evOr]
@[simp] theorem xO_2 (e e' : E) (es : List E) : evOr P cf cm (e :: e' :: es) ρ S = (evE P cf cm e ρ S).bind fun r ρ S => (Res.of (truthD S r.d) ρ S).bind fun b ρ S => iteC (.ok r ρ S) (evOr P cf cm (e' :: es) ρ S) () b := by
  rw [evOr]
  · refine congrArg (Res.bind _) ?_; funext r ρ S; refine congrArg (Res.bind _) ?_; funext b ρ S; cases b <;> rfl
  · simp
@[simp] theorem xE_cmp (op : CmpOp) (a b : E) : evE P cf cm (.cmp op a b) ρ S = (pk a (evE P cf cm a) ρ S).bind fun x ρ S => (pk b (evE P cf cm b) ρ S).bind fun y ρ S => .of ((cmpD S op x y).map fun b => .v (.bl b)) ρ S := by simp only [evE]
@[simp] theorem xE_cmp2 (op op' : CmpOp) (a b c : E) : evE P cf cm (.cmp2 op op' a b c) ρ S = (pk a (evE P cf cm a) ρ S).bind fun x ρ S => (pk b (evE P cf cm b) ρ S).bind fun y ρ S => (Res.of (cmpD S op x y) ρ S).bind fun r ρ S =>
    iteC ((pk c (evE P cf cm c) ρ S).bind fun z ρ S => .of ((cmpD S op' y z).map fun b => .v (.bl b)) ρ S) (.ok (.v (.bl false)) ρ S) () r := by
  simp only [evE]; refine congrArg (Res.bind _) ?_; funext x ρ S; refine congrArg (Res.bind _) ?_; funext y ρ S; refine congrArg (Res.bind _) ?_; funext r ρ S; cases r <;> rfl
@[simp] theorem xE_ite (c a b : E) : evE P cf cm (.ite c a b) ρ S = (pk c (evE P cf cm c) ρ S).bind fun x ρ S => (Res.of (truthD S x) ρ S).bind fun r ρ S => iteC (evE P cf cm a ρ S) (evE P cf cm b ρ S) () r := by
  simp only [evE]; refine congrArg (Res.bind _) ?_; funext x ρ S; refine congrArg (Res.bind _) ?_; funext r ρ S; cases r <;> rfl
@[simp] theorem xE_call (i : Nat) (es : List E) : evE P cf cm (.call i es) ρ S = (evEs P cf cm es ρ S).bind fun ds ρ S => (cf i ds S).res ρ := by simp only [evE]
@[simp] theorem xE_prim (p : Prim) (es : List E) : evE P cf cm (.prim p es) ρ S = (evPs P cf cm es ρ S).bind fun ds ρ S => .of (primD S p ds) ρ S := by simp only [evE]
@[simp] theorem xE_mth (p : Prim) (o : E) (es : List E) : evE P cf cm (.mth p o es) ρ S = (pk o (evE P cf cm o) ρ S).bind fun x ρ S => if ownOk S p x = true then (evPs P cf cm es ρ S).bind fun ds ρ S => .of (primD S p (x :: ds)) ρ S else .err := by simp only [evE]
@[simp] theorem xE_ix (a i : E) : evE P cf cm (.ix a i) ρ S = (pk a (evE P cf cm a) ρ S).bind fun x ρ S => (pk i (evE P cf cm i) ρ S).bind fun k ρ S => .of ((ixD S x k).map .v) ρ S := by simp only [evE]
def boxR : R → Env → Sto → Res R
  | .ol xs, ρ, S => .ok (.v (.ref S.length)) ρ (S ++ [.lst xs])
  | .od t kvs, ρ, S => .ok (.v (.ref S.length)) ρ (S ++ [.dct t kvs])
  | .v (.ref a), ρ, S => .ok (.v (.ref a)) ρ S
  | .v _, _, _ => .err
@[simp] theorem boxR_ol (xs : List D) : boxR (.ol xs) ρ S = .ok (.v (.ref S.length)) ρ (S ++ [.lst xs]) := rfl
@[simp] theorem boxR_ref (a : Nat) : boxR (.v (.ref a)) ρ S = .ok (.v (.ref a)) ρ S := rfl
@[simp] theorem xE_box (e : E) : evE P cf cm (.box e) ρ S = (evE P cf cm e ρ S).bind boxR := by
  simp only [evE]; refine congrArg (Res.bind _) ?_; funext r ρ S
  cases r with
  | v d => cases d <;> rfl
  | ol xs => rfl
  | od t kvs => rfl
def lcR (own : List Nat) (ρ0 : Env) : Res (List D) → Res R
  | .ok acc ρ S => .ok (.ol acc) (back own ρ0 ρ) S
  | _ => .err
@[simp] theorem lcR_ok (own : List Nat) (ρ0 : Env) (acc : List D) : lcR own ρ0 (.ok acc ρ S) = .ok (.ol acc) (back own ρ0 ρ) S := rfl
def elR (e : E) (ρ : Env) (S : Sto) : Res D := (evE P cf cm e ρ S).bind fun r ρ S => .ok r.d ρ S
theorem elR_eq (e : E) (ρ : Env) (S : Sto) : elR P cf cm e ρ S = (evE P cf cm e ρ S).bind fun r ρ S => .ok r.d ρ S := rfl
def lcOk (own : List Nat) (tg : Tg) (ds : List D) (ρ : Env) (S : Sto) : Bool := noOwn own ρ && (tgIx tg).all own.contains && stays S ds S
@[simp] theorem xE_lc (elt : E) (tg : Tg) (k : Ik) (its cond : List E) (own : List Nat) : evE P cf cm (.lc elt tg k its cond own) ρ S = (evEs P cf cm its ρ S).bind fun ds ρ S => (Res.of (itemsD S k ds) ρ S).bind fun xs ρ S =>
    (Res.of (if lcOk own tg ds ρ S = true then some () else none) ρ S).bind fun _ ρ S => lcR own ρ (compLoop tg own (evC P cf cm cond) (elR P cf cm elt) (stays S ds) xs [] ρ S) := by
  simp only [evE]; refine congrArg (Res.bind _) ?_; funext ds ρ S
  cases itemsD S k ds with
  | none => rfl
  | some xs =>
    show (if _ then _ else _) = (Res.of (if _ then _ else _) ρ S).bind _
    have e : lcOk own tg ds ρ S = true ↔ (noOwn own ρ = true ∧ (tgIx tg).all own.contains = true ∧ stays S ds S = true) := by
      unfold lcOk; simp [Bool.and_eq_true, and_assoc]
    by_cases h : lcOk own tg ds ρ S = true
    · rw [if_pos (e.mp h), if_pos h]
      show _ = lcR own ρ (compLoop tg own (evC P cf cm cond) (fun ρ S => (evE P cf cm elt ρ S).bind fun r ρ S => .ok r.d ρ S) (stays S ds) xs [] ρ S)
      unfold lcR; split <;> simp_all
    · rw [if_neg (fun z => h (e.mpr z)), if_neg h]; rfl
@[simp] theorem xPs_0 : evPs P cf cm [] ρ S = .ok [] ρ S := by simp only [evPs]
@[simp] theorem xPs_1 (e : E) (es : List E) : evPs P cf cm (e :: es) ρ S = (pk e (evE P cf cm e) ρ S).bind fun d ρ S => (evPs P cf cm es ρ S).bind fun ds ρ S => .ok (d :: ds) ρ S := by simp only [evPs]
@[simp] theorem xEs_0 : evEs P cf cm [] ρ S = .ok [] ρ S := by simp only [evEs]
@[simp] theorem xEs_1 (e : E) (es : List E) : evEs P cf cm (e :: es) ρ S = (evE P cf cm e ρ S).bind fun r ρ S => (evEs P cf cm es ρ S).bind fun ds ρ S => .ok (r.d :: ds) ρ S := by simp only [evEs]
@[simp] theorem xC_0 : evC P cf cm [] ρ S = .ok true ρ S := by simp only [evC]
@[simp] theorem xC_1 (e : E) (es : List E) : evC P cf cm (e :: es) ρ S = (pk e (evE P cf cm e) ρ S).bind fun x ρ S => .of (truthD S x) ρ S := by simp only [evC]
/-! statements -/
@[simp] theorem xSs_0 : evSs P cf cm [] ρ S = .ok .next ρ S := by simp only [evSs]
@[simp] theorem bT_nm (i : Nat) (d : D) : bindT (.nm i) d ρ = if i < ρ.length then some (ρ.set i (.v d)) else none := by simp only [bindT]
@[simp] theorem bT_tp (ts : List Tg) (ds : List D) : bindT (.tp ts) (.tup ds) ρ = bindTs ts ds ρ := by simp only [bindT]
@[simp] theorem bTs_0 : bindTs [] [] ρ = some ρ := by simp only [bindTs]
@[simp] theorem bTs_1 (t : Tg) (ts : List Tg) (d : D) (ds : List D) : bindTs (t :: ts) (d :: ds) ρ = (bindT t d ρ).bind fun ρ' => bindTs ts ds ρ' := by simp only [bindTs]
def TokM (m : Res Fl) : Type := Unit
def flR (m : Res Fl) (t : TokM m) (f : Fl) (ρ : Env) (S : Sto) : Res Fl := match f with
  | .next => m
  | .ret r => .ok (.ret r) ρ S
@[simp] theorem flR_n (m : Res Fl) : flR m () .next ρ S = m := rfl
@[simp] theorem flR_r (r : R) (m : Res Fl) : flR m () (.ret r) ρ S = .ok (.ret r) ρ S := rfl
@[simp] theorem xSs_1 (s : Sm) (ss : List Sm) : evSs P cf cm (s :: ss) ρ S = (evS P cf cm s ρ S).bind fun f ρ S => flR (evSs P cf cm ss ρ S) () f ρ S := by simp only [evSs]; rfl
@[simp] theorem xS_pass : evS P cf cm .pass ρ S = .ok .next ρ S := by simp only [evS]
@[simp] theorem xS_asg (i : Nat) (e : E) : evS P cf cm (.asg (.nm i) e) ρ S = (evE P cf cm e ρ S).bind fun r ρ S => if i < ρ.length then .ok .next (ρ.set i r.slot) S else .err := by simp only [evS]
@[simp] theorem xS_asgT (ts : List Tg) (e : E) : evS P cf cm (.asg (.tp ts) e) ρ S = (evE P cf cm e ρ S).bind fun r ρ S => (Res.of (bindT (.tp ts) r.d ρ) ρ S).bind fun ρ' _ S => .ok .next ρ' S := by
  simp only [evS]; refine congrArg (Res.bind _) ?_; funext r ρ S
  cases bindT (.tp ts) r.d ρ <;> rfl
@[simp] theorem xS_setX (o i e : E) : evS P cf cm (.setX o i e) ρ S = (evE P cf cm e ρ S).bind fun r ρ S => (pk o (evE P cf cm o) ρ S).bind fun x ρ S => (pk i (evE P cf cm i) ρ S).bind fun k ρ S => (Res.of (setIx S x k r.d) ρ S).bind fun S' ρ _ => .ok .next ρ S' := by
  simp only [evS]; refine congrArg (Res.bind _) ?_; funext r ρ S; refine congrArg (Res.bind _) ?_; funext x ρ S; refine congrArg (Res.bind _) ?_; funext k ρ S
  cases setIx S x k r.d <;> rfl
@[simp] theorem xS_expr (e : E) : evS P cf cm (.expr e) ρ S = (pk e (evE P cf cm e) ρ S).bind fun _ ρ S => .ok .next ρ S := by simp only [evS]
@[simp] theorem xS_ite (c : E) (t f : List Sm) : evS P cf cm (.ite c t f) ρ S = (pk c (evE P cf cm c) ρ S).bind fun x ρ S => (Res.of (truthD S x) ρ S).bind fun b ρ S => iteC (evSs P cf cm t ρ S) (evSs P cf cm f ρ S) () b := by
  simp only [evS]; refine congrArg (Res.bind _) ?_; funext x ρ S; refine congrArg (Res.bind _) ?_; funext r ρ S; cases r <;> rfl
@[simp] theorem xS_for (tg : Tg) (k : Ik) (its : List E) (body : List Sm) (ks : List Nat) : evS P cf cm (.for_ tg k its body ks) ρ S = (evEs P cf cm its ρ S).bind fun ds ρ S => (Res.of (itemsD S k ds) ρ S).bind fun xs ρ S => forLoop tg (evSs P cf cm body) ks (stays S ds) xs (kill ks ρ) S := by
  simp only [evS]; refine congrArg (Res.bind _) ?_; funext ds ρ S
  cases itemsD S k ds <;> rfl
@[simp] theorem xS_ret (e : E) : evS P cf cm (.ret e) ρ S = (evE P cf cm e ρ S).bind fun r ρ S => .ok (.ret r) ρ S := by simp only [evS]
@[simp] theorem xS_retN : evS P cf cm .retN ρ S = .ok (.ret (.v .non)) ρ S := by simp only [evS]
theorem ss_n {P : Pg} {cf cm : Nat → List D → Sto → ResF} {s : Sm} {ss : List Sm} {ρ ρ1 : Env} {S S1 : Sto} (h : evS P cf cm s ρ S = .ok .next ρ1 S1) : evSs P cf cm (s :: ss) ρ S = evSs P cf cm ss ρ1 S1 := by rw [xSs_1, h]; rfl
theorem ss_r {P : Pg} {cf cm : Nat → List D → Sto → ResF} {s : Sm} {ss : List Sm} {ρ ρ1 : Env} {S S1 : Sto} {r : R} (h : evS P cf cm s ρ S = .ok (.ret r) ρ1 S1) : evSs P cf cm (s :: ss) ρ S = .ok (.ret r) ρ1 S1 := by rw [xSs_1, h]; rfl
def finR : Res Fl → ResF
  | .ok (.ret r) _ S => .ok r S
  | .ok .next _ S => .ok (.v .non) S
  | .exc c vs _ S => .exc c vs S
  | .err => .err
@[simp] theorem finR_r (r : R) : finR (.ok (.ret r) ρ S) = .ok r S := rfl
@[simp] theorem finR_n : finR (.ok .next ρ S) = .ok (.v .non) S := rfl
/-! loops, a turn at a time -/
def turnR (tg : Tg) (fb : Env → Sto → Res Fl) (ks : List Nat) (st : Sto → Bool) (xs : List D) : Res Fl → Res Fl
  | .ok .next ρ S => if st S then forLoop tg fb ks st xs (kill ks ρ) S else .err
  | m => m
theorem for_0 (tg : Tg) (fb : Env → Sto → Res Fl) (ks : List Nat) (st : Sto → Bool) : forLoop tg fb ks st [] ρ S = .ok .next ρ S := rfl
theorem for_1 {tg : Tg} {fb : Env → Sto → Res Fl} {ks : List Nat} {st : Sto → Bool} {x : D} {xs : List D} {ρ ρ1 ρ2 : Env} {S S2 : Sto} (h1 : bindT tg x ρ = some ρ1) (h2 : fb ρ1 S = .ok .next ρ2 S2) (h3 : st S2 = true) : forLoop tg fb ks st (x :: xs) ρ S = forLoop tg fb ks st xs (kill ks ρ2) S2 := by
  simp only [forLoop, h1, h2, h3, if_true]
end
/-- a def's run by its body's -/
theorem run_def {P : Pg} {n i : Nat} {ds : List D} {S : Sto} {F : FD} (h : P.fns[i]? = some F) (hl : ds.length = F.np) : callF P (n + 1) i ds S = finR (evSs P (callF P n) (makeF P n) F.body (ds.map .v ++ List.replicate (F.ns - F.np) .no) S) := by
  rw [callF_succ]
  unfold runF
  rw [h]
  simp only [hl, if_true]
  unfold finR
  split <;> simp_all
/-! ### the drawing -/
def drawB : FD := { np := 2, ns := 5, body := [(.ite (.cmp .Gt (.ix (.var 0) (.int 0)) (.int 0)) [(.asg (.nm 2) (.bin .Mod (.ix (.var 0) (.int 0)) (.var 1))),
    (.setX (.var 0) (.int 0) (.bin .FloorDiv (.ix (.var 0) (.int 0)) (.var 1))),
    (.ret (.var 2))] []),
    (.setX (.var 0) (.int 2) (.bin .Add (.ix (.var 0) (.int 2)) (.int 1))),
    (.asg (.nm 3) (.ix (.var 0) (.int 2))),
    (.asg (.nm 4) (.bin .Mod (.bin .Add (.bin .Add (.bin .Mult (.ix (.var 0) (.int 1)) (.int 40503)) (.bin .Mult (.bin .Mult (.int 7919) (.var 3)) (.var 3))) (.bin .Mult (.int 104729) (.var 3))) (.int 2147483647))),
    (.asg (.nm 4) (.bin .Mod (.bin .Mult (.var 4) (.bin .Add (.bin .Mod (.var 4) (.int 65003)) (.int 3))) (.int 2147483587))),
    (.ret (.bin .Mod (.bin .FloorDiv (.bin .Mod (.bin .Add (.bin .Mult (.var 4) (.int 69621)) (.var 3)) (.int 2147483563)) (.int 16)) (.var 1)))] }
/-- a pen's cell -/
def Pen (S : Sto) (a : Nat) (m : Int) : Prop := ∃ d s : Int, cellAt S a = some (.lst [.int d, .int s, .int m]) ∧ 0 ≤ d
@[simp] theorem atI3_0 (x y z : D) : L2.atI [x, y, z] 0 = some x := rfl
@[simp] theorem atI3_1 (x y z : D) : L2.atI [x, y, z] 1 = some y := rfl
@[simp] theorem atI3_2 (x y z : D) : L2.atI [x, y, z] 2 = some z := rfl
theorem draw_ok {P : Pg} {n i a : Nat} {b : Int} {S : Sto} {m : Int} (hP : P.fns[i]? = some drawB) (h : Pen S a m) (hb : 0 < b) (hb2 : b < 1073741824) (hm : 0 ≤ m) (hm2 : m < 2 ^ 60) :
    ∃ (x m' : Int) (c : Cell), 0 ≤ x ∧ x < b ∧ 0 ≤ m' ∧ m' ≤ m + 1 ∧ Pen (setCell S a c) a m' ∧ callF P (n + 1) i [.ref a, .int b] S = .ok (.v (.int x)) (setCell S a c) := by
  obtain ⟨d, s, hc, hd⟩ := h
  have hlt : a < S.length := (List.getElem?_eq_some_iff.mp hc).1
  rw [run_def hP rfl]
  by_cases h0 : 0 < d
  · refine ⟨d.fmod b, m, .lst [.int (d.fdiv b), .int s, .int m], Int.fmod_nonneg_of_pos _ hb, Int.fmod_lt_of_pos _ hb, hm, by omega, ⟨d.fdiv b, s, by simp [cellAt, setCell, hlt], Int.fdiv_nonneg hd (by omega)⟩, ?_⟩
    have e1 : b ≠ 0 ∧ b.natAbs < 1073741824 := by omega
    simp [drawB, ixL S a _ _ hc, h0, e1, setIx, hc, setCell, L2.ixN]
  · have h1 : ¬ 0 < d := h0
    have hk : mulOk s 40503 = true := mulOk_r (by decide)
    have hk2 : mulOk 7919 (m + 1) = true := mulOk_l (by decide)
    have hk3 : mulOk (7919 * (m + 1)) (m + 1) = true := mulOk_r (by omega)
    have hk4 : mulOk 104729 (m + 1) = true := mulOk_l (by decide)
    have e1 : b ≠ 0 ∧ b.natAbs < 1073741824 := by omega
    have hc2 : cellAt (S.set a (.lst [.int d, .int s, .int (m + 1)])) a = some (.lst [.int d, .int s, .int (m + 1)]) := by simp [cellAt, hlt]
    generalize hn1 : (s * 40503 + 7919 * (m + 1) * (m + 1) + 104729 * (m + 1)).fmod 2147483647 = n1
    have b1 : 0 ≤ n1 := by rw [← hn1]; exact Int.fmod_nonneg_of_pos _ (by decide)
    have b2 : n1 < 2147483647 := by rw [← hn1]; exact Int.fmod_lt_of_pos _ (by decide)
    have hk5 : mulOk n1 (n1.fmod 65003 + 3) = true := mulOk_l (by omega)
    have hk6 : mulOk ((n1 * (n1.fmod 65003 + 3)).fmod 2147483587) 69621 = true := mulOk_r (by decide)
    refine ⟨(((((n1 * (n1.fmod 65003 + 3)).fmod 2147483587) * 69621 + (m + 1)).fmod 2147483563).fdiv 16).fmod b, m + 1, .lst [.int d, .int s, .int (m + 1)], Int.fmod_nonneg_of_pos _ hb, Int.fmod_lt_of_pos _ hb, by omega, by omega, ⟨d, s, by simp [cellAt, setCell, hlt], hd⟩, ?_⟩
    simp [drawB, ixL S a _ _ hc, h1, e1, setIx, setCell, hc, L2.ixN, ixL _ a _ _ hc2, hk, hk2, hk3, hk4, hn1, hk5, hk6]
end Iv
/-! Pv1: plain laws: more equations; loops, comprehensions; data compared -/
namespace Iv
open PySem
/-! ### data compared -/
mutual
/-- no dicts, no boxes, at most n deep; texts of code points -/
def D.pl : Nat → D → Bool
  | _, .non => true
  | _, .bl _ => true
  | _, .int _ => true
  | _, .str x => PyData.strOk x
  | n + 1, .tup xs => D.pls n xs
  | n + 1, .lst xs => D.pls n xs
  | _, _ => false
def D.pls : Nat → List D → Bool
  | _, [] => true
  | n, x :: xs => D.pl n x && D.pls n xs
end
mutual
def D.eqv : D → D → Bool
  | .non, .non => true
  | .bl a, .bl b => a == b
  | .bl a, .int j => (if a then 1 else 0) == j
  | .int i, .bl b => i == (if b then 1 else 0)
  | .int i, .int j => i == j
  | .str x, .str y => x == y
  | .lst xs, .lst ys => D.eqvs xs ys
  | .tup xs, .tup ys => D.eqvs xs ys
  | _, _ => false
def D.eqvs : List D → List D → Bool
  | [], [] => true
  | x :: xs, y :: ys => D.eqv x y && D.eqvs xs ys
  | _, _ => false
end
section
variable {g : Nat → Option PyData}
mutual
theorem pl_py : ∀ (d : D) (n : Nat), D.pl n d = true → ∃ p, D.py g d = some p ∧ p.canLay0 = true ∧ p.depth ≤ n
  | .non, n, _ => ⟨.none, rfl, rfl, by simp [PyData.depth]⟩
  | .bl b, n, _ => ⟨.bool b, rfl, rfl, by simp [PyData.depth]⟩
  | .int b, n, _ => ⟨.int b, rfl, rfl, by simp [PyData.depth]⟩
  | .str b, n, h => ⟨.str b, rfl, by cases n <;> simpa [D.pl, PyData.canLay0] using h, by simp [PyData.depth]⟩
  | .tup xs, 0, h => by simp [D.pl] at h
  | .lst xs, 0, h => by simp [D.pl] at h
  | .tup xs, n + 1, h => by
    simp only [D.pl] at h
    obtain ⟨ps, e, h1, h2⟩ := pls_py xs n h
    exact ⟨.tuple ps, by simp [D.py, e], by simpa [PyData.canLay0] using h1, by simp [PyData.depth]; omega⟩
  | .lst xs, n + 1, h => by
    simp only [D.pl] at h
    obtain ⟨ps, e, h1, h2⟩ := pls_py xs n h
    exact ⟨.list ps, by simp [D.py, e], by simpa [PyData.canLay0] using h1, by simp [PyData.depth]; omega⟩
  | .dct _ _, n, h => by cases n <;> simp [D.pl] at h
  | .ref _, n, h => by cases n <;> simp [D.pl] at h
  | .exc _ _, n, h => by cases n <;> simp [D.pl] at h
theorem pls_py : ∀ (xs : List D) (n : Nat), D.pls n xs = true → ∃ ps, D.pys g xs = some ps ∧ PyData.canLayAll0 ps = true ∧ PyData.depthAll ps ≤ n
  | [], n, _ => ⟨[], rfl, rfl, by simp [PyData.depthAll]⟩
  | x :: xs, n, h => by
    simp only [D.pls, Bool.and_eq_true] at h
    obtain ⟨p, e, h1, h2⟩ := pl_py x n h.1
    obtain ⟨ps, e', h1', h2'⟩ := pls_py xs n h.2
    exact ⟨p :: ps, by simp [D.pys, e, e'], by simp [PyData.canLayAll0, h1, h1'], by simp [PyData.depthAll]; omega⟩
end
mutual
theorem eqv_py : ∀ (d e : D) (p q : PyData), D.py g d = some p → D.py g e = some q → (∀ n, D.pl n d = true ∨ D.pl n e = true ∨ True) → (∃ n, D.pl n d = true) → (∃ n, D.pl n e = true) → PyData.eqv p q = D.eqv d e
  | d, e, p, q, h1, h2, _, ⟨n, h3⟩, ⟨m, h4⟩ => by
    cases d <;> cases e <;> first
      | (exfalso; cases n <;> simp [D.pl] at h3; done)
      | (exfalso; cases m <;> simp [D.pl] at h4; done)
      | (simp only [D.py, Option.some.injEq] at h1 h2; subst h1; subst h2; simp [PyData.eqv, D.eqv]; done)
      | (simp only [D.py, Option.some.injEq, Option.map_eq_some_iff] at h1 h2; obtain ⟨_, _, rfl⟩ := h1; subst h2; simp [PyData.eqv, D.eqv]; done)
      | (simp only [D.py, Option.some.injEq, Option.map_eq_some_iff] at h1 h2; obtain ⟨_, _, rfl⟩ := h2; subst h1; simp [PyData.eqv, D.eqv]; done)
      | (simp only [D.py, Option.map_eq_some_iff] at h1 h2
         obtain ⟨ps, e1, rfl⟩ := h1
         obtain ⟨qs, e2, rfl⟩ := h2
         first
           | (simp [PyData.eqv, D.eqv]; done)
           | (cases n with
              | zero => simp [D.pl] at h3
              | succ n =>
                cases m with
                | zero => simp [D.pl] at h4
                | succ m =>
                  simp only [D.pl] at h3 h4
                  simp only [PyData.eqv, D.eqv]
                  exact eqvs_py _ _ ps qs e1 e2 ⟨n, h3⟩ ⟨m, h4⟩))
theorem eqvs_py : ∀ (d e : List D) (p q : List PyData), D.pys g d = some p → D.pys g e = some q → (∃ n, D.pls n d = true) → (∃ n, D.pls n e = true) → PyData.eqvAll p q = D.eqvs d e
  | [], [], p, q, h1, h2, _, _ => by
    simp only [D.pys, Option.some.injEq] at h1 h2
    subst h1; subst h2; rfl
  | [], y :: ys, p, q, h1, h2, _, _ => by
    simp only [D.pys, Option.some.injEq] at h1 h2
    subst h1
    split at h2
    · cases h2; rfl
    · cases h2
  | x :: xs, [], p, q, h1, h2, _, _ => by
    simp only [D.pys, Option.some.injEq] at h1 h2
    subst h2
    split at h1
    · cases h1; rfl
    · cases h1
  | x :: xs, y :: ys, p, q, h1, h2, ⟨n, h3⟩, ⟨m, h4⟩ => by
    simp only [D.pls, Bool.and_eq_true] at h3 h4
    simp only [D.pys] at h1 h2
    split at h1
    · split at h2
      · cases h1; cases h2
        rename_i a1 a2 a3 a4
        simp only [PyData.eqvAll, D.eqvs]
        rw [eqv_py x y _ _ (by assumption) (by assumption) (fun _ => .inr (.inr trivial)) ⟨n, h3.1⟩ ⟨m, h4.1⟩, eqvs_py xs ys _ _ (by assumption) (by assumption) ⟨n, h3.2⟩ ⟨m, h4.2⟩]
      · cases h2
    · cases h1
end
end
theorem eqD_pl {S : Sto} {d e : D} (h1 : D.pl 64 d = true) (h2 : D.pl 64 e = true) : eqD S d e = some (D.eqv d e) := by
  unfold eqD
  split
  · rename_i h
    cases d <;> cases e <;> simp [scalD] at h <;> first | rfl | simp [sameD, D.eqv, Bool.beq_eq_decide_eq]
  · unfold eqD0 pyD
    obtain ⟨p, e1, q1, q2⟩ := pl_py (g := boxPy S 3) d 64 h1
    obtain ⟨q, e2, q3, q4⟩ := pl_py (g := boxPy S 3) e 64 h2
    rw [e1, e2]
    dsimp only
    rw [if_pos ⟨by simp [SeqAt.shaped, q1, q2], by simp [SeqAt.shaped, q3, q4]⟩]
    rw [eqv_py d e p q e1 e2 (fun _ => .inr (.inr trivial)) ⟨64, h1⟩ ⟨64, h2⟩]
theorem cEqP {S : Sto} {d e : D} (h1 : D.pl 64 d = true) (h2 : D.pl 64 e = true) : cmpD S .Eq d e = some (D.eqv d e) := eqD_pl h1 h2
theorem cNeP {S : Sto} {d e : D} (h1 : D.pl 64 d = true) (h2 : D.pl 64 e = true) : cmpD S .NotEq d e = some (!D.eqv d e) := by
  show (eqD S d e).map (!·) = _
  rw [eqD_pl h1 h2]; rfl
end Iv
/-! Pv2: plain laws: slices, own lists, loops, comprehensions -/
namespace Iv
open PySem
section
variable (P : Pg) (cf cm : Nat → List D → Sto → ResF) (ρ : Env) (S : Sto)
/-! ### slices -/
@[simp] theorem optI_0 : optI [] = some none := rfl
@[simp] theorem optI_1 (i : Int) : optI [.int i] = some (some i) := rfl
@[simp] theorem xE_sl (a : E) (lo hi : List E) : evE P cf cm (.sl a lo hi) ρ S = (pk a (evE P cf cm a) ρ S).bind fun x ρ S => ((evPs P cf cm lo ρ S).bind fun l ρ S => .of (optI l) ρ S).bind fun l ρ S => ((evPs P cf cm hi ρ S).bind fun h ρ S => .of (optI h) ρ S).bind fun h ρ S => .of (slD S x l h) ρ S := by simp only [evE]
@[simp] theorem sl_lst (xs : List D) (lo hi : Option Int) : slD S (.lst xs) lo hi = some (.ol (cutD xs lo hi)) := rfl
@[simp] theorem sl_tup (xs : List D) (lo hi : Option Int) : slD S (.tup xs) lo hi = some (.v (.tup (cutD xs lo hi))) := rfl
@[simp] theorem sl_str (z : Str) (lo hi : Option Int) (h : z.length ≤ sizeLine) : slD S (.str z) lo hi = some (.v (.str (L2.cutS z lo hi))) := by simp only [slD, if_pos h]
theorem take_min {α : Type} (xs : List α) (a b : Nat) : (xs.drop (min a xs.length)).take (min b xs.length - min a xs.length) = (xs.drop a).take (b - a) := by
  by_cases h : a ≤ xs.length
  · rw [Nat.min_eq_left h]
    by_cases h2 : b ≤ xs.length
    · rw [Nat.min_eq_left h2]
    · rw [Nat.min_eq_right (by omega : xs.length ≤ b), List.take_of_length_le (by simp), List.take_of_length_le (by simp; omega)]
  · rw [Nat.min_eq_right (by omega : xs.length ≤ a), List.drop_of_length_le (by omega), List.drop_of_length_le (by omega)]
    simp
theorem sIx_pos (n d : Nat) {i : Int} (h : 0 ≤ i) : HT.sIx n d (some i) = min i.toNat n := by
  obtain ⟨k, rfl⟩ := Int.eq_ofNat_of_zero_le h
  exact HT.sIx_nat n d k
theorem cut_lh (xs : List D) {i j : Int} (hi : 0 ≤ i) (hj : 0 ≤ j) : cutD xs (some i) (some j) = (xs.drop i.toNat).take (j.toNat - i.toNat) := by
  unfold cutD
  rw [sIx_pos _ _ hi, sIx_pos _ _ hj]
  exact take_min xs _ _
theorem cut_lo (xs : List D) {i : Int} (hi : 0 ≤ i) : cutD xs (some i) none = xs.drop i.toNat := by
  unfold cutD
  rw [sIx_pos _ _ hi]
  show (xs.drop (min i.toNat xs.length)).take (xs.length - min i.toNat xs.length) = _
  have := take_min xs i.toNat xs.length
  rw [Nat.min_self] at this
  rw [this, List.take_of_length_le (by simp)]
theorem cut_hi (xs : List D) {j : Int} (hj : 0 ≤ j) : cutD xs none (some j) = xs.take j.toNat := by
  unfold cutD
  rw [sIx_pos _ _ hj]
  show (xs.drop 0).take (min j.toNat xs.length - 0) = _
  rw [List.drop_zero, Nat.sub_zero]
  by_cases h : j.toNat ≤ xs.length
  · rw [Nat.min_eq_left h]
  · rw [Nat.min_eq_right (by omega), List.take_of_length_le (by omega), List.take_of_length_le (by omega)]
theorem cut_all (xs : List D) : cutD xs none none = xs := by
  unfold cutD
  show (xs.drop 0).take (xs.length - 0) = xs
  simp
def strL (l : List Nat) : Str := ⟨l.toArray⟩
@[simp] theorem strL_toList (z : Str) : strL z.cps.toList = z := rfl
@[simp] theorem toList_strL (l : List Nat) : (strL l).cps.toList = l := by simp [strL]
theorem len_list (z : Str) : z.length = z.cps.toList.length := by simp [Str.length]
theorem cutS_lh (z : Str) {i j : Int} (hi : 0 ≤ i) (hj : 0 ≤ j) : L2.cutS z (some i) (some j) = strL ((z.cps.toList.drop i.toNat).take (j.toNat - i.toNat)) := by
  unfold L2.cutS strL
  rw [sIx_pos _ _ hi, sIx_pos _ _ hj, len_list, take_min]
theorem cutS_lo (z : Str) {i : Int} (hi : 0 ≤ i) : L2.cutS z (some i) none = strL (z.cps.toList.drop i.toNat) := by
  unfold L2.cutS strL
  rw [sIx_pos _ _ hi, len_list]
  congr 2
  show (z.cps.toList.drop (min i.toNat z.cps.toList.length)).take (z.cps.toList.length - min i.toNat z.cps.toList.length) = _
  have := take_min z.cps.toList i.toNat z.cps.toList.length
  rw [Nat.min_self] at this
  rw [this, List.take_of_length_le (by simp)]
theorem cutS_hi (z : Str) {j : Int} (hj : 0 ≤ j) : L2.cutS z none (some j) = strL (z.cps.toList.take j.toNat) := by
  unfold L2.cutS strL
  rw [sIx_pos _ _ hj, len_list]
  congr 2
  show (z.cps.toList.drop 0).take (min j.toNat z.cps.toList.length - 0) = _
  rw [List.drop_zero, Nat.sub_zero]
  by_cases h : j.toNat ≤ z.cps.toList.length
  · rw [Nat.min_eq_left h]
  · rw [Nat.min_eq_right (by omega), List.take_of_length_le (by omega), List.take_of_length_le (by omega)]
def negR : D → Env → Sto → Res R
  | .int i, ρ, S => .ok (.v (.int (-i))) ρ S
  | _, _, _ => .err
@[simp] theorem negR_i (i : Int) : negR (.int i) ρ S = .ok (.v (.int (-i))) ρ S := rfl
@[simp] theorem xE_neg (a : E) : evE P cf cm (.neg a) ρ S = (pk a (evE P cf cm a) ρ S).bind negR := by
  simp only [evE]; refine congrArg (Res.bind _) ?_; funext x ρ S
  cases x <;> rfl
/-! ### places -/
theorem atI_nat {α : Type} (xs : List α) {i : Int} (h : 0 ≤ i) : L2.atI xs i = xs[i.toNat]? := by
  unfold L2.atI L2.ixN
  rw [if_pos h]
  split
  · rfl
  · rw [List.getElem?_eq_none (by omega)]; rfl
theorem atI_last {α : Type} (xs : List α) (x : α) : L2.atI (xs ++ [x]) (-1) = some x := by
  unfold L2.atI L2.ixN
  rw [if_neg (by decide), if_pos (by simp; omega)]
  have : ((-1 : Int) + ((xs ++ [x]).length : Nat)).toNat = xs.length := by simp; omega
  simp only [this, Option.bind_some]
  simp
theorem atI_lt {α : Type} (xs : List α) {i : Int} (h : 0 ≤ i) (h2 : i < xs.length) : L2.atI xs i = some (xs[i.toNat]'(by omega)) := by
  rw [atI_nat xs h, List.getElem?_eq_getElem]
@[simp] theorem ix_lst (xs : List D) (k : Int) : ixD S (.lst xs) (.int k) = L2.atI xs k := ixD_seq rfl (by intro z e; cases e)
@[simp] theorem ix_tup (xs : List D) (k : Int) : ixD S (.tup xs) (.int k) = L2.atI xs k := ixD_seq rfl (by intro z e; cases e)
theorem ix_str {z : Str} {k : Int} {c : Nat} (h : z.length ≤ sizeLine) (e : L2.atI z.cps.toList k = some c) : ixD S (.str z) (.int k) = some (.str (one c)) := by
  unfold ixD ixQ
  simp only [if_pos h, e, Option.map_some]
/-! ### own lists -/
def ownO : Option Slot → Bool
  | some (.ol _) => true
  | _ => false
@[simp] theorem ownO_ol (xs : List D) : ownO (some (.ol xs)) = true := rfl
@[simp] theorem ownAt_eq (i : Nat) : ownAt ρ i = ownO ρ[i]? := by
  unfold ownAt ownO
  rcases ρ[i]? with _ | s
  · rfl
  · cases s <;> rfl
def appS (i : Nat) (d : D) : Option Slot → Env → Sto → Res Fl
  | some (.ol xs), ρ, S => if xs.length < sizeLine then .ok .next (ρ.set i (.ol (xs ++ [d]))) S else .err
  | _, _, _ => .err
@[simp] theorem appS_ol (i : Nat) (d : D) (xs : List D) (h : xs.length < sizeLine) : appS i d (some (.ol xs)) ρ S = .ok .next (ρ.set i (.ol (xs ++ [d]))) S := by simp only [appS, if_pos h]
@[simp] theorem xS_app (i : Nat) (e : E) : evS P cf cm (.mutO i .append [e]) ρ S = if ownO ρ[i]? = true then (evE P cf cm e ρ S).bind fun r ρ S => appS i r.d ρ[i]? ρ S else .err := by
  simp only [evS, ownAt_eq]
  by_cases h : ownO ρ[i]? = true
  · rw [if_pos h, if_pos h]
    show (evEs P cf cm [e] ρ S).bind _ = _
    rw [xEs_1, Res.bind_assoc0]
    congr 1
    funext r ρ S
    rw [xEs_0]
    unfold appS
    show (match ρ[i]? with | some (.ol xs) => _ | _ => _) = _
    rcases ρ[i]? with _ | s
    · rfl
    · cases s with
      | ol xs =>
        by_cases hz : xs.length < sizeLine
        · simp only [mutL, if_pos hz]
        · simp only [mutL, if_neg hz]
      | _ => rfl
  · rw [if_neg h, if_neg h]
def setOS (i : Nat) (k d : D) : Option Slot → Env → Sto → Res Fl
  | some (.ol xs), ρ, S => match k with
    | .int k => match L2.ixN xs.length k with
      | some j => .ok .next (ρ.set i (.ol (xs.set j d))) S
      | none => .err
    | _ => .err
  | _, _, _ => .err
@[simp] theorem setOS_ol (i : Nat) (k : Int) (d : D) (xs : List D) (h : 0 ≤ k) (h2 : k < xs.length) : setOS i (.int k) d (some (.ol xs)) ρ S = .ok .next (ρ.set i (.ol (xs.set k.toNat d))) S := by
  have : L2.ixN xs.length k = some k.toNat := by unfold L2.ixN; rw [if_pos h, if_pos h2]
  simp only [setOS, this]
@[simp] theorem xS_setO (i : Nat) (k e : E) : evS P cf cm (.setO i k e) ρ S = (evE P cf cm e ρ S).bind fun r ρ S => if ownO ρ[i]? = true then (pk k (evE P cf cm k) ρ S).bind fun k ρ S => setOS i k r.d ρ[i]? ρ S else .err := by
  simp only [evS]
  refine congrArg (Res.bind _) ?_
  funext r ρ S
  rw [ownAt_eq]
  by_cases h : ownO ρ[i]? = true
  · rw [if_pos h, if_pos h]
    refine congrArg (Res.bind _) ?_
    funext k ρ S
    unfold setOS
    rcases ρ[i]? with _ | s
    · rfl
    · cases s with
      | ol xs => cases k <;> rfl
      | _ => rfl
  · rw [if_neg h, if_neg h]
def ownK : Option Slot → Bool
  | some (.od _ _) => true
  | _ => false
@[simp] theorem ownK_od (t : Bool) (xs : List (D × D)) : ownK (some (.od t xs)) = true := rfl
def setKS (i : Nat) (k d : D) : Option Slot → Env → Sto → Res Fl
  | some (.od false kvs), ρ, S => if flatK k = true ∧ kvs.length < sizeLine then .ok .next (ρ.set i (.od false (putK kvs k d))) S else .err
  | _, _, _ => .err
@[simp] theorem setKS_od (i : Nat) (k d : D) (kvs : List (D × D)) (h : flatK k = true) (h2 : kvs.length < sizeLine) : setKS i k d (some (.od false kvs)) ρ S = .ok .next (ρ.set i (.od false (putK kvs k d))) S := by simp only [setKS, if_pos (And.intro h h2)]
@[simp] theorem xS_setK (i : Nat) (k e : E) : evS P cf cm (.setK i k e) ρ S = (evE P cf cm e ρ S).bind fun r ρ S => if ownK ρ[i]? = true then (pk k (evE P cf cm k) ρ S).bind fun k ρ S => setKS i k r.d ρ[i]? ρ S else .err := by
  simp only [evS]
  refine congrArg (Res.bind _) ?_
  funext r ρ S
  have e1 : ownAtK ρ i = ownK ρ[i]? := by
    unfold ownAtK ownK
    rcases ρ[i]? with _ | s
    · rfl
    · cases s <;> rfl
  rw [e1]
  by_cases h : ownK ρ[i]? = true
  · rw [if_pos h, if_pos h]
    refine congrArg (Res.bind _) ?_
    funext k ρ S
    unfold setKS
    rcases ρ[i]? with _ | s
    · rfl
    · cases s with
      | od t xs => cases t <;> rfl
      | _ => rfl
  · rw [if_neg h, if_neg h]
def retO : Option Slot → Env → Sto → Res Fl
  | some (.v d), ρ, S => .ok (.ret (.v d)) ρ S
  | some (.ol xs), ρ, S => .ok (.ret (.ol xs)) ρ S
  | some (.od t kvs), ρ, S => .ok (.ret (.od t kvs)) ρ S
  | _, _, _ => .err
@[simp] theorem retO_v (d : D) : retO (some (.v d)) ρ S = .ok (.ret (.v d)) ρ S := rfl
@[simp] theorem retO_ol (d : List D) : retO (some (.ol d)) ρ S = .ok (.ret (.ol d)) ρ S := rfl
@[simp] theorem retO_od (t : Bool) (d : List (D × D)) : retO (some (.od t d)) ρ S = .ok (.ret (.od t d)) ρ S := rfl
@[simp] theorem xS_retM (i : Nat) : evS P cf cm (.retM i) ρ S = retO ρ[i]? ρ S := by
  simp only [evS]
  unfold retO
  rcases ρ[i]? with _ | s
  · rfl
  · cases s <;> rfl
/-! ### built-ins -/
@[simp] theorem q_tuple (xs : List D) : primD S .tuple [.lst xs] = some (.v (.tup xs)) := rfl
@[simp] theorem q_tupleT (xs : List D) : primD S .tuple [.tup xs] = some (.v (.tup xs)) := rfl
@[simp] theorem q_list (xs : List D) : primD S .list [.lst xs] = some (.ol xs) := rfl
@[simp] theorem q_listT (xs : List D) : primD S .list [.tup xs] = some (.ol xs) := rfl
@[simp] theorem q_intB (b : Bool) : primD S .int [.bl b] = some (.v (.int (if b then 1 else 0))) := rfl
@[simp] theorem q_intI (i : Int) : primD S .int [.int i] = some (.v (.int i)) := rfl
theorem strsOf_map (zs : List Str) : strsOf (zs.map .str) = some zs := by
  induction zs with
  | nil => rfl
  | cons z r ih => simp [strsOf, ih]
theorem intsOf_map (zs : List Int) : intsOf (zs.map .int) = some zs := by
  induction zs with
  | nil => rfl
  | cons z r ih => simp [intsOf, ih]
theorem boolsOf_map (zs : List Bool) : boolsOf (zs.map .bl) = some zs := by
  induction zs with
  | nil => rfl
  | cons z r ih => simp [boolsOf, ih]
@[simp] theorem q_all (bs : List Bool) : primD S .all [.lst (bs.map .bl)] = some (.v (.bl (bs.all id))) := by simp [primD, p_all, lstD, boolsOf_map]
@[simp] theorem q_any (bs : List Bool) : primD S .any [.lst (bs.map .bl)] = some (.v (.bl (bs.any id))) := by simp [primD, p_any, lstD, boolsOf_map]
@[simp] theorem q_sum (ns : List Int) : primD S .sum [.lst (ns.map .int)] = some (.v (.int ns.sum)) := by simp [primD, p_sum, lstD, intsOf_map]
theorem q_index (zs : List Str) (z : Str) : primD S .index [.tup (zs.map .str), .str z] = (zs.findIdx? fun y => decide (y = z)).map fun (n : Nat) => .v (.int (n : Int)) := by simp [primD, p_index, strsOf_map]
@[simp] theorem own_index (xs : List D) : ownOk S .index (.tup xs) = true := rfl
@[simp] theorem own_join (z : Str) : ownOk S .join (.str z) = true := rfl
@[simp] theorem own_split (z : Str) : ownOk S .split (.str z) = true := rfl
@[simp] theorem own_part (z : Str) : ownOk S .partition (.str z) = true := rfl
theorem q_join (z : Str) (zs : List Str) (h : (zs.map fun z => z.length).sum + zs.length * z.length ≤ 16777216) : primD S .join [.str z, .lst (zs.map .str)] = some (.v (.str (Txt.join z zs))) := by
  simp only [primD, p_join, seqD, lstD, Option.bind_some, strsOf_map, if_pos h]
theorem in_ints (k : Int) (ks : List Int) : cmpD S .In (.int k) (.tup (ks.map .int)) = some (decide (k ∈ ks)) := by
  show inD S (.int k) (.tup (ks.map .int)) = _
  have h : flatD (.int k) = true ∧ (ks.map D.int).all flatD = true := ⟨rfl, by simp [flatD]⟩
  simp only [inD, seqD, if_pos h]
  congr 1
  induction ks with
  | nil => rfl
  | cons a r ih =>
    have h' : flatD (.int k) = true ∧ (r.map D.int).all flatD = true := ⟨rfl, by simp [flatD]⟩
    rw [List.map_cons, List.any_cons, ih h']
    by_cases e : a = k
    · simp [eqF, e]
    · have e2 : k ≠ a := fun z => e z.symm
      simp [eqF, e, e2]
theorem nin_ints (k : Int) (ks : List Int) : cmpD S .NotIn (.int k) (.tup (ks.map .int)) = some (!decide (k ∈ ks)) := by
  have := in_ints S k ks
  show (inD S (.int k) (.tup (ks.map .int))).map (!·) = _
  rw [show inD S (.int k) (.tup (ks.map .int)) = _ from this]; rfl
theorem in_strsL (k : Str) (ks : List Str) : cmpD S .In (.str k) (.lst (ks.map .str)) = some (decide (k ∈ ks)) := by
  show inD S (.str k) (.lst (ks.map .str)) = _
  have h : flatD (.str k) = true ∧ (ks.map D.str).all flatD = true := ⟨rfl, by simp [flatD]⟩
  simp only [inD, seqD, lstD, if_pos h]
  congr 1
  induction ks with
  | nil => rfl
  | cons a r ih =>
    have h' : flatD (.str k) = true ∧ (r.map D.str).all flatD = true := ⟨rfl, by simp [flatD]⟩
    rw [List.map_cons, List.any_cons, ih h']
    by_cases e : a = k
    · simp [eqF, e]
    · have e2 : k ≠ a := fun z => e z.symm
      simp [eqF, e, e2]
theorem nin_strsL (k : Str) (ks : List Str) : cmpD S .NotIn (.str k) (.lst (ks.map .str)) = some (!decide (k ∈ ks)) := by
  have := in_strsL S k ks
  show (inD S (.str k) (.lst (ks.map .str))).map (!·) = _
  rw [show inD S (.str k) (.lst (ks.map .str)) = _ from this]; rfl
/-! ### loops -/
theorem for_inv {α : Type} {tg : Tg} {fb : Env → Sto → Res Fl} {ks : List Nat} {st : Sto → Bool} (e : α → D) (J : List α → Env → Sto → Prop) : ∀ (as pre : List α) (ρ : Env) (S : Sto), J pre ρ S →
    (∀ pre' a post ρ S, pre ++ as = pre' ++ a :: post → J pre' ρ S → ∃ ρ1 ρ2 S2, bindT tg (e a) ρ = some ρ1 ∧ fb ρ1 S = .ok .next ρ2 S2 ∧ st S2 = true ∧ J (pre' ++ [a]) (kill ks ρ2) S2) →
    ∃ ρ' S', forLoop tg fb ks st (as.map e) ρ S = .ok .next ρ' S' ∧ J (pre ++ as) ρ' S'
  | [], pre, ρ, S, h0, _ => ⟨ρ, S, rfl, by rw [List.append_nil]; exact h0⟩
  | a :: as, pre, ρ, S, h0, h => by
    obtain ⟨ρ1, ρ2, S2, h1, h2, h3, h4⟩ := h pre a as ρ S rfl h0
    obtain ⟨ρ', S', e1, e2⟩ := for_inv e J as (pre ++ [a]) (kill ks ρ2) S2 h4 (fun pre' b post ρ S hp hj => h pre' b post ρ S (by rw [← hp]; simp) hj)
    refine ⟨ρ', S', ?_, by simpa using e2⟩
    rw [List.map_cons, for_1 (ρ := ρ) (S := S) h1 h2 h3]
    exact e1
theorem for_fold {α σ : Type} {tg : Tg} {fb : Env → Sto → Res Fl} {ks : List Nat} {st : Sto → Bool} {S : Sto} (e : α → D) (enc : σ → Env) (f : σ → α → σ) (I : σ → Prop) (hst : st S = true) : ∀ (as : List α) (s : σ), I s →
    (∀ s a, I s → a ∈ as → ∃ ρ1 ρ2, bindT tg (e a) (enc s) = some ρ1 ∧ fb ρ1 S = .ok .next ρ2 S ∧ kill ks ρ2 = enc (f s a) ∧ I (f s a)) →
    forLoop tg fb ks st (as.map e) (enc s) S = .ok .next (enc (as.foldl f s)) S ∧ I (as.foldl f s)
  | [], s, h0, _ => ⟨rfl, h0⟩
  | a :: as, s, h0, h => by
    obtain ⟨ρ1, ρ2, h1, h2, h3, h4⟩ := h s a h0 (by simp)
    obtain ⟨q1, q2⟩ := for_fold e enc f I hst as (f s a) h4 fun s b hs hb => h s b hs (by simp [hb])
    refine ⟨?_, q2⟩
    rw [List.map_cons, for_1 h1 h2 hst, h3]
    exact q1
/-- .. the store stays -/
theorem for_invP {α : Type} {tg : Tg} {fb : Env → Sto → Res Fl} {ks : List Nat} {st : Sto → Bool} {S : Sto} (hst : st S = true) (e : α → D) (J : List α → Env → Prop) (as : List α) (ρ : Env) (h0 : J [] ρ)
    (h : ∀ pre a post ρ, as = pre ++ a :: post → J pre ρ → ∃ ρ1 ρ2, bindT tg (e a) ρ = some ρ1 ∧ fb ρ1 S = .ok .next ρ2 S ∧ J (pre ++ [a]) (kill ks ρ2)) : ∃ ρ', forLoop tg fb ks st (as.map e) ρ S = .ok .next ρ' S ∧ J as ρ' := by
  obtain ⟨ρ', S', e1, rfl, e2⟩ := for_inv (tg := tg) (fb := fb) (ks := ks) (st := st) e (fun pre ρ S' => S = S' ∧ J pre ρ) as [] ρ S ⟨rfl, h0⟩ (fun pre a post ρ S' hp hj => by
    obtain ⟨rfl, hj⟩ := hj
    obtain ⟨ρ1, ρ2, h1, h2, h3⟩ := h pre a post ρ (by simpa using hp) hj
    exact ⟨ρ1, ρ2, S, h1, h2, hst, rfl, h3⟩)
  exact ⟨ρ', e1, by simpa using e2⟩
/-- .. each turn goes on or all ends -/
theorem for_ret {α : Type} {tg : Tg} {fb : Env → Sto → Res Fl} {ks : List Nat} {st : Sto → Bool} (e : α → D) (J : List α → Env → Sto → Prop) (Q : R → Env → Sto → Prop) : ∀ (as pre : List α) (ρ : Env) (S : Sto), J pre ρ S →
    (∀ pre' a post ρ S, pre ++ as = pre' ++ a :: post → J pre' ρ S → ∃ ρ1, bindT tg (e a) ρ = some ρ1 ∧ ((∃ ρ2 S2, fb ρ1 S = .ok .next ρ2 S2 ∧ st S2 = true ∧ J (pre' ++ [a]) (kill ks ρ2) S2) ∨ ∃ r ρ2 S2, fb ρ1 S = .ok (.ret r) ρ2 S2 ∧ Q r ρ2 S2)) →
    (∃ ρ' S', forLoop tg fb ks st (as.map e) ρ S = .ok .next ρ' S' ∧ J (pre ++ as) ρ' S') ∨ ∃ r ρ' S', forLoop tg fb ks st (as.map e) ρ S = .ok (.ret r) ρ' S' ∧ Q r ρ' S'
  | [], pre, ρ, S, h0, _ => .inl ⟨ρ, S, rfl, by rw [List.append_nil]; exact h0⟩
  | a :: as, pre, ρ, S, h0, h => by
    obtain ⟨ρ1, h1, h2⟩ := h pre a as ρ S rfl h0
    rcases h2 with ⟨ρ2, S2, h2, h3, h4⟩ | ⟨r, ρ2, S2, h2, h3⟩
    · have ih := for_ret e J Q as (pre ++ [a]) (kill ks ρ2) S2 h4 (fun pre' b post ρ S hp hj => h pre' b post ρ S (by rw [← hp]; simp) hj)
      rw [List.map_cons, for_1 (ρ := ρ) (S := S) h1 h2 h3]
      simpa using ih
    · refine .inr ⟨r, ρ2, S2, ?_, h3⟩
      rw [List.map_cons]
      simp only [forLoop, h1, h2]
/-! ### comprehensions -/
theorem back1 {i : Nat} {x : Slot} (h : i < ρ.length) : back [i] ρ (ρ.set i x) = ρ := by
  simp only [back, List.set_set]
  apply List.ext_getElem?
  intro j
  by_cases e : i = j
  · subst e
    rw [List.getElem?_set_self h, List.getD_eq_getElem?_getD, List.getElem?_eq_getElem h]; rfl
  · rw [List.getElem?_set_ne e]
theorem kill1 (i : Nat) (x : Slot) : kill [i] (ρ.set i x) = ρ.set i .no := by simp [kill]
theorem comp_1 {α : Type} {i : Nat} (hi : i < ρ.length) {ft : Env → Sto → Res Bool} {fe : Env → Sto → Res D} {st : Sto → Bool} (hst : st S = true) (e g : α → D) (t : α → Bool) : ∀ (as : List α) (acc : List D) (ρ' : Env), kill [i] ρ' = ρ.set i .no → acc.length + as.length ≤ sizeLine →
    (∀ a ∈ as, ft (ρ.set i (.v (e a))) S = .ok (t a) (ρ.set i (.v (e a))) S) → (∀ a ∈ as, t a = true → fe (ρ.set i (.v (e a))) S = .ok (g a) (ρ.set i (.v (e a))) S) → (ρ' = ρ ∨ ∃ x, ρ' = ρ.set i x) →
    ∃ ρ2, compLoop (.nm i) [i] ft fe st (as.map e) acc ρ' S = .ok (acc ++ (as.filter t).map g) ρ2 S ∧ (ρ2 = ρ ∨ ∃ x, ρ2 = ρ.set i x)
  | [], acc, ρ', _, _, _, _, h => ⟨ρ', by simp [compLoop], h⟩
  | a :: as, acc, ρ', h1, h2, h3, h4, h5 => by
    have hb : bindT (.nm i) (e a) (kill [i] ρ') = some (ρ.set i (.v (e a))) := by
      rw [h1, bT_nm, if_pos (by rw [List.length_set]; exact hi), List.set_set]
    have t1 := h3 a (by simp)
    simp only [List.length_cons] at h2
    rw [List.map_cons]
    cases ht : t a with
    | false =>
      obtain ⟨ρ2, q1, q2⟩ := comp_1 hi hst e g t as acc (ρ.set i (.v (e a))) (kill1 ρ i _) (by omega) (fun b hb => h3 b (by simp [hb])) (fun b hb => h4 b (by simp [hb])) (.inr ⟨_, rfl⟩)
      refine ⟨ρ2, ?_, q2⟩
      rw [compLoop]
      simp only [hb, t1, ht, hst, if_true]
      rw [q1]
      simp [List.filter_cons, ht]
    | true =>
      have t2 := h4 a (by simp) ht
      obtain ⟨ρ2, q1, q2⟩ := comp_1 hi hst e g t as (acc ++ [g a]) (ρ.set i (.v (e a))) (kill1 ρ i _) (by simp; omega) (fun b hb => h3 b (by simp [hb])) (fun b hb => h4 b (by simp [hb])) (.inr ⟨_, rfl⟩)
      refine ⟨ρ2, ?_, q2⟩
      have hz : acc.length < sizeLine ∧ st S = true := ⟨by omega, hst⟩
      rw [compLoop]
      simp only [hb, t1, ht, t2, if_pos hz]
      rw [q1]
      simp [List.filter_cons, ht]
theorem lc_filter0 {α : Type} {i : Nat} {elt c : E} {k : Ik} {its : List E} {ds : List D} {ρ0 : Env} (e g : α → D) (t : α → Bool) (as : List α) (hi : ρ[i]? = some .no) (h1 : evEs P cf cm its ρ0 S = .ok ds ρ S) (h2 : itemsD S k ds = some (as.map e)) (hs : stays S ds S = true) (hz : as.length ≤ sizeLine)
    (hc : ∀ a ∈ as, (pk c (evE P cf cm c) (ρ.set i (.v (e a))) S).bind (fun x ρ S => .of (truthD S x) ρ S) = .ok (t a) (ρ.set i (.v (e a))) S) (h : ∀ a ∈ as, t a = true → ∃ r, evE P cf cm elt (ρ.set i (.v (e a))) S = .ok r (ρ.set i (.v (e a))) S ∧ r.d = g a) :
    evE P cf cm (.lc elt (.nm i) k its [c] [i]) ρ0 S = .ok (.ol ((as.filter t).map g)) ρ S := by
  have hl : i < ρ.length := (List.getElem?_eq_some_iff.mp hi).1
  have hno : noOwn [i] ρ = true := by simp [noOwn, List.getD_eq_getElem?_getD, hi, Slot.own]
  obtain ⟨ρ2, q1, q2⟩ := comp_1 ρ S hl (ft := evC P cf cm [c]) (fe := elR P cf cm elt) (st := stays S ds) hs e g t as [] ρ rfl (by simpa using hz) (fun a ha => by rw [xC_1]; exact hc a ha) (fun a ha ht => by
    obtain ⟨r, e1, e2⟩ := h a ha ht
    rw [elR_eq, e1]
    show Res.ok r.d _ _ = _
    rw [e2]) (.inl rfl)
  rw [xE_lc]
  rw [h1, b_ok, h2, b_of, b_ok]
  have ok : lcOk [i] (.nm i) ds ρ S = true := by simp [lcOk, hno, hs, tgIx]
  rw [if_pos ok, b_of, b_ok, q1, List.nil_append]
  show Res.ok _ (back [i] ρ ρ2) S = _
  rcases q2 with rfl | ⟨x, rfl⟩
  · have := back1 ρ2 (x := ρ2.getD i .no) hl
    simp only [back] at this ⊢
    rw [List.set_set] at this
    rw [this]
  · rw [back1 ρ hl]
theorem lc_filter {α : Type} {i : Nat} {elt c : E} {k : Ik} {its : List E} {ds : List D} (e g : α → D) (t : α → Bool) (as : List α) (hi : ρ[i]? = some .no) (h1 : evEs P cf cm its ρ S = .ok ds ρ S) (h2 : itemsD S k ds = some (as.map e)) (hs : stays S ds S = true) (hz : as.length ≤ sizeLine)
    (hc : ∀ a ∈ as, (pk c (evE P cf cm c) (ρ.set i (.v (e a))) S).bind (fun x ρ S => .of (truthD S x) ρ S) = .ok (t a) (ρ.set i (.v (e a))) S) (h : ∀ a ∈ as, t a = true → ∃ r, evE P cf cm elt (ρ.set i (.v (e a))) S = .ok r (ρ.set i (.v (e a))) S ∧ r.d = g a) :
    evE P cf cm (.lc elt (.nm i) k its [c] [i]) ρ S = .ok (.ol ((as.filter t).map g)) ρ S := lc_filter0 P cf cm ρ S e g t as hi h1 h2 hs hz hc h
theorem lc_map0 {α : Type} {i : Nat} {elt : E} {k : Ik} {its : List E} {ds : List D} {ρ0 : Env} (e g : α → D) (as : List α) (hi : ρ[i]? = some .no) (h1 : evEs P cf cm its ρ0 S = .ok ds ρ S) (h2 : itemsD S k ds = some (as.map e)) (hs : stays S ds S = true) (hz : as.length ≤ sizeLine)
    (h : ∀ a ∈ as, ∃ r, evE P cf cm elt (ρ.set i (.v (e a))) S = .ok r (ρ.set i (.v (e a))) S ∧ r.d = g a) :
    evE P cf cm (.lc elt (.nm i) k its [] [i]) ρ0 S = .ok (.ol (as.map g)) ρ S := by
  have hl : i < ρ.length := (List.getElem?_eq_some_iff.mp hi).1
  have hno : noOwn [i] ρ = true := by simp [noOwn, List.getD_eq_getElem?_getD, hi, Slot.own]
  obtain ⟨ρ2, q1, q2⟩ := comp_1 ρ S hl (ft := evC P cf cm []) (fe := elR P cf cm elt) (st := stays S ds) hs e g (fun _ => true) as [] ρ rfl (by simpa using hz) (fun a ha => by rw [xC_0]) (fun a ha ht => by
    obtain ⟨r, e1, e2⟩ := h a ha
    rw [elR_eq, e1]
    show Res.ok r.d _ _ = _
    rw [e2]) (.inl rfl)
  rw [xE_lc]
  rw [h1, b_ok, h2, b_of, b_ok]
  have ok : lcOk [i] (.nm i) ds ρ S = true := by simp [lcOk, hno, hs, tgIx]
  rw [if_pos ok, b_of, b_ok, q1, List.nil_append, List.filter_eq_self.mpr (fun _ _ => rfl)]
  show Res.ok _ (back [i] ρ ρ2) S = _
  rcases q2 with rfl | ⟨x, rfl⟩
  · have := back1 ρ2 (x := ρ2.getD i .no) hl
    simp only [back] at this ⊢
    rw [List.set_set] at this
    rw [this]
  · rw [back1 ρ hl]
theorem lc_map {α : Type} {i : Nat} {elt : E} {k : Ik} {its : List E} {ds : List D} (e g : α → D) (as : List α) (hi : ρ[i]? = some .no) (h1 : evEs P cf cm its ρ S = .ok ds ρ S) (h2 : itemsD S k ds = some (as.map e)) (hs : stays S ds S = true) (hz : as.length ≤ sizeLine)
    (h : ∀ a ∈ as, ∃ r, evE P cf cm elt (ρ.set i (.v (e a))) S = .ok r (ρ.set i (.v (e a))) S ∧ r.d = g a) : evE P cf cm (.lc elt (.nm i) k its [] [i]) ρ S = .ok (.ol (as.map g)) ρ S := lc_map0 P cf cm ρ S e g as hi h1 h2 hs hz h
theorem it_range1 (n : Nat) (h : n < 2 ^ 62) : itemsD S .range1 [.int n] = some ((List.range n).map fun (k : Nat) => .int (k : Int)) := by
  have : -(2 ^ 62) ≤ (n : Int) ∧ (n : Int) < 2 ^ 62 := by omega
  simp only [itemsD, if_pos this, Int.toNat_natCast]
  simp [rangeI]
@[simp] theorem it_seqL (xs : List D) : itemsD S .seq [.lst xs] = some xs := rfl
@[simp] theorem it_seqT (xs : List D) : itemsD S .seq [.tup xs] = some xs := rfl
end
end Iv
/-! Pt0: towns drawn: cells, rows, names -/
namespace Iv
open PySem
variable {P : Pg}
theorem le_size {n : Nat} (h : n ≤ 1000) : n ≤ sizeLine := by rw [sizeLine_eq]; omega
theorem lt_size {n : Nat} (h : n ≤ 1000) : n < sizeLine := by rw [sizeLine_eq]; omega
theorem cell_at_ok {i : Nat} (hP : P.fns[i]? = some Sh.f__law_cell_at) (n : Nat) (ns : List Int) (k : Nat) (S : Sto) : callF P (n + 1) i [.lst (ns.map .int), .int k] S = .ok (.v (.int (ns.getD k 0))) S := by
  rw [run_def hP rfl]
  by_cases h : k < ns.length
  · have h1 : ((k : Int) < ((ns.length : Nat) : Int)) := by omega
    have h2 : L2.atI (ns.map D.int) (k : Int) = some (.int (ns.getD k 0)) := by
      rw [atI_nat _ (by omega)]
      simp [h, List.getD_eq_getElem?_getD]
    simp [Sh.f__law_cell_at, h1, h2]
  · have h1 : ¬ ((k : Int) < ((ns.length : Nat) : Int)) := by omega
    have h2 : ns.getD k 0 = 0 := by simp [List.getD_eq_getElem?_getD, h]
    simp [Sh.f__law_cell_at, h1]
    simpa [List.getD_eq_getElem?_getD] using h2.symm
/-- a row's numbers -/
def RowOk (m : Nat) (rs : List Int) : Prop := rs.length = m ∧ ∀ x ∈ rs, 0 ≤ x ∧ x < 1000000
theorem row_turn1 {n : Nat} {S : Sto} {c number kk n1 x : Int} {m : D} {fs : List D} (hc2 : (if c < 0 then -c else c) < 1000000000000000000) (hn : (number * 48271 + 7 * kk + 11).fmod 2147483647 = n1) (hx : (((n1 ^ 5).fmod 2147483629).fdiv 3).fmod 1000000 = x) (p5 : powOk n1 5 = true) (hz : fs.length < sizeLine) :
    evSs P (callF P n) (makeF P n) Sh.b1__law_row [.v (.int c), .v m, .ol fs, .v (.int number), .v (.int kk)] S = .ok .next [.v (.int c), .v m, .ol (fs ++ [.int x]), .v (.int n1), .v (.int kk)] S := by
  have pw : powOk 10 18 = true := by decide
  have pw6 : powOk 10 6 = true := by decide
  have m1 : mulOk number 48271 = true := mulOk_r (by decide)
  have m2 : mulOk 7 kk = true := mulOk_l (by decide)
  simp [Sh.b1__law_row, pw, hc2, m1, m2, hn, p5, pw6, hz, hx]
theorem row_turn2 {n : Nat} {S : Sto} {c number kk : Int} {m : D} {fs : List D} (hc2 : ¬ (if c < 0 then -c else c) < 1000000000000000000) (hz : fs.length < sizeLine) :
    evSs P (callF P n) (makeF P n) Sh.b1__law_row [.v (.int c), .v m, .ol fs, .v (.int number), .v (.int kk)] S = .ok .next [.v (.int c), .v m, .ol (fs ++ [.int (number.fmod 1000000)]), .v (.int (number.fdiv 1000000)), .v (.int kk)] S := by
  have pw : powOk 10 18 = true := by decide
  have pw6 : powOk 10 6 = true := by decide
  simp [Sh.b1__law_row, pw, hc2, pw6, hz]
/-- what holds of a row's number between the turns -/
def RowN (c number : Int) : Prop := (if c < 0 then -c else c) < 1000000000000000000 → 0 ≤ number ∧ number < 2147483647
theorem row_turn {n : Nat} {S : Sto} {c number : Int} (kk : Int) {m : D} {fs : List D} (h : RowN c number) (hz : fs.length < sizeLine) : ∃ x n', 0 ≤ x ∧ x < 1000000 ∧ RowN c n' ∧
    evSs P (callF P n) (makeF P n) Sh.b1__law_row [.v (.int c), .v m, .ol fs, .v (.int number), .v (.int kk)] S = .ok .next [.v (.int c), .v m, .ol (fs ++ [.int x]), .v (.int n'), .v (.int kk)] S := by
  by_cases hc2 : (if c < 0 then -c else c) < 1000000000000000000
  · have b1 : 0 ≤ (number * 48271 + 7 * kk + 11).fmod 2147483647 := Int.fmod_nonneg_of_pos _ (by decide)
    have b2 : (number * 48271 + 7 * kk + 11).fmod 2147483647 < 2147483647 := Int.fmod_lt_of_pos _ (by decide)
    refine ⟨_, _, ?_, ?_, ?_, row_turn1 hc2 rfl rfl (by simp [powOk]; omega) hz⟩
    · exact Int.fmod_nonneg_of_pos _ (by decide)
    · exact Int.fmod_lt_of_pos _ (by decide)
    · exact fun _ => ⟨b1, b2⟩
  · exact ⟨_, _, Int.fmod_nonneg_of_pos _ (by decide), Int.fmod_lt_of_pos _ (by decide), fun z => absurd z hc2, row_turn2 hc2 hz⟩
theorem row_loop {n : Nat} {S : Sto} {c c0 : Int} {md : D} (m : Nat) (hm : m ≤ 1000) (h0 : RowN c c0) : ∃ rs number, RowOk m rs ∧ forLoop (.nm 4) (evSs P (callF P n) (makeF P n) Sh.b1__law_row) [4] (stays S [.int m]) ((List.range m).map fun k : Nat => D.int (k : Int)) [.v (.int c), .v md, .ol [], .v (.int c0), .no] S =
      .ok .next [.v (.int c), .v md, .ol (rs.map .int), .v (.int number), .no] S := by
  obtain ⟨ρ', e1, found, number, rfl, q1, q2, q3⟩ := for_invP (tg := .nm 4) (fb := evSs P (callF P n) (makeF P n) Sh.b1__law_row) (ks := [4]) (st := stays S [.int m]) (S := S) rfl (fun k : Nat => D.int (k : Int))
    (fun pre ρ => ∃ (found : List Int) (number : Int), ρ = [.v (.int c), .v md, .ol (found.map .int), .v (.int number), .no] ∧ found.length = pre.length ∧ (∀ x ∈ found, 0 ≤ x ∧ x < 1000000) ∧ RowN c number)
    (List.range m) [.v (.int c), .v md, .ol [], .v (.int c0), .no] ⟨[], _, rfl, rfl, by simp, h0⟩ (by
      rintro pre k post ρ hp ⟨found, number, rfl, q1, q2, q3⟩
      have hk : pre.length < m := by
        have := congrArg List.length hp
        simp at this
        omega
      obtain ⟨x, n', x1, x2, h', e⟩ := row_turn (P := P) (n := n) (S := S) (k : Int) (m := md) (fs := found.map D.int) q3 (by rw [List.length_map, sizeLine_eq]; omega)
      refine ⟨[.v (.int c), .v md, .ol (found.map .int), .v (.int number), .v (.int k)], [.v (.int c), .v md, .ol (found.map .int ++ [.int x]), .v (.int n'), .v (.int k)], by simp, e, found ++ [x], n', by simp [kill], by simp [q1], ?_, h'⟩
      intro y hy
      rcases List.mem_append.mp hy with hy | hy
      · exact q2 y hy
      · simp only [List.mem_singleton] at hy
        subst hy
        exact ⟨x1, x2⟩)
  exact ⟨found, number, ⟨by simpa using q1, q2⟩, e1⟩
theorem row_it (m : Nat) (S : Sto) (hm : m ≤ 1000) : itemsD S .range1 [.int m] = some ((List.range m).map fun (k : Nat) => .int (k : Int)) := it_range1 S m (by omega)
theorem row_f1 {n : Nat} {c : Int} {mm : Int} {S : Sto} {its rs : List D} {number : Int} (hc : (if c < 0 then -c else c) < 1000000000000000000) (it : itemsD S .range1 [.int mm] = some its)
  (h2 : forLoop (.nm 4) (evSs P (callF P n) (makeF P n) Sh.b1__law_row) [4] (stays S [.int mm]) its [.v (.int c), .v (.int mm), .ol [], .v (.int (c.fmod 2147483629)), .no] S =
      .ok .next [.v (.int c), .v (.int mm), .ol rs, .v (.int number), .no] S) : finR (evSs P (callF P n) (makeF P n) Sh.f__law_row.body [.v (.int c), .v (.int mm), .no, .no, .no] S) = .ok (.ol rs) S := by
  have pw : powOk 10 18 = true := by decide
  simp [Sh.f__law_row, pw, hc, it, kill]
  rw [h2]
  simp
theorem row_f2 {n : Nat} {c : Int} {mm : Int} {S : Sto} {its rs : List D} {number : Int} (hc : ¬ (if c < 0 then -c else c) < 1000000000000000000) (it : itemsD S .range1 [.int mm] = some its)
  (h2 : forLoop (.nm 4) (evSs P (callF P n) (makeF P n) Sh.b1__law_row) [4] (stays S [.int mm]) its [.v (.int c), .v (.int mm), .ol [], .v (.int c), .no] S =
      .ok .next [.v (.int c), .v (.int mm), .ol rs, .v (.int number), .no] S) : finR (evSs P (callF P n) (makeF P n) Sh.f__law_row.body [.v (.int c), .v (.int mm), .no, .no, .no] S) = .ok (.ol rs) S := by
  have pw : powOk 10 18 = true := by decide
  simp [Sh.f__law_row, pw, hc, it, kill]
  rw [h2]
  simp
theorem rowN0 (c : Int) : RowN c (c.fmod 2147483629) := fun _ => by
  have h1 : 0 ≤ c.fmod 2147483629 := Int.fmod_nonneg_of_pos _ (by decide)
  have h2 : c.fmod 2147483629 < 2147483629 := Int.fmod_lt_of_pos _ (by decide)
  omega
theorem row_ok {i : Nat} (hP : P.fns[i]? = some Sh.f__law_row) (n : Nat) (c : Int) (m : Nat) (S : Sto) (hm : m ≤ 1000) : ∃ rs, RowOk m rs ∧ callF P (n + 1) i [.int c, .int m] S = .ok (.ol (rs.map .int)) S := by
  rw [run_def hP rfl]
  by_cases hc : (if c < 0 then -c else c) < 1000000000000000000
  · obtain ⟨rs, number, h1, h2⟩ := row_loop (P := P) (n := n) (S := S) (c := c) (md := .int m) m hm (rowN0 c)
    exact ⟨rs, h1, row_f1 hc (row_it m S hm) h2⟩
  · obtain ⟨rs, number, h1, h2⟩ := row_loop (P := P) (n := n) (S := S) (c := c) (c0 := c) (md := .int m) m hm fun z => absurd z hc
    exact ⟨rs, h1, row_f2 hc (row_it m S hm) h2⟩
end Iv
/-! Pt1: towns drawn: names -/
namespace Iv
open PySem
variable {P : Pg}
def signL : List Nat := [97, 98, 99, 100, 101, 102, 103, 104, 105, 106, 107, 108, 109, 110, 111, 112, 113, 114, 115, 116, 117, 118, 119, 120, 121, 122, 48, 49, 50, 51, 52, 53, 54, 55, 56, 57]
abbrev signS : Str := PySem.Str.ofString "abcdefghijklmnopqrstuvwxyz0123456789"
theorem signS_eq : signS.cps.toList = signL := by decide +kernel
theorem signS_len : signS.length = 36 := by decide +kernel
theorem strL_app (a b : List Nat) : strL a ++ strL b = strL (a ++ b) := by
  show Str.append (strL a) (strL b) = _
  simp [Str.append, strL]
theorem one_strL (c : Nat) : one c = strL [c] := rfl
theorem strL_len (a : List Nat) : (strL a).length = a.length := by simp [strL, Str.length]
theorem strL_inj {a b : List Nat} (h : strL a = strL b) : a = b := by
  have := congrArg (fun z : Str => z.cps.toList) h
  simpa [strL] using this
theorem ix_sign (S : Sto) (j : Int) (h : 0 ≤ j) (h2 : j < 36) : ixD S (.str signS) (.int j) = some (.str (strL [signL.getD j.toNat 0])) := by
  have e : L2.atI signS.cps.toList j = some (signL.getD j.toNat 0) := by
    rw [signS_eq, atI_nat _ h, List.getD_eq_getElem?_getD, List.getElem?_eq_getElem (by simp [signL]; omega)]; rfl
  rw [ix_str S (by rw [signS_len, sizeLine_eq]; omega) e]; rfl
theorem join_strL : ∀ ls : List (List Nat), Txt.join (PySem.Str.ofString "") (ls.map strL) = strL ls.flatten
  | ls => by
    have h1 : Txt.join (PySem.Str.ofString "") (ls.map strL) = Str.join (PySem.Str.ofString "") (ls.map strL) := StrLaws.glued_eq_join _ _
    have h2 : ∀ ls : List (List Nat), TL.joinL [] ls = ls.flatten := fun ls => by
      induction ls with
      | nil => rfl
      | cons a r ih =>
        cases r with
        | nil => simp [TL.joinL]
        | cons b r => simp only [TL.joinL, List.nil_append, ih, List.flatten_cons]
    have h3 := TL.tl_join (PySem.Str.ofString "") (ls.map strL)
    have h4 : TL.tl (PySem.Str.ofString "") = [] := by decide
    rw [h4, h2, List.map_map] at h3
    have h5 : (TL.tl ∘ strL) = id := by funext l; simp [strL]
    rw [h5, List.map_id] at h3
    rw [h1, ← strL_toList (Str.join _ _)]
    exact congrArg strL h3
/-! ### names -/
/-- a name by its sign -/
def nameL (w : List Nat) (at' c m : Nat) : List Nat := (w.take at' ++ c :: w.drop (at' + 1)).take m
theorem nameL_at {w : List Nat} {a c m : Nat} (h : a < w.length) (hm : a < m) : (nameL w a c m)[a]? = some c := by
  unfold nameL
  rw [List.getElem?_take_of_lt hm, List.getElem?_append_right (by simp; omega)]
  simp [Nat.min_eq_left (Nat.le_of_lt h)]
theorem signL_nodup : signL.Nodup := by decide
theorem sgn_inj {i j : Nat} (hi : i < 36) (hj : j < 36) (h : signL.getD i 0 = signL.getD j 0) : i = j := by
  rw [List.getD_eq_getElem?_getD, List.getD_eq_getElem?_getD, List.getElem?_eq_getElem (by simp [signL]; omega), List.getElem?_eq_getElem (by simp [signL]; omega)] at h
  exact (List.getElem_inj signL_nodup).mp h
theorem step_inj {r k j s w : Nat} (hs : s = 1 ∨ s = 5 ∨ s = 7 ∨ s = 11) (hw : w = 26 ∨ w = 36) (hk : k < 20) (hj : j < 20) (h : (r + k * s) % w = (r + j * s) % w) : k = j := by
  rcases hs with rfl | rfl | rfl | rfl <;> rcases hw with rfl | rfl <;> omega
/-- what a name drawn is -/
def NameOk (x : Str) : Prop := 1 ≤ x.length ∧ x.length ≤ 8 ∧ ∀ c ∈ x.cps.toList, c ∈ signL
theorem nodup_map_range {α : Type} [DecidableEq α] (f : Nat → α) (m : Nat) (h : ∀ k j, k < m → j < m → f k = f j → k = j) : ((List.range m).map f).Nodup := by
  unfold List.Nodup
  rw [List.pairwise_map]
  refine List.Pairwise.imp_of_mem (R := (· < ·)) ?_ List.pairwise_lt_range
  intro a b ha hb hab z
  have := h a b (List.mem_range.mp ha) (List.mem_range.mp hb) z
  omega
theorem nodup_set {α : Type} {x : α} : ∀ {l : List α} (i : Nat), l.Nodup → x ∉ l → (l.set i x).Nodup
  | [], _, h, _ => h
  | a :: l, 0, h, hx => by
    simp only [List.set_cons_zero, List.nodup_cons] at h ⊢
    exact ⟨fun z => hx (by simp [z]), h.2⟩
  | a :: l, i + 1, h, hx => by
    simp only [List.set_cons_succ, List.nodup_cons] at h ⊢
    refine ⟨fun z => ?_, nodup_set i h.2 fun z => hx (by simp [z])⟩
    rcases List.mem_or_eq_of_mem_set z with z | z
    · exact h.1 z
    · exact hx (by simp [z])
def wordsL : List Str := ["free", "to", "at", "sent", "there", "cut", "done", "off", "call", "told", "passed", "on", "open", "shut", "grade", "bare", "held"].map PySem.Str.ofString
def specials : List Str := wordsL ++ ["moved", "stands", "drives"].map PySem.Str.ofString
theorem specials_ok : ∀ x ∈ specials, 1 ≤ x.length ∧ x.length ≤ 8 ∧ ∀ c ∈ x.cps.toList, c ∈ signL := by decide +kernel
theorem q_words (S : Sto) : primD S .split [.str (PySem.Str.ofString "free to at sent there cut done off call told passed on open shut grade bare held"), .str (PySem.Str.ofString " ")] = some (.ol (wordsL.map .str)) := by
  have h : (PySem.Str.ofString " ").length ≠ 0 ∧ (PySem.Str.ofString "free to at sent there cut done off call told passed on open shut grade bare held").length + 2 ≤ sizeLine := by decide +kernel
  have e : Txt.split (PySem.Str.ofString "free to at sent there cut done off call told passed on open shut grade bare held") (PySem.Str.ofString " ") = wordsL := by decide +kernel
  simp only [primD, p_split, if_pos h, e]
/-! ### the loop -/
theorem names_turn {n : Nat} {S : Sto} {rs w : List Int} {word : List Nat} {r11 step wide lot at' size kk j m : Int} {many d8 d13 d14 : D} {fs : List D} (hr : L2.atI (rs.map D.int) 11 = some (.int r11)) (hj : (r11 + kk * step).fmod wide = j) (hw : wide ≠ 0) (j0 : 0 ≤ j) (j1 : j < 36) (hst : -(2 ^ 64) < step ∧ step < 2 ^ 64)
    (ha : 0 ≤ at') (hsa : size - at' ≠ 0) (hm : size - lot.fmod 2 * (3 * kk).fmod (size - at') = m) (hm2 : mulOk (lot.fmod 2) ((3 * kk).fmod (size - at')) = true) (m0 : 0 ≤ m) (hl : word.length ≤ 100) (hz : fs.length < sizeLine) :
    evSs P (callF P n) (makeF P n) Sh.b1__law_names [.v (.lst (rs.map .int)), .v many, .v (.str signS), .v (.int size), .v (.int at'), .v (.str (strL word)), .v (.int wide), .v (.int step), .v (.int lot), .ol fs, .v (.int kk), .no, .no, .no, .no] S =
    .ok .next [.v (.lst (rs.map .int)), .v many, .v (.str signS), .v (.int size), .v (.int at'), .v (.str (strL word)), .v (.int wide), .v (.int step), .v (.int lot), .ol (fs ++ [.str (strL (nameL word at'.toNat (signL.getD j.toNat 0) m.toNat))]), .v (.int kk), .v (.str (strL [signL.getD j.toNat 0])), .v (.str (strL (word.take at'.toNat ++ signL.getD j.toNat 0 :: word.drop (at'.toNat + 1)))), .no, .no] S := by
  have z : sizeLine = 16777216 := rfl
  have m1 : mulOk kk step = true := mulOk_r hst
  have m3 : mulOk 3 kk = true := mulOk_l (by decide)
  have l1 : (strL word).length ≤ sizeLine := by rw [strL_len]; omega
  have s1 := ix_sign S j j0 j1
  have e1 : at' + 1 = ((at'.toNat + 1 : Nat) : Int) := by omega
  have c1 : L2.cutS (strL word) none (some at') = strL (word.take at'.toNat) := by rw [cutS_hi _ ha, toList_strL]
  have c2 : L2.cutS (strL word) (some (at' + 1)) none = strL (word.drop (at'.toNat + 1)) := by rw [cutS_lo _ (by omega), toList_strL]; congr 2; omega
  have a1 : (strL (word.take at'.toNat)).length + (strL [signL.getD j.toNat 0]).length ≤ sizeLine := by rw [strL_len, strL_len, List.length_take]; simp; omega
  have a2 : (strL (word.take at'.toNat ++ [signL.getD j.toNat 0])).length + (strL (word.drop (at'.toNat + 1))).length ≤ sizeLine := by rw [strL_len, strL_len]; simp; omega
  generalize signL.getD j.toNat 0 = sg at *
  have e3 : strL (word.take at'.toNat) ++ strL [sg] ++ strL (word.drop (at'.toNat + 1)) = strL (word.take at'.toNat ++ sg :: word.drop (at'.toNat + 1)) := by rw [strL_app, strL_app]; simp
  have l2 : (strL (word.take at'.toNat ++ sg :: word.drop (at'.toNat + 1))).length ≤ sizeLine := by rw [strL_len]; simp; omega
  have c3 : L2.cutS (strL (word.take at'.toNat ++ sg :: word.drop (at'.toNat + 1))) none (some m) = strL (nameL word at'.toNat sg m.toNat) := by rw [cutS_hi _ m0, toList_strL]; rfl
  rw [← strL_app] at a2
  simp only [Sh.b1__law_names]
  rw [ss_n (ρ1 := [.v (.lst (rs.map .int)), .v many, .v (.str signS), .v (.int size), .v (.int at'), .v (.str (strL word)), .v (.int wide), .v (.int step), .v (.int lot), .ol fs, .v (.int kk), .v (.str (strL [sg])), .no, .no, .no]) (S1 := S) (by simp [hr, m1, hj, hw, s1])]
  rw [ss_n (ρ1 := [.v (.lst (rs.map .int)), .v many, .v (.str signS), .v (.int size), .v (.int at'), .v (.str (strL word)), .v (.int wide), .v (.int step), .v (.int lot), .ol fs, .v (.int kk), .v (.str (strL [sg])), .v (.str (strL (word.take at'.toNat ++ sg :: word.drop (at'.toNat + 1)))), .no, .no]) (S1 := S) (by simp [l1, c1, c2, a1, a2, e3])]
  rw [ss_n (ρ1 := [.v (.lst (rs.map .int)), .v many, .v (.str signS), .v (.int size), .v (.int at'), .v (.str (strL word)), .v (.int wide), .v (.int step), .v (.int lot), .ol (fs ++ [.str (strL (nameL word at'.toNat sg m.toNat))]), .v (.int kk), .v (.str (strL [sg])), .v (.str (strL (word.take at'.toNat ++ sg :: word.drop (at'.toNat + 1)))), .no, .no]) (S1 := S) (by simp [l2, m3, hm2, hm, hsa, c3, hz])]
  simp
end Iv
/-! Pt2: towns drawn: names, whole -/
namespace Iv
open PySem
variable {P : Pg}
theorem RowOk.at {m : Nat} {rs : List Int} (h : RowOk m rs) {k : Int} (h0 : 0 ≤ k) (h1 : k < m) : ∃ x, 0 ≤ x ∧ x < 1000000 ∧ L2.atI (rs.map D.int) k = some (.int x) := by
  have hl : k.toNat < rs.length := by rw [h.1]; omega
  refine ⟨rs[k.toNat], (h.2 _ (List.getElem_mem hl)).1, (h.2 _ (List.getElem_mem hl)).2, ?_⟩
  rw [atI_nat _ h0, List.getElem?_map, List.getElem?_eq_getElem hl]; rfl
theorem fm {a b : Int} (h : 0 < b) : 0 ≤ a.fmod b ∧ a.fmod b < b := ⟨Int.fmod_nonneg_of_pos _ h, Int.fmod_lt_of_pos _ h⟩
theorem fmod_toNat {a b : Int} (ha : 0 ≤ a) (hb : 0 ≤ b) : (a.fmod b).toNat = a.toNat % b.toNat := by
  obtain ⟨x, rfl⟩ := Int.eq_ofNat_of_zero_le ha
  obtain ⟨y, rfl⟩ := Int.eq_ofNat_of_zero_le hb
  rw [Int.fmod_eq_emod_of_nonneg _ (by omega)]
  simp only [Int.toNat_natCast]
  omega
/-! ### the word -/
theorem pick2 (a b : D) (c : Prop) [Decidable c] : L2.atI [a, b] (if c then 1 else 0) = some (if c then b else a) := by
  by_cases h : c
  · simp only [h, if_true]; rfl
  · simp only [h, if_false]; rfl
theorem iteI (a b : Int) (c : Prop) [Decidable c] : (if c then D.int a else D.int b) = D.int (if c then a else b) := by by_cases h : c <;> simp [h]
theorem word_elt {n m : Nat} {S : Sto} {rs : List Int} {x : Int} {ρ : Env} (kk : Int) (h1 : L2.atI (rs.map D.int) (2 + kk) = some (.int x)) (h0 : ρ[0]? = some (.v (.lst (rs.map .int)))) (h2 : ρ[2]? = some (.v (.str signS))) (h3 : ρ[10]? = some (.v (.int kk))) :
    evE P (callF P n) (makeF P n) Sh.e1__law_names ρ S = .ok (.v (.str (strL [signL.getD (x.fmod (if kk = 0 then 26 else 36)).toNat 0]))) ρ S := by
  have p := pick2 (.int 36) (.int 26) (kk = 0)
  rw [iteI] at p
  have hb : (0 : Int) < (if kk = 0 then 26 else 36) := by split <;> decide
  have hw : (if kk = 0 then (26 : Int) else 36) ≠ 0 := by omega
  obtain ⟨q1, q2⟩ := fm (a := x) hb
  have q3 : x.fmod (if kk = 0 then 26 else 36) < 36 := Int.lt_of_lt_of_le q2 (by split <;> decide)
  have s := ix_sign S (x.fmod (if kk = 0 then 26 else 36)) q1 q3
  have z2 : (2 : Nat) ≤ sizeLine := le_size (by decide)
  generalize (if kk = 0 then (26 : Int) else 36) = w at *
  generalize signL.getD (x.fmod w).toNat 0 = sg at *
  simp [Sh.e1__law_names, h0, h2, h3, h1, p, hw, s, z2]
theorem word_ok {n m : Nat} {S : Sto} {rs : List Int} {ρ : Env} {sz : Nat} (hr : RowOk m rs) (hm : 20 ≤ m) (h8 : sz ≤ 8) (h0 : ρ[0]? = some (.v (.lst (rs.map .int)))) (h2 : ρ[2]? = some (.v (.str signS))) (h3 : ρ[3]? = some (.v (.int sz))) (h10 : ρ[10]? = some .no) :
    ∃ word : List Nat, word.length = sz ∧ (∀ c ∈ word, c ∈ signL) ∧ evE P (callF P n) (makeF P n) (.mth .join (.str (PySem.Str.ofString "")) [(.lc Sh.e1__law_names (.nm 10) .range1 [(.var 3)] [] [10])]) ρ S = .ok (.v (.str (strL word))) ρ S := by
  have key : ∀ k : Nat, k < 8 → ∃ c, c ∈ signL ∧ evE P (callF P n) (makeF P n) Sh.e1__law_names (ρ.set 10 (.v (.int k))) S = .ok (.v (.str (strL [c]))) (ρ.set 10 (.v (.int k))) S := fun k hk => by
    obtain ⟨x, x0, x1, hx⟩ := hr.at (k := 2 + (k : Int)) (by omega) (by omega)
    have hl : 10 < ρ.length := (List.getElem?_eq_some_iff.mp h10).1
    have e := word_elt (P := P) (n := n) (m := m) (S := S) (ρ := ρ.set 10 (.v (.int k))) (k : Int) hx (by rw [List.getElem?_set_ne (by decide)]; exact h0) (by rw [List.getElem?_set_ne (by decide)]; exact h2) (by rw [List.getElem?_set_self hl])
    refine ⟨_, ?_, e⟩
    have hb : (0 : Int) < (if (k : Int) = 0 then 26 else 36) := by split <;> decide
    obtain ⟨q1, q2⟩ := fm (a := x) hb
    have q3 : x.fmod (if (k : Int) = 0 then 26 else 36) < 36 := Int.lt_of_lt_of_le q2 (by split <;> decide)
    have hlen : signL.length = 36 := rfl
    rw [List.getD_eq_getElem?_getD, List.getElem?_eq_getElem (by rw [hlen]; omega)]
    exact List.getElem_mem _
  have : ∃ f : Nat → Nat, ∀ k, k < 8 → f k ∈ signL ∧ evE P (callF P n) (makeF P n) Sh.e1__law_names (ρ.set 10 (.v (.int k))) S = .ok (.v (.str (strL [f k]))) (ρ.set 10 (.v (.int k))) S :=
    ⟨fun k => if h : k < 8 then (key k h).choose else 0, fun k hk => by simp only [dif_pos hk]; exact (key k hk).choose_spec⟩
  obtain ⟨f, hf⟩ := this
  refine ⟨(List.range sz).map f, by simp, ?_, ?_⟩
  · intro c hc
    obtain ⟨k, hk, rfl⟩ := List.mem_map.mp hc
    exact (hf k (by have := List.mem_range.mp hk; omega)).1
  · have lc := lc_map P (callF P n) (makeF P n) ρ S (i := 10) (elt := Sh.e1__law_names) (k := .range1) (its := [.var 3]) (ds := [.int sz]) (fun k : Nat => D.int (k : Int)) (fun k => D.str (strL [f k])) (List.range sz) h10 (by simp [h3]) (it_range1 S sz (by omega)) rfl (by simp; exact le_size (by omega))
      fun k hk => ⟨_, (hf k (by have := List.mem_range.mp hk; omega)).2, rfl⟩
    have e1 : (List.range sz).map (fun k => D.str (strL [f k])) = (((List.range sz).map fun k => [f k]).map strL).map D.str := by simp [Function.comp_def]
    have e2 : (((List.range sz).map fun k => [f k]).map strL).length = sz := by simp
    have e3 : ((((List.range sz).map fun k => [f k]).map strL).map fun z => z.length) = (List.range sz).map fun _ => 1 := by simp [Function.comp_def, strL_len]
    have e4 : ((List.range sz).map fun _ => 1).sum = sz := by
      have : ∀ l : List Nat, (l.map fun _ => 1).sum = l.length := fun l => by induction l with | nil => rfl | cons a r ih => simp [ih]; omega
      rw [this, List.length_range]
    have e5 : (PySem.Str.ofString "").length = 0 := by decide
    have qj := q_join S (PySem.Str.ofString "") (((List.range sz).map fun k => [f k]).map strL) (by rw [e3, e4, e5]; omega)
    rw [join_strL] at qj
    have e6 : ((List.range sz).map fun k => [f k]).flatten = (List.range sz).map f := by
      have : ∀ l : List Nat, (l.map fun k => [f k]).flatten = l.map f := fun l => by induction l with | nil => rfl | cons a r ih => simp [ih]
      exact this _
    rw [e6] at qj
    rw [e1] at lc
    generalize ((List.range sz).map fun k => [f k]).map strL = zs at *
    simp only [xE_mth, pk_str, xE_str, toC, c_ok, d_v, own_join, if_true, xPs_1, pk_lc, lc, xPs_0]
    simp [lc, qj]
/-! ### all -/
theorem mem_strL {x : Str} {l : List Nat} (h : x = strL l) : x.cps.toList = l := by rw [h]; simp
theorem in_take {α : Type} {l : List α} {n : Nat} {x : α} (h : x ∈ l.take n) : x ∈ l := List.mem_of_mem_take h
theorem nameL_mem {w : List Nat} {a c m : Nat} (hw : ∀ x ∈ w, x ∈ signL) (hc : c ∈ signL) : ∀ x ∈ nameL w a c m, x ∈ signL := by
  intro x hx
  unfold nameL at hx
  have := in_take hx
  rcases List.mem_append.mp this with h | h
  · exact hw x (in_take h)
  · rcases List.mem_cons.mp h with rfl | h
    · exact hc
    · exact hw x (List.mem_of_mem_drop h)
theorem nameL_len {w : List Nat} {a c m : Nat} (h : a < w.length) (hm : m ≤ w.length) : (nameL w a c m).length = m := by
  unfold nameL
  rw [List.length_take, List.length_append, List.length_cons, List.length_take, List.length_drop]
  omega
/-- names drawn, ahead of the special one -/
theorem names_loop {n : Nat} {S : Sto} {rs : List Int} {word : List Nat} {r11 step wide lot at' size : Int} {md : D} (m : Nat) (hm : m ≤ 20) (hr : L2.atI (rs.map D.int) 11 = some (.int r11)) (r0 : 0 ≤ r11) (hst : step = 1 ∨ step = 5 ∨ step = 7 ∨ step = 11) (hw : wide = 26 ∨ wide = 36)
    (ha : 0 ≤ at') (hsa : at' < size) (h8 : size ≤ 8) (hl : (word.length : Int) = size) (hwd : ∀ c ∈ word, c ∈ signL) : ∃ names : List Str, names.length = m ∧ names.Nodup ∧ (∀ x ∈ names, NameOk x) ∧
    forLoop (.nm 10) (evSs P (callF P n) (makeF P n) Sh.b1__law_names) [10, 11, 12] (stays S [.int m]) ((List.range m).map fun k : Nat => D.int (k : Int)) [.v (.lst (rs.map .int)), .v md, .v (.str signS), .v (.int size), .v (.int at'), .v (.str (strL word)), .v (.int wide), .v (.int step), .v (.int lot), .ol [], .no, .no, .no, .no, .no] S =
    .ok .next [.v (.lst (rs.map .int)), .v md, .v (.str signS), .v (.int size), .v (.int at'), .v (.str (strL word)), .v (.int wide), .v (.int step), .v (.int lot), .ol (names.map .str), .no, .no, .no, .no, .no] S := by
  have wpos : 0 < wide := by omega
  -- the sign and the length of each
  have J : ∀ k : Nat, 0 ≤ (r11 + (k : Int) * step).fmod wide ∧ (r11 + (k : Int) * step).fmod wide < 36 := fun k => by
    obtain ⟨h1, h2⟩ := fm (a := r11 + (k : Int) * step) wpos
    omega
  have M : ∀ k : Nat, at' + 1 ≤ size - lot.fmod 2 * (3 * (k : Int)).fmod (size - at') ∧ size - lot.fmod 2 * (3 * (k : Int)).fmod (size - at') ≤ size := fun k => by
    obtain ⟨h1, h2⟩ := fm (a := 3 * (k : Int)) (b := size - at') (by omega)
    obtain ⟨h3, h4⟩ := fm (a := lot) (b := 2) (by decide)
    have : lot.fmod 2 = 0 ∨ lot.fmod 2 = 1 := by omega
    rcases this with e | e <;> rw [e] <;> omega
  let nm : Nat → List Nat := fun k => nameL word at'.toNat (signL.getD ((r11 + (k : Int) * step).fmod wide).toNat 0) (size - lot.fmod 2 * (3 * (k : Int)).fmod (size - at')).toNat
  have loop : forLoop (.nm 10) (evSs P (callF P n) (makeF P n) Sh.b1__law_names) [10, 11, 12] (stays S [.int m]) ((List.range m).map fun k : Nat => D.int (k : Int)) [.v (.lst (rs.map .int)), .v md, .v (.str signS), .v (.int size), .v (.int at'), .v (.str (strL word)), .v (.int wide), .v (.int step), .v (.int lot), .ol [], .no, .no, .no, .no, .no] S =
      .ok .next [.v (.lst (rs.map .int)), .v md, .v (.str signS), .v (.int size), .v (.int at'), .v (.str (strL word)), .v (.int wide), .v (.int step), .v (.int lot), .ol (((List.range m).map fun k => strL (nm k)).map .str), .no, .no, .no, .no, .no] S := by
    obtain ⟨ρ', e1, rfl⟩ := for_invP (tg := .nm 10) (fb := evSs P (callF P n) (makeF P n) Sh.b1__law_names) (ks := [10, 11, 12]) (st := stays S [.int m]) (S := S) rfl (fun k : Nat => D.int (k : Int))
      (fun pre ρ => ρ = [.v (.lst (rs.map .int)), .v md, .v (.str signS), .v (.int size), .v (.int at'), .v (.str (strL word)), .v (.int wide), .v (.int step), .v (.int lot), .ol ((pre.map fun k => strL (nm k)).map .str), .no, .no, .no, .no, .no])
      (List.range m) [.v (.lst (rs.map .int)), .v md, .v (.str signS), .v (.int size), .v (.int at'), .v (.str (strL word)), .v (.int wide), .v (.int step), .v (.int lot), .ol [], .no, .no, .no, .no, .no] rfl (by
        rintro pre k post ρ hp rfl
        have hk : pre.length < m := by
          have := congrArg List.length hp
          simp at this
          omega
        have mk : mulOk (lot.fmod 2) ((3 * (k : Int)).fmod (size - at')) = true := mulOk_l (by have := fm (a := lot) (b := 2) (by decide); omega)
        have t := names_turn (P := P) (n := n) (S := S) (rs := rs) (w := []) (word := word) (r11 := r11) (step := step) (wide := wide) (lot := lot) (at' := at') (size := size) (kk := (k : Int)) (many := md) (d8 := .non) (d13 := .non) (d14 := .non) (fs := (pre.map fun k => strL (nm k)).map .str) hr rfl (by omega) (J k).1 (J k).2 (by omega) ha (by omega) rfl mk
          (by have := M k; omega) (by omega) (by rw [List.length_map, List.length_map, sizeLine_eq]; omega)
        refine ⟨_, _, ?_, t, ?_⟩
        · rw [bT_nm, if_pos (by simp)]; rfl
        · simp [kill, nm])
    exact e1
  refine ⟨(List.range m).map fun k => strL (nm k), by simp, ?_, ?_, loop⟩
  · refine nodup_map_range _ m fun k j hk hj e => ?_
    have e := strL_inj e
    have h1 : (nm k)[at'.toNat]? = some (signL.getD ((r11 + (k : Int) * step).fmod wide).toNat 0) := nameL_at (by omega) (by have := M k; omega)
    have h2 : (nm j)[at'.toNat]? = some (signL.getD ((r11 + (j : Int) * step).fmod wide).toNat 0) := nameL_at (by omega) (by have := M j; omega)
    rw [e, h2] at h1
    have h3 := Option.some.inj h1
    have h4 := sgn_inj (by have := J j; omega) (by have := J k; omega) h3
    have h5 : ∀ i : Nat, ((r11 + (i : Int) * step).fmod wide).toNat = (r11.toNat + i * step.toNat) % wide.toNat := fun i => by
      rw [fmod_toNat (by rcases hst with rfl | rfl | rfl | rfl <;> omega) (by omega)]
      congr 1
      rcases hst with rfl | rfl | rfl | rfl <;> simp <;> omega
    rw [h5, h5] at h4
    exact (step_inj (r := r11.toNat) (s := step.toNat) (w := wide.toNat) (by omega) (by omega) (by omega) (by omega) h4).symm
  · intro x hx
    obtain ⟨k, hk, rfl⟩ := List.mem_map.mp hx
    have hM := M k
    have hlen : (nm k).length = (size - lot.fmod 2 * (3 * (k : Int)).fmod (size - at')).toNat := nameL_len (by omega) (by omega)
    refine ⟨by rw [strL_len]; omega, by rw [strL_len]; omega, ?_⟩
    rw [toList_strL]
    refine nameL_mem hwd ?_
    have := J k
    have hlen' : signL.length = 36 := rfl
    rw [List.getD_eq_getElem?_getD, List.getElem?_eq_getElem (by rw [hlen']; omega)]
    exact List.getElem_mem _
end Iv
/-! Pt3: towns drawn: names, roads -/
namespace Iv
open PySem
variable {P : Pg}
theorem pick4 (a b c d : D) {i : Int} (h0 : 0 ≤ i) (h1 : i < 4) : L2.atI [a, b, c, d] i = some (if i = 0 then a else if i = 1 then b else if i = 2 then c else d) := by
  have : i = 0 ∨ i = 1 ∨ i = 2 ∨ i = 3 := by omega
  rcases this with rfl | rfl | rfl | rfl <;> rfl
theorem specials_at {j : Int} (h0 : 0 ≤ j) (h1 : j < 20) : ∃ x, NameOk x ∧ L2.atI (wordsL.map D.str ++ [.str (PySem.Str.ofString "moved"), .str (PySem.Str.ofString "stands"), .str (PySem.Str.ofString "drives")]) j = some (.str x) := by
  have e : wordsL.map D.str ++ [D.str (PySem.Str.ofString "moved"), .str (PySem.Str.ofString "stands"), .str (PySem.Str.ofString "drives")] = specials.map D.str := by simp [specials]
  have hl : specials.length = 20 := rfl
  have hj : j.toNat < specials.length := by rw [hl]; omega
  rw [e, atI_nat _ h0, List.getElem?_map, List.getElem?_eq_getElem hj]
  exact ⟨_, specials_ok _ (List.getElem_mem hj), rfl⟩
abbrev wordsS : Str := PySem.Str.ofString "free to at sent there cut done off call told passed on open shut grade bare held"
theorem names_for {n : Nat} {S : Sto} {a c d e f g h i : Slot} {mm : Int} {items names : List D} (it : itemsD S .range1 [.int mm] = some items)
  (loop : forLoop (.nm 10) (evSs P (callF P n) (makeF P n) Sh.b1__law_names) [10, 11, 12] (stays S [.int mm]) items [a, .v (.int mm), c, d, e, f, g, h, i, .ol [], .no, .no, .no, .no, .no] S =
    .ok .next [a, .v (.int mm), c, d, e, f, g, h, i, .ol names, .no, .no, .no, .no, .no] S) :
   evS P (callF P n) (makeF P n) (.for_ (.nm 10) .range1 [(.var 1)] Sh.b1__law_names [10, 11, 12]) [a, .v (.int mm), c, d, e, f, g, h, i, .ol [], .no, .no, .no, .no, .no] S = .ok .next [a, .v (.int mm), c, d, e, f, g, h, i, .ol names, .no, .no, .no, .no, .no] S := by
  simp [it, kill]
  exact loop
theorem names_sp {n : Nat} {S : Sto} {a b c d e f g h j k l m : Slot} {lot : Int} {sp : Str} (sp2 : L2.atI (wordsL.map D.str ++ [.str (PySem.Str.ofString "moved"), .str (PySem.Str.ofString "stands"), .str (PySem.Str.ofString "drives")]) ((lot.fdiv 8).fmod 20) = some (.str sp)) :
    evS P (callF P n) (makeF P n) (.asg (.nm 14) (.ix (.bin .Add (.var 13) (.lst [(.str (PySem.Str.ofString "moved")), (.str (PySem.Str.ofString "stands")), (.str (PySem.Str.ofString "drives"))])) (.bin .Mod (.bin .FloorDiv (.var 8) (.int 8)) (.int 20)))) [a, b, c, d, e, f, g, h, .v (.int lot), j, k, l, m, .ol (wordsL.map .str), .no] S =
    .ok .next [a, b, c, d, e, f, g, h, .v (.int lot), j, k, l, m, .ol (wordsL.map .str), .v (.str sp)] S := by
  have z3 : (3 : Nat) ≤ sizeLine := le_size (by decide)
  have zw : (wordsL.map D.str).length + 3 ≤ sizeLine := le_size (by decide)
  generalize wordsL.map D.str = ws at *
  simp [z3, zw, sp2]
theorem names_end {n : Nat} {S : Sto} {a c d e f g h k l m w : Slot} {mm lot : Int} {sp : Str} {names : List Str} (zn : ((names.map D.str).length : Int) = mm) (hm : 0 < mm) (hlot : 0 ≤ lot) : ∃ names' : List Str, (names' = names ∨ ∃ i, sp ∉ names ∧ names' = names.set i sp) ∧
    finR (evSs P (callF P n) (makeF P n) (Sh.f__law_names.body.drop 11) [a, .v (.int mm), c, d, e, f, g, h, .v (.int lot), .ol (names.map .str), k, l, m, w, .v (.str sp)] S) = .ok (.ol (names'.map .str)) S := by
  have ns := nin_strsL S sp names
  have fi := fm (a := lot.fdiv 160) (b := mm) hm
  have zm : mm ≠ 0 := by omega
  simp only [Sh.f__law_names, List.drop]
  by_cases h1 : (lot.fdiv 2).fmod 4 = 1
  · by_cases h2 : sp ∈ names
    · exact ⟨names, .inl rfl, by simp [h1, ns, h2]⟩
    · refine ⟨names.set ((lot.fdiv 160).fmod mm).toNat sp, .inr ⟨_, h2, rfl⟩, ?_⟩
      rw [List.map_set]
      have fi2 : (lot.fdiv 160).fmod mm < ((names.map D.str).length : Int) := by rw [zn]; exact fi.2
      generalize names.map D.str = nds at *
      simp [h1, ns, h2, zm, setOS_ol _ _ _ _ _ _ fi.1 fi2]
  · exact ⟨names, .inl rfl, by simp [h1]⟩
theorem names_ok {i L : Nat} (hP : P.fns[i]? = some Sh.f__law_names) (n : Nat) {rs : List Int} (hr : RowOk L rs) (hL : 20 ≤ L) (hL2 : L ≤ 1000) (m : Nat) (m1 : 1 ≤ m) (m10 : m ≤ 20) (S : Sto) :
    ∃ names : List Str, names.length = m ∧ names.Nodup ∧ (∀ x ∈ names, NameOk x) ∧ callF P (n + 1) i [.lst (rs.map .int), .int m] S = .ok (.ol (names.map .str)) S := by
  rw [run_def hP rfl]
  obtain ⟨x0, a0, b0, h0⟩ := hr.at (k := 0) (by decide) (by omega)
  obtain ⟨x1, a1, b1, h1⟩ := hr.at (k := 1) (by decide) (by omega)
  obtain ⟨x10, a10, b10, h10⟩ := hr.at (k := 10) (by decide) (by omega)
  obtain ⟨x11, a11, b11, h11⟩ := hr.at (k := 11) (by decide) (by omega)
  obtain ⟨lot, alot, blot, hlot⟩ := hr.at (k := (L : Int) - 1) (by omega) (by omega)
  have hlen : ((rs.map D.int).length : Int) = L := by rw [List.length_map, hr.1]
  have z2 : (2 : Nat) ≤ sizeLine := le_size (by decide)
  have z3 : (3 : Nat) ≤ sizeLine := le_size (by decide)
  have z4 : (4 : Nat) ≤ sizeLine := le_size (by decide)
  obtain ⟨size, hsize⟩ : ∃ size, 1 + x0.fmod 8 = size := ⟨_, rfl⟩
  have s0 := fm (a := x0) (b := 8) (by decide)
  obtain ⟨at', hat⟩ : ∃ a, x1.fmod size = a := ⟨_, rfl⟩
  have s1 := fm (a := x1) (b := size) (by omega)
  rw [hat] at s1
  obtain ⟨wide, hwide⟩ : ∃ w, (if at' = 0 then (26 : Int) else 36) = w := ⟨_, rfl⟩
  have wd : wide = 26 ∨ wide = 36 := by rw [← hwide]; split <;> simp
  have pw := pick2 (.int 36) (.int 26) (at' = 0)
  rw [iteI, hwide] at pw
  have f4 := fm (a := x10) (b := 4) (by decide)
  have p4 := pick4 (.int 1) (.int 5) (.int 7) (.int 11) f4.1 f4.2
  obtain ⟨step, hst, est⟩ : ∃ step : Int, (step = 1 ∨ step = 5 ∨ step = 7 ∨ step = 11) ∧ (if x10.fmod 4 = 0 then D.int 1 else if x10.fmod 4 = 1 then .int 5 else if x10.fmod 4 = 2 then .int 7 else .int 11) = .int step := by
    split
    · exact ⟨1, by simp, rfl⟩
    · split
      · exact ⟨5, by simp, rfl⟩
      · split
        · exact ⟨7, by simp, rfl⟩
        · exact ⟨11, by simp, rfl⟩
  rw [est] at p4
  -- the word
  have esz : size = ((size.toNat : Nat) : Int) := by omega
  obtain ⟨word, w1, w2, w3⟩ := word_ok (P := P) (n := n) (S := S) (m := L) (rs := rs) (ρ := [.v (.lst (rs.map .int)), .v (.int m), .v (.str signS), .v (.int size), .v (.int at'), .no, .no, .no, .no, .no, .no, .no, .no, .no, .no]) (sz := size.toNat) hr hL (by omega) rfl rfl (by rw [← esz]; rfl) rfl
  obtain ⟨names, n1, n2, n3, loop⟩ := names_loop (P := P) (n := n) (S := S) (rs := rs) (word := word) (r11 := x11) (step := step) (wide := wide) (lot := lot) (at' := at') (size := size) (md := .int m) m m10 h11 a11 hst wd s1.1 s1.2 (by omega) (by omega) w2
  have it := row_it m S (by omega)
  have f20 := fm (a := lot.fdiv 8) (b := 20) (by decide)
  obtain ⟨sp, sp1, sp2⟩ := specials_at f20.1 f20.2
  have ns := nin_strsL S sp names
  have zn : (names.map D.str).length = m := by rw [List.length_map, n1]
  have fi := fm (a := lot.fdiv 160) (b := (m : Int)) (by omega)
  have zm : ((m : Nat) : Int) ≠ 0 := by omega
  have zw : (wordsL.map D.str).length + 3 ≤ sizeLine := le_size (by decide)
  have qw := q_words S
  have zn' : ((names.map D.str).length : Int) = (m : Int) := by rw [zn]
  generalize (m : Int) = mm at *
  generalize (List.range m).map (fun k : Nat => D.int (k : Int)) = items at *
  -- what is given
  have key : ∃ names' : List Str, names'.length = m ∧ names'.Nodup ∧ (∀ x ∈ names', NameOk x) ∧ finR (evSs P (callF P n) (makeF P n) Sh.f__law_names.body [.v (.lst (rs.map .int)), .v (.int mm), .no, .no, .no, .no, .no, .no, .no, .no, .no, .no, .no, .no, .no] S) = .ok (.ol (names'.map .str)) S := by
    have head : evSs P (callF P n) (makeF P n) Sh.f__law_names.body [.v (.lst (rs.map .int)), .v (.int mm), .no, .no, .no, .no, .no, .no, .no, .no, .no, .no, .no, .no, .no] S =
        evSs P (callF P n) (makeF P n) (Sh.f__law_names.body.drop 9) [.v (.lst (rs.map .int)), .v (.int mm), .v (.str signS), .v (.int size), .v (.int at'), .v (.str (strL word)), .v (.int wide), .v (.int step), .v (.int lot), .ol (names.map .str), .no, .no, .no, .no, .no] S := by
      simp only [Sh.f__law_names, List.drop]
      rw [ss_n (ρ1 := [.v (.lst (rs.map .int)), .v (.int mm), .v (.str signS), .no, .no, .no, .no, .no, .no, .no, .no, .no, .no, .no, .no]) (S1 := S) (by simp)]
      rw [ss_n (ρ1 := [.v (.lst (rs.map .int)), .v (.int mm), .v (.str signS), .v (.int size), .no, .no, .no, .no, .no, .no, .no, .no, .no, .no, .no]) (S1 := S) (by simp [h0, hsize])]
      rw [ss_n (ρ1 := [.v (.lst (rs.map .int)), .v (.int mm), .v (.str signS), .v (.int size), .v (.int at'), .no, .no, .no, .no, .no, .no, .no, .no, .no, .no]) (S1 := S) (by
        have : size ≠ 0 := by omega
        simp [h1, hat, this])]
      rw [ss_n (ρ1 := [.v (.lst (rs.map .int)), .v (.int mm), .v (.str signS), .v (.int size), .v (.int at'), .v (.str (strL word)), .no, .no, .no, .no, .no, .no, .no, .no, .no]) (S1 := S) (by rw [xS_asg, w3]; rfl)]
      rw [ss_n (ρ1 := [.v (.lst (rs.map .int)), .v (.int mm), .v (.str signS), .v (.int size), .v (.int at'), .v (.str (strL word)), .v (.int wide), .no, .no, .no, .no, .no, .no, .no, .no]) (S1 := S) (by simp [pw, z2])]
      rw [ss_n (ρ1 := [.v (.lst (rs.map .int)), .v (.int mm), .v (.str signS), .v (.int size), .v (.int at'), .v (.str (strL word)), .v (.int wide), .v (.int step), .no, .no, .no, .no, .no, .no, .no]) (S1 := S) (by simp [h10, p4, z4])]
      rw [ss_n (ρ1 := [.v (.lst (rs.map .int)), .v (.int mm), .v (.str signS), .v (.int size), .v (.int at'), .v (.str (strL word)), .v (.int wide), .v (.int step), .v (.int lot), .no, .no, .no, .no, .no, .no]) (S1 := S) (by
        have e : primD S .len [.lst (rs.map .int)] = some (.v (.int L)) := by rw [q_lenL, hlen]
        simp [e, hlot])]
      rw [ss_n (ρ1 := [.v (.lst (rs.map .int)), .v (.int mm), .v (.str signS), .v (.int size), .v (.int at'), .v (.str (strL word)), .v (.int wide), .v (.int step), .v (.int lot), .ol [], .no, .no, .no, .no, .no]) (S1 := S) (by simp)]
      rw [ss_n (ρ1 := [.v (.lst (rs.map .int)), .v (.int mm), .v (.str signS), .v (.int size), .v (.int at'), .v (.str (strL word)), .v (.int wide), .v (.int step), .v (.int lot), .ol (names.map .str), .no, .no, .no, .no, .no]) (S1 := S) (names_for it loop)]
    have mid : evSs P (callF P n) (makeF P n) (Sh.f__law_names.body.drop 9) [.v (.lst (rs.map .int)), .v (.int mm), .v (.str signS), .v (.int size), .v (.int at'), .v (.str (strL word)), .v (.int wide), .v (.int step), .v (.int lot), .ol (names.map .str), .no, .no, .no, .no, .no] S =
        evSs P (callF P n) (makeF P n) (Sh.f__law_names.body.drop 11) [.v (.lst (rs.map .int)), .v (.int mm), .v (.str signS), .v (.int size), .v (.int at'), .v (.str (strL word)), .v (.int wide), .v (.int step), .v (.int lot), .ol (names.map .str), .no, .no, .no, .ol (wordsL.map .str), .v (.str sp)] S := by
      simp only [Sh.f__law_names, List.drop]
      rw [ss_n (ρ1 := [.v (.lst (rs.map .int)), .v (.int mm), .v (.str signS), .v (.int size), .v (.int at'), .v (.str (strL word)), .v (.int wide), .v (.int step), .v (.int lot), .ol (names.map .str), .no, .no, .no, .ol (wordsL.map .str), .no]) (S1 := S) (by
        simp only [xS_asg, xE_mth, pk_str, xE_str, toC, c_ok, d_v, own_split, if_true, xPs_1, xPs_0]
        rw [qw]
        simp)]
      rw [ss_n (ρ1 := [.v (.lst (rs.map .int)), .v (.int mm), .v (.str signS), .v (.int size), .v (.int at'), .v (.str (strL word)), .v (.int wide), .v (.int step), .v (.int lot), .ol (names.map .str), .no, .no, .no, .ol (wordsL.map .str), .v (.str sp)]) (S1 := S) (names_sp sp2)]
    obtain ⟨names', h1, h2⟩ := names_end (P := P) (n := n) (S := S) (a := .v (.lst (rs.map .int))) (c := .v (.str signS)) (d := .v (.int size)) (e := .v (.int at')) (f := .v (.str (strL word))) (g := .v (.int wide)) (h := .v (.int step)) (k := .no) (l := .no) (m := .no) (w := .ol (wordsL.map .str)) (mm := mm) (lot := lot) (sp := sp) (names := names) (by omega) (by omega) alot
    refine ⟨names', ?_, ?_, ?_, by rw [head, mid]; exact h2⟩
    · rcases h1 with rfl | ⟨i, _, rfl⟩
      · exact n1
      · rw [List.length_set]; exact n1
    · rcases h1 with rfl | ⟨i, h1, rfl⟩
      · exact n2
      · exact nodup_set i n2 h1
    · rcases h1 with rfl | ⟨i, _, rfl⟩
      · exact n3
      · intro x hx
        rcases List.mem_or_eq_of_mem_set hx with hx | hx
        · exact n3 x hx
        · rw [hx]; exact sp1
  exact key
end Iv
/-! Pt4: towns drawn: roads, towns -/
namespace Iv
open PySem
variable {P : Pg}
def oD : Option Int → D
  | none => .non
  | some i => .int i
structure Road where
  a : Nat
  b : Nat
  go : Option Int
  back : Option Int
structure RoadOk (m : Nat) (r : Road) : Prop where
  a : r.a < m
  b : r.b < m
  ne : r.a ≠ r.b
  go : ∀ x, r.go = some x → 1 ≤ x ∧ x ≤ 60
  back : ∀ x, r.back = some x → 1 ≤ x ∧ x ≤ 60
  one : r.go ≠ none ∨ r.back ≠ none
def nmAt (names : List Str) (k : Nat) : Str := names.getD k Str.empty
def Road.d (names : List Str) (r : Road) : D := .tup [.str (nmAt names r.a), .str (nmAt names r.b), oD r.go, oD r.back]
theorem atI_names (names : List Str) {k : Int} (h0 : 0 ≤ k) (h1 : k < names.length) : L2.atI (names.map D.str) k = some (.str (nmAt names k.toNat)) := by
  have hl : k.toNat < names.length := by omega
  rw [atI_nat _ h0, List.getElem?_map, List.getElem?_eq_getElem hl]
  simp [nmAt, List.getD_eq_getElem?_getD, hl]
theorem pick3 (a b c : D) {i : Int} (h0 : 0 ≤ i) (h1 : i < 3) : L2.atI [a, b, c] i = some (if i = 0 then a else if i = 1 then b else c) := by
  have : i = 0 ∨ i = 1 ∨ i = 2 := by omega
  rcases this with rfl | rfl | rfl <;> rfl
theorem oD_ite (x : Int) (c : Prop) [Decidable c] : (if c then D.non else D.int x) = oD (if c then none else some x) := by by_cases h : c <;> simp [h, oD]
theorem other_ne {m a b c : Int} (h2 : 2 ≤ m) (h10 : m ≤ 10) (a0 : 0 ≤ a) (a1 : a < m) (b0 : 0 ≤ b) (b1 : b < m - 1) (e : (a + 1 + b).fmod m = c) : c ≠ a := by
  rw [Int.fmod_eq_emod_of_nonneg _ (by omega)] at e
  have : m = 2 ∨ m = 3 ∨ m = 4 ∨ m = 5 ∨ m = 6 ∨ m = 7 ∨ m = 8 ∨ m = 9 ∨ m = 10 := by omega
  rcases this with rfl | rfl | rfl | rfl | rfl | rfl | rfl | rfl | rfl <;> omega
theorem road_body {n : Nat} {S : Sto} {rs : List Int} {nms : List D} {x0 x1 x2 x3 x4 x5 m one' oth span : Int} {n1 n2 : Str} {og ob : D}
    (h0 : L2.atI (rs.map D.int) 0 = some (.int x0)) (h1 : L2.atI (rs.map D.int) 1 = some (.int x1)) (h2 : L2.atI (rs.map D.int) 2 = some (.int x2)) (h3 : L2.atI (rs.map D.int) 3 = some (.int x3)) (h4 : L2.atI (rs.map D.int) 4 = some (.int x4)) (h5 : L2.atI (rs.map D.int) 5 = some (.int x5))
    (hlen : primD S .len [.lst nms] = some (.v (.int m))) (e1 : x0.fmod m = one') (e2 : (one' + 1 + x1.fmod (m - 1)).fmod m = oth) (p4 : L2.atI [D.int 2, .int 5, .int 60] (x4.fmod 3) = some (.int span))
    (pg : L2.atI [D.int (1 + x2.fmod span), .non] (if x5.fmod 5 = 1 then 1 else 0) = some og) (pb : L2.atI [D.int (1 + x3.fmod span), .non] (if x5.fmod 5 = 2 then 1 else 0) = some ob)
    (at1 : L2.atI nms one' = some (.str n1)) (at2 : L2.atI nms oth = some (.str n2)) (nz : span ≠ 0) (mz : m ≠ 0) (mz2 : m - 1 ≠ 0) :
    finR (evSs P (callF P n) (makeF P n) Sh.f__law_road.body [.v (.lst (rs.map .int)), .v (.lst nms), .no, .no, .no, .no, .no] S) = .ok (.v (.tup [.str n1, .str n2, og, ob])) S := by
  have z2 : (2 : Nat) ≤ sizeLine := le_size (by decide)
  have z3 : (3 : Nat) ≤ sizeLine := le_size (by decide)
  have z4 : (4 : Nat) ≤ sizeLine := le_size (by decide)
  generalize rs.map D.int = rd at *
  simp only [Sh.f__law_road]
  rw [ss_n (ρ1 := [.v (.lst rd), .v (.lst nms), .v (.int one'), .no, .no, .no, .no]) (S1 := S) (by simp [h0, hlen, e1, mz])]
  rw [ss_n (ρ1 := [.v (.lst rd), .v (.lst nms), .v (.int one'), .v (.int oth), .no, .no, .no]) (S1 := S) (by simp [h1, hlen, e2, mz, mz2])]
  rw [ss_n (ρ1 := [.v (.lst rd), .v (.lst nms), .v (.int one'), .v (.int oth), .v (.int span), .no, .no]) (S1 := S) (by simp [h4, p4, z3])]
  rw [ss_n (ρ1 := [.v (.lst rd), .v (.lst nms), .v (.int one'), .v (.int oth), .v (.int span), .v og, .no]) (S1 := S) (by simp [h2, h5, pg, nz, z2])]
  rw [ss_n (ρ1 := [.v (.lst rd), .v (.lst nms), .v (.int one'), .v (.int oth), .v (.int span), .v og, .v ob]) (S1 := S) (by simp [h3, h5, pb, nz, z2])]
  simp [at1, at2, z4]
theorem road_ok {i : Nat} (hP : P.fns[i]? = some Sh.f__law_road) (n : Nat) {rs : List Int} (hr : RowOk 6 rs) (names : List Str) (h2 : 2 ≤ names.length) (h10 : names.length ≤ 10) (S : Sto) :
    ∃ r, RoadOk names.length r ∧ callF P (n + 1) i [.lst (rs.map .int), .lst (names.map .str)] S = .ok (.v (r.d names)) S := by
  rw [run_def hP rfl]
  obtain ⟨x0, a0, b0, h0⟩ := hr.at (k := 0) (by decide) (by decide)
  obtain ⟨x1, a1, b1, h1⟩ := hr.at (k := 1) (by decide) (by decide)
  obtain ⟨x2, a2, b2, h2'⟩ := hr.at (k := 2) (by decide) (by decide)
  obtain ⟨x3, a3, b3, h3⟩ := hr.at (k := 3) (by decide) (by decide)
  obtain ⟨x4, a4, b4, h4⟩ := hr.at (k := 4) (by decide) (by decide)
  obtain ⟨x5, a5, b5, h5⟩ := hr.at (k := 5) (by decide) (by decide)
  obtain ⟨m, hm⟩ : ∃ m : Int, (names.length : Int) = m := ⟨_, rfl⟩
  have hlen : primD S .len [.lst (names.map .str)] = some (.v (.int m)) := by rw [q_lenL, List.length_map, hm]
  obtain ⟨one', e1⟩ : ∃ x, x0.fmod m = x := ⟨_, rfl⟩
  have f1 := fm (a := x0) (b := m) (by omega)
  rw [e1] at f1
  obtain ⟨oth, e2⟩ : ∃ x, (one' + 1 + x1.fmod (m - 1)).fmod m = x := ⟨_, rfl⟩
  have f2 := fm (a := one' + 1 + x1.fmod (m - 1)) (b := m) (by omega)
  rw [e2] at f2
  have f3 := fm (a := x1) (b := m - 1) (by omega)
  have f4 := fm (a := x4) (b := 3) (by decide)
  have p4 := pick3 (.int 2) (.int 5) (.int 60) f4.1 f4.2
  obtain ⟨span, hsp, esp⟩ : ∃ s : Int, (0 < s ∧ s ≤ 60) ∧ (if x4.fmod 3 = 0 then D.int 2 else if x4.fmod 3 = 1 then .int 5 else .int 60) = .int s := by
    split
    · exact ⟨2, by decide, rfl⟩
    · split
      · exact ⟨5, by decide, rfl⟩
      · exact ⟨60, by decide, rfl⟩
  rw [esp] at p4
  have pg := pick2 (.int (1 + x2.fmod span)) .non (x5.fmod 5 = 1)
  have pb := pick2 (.int (1 + x3.fmod span)) .non (x5.fmod 5 = 2)
  rw [oD_ite] at pg pb
  have g2 := fm (a := x2) (b := span) hsp.1
  have g3 := fm (a := x3) (b := span) hsp.1
  have at1 := atI_names names (k := one') f1.1 (by omega)
  have at2 := atI_names names (k := oth) f2.1 (by omega)
  have nz : span ≠ 0 := by omega
  have mz : m ≠ 0 := by omega
  have mz2 : m - 1 ≠ 0 := by omega
  have z2 : (2 : Nat) ≤ sizeLine := le_size (by decide)
  have z3 : (3 : Nat) ≤ sizeLine := le_size (by decide)
  have z4 : (4 : Nat) ≤ sizeLine := le_size (by decide)
  have body := road_body (P := P) (n := n) h0 h1 h2' h3 h4 h5 hlen e1 e2 p4 pg pb at1 at2 nz mz mz2
  have ne := other_ne (by omega) (by omega) f1.1 f1.2 f3.1 f3.2 e2
  refine ⟨⟨one'.toNat, oth.toNat, if x5.fmod 5 = 1 then none else some (1 + x2.fmod span), if x5.fmod 5 = 2 then none else some (1 + x3.fmod span)⟩, ⟨?_, ?_, ?_, ?_, ?_, ?_⟩, body⟩
  · show one'.toNat < names.length; omega
  · show oth.toNat < names.length; omega
  · show one'.toNat ≠ oth.toNat; omega
  · intro x hx
    simp only at hx
    split at hx
    · cases hx
    · cases hx; omega
  · intro x hx
    simp only at hx
    split at hx
    · cases hx
    · cases hx; omega
  · simp only
    by_cases h : x5.fmod 5 = 1
    · exact .inr (by rw [if_neg (by omega)]; simp)
    · exact .inl (by rw [if_neg h]; simp)
end Iv
/-! Pt5: towns drawn -/
namespace Iv
open PySem
variable {P : Pg}
structure Town where
  names : List Str
  roads : List Road
  stands : List Str
  reach : Int
def Town.d (t : Town) : D := .tup [.tup (t.names.map .str), .tup (t.roads.map (Road.d t.names)), .tup (t.stands.map .str), .int t.reach]
structure TownOk (t : Town) : Prop where
  n1 : 1 ≤ t.names.length
  n10 : t.names.length ≤ 10
  nd : t.names.Nodup
  nm : ∀ x ∈ t.names, NameOk x
  r18 : t.roads.length ≤ 18
  rd : ∀ r ∈ t.roads, RoadOk t.names.length r
  st : ∀ x ∈ t.stands, x ∈ t.names
  s1 : 1 ≤ t.stands.length
  s5 : t.stands.length ≤ 5
  sd : t.stands.Nodup
  r0 : 0 ≤ t.reach
  r1 : t.reach ≤ 120
/-! ### stands -/
def standsL (names : List Str) (a k : Nat) : List Str := ((names ++ names).drop a).take k
theorem stands_rot (names : List Str) {a k : Nat} (ha : a ≤ names.length) (hk : k ≤ names.length) : standsL names a k = (names.drop a ++ names.take a).take k := by
  unfold standsL
  have e : (names ++ names).drop a = (names.drop a ++ names.take a) ++ names.drop a := by
    rw [List.drop_append_of_le_length ha, List.append_assoc, List.take_append_drop]
  rw [e, List.take_append_of_le_length (by simp; omega)]
theorem stands_nodup {names : List Str} (h : names.Nodup) {a k : Nat} (ha : a ≤ names.length) (hk : k ≤ names.length) : (standsL names a k).Nodup := by
  rw [stands_rot names ha hk]
  refine List.Nodup.sublist (List.take_sublist _ _) ?_
  have p : (names.drop a ++ names.take a).Perm names := by
    have := @List.perm_append_comm _ (names.drop a) (names.take a)
    rwa [List.take_append_drop] at this
  exact p.symm.nodup h
theorem stands_mem {names : List Str} {a k : Nat} : ∀ x ∈ standsL names a k, x ∈ names := by
  intro x hx
  have := List.mem_of_mem_drop (List.mem_of_mem_take hx)
  simpa using this
theorem stands_len {names : List Str} {a k : Nat} (ha : a ≤ names.length) (hk : k ≤ names.length) : (standsL names a k).length = k := by
  unfold standsL
  simp
  omega
/-! ### the roads' loop -/
structure TownFns (P : Pg) (iRow iCell iNames iRoad : Nat) : Prop where
  row : P.fns[iRow]? = some Sh.f__law_row
  cell : P.fns[iCell]? = some Sh.f__law_cell_at
  names : P.fns[iNames]? = some Sh.f__law_names
  road : P.fns[iRoad]? = some Sh.f__law_road
variable {iRow iCell iNames iRoad : Nat}
theorem town_turn {n : Nat} {S : Sto} {a b c f g h : Slot} {cell : Int} {nms rds : List D} {m : Int} {rd : D} {rs : List D} (sl : Slot) (hsl : sl = .ol nms ∨ sl = .v (.lst nms)) (hlen : primD S .len [.lst nms] = some (.v (.int m)))
    (e1 : callF P n iRow [.int cell, .int 6] S = .ok (.ol rs) S) (e2 : 1 < m → callF P n iRoad [.lst rs, .lst nms] S = .ok (.v rd) S) (hz : rds.length < sizeLine) :
    ∃ sl', (sl' = .ol nms ∨ sl' = .v (.lst nms)) ∧ evSs P (callF P n) (makeF P n) (Sh.b1__law_town iRow iCell iNames iRoad) [a, b, c, sl, .ol rds, .v (.int cell), f, g, h] S = .ok .next [a, b, c, sl', .ol (if 1 < m then rds ++ [rd] else rds), .v (.int cell), f, g, h] S := by
  by_cases hm : 1 < m
  · refine ⟨.v (.lst nms), .inr rfl, ?_⟩
    rw [if_pos hm]
    rcases hsl with rfl | rfl <;> simp [Sh.b1__law_town, hlen, hm, e1, e2 hm, hz]
  · refine ⟨sl, hsl, ?_⟩
    rw [if_neg hm]
    rcases hsl with rfl | rfl <;> simp [Sh.b1__law_town, hlen, hm]
theorem town_loop (F : TownFns P iRow iCell iNames iRoad) {n : Nat} {S : Sto} {a b c f g h : Slot} {names : List Str} (sl : Slot) (hsl : sl = .ol (names.map .str) ∨ sl = .v (.lst (names.map .str))) (h10 : names.length ≤ 10) {st : Sto → Bool} (hst : st S = true) (cells : List Int) (hc : cells.length ≤ 18) :
    ∃ (sl' : Slot) (roads : List Road), (sl' = .ol (names.map .str) ∨ sl' = .v (.lst (names.map .str))) ∧ roads.length ≤ cells.length ∧ (∀ r ∈ roads, RoadOk names.length r) ∧
    forLoop (.nm 5) (evSs P (callF P (n + 1)) (makeF P (n + 1)) (Sh.b1__law_town iRow iCell iNames iRoad)) [5] st (cells.map .int) [a, b, c, sl, .ol [], .no, f, g, h] S = .ok .next [a, b, c, sl', .ol (roads.map (Road.d names)), .no, f, g, h] S := by
  obtain ⟨ρ', e, sl', roads, rfl, q1, q2, q3⟩ := for_invP (tg := .nm 5) (fb := evSs P (callF P (n + 1)) (makeF P (n + 1)) (Sh.b1__law_town iRow iCell iNames iRoad)) (ks := [5]) (st := st) hst D.int
    (fun pre ρ => ∃ (sl' : Slot) (roads : List Road), ρ = [a, b, c, sl', .ol (roads.map (Road.d names)), .no, f, g, h] ∧ (sl' = .ol (names.map .str) ∨ sl' = .v (.lst (names.map .str))) ∧ roads.length ≤ pre.length ∧ (∀ r ∈ roads, RoadOk names.length r))
    cells [a, b, c, sl, .ol [], .no, f, g, h] ⟨sl, [], rfl, hsl, by simp, by simp⟩ (by
      rintro pre cell post ρ hp ⟨sl1, roads, rfl, q1, q2, q3⟩
      have hk : pre.length < 18 := by
        have := congrArg List.length hp
        simp at this
        omega
      obtain ⟨rs, r1, r2⟩ := row_ok F.row n cell 6 S (by decide)
      have hr : ∃ r, (2 ≤ names.length → RoadOk names.length r ∧ callF P (n + 1) iRoad [.lst (rs.map .int), .lst (names.map .str)] S = .ok (.v (r.d names)) S) := by
        by_cases h2 : 2 ≤ names.length
        · obtain ⟨r, h3, h4⟩ := road_ok F.road n r1 names h2 h10 S
          exact ⟨r, fun _ => ⟨h3, h4⟩⟩
        · exact ⟨⟨0, 0, none, none⟩, fun z => absurd z h2⟩
      obtain ⟨r, hr⟩ := hr
      obtain ⟨sl', s1, s2⟩ := town_turn (P := P) (iCell := iCell) (iNames := iNames) (n := n + 1) (S := S) (a := a) (b := b) (c := c) (f := f) (g := g) (h := h) (cell := cell) (rds := roads.map (Road.d names)) (m := (names.length : Int)) (rd := r.d names) sl1 q1 (by rw [q_lenL, List.length_map]) r2 (fun hm => (hr (by omega)).2) (by rw [List.length_map, sizeLine_eq]; omega)
      refine ⟨_, _, by rw [bT_nm, if_pos (by simp)]; rfl, s2, sl', if (1 : Int) < (names.length : Int) then roads ++ [r] else roads, ?_, s1, ?_, ?_⟩
      · simp only [kill, List.set_cons_succ, List.set_cons_zero]
        by_cases hm : (1 : Int) < (names.length : Int)
        · rw [if_pos hm, if_pos hm]; simp
        · rw [if_neg hm, if_neg hm]
      · split <;> simp <;> omega
      · intro x hx
        split at hx
        · rename_i hm
          rcases List.mem_append.mp hx with hx | hx
          · exact q3 x hx
          · simp only [List.mem_singleton] at hx
            subst hx
            exact (hr (by omega)).1
        · exact q3 x hx)
  exact ⟨sl', roads, q1, by simpa using q2, q3, e⟩
/-! ### all -/
theorem town_tail {n : Nat} {S : Sto} {a b : Slot} {rs : List Int} {nms rds : List D} {m x13 x14 x16 x17 at' k reach : Int} (sl : Slot) (hsl : sl = .ol nms ∨ sl = .v (.lst nms)) (hlen : primD S .len [.lst nms] = some (.v (.int m)))
    (h13 : L2.atI (rs.map D.int) 13 = some (.int x13)) (h14 : L2.atI (rs.map D.int) 14 = some (.int x14)) (h16 : L2.atI (rs.map D.int) 16 = some (.int x16)) (h17 : L2.atI (rs.map D.int) 17 = some (.int x17))
    (mz : m ≠ 0) (e1 : x14.fmod m = at') (kz : (if m < 5 then m else 5) ≠ 0) (e2 : at' + 1 + x13.fmod (if m < 5 then m else 5) = k) (hz : nms.length + nms.length ≤ sizeLine) (a0 : 0 ≤ at') (k0 : 0 ≤ k)
    (er : L2.atI [D.int (x16.fmod 121), .int (x16.fmod 13), .int 120, .int 0] (x17.fmod 4) = some (.int reach)) (srow : Slot) (hrow : srow = .v (.lst (rs.map .int))) :
    finR (evSs P (callF P n) (makeF P n) ((Sh.f__law_town iRow iCell iNames iRoad).body.drop 4) [a, b, srow, sl, .ol rds, .no, .no, .no, .no] S) = .ok (.v (.tup [.tup nms, .tup rds, .tup (((nms ++ nms).drop at'.toNat).take (k.toNat - at'.toNat)), .int reach])) S := by
  have z4 : (4 : Nat) ≤ sizeLine := le_size (by decide)
  have c := cut_lh (nms ++ nms) a0 k0
  subst hrow
  generalize rs.map D.int = rd at *
  rcases hsl with rfl | rfl
  · simp only [Sh.f__law_town, List.drop]
    rw [ss_n (ρ1 := [a, b, .v (.lst rd), .ol nms, .ol rds, .no, .v (.int at'), .no, .no]) (S1 := S) (by simp [h14, hlen, mz, e1])]
    rw [ss_n (ρ1 := [a, b, .v (.lst rd), .ol nms, .ol rds, .no, .v (.int at'), .ol (((nms ++ nms).drop at'.toNat).take (k.toNat - at'.toNat)), .no]) (S1 := S) (by simp [h13, hlen, kz, e2, hz, c])]
    rw [ss_n (ρ1 := [a, b, .v (.lst rd), .ol nms, .ol rds, .no, .v (.int at'), .ol (((nms ++ nms).drop at'.toNat).take (k.toNat - at'.toNat)), .v (.int reach)]) (S1 := S) (by simp [h16, h17, er, z4])]
    simp [z4]
  · simp only [Sh.f__law_town, List.drop]
    rw [ss_n (ρ1 := [a, b, .v (.lst rd), .v (.lst nms), .ol rds, .no, .v (.int at'), .no, .no]) (S1 := S) (by simp [h14, hlen, mz, e1])]
    rw [ss_n (ρ1 := [a, b, .v (.lst rd), .v (.lst nms), .ol rds, .no, .v (.int at'), .ol (((nms ++ nms).drop at'.toNat).take (k.toNat - at'.toNat)), .no]) (S1 := S) (by simp [h13, hlen, kz, e2, hz, c])]
    rw [ss_n (ρ1 := [a, b, .v (.lst rd), .v (.lst nms), .ol rds, .no, .v (.int at'), .ol (((nms ++ nms).drop at'.toNat).take (k.toNat - at'.toNat)), .v (.int reach)]) (S1 := S) (by simp [h16, h17, er, z4])]
    simp [z4]
theorem town_head {n : Nat} {S : Sto} {ns : List Int} {start c x12 many : Int} {rs nms rds cells : List D} {sl : Slot} (e0 : callF P n iCell [.lst (ns.map .int), .int start] S = .ok (.v (.int c)) S) (e1 : callF P n iRow [.int c, .int 20] S = .ok (.ol rs) S) (h12 : L2.atI rs 12 = some (.int x12)) (em : 1 + x12.fmod 10 = many)
    (e2 : callF P n iNames [.lst rs, .int many] S = .ok (.ol nms) S) (hc : cutD (ns.map D.int) (some (start + 1)) (some (start + 19)) = cells)
    (loop : forLoop (.nm 5) (evSs P (callF P n) (makeF P n) (Sh.b1__law_town iRow iCell iNames iRoad)) [5] (stays S [.lst cells]) cells [.v (.lst (ns.map .int)), .v (.int start), .v (.lst rs), .ol nms, .ol [], .no, .no, .no, .no] S = .ok .next [.v (.lst (ns.map .int)), .v (.int start), .v (.lst rs), sl, .ol rds, .no, .no, .no, .no] S) :
    evSs P (callF P n) (makeF P n) (Sh.f__law_town iRow iCell iNames iRoad).body [.v (.lst (ns.map .int)), .v (.int start), .no, .no, .no, .no, .no, .no, .no] S =
    evSs P (callF P n) (makeF P n) ((Sh.f__law_town iRow iCell iNames iRoad).body.drop 4) [.v (.lst (ns.map .int)), .v (.int start), .v (.lst rs), sl, .ol rds, .no, .no, .no, .no] S := by
  generalize ns.map D.int = nd at *
  simp only [Sh.f__law_town, List.drop]
  rw [ss_n (ρ1 := [.v (.lst nd), .v (.int start), .ol rs, .no, .no, .no, .no, .no, .no]) (S1 := S) (by simp [e0, e1])]
  rw [ss_n (ρ1 := [.v (.lst nd), .v (.int start), .v (.lst rs), .ol nms, .no, .no, .no, .no, .no]) (S1 := S) (by simp [h12, em, e2])]
  rw [ss_n (ρ1 := [.v (.lst nd), .v (.int start), .v (.lst rs), .ol nms, .ol [], .no, .no, .no, .no]) (S1 := S) (by simp)]
  rw [ss_n (ρ1 := [.v (.lst nd), .v (.int start), .v (.lst rs), sl, .ol rds, .no, .no, .no, .no]) (S1 := S) (by
    simp [hc, kill]
    exact loop)]
theorem town_ok (F : TownFns P iRow iCell iNames iRoad) {i : Nat} (hP : P.fns[i]? = some (Sh.f__law_town iRow iCell iNames iRoad)) (n : Nat) (ns : List Int) (start : Nat) (S : Sto) :
    ∃ t : Town, TownOk t ∧ callF P (n + 2) i [.lst (ns.map .int), .int start] S = .ok (.v t.d) S := by
  rw [run_def hP rfl]
  obtain ⟨rs, r1, r2⟩ := row_ok F.row n (ns.getD start 0) 20 S (by decide)
  obtain ⟨x12, a12, b12, h12⟩ := r1.at (k := 12) (by decide) (by decide)
  obtain ⟨x13, a13, b13, h13⟩ := r1.at (k := 13) (by decide) (by decide)
  obtain ⟨x14, a14, b14, h14⟩ := r1.at (k := 14) (by decide) (by decide)
  obtain ⟨x16, a16, b16, h16⟩ := r1.at (k := 16) (by decide) (by decide)
  obtain ⟨x17, a17, b17, h17⟩ := r1.at (k := 17) (by decide) (by decide)
  have f10 := fm (a := x12) (b := 10) (by decide)
  have em : 1 + x12.fmod 10 = (((1 + x12.fmod 10).toNat : Nat) : Int) := by omega
  obtain ⟨names, n1, n2, n3, n4⟩ := names_ok F.names n r1 (Nat.le_refl _) (by decide) (1 + x12.fmod 10).toNat (by omega) (by omega) S
  have e0 := cell_at_ok F.cell n ns start S
  have hc : cutD (ns.map D.int) (some ((start : Int) + 1)) (some ((start : Int) + 19)) = ((ns.drop (start + 1)).take 18).map D.int := by
    rw [cut_lh _ (by omega) (by omega), List.map_take, List.map_drop]
    congr 1
    omega
  obtain ⟨sl, roads, s1, s2, s3, loop⟩ := town_loop (P := P) F (n := n) (S := S) (a := .v (.lst (ns.map .int))) (b := .v (.int start)) (c := .v (.lst (rs.map .int))) (f := .no) (g := .no) (h := .no) (names := names) (.ol (names.map .str)) (.inl rfl) (by omega) (st := stays S [.lst (((ns.drop (start + 1)).take 18).map D.int)]) rfl ((ns.drop (start + 1)).take 18) (by simp; omega)
  have head := town_head (P := P) (n := n + 1) (iRow := iRow) (iCell := iCell) (iNames := iNames) (iRoad := iRoad) (ns := ns) (sl := sl) e0 r2 h12 em n4 hc loop
  have f14 := fm (a := x14) (b := (names.length : Int)) (by omega)
  have k5 : 0 < (if (names.length : Int) < 5 then (names.length : Int) else 5) := by split <;> omega
  have k5' : (if (names.length : Int) < 5 then (names.length : Int) else 5) ≤ 5 ∧ (if (names.length : Int) < 5 then (names.length : Int) else 5) ≤ names.length := by split <;> omega
  have f13 := fm (a := x13) k5
  have f121 := fm (a := x16) (b := 121) (by decide)
  have f13' := fm (a := x16) (b := 13) (by decide)
  have f4 := fm (a := x17) (b := 4) (by decide)
  have p4 := pick4 (.int (x16.fmod 121)) (.int (x16.fmod 13)) (.int 120) (.int 0) f4.1 f4.2
  obtain ⟨reach, hre, ere⟩ : ∃ s : Int, (0 ≤ s ∧ s ≤ 120) ∧ (if x17.fmod 4 = 0 then D.int (x16.fmod 121) else if x17.fmod 4 = 1 then .int (x16.fmod 13) else if x17.fmod 4 = 2 then .int 120 else .int 0) = .int s := by
    split
    · exact ⟨x16.fmod 121, by omega, rfl⟩
    · split
      · exact ⟨x16.fmod 13, by omega, rfl⟩
      · split
        · exact ⟨120, by omega, rfl⟩
        · exact ⟨0, by omega, rfl⟩
  rw [ere] at p4
  have tail := town_tail (P := P) (n := n + 1) (S := S) (iRow := iRow) (iCell := iCell) (iNames := iNames) (iRoad := iRoad) (a := .v (.lst (ns.map .int))) (b := .v (.int start)) (rds := roads.map (Road.d names)) (m := (names.length : Int)) sl s1 (by rw [q_lenL, List.length_map]) h13 h14 h16 h17 (by omega) rfl (by omega) rfl (by rw [List.length_map]; exact le_size (by omega)) f14.1 (by omega) p4 (.v (.lst (rs.map .int))) rfl
  obtain ⟨at', hat⟩ : ∃ a, a = (x14.fmod (names.length : Int)).toNat := ⟨_, rfl⟩
  obtain ⟨k, hk⟩ : ∃ k, k = ((x14.fmod (names.length : Int) + 1 + x13.fmod (if (names.length : Int) < 5 then (names.length : Int) else 5)).toNat - (x14.fmod (names.length : Int)).toNat) := ⟨_, rfl⟩
  have hk1 : 1 ≤ k ∧ k ≤ 5 ∧ k ≤ names.length := by omega
  have ha1 : at' ≤ names.length := by omega
  refine ⟨⟨names, roads, standsL names at' k, reach⟩, ⟨?_, ?_, n2, n3, ?_, s3, stands_mem, ?_, ?_, stands_nodup n2 ha1 hk1.2.2, hre.1, hre.2⟩, ?_⟩
  · show 1 ≤ names.length; omega
  · show names.length ≤ 10; omega
  · show roads.length ≤ 18
    have : ((ns.drop (start + 1)).take 18).length ≤ 18 := by simp; omega
    omega
  · show 1 ≤ (standsL names at' k).length
    rw [stands_len ha1 hk1.2.2]; exact hk1.1
  · show (standsL names at' k).length ≤ 5
    rw [stands_len ha1 hk1.2.2]; exact hk1.2.1
  · have e : finR (evSs P (callF P (n + 1)) (makeF P (n + 1)) (Sh.f__law_town iRow iCell iNames iRoad).body [.v (.lst (ns.map .int)), .v (.int start), .no, .no, .no, .no, .no, .no, .no] S) = .ok (.v (Town.d ⟨names, roads, standsL names at' k, reach⟩)) S := by
      rw [head, tail, ← hk, ← hat]
      simp [Town.d, standsL]
    exact e
end Iv
/-! Pt6: steps, roads driven -/
namespace Iv
open PySem
variable {P : Pg}
structure Stp where
  k : Nat
  a : Nat
  b : Nat
  m : Int
  deriving DecidableEq
def Stp.d (s : Stp) : D := .tup [.int s.k, .int s.a, .int s.b, .int s.m]
def oneWay (k a b : Nat) : Option Int → List Stp
  | some m => [⟨k, a, b, m⟩]
  | none => []
def roadSteps (shut : List Int) (k : Nat) (r : Road) : List Stp := if (k : Int) ∈ shut then [] else oneWay k r.a r.b r.go ++ oneWay k r.b r.a r.back
def stepsFrom (shut : List Int) : Nat → List Road → List Stp
  | _, [] => []
  | k, r :: rs => roadSteps shut k r ++ stepsFrom shut (k + 1) rs
def stepsOf (t : Town) (shut : List Int) : List Stp := stepsFrom shut 0 t.roads
theorem stepsFrom_app (shut : List Int) : ∀ (k : Nat) (rs : List Road) (r : Road), stepsFrom shut k (rs ++ [r]) = stepsFrom shut k rs ++ roadSteps shut (k + rs.length) r
  | k, [], r => by simp [stepsFrom]
  | k, q :: rs, r => by
    have := stepsFrom_app shut (k + 1) rs r
    simp only [List.cons_append, stepsFrom, this, List.append_assoc, List.length_cons]
    congr 3
    omega
theorem nm_idx {names : List Str} (h : names.Nodup) {a : Nat} (ha : a < names.length) : (names.findIdx? fun y => decide (y = nmAt names a)) = some a := by
  rw [List.findIdx?_eq_some_iff_getElem]
  have e : nmAt names a = names[a] := by simp [nmAt, List.getD_eq_getElem?_getD, ha]
  refine ⟨ha, by simp [e], fun j hj => ?_⟩
  simp only [e, decide_eq_true_eq]
  intro z
  have := (List.getElem_inj h).mp z
  omega
theorem nm_inj {names : List Str} (h : names.Nodup) {a b : Nat} (ha : a < names.length) (hb : b < names.length) : nmAt names a = nmAt names b ↔ a = b := by
  constructor
  · intro e
    have h1 := nm_idx h ha
    rw [e, nm_idx h hb] at h1
    exact (Option.some.inj h1).symm
  · rintro rfl; rfl
theorem len_steps (shut : List Int) : ∀ (k : Nat) (rs : List Road), (stepsFrom shut k rs).length ≤ 2 * rs.length
  | _, [] => by simp [stepsFrom]
  | k, r :: rs => by
    have ih := len_steps shut (k + 1) rs
    have h1 : ∀ k a b o, (oneWay k a b o).length ≤ 1 := fun k a b o => by cases o <;> simp [oneWay]
    have h2 : (roadSteps shut k r).length ≤ 2 := by
      unfold roadSteps
      split
      · simp
      · rw [List.length_append]
        have := h1 k r.a r.b r.go
        have := h1 k r.b r.a r.back
        omega
    simp only [stepsFrom, List.length_append, List.length_cons]
    omega
def one1 (kk a b : Int) : Option Int → List D
  | some m => [D.tup [.int kk, .int a, .int b, .int m]]
  | none => []
theorem one1_eq (k a b : Nat) (o : Option Int) : one1 k a b o = (oneWay k a b o).map Stp.d := by cases o <;> rfl
theorem steps_turn {n : Nat} {S : Sto} {kk : Int} {shut : List Int} {nms rdsD : List D} {x3 x4 : D} {fs : List D} {n1 n2 : Str} {go back : Option Int} {a b : Int} (hr : L2.atI rdsD kk = some (.tup [.str n1, .str n2, oD go, oD back]))
    (i1 : primD S .index [.tup nms, .str n1] = some (.v (.int a))) (i2 : primD S .index [.tup nms, .str n2] = some (.v (.int b))) (hz : fs.length + 2 < sizeLine) :
    evSs P (callF P n) (makeF P n) Sh.b1__law_steps [.v (.tup [.tup nms, .tup rdsD, x3, x4]), .v (.tup (shut.map .int)), .ol fs, .v (.int kk), .no, .no, .no, .no, .no, .no] S =
    .ok .next [.v (.tup [.tup nms, .tup rdsD, x3, x4]), .v (.tup (shut.map .int)), .ol (fs ++ (if kk ∈ shut then [] else one1 kk a b go ++ one1 kk b a back)), .v (.int kk), .v (.str n1), .v (.str n2), .v (oD go), .v (oD back), .v (.int a), .v (.int b)] S := by
  have ns := nin_ints S kk shut
  have z4 : (4 : Nat) ≤ sizeLine := le_size (by decide)
  have z1 : fs.length < sizeLine := by omega
  have z2 : fs.length + 1 < sizeLine := by omega
  have at1 : L2.atI [D.tup nms, .tup rdsD, x3, x4] 1 = some (.tup rdsD) := rfl
  have at0 : L2.atI [D.tup nms, .tup rdsD, x3, x4] 0 = some (.tup nms) := rfl
  generalize hsd : shut.map D.int = sd at *
  simp only [Sh.b1__law_steps]
  rw [ss_n (ρ1 := [.v (.tup [.tup nms, .tup rdsD, x3, x4]), .v (.tup sd), .ol fs, .v (.int kk), .v (.str n1), .v (.str n2), .v (oD go), .v (oD back), .no, .no]) (S1 := S) (by simp [at1, hr])]
  rw [ss_n (ρ1 := [.v (.tup [.tup nms, .tup rdsD, x3, x4]), .v (.tup sd), .ol fs, .v (.int kk), .v (.str n1), .v (.str n2), .v (oD go), .v (oD back), .v (.int a), .no]) (S1 := S) (by simp [at0, i1])]
  rw [ss_n (ρ1 := [.v (.tup [.tup nms, .tup rdsD, x3, x4]), .v (.tup sd), .ol fs, .v (.int kk), .v (.str n1), .v (.str n2), .v (oD go), .v (oD back), .v (.int a), .v (.int b)]) (S1 := S) (by simp [at0, i2])]
  by_cases h : kk ∈ shut
  · simp [ns, h]
  · cases go <;> cases back <;> simp [ns, h, oD, z1, z2, z4, one1]
theorem steps_fin {n : Nat} {S : Sto} {nd rd std x4 : D} {sd items out : List D} {len : Int} (at1 : L2.atI [nd, rd, std, x4] 1 = some rd) (hlen : primD S .len [rd] = some (.v (.int len))) (it : itemsD S .range1 [.int len] = some items)
    (e : forLoop (.nm 3) (evSs P (callF P n) (makeF P n) Sh.b1__law_steps) [3, 4, 5, 6, 7, 8, 9] (stays S [.int len]) items [.v (.tup [nd, rd, std, x4]), .v (.tup sd), .ol [], .no, .no, .no, .no, .no, .no, .no] S = .ok .next [.v (.tup [nd, rd, std, x4]), .v (.tup sd), .ol out, .no, .no, .no, .no, .no, .no, .no] S) :
    finR (evSs P (callF P n) (makeF P n) Sh.f__law_steps.body [.v (.tup [nd, rd, std, x4]), .v (.tup sd), .no, .no, .no, .no, .no, .no, .no, .no] S) = .ok (.ol out) S := by
  simp [Sh.f__law_steps, at1, hlen, it, kill]
  rw [e]
  simp
theorem steps_ok {i : Nat} (hP : P.fns[i]? = some Sh.f__law_steps) (n : Nat) {t : Town} (ht : TownOk t) (shut : List Int) (S : Sto) : callF P (n + 1) i [t.d, .tup (shut.map .int)] S = .ok (.ol ((stepsOf t shut).map Stp.d)) S := by
  rw [run_def hP rfl]
  have hrl := ht.r18
  obtain ⟨ρ', e, rfl⟩ := for_invP (tg := .nm 3) (fb := evSs P (callF P n) (makeF P n) Sh.b1__law_steps) (ks := [3, 4, 5, 6, 7, 8, 9]) (st := stays S [.int t.roads.length]) (S := S) rfl (fun k : Nat => D.int (k : Int))
    (fun pre ρ => ρ = [.v t.d, .v (.tup (shut.map .int)), .ol ((stepsFrom shut 0 (t.roads.take pre.length)).map Stp.d), .no, .no, .no, .no, .no, .no, .no])
    (List.range t.roads.length) [.v t.d, .v (.tup (shut.map .int)), .ol [], .no, .no, .no, .no, .no, .no, .no] rfl (by
      rintro pre k post ρ hp rfl
      have hk : pre.length = k ∧ k < t.roads.length := by
        have h1 := congrArg List.length hp
        have h2 := congrArg (fun l => l[pre.length]?) hp
        simp at h1 h2
        rw [List.getElem?_range (by omega)] at h2
        simp at h2
        omega
      obtain ⟨hk1, hk2⟩ := hk
      have hr : t.roads[k]? = some t.roads[k] := List.getElem?_eq_getElem hk2
      have rk := ht.rd _ (List.getElem_mem hk2)
      have hat : L2.atI (t.roads.map (Road.d t.names)) (k : Int) = some (Road.d t.names t.roads[k]) := by
        rw [atI_nat _ (by omega)]
        simp [hr]
      have i1 : primD S .index [.tup (t.names.map .str), .str (nmAt t.names t.roads[k].a)] = some (.v (.int (t.roads[k].a : Nat))) := by rw [q_index, nm_idx ht.nd rk.a]; rfl
      have i2 : primD S .index [.tup (t.names.map .str), .str (nmAt t.names t.roads[k].b)] = some (.v (.int (t.roads[k].b : Nat))) := by rw [q_index, nm_idx ht.nd rk.b]; rfl
      have hl := len_steps shut 0 (t.roads.take pre.length)
      have hl2 : (t.roads.take pre.length).length ≤ 18 := by simp; omega
      have turn := steps_turn (P := P) (n := n) (S := S) (kk := (k : Int)) (shut := shut) (x3 := .tup (t.stands.map .str)) (x4 := .int t.reach) (fs := (stepsFrom shut 0 (t.roads.take pre.length)).map Stp.d) hat i1 i2 (by rw [List.length_map, sizeLine_eq]; omega)
      refine ⟨_, _, by rw [bT_nm, if_pos (by simp)]; rfl, turn, ?_⟩
      simp only [kill, List.set_cons_succ, List.set_cons_zero, List.length_append, List.length_cons, List.length_nil]
      have ht2 : t.roads.take (pre.length + (0 + 1)) = t.roads.take pre.length ++ [t.roads[k]] := by
        rw [Nat.zero_add, List.take_succ, hk1, hr]; rfl
      rw [ht2, stepsFrom_app]
      have hlen : (t.roads.take pre.length).length = k := by rw [List.length_take]; omega
      rw [hlen, Nat.zero_add, List.map_append]
      congr 3
      unfold roadSteps
      by_cases h : (k : Int) ∈ shut
      · rw [if_pos h, if_pos h]; rfl
      · rw [if_neg h, if_neg h]
        rw [one1_eq, one1_eq, List.map_append])
  have e2 : t.roads.take (List.range t.roads.length).length = t.roads := by rw [List.length_range, List.take_length]
  rw [e2] at e
  have it := row_it t.roads.length S (by omega)
  have hlen : primD S .len [.tup (t.roads.map (Road.d t.names))] = some (.v (.int t.roads.length)) := by rw [q_lenT, List.length_map]
  have at1 : L2.atI [D.tup (t.names.map .str), .tup (t.roads.map (Road.d t.names)), .tup (t.stands.map .str), .int t.reach] 1 = some (.tup (t.roads.map (Road.d t.names))) := rfl
  exact steps_fin at1 hlen it e
/-! ### driven -/
def drive (r : Road) (p : Nat) : Option (Nat × Int) := match (if r.a = p then r.go else none) with
  | some m => some (r.b, m)
  | none => match (if r.b = p then r.back else none) with
    | some m => some (r.a, m)
    | none => none
def drD (names : List Str) : Option (Nat × Int) → D
  | some (q, m) => .tup [.str (nmAt names q), .int m]
  | none => .non
theorem driven_ok {i : Nat} (hP : P.fns[i]? = some Sh.f_driven) (n : Nat) {names : List Str} (hn : names.Nodup) {r : Road} (hr : RoadOk names.length r) {p : Nat} (hp : p < names.length) (S : Sto) :
    callF P (n + 1) i [r.d names, .str (nmAt names p)] S = .ok (.v (drD names (drive r p))) S := by
  rw [run_def hP rfl]
  have e1 : (nmAt names r.a = nmAt names p) = (r.a = p) := propext (nm_inj hn hr.a hp)
  have e2 : (nmAt names r.b = nmAt names p) = (r.b = p) := propext (nm_inj hn hr.b hp)
  have z2 : (2 : Nat) ≤ sizeLine := le_size (by decide)
  have key : finR (evSs P (callF P n) (makeF P n) Sh.f_driven.body [.v (.tup [.str (nmAt names r.a), .str (nmAt names r.b), oD r.go, oD r.back]), .v (.str (nmAt names p)), .no, .no, .no, .no] S) = .ok (.v (drD names (drive r p))) S := by
    unfold drive
    cases hg : r.go <;> cases hb : r.back <;> by_cases h1 : r.a = p <;> by_cases h2 : r.b = p <;> simp [Sh.f_driven, oD, e1, e2, h1, h2, drD, z2]
  exact key
theorem drive_lt {r : Road} {p q : Nat} {m : Int} {c : Nat} (hr : RoadOk c r) (h : drive r p = some (q, m)) : q < c := by
  unfold drive at h
  split at h
  · cases h; exact hr.b
  · split at h
    · cases h; exact hr.a
    · cases h
theorem steps_drive (shut : List Int) : ∀ (k : Nat) (rs : List Road) (c : Nat), (∀ r ∈ rs, RoadOk c r) → ∀ s ∈ stepsFrom shut k rs, k ≤ s.k ∧ ∃ r, rs[s.k - k]? = some r ∧ drive r s.a = some (s.b, s.m) ∧ s.a < c ∧ (s.k : Int) ∉ shut
  | _, [], _, _, s, h => by simp [stepsFrom] at h
  | k, r :: rs, c, hr, s, h => by
    simp only [stepsFrom, List.mem_append] at h
    rcases h with h | h
    · have rk := hr r (by simp)
      unfold roadSteps at h
      split at h
      · simp at h
      · rename_i hns
        rcases List.mem_append.mp h with h | h
        · cases hg : r.go with
          | none => rw [hg] at h; simp [oneWay] at h
          | some m =>
            rw [hg] at h
            simp only [oneWay, List.mem_singleton] at h
            subst h
            exact ⟨Nat.le_refl _, r, by simp, by simp [drive, hg], rk.a, hns⟩
        · cases hb : r.back with
          | none => rw [hb] at h; simp [oneWay] at h
          | some m =>
            rw [hb] at h
            simp only [oneWay, List.mem_singleton] at h
            subst h
            have ne : r.a ≠ r.b := rk.ne
            exact ⟨Nat.le_refl _, r, by simp, by simp [drive, ne, hb], rk.b, hns⟩
    · obtain ⟨h1, r', h2, h3, h4, h5⟩ := steps_drive shut (k + 1) rs c (fun x hx => hr x (by simp [hx])) s h
      refine ⟨by omega, r', ?_, h3, h4, h5⟩
      have : s.k - k = (s.k - (k + 1)) + 1 := by omega
      rw [this, List.getElem?_cons_succ]
      exact h2
/-! ### minutes_of -/
def walkTo (t : Town) : Nat → List Nat → Option (Nat × Int)
  | p, [] => some (p, 0)
  | p, k :: ks => match t.roads[k]? with
    | some r => (match drive r p with
      | some (q, m) => (match walkTo t q ks with
        | some (z, s) => some (z, m + s)
        | none => none)
      | none => none)
    | none => none
theorem min_loop {iD : Nat} (hD : P.fns[iD]? = some Sh.f_driven) {n : Nat} {S : Sto} {t : Town} (ht : TownOk t) {st : Sto → Bool} (hst : st S = true) {x1 x2 : Slot} : ∀ (ks : List Nat) (p q : Nat) (tot s : Int), p < t.names.length → walkTo t p ks = some (q, s) →
    forLoop (.nm 5) (evSs P (callF P (n + 1)) (makeF P (n + 1)) (Sh.b1_minutes_of iD)) [5, 6] st (ks.map fun k : Nat => D.int (k : Int)) [.v t.d, x1, x2, .v (.int tot), .v (.str (nmAt t.names p)), .no, .no] S =
    .ok .next [.v t.d, x1, x2, .v (.int (tot + s)), .v (.str (nmAt t.names q)), .no, .no] S
  | [], p, q, tot, s, hp, h => by
    simp only [walkTo, Option.some.injEq, Prod.mk.injEq] at h
    obtain ⟨rfl, rfl⟩ := h
    simp [for_0]
  | k :: ks, p, q, tot, s, hp, h => by
    simp only [walkTo] at h
    split at h
    · rename_i r hr
      split at h
      · rename_i q1 m hd
        split at h
        · rename_i z s1 hw
          simp only [Option.some.injEq, Prod.mk.injEq] at h
          obtain ⟨rfl, rfl⟩ := h
          have hk : k < t.roads.length := (List.getElem?_eq_some_iff.mp hr).1
          have rk := ht.rd r (List.mem_of_getElem? hr)
          have hq := drive_lt rk hd
          have ih := min_loop hD (n := n) (S := S) ht hst (x1 := x1) (x2 := x2) ks q1 z (tot + m) s1 hq hw
          have dv := driven_ok hD n ht.nd rk hp S
          rw [hd] at dv
          have hat : L2.atI (t.roads.map (Road.d t.names)) (k : Int) = some (Road.d t.names r) := by
            rw [atI_nat _ (by omega)]
            simp [hr]
          have at1 : L2.atI [D.tup (t.names.map .str), .tup (t.roads.map (Road.d t.names)), .tup (t.stands.map .str), .int t.reach] 1 = some (.tup (t.roads.map (Road.d t.names))) := rfl
          rw [List.map_cons, for_1 (ρ1 := [.v t.d, x1, x2, .v (.int tot), .v (.str (nmAt t.names p)), .v (.int k), .no]) (ρ2 := [.v t.d, x1, x2, .v (.int (tot + m)), .v (.str (nmAt t.names q1)), .v (.int k), .v (.int m)]) (S2 := S) (by simp) ?_ hst]
          · simp only [kill, List.set_cons_succ, List.set_cons_zero]
            rw [ih, Int.add_assoc]
          · have hd : t.d = .tup [D.tup (t.names.map .str), .tup (t.roads.map (Road.d t.names)), .tup (t.stands.map .str), .int t.reach] := rfl
            rw [hd]
            generalize t.roads.map (Road.d t.names) = rd at *
            generalize t.names.map D.str = nd at *
            generalize t.stands.map D.str = std at *
            generalize (k : Int) = kk at *
            generalize Road.d t.names r = rdd at *
            simp only [drD] at dv
            simp [Sh.b1_minutes_of, at1, hat, dv]
        · cases h
      · cases h
    · cases h
theorem minutes_ok {i iD : Nat} (hD : P.fns[iD]? = some Sh.f_driven) (hP : P.fns[i]? = some (Sh.f_minutes_of iD)) (n : Nat) {t : Town} (ht : TownOk t) {p q : Nat} {s : Int} {ks : List Nat} (hp : p < t.names.length) (hw : walkTo t p ks = some (q, s)) (S : Sto) :
    callF P (n + 2) i [t.d, .str (nmAt t.names p), .tup (ks.map fun k : Nat => D.int (k : Int))] S = .ok (.v (.int s)) S := by
  rw [run_def hP rfl]
  have l := min_loop hD (n := n) (S := S) ht (st := stays S [.tup (ks.map fun k : Nat => D.int (k : Int))]) rfl (x1 := .v (.str (nmAt t.names p))) (x2 := .v (.tup (ks.map fun k : Nat => D.int (k : Int)))) ks p q 0 s hp hw
  rw [Int.zero_add] at l
  have key : finR (evSs P (callF P (n + 1)) (makeF P (n + 1)) (Sh.f_minutes_of iD).body [.v t.d, .v (.str (nmAt t.names p)), .v (.tup (ks.map fun k : Nat => D.int (k : Int))), .no, .no, .no, .no] S) = .ok (.v (.int s)) S := by
    generalize (ks.map fun k : Nat => D.int (k : Int)) = kd at *
    simp [Sh.f_minutes_of, kill]
    rw [l]
    simp
  exact key
end Iv
/-! Pc0: charts by going over one place more at a time: the plain law -/
namespace Iv
/-- least minutes: goal, place -/
abbrev Mx := Nat → Nat → Option Int
def relE (a b c : Option Int) : Option Int := match b, c with
  | some x, some y => (match a with
    | some v => if v > x + y then some (x + y) else some v
    | none => some (x + y))
  | _, _ => a
def eE (a : Option Int) (m : Int) : Option Int := match a with
  | some v => if v > m then some m else some v
  | none => some m
def updM (M : Mx) (g h : Nat) (v : Option Int) : Mx := fun g' h' => if g' = g ∧ h' = h then v else M g' h'
def edgeT (M : Mx) (s : Stp) : Mx := updM M s.b s.a (eE (M s.b s.a) s.m)
def midT (k g : Nat) (M : Mx) (h : Nat) : Mx := updM M g h (relE (M g h) (M k h) (M g k))
def rowT (n k : Nat) (M : Mx) (g : Nat) : Mx := (List.range n).foldl (midT k g) M
def phase (n : Nat) (M : Mx) (k : Nat) : Mx := (List.range n).foldl (rowT n k) M
def M0 : Mx := fun g h => if h = g then some 0 else none
def chartM (n : Nat) (L : List Stp) : Mx := (List.range n).foldl (phase n) (L.foldl edgeT M0)
theorem upd_eq {M : Mx} {g h : Nat} {v : Option Int} : updM M g h v g h = v := by simp [updM]
theorem rel_le1 {a b c : Option Int} {v : Int} (h : a = some v) : ∃ u, relE a b c = some u ∧ u ≤ v := by
  subst h
  unfold relE
  split
  · dsimp only
    split
    · exact ⟨_, rfl, by omega⟩
    · exact ⟨_, rfl, by omega⟩
  · exact ⟨_, rfl, by omega⟩
theorem rel_le2 {a b c : Option Int} {x y : Int} (h1 : b = some x) (h2 : c = some y) : ∃ u, relE a b c = some u ∧ u ≤ x + y := by
  subst h1 h2
  unfold relE
  dsimp only
  cases a with
  | none => exact ⟨_, rfl, by omega⟩
  | some v =>
    dsimp only
    split
    · exact ⟨_, rfl, by omega⟩
    · exact ⟨_, rfl, by omega⟩
theorem rel_cases {a b c : Option Int} {v : Int} (h : relE a b c = some v) : a = some v ∨ ∃ x y, b = some x ∧ c = some y ∧ v = x + y ∧ ∀ w, a = some w → x + y < w := by
  unfold relE at h
  split at h
  · rename_i x y
    cases a with
    | none =>
      dsimp only at h
      cases h
      exact .inr ⟨x, y, rfl, rfl, rfl, fun w hw => by cases hw⟩
    | some w =>
      dsimp only at h
      split at h
      · cases h
        exact .inr ⟨x, y, rfl, rfl, rfl, fun w' hw => by cases hw; omega⟩
      · exact .inl h
  · exact .inl h
theorem rel_idem {a b c : Option Int} : relE (relE a b c) b c = relE a b c := by
  unfold relE
  cases b with
  | none => rfl
  | some x =>
    cases c with
    | none => rfl
    | some y =>
      dsimp only
      cases a with
      | none => simp
      | some v =>
        dsimp only
        by_cases h : v > x + y
        · rw [if_pos h]; simp
        · rw [if_neg h]; simp [h]
theorem rel_zero1 {a c : Option Int} (h : c = some 0) : relE a a c = a := by
  subst h
  unfold relE
  cases a with
  | none => rfl
  | some v => simp
theorem rel_zero2 {a b : Option Int} (h : b = some 0) : relE a b a = a := by
  subst h
  unfold relE
  cases a with
  | none => rfl
  | some v => simp
/-- what a turn by place k leaves -/
theorem row_get {k g : Nat} : ∀ (hs : List Nat) (M : Mx), M k k = some 0 → (hs.foldl (midT k g) M) = fun g' h' => if g' = g ∧ h' ∈ hs then relE (M g' h') (M k h') (M g' k) else M g' h'
  | [], M, hz => by funext g' h'; simp
  | a :: hs, M, hz => by
    have e1 : ∀ x, midT k g M a k x = M k x := fun x => by
      unfold midT updM
      split
      · rename_i q; obtain ⟨rfl, rfl⟩ := q
        exact rel_zero1 hz
      · rfl
    have e2 : ∀ x, midT k g M a x k = M x k := fun x => by
      unfold midT updM
      split
      · rename_i q; obtain ⟨rfl, rfl⟩ := q
        exact rel_zero2 hz
      · rfl
    rw [List.foldl_cons, row_get hs _ (by rw [e1]; exact hz)]
    funext g' h'
    rw [e1, e2]
    by_cases hg : g' = g
    · subst hg
      by_cases ha : h' = a
      · subst ha
        have e3 : midT k g' M h' g' h' = relE (M g' h') (M k h') (M g' k) := by simp [midT, updM]
        rw [e3]
        by_cases hm : h' ∈ hs
        · simp [hm, rel_idem]
        · simp [hm]
      · have e3 : midT k g' M a g' h' = M g' h' := by simp [midT, updM, ha]
        rw [e3]
        simp [ha]
    · have e3 : midT k g M a g' h' = M g' h' := by simp [midT, updM, hg]
      rw [e3]
      simp [hg]
theorem rows_get {n k : Nat} : ∀ (gs : List Nat) (M : Mx), M k k = some 0 → (gs.foldl (rowT n k) M) = fun g' h' => if g' ∈ gs ∧ h' < n then relE (M g' h') (M k h') (M g' k) else M g' h'
  | [], M, hz => by funext g' h'; simp
  | a :: gs, M, hz => by
    have e0 : ∀ g' h', rowT n k M a g' h' = if g' = a ∧ h' < n then relE (M g' h') (M k h') (M g' k) else M g' h' := fun g' h' => by
      unfold rowT
      rw [row_get _ _ hz]
      simp
    have e1 : ∀ x, rowT n k M a k x = M k x := fun x => by
      rw [e0]
      split
      · exact rel_zero1 hz
      · rfl
    have e2 : ∀ x, rowT n k M a x k = M x k := fun x => by
      rw [e0]
      split
      · exact rel_zero2 hz
      · rfl
    rw [List.foldl_cons, rows_get gs _ (by rw [e1]; exact hz)]
    funext g' h'
    rw [e1, e2, e0]
    by_cases hg : g' = a
    · subst hg
      by_cases hn : h' < n
      · by_cases hm : g' ∈ gs
        · simp [hm, hn, rel_idem]
        · simp [hm, hn]
      · simp [hn]
    · simp [hg]
theorem phase_get {n k : Nat} {M : Mx} (hz : M k k = some 0) (g h : Nat) : phase n M k g h = if g < n ∧ h < n then relE (M g h) (M k h) (M g k) else M g h := by
  unfold phase
  rw [rows_get _ _ hz]
  simp
/-- what is kept, over the places below k -/
structure ChOk (n k : Nat) (L : List Stp) (M : Mx) : Prop where
  z : ∀ g, M g g = some 0
  nn : ∀ g h v, M g h = some v → 0 ≤ v
  e : ∀ s ∈ L, ∃ u, M s.b s.a = some u ∧ u ≤ s.m
  t : ∀ m, m < k → ∀ g h, g < n → h < n → ∀ x y, M m h = some x → M g m = some y → ∃ v, M g h = some v ∧ v ≤ x + y
  i : ∀ g h, g < n → h < n → h ≠ g → ∀ v, M g h = some v → ∃ s ∈ L, s.a = h ∧ ∃ u, M g s.b = some u ∧ u + s.m ≤ v
def StOk (n : Nat) (L : List Stp) : Prop := ∀ s ∈ L, s.a < n ∧ s.b < n ∧ s.a ≠ s.b ∧ 0 ≤ (s.m : Int)
theorem ch_phase {n k : Nat} {L : List Stp} {M : Mx} (hL : StOk n L) (hk : k < n) (c : ChOk n k L M) : ChOk n (k + 1) L (phase n M k) := by
  have pg := fun g h => phase_get (n := n) (c.z k) g h
  have pin : ∀ g h, g < n → h < n → phase n M k g h = relE (M g h) (M k h) (M g k) := fun g h h1 h2 => by rw [pg, if_pos ⟨h1, h2⟩]
  have cs : ∀ g h, g < n → h < n → ∀ v, phase n M k g h = some v → M g h = some v ∨ ∃ x y, M k h = some x ∧ M g k = some y ∧ v = x + y ∧ ∀ w, M g h = some w → x + y < w := fun g h h1 h2 v hv => by
    rw [pin g h h1 h2] at hv
    exact rel_cases hv
  refine ⟨fun g => ?_, fun g h v hv => ?_, fun s hs => ?_, fun m hm g h hg hh x y hx hy => ?_, fun g h hg hh hne v hv => ?_⟩
  · rw [pg]
    split
    · cases hr : relE (M g g) (M k g) (M g k) with
      | none =>
        obtain ⟨u, hu, _⟩ := rel_le1 (b := M k g) (c := M g k) (c.z g)
        rw [hr] at hu; cases hu
      | some v =>
        rcases rel_cases hr with h | ⟨x, y, h1, h2, h3, h4⟩
        · rw [c.z g] at h; exact h.symm
        · have a1 := c.nn _ _ _ h1
          have a2 := c.nn _ _ _ h2
          have a3 := h4 0 (c.z g)
          omega
    · exact c.z g
  · rw [pg] at hv
    split at hv
    · rcases rel_cases hv with h | ⟨x, y, h1, h2, h3, _⟩
      · exact c.nn _ _ _ h
      · have a1 := c.nn _ _ _ h1
        have a2 := c.nn _ _ _ h2
        omega
    · exact c.nn _ _ _ hv
  · obtain ⟨u, h1, h2⟩ := c.e s hs
    obtain ⟨la, lb, _, _⟩ := hL s hs
    rw [pin _ _ lb la]
    obtain ⟨w, h3, h4⟩ := rel_le1 (b := M k s.a) (c := M s.b k) h1
    exact ⟨w, h3, by omega⟩
  · rw [pin g h hg hh]
    have hmn : m < n := by omega
    by_cases hmk : m = k
    · subst hmk
      have hx' : M m h = some x := by
        rcases cs m h hmn hh x hx with h1 | ⟨x1, y1, h1, h2, h3, _⟩
        · exact h1
        · rw [c.z m] at h2
          cases h2
          rw [h1, h3]; simp
      have hy' : M g m = some y := by
        rcases cs g m hg hmn y hy with h1 | ⟨x1, y1, h1, h2, h3, _⟩
        · exact h1
        · rw [c.z m] at h1
          cases h1
          rw [h2, h3]; simp
      exact rel_le2 hx' hy'
    · have hmk : m < k := by omega
      rcases cs m h hmn hh x hx with h1 | ⟨x1, x2, h1, h2, h3, _⟩
      · rcases cs g m hg hmn y hy with g1 | ⟨y1, y2, g1, g2, g3, _⟩
        · obtain ⟨v, v1, v2⟩ := c.t m hmk g h hg hh x y h1 g1
          obtain ⟨w, w1, w2⟩ := rel_le1 (b := M k h) (c := M g k) v1
          exact ⟨w, w1, by omega⟩
        · obtain ⟨v, v1, v2⟩ := c.t m hmk k h hk hh x y1 h1 g1
          obtain ⟨w, w1, w2⟩ := rel_le2 (a := M g h) v1 g2
          exact ⟨w, w1, by omega⟩
      · rcases cs g m hg hmn y hy with g1 | ⟨y1, y2, g1, g2, g3, _⟩
        · obtain ⟨v, v1, v2⟩ := c.t m hmk g k hg hk x2 y h2 g1
          obtain ⟨w, w1, w2⟩ := rel_le2 (a := M g h) h1 v1
          exact ⟨w, w1, by omega⟩
        · obtain ⟨w, w1, w2⟩ := rel_le2 (a := M g h) h1 g2
          have a1 := c.nn _ _ _ h2
          have a2 := c.nn _ _ _ g1
          exact ⟨w, w1, by omega⟩
  · rcases cs g h hg hh v hv with h1 | ⟨x, y, h1, h2, h3, h4⟩
    · obtain ⟨s, s1, s2, u, s3, s4⟩ := c.i g h hg hh hne v h1
      obtain ⟨la, lb, _, _⟩ := hL s s1
      obtain ⟨w, w1, w2⟩ := rel_le1 (b := M k s.b) (c := M g k) s3
      exact ⟨s, s1, s2, w, by rw [pin g s.b hg lb]; exact w1, by omega⟩
    · by_cases hhk : h = k
      · subst hhk
        rw [c.z h] at h1
        cases h1
        have := h4 y h2
        omega
      · obtain ⟨s, s1, s2, u, s3, s4⟩ := c.i k h hk hh hhk x h1
        obtain ⟨la, lb, _, _⟩ := hL s s1
        obtain ⟨w, w1, w2⟩ := rel_le2 (a := M g s.b) s3 h2
        exact ⟨s, s1, s2, w, by rw [pin g s.b hg lb]; exact w1, by omega⟩
/-- behind the steps -/
theorem ch_edges {n : Nat} {L : List Stp} (hL : StOk n L) : ChOk n 0 L (L.foldl edgeT M0) := by
  have gen : ∀ (R : List Stp) (M : Mx), (∀ s ∈ R, s ∈ L) → (∀ g, M g g = some 0) → (∀ g h v, M g h = some v → 0 ≤ v) → (∀ g h, h ≠ g → ∀ v, M g h = some v → ∃ s ∈ L, s.a = h ∧ s.b = g ∧ (s.m : Int) = v) →
      (∀ g, R.foldl edgeT M g g = some 0) ∧ (∀ g h v, R.foldl edgeT M g h = some v → 0 ≤ v) ∧ (∀ g h, h ≠ g → ∀ v, R.foldl edgeT M g h = some v → ∃ s ∈ L, s.a = h ∧ s.b = g ∧ (s.m : Int) = v) ∧
      (∀ s ∈ R, ∃ u, R.foldl edgeT M s.b s.a = some u ∧ u ≤ s.m) ∧ ∀ g h v, M g h = some v → ∃ u, R.foldl edgeT M g h = some u ∧ u ≤ v := by
    intro R
    induction R with
    | nil => intro M hR hz hn hi; exact ⟨hz, hn, hi, by simp, fun g h v hv => ⟨v, hv, by omega⟩⟩
    | cons s R ih =>
      intro M hR hz hn hi
      obtain ⟨la, lb, lne, lm⟩ := hL s (hR s (by simp))
      have eo : ∀ g h, ¬ (g = s.b ∧ h = s.a) → edgeT M s g h = M g h := fun g h q => by unfold edgeT updM; rw [if_neg q]
      have es : edgeT M s s.b s.a = eE (M s.b s.a) s.m := upd_eq
      have ee : ∃ u, eE (M s.b s.a) s.m = some u ∧ u ≤ s.m ∧ (∀ v, M s.b s.a = some v → u ≤ v) ∧ (u = s.m ∨ M s.b s.a = some u) := by
        unfold eE
        cases hM : M s.b s.a with
        | none => exact ⟨_, rfl, by omega, fun v hv => (by cases hv), .inl rfl⟩
        | some w =>
          dsimp only
          split
          · exact ⟨_, rfl, by omega, fun v hv => (by cases hv; omega), .inl rfl⟩
          · exact ⟨_, rfl, by omega, fun v hv => (by cases hv; omega), .inr rfl⟩
      obtain ⟨u0, u1, u2, u3, u4⟩ := ee
      have q1 : ∀ g, edgeT M s g g = some 0 := fun g => by
        rw [eo g g (by rintro ⟨a, b⟩; exact lne (by rw [← b, a]))]; exact hz g
      have q2 : ∀ g h v, edgeT M s g h = some v → 0 ≤ v := fun g h v hv => by
        by_cases q : g = s.b ∧ h = s.a
        · obtain ⟨rfl, rfl⟩ := q
          rw [es, u1] at hv
          cases hv
          rcases u4 with rfl | u4
          · exact lm
          · exact hn _ _ _ u4
        · rw [eo g h q] at hv; exact hn _ _ _ hv
      have q3 : ∀ g h, h ≠ g → ∀ v, edgeT M s g h = some v → ∃ s ∈ L, s.a = h ∧ s.b = g ∧ (s.m : Int) = v := fun g h hne v hv => by
        by_cases q : g = s.b ∧ h = s.a
        · obtain ⟨rfl, rfl⟩ := q
          rw [es, u1] at hv
          cases hv
          rcases u4 with rfl | u4
          · exact ⟨s, hR s (by simp), rfl, rfl, rfl⟩
          · exact hi _ _ hne _ u4
        · rw [eo g h q] at hv; exact hi _ _ hne _ hv
      have q4 : ∀ g h v, M g h = some v → ∃ u, edgeT M s g h = some u ∧ u ≤ v := fun g h v hv => by
        by_cases q : g = s.b ∧ h = s.a
        · obtain ⟨rfl, rfl⟩ := q
          exact ⟨u0, by rw [es, u1], u3 v hv⟩
        · exact ⟨v, by rw [eo g h q]; exact hv, by omega⟩
      obtain ⟨r1, r2, r3, r4, r5⟩ := ih (edgeT M s) (fun x hx => hR x (by simp [hx])) q1 q2 q3
      refine ⟨r1, r2, r3, fun x hx => ?_, fun g h v hv => ?_⟩
      · rcases List.mem_cons.mp hx with rfl | hx
        · obtain ⟨u, v1, v2⟩ := r5 _ _ _ (show edgeT M x x.b x.a = some u0 by rw [es, u1])
          exact ⟨u, v1, by omega⟩
        · exact r4 x hx
      · obtain ⟨u, v1, v2⟩ := q4 g h v hv
        obtain ⟨w, w1, w2⟩ := r5 _ _ _ v1
        exact ⟨w, w1, by omega⟩
  obtain ⟨r1, r2, r3, r4, _⟩ := gen L M0 (fun s h => h) (fun g => by simp [M0]) (fun g h v hv => by
    unfold M0 at hv
    split at hv
    · cases hv; decide
    · cases hv) (fun g h hne v hv => by
    unfold M0 at hv
    rw [if_neg hne] at hv; cases hv)
  refine ⟨r1, r2, r4, fun m hm => absurd hm (Nat.not_lt_zero m), fun g h hg hh hne v hv => ?_⟩
  obtain ⟨s, s1, s2, s3, s4⟩ := r3 g h hne v hv
  exact ⟨s, s1, s2, 0, by rw [s3]; exact r1 g, by omega⟩
theorem ch_all {n : Nat} {L : List Stp} (hL : StOk n L) : ChOk n n L (chartM n L) := by
  have gen : ∀ (k : Nat), k ≤ n → ChOk n k L ((List.range k).foldl (phase n) (L.foldl edgeT M0)) := by
    intro k
    induction k with
    | zero => intro _; exact ch_edges hL
    | succ k ih =>
      intro hk
      rw [List.range_succ, List.foldl_append]
      exact ch_phase hL (by omega) (ih (by omega))
  exact gen n (Nat.le_refl n)
/-- a first step of least minutes -/
theorem chart_first {n : Nat} {L : List Stp} (hL : StOk n L) {g h : Nat} (hg : g < n) (hh : h < n) (hne : h ≠ g) {v : Int} (hv : chartM n L g h = some v) : ∃ s ∈ L, s.a = h ∧ ∃ u, chartM n L g s.b = some u ∧ u + s.m = v := by
  have c := ch_all hL
  obtain ⟨s, s1, s2, u, s3, s4⟩ := c.i g h hg hh hne v hv
  obtain ⟨la, lb, _, _⟩ := hL s s1
  obtain ⟨x, e1, e2⟩ := c.e s s1
  rw [s2] at e1
  obtain ⟨w, w1, w2⟩ := c.t s.b lb g h hg hh x u e1 s3
  rw [hv] at w1
  cases w1
  exact ⟨s, s1, s2, u, s3, by omega⟩
end Iv
/-! Pc1: charts by going over one place more at a time: the run -/
namespace Iv
open PySem
variable {P : Pg}
theorem for_foldS {α σ : Type} {tg : Tg} {fb : Env → Sto → Res Fl} {ks : List Nat} {st : Sto → Bool} {ρ : Env} (e : α → D) (enc : σ → Sto) (f : σ → α → σ) (hst : ∀ S, st S = true) : ∀ (as : List α) (s : σ),
    (∀ s a, a ∈ as → ∃ ρ1 ρ2, bindT tg (e a) ρ = some ρ1 ∧ fb ρ1 (enc s) = .ok .next ρ2 (enc (f s a)) ∧ kill ks ρ2 = ρ) →
    forLoop tg fb ks st (as.map e) ρ (enc s) = .ok .next ρ (enc (as.foldl f s))
  | [], s, _ => rfl
  | a :: as, s, h => by
    obtain ⟨ρ1, ρ2, h1, h2, h3⟩ := h s a (by simp)
    rw [List.map_cons, for_1 (ρ := ρ) h1 h2 (hst _), h3]
    exact for_foldS e enc f hst as (f s a) fun s b hb => h s b (by simp [hb])
def rowD (n : Nat) (M : Mx) (g : Nat) : List D := (List.range n).map fun h => oD (M g h)
def refsD (b n : Nat) : List D := (List.range n).map fun g => D.ref (b + g)
def StM (S : Sto) (n : Nat) (M : Mx) : Sto := S ++ (List.range n).map fun g => Cell.lst (rowD n M g)
theorem refs_at {b n g : Nat} (h : g < n) : L2.atI (refsD b n) (g : Int) = some (.ref (b + g)) := by
  rw [atI_nat _ (by omega), refsD, List.getElem?_map, Int.toNat_natCast, List.getElem?_range h]; rfl
theorem row_at {n : Nat} {M : Mx} {g h : Nat} (hh : h < n) : L2.atI (rowD n M g) (h : Int) = some (oD (M g h)) := by
  rw [atI_nat _ (by omega), rowD, List.getElem?_map, Int.toNat_natCast, List.getElem?_range hh]; rfl
theorem cell_st {S : Sto} {n : Nat} {M : Mx} {g : Nat} (hg : g < n) : cellAt (StM S n M) (S.length + g) = some (.lst (rowD n M g)) := by
  unfold cellAt StM
  rw [List.getElem?_append_right (by omega)]
  simp [hg]
theorem ix_st {S : Sto} {n : Nat} {M : Mx} {g h : Nat} (hg : g < n) (hh : h < n) : ixD (StM S n M) (.ref (S.length + g)) (.int h) = some (oD (M g h)) := by
  rw [ixD_seq (xs := rowD n M g) (by simp only [seqD, lstD, cell_st hg]) (by intro z e; cases e)]
  exact row_at hh
theorem row_set {n : Nat} {M : Mx} {g h : Nat} {v : Int} : (rowD n M g).set h (.int v) = rowD n (updM M g h (some v)) g := by
  apply List.ext_getElem?
  intro j
  rw [List.getElem?_set]
  by_cases hj : h = j
  · subst hj
    by_cases hl : h < n
    · simp [rowD, hl, updM, oD]
    · simp [rowD, hl]
  · have : ¬ (j = h) := fun z => hj z.symm
    by_cases hl : j < n
    · simp [rowD, updM, hj, this, hl]
    · simp [rowD, hj, hl]
theorem set_st {S : Sto} {n : Nat} {M : Mx} {g h : Nat} {v : Int} (hg : g < n) : setCell (StM S n M) (S.length + g) (.lst ((rowD n M g).set h (.int v))) = StM S n (updM M g h (some v)) := by
  rw [row_set]
  unfold setCell StM
  rw [List.set_append_right _ _ (by omega)]
  congr 1
  apply List.ext_getElem?
  intro j
  have e : S.length + g - S.length = g := by omega
  rw [e, List.getElem?_set]
  by_cases hj : g = j
  · subst hj
    simp [hg]
  · have h2 : rowD n (updM M g h (some v)) j = rowD n M j := by
      have : ¬ (j = g) := fun z => hj z.symm
      simp [rowD, updM, this]
    by_cases hl : j < n
    · simp [hj, h2, hl]
    · simp [hj, hl]
theorem setIx_st {S : Sto} {n : Nat} {M : Mx} {g h : Nat} {v : Int} (hg : g < n) (hh : h < n) : setIx (StM S n M) (.ref (S.length + g)) (.int h) (.int v) = some (StM S n (updM M g h (some v))) := by
  have hl : (rowD n M g).length = n := by simp [rowD]
  have hi : L2.ixN (rowD n M g).length (h : Int) = some h := by
    rw [hl]
    unfold L2.ixN
    rw [if_pos (by omega), if_pos (by omega)]
    simp
  simp only [setIx, cell_st hg, hi, Option.map_some, set_st hg]
/-! ### turns -/
def edgeS (o : Option Int) (m : Int) (Sv S : Sto) : Sto := match o with
  | some v => if m < v then Sv else S
  | none => Sv
def midS (o oh og : Option Int) (Sv : Int → Sto) (S : Sto) : Sto := match oh, og with
  | some x, some y => (match o with
    | some v => if x + y < v then Sv (x + y) else S
    | none => Sv (x + y))
  | _, _ => S
theorem edge_gen {n iS : Nat} {S Sv S2 : Sto} {t sh x5 : D} {nn a b m : Int} {refs : List D} {ar : Nat} {o : Option Int} (hr : L2.atI refs b = some (.ref ar)) (hix : ixD S (.ref ar) (.int a) = some (oD o)) (hset : setIx S (.ref ar) (.int a) (.int m) = some Sv)
    (hS : S2 = edgeS o m Sv S) :
    evSs P (callF P n) (makeF P n) (Sh.b2__law_chart iS) [.v t, .v sh, .v (.int nn), .ol refs, .no, .v x5, .v (.int a), .v (.int b), .v (.int m), .no, .no, .no] S = .ok .next [.v t, .v sh, .v (.int nn), .ol refs, .no, .v x5, .v (.int a), .v (.int b), .v (.int m), .no, .no, .no] S2 := by
  cases o with
  | none =>
    have hS : S2 = Sv := hS
    subst hS
    have hix : ixD S (.ref ar) (.int a) = some .non := hix
    simp [Sh.b2__law_chart, hr, hix, hset]
  | some v =>
    have hix : ixD S (.ref ar) (.int a) = some (.int v) := hix
    by_cases h : m < v
    · have hS : S2 = Sv := by rw [hS]; simp [edgeS, h]
      subst hS
      simp [Sh.b2__law_chart, hr, hix, hset, h]
    · have hS : S2 = S := by rw [hS]; simp [edgeS, h]
      subst hS
      simp [Sh.b2__law_chart, hr, hix, h]
theorem mid_gen {n iS : Nat} {S S2 : Sto} {Sv : Int → Sto} {t sh : D} {nn g h k : Int} {refs : List D} {ag ak : Nat} {o oh og : Option Int} (hg : L2.atI refs g = some (.ref ag)) (hk : L2.atI refs k = some (.ref ak))
    (h1 : ixD S (.ref ag) (.int h) = some (oD o)) (h2 : ixD S (.ref ak) (.int h) = some (oD oh)) (h3 : ixD S (.ref ag) (.int k) = some (oD og)) (hset : ∀ v, setIx S (.ref ag) (.int h) (.int v) = some (Sv v))
    (hS : S2 = midS o oh og Sv S) :
    ∃ w, evSs P (callF P n) (makeF P n) (Sh.b3__law_chart iS) [.v t, .v sh, .v (.int nn), .ol refs, .v (.int g), .no, .v (.int h), .no, .no, .v (.int k), .no, .no] S = .ok .next [.v t, .v sh, .v (.int nn), .ol refs, .v (.int g), .no, .v (.int h), .no, .no, .v (.int k), w, .no] S2 := by
  cases oh with
  | none =>
    have hS : S2 = S := by rw [hS]; rfl
    subst hS
    have h2 : ixD S2 (.ref ak) (.int h) = some .non := h2
    exact ⟨.no, by simp [Sh.b3__law_chart, hg, hk, h2]⟩
  | some x =>
    have h2 : ixD S (.ref ak) (.int h) = some (.int x) := h2
    cases og with
    | none =>
      have hS : S2 = S := by rw [hS]; rfl
      subst hS
      have h3 : ixD S2 (.ref ag) (.int k) = some .non := h3
      exact ⟨.no, by simp [Sh.b3__law_chart, hg, hk, h2, h3]⟩
    | some y =>
      have h3 : ixD S (.ref ag) (.int k) = some (.int y) := h3
      cases o with
      | none =>
        have hS : S2 = Sv (x + y) := by rw [hS]; rfl
        subst hS
        have h1 : ixD S (.ref ag) (.int h) = some .non := h1
        exact ⟨.v (.int (x + y)), by simp [Sh.b3__law_chart, hg, hk, h1, h2, h3, hset]⟩
      | some v =>
        have h1 : ixD S (.ref ag) (.int h) = some (.int v) := h1
        by_cases q : x + y < v
        · have hS : S2 = Sv (x + y) := by rw [hS]; simp [midS, q]
          subst hS
          exact ⟨.v (.int (x + y)), by simp [Sh.b3__law_chart, hg, hk, h1, h2, h3, hset, q]⟩
        · have hS : S2 = S := by rw [hS]; simp [midS, q]
          subst hS
          exact ⟨.v (.int (x + y)), by simp [Sh.b3__law_chart, hg, hk, h1, h2, h3, hset, q]⟩
theorem upd_same {M : Mx} {g h : Nat} : updM M g h (M g h) = M := by
  funext g' h'
  unfold updM
  split
  · rename_i q; obtain ⟨rfl, rfl⟩ := q; rfl
  · rfl
theorem edge_turn {n iS N : Nat} {S : Sto} {t sh : D} {M : Mx} {s : Stp} (ha : s.a < N) (hb : s.b < N) :
    evSs P (callF P n) (makeF P n) (Sh.b2__law_chart iS) [.v t, .v sh, .v (.int N), .ol (refsD S.length N), .no, .v (.int s.k), .v (.int s.a), .v (.int s.b), .v (.int s.m), .no, .no, .no] (StM S N M) = .ok .next [.v t, .v sh, .v (.int N), .ol (refsD S.length N), .no, .v (.int s.k), .v (.int s.a), .v (.int s.b), .v (.int s.m), .no, .no, .no] (StM S N (edgeT M s)) := by
  refine edge_gen (refs_at hb) (ix_st hb ha) (setIx_st hb ha) ?_
  unfold edgeT eE edgeS
  cases hM : M s.b s.a with
  | none => rfl
  | some v =>
    dsimp only
    by_cases h : s.m < v
    · rw [if_pos h, if_pos h]
    · rw [if_neg h, if_neg (by omega), ← hM, upd_same]
theorem mid_turn {n iS N : Nat} {S : Sto} {t sh : D} {M : Mx} {g h k : Nat} (hg : g < N) (hh : h < N) (hk : k < N) :
    ∃ w, evSs P (callF P n) (makeF P n) (Sh.b3__law_chart iS) [.v t, .v sh, .v (.int N), .ol (refsD S.length N), .v (.int g), .no, .v (.int h), .no, .no, .v (.int k), .no, .no] (StM S N M) = .ok .next [.v t, .v sh, .v (.int N), .ol (refsD S.length N), .v (.int g), .no, .v (.int h), .no, .no, .v (.int k), w, .no] (StM S N (midT k g M h)) := by
  refine mid_gen (Sv := fun v => StM S N (updM M g h (some v))) (refs_at hg) (refs_at hk) (ix_st hg hh) (ix_st hk hh) (ix_st hg hk) (fun v => setIx_st hg hh) ?_
  unfold midT relE midS
  cases M k h with
  | none => dsimp only; rw [upd_same]
  | some x =>
    cases M g k with
    | none => dsimp only; rw [upd_same]
    | some y =>
      dsimp only
      cases hM : M g h with
      | none => rfl
      | some v =>
        dsimp only
        by_cases q : x + y < v
        · rw [if_pos q, if_pos q]
        · rw [if_neg q, if_neg (by omega), ← hM, upd_same]
end Iv
/-! Pc2: charts by going over one place more at a time: the whole run -/
namespace Iv
open PySem
variable {P : Pg}
theorem b4_gen {n iS : Nat} {S1 S2 : Sto} {t sh x4 x9 : D} {nn : Int} {refs items : List D} (it : itemsD S1 .range1 [.int nn] = some items)
    (loop : forLoop (.nm 6) (evSs P (callF P n) (makeF P n) (Sh.b3__law_chart iS)) [6, 10] (stays S1 [.int nn]) items [.v t, .v sh, .v (.int nn), .ol refs, .v x4, .no, .no, .no, .no, .v x9, .no, .no] S1 = .ok .next [.v t, .v sh, .v (.int nn), .ol refs, .v x4, .no, .no, .no, .no, .v x9, .no, .no] S2) :
    evSs P (callF P n) (makeF P n) (Sh.b4__law_chart iS) [.v t, .v sh, .v (.int nn), .ol refs, .v x4, .no, .no, .no, .no, .v x9, .no, .no] S1 = .ok .next [.v t, .v sh, .v (.int nn), .ol refs, .v x4, .no, .no, .no, .no, .v x9, .no, .no] S2 := by
  simp only [Sh.b4__law_chart]
  rw [ss_n (ρ1 := [.v t, .v sh, .v (.int nn), .ol refs, .v x4, .no, .no, .no, .no, .v x9, .no, .no]) (S1 := S2) (by
    simp [it, kill]
    exact loop)]
  simp
theorem b5_gen {n iS : Nat} {S1 S2 : Sto} {t sh x9 : D} {nn : Int} {refs items : List D} (it : itemsD S1 .range1 [.int nn] = some items)
    (loop : forLoop (.nm 4) (evSs P (callF P n) (makeF P n) (Sh.b4__law_chart iS)) [4, 6, 10] (stays S1 [.int nn]) items [.v t, .v sh, .v (.int nn), .ol refs, .no, .no, .no, .no, .no, .v x9, .no, .no] S1 = .ok .next [.v t, .v sh, .v (.int nn), .ol refs, .no, .no, .no, .no, .no, .v x9, .no, .no] S2) :
    evSs P (callF P n) (makeF P n) (Sh.b5__law_chart iS) [.v t, .v sh, .v (.int nn), .ol refs, .no, .no, .no, .no, .no, .v x9, .no, .no] S1 = .ok .next [.v t, .v sh, .v (.int nn), .ol refs, .no, .no, .no, .no, .no, .v x9, .no, .no] S2 := by
  simp only [Sh.b5__law_chart]
  rw [ss_n (ρ1 := [.v t, .v sh, .v (.int nn), .ol refs, .no, .no, .no, .no, .no, .v x9, .no, .no]) (S1 := S2) (by
    simp [it, kill]
    exact loop)]
  simp
theorem here_loop {n iS N : Nat} {S : Sto} {t sh : D} {M : Mx} {g k : Nat} {st : Sto → Bool} (hst : ∀ S, st S = true) (hg : g < N) (hk : k < N) :
    forLoop (.nm 6) (evSs P (callF P n) (makeF P n) (Sh.b3__law_chart iS)) [6, 10] st ((List.range N).map fun h : Nat => D.int (h : Int)) [.v t, .v sh, .v (.int N), .ol (refsD S.length N), .v (.int g), .no, .no, .no, .no, .v (.int k), .no, .no] (StM S N M) =
      .ok .next [.v t, .v sh, .v (.int N), .ol (refsD S.length N), .v (.int g), .no, .no, .no, .no, .v (.int k), .no, .no] (StM S N (rowT N k M g)) := by
  refine for_foldS (fun h : Nat => D.int (h : Int)) (fun M => StM S N M) (midT k g) hst (List.range N) M fun M h hh => ?_
  obtain ⟨w, e⟩ := mid_turn (P := P) (n := n) (iS := iS) (S := S) (t := t) (sh := sh) (M := M) hg (List.mem_range.mp hh) hk
  exact ⟨_, _, by rw [bT_nm, if_pos (by simp)]; rfl, e, by simp [kill]⟩
theorem goal_turn {n iS N : Nat} {S : Sto} {t sh : D} {M : Mx} {g k : Nat} (hN : N ≤ 1000) (hg : g < N) (hk : k < N) :
    evSs P (callF P n) (makeF P n) (Sh.b4__law_chart iS) [.v t, .v sh, .v (.int N), .ol (refsD S.length N), .v (.int g), .no, .no, .no, .no, .v (.int k), .no, .no] (StM S N M) = .ok .next [.v t, .v sh, .v (.int N), .ol (refsD S.length N), .v (.int g), .no, .no, .no, .no, .v (.int k), .no, .no] (StM S N (rowT N k M g)) :=
  b4_gen (it_range1 (StM S N M) N (by omega)) (here_loop (fun _ => rfl) hg hk)
theorem goal_loop {n iS N : Nat} {S : Sto} {t sh : D} {M : Mx} {k : Nat} {st : Sto → Bool} (hst : ∀ S, st S = true) (hN : N ≤ 1000) (hk : k < N) :
    forLoop (.nm 4) (evSs P (callF P n) (makeF P n) (Sh.b4__law_chart iS)) [4, 6, 10] st ((List.range N).map fun h : Nat => D.int (h : Int)) [.v t, .v sh, .v (.int N), .ol (refsD S.length N), .no, .no, .no, .no, .no, .v (.int k), .no, .no] (StM S N M) =
      .ok .next [.v t, .v sh, .v (.int N), .ol (refsD S.length N), .no, .no, .no, .no, .no, .v (.int k), .no, .no] (StM S N (phase N M k)) := by
  refine for_foldS (fun h : Nat => D.int (h : Int)) (fun M => StM S N M) (rowT N k) hst (List.range N) M fun M g hg => ?_
  have e := goal_turn (P := P) (n := n) (iS := iS) (S := S) (t := t) (sh := sh) (M := M) hN (List.mem_range.mp hg) hk
  exact ⟨_, _, by rw [bT_nm, if_pos (by simp)]; rfl, e, by simp [kill]⟩
theorem mid_loop {n iS N : Nat} {S : Sto} {t sh : D} {M : Mx} {st : Sto → Bool} (hst : ∀ S, st S = true) (hN : N ≤ 1000) :
    forLoop (.nm 9) (evSs P (callF P n) (makeF P n) (Sh.b5__law_chart iS)) [4, 6, 9, 10] st ((List.range N).map fun h : Nat => D.int (h : Int)) [.v t, .v sh, .v (.int N), .ol (refsD S.length N), .no, .no, .no, .no, .no, .no, .no, .no] (StM S N M) =
      .ok .next [.v t, .v sh, .v (.int N), .ol (refsD S.length N), .no, .no, .no, .no, .no, .no, .no, .no] (StM S N ((List.range N).foldl (phase N) M)) := by
  refine for_foldS (fun h : Nat => D.int (h : Int)) (fun M => StM S N M) (phase N) hst (List.range N) M fun M k hk => ?_
  have e : evSs P (callF P n) (makeF P n) (Sh.b5__law_chart iS) [.v t, .v sh, .v (.int N), .ol (refsD S.length N), .no, .no, .no, .no, .no, .v (.int k), .no, .no] (StM S N M) = .ok .next [.v t, .v sh, .v (.int N), .ol (refsD S.length N), .no, .no, .no, .no, .no, .v (.int k), .no, .no] (StM S N (phase N M k)) :=
    b5_gen (it_range1 (StM S N M) N (by omega)) (goal_loop (fun _ => rfl) hN (List.mem_range.mp hk))
  exact ⟨_, _, by rw [bT_nm, if_pos (by simp)]; rfl, e, by simp [kill]⟩
theorem edge_loop {n iS N : Nat} {S : Sto} {t sh : D} {M : Mx} {L : List Stp} {st : Sto → Bool} (hst : ∀ S, st S = true) (hL : StOk N L) :
    forLoop (.tp [(.nm 5), (.nm 6), (.nm 7), (.nm 8)]) (evSs P (callF P n) (makeF P n) (Sh.b2__law_chart iS)) [5, 6, 7, 8] st (L.map Stp.d) [.v t, .v sh, .v (.int N), .ol (refsD S.length N), .no, .no, .no, .no, .no, .no, .no, .no] (StM S N M) =
      .ok .next [.v t, .v sh, .v (.int N), .ol (refsD S.length N), .no, .no, .no, .no, .no, .no, .no, .no] (StM S N (L.foldl edgeT M)) := by
  refine for_foldS Stp.d (fun M => StM S N M) edgeT hst L M fun M s hs => ?_
  obtain ⟨h1, h2, _, _⟩ := hL s hs
  have e := edge_turn (P := P) (n := n) (iS := iS) (S := S) (t := t) (sh := sh) (M := M) h1 h2
  exact ⟨_, _, rfl, e, by simp [kill]⟩
/-! ### the first rows -/
theorem e1_gen {n iS : Nat} {S : Sto} {ρ : Env} {h g : Int} (h6 : ρ[6]? = some (.v (.int h))) (h4 : ρ[4]? = some (.v (.int g))) : evE P (callF P n) (makeF P n) (Sh.e1__law_chart iS) ρ S = .ok (.v (if h = g then .int 0 else .non)) ρ S := by
  have z2 : (2 : Nat) ≤ sizeLine := le_size (by decide)
  have p := pick2 .non (.int 0) (h = g)
  simp [Sh.e1__law_chart, h6, h4, z2, p]
theorem init_turn {n iS N : Nat} {S : Sto} {t sh : D} {refs : List D} {g : Nat} (hN : N ≤ 100) (hr : refs.length < 1000) :
    evSs P (callF P n) (makeF P n) (Sh.b1__law_chart iS) [.v t, .v sh, .v (.int N), .ol refs, .v (.int g), .no, .no, .no, .no, .no, .no, .no] S = .ok .next [.v t, .v sh, .v (.int N), .ol (refs ++ [.ref S.length]), .v (.int g), .no, .no, .no, .no, .no, .no, .no] (S ++ [.lst (rowD N M0 g)]) := by
  have lc := lc_map P (callF P n) (makeF P n) [.v t, .v sh, .v (.int N), .ol refs, .v (.int g), .no, .no, .no, .no, .no, .no, .no] S (i := 6) (elt := Sh.e1__law_chart iS) (k := .range1) (its := [.var 2]) (ds := [.int N]) (fun h : Nat => D.int (h : Int)) (fun h => oD (M0 g h)) (List.range N) rfl (by simp) (it_range1 S N (by omega)) rfl (by simp; exact le_size (by omega))
    (fun h _ => ⟨.v (oD (M0 g h)), by
      have e := e1_gen (P := P) (n := n) (iS := iS) (S := S) (ρ := [.v t, .v sh, .v (.int N), .ol refs, .v (.int g), .no, .v (.int h), .no, .no, .no, .no, .no]) (h := (h : Int)) (g := (g : Int)) rfl rfl
      have e2 : (if (h : Int) = (g : Int) then D.int 0 else .non) = oD (M0 g h) := by
        unfold M0
        by_cases q : h = g
        · subst q; simp [oD]
        · have : ¬ ((h : Int) = (g : Int)) := by omega
          simp [q, this, oD]
      rw [e2] at e
      exact e, rfl⟩)
  have hz : refs.length < sizeLine := by rw [sizeLine_eq]; omega
  have hrow : (List.range N).map (fun h => oD (M0 g h)) = rowD N M0 g := rfl
  rw [hrow] at lc
  generalize rowD N M0 g = row at *
  generalize (N : Int) = nn at *
  generalize (g : Int) = gg at *
  simp [Sh.b1__law_chart, lc, hz]
theorem init_loop {n iS N : Nat} {S : Sto} {t sh : D} {st : Sto → Bool} (hst : ∀ S, st S = true) (hN : N ≤ 100) :
    forLoop (.nm 4) (evSs P (callF P n) (makeF P n) (Sh.b1__law_chart iS)) [4] st ((List.range N).map fun h : Nat => D.int (h : Int)) [.v t, .v sh, .v (.int N), .ol [], .no, .no, .no, .no, .no, .no, .no, .no] S =
      .ok .next [.v t, .v sh, .v (.int N), .ol (refsD S.length N), .no, .no, .no, .no, .no, .no, .no, .no] (StM S N M0) := by
  obtain ⟨ρ', S', e, rfl, rfl⟩ := for_inv (tg := .nm 4) (fb := evSs P (callF P n) (makeF P n) (Sh.b1__law_chart iS)) (ks := [4]) (st := st) (fun h : Nat => D.int (h : Int))
    (fun pre ρ S' => ρ = [.v t, .v sh, .v (.int N), .ol (refsD S.length pre.length), .no, .no, .no, .no, .no, .no, .no, .no] ∧ S' = S ++ (List.range pre.length).map fun g => Cell.lst (rowD N M0 g)) (List.range N) [] [.v t, .v sh, .v (.int N), .ol [], .no, .no, .no, .no, .no, .no, .no, .no] S ⟨rfl, by simp⟩ (by
      rintro pre k post ρ S' hp ⟨rfl, rfl⟩
      have hk : pre.length = k ∧ k < N := by
        have h1 := congrArg List.length hp
        have h2 := congrArg (fun l => l[pre.length]?) hp
        simp at h1 h2
        rw [List.getElem?_range (by omega)] at h2
        simp at h2
        omega
      obtain ⟨hk1, hk2⟩ := hk
      have hl : (refsD S.length pre.length).length = pre.length := by simp [refsD]
      have e := init_turn (P := P) (n := n) (iS := iS) (N := N) (S := S ++ (List.range pre.length).map fun g => Cell.lst (rowD N M0 g)) (t := t) (sh := sh) (refs := refsD S.length pre.length) (g := k) hN (by omega)
      refine ⟨_, _, _, by rw [bT_nm, if_pos (by simp)]; rfl, e, hst _, ?_, ?_⟩
      · have h3 : refsD S.length pre.length ++ [D.ref (S ++ (List.range pre.length).map fun g => Cell.lst (rowD N M0 g)).length] = refsD S.length (pre ++ [k]).length := by
          simp [refsD, List.range_succ]
        rw [h3]
        simp [kill]
      · rw [List.length_append, List.length_singleton, List.range_succ, List.map_append, List.append_assoc, hk1]
        rfl)
  rw [e]
  simp [StM]
/-! ### the whole -/
def chD (n : Nat) (M : Mx) : D := .tup ((List.range n).map fun g => .tup (rowD n M g))
theorem tup_st {S : Sto} {n : Nat} {M : Mx} {g : Nat} (hg : g < n) : primD (StM S n M) .tuple [.ref (S.length + g)] = some (.v (.tup (rowD n M g))) := by
  have e : seqD (StM S n M) (.ref (S.length + g)) = some (rowD n M g) := by simp only [seqD, lstD, cell_st hg]
  simp [primD, p_tuple, e]
theorem chart_gen {n iS : Nat} {S1 S2 S3 S4 : Sto} {nms td : List D} {sh : D} {nn : Int} {refs items sd rows : List D} (hat : L2.atI td 0 = some (.tup nms)) (hlen : primD S1 .len [.tup nms] = some (.v (.int nn))) (it : ∀ S, itemsD S .range1 [.int nn] = some items)
    (l1 : forLoop (.nm 4) (evSs P (callF P n) (makeF P n) (Sh.b1__law_chart iS)) [4] (stays S1 [.int nn]) items [.v (.tup td), .v sh, .v (.int nn), .ol [], .no, .no, .no, .no, .no, .no, .no, .no] S1 = .ok .next [.v (.tup td), .v sh, .v (.int nn), .ol refs, .no, .no, .no, .no, .no, .no, .no, .no] S2)
    (es : callF P n iS [.tup td, sh] S2 = .ok (.ol sd) S2)
    (l2 : forLoop (.tp [(.nm 5), (.nm 6), (.nm 7), (.nm 8)]) (evSs P (callF P n) (makeF P n) (Sh.b2__law_chart iS)) [5, 6, 7, 8] (stays S2 [.lst sd]) sd [.v (.tup td), .v sh, .v (.int nn), .ol refs, .no, .no, .no, .no, .no, .no, .no, .no] S2 = .ok .next [.v (.tup td), .v sh, .v (.int nn), .ol refs, .no, .no, .no, .no, .no, .no, .no, .no] S3)
    (l3 : forLoop (.nm 9) (evSs P (callF P n) (makeF P n) (Sh.b5__law_chart iS)) [4, 6, 9, 10] (stays S3 [.int nn]) items [.v (.tup td), .v sh, .v (.int nn), .ol refs, .no, .no, .no, .no, .no, .no, .no, .no] S3 = .ok .next [.v (.tup td), .v sh, .v (.int nn), .ol refs, .no, .no, .no, .no, .no, .no, .no, .no] S4)
    (lc : evE P (callF P n) (makeF P n) (.lc (Sh.e2__law_chart iS) (.nm 11) .seq [(.var 3)] [] [11]) [.v (.tup td), .v sh, .v (.int nn), .ol refs, .no, .no, .no, .no, .no, .no, .no, .no] S4 = .ok (.ol rows) [.v (.tup td), .v sh, .v (.int nn), .v (.lst refs), .no, .no, .no, .no, .no, .no, .no, .no] S4) :
    finR (evSs P (callF P n) (makeF P n) (Sh.f__law_chart iS).body [.v (.tup td), .v sh, .no, .no, .no, .no, .no, .no, .no, .no, .no, .no] S1) = .ok (.v (.tup rows)) S4 := by
  simp only [Sh.f__law_chart]
  rw [ss_n (ρ1 := [.v (.tup td), .v sh, .v (.int nn), .no, .no, .no, .no, .no, .no, .no, .no, .no]) (S1 := S1) (by simp [hat, hlen])]
  rw [ss_n (ρ1 := [.v (.tup td), .v sh, .v (.int nn), .ol [], .no, .no, .no, .no, .no, .no, .no, .no]) (S1 := S1) (by simp)]
  rw [ss_n (ρ1 := [.v (.tup td), .v sh, .v (.int nn), .ol refs, .no, .no, .no, .no, .no, .no, .no, .no]) (S1 := S2) (by
    simp [it, kill]
    exact l1)]
  rw [ss_n (ρ1 := [.v (.tup td), .v sh, .v (.int nn), .ol refs, .no, .no, .no, .no, .no, .no, .no, .no]) (S1 := S3) (by
    simp [es, kill]
    exact l2)]
  rw [ss_n (ρ1 := [.v (.tup td), .v sh, .v (.int nn), .ol refs, .no, .no, .no, .no, .no, .no, .no, .no]) (S1 := S4) (by
    simp [it, kill]
    exact l3)]
  simp [lc]
theorem lc_rows {n iS N : Nat} {S : Sto} {t sh : D} {M : Mx} (hN : N ≤ 1000) : evE P (callF P n) (makeF P n) (.lc (Sh.e2__law_chart iS) (.nm 11) .seq [(.var 3)] [] [11]) [.v t, .v sh, .v (.int N), .ol (refsD S.length N), .no, .no, .no, .no, .no, .no, .no, .no] (StM S N M) =
    .ok (.ol ((List.range N).map fun g => D.tup (rowD N M g))) [.v t, .v sh, .v (.int N), .v (.lst (refsD S.length N)), .no, .no, .no, .no, .no, .no, .no, .no] (StM S N M) := by
  refine lc_map0 P (callF P n) (makeF P n) [.v t, .v sh, .v (.int N), .v (.lst (refsD S.length N)), .no, .no, .no, .no, .no, .no, .no, .no] (StM S N M) (i := 11) (elt := Sh.e2__law_chart iS) (k := .seq) (its := [.var 3]) (ds := [.lst (refsD S.length N)]) (fun g : Nat => D.ref (S.length + g)) (fun g => D.tup (rowD N M g)) (List.range N) rfl (by simp) rfl rfl (by simp; exact le_size hN) (fun g hg => ⟨.v (.tup (rowD N M g)), ?_, rfl⟩)
  have tp := tup_st (S := S) (M := M) (List.mem_range.mp hg)
  generalize StM S N M = S2 at *
  generalize rowD N M g = row at *
  simp [Sh.e2__law_chart, tp]
theorem drive_ne {r : Road} {p q : Nat} {m : Int} {c : Nat} (hr : RoadOk c r) (h : drive r p = some (q, m)) : p ≠ q ∧ 1 ≤ m ∧ m ≤ 60 := by
  unfold drive at h
  split at h
  · rename_i v hv
    split at hv
    · rename_i e
      cases h
      obtain ⟨h1, h2⟩ := hr.go _ hv
      exact ⟨by rw [← e]; exact hr.ne, h1, h2⟩
    · cases hv
  · split at h
    · rename_i v hv
      split at hv
      · rename_i e
        cases h
        obtain ⟨h1, h2⟩ := hr.back _ hv
        exact ⟨by rw [← e]; exact fun z => hr.ne z.symm, h1, h2⟩
      · cases hv
    · cases h
theorem steps_st {t : Town} (ht : TownOk t) (shut : List Int) : StOk t.names.length (stepsOf t shut) := by
  intro s hs
  obtain ⟨_, r, h1, h2, h3, h4⟩ := steps_drive shut 0 t.roads t.names.length ht.rd s hs
  have hr := ht.rd r (List.mem_of_getElem? h1)
  obtain ⟨q1, q2, _⟩ := drive_ne hr h2
  exact ⟨h3, drive_lt hr h2, q1, by omega⟩
theorem chart_ok {i iS : Nat} (hS : P.fns[iS]? = some Sh.f__law_steps) (hP : P.fns[i]? = some (Sh.f__law_chart iS)) (n : Nat) {t : Town} (ht : TownOk t) (shut : List Int) (S : Sto) :
    callF P (n + 2) i [t.d, .tup (shut.map .int)] S = .ok (.v (chD t.names.length (chartM t.names.length (stepsOf t shut)))) (StM S t.names.length (chartM t.names.length (stepsOf t shut))) := by
  rw [run_def hP rfl]
  have hN : t.names.length ≤ 10 := ht.n10
  have es := steps_ok (P := P) (i := iS) hS n ht shut (StM S t.names.length M0)
  exact chart_gen (n := n + 1) (td := [D.tup (t.names.map .str), .tup (t.roads.map (Road.d t.names)), .tup (t.stands.map .str), .int t.reach]) rfl (by rw [q_lenT, List.length_map]) (fun S => it_range1 S _ (by omega))
    (init_loop (fun _ => rfl) (by omega)) es (edge_loop (fun _ => rfl) (steps_st ht shut)) (mid_loop (fun _ => rfl) (by omega)) (lc_rows (by omega))
end Iv
/-! Pw0: shut roads, walks, ways -/
namespace Iv
open PySem
variable {P : Pg}
/-! ### shut roads -/
theorem shut_gen {iR n : Nat} {S : Sto} {c share x18 : Int} {rs nms rds : List D} {x4 x5 : D} {ks : List Int} (e1 : callF P n iR [.int c, .int 20] S = .ok (.ol rs) S) (h18 : L2.atI rs 18 = some (.int x18)) (es : L2.atI [D.int 1000001, .int 5, .int 2] (x18.fmod 3) = some (.int share))
    (lc : evE P (callF P n) (makeF P n) (.lc (.var 4) (.nm 4) .range1 [(.prim .len [(.ix (.var 1) (.int 1))])] [(Sh.t1__law_shut iR)] [4]) [.v (.int c), .v (.tup [.tup nms, .tup rds, x4, x5]), .ol rs, .v (.int share), .no] S = .ok (.ol (ks.map .int)) [.v (.int c), .v (.tup [.tup nms, .tup rds, x4, x5]), .ol rs, .v (.int share), .no] S) :
    finR (evSs P (callF P n) (makeF P n) (Sh.f__law_shut iR).body [.v (.int c), .v (.tup [.tup nms, .tup rds, x4, x5]), .no, .no, .no] S) = .ok (.v (.tup (ks.map .int))) S := by
  have pw : powOk 10 6 = true := by decide
  have z3 : (3 : Nat) ≤ sizeLine := le_size (by decide)
  generalize ks.map D.int = kd at *
  simp only [Sh.f__law_shut]
  rw [ss_n (ρ1 := [.v (.int c), .v (.tup [.tup nms, .tup rds, x4, x5]), .ol rs, .no, .no]) (S1 := S) (by simp [e1])]
  rw [ss_n (ρ1 := [.v (.int c), .v (.tup [.tup nms, .tup rds, x4, x5]), .ol rs, .v (.int share), .no]) (S1 := S) (by simp [pw, h18, es, z3])]
  simp [lc]
theorem shut_ok {i iR : Nat} (hR : P.fns[iR]? = some Sh.f__law_row) (hP : P.fns[i]? = some (Sh.f__law_shut iR)) (n : Nat) {t : Town} (ht : TownOk t) (c : Int) (S : Sto) :
    ∃ shut : List Int, callF P (n + 2) i [.int c, t.d] S = .ok (.v (.tup (shut.map .int))) S := by
  rw [run_def hP rfl]
  obtain ⟨rs, r1, r2⟩ := row_ok hR n c 20 S (by decide)
  obtain ⟨x18, a18, b18, h18⟩ := r1.at (k := 18) (by decide) (by decide)
  have f3 := fm (a := x18) (b := 3) (by decide)
  have p3 := pick3 (.int 1000001) (.int 5) (.int 2) f3.1 f3.2
  obtain ⟨share, hs, es⟩ : ∃ s : Int, s ≠ 0 ∧ (if x18.fmod 3 = 0 then D.int 1000001 else if x18.fmod 3 = 1 then .int 5 else .int 2) = .int s := by
    split
    · exact ⟨_, by decide, rfl⟩
    · split
      · exact ⟨_, by decide, rfl⟩
      · exact ⟨_, by decide, rfl⟩
  rw [es] at p3
  have hrl := ht.r18
  have row : ∀ k : Nat, k < 20 → ∃ x : Int, L2.atI (rs.map D.int) (k : Int) = some (.int x) := fun k hk => by
    obtain ⟨x, _, _, h⟩ := r1.at (k := (k : Int)) (by omega) (by omega)
    exact ⟨x, h⟩
  have : ∃ f : Nat → Int, ∀ k : Nat, k < 20 → L2.atI (rs.map D.int) (k : Int) = some (.int (f k)) := ⟨fun k => if h : k < 20 then (row k h).choose else 0, fun k hk => by simp only [dif_pos hk]; exact (row k hk).choose_spec⟩
  obtain ⟨f, hf⟩ := this
  have hlen : primD S .len [.tup (t.roads.map (Road.d t.names))] = some (.v (.int t.roads.length)) := by rw [q_lenT, List.length_map]
  have lc := lc_filter P (callF P (n + 1)) (makeF P (n + 1)) [.v (.int c), .v t.d, .ol (rs.map .int), .v (.int share), .no] S (i := 4) (elt := .var 4) (c := Sh.t1__law_shut iR) (k := .range1) (its := [(.prim .len [(.ix (.var 1) (.int 1))])]) (ds := [.int t.roads.length]) (fun k : Nat => D.int (k : Int)) (fun k : Nat => D.int (k : Int))
    (fun k => decide ((f k).fmod share = 1)) (List.range t.roads.length) rfl
    (by
      have at1 : L2.atI [D.tup (t.names.map .str), .tup (t.roads.map (Road.d t.names)), .tup (t.stands.map .str), .int t.reach] 1 = some (.tup (t.roads.map (Road.d t.names))) := rfl
      have hd : t.d = .tup [D.tup (t.names.map .str), .tup (t.roads.map (Road.d t.names)), .tup (t.stands.map .str), .int t.reach] := rfl
      rw [hd]
      generalize t.roads.map (Road.d t.names) = rd at *
      generalize t.names.map D.str = nd at *
      generalize t.stands.map D.str = std at *
      generalize (t.roads.length : Int) = len at *
      simp [at1, hlen])
    (it_range1 S _ (by omega)) rfl (by rw [List.length_range]; exact le_size (by omega))
    (fun k hk => by
      have hk := hf k (by have := List.mem_range.mp hk; omega)
      generalize (k : Int) = kk at *
      simp [Sh.t1__law_shut, hk, hs])
    (fun k _ _ => ⟨.v (.int k), by simp, rfl⟩)
  have e2 : ((List.range t.roads.length).filter (fun k => decide ((f k).fmod share = 1))).map (fun k : Nat => D.int (k : Int)) = (((List.range t.roads.length).filter (fun k => decide ((f k).fmod share = 1))).map fun k : Nat => (k : Int)).map D.int := by simp [Function.comp_def]
  rw [e2] at lc
  exact ⟨_, shut_gen r2 h18 p3 lc⟩
/-! ### walks -/
/-- steps one behind the other, along open roads -/
def WCh (t : Town) (shut : List Int) : Nat → List Stp → Prop
  | _, [] => True
  | p, s :: r => s.a = p ∧ (∃ rd, t.roads[s.k]? = some rd ∧ drive rd p = some (s.b, s.m)) ∧ (s.k : Int) ∉ shut ∧ s.b < t.names.length ∧ WCh t shut s.b r
def wend : Nat → List Stp → Nat
  | p, [] => p
  | _, s :: r => wend s.b r
theorem wend_app (p : Nat) (l : List Stp) (s : Stp) : wend p (l ++ [s]) = s.b := by
  induction l generalizing p with
  | nil => rfl
  | cons a r ih => exact ih _
theorem wch_app {t : Town} {shut : List Int} (p : Nat) (l : List Stp) (s : Stp) : WCh t shut p (l ++ [s]) ↔ WCh t shut p l ∧ WCh t shut (wend p l) [s] := by
  induction l generalizing p with
  | nil => simp [WCh, wend]
  | cons a r ih => simp only [List.cons_append, WCh, wend, ih, and_assoc]
theorem wend_lt {t : Town} {shut : List Int} {p : Nat} {l : List Stp} (hp : p < t.names.length) (h : WCh t shut p l) : wend p l < t.names.length := by
  induction l generalizing p with
  | nil => exact hp
  | cons a r ih => exact ih h.2.2.2.1 h.2.2.2.2
theorem pls_stp (n : Nat) (l : List Stp) : D.pls (n + 1) (l.map Stp.d) = true := by
  induction l with
  | nil => simp [D.pls]
  | cons a r ih => simp [D.pls, ih, Stp.d, D.pl]
theorem steps_in {t : Town} (ht : TownOk t) {shut : List Int} {s : Stp} (h : s ∈ stepsOf t shut) : (∃ rd, t.roads[s.k]? = some rd ∧ drive rd s.a = some (s.b, s.m)) ∧ (s.k : Int) ∉ shut ∧ s.b < t.names.length := by
  obtain ⟨_, r, h1, h2, h3, h4⟩ := steps_drive shut 0 t.roads t.names.length ht.rd s h
  exact ⟨⟨r, by simpa using h1, h2⟩, h4, drive_lt (ht.rd r (List.mem_of_getElem? h1)) h2⟩
theorem stepsOf_len {t : Town} (ht : TownOk t) (shut : List Int) : (stepsOf t shut).length ≤ 36 := by
  have := len_steps shut 0 t.roads
  have := ht.r18
  unfold stepsOf
  omega
theorem walk_turn {n : Nat} {S : Sto} {rs : List Int} {steps : List Stp} {here : Nat} {ks : List D} {kk x : Int} (hx : L2.atI (rs.map D.int) (24 + kk) = some (.int x)) (hz : ks.length < sizeLine) (hs : steps.length ≤ 100) :
    (∃ w5, evSs P (callF P n) (makeF P n) Sh.b1__law_walk [.v (.lst (steps.map Stp.d)), .v (.lst (rs.map .int)), .v (.int here), .ol ks, .v (.int kk), .no, .no] S =
      .ok .next [.v (.lst (steps.map Stp.d)), .v (.lst (rs.map .int)), .v (.int here), .ol ks, .v (.int kk), w5, .no] S) ∨
    ∃ s w5 w6, s ∈ steps ∧ s.a = here ∧ evSs P (callF P n) (makeF P n) Sh.b1__law_walk [.v (.lst (steps.map Stp.d)), .v (.lst (rs.map .int)), .v (.int here), .ol ks, .v (.int kk), .no, .no] S =
      .ok .next [.v (.lst (steps.map Stp.d)), .v (.lst (rs.map .int)), .v (.int s.b), .ol (ks ++ [.int s.k]), .v (.int kk), w5, w6] S := by
  have lc := lc_filter P (callF P n) (makeF P n) [.v (.lst (steps.map Stp.d)), .v (.lst (rs.map .int)), .v (.int here), .ol ks, .v (.int kk), .no, .no] S (i := 6) (elt := .var 6) (c := Sh.t1__law_walk) (k := .seq) (its := [.var 0]) (ds := [.lst (steps.map Stp.d)]) Stp.d Stp.d (fun s => decide (s.a = here)) steps rfl (by simp) rfl rfl (le_size (by omega))
    (fun s _ => by
      have e : L2.atI [D.int s.k, .int s.a, .int s.b, .int s.m] 1 = some (.int s.a) := rfl
      have e2 : ((s.a : Int) = (here : Int)) = (s.a = here) := propext (by omega)
      simp [Sh.t1__law_walk, Stp.d, e, e2])
    (fun s _ _ => ⟨.v s.d, by simp, rfl⟩)
  have ne : cmpD S .NotEq (.lst ((steps.filter (fun s => decide (s.a = here))).map Stp.d)) (.lst []) = some (!(steps.filter (fun s => decide (s.a = here))).isEmpty) := by
    rw [cNeP (by simp [D.pl, pls_stp]) (by simp [D.pl, D.pls])]
    cases steps.filter (fun s => decide (s.a = here)) <;> simp [D.eqv, D.eqvs]
  have z0 : (0 : Nat) ≤ sizeLine := Nat.zero_le _
  generalize hf : steps.filter (fun s => decide (s.a = here)) = fl at *
  cases fl with
  | nil =>
    refine .inl ⟨.ol [], ?_⟩
    have ne' : cmpD S .NotEq (.lst []) (.lst []) = some false := ne
    simp only [Sh.b1__law_walk]
    rw [ss_n (by rw [xS_asg, lc, b_ok, if_pos (by simp)])]
    simp [ne']
  | cons f0 fr =>
    have hlen : ((f0 :: fr).map Stp.d).length = fr.length + 1 := by simp
    obtain ⟨q1, q2⟩ := fm (a := x) (b := ((fr.length + 1 : Nat) : Int)) (by omega)
    have hi : (x.fmod ((fr.length + 1 : Nat) : Int)).toNat < (f0 :: fr).length := by
      show _ < fr.length + 1
      omega
    obtain ⟨s, hsd⟩ : ∃ s, (f0 :: fr)[(x.fmod ((fr.length + 1 : Nat) : Int)).toNat]? = some s := ⟨_, List.getElem?_eq_getElem hi⟩
    have hmem : s ∈ f0 :: fr := List.mem_of_getElem? hsd
    rw [← hf] at hmem
    have hm := List.mem_filter.mp hmem
    have hat : L2.atI ((f0 :: fr).map Stp.d) (x.fmod ((fr.length + 1 : Nat) : Int)) = some s.d := by
      rw [atI_nat _ q1, List.getElem?_map, hsd]; rfl
    have hl2 : primD S .len [.lst ((f0 :: fr).map Stp.d)] = some (.v (.int ((fr.length + 1 : Nat) : Int))) := by rw [q_lenL, hlen]
    have hnz : ((fr.length + 1 : Nat) : Int) ≠ 0 := by omega
    refine .inr ⟨s, .ol ((f0 :: fr).map Stp.d), .v s.d, hm.1, by simpa using hm.2, ?_⟩
    have hne : cmpD S .NotEq (.lst ((f0 :: fr).map Stp.d)) (.lst []) = some true := by rw [ne]; rfl
    clear hf ne hmem hm hlen hi hsd
    have g0 : L2.atI [D.int s.k, .int s.a, .int s.b, .int s.m] 0 = some (.int s.k) := rfl
    have g2 : L2.atI [D.int s.k, .int s.a, .int s.b, .int s.m] 2 = some (.int s.b) := rfl
    generalize (f0 :: fr).map Stp.d = fd at *
    generalize ((fr.length + 1 : Nat) : Int) = fl at *
    simp only [Sh.b1__law_walk]
    rw [ss_n (by rw [xS_asg, lc, b_ok, if_pos (by simp)])]
    simp only [Stp.d] at hat ⊢
    generalize (s.k : Int) = sk at *
    generalize (s.b : Int) = sb at *
    generalize (s.a : Int) = sa at *
    generalize rs.map D.int = rd at *
    generalize (here : Int) = hh at *
    simp [hne, hx, hl2, hnz, hat, g0, g2, hz]
theorem walk_gen {n m : Nat} {S : Sto} {rd sd ks items : List D} {x0 x1 x23 e lim : Int} (h0 : L2.atI rd 0 = some (.int x0)) (h1 : L2.atI rd 1 = some (.int x1)) (h23 : L2.atI rd 23 = some (.int x23)) (el : L2.atI [D.int 13, .int 41] ((x23.fmod 3).fdiv 2) = some (.int lim)) (lz : lim ≠ 0) (it : itemsD S .range1 [.int (x1.fmod lim)] = some items)
    (loop : forLoop (.nm 4) (evSs P (callF P n) (makeF P n) Sh.b1__law_walk) [4, 5, 6] (stays S [.int (x1.fmod lim)]) items [.v (.lst sd), .v (.lst rd), .v (.int x0), .ol [], .no, .no, .no] S = .ok .next [.v (.lst sd), .v (.lst rd), .v (.int e), .ol ks, .no, .no, .no] S) :
    finR (evSs P (callF P n) (makeF P n) Sh.f__law_walk.body [.v (.lst sd), .v (.lst rd), .no, .no, .no, .no, .no] S) = .ok (.v (.tup [.int x0, .int e, .lst ks])) S := by
  have z0 : (0 : Nat) ≤ sizeLine := Nat.zero_le _
  have z2 : (2 : Nat) ≤ sizeLine := le_size (by decide)
  have z3 : (3 : Nat) ≤ sizeLine := le_size (by decide)
  simp only [Sh.f__law_walk]
  rw [ss_n (ρ1 := [.v (.lst sd), .v (.lst rd), .v (.int x0), .no, .no, .no, .no]) (S1 := S) (by simp [h0])]
  rw [ss_n (ρ1 := [.v (.lst sd), .v (.lst rd), .v (.int x0), .ol [], .no, .no, .no]) (S1 := S) (by simp)]
  rw [ss_n (ρ1 := [.v (.lst sd), .v (.lst rd), .v (.int e), .ol ks, .no, .no, .no]) (S1 := S) (by
    simp [h1, h23, el, z2, lz, it, kill]
    exact loop)]
  simp [h0, z3]
theorem walk_ok {i : Nat} (hP : P.fns[i]? = some Sh.f__law_walk) (n : Nat) {t : Town} (ht : TownOk t) (shut : List Int) {rs : List Int} {L : Nat} (hr : RowOk L rs) (hL : 64 ≤ L) {b : Nat} (hb : L2.atI (rs.map D.int) 0 = some (.int b)) (hb2 : b < t.names.length) (S : Sto) :
    ∃ l : List Stp, WCh t shut b l ∧ l.length ≤ 40 ∧ callF P (n + 1) i [.lst ((stepsOf t shut).map Stp.d), .lst (rs.map .int)] S = .ok (.v (.tup [.int b, .int (wend b l), .lst ((l.map (·.k)).map fun k : Nat => D.int (k : Int))])) S := by
  rw [run_def hP rfl]
  obtain ⟨x1, a1, b1, h1⟩ := hr.at (k := 1) (by decide) (by omega)
  obtain ⟨x23, a23, b23, h23⟩ := hr.at (k := 23) (by decide) (by omega)
  have f3 := fm (a := x23) (b := 3) (by decide)
  have hd : (x23.fmod 3).fdiv 2 = 0 ∨ (x23.fmod 3).fdiv 2 = 1 := by
    have : x23.fmod 3 = 0 ∨ x23.fmod 3 = 1 ∨ x23.fmod 3 = 2 := by omega
    rcases this with h | h | h <;> rw [h] <;> decide
  obtain ⟨lim, l0, el⟩ : ∃ lim : Int, (lim = 13 ∨ lim = 41) ∧ L2.atI [D.int 13, .int 41] ((x23.fmod 3).fdiv 2) = some (.int lim) := by
    rcases hd with h | h <;> rw [h]
    · exact ⟨13, by simp, rfl⟩
    · exact ⟨41, by simp, rfl⟩
  have fl := fm (a := x1) (b := lim) (by omega)
  obtain ⟨m, hm⟩ : ∃ m : Nat, x1.fmod lim = m := ⟨(x1.fmod lim).toNat, by omega⟩
  obtain ⟨ρ', e, l, rfl, q1, q2⟩ := for_invP (tg := .nm 4) (fb := evSs P (callF P n) (makeF P n) Sh.b1__law_walk) (ks := [4, 5, 6]) (st := stays S [.int (x1.fmod lim)]) (S := S) rfl (fun k : Nat => D.int (k : Int))
    (fun pre ρ => ∃ (l : List Stp), ρ = [.v (.lst ((stepsOf t shut).map Stp.d)), .v (.lst (rs.map .int)), .v (.int (wend b l)), .ol ((l.map (·.k)).map fun k : Nat => D.int (k : Int)), .no, .no, .no] ∧ WCh t shut b l ∧ l.length ≤ pre.length)
    (List.range m) [.v (.lst ((stepsOf t shut).map Stp.d)), .v (.lst (rs.map .int)), .v (.int b), .ol [], .no, .no, .no] ⟨[], rfl, trivial, by simp⟩ (by
      rintro pre k post ρ hp ⟨l, rfl, q1, q2⟩
      have hk : pre.length = k ∧ k < m := by
        have h1 := congrArg List.length hp
        have h2 := congrArg (fun l => l[pre.length]?) hp
        simp at h1 h2
        rw [List.getElem?_range (by omega)] at h2
        simp at h2
        omega
      obtain ⟨x, x0, x1, hx⟩ := hr.at (k := 24 + (k : Int)) (by omega) (by omega)
      have hz : ((l.map (·.k)).map fun k : Nat => D.int (k : Int)).length < sizeLine := by rw [List.length_map, List.length_map, sizeLine_eq]; omega
      have hs : (stepsOf t shut).length ≤ 100 := by have := stepsOf_len ht shut; omega
      rcases walk_turn (P := P) (n := n) (S := S) (here := wend b l) hx hz hs with ⟨w5, e⟩ | ⟨s, w5, w6, s1, s2, e⟩
      · exact ⟨_, _, by rw [bT_nm, if_pos (by simp)]; rfl, e, l, by simp [kill], q1, by simp; omega⟩
      · refine ⟨_, _, by rw [bT_nm, if_pos (by simp)]; rfl, e, l ++ [s], ?_, ?_, by simp; omega⟩
        · rw [wend_app]; simp [kill]
        · rw [wch_app]
          obtain ⟨⟨rd, g1, g2⟩, g3, g4⟩ := steps_in ht s1
          exact ⟨q1, s2, ⟨rd, g1, by rw [← s2]; exact g2⟩, g3, g4, trivial⟩)
  have it := it_range1 S m (by omega)
  rw [← hm] at it
  exact ⟨l, q1, by simp at q2; omega, walk_gen (n := n) (m := m) hb h1 h23 el (by omega) it e⟩
/-! ### ways -/
/-- whether these things lead from p to the goal -/
def wayB (t : Town) (shut : List Int) (goal : Nat) : Nat → List D → Bool
  | p, [] => decide (p = goal)
  | p, .int k :: xs => if 0 ≤ k ∧ k < t.roads.length ∧ k ∉ shut then (match (t.roads[k.toNat]?).bind (fun r => drive r p) with
    | some (q, _) => wayB t shut goal q xs
    | none => false) else false
  | _, _ :: _ => false
def flatOk : D → Bool
  | .ref _ => false
  | .exc _ _ => false
  | _ => true
def isIntD : D → Bool
  | .int _ => true
  | .bl _ => true
  | _ => false
def isBoolD : D → Bool
  | .bl _ => true
  | _ => false
def isTupD : D → Bool
  | .tup _ => true
  | _ => false
theorem q_isInt (S : Sto) (d : D) (h : flatOk d = true) : primD S (.isi ["int"]) [d] = some (.v (.bl (isIntD d))) := by cases d <;> first | rfl | cases h
theorem q_isBool (S : Sto) (d : D) (h : flatOk d = true) : primD S (.isi ["bool"]) [d] = some (.v (.bl (isBoolD d))) := by cases d <;> first | rfl | cases h
theorem q_isTup (S : Sto) (d : D) (h : flatOk d = true) : primD S (.isi ["tuple"]) [d] = some (.v (.bl (isTupD d))) := by cases d <;> first | rfl | cases h
def roadB (t : Town) : D → Bool
  | .int k => decide (0 ≤ k ∧ k < t.roads.length)
  | _ => false
theorem is_road_ok {i : Nat} (hP : P.fns[i]? = some Sh.f_is_road) (n : Nat) (t : Town) (d : D) (h : flatOk d = true) (S : Sto) :
    callF P (n + 1) i [t.d, d] S = .ok (.v (.bl (roadB t d))) S := by
  rw [run_def hP rfl]
  have q1 := q_isInt S d h
  have q2 := q_isBool S d h
  have hlen : primD S .len [.tup (t.roads.map (Road.d t.names))] = some (.v (.int t.roads.length)) := by rw [q_lenT, List.length_map]
  have at1 : L2.atI [D.tup (t.names.map .str), .tup (t.roads.map (Road.d t.names)), .tup (t.stands.map .str), .int t.reach] 1 = some (.tup (t.roads.map (Road.d t.names))) := rfl
  have hd : t.d = .tup [D.tup (t.names.map .str), .tup (t.roads.map (Road.d t.names)), .tup (t.stands.map .str), .int t.reach] := rfl
  rw [hd]
  unfold roadB
  generalize t.roads.map (Road.d t.names) = rd at *
  generalize t.names.map D.str = nd at *
  generalize t.stands.map D.str = std at *
  generalize (t.roads.length : Int) = len at *
  cases d with
  | int k =>
    by_cases h1 : k < 0
    · have e : decide (0 ≤ k ∧ k < len) = false := decide_eq_false (by omega)
      simp [Sh.f_is_road, q1, q2, isIntD, isBoolD, h1, e]
    · by_cases h2 : k < len
      · have e : decide (0 ≤ k ∧ k < len) = true := decide_eq_true (by omega)
        have h0 : 0 ≤ k := by omega
        simp [Sh.f_is_road, q1, q2, isIntD, isBoolD, h1, h2, e, at1, hlen, h0]
      · have e : decide (0 ≤ k ∧ k < len) = false := decide_eq_false (by omega)
        simp [Sh.f_is_road, q1, q2, isIntD, isBoolD, h1, h2, e, at1, hlen]
  | ref _ => cases h
  | exc _ _ => cases h
  | _ => simp [Sh.f_is_road, q1, q2, isIntD, isBoolD]
theorem step_by_ok {i iD : Nat} (hD : P.fns[iD]? = some Sh.f_driven) (hP : P.fns[i]? = some (Sh.f_step_by iD)) (n : Nat) {t : Town} (ht : TownOk t) (shut : List Int) {p : Nat} (hp : p < t.names.length) {k : Int} (h0 : 0 ≤ k) (h1 : k < t.roads.length) (S : Sto) :
    callF P (n + 2) i [t.d, .tup (shut.map .int), .str (nmAt t.names p), .int k] S = .ok (.v (if k ∈ shut then .non else drD t.names ((t.roads[k.toNat]?).bind fun r => drive r p))) S := by
  rw [run_def hP rfl]
  have ns := in_ints S k shut
  have hk : k.toNat < t.roads.length := by omega
  have hr : t.roads[k.toNat]? = some t.roads[k.toNat] := List.getElem?_eq_getElem hk
  have rk := ht.rd _ (List.getElem_mem hk)
  have dv := driven_ok hD n ht.nd rk hp S
  have hat : L2.atI (t.roads.map (Road.d t.names)) k = some (Road.d t.names t.roads[k.toNat]) := by
    rw [atI_nat _ h0]
    simp [hr]
  have at1 : L2.atI [D.tup (t.names.map .str), .tup (t.roads.map (Road.d t.names)), .tup (t.stands.map .str), .int t.reach] 1 = some (.tup (t.roads.map (Road.d t.names))) := rfl
  have hd : t.d = .tup [D.tup (t.names.map .str), .tup (t.roads.map (Road.d t.names)), .tup (t.stands.map .str), .int t.reach] := rfl
  rw [hr, Option.bind_some, hd]
  generalize drD t.names (drive t.roads[k.toNat] p) = dr at *
  generalize Road.d t.names t.roads[k.toNat] = rr at *
  generalize t.roads.map (Road.d t.names) = rd at *
  generalize t.names.map D.str = nd at *
  generalize t.stands.map D.str = std at *
  generalize hsd : shut.map D.int = sd at *
  by_cases h : k ∈ shut
  · simp [Sh.f_step_by, ns, h]
  · simp [Sh.f_step_by, ns, h, at1, hat, dv]
structure WayFns (P : Pg) (iD iS iR : Nat) : Prop where
  d : P.fns[iD]? = some Sh.f_driven
  s : P.fns[iS]? = some (Sh.f_step_by iD)
  r : P.fns[iR]? = some Sh.f_is_road
theorem way_loop {iD iS iR : Nat} (F : WayFns P iD iS iR) {n : Nat} {S : Sto} {t : Town} (ht : TownOk t) (shut : List Int) (goal : Nat) {st : Sto → Bool} (hst : st S = true) {x2 x3 x4 : Slot} : ∀ (xs : List D) (p : Nat), p < t.names.length → (∀ x ∈ xs, flatOk x = true) →
    (∃ q, q < t.names.length ∧ wayB t shut goal p xs = decide (q = goal) ∧ forLoop (.nm 6) (evSs P (callF P (n + 2)) (makeF P (n + 2)) (Sh.b1_is_way iR iS)) [6, 7] st xs [.v t.d, .v (.tup (shut.map .int)), x2, x3, x4, .v (.str (nmAt t.names p)), .no, .no] S = .ok .next [.v t.d, .v (.tup (shut.map .int)), x2, x3, x4, .v (.str (nmAt t.names q)), .no, .no] S) ∨
    (wayB t shut goal p xs = false ∧ ∃ ρ', forLoop (.nm 6) (evSs P (callF P (n + 2)) (makeF P (n + 2)) (Sh.b1_is_way iR iS)) [6, 7] st xs [.v t.d, .v (.tup (shut.map .int)), x2, x3, x4, .v (.str (nmAt t.names p)), .no, .no] S = .ok (.ret (.v (.bl false))) ρ' S)
  | [], p, hp, _ => .inl ⟨p, hp, by simp [wayB], rfl⟩
  | x :: xs, p, hp, hx => by
    have ro := is_road_ok F.r (n + 1) t x (hx x (by simp)) S
    have bt : bindT (.nm 6) x [.v t.d, .v (.tup (shut.map .int)), x2, x3, x4, .v (.str (nmAt t.names p)), .no, .no] = some [.v t.d, .v (.tup (shut.map .int)), x2, x3, x4, .v (.str (nmAt t.names p)), .v x, .no] := by simp
    have no : roadB t x = false → ∃ ρ', forLoop (.nm 6) (evSs P (callF P (n + 2)) (makeF P (n + 2)) (Sh.b1_is_way iR iS)) [6, 7] st (x :: xs) [.v t.d, .v (.tup (shut.map .int)), x2, x3, x4, .v (.str (nmAt t.names p)), .no, .no] S = .ok (.ret (.v (.bl false))) ρ' S := fun h => by
      rw [h] at ro
      refine ⟨[.v t.d, .v (.tup (shut.map .int)), x2, x3, x4, .v (.str (nmAt t.names p)), .v x, .no], ?_⟩
      have e : evSs P (callF P (n + 2)) (makeF P (n + 2)) (Sh.b1_is_way iR iS) [.v t.d, .v (.tup (shut.map .int)), x2, x3, x4, .v (.str (nmAt t.names p)), .v x, .no] S = .ok (.ret (.v (.bl false))) [.v t.d, .v (.tup (shut.map .int)), x2, x3, x4, .v (.str (nmAt t.names p)), .v x, .no] S := by
        clear bt
        generalize shut.map D.int = sd at *
        generalize t.d = td at *
        simp [Sh.b1_is_way, ro]
      simp only [forLoop, bt, e]
    cases x with
    | int k =>
      by_cases hk : 0 ≤ k ∧ k < t.roads.length
      · have sb := step_by_ok F.d F.s n ht shut hp hk.1 hk.2 S
        have hdec : decide (0 ≤ k ∧ k < t.roads.length) = true := decide_eq_true hk
        simp only [roadB, hdec] at ro
        by_cases hs : k ∈ shut
        · rw [if_pos hs] at sb
          refine .inr ⟨by rw [wayB, if_neg (by simp [hs])], [.v t.d, .v (.tup (shut.map .int)), x2, x3, x4, .v (.str (nmAt t.names p)), .v (.int k), .v .non], ?_⟩
          have e : evSs P (callF P (n + 2)) (makeF P (n + 2)) (Sh.b1_is_way iR iS) [.v t.d, .v (.tup (shut.map .int)), x2, x3, x4, .v (.str (nmAt t.names p)), .v (.int k), .no] S = .ok (.ret (.v (.bl false))) [.v t.d, .v (.tup (shut.map .int)), x2, x3, x4, .v (.str (nmAt t.names p)), .v (.int k), .v .non] S := by
            clear no bt
            generalize shut.map D.int = sd at *
            generalize t.d = td at *
            simp [Sh.b1_is_way, ro, sb]
          simp only [forLoop, bt, e]
        · rw [if_neg hs] at sb
          have hcond : 0 ≤ k ∧ k < t.roads.length ∧ k ∉ shut := ⟨hk.1, hk.2, hs⟩
          cases hd : (t.roads[k.toNat]?).bind fun r => drive r p with
          | none =>
            rw [hd] at sb
            simp only [drD] at sb
            refine .inr ⟨by rw [wayB, if_pos hcond, hd], [.v t.d, .v (.tup (shut.map .int)), x2, x3, x4, .v (.str (nmAt t.names p)), .v (.int k), .v .non], ?_⟩
            have e : evSs P (callF P (n + 2)) (makeF P (n + 2)) (Sh.b1_is_way iR iS) [.v t.d, .v (.tup (shut.map .int)), x2, x3, x4, .v (.str (nmAt t.names p)), .v (.int k), .no] S = .ok (.ret (.v (.bl false))) [.v t.d, .v (.tup (shut.map .int)), x2, x3, x4, .v (.str (nmAt t.names p)), .v (.int k), .v .non] S := by
              clear no bt
              generalize shut.map D.int = sd at *
              generalize t.d = td at *
              simp [Sh.b1_is_way, ro, sb]
            simp only [forLoop, bt, e]
          | some qm =>
            obtain ⟨q, m⟩ := qm
            rw [hd] at sb
            simp only [drD] at sb
            have hq : q < t.names.length := by
              obtain ⟨r, h1, h2⟩ := Option.bind_eq_some_iff.mp hd
              exact drive_lt (ht.rd r (List.mem_of_getElem? h1)) h2
            have e : evSs P (callF P (n + 2)) (makeF P (n + 2)) (Sh.b1_is_way iR iS) [.v t.d, .v (.tup (shut.map .int)), x2, x3, x4, .v (.str (nmAt t.names p)), .v (.int k), .no] S = .ok .next [.v t.d, .v (.tup (shut.map .int)), x2, x3, x4, .v (.str (nmAt t.names q)), .v (.int k), .v (.tup [.str (nmAt t.names q), .int m])] S := by
              have a0 : L2.atI [D.str (nmAt t.names q), .int m] 0 = some (.str (nmAt t.names q)) := rfl
              clear no bt
              generalize shut.map D.int = sd at *
              generalize t.d = td at *
              simp [Sh.b1_is_way, ro, sb, a0]
            have w : wayB t shut goal p (.int k :: xs) = wayB t shut goal q xs := by rw [wayB, if_pos hcond, hd]
            rw [w]
            have st1 : forLoop (.nm 6) (evSs P (callF P (n + 2)) (makeF P (n + 2)) (Sh.b1_is_way iR iS)) [6, 7] st (.int k :: xs) [.v t.d, .v (.tup (shut.map .int)), x2, x3, x4, .v (.str (nmAt t.names p)), .no, .no] S =
                forLoop (.nm 6) (evSs P (callF P (n + 2)) (makeF P (n + 2)) (Sh.b1_is_way iR iS)) [6, 7] st xs [.v t.d, .v (.tup (shut.map .int)), x2, x3, x4, .v (.str (nmAt t.names q)), .no, .no] S := by
              rw [for_1 bt e hst]
              simp [kill]
            rw [st1]
            exact way_loop F ht shut goal hst xs q hq fun y hy => hx y (by simp [hy])
      · refine .inr ⟨by rw [wayB, if_neg (fun z => hk ⟨z.1, z.2.1⟩)], no (decide_eq_false hk)⟩
    | ref _ => have := hx _ (List.mem_cons_self); cases this
    | exc _ _ => have := hx _ (List.mem_cons_self); cases this
    | _ => exact .inr ⟨rfl, no rfl⟩
/-- what is asked of a thing as a way -/
def wayD (t : Town) (shut : List Int) (p goal : Nat) : D → Bool
  | .tup xs => wayB t shut goal p xs
  | _ => false
def ThingOk (d : D) : Prop := flatOk d = true ∧ ∀ xs, d = .tup xs → ∀ x ∈ xs, flatOk x = true
theorem way_fin {iD iS iR n : Nat} {S : Sto} {td sd x5 : D} {goalS : Str} {xs : List D} {r : Bool} {q : Str}
    (loop : (forLoop (.nm 6) (evSs P (callF P n) (makeF P n) (Sh.b1_is_way iR iS)) [6, 7] (stays S [.tup xs]) xs [.v td, .v sd, .v x5, .v (.str goalS), .v (.tup xs), .v x5, .no, .no] S = .ok .next [.v td, .v sd, .v x5, .v (.str goalS), .v (.tup xs), .v (.str q), .no, .no] S ∧ r = decide (q = goalS)) ∨
      (r = false ∧ ∃ ρ', forLoop (.nm 6) (evSs P (callF P n) (makeF P n) (Sh.b1_is_way iR iS)) [6, 7] (stays S [.tup xs]) xs [.v td, .v sd, .v x5, .v (.str goalS), .v (.tup xs), .v x5, .no, .no] S = .ok (.ret (.v (.bl false))) ρ' S)) :
    finR (evSs P (callF P n) (makeF P n) (Sh.f_is_way iR iS).body [.v td, .v sd, .v x5, .v (.str goalS), .v (.tup xs), .no, .no, .no] S) = .ok (.v (.bl r)) S := by
  have q1 : primD S (.isi ["tuple"]) [.tup xs] = some (.v (.bl true)) := rfl
  rcases loop with ⟨loop, rfl⟩ | ⟨rfl, ρ', loop⟩
  · simp [Sh.f_is_way, q1, kill]
    rw [loop]
    simp
  · simp [Sh.f_is_way, q1, kill]
    rw [loop]
    simp
theorem is_way_ok {i iD iS iR : Nat} (F : WayFns P iD iS iR) (hP : P.fns[i]? = some (Sh.f_is_way iR iS)) (n : Nat) {t : Town} (ht : TownOk t) (shut : List Int) {p goal : Nat} (hp : p < t.names.length) (hg : goal < t.names.length) {d : D} (hd : ThingOk d) (S : Sto) :
    callF P (n + 3) i [t.d, .tup (shut.map .int), .str (nmAt t.names p), .str (nmAt t.names goal), d] S = .ok (.v (.bl (wayD t shut p goal d))) S := by
  rw [run_def hP rfl]
  have q1 := q_isTup S d hd.1
  cases d with
  | tup xs =>
    rcases way_loop F (n := n) (S := S) ht shut goal (st := stays S [.tup xs]) rfl (x2 := .v (.str (nmAt t.names p))) (x3 := .v (.str (nmAt t.names goal))) (x4 := .v (.tup xs)) xs p hp (hd.2 xs rfl) with ⟨q, hq, h1, h2⟩ | ⟨h1, ρ', h2⟩
    · exact way_fin (iD := iD) (.inl ⟨h2, by show wayB t shut goal p xs = _; rw [h1]; exact decide_eq_decide.mpr (nm_inj ht.nd hq hg).symm⟩)
    · exact way_fin (iD := iD) (q := Str.empty) (.inr ⟨h1, ρ', h2⟩)
  | ref _ => have := hd.1; cases this
  | exc _ _ => have := hd.1; cases this
  | _ =>
    generalize shut.map D.int = sd at *
    generalize t.d = td at *
    simp [Sh.f_is_way, q1, isTupD, wayD]
end Iv
/-! Pw1: a road's step among the steps -/
namespace Iv
open PySem
def stepOf (t : Town) (shut : List Int) (k : Int) (p : Nat) : List Stp := if 0 ≤ k ∧ k < t.roads.length ∧ k ∉ shut then (match (t.roads[k.toNat]?).bind (fun r => drive r p) with
    | some (q, m) => [⟨k.toNat, p, q, m⟩]
    | none => []) else []
theorem oneWay_ne {j a b p : Nat} {o : Option Int} {k : Int} (h : (j : Int) ≠ k ∨ a ≠ p) : (oneWay j a b o).filter (fun s => decide ((s.k : Int) = k ∧ s.a = p)) = [] := by
  cases o with
  | none => rfl
  | some m =>
    have : ¬ ((j : Int) = k ∧ a = p) := by rcases h with h | h <;> simp [h]
    rw [oneWay, List.filter_cons, if_neg (by simpa using this)]; rfl
theorem oneWay_eq {j a b : Nat} {o : Option Int} : (oneWay j a b o).filter (fun s => decide ((s.k : Int) = (j : Int) ∧ s.a = a)) = oneWay j a b o := by
  cases o with
  | none => rfl
  | some m => simp [oneWay, List.filter_cons]
theorem road_filter {j p c : Nat} {r : Road} (hr : RoadOk c r) {shut : List Int} (hs : (j : Int) ∉ shut) : (roadSteps shut j r).filter (fun s => decide ((s.k : Int) = (j : Int) ∧ s.a = p)) = (match drive r p with | some (q, m) => [⟨j, p, q, m⟩] | none => []) := by
  have ne := hr.ne
  unfold roadSteps
  rw [if_neg hs, List.filter_append]
  by_cases ha : r.a = p
  · subst ha
    rw [oneWay_eq, oneWay_ne (.inr (by omega)), List.append_nil]
    unfold drive
    cases hg : r.go with
    | some m => simp [oneWay]
    | none => simp [oneWay, Ne.symm ne]
  · rw [oneWay_ne (.inr ha), List.nil_append]
    by_cases hb : r.b = p
    · subst hb
      rw [oneWay_eq]
      unfold drive
      cases hb : r.back <;> simp [oneWay, ha]
    · rw [oneWay_ne (.inr hb)]
      unfold drive
      simp [ha, hb]
theorem from_filter {shut : List Int} {c p : Nat} {k : Int} : ∀ (j : Nat) (rs : List Road), (∀ r ∈ rs, RoadOk c r) → (stepsFrom shut j rs).filter (fun s => decide ((s.k : Int) = k ∧ s.a = p)) =
    if (j : Int) ≤ k ∧ k < j + rs.length ∧ k ∉ shut then (match (rs[k.toNat - j]?).bind (fun r => drive r p) with
      | some (q, m) => [⟨k.toNat, p, q, m⟩]
      | none => []) else []
  | j, [], _ => by
    rw [if_neg (by simp; omega)]; rfl
  | j, r :: rs, h => by
    have ih := from_filter (shut := shut) (c := c) (p := p) (k := k) (j + 1) rs fun x hx => h x (by simp [hx])
    simp only [stepsFrom, List.filter_append, ih]
    by_cases hj : (j : Int) = k
    · subst hj
      have e1 : ¬ (((j + 1 : Nat) : Int) ≤ (j : Int) ∧ (j : Int) < ((j + 1 : Nat) : Int) + rs.length ∧ (j : Int) ∉ shut) := by omega
      rw [if_neg e1, List.append_nil]
      by_cases hs : (j : Int) ∈ shut
      · rw [if_neg (by simp [hs])]
        unfold roadSteps
        rw [if_pos hs]; rfl
      · rw [if_pos ⟨Int.le_refl _, by simp only [List.length_cons]; omega, hs⟩, road_filter (h r (by simp)) hs]
        simp
    · have e0 : (roadSteps shut j r).filter (fun s => decide ((s.k : Int) = k ∧ s.a = p)) = [] := by
        unfold roadSteps
        split
        · rfl
        · rw [List.filter_append, oneWay_ne (.inl hj), oneWay_ne (.inl hj)]; rfl
      rw [e0, List.nil_append]
      by_cases hc : ((j + 1 : Nat) : Int) ≤ k ∧ k < ((j + 1 : Nat) : Int) + rs.length ∧ k ∉ shut
      · rw [if_pos hc, if_pos (by simp only [List.length_cons]; exact ⟨by omega, by omega, hc.2.2⟩)]
        have : k.toNat - j = (k.toNat - (j + 1)) + 1 := by omega
        rw [this, List.getElem?_cons_succ]
      · rw [if_neg hc, if_neg (by simp only [List.length_cons]; intro z; exact hc ⟨by omega, by omega, z.2.2⟩)]
theorem steps_filter {t : Town} (ht : TownOk t) (shut : List Int) (k : Int) (p : Nat) : (stepsOf t shut).filter (fun s => decide ((s.k : Int) = k ∧ s.a = p)) = stepOf t shut k p := by
  unfold stepsOf stepOf
  rw [from_filter (c := t.names.length) 0 t.roads ht.rd]
  simp
theorem wayB_step {t : Town} {shut : List Int} {goal p : Nat} {k : Int} {xs : List D} : wayB t shut goal p (.int k :: xs) = (match stepOf t shut k p with | s :: _ => wayB t shut goal s.b xs | [] => false) := by
  rw [wayB]
  unfold stepOf
  by_cases h : 0 ≤ k ∧ k < t.roads.length ∧ k ∉ shut
  · rw [if_pos h, if_pos h]
    cases hd : (t.roads[k.toNat]?).bind fun r => drive r p with
    | none => rfl
    | some qm => rfl
  · rw [if_neg h, if_neg h]
theorem stepOf_one {t : Town} {shut : List Int} {k : Int} {p : Nat} : stepOf t shut k p = [] ∨ ∃ s, stepOf t shut k p = [s] := by
  unfold stepOf
  split
  · split
    · exact .inr ⟨_, rfl⟩
    · exact .inl rfl
  · exact .inl rfl
theorem stepOf_lt {t : Town} (ht : TownOk t) {shut : List Int} {k : Int} {p : Nat} {s : Stp} (h : stepOf t shut k p = [s]) : s.b < t.names.length := by
  have : s ∈ (stepsOf t shut).filter (fun s => decide ((s.k : Int) = k ∧ s.a = p)) := by rw [steps_filter ht, h]; simp
  exact (steps_in ht (List.mem_filter.mp this).1).2.2
/-- a walk is a way -/
theorem wayB_walk {t : Town} {shut : List Int} {p : Nat} {l : List Stp} (h : WCh t shut p l) : wayB t shut (wend p l) p ((l.map (·.k)).map fun k : Nat => D.int (k : Int)) = true := by
  have gen : ∀ (l : List Stp) (p goal : Nat), WCh t shut p l → goal = wend p l → wayB t shut goal p ((l.map (·.k)).map fun k : Nat => D.int (k : Int)) = true := by
    intro l
    induction l with
    | nil => intro p goal _ e; simp [wayB, e, wend]
    | cons a r ih =>
      intro p goal h e
      obtain ⟨_, ⟨rd, h1, h2⟩, h3, _, h5⟩ := h
      have hk : a.k < t.roads.length := (List.getElem?_eq_some_iff.mp h1).1
      simp only [List.map_cons]
      rw [wayB, if_pos ⟨by omega, by omega, h3⟩, Int.toNat_natCast, h1]
      simp only [Option.bind_some, h2]
      exact ih a.b goal h5 e
  exact gen l p _ h rfl
theorem atI_mem {α : Type} (xs : List α) {i : Int} (h0 : 0 ≤ i) (h1 : i < xs.length) : ∃ x ∈ xs, L2.atI xs i = some x := ⟨_, List.getElem_mem (by omega), atI_lt xs h0 h1⟩
end Iv
/-! Pc3: steps from a place, minutes by a chart, the first road, what is due of it -/
namespace Iv
open PySem
variable {P : Pg}
def Stp.f (names : List Str) (s : Stp) : D := .tup [.int s.k, .str (nmAt names s.b), .int s.m]
def fromK (t : Town) (shut : List Int) (p m : Nat) : List Stp := (List.range m).flatMap fun k : Nat => stepOf t shut (k : Int) p
theorem step_val {t : Town} {shut : List Int} {p k : Nat} (hk : k < t.roads.length) : (stepOf t shut (k : Int) p = [] ∧ (if (k : Int) ∈ shut then D.non else drD t.names ((t.roads[(k : Int).toNat]?).bind fun r => drive r p)) = .non) ∨
    ∃ s, stepOf t shut (k : Int) p = [s] ∧ s.k = k ∧ s.a = p ∧ (if (k : Int) ∈ shut then D.non else drD t.names ((t.roads[(k : Int).toNat]?).bind fun r => drive r p)) = .tup [.str (nmAt t.names s.b), .int s.m] := by
  unfold stepOf
  by_cases hs : (k : Int) ∈ shut
  · refine .inl ⟨by rw [if_neg (fun z => z.2.2 hs)], by rw [if_pos hs]⟩
  · rw [if_pos ⟨by omega, by omega, hs⟩, if_neg hs]
    cases hd : (t.roads[(k : Int).toNat]?).bind fun r => drive r p with
    | none => exact .inl ⟨rfl, rfl⟩
    | some qm => exact .inr ⟨⟨(k : Int).toNat, p, qm.1, qm.2⟩, rfl, by simp, rfl, rfl⟩
theorem from_gen0 {n iB : Nat} {S : Sto} {td sh pl : D} {fs : List D} {k : Int} (e : callF P n iB [td, sh, pl, .int k] S = .ok (.v .non) S) :
    evSs P (callF P n) (makeF P n) (Sh.b1_steps_from iB) [.v td, .v sh, .v pl, .ol fs, .v (.int k), .no] S = .ok .next [.v td, .v sh, .v pl, .ol fs, .v (.int k), .v .non] S := by
  simp [Sh.b1_steps_from, e]
theorem from_gen1 {n iB : Nat} {S : Sto} {td sh pl : D} {fs : List D} {k m : Int} {z : Str} (e : callF P n iB [td, sh, pl, .int k] S = .ok (.v (.tup [.str z, .int m])) S) (hz : fs.length < sizeLine) :
    evSs P (callF P n) (makeF P n) (Sh.b1_steps_from iB) [.v td, .v sh, .v pl, .ol fs, .v (.int k), .no] S = .ok .next [.v td, .v sh, .v pl, .ol (fs ++ [.tup [.int k, .str z, .int m]]), .v (.int k), .v (.tup [.str z, .int m])] S := by
  have a0 : L2.atI [D.str z, .int m] 0 = some (.str z) := rfl
  have a1 : L2.atI [D.str z, .int m] 1 = some (.int m) := rfl
  have z3 : (3 : Nat) ≤ sizeLine := le_size (by decide)
  simp [Sh.b1_steps_from, e, a0, a1, hz, z3]
theorem from_fin {n iB : Nat} {S : Sto} {td rds : List D} {sh pl : D} {nn : Int} {items fs : List D} (hat : L2.atI td 1 = some (.tup rds)) (hl : primD S .len [.tup rds] = some (.v (.int nn))) (it : itemsD S .range1 [.int nn] = some items)
    (loop : forLoop (.nm 4) (evSs P (callF P n) (makeF P n) (Sh.b1_steps_from iB)) [4, 5] (stays S [.int nn]) items [.v (.tup td), .v sh, .v pl, .ol [], .no, .no] S = .ok .next [.v (.tup td), .v sh, .v pl, .ol fs, .no, .no] S) :
    finR (evSs P (callF P n) (makeF P n) (Sh.f_steps_from iB).body [.v (.tup td), .v sh, .v pl, .no, .no, .no] S) = .ok (.ol fs) S := by
  simp only [Sh.f_steps_from]
  rw [ss_n (ρ1 := [.v (.tup td), .v sh, .v pl, .ol [], .no, .no]) (S1 := S) (by simp)]
  rw [ss_n (ρ1 := [.v (.tup td), .v sh, .v pl, .ol fs, .no, .no]) (S1 := S) (by
    simp [hat, hl, it, kill]
    exact loop)]
  simp
theorem fromK_succ {t : Town} {shut : List Int} {p m : Nat} : fromK t shut p (m + 1) = fromK t shut p m ++ stepOf t shut (m : Int) p := by
  simp [fromK, List.range_succ, List.flatMap_append]
theorem fromK_len {t : Town} {shut : List Int} {p : Nat} : ∀ m, (fromK t shut p m).length ≤ m
  | 0 => by simp [fromK]
  | m + 1 => by
    rw [fromK_succ, List.length_append]
    have := fromK_len (t := t) (shut := shut) (p := p) m
    rcases stepOf_one (t := t) (shut := shut) (k := (m : Int)) (p := p) with h | ⟨s, h⟩ <;> rw [h] <;> simp <;> omega
theorem steps_from_ok {i iB iD : Nat} (hD : P.fns[iD]? = some Sh.f_driven) (hB : P.fns[iB]? = some (Sh.f_step_by iD)) (hP : P.fns[i]? = some (Sh.f_steps_from iB)) (n : Nat) {t : Town} (ht : TownOk t) (shut : List Int) {p : Nat} (hp : p < t.names.length) (S : Sto) :
    callF P (n + 3) i [t.d, .tup (shut.map .int), .str (nmAt t.names p)] S = .ok (.ol ((fromK t shut p t.roads.length).map (Stp.f t.names))) S := by
  rw [run_def hP rfl]
  have hr := ht.r18
  obtain ⟨ρ', e, rfl⟩ := for_invP (tg := .nm 4) (fb := evSs P (callF P (n + 2)) (makeF P (n + 2)) (Sh.b1_steps_from iB)) (ks := [4, 5]) (st := stays S [.int t.roads.length]) (S := S) rfl (fun k : Nat => D.int (k : Int))
    (fun pre ρ => ρ = [.v t.d, .v (.tup (shut.map .int)), .v (.str (nmAt t.names p)), .ol ((fromK t shut p pre.length).map (Stp.f t.names)), .no, .no])
    (List.range t.roads.length) [.v t.d, .v (.tup (shut.map .int)), .v (.str (nmAt t.names p)), .ol [], .no, .no] (by simp [fromK]) (by
      rintro pre k post ρ hpp rfl
      have hk : pre.length = k ∧ k < t.roads.length := by
        have h1 := congrArg List.length hpp
        have h2 := congrArg (fun l => l[pre.length]?) hpp
        simp at h1 h2
        rw [List.getElem?_range (by omega)] at h2
        simp at h2
        omega
      obtain ⟨hk1, hk2⟩ := hk
      have sb := step_by_ok (P := P) hD hB n ht shut hp (k := (k : Int)) (by omega) (by omega) S
      have hz : ((fromK t shut p pre.length).map (Stp.f t.names)).length < sizeLine := by
        have := fromK_len (t := t) (shut := shut) (p := p) pre.length
        rw [List.length_map, sizeLine_eq]; omega
      rcases step_val (t := t) (shut := shut) (p := p) hk2 with ⟨h1, h2⟩ | ⟨s, h1, h2, h3, h4⟩
      · rw [h2] at sb
        refine ⟨_, _, by rw [bT_nm, if_pos (by simp)]; rfl, from_gen0 sb, ?_⟩
        rw [List.length_append, List.length_singleton, fromK_succ, hk1, h1, List.append_nil]
        simp [kill]
      · rw [h4] at sb
        refine ⟨_, _, by rw [bT_nm, if_pos (by simp)]; rfl, from_gen1 sb hz, ?_⟩
        rw [List.length_append, List.length_singleton, fromK_succ, hk1, h1, List.map_append]
        simp [kill, Stp.f, h2])
  rw [List.length_range] at e
  have it := it_range1 S t.roads.length (by omega)
  exact from_fin (n := n + 2) (td := [D.tup (t.names.map .str), .tup (t.roads.map (Road.d t.names)), .tup (t.stands.map .str), .int t.reach]) rfl (by rw [q_lenT, List.length_map]) it e
/-! ### minutes by a chart -/
theorem mto_gen {n : Nat} {S : Sto} {td nms rows row : List D} {z1 z2 : Str} {p g : Int} {d : D} (hat : L2.atI td 0 = some (.tup nms)) (i1 : primD S .index [.tup nms, .str z1] = some (.v (.int p))) (i2 : primD S .index [.tup nms, .str z2] = some (.v (.int g))) (c1 : L2.atI rows g = some (.tup row)) (c2 : L2.atI row p = some d) :
    finR (evSs P (callF P n) (makeF P n) Sh.f_minutes_to.body [.v (.tup td), .v (.tup rows), .v (.str z1), .v (.str z2)] S) = .ok (.v d) S := by
  simp [Sh.f_minutes_to, hat, i1, i2, c1, c2]
theorem ch_at {n : Nat} {M : Mx} {g : Nat} (hg : g < n) : L2.atI ((List.range n).map fun g => D.tup (rowD n M g)) (g : Int) = some (.tup (rowD n M g)) := by
  rw [atI_nat _ (by omega), List.getElem?_map, Int.toNat_natCast, List.getElem?_range hg]; rfl
theorem minutes_to_ok {i : Nat} (hP : P.fns[i]? = some Sh.f_minutes_to) (n : Nat) {t : Town} (ht : TownOk t) (M : Mx) {p g : Nat} (hp : p < t.names.length) (hg : g < t.names.length) (S : Sto) :
    callF P (n + 1) i [t.d, chD t.names.length M, .str (nmAt t.names p), .str (nmAt t.names g)] S = .ok (.v (oD (M g p))) S := by
  rw [run_def hP rfl]
  exact mto_gen (td := [D.tup (t.names.map .str), .tup (t.roads.map (Road.d t.names)), .tup (t.stands.map .str), .int t.reach]) (p := (p : Int)) (g := (g : Int)) rfl (by rw [q_index, nm_idx ht.nd hp]; rfl) (by rw [q_index, nm_idx ht.nd hg]; rfl) (ch_at hg) (row_at hp)
/-! ### the first road -/
def frC (o : Option Int) (m w : Int) : Bool := match o with
  | some u => decide (u + m = w)
  | none => false
theorem fr_no {n iM iF : Nat} {S : Sto} {td sh ch on ot : D} {w k m : Int} {z : Str} {o : Option Int} (e : callF P n iM [td, ch, .str z, ot] S = .ok (.v (oD o)) S) (h : frC o m w = false) :
    evSs P (callF P n) (makeF P n) (Sh.b1_first_road iM iF) [.v td, .v sh, .v ch, .v on, .v ot, .v (.int w), .v (.int k), .v (.str z), .v (.int m), .no] S = .ok .next [.v td, .v sh, .v ch, .v on, .v ot, .v (.int w), .v (.int k), .v (.str z), .v (.int m), .v (oD o)] S := by
  cases o with
  | none =>
    have e : callF P n iM [td, ch, .str z, ot] S = .ok (.v .non) S := e
    simp [Sh.b1_first_road, e, oD]
  | some u =>
    have e : callF P n iM [td, ch, .str z, ot] S = .ok (.v (.int u)) S := e
    have h : ¬ (u + m = w) := of_decide_eq_false h
    simp [Sh.b1_first_road, e, oD, h]
theorem fr_yes {n iM iF : Nat} {S : Sto} {td sh ch on ot : D} {w k m : Int} {z : Str} {o : Option Int} (e : callF P n iM [td, ch, .str z, ot] S = .ok (.v (oD o)) S) (h : frC o m w = true) :
    evSs P (callF P n) (makeF P n) (Sh.b1_first_road iM iF) [.v td, .v sh, .v ch, .v on, .v ot, .v (.int w), .v (.int k), .v (.str z), .v (.int m), .no] S = .ok (.ret (.v (.int k))) [.v td, .v sh, .v ch, .v on, .v ot, .v (.int w), .v (.int k), .v (.str z), .v (.int m), .v (oD o)] S := by
  cases o with
  | none => cases h
  | some u =>
    have e : callF P n iM [td, ch, .str z, ot] S = .ok (.v (.int u)) S := e
    have h : u + m = w := of_decide_eq_true h
    simp [Sh.b1_first_road, e, oD, h]
theorem fr_loop {iM iF : Nat} (hM : P.fns[iM]? = some Sh.f_minutes_to) {n : Nat} {S : Sto} {t : Town} (ht : TownOk t) {M : Mx} {g : Nat} (hg : g < t.names.length) {sh on : D} {w : Int} {st : Sto → Bool} (hst : st S = true) : ∀ (l : List Stp), (∀ s ∈ l, s.b < t.names.length) →
    (∃ s ρ', l.find? (fun s => frC (M g s.b) s.m w) = some s ∧ forLoop (.tp [(.nm 6), (.nm 7), (.nm 8)]) (evSs P (callF P (n + 1)) (makeF P (n + 1)) (Sh.b1_first_road iM iF)) [6, 7, 8, 9] st (l.map (Stp.f t.names)) [.v t.d, .v sh, .v (chD t.names.length M), .v on, .v (.str (nmAt t.names g)), .v (.int w), .no, .no, .no, .no] S = .ok (.ret (.v (.int s.k))) ρ' S) ∨
    (l.find? (fun s => frC (M g s.b) s.m w) = none ∧ forLoop (.tp [(.nm 6), (.nm 7), (.nm 8)]) (evSs P (callF P (n + 1)) (makeF P (n + 1)) (Sh.b1_first_road iM iF)) [6, 7, 8, 9] st (l.map (Stp.f t.names)) [.v t.d, .v sh, .v (chD t.names.length M), .v on, .v (.str (nmAt t.names g)), .v (.int w), .no, .no, .no, .no] S = .ok .next [.v t.d, .v sh, .v (chD t.names.length M), .v on, .v (.str (nmAt t.names g)), .v (.int w), .no, .no, .no, .no] S)
  | [], _ => .inr ⟨rfl, rfl⟩
  | s :: l, h => by
    have e := minutes_to_ok (P := P) hM n ht M (h s (by simp)) hg S
    have bt : bindT (.tp [(.nm 6), (.nm 7), (.nm 8)]) (Stp.f t.names s) [.v t.d, .v sh, .v (chD t.names.length M), .v on, .v (.str (nmAt t.names g)), .v (.int w), .no, .no, .no, .no] = some [.v t.d, .v sh, .v (chD t.names.length M), .v on, .v (.str (nmAt t.names g)), .v (.int w), .v (.int s.k), .v (.str (nmAt t.names s.b)), .v (.int s.m), .no] := rfl
    rw [List.find?_cons, List.map_cons]
    cases hc : frC (M g s.b) s.m w with
    | true =>
      have y := fr_yes (P := P) (iF := iF) (sh := sh) (on := on) (k := (s.k : Int)) e hc
      exact .inl ⟨s, [.v t.d, .v sh, .v (chD t.names.length M), .v on, .v (.str (nmAt t.names g)), .v (.int w), .v (.int s.k), .v (.str (nmAt t.names s.b)), .v (.int s.m), .v (oD (M g s.b))], rfl, by simp only [forLoop, bt, y]⟩
    | false =>
      have y := fr_no (P := P) (iF := iF) (sh := sh) (on := on) (k := (s.k : Int)) e hc
      have st1 : forLoop (.tp [(.nm 6), (.nm 7), (.nm 8)]) (evSs P (callF P (n + 1)) (makeF P (n + 1)) (Sh.b1_first_road iM iF)) [6, 7, 8, 9] st (Stp.f t.names s :: l.map (Stp.f t.names)) [.v t.d, .v sh, .v (chD t.names.length M), .v on, .v (.str (nmAt t.names g)), .v (.int w), .no, .no, .no, .no] S =
          forLoop (.tp [(.nm 6), (.nm 7), (.nm 8)]) (evSs P (callF P (n + 1)) (makeF P (n + 1)) (Sh.b1_first_road iM iF)) [6, 7, 8, 9] st (l.map (Stp.f t.names)) [.v t.d, .v sh, .v (chD t.names.length M), .v on, .v (.str (nmAt t.names g)), .v (.int w), .no, .no, .no, .no] S := by
        rw [for_1 bt y hst]
        simp [kill]
      rw [st1]
      exact fr_loop hM ht hg hst l fun s hs => h s (by simp [hs])
def numD : Option Stp → D
  | some s => .int s.k
  | none => .non
/-- the first road of a way of least minutes -/
def firstD (t : Town) (shut : List Int) (M : Mx) (p g : Nat) : D := match M g p with
  | none => .non
  | some w => if p = g then .non else numD ((fromK t shut p t.roads.length).find? fun s => frC (M g s.b) s.m w)
theorem fr_fin0 {n iM iF : Nat} {S : Sto} {td sh ch : D} {z1 z2 : Str} {d : D} (e : callF P n iM [td, ch, .str z1, .str z2] S = .ok (.v d) S) (h : d = .non ∨ ((∃ w, d = .int w) ∧ z1 = z2)) :
    finR (evSs P (callF P n) (makeF P n) (Sh.f_first_road iM iF).body [.v td, .v sh, .v ch, .v (.str z1), .v (.str z2), .no, .no, .no, .no, .no] S) = .ok (.v .non) S := by
  rcases h with rfl | ⟨⟨w, rfl⟩, rfl⟩
  · simp [Sh.f_first_road, e]
  · simp [Sh.f_first_road, e]
theorem fr_fin {n iM iF : Nat} {S : Sto} {td sh ch : D} {z1 z2 : Str} {w : Int} {items : List D} {o : Option Stp} (e : callF P n iM [td, ch, .str z1, .str z2] S = .ok (.v (.int w)) S) (hne : z1 ≠ z2) (ef : callF P n iF [td, sh, .str z1] S = .ok (.ol items) S)
    (loop : (∃ s ρ', o = some s ∧ forLoop (.tp [(.nm 6), (.nm 7), (.nm 8)]) (evSs P (callF P n) (makeF P n) (Sh.b1_first_road iM iF)) [6, 7, 8, 9] (stays S [.lst items]) items [.v td, .v sh, .v ch, .v (.str z1), .v (.str z2), .v (.int w), .no, .no, .no, .no] S = .ok (.ret (.v (.int s.k))) ρ' S) ∨
      (o = none ∧ forLoop (.tp [(.nm 6), (.nm 7), (.nm 8)]) (evSs P (callF P n) (makeF P n) (Sh.b1_first_road iM iF)) [6, 7, 8, 9] (stays S [.lst items]) items [.v td, .v sh, .v ch, .v (.str z1), .v (.str z2), .v (.int w), .no, .no, .no, .no] S = .ok .next [.v td, .v sh, .v ch, .v (.str z1), .v (.str z2), .v (.int w), .no, .no, .no, .no] S)) :
    finR (evSs P (callF P n) (makeF P n) (Sh.f_first_road iM iF).body [.v td, .v sh, .v ch, .v (.str z1), .v (.str z2), .no, .no, .no, .no, .no] S) = .ok (.v (numD o)) S := by
  rcases loop with ⟨s, ρ', rfl, loop⟩ | ⟨rfl, loop⟩
  · simp [Sh.f_first_road, e, hne, ef, kill]
    rw [loop]
    simp [numD]
  · simp [Sh.f_first_road, e, hne, ef, kill]
    rw [loop]
    simp [numD]
theorem from_in {t : Town} (ht : TownOk t) {shut : List Int} {p m : Nat} {s : Stp} : s ∈ fromK t shut p m → s ∈ stepsOf t shut ∧ s.a = p ∧ s.k < m := by
  intro h
  obtain ⟨k, hk, h⟩ := List.mem_flatMap.mp h
  have hk := List.mem_range.mp hk
  rw [← steps_filter ht] at h
  obtain ⟨h1, h2⟩ := List.mem_filter.mp h
  have h2 := of_decide_eq_true h2
  exact ⟨h1, h2.2, by omega⟩
theorem from_of {t : Town} (ht : TownOk t) {shut : List Int} {p : Nat} {s : Stp} (h : s ∈ stepsOf t shut) (hp : s.a = p) : s ∈ fromK t shut p t.roads.length := by
  obtain ⟨⟨rd, h1, _⟩, _⟩ := steps_in ht h
  have hk := (List.getElem?_eq_some_iff.mp h1).1
  refine List.mem_flatMap.mpr ⟨s.k, List.mem_range.mpr hk, ?_⟩
  rw [← steps_filter ht]
  exact List.mem_filter.mpr ⟨h, decide_eq_true ⟨rfl, hp⟩⟩
theorem from_sorted {t : Town} (ht : TownOk t) {shut : List Int} {p : Nat} : ∀ m, (fromK t shut p m).Pairwise fun x y => x.k ≤ y.k
  | 0 => by simp [fromK]
  | m + 1 => by
    rw [fromK_succ, List.pairwise_append]
    refine ⟨from_sorted ht m, ?_, fun x hx y hy => ?_⟩
    · rcases stepOf_one (t := t) (shut := shut) (k := (m : Int)) (p := p) with h | ⟨s, h⟩ <;> rw [h] <;> simp
    · obtain ⟨_, _, h3⟩ := from_in ht hx
      rw [← steps_filter ht] at hy
      have h4 := of_decide_eq_true (List.mem_filter.mp hy).2
      omega
theorem first_road_ok {i iM iF iB iD : Nat} (hD : P.fns[iD]? = some Sh.f_driven) (hB : P.fns[iB]? = some (Sh.f_step_by iD)) (hF : P.fns[iF]? = some (Sh.f_steps_from iB)) (hM : P.fns[iM]? = some Sh.f_minutes_to) (hP : P.fns[i]? = some (Sh.f_first_road iM iF)) (n : Nat) {t : Town} (ht : TownOk t) (shut : List Int) (M : Mx) {p g : Nat} (hp : p < t.names.length) (hg : g < t.names.length) (S : Sto) :
    callF P (n + 4) i [t.d, .tup (shut.map .int), chD t.names.length M, .str (nmAt t.names p), .str (nmAt t.names g)] S = .ok (.v (firstD t shut M p g)) S := by
  rw [run_def hP rfl]
  have e := minutes_to_ok (P := P) hM (n + 2) ht M hp hg S
  unfold firstD
  cases hw : M g p with
  | none =>
    rw [hw] at e
    exact fr_fin0 e (.inl rfl)
  | some w =>
    rw [hw] at e
    dsimp only
    by_cases hpg : p = g
    · rw [if_pos hpg]
      exact fr_fin0 e (.inr ⟨⟨w, rfl⟩, by rw [hpg]⟩)
    · rw [if_neg hpg]
      have ef := steps_from_ok (P := P) hD hB hF n ht shut hp S
      have hne : nmAt t.names p ≠ nmAt t.names g := fun z => hpg ((nm_inj ht.nd hp hg).mp z)
      refine fr_fin e hne ef (fr_loop hM (n := n + 2) ht hg rfl _ fun s hs => ?_)
      exact (steps_in ht (from_in ht hs).1).2.2
/-! ### what is due -/
theorem due_yes {n : Nat} {S : Sto} {sd rows row : List D} {p g k a b m u w : Int} {fs : List D} (ha : a = p) (hz : fs.length < sizeLine) (c1 : L2.atI rows g = some (.tup row)) (c2 : L2.atI row b = some (.int u)) (c3 : L2.atI row p = some (.int w)) (h : u + m = w) :
    evSs P (callF P n) (makeF P n) Sh.b1__law_due [.v (.lst sd), .v (.tup rows), .v (.int p), .v (.int g), .ol fs, .v (.int k), .v (.int a), .v (.int b), .v (.int m)] S = .ok .next [.v (.lst sd), .v (.tup rows), .v (.int p), .v (.int g), .ol (fs ++ [.int k]), .v (.int k), .v (.int a), .v (.int b), .v (.int m)] S := by
  subst ha
  simp [Sh.b1__law_due, c1, c2, c3, h, hz]
theorem due_no {n : Nat} {S : Sto} {sd rows row : List D} {p g k a b m w : Int} {o : Option Int} {fs : List D} (c1 : L2.atI rows g = some (.tup row)) (c2 : L2.atI row b = some (oD o)) (c3 : L2.atI row p = some (.int w)) (h : a ≠ p ∨ frC o m w = false) :
    evSs P (callF P n) (makeF P n) Sh.b1__law_due [.v (.lst sd), .v (.tup rows), .v (.int p), .v (.int g), .ol fs, .v (.int k), .v (.int a), .v (.int b), .v (.int m)] S = .ok .next [.v (.lst sd), .v (.tup rows), .v (.int p), .v (.int g), .ol fs, .v (.int k), .v (.int a), .v (.int b), .v (.int m)] S := by
  by_cases ha : a = p
  · subst ha
    rcases h with h | h
    · exact absurd rfl h
    · cases o with
      | none =>
        have c2 : L2.atI row b = some .non := c2
        simp [Sh.b1__law_due, c1, c2]
      | some u =>
        have c2 : L2.atI row b = some (.int u) := c2
        have h : ¬ (u + m = w) := of_decide_eq_false h
        simp [Sh.b1__law_due, c1, c2, c3, h]
  · simp [Sh.b1__law_due, ha]
theorem q_min1 (S : Sto) (ks : List Int) {k : Int} (h : ks.min? = some k) : primD S .min1 [.lst (ks.map .int)] = some (.v (.int k)) := by
  have e2 : ∀ ks : List Int, intsOf (ks.map .int) = some ks := fun ks => by
    induction ks with
    | nil => rfl
    | cons a r ih => simp [intsOf, ih]
  show (some (ks.map D.int)).bind (fun ys => match intsOf ys with
    | some ns => ns.min?.map fun n => R.v (.int n)
    | none => (minV S ys).map .v) = _
  rw [Option.bind_some, e2]
  dsimp only
  rw [h]
  rfl
theorem due_fin0 {n : Nat} {S : Sto} {sd rows row : List D} {p g : Int} {d : D} (c1 : L2.atI rows g = some (.tup row)) (c3 : L2.atI row p = some d) (h : d = .non ∨ p = g) :
    finR (evSs P (callF P n) (makeF P n) Sh.f__law_due.body [.v (.lst sd), .v (.tup rows), .v (.int p), .v (.int g), .no, .no, .no, .no, .no] S) = .ok (.v .non) S := by
  by_cases hp : p = g
  · subst hp
    simp [Sh.f__law_due]
  · rcases h with rfl | h
    · simp [Sh.f__law_due, hp, c1, c3]
    · exact absurd h hp
theorem due_fin {n : Nat} {S : Sto} {sd rows row fs : List D} {p g w k : Int} (c1 : L2.atI rows g = some (.tup row)) (c3 : L2.atI row p = some (.int w)) (h : p ≠ g) (hm : primD S .min1 [.lst fs] = some (.v (.int k)))
    (loop : forLoop (.tp [(.nm 5), (.nm 6), (.nm 7), (.nm 8)]) (evSs P (callF P n) (makeF P n) Sh.b1__law_due) [5, 6, 7, 8] (stays S [.lst sd]) sd [.v (.lst sd), .v (.tup rows), .v (.int p), .v (.int g), .ol [], .no, .no, .no, .no] S = .ok .next [.v (.lst sd), .v (.tup rows), .v (.int p), .v (.int g), .ol fs, .no, .no, .no, .no] S) :
    finR (evSs P (callF P n) (makeF P n) Sh.f__law_due.body [.v (.lst sd), .v (.tup rows), .v (.int p), .v (.int g), .no, .no, .no, .no, .no] S) = .ok (.v (.int k)) S := by
  simp only [Sh.f__law_due]
  rw [ss_n (ρ1 := [.v (.lst sd), .v (.tup rows), .v (.int p), .v (.int g), .no, .no, .no, .no, .no]) (S1 := S) (by simp [h, c1, c3])]
  rw [ss_n (ρ1 := [.v (.lst sd), .v (.tup rows), .v (.int p), .v (.int g), .ol [], .no, .no, .no, .no]) (S1 := S) (by simp)]
  rw [ss_n (ρ1 := [.v (.lst sd), .v (.tup rows), .v (.int p), .v (.int g), .ol fs, .no, .no, .no, .no]) (S1 := S) (by
    simp [kill]
    exact loop)]
  simp [hm]
end Iv
/-! Pc4: what is due of the first road -/
namespace Iv
open PySem
variable {P : Pg}
theorem first_min {t : Town} (ht : TownOk t) {shut : List Int} {M : Mx} {p g : Nat} {w : Int} {s0 : Stp} (h : (fromK t shut p t.roads.length).find? (fun s => frC (M g s.b) s.m w) = some s0) :
    (((stepsOf t shut).filter fun s => decide (s.a = p) && frC (M g s.b) s.m w).map fun s => (s.k : Int)).min? = some (s0.k : Int) := by
  obtain ⟨h1, as, bs, h2, h3⟩ := List.find?_eq_some_iff_append.mp h
  have hin : s0 ∈ fromK t shut p t.roads.length := by rw [h2]; simp
  obtain ⟨q1, q2, q3⟩ := from_in ht hin
  refine List.min?_eq_some_iff.mpr ⟨List.mem_map.mpr ⟨s0, List.mem_filter.mpr ⟨q1, by simp [q2, h1]⟩, rfl⟩, fun b hb => ?_⟩
  obtain ⟨s, hs, rfl⟩ := List.mem_map.mp hb
  obtain ⟨hs1, hs2⟩ := List.mem_filter.mp hs
  simp only [Bool.and_eq_true, decide_eq_true_eq] at hs2
  have hf := from_of ht hs1 hs2.1
  rw [h2] at hf
  have srt := from_sorted ht (shut := shut) (p := p) t.roads.length
  rw [h2] at srt
  rcases List.mem_append.mp hf with hf | hf
  · have := h3 s hf
    rw [hs2.2] at this
    simp at this
  · rcases List.mem_cons.mp hf with rfl | hf
    · exact Int.le_refl _
    · have := (List.pairwise_append.mp srt).2.1
      have := (List.pairwise_cons.mp this).1 s hf
      omega
theorem due_turns {n : Nat} {S : Sto} {t : Town} (ht : TownOk t) {shut : List Int} {M : Mx} {p g : Nat} (hp : p < t.names.length) (hg : g < t.names.length) {w : Int} (hw : M g p = some w) {st : Sto → Bool} (hst : st S = true) {x0 : Slot} {sd : List D} :
    forLoop (.tp [(.nm 5), (.nm 6), (.nm 7), (.nm 8)]) (evSs P (callF P n) (makeF P n) Sh.b1__law_due) [5, 6, 7, 8] st ((stepsOf t shut).map Stp.d) [.v (.lst sd), .v (chD t.names.length M), .v (.int p), .v (.int g), .ol [], .no, .no, .no, .no] S =
      .ok .next [.v (.lst sd), .v (chD t.names.length M), .v (.int p), .v (.int g), .ol ((((stepsOf t shut).filter fun s => decide (s.a = p) && frC (M g s.b) s.m w).map fun s => (s.k : Int)).map .int), .no, .no, .no, .no] S := by
  obtain ⟨ρ', e, rfl⟩ := for_invP (tg := .tp [(.nm 5), (.nm 6), (.nm 7), (.nm 8)]) (fb := evSs P (callF P n) (makeF P n) Sh.b1__law_due) (ks := [5, 6, 7, 8]) (st := st) (S := S) hst Stp.d
    (fun pre ρ => ρ = [.v (.lst sd), .v (chD t.names.length M), .v (.int p), .v (.int g), .ol (((pre.filter fun s => decide (s.a = p) && frC (M g s.b) s.m w).map fun s => (s.k : Int)).map .int), .no, .no, .no, .no])
    (stepsOf t shut) [.v (.lst sd), .v (chD t.names.length M), .v (.int p), .v (.int g), .ol [], .no, .no, .no, .no] rfl (by
      rintro pre s post ρ hpp rfl
      have hs : s ∈ stepsOf t shut := by rw [hpp]; simp
      have hb := (steps_in ht hs).2.2
      have hl : (stepsOf t shut).length = pre.length + (post.length + 1) := by rw [hpp]; simp
      have hl2 := stepsOf_len ht shut
      have hf := List.length_filter_le (fun s : Stp => decide (s.a = p) && frC (M g s.b) s.m w) pre
      have hz : (((pre.filter fun s => decide (s.a = p) && frC (M g s.b) s.m w).map fun s => (s.k : Int)).map D.int).length < sizeLine := by
        rw [List.length_map, List.length_map, sizeLine_eq]; omega
      have c1 := ch_at (n := t.names.length) (M := M) hg
      have c2 := row_at (M := M) (g := g) hb
      have c3 := row_at (M := M) (g := g) hp
      rw [hw] at c3
      have c3 : L2.atI (rowD t.names.length M g) (p : Int) = some (.int w) := c3
      refine ⟨[.v (.lst sd), .v (chD t.names.length M), .v (.int p), .v (.int g), .ol (((pre.filter fun s => decide (s.a = p) && frC (M g s.b) s.m w).map fun s => (s.k : Int)).map .int), .v (.int s.k), .v (.int s.a), .v (.int s.b), .v (.int s.m)], ?_⟩
      by_cases hC : s.a = p ∧ frC (M g s.b) s.m w = true
      · obtain ⟨h1, h2⟩ := hC
        obtain ⟨u, hu, hm⟩ : ∃ u, M g s.b = some u ∧ u + s.m = w := by
          unfold frC at h2
          split at h2
          · rename_i u hu
            exact ⟨u, hu, of_decide_eq_true h2⟩
          · cases h2
        rw [hu] at c2
        have c2 : L2.atI (rowD t.names.length M g) (s.b : Int) = some (.int u) := c2
        have e := due_yes (P := P) (n := n) (S := S) (sd := sd) (k := (s.k : Int)) (p := (p : Int)) (a := (s.a : Int)) (by omega) hz c1 c2 c3 hm
        refine ⟨_, rfl, e, ?_⟩
        rw [List.filter_append, List.map_append, List.map_append]
        have : [s].filter (fun s => decide (s.a = p) && frC (M g s.b) s.m w) = [s] := by simp [h1, h2]
        rw [this]
        simp [kill, chD]
      · have hno : (s.a : Int) ≠ (p : Int) ∨ frC (M g s.b) s.m w = false := by
          by_cases h1 : s.a = p
          · right
            cases h2 : frC (M g s.b) s.m w with
            | false => rfl
            | true => exact absurd ⟨h1, h2⟩ hC
          · left; omega
        have e := due_no (P := P) (n := n) (S := S) (sd := sd) (k := (s.k : Int)) (fs := ((pre.filter fun s => decide (s.a = p) && frC (M g s.b) s.m w).map fun s => (s.k : Int)).map .int) c1 c2 c3 hno
        refine ⟨_, rfl, e, ?_⟩
        rw [List.filter_append]
        have : [s].filter (fun s => decide (s.a = p) && frC (M g s.b) s.m w) = [] := by
          rw [List.filter_cons]
          have : (decide (s.a = p) && frC (M g s.b) s.m w) = false := by
            cases hb : (decide (s.a = p) && frC (M g s.b) s.m w) with
            | false => rfl
            | true =>
              simp only [Bool.and_eq_true, decide_eq_true_eq] at hb
              exact absurd hb hC
          rw [this]; rfl
        rw [this, List.append_nil]
        simp [kill, chD])
  exact e
theorem law_due_ok {i : Nat} (hP : P.fns[i]? = some Sh.f__law_due) (n : Nat) {t : Town} (ht : TownOk t) (shut : List Int) {p g : Nat} (hp : p < t.names.length) (hg : g < t.names.length) (S : Sto) :
    callF P (n + 1) i [.lst ((stepsOf t shut).map Stp.d), chD t.names.length (chartM t.names.length (stepsOf t shut)), .int p, .int g] S = .ok (.v (firstD t shut (chartM t.names.length (stepsOf t shut)) p g)) S := by
  rw [run_def hP rfl]
  have cf := fun {v : Int} h => chart_first (steps_st ht shut) (g := g) (h := p) hg hp h (v := v)
  generalize chartM t.names.length (stepsOf t shut) = M at *
  have c1 := ch_at (n := t.names.length) (M := M) hg
  have c3 := row_at (M := M) (g := g) hp
  unfold firstD
  cases hw : M g p with
  | none =>
    rw [hw] at c3
    exact due_fin0 c1 c3 (.inl rfl)
  | some w =>
    dsimp only
    by_cases hpg : p = g
    · rw [if_pos hpg]
      exact due_fin0 c1 c3 (.inr (by rw [hpg]))
    · rw [if_neg hpg]
      rw [hw] at c3
      obtain ⟨s, s1, s2, u, s3, s4⟩ := cf hpg hw
      have hin := from_of ht s1 s2
      cases hf : (fromK t shut p t.roads.length).find? (fun s => frC (M g s.b) s.m w) with
      | none =>
        have := List.find?_eq_none.mp hf s hin
        rw [s3] at this
        simp [frC, s4] at this
      | some s0 =>
        have hm := q_min1 S _ (first_min ht hf)
        exact due_fin c1 c3 (by omega) hm (due_turns ht hp hg hw rfl (x0 := .no))
end Iv
/-! Pb0: least minutes to a goal by turns over all steps until nothing changes: the plain law -/
namespace Iv
abbrev Ms := Nat → Option Int
def impB (m : Ms) (s : Stp) : Bool := match m s.b with
  | none => false
  | some x => match m s.a with
    | none => true
    | some v => decide (x + s.m < v)
def bfV (m : Ms) (s : Stp) : Option Int := match m s.b with
  | none => none
  | some x => some (x + s.m)
def bfT (p : Ms × Bool) (s : Stp) : Ms × Bool := if impB p.1 s = true then (fun h => if h = s.a then bfV p.1 s else p.1 h, true) else p
def bfR (L : List Stp) (m : Ms) : Ms × Bool := L.foldl bfT (m, false)
def costB (B : Int) : Option Int → Int
  | none => B
  | some v => v
def keyC (m : Ms) (N : Nat) : Int := ((List.range N).map fun h => if (m h).isSome then (1 : Int) else 0).sum
def muB (B : Int) (m : Ms) (N : Nat) : Int := ((List.range N).map fun h => costB B (m h)).sum
theorem sum_upd (f : Nat → Int) (a : Nat) (v : Int) : ∀ N, ((List.range N).map fun h => if h = a then v else f h).sum = ((List.range N).map f).sum + (if a < N then v - f a else 0)
  | 0 => by simp
  | N + 1 => by
    rw [List.range_succ, List.map_append, List.map_append, List.sum_append, List.sum_append, sum_upd f a v N]
    simp only [List.map_cons, List.map_nil, List.sum_cons, List.sum_nil]
    by_cases h1 : N = a
    · subst h1; simp; omega
    · by_cases h2 : a < N
      · rw [if_pos h2, if_neg h1, if_pos (by omega)]; omega
      · rw [if_neg h2, if_neg h1, if_neg (by omega)]; omega
theorem sum_le (f : Nat → Int) (b : Int) (h : ∀ k, f k ≤ b) : ∀ N : Nat, ((List.range N).map f).sum ≤ b * N
  | 0 => by simp
  | N + 1 => by
    rw [List.range_succ, List.map_append, List.sum_append]
    have h1 := sum_le f b h N
    have h2 := h N
    have : b * ((N + 1 : Nat) : Int) = b * N + b := by rw [Int.natCast_add, Int.mul_add]; simp
    rw [this]
    simp
    omega
theorem sum_ge (f : Nat → Int) (h : ∀ k, 0 ≤ f k) : ∀ N : Nat, 0 ≤ ((List.range N).map f).sum
  | 0 => by simp
  | N + 1 => by
    rw [List.range_succ, List.map_append, List.sum_append]
    have h1 := sum_ge f h N
    have h2 := h N
    simp
    omega
theorem key_ge {m : Ms} {N : Nat} : 0 ≤ keyC m N := sum_ge _ (fun k => by split <;> decide) N
theorem key_lt {m : Ms} {N a : Nat} (ha : a < N) (h : m a = none) : keyC m N + 1 ≤ N := by
  have e := sum_upd (fun h => if (m h).isSome then (1 : Int) else 0) a 1 N
  have e2 := sum_le (fun h => if h = a then (1 : Int) else (if (m h).isSome then (1 : Int) else 0)) 1 (fun k => by split <;> (try split) <;> decide) N
  rw [e, if_pos ha, h] at e2
  unfold keyC
  simp at e2
  omega
/-- what is kept: N places, minutes to 60 a step, the goal g -/
structure BfOk (N : Nat) (L : List Stp) (g : Nat) (m : Ms) : Prop where
  g0 : m g = some 0
  nn : ∀ h v, m h = some v → 0 ≤ v
  up : ∀ h v, m h = some v → v ≤ 60 * (keyC m N - 1)
  k1 : 1 ≤ keyC m N
  s : ∀ h v, m h = some v → ∃ u, chartM N L g h = some u ∧ u ≤ v
  lt : ∀ h v, m h = some v → h < N
def StOk1 (L : List Stp) : Prop := ∀ s ∈ L, 1 ≤ s.m ∧ s.m ≤ 60
theorem bf_upd {N : Nat} {L : List Stp} {g : Nat} {m : Ms} {s : Stp} (hL : StOk N L) (hL1 : StOk1 L) (hg : g < N) (c : BfOk N L g m) (hs : s ∈ L) (hi : impB m s = true) :
    BfOk N L g (fun h => if h = s.a then bfV m s else m h) ∧ muB (60 * N) (fun h => if h = s.a then bfV m s else m h) N + 1 ≤ muB (60 * N) m N := by
  obtain ⟨la, lb, lne, _⟩ := hL s hs
  obtain ⟨l1, l60⟩ := hL1 s hs
  have ca := ch_all hL
  unfold impB at hi
  cases hb : m s.b with
  | none => rw [hb] at hi; cases hi
  | some x =>
    rw [hb] at hi
    dsimp only at hi
    have hv : bfV m s = some (x + s.m) := by unfold bfV; rw [hb]
    have x0 := c.nn _ _ hb
    have xu := c.up _ _ hb
    have hga : s.a ≠ g := by
      intro z
      rw [z, c.g0] at hi
      dsimp only at hi
      have := of_decide_eq_true hi
      omega
    have sound : ∃ u, chartM N L g s.a = some u ∧ u ≤ x + s.m := by
      obtain ⟨u, u1, u2⟩ := c.s _ _ hb
      obtain ⟨w, w1, w2⟩ := ca.e s hs
      obtain ⟨z, z1, z2⟩ := ca.t s.b lb g s.a hg la w u w1 u1
      exact ⟨z, z1, by omega⟩
    have ek := sum_upd (fun h => if (m h).isSome then (1 : Int) else 0) s.a 1 N
    have ek2 : keyC (fun h => if h = s.a then bfV m s else m h) N = ((List.range N).map fun h => if h = s.a then (1 : Int) else (if (m h).isSome then (1 : Int) else 0)).sum := by
      unfold keyC
      congr 1
      refine List.map_congr_left fun h _ => ?_
      by_cases q : h = s.a
      · simp [q, hv]
      · simp [q]
    rw [ek, if_pos la] at ek2
    have em := sum_upd (fun h => costB (60 * N) (m h)) s.a (x + s.m) N
    have em2 : muB (60 * N) (fun h => if h = s.a then bfV m s else m h) N = ((List.range N).map fun h => if h = s.a then x + s.m else costB (60 * N) (m h)).sum := by
      unfold muB
      congr 1
      refine List.map_congr_left fun h _ => ?_
      by_cases q : h = s.a
      · simp [q, hv, costB]
      · simp [q]
    rw [em, if_pos la] at em2
    have hk : keyC m N ≤ keyC (fun h => if h = s.a then bfV m s else m h) N := by
      rw [ek2]
      unfold keyC
      split <;> omega
    have hup : x + s.m ≤ 60 * (keyC (fun h => if h = s.a then bfV m s else m h) N - 1) ∧ x + s.m + 1 ≤ costB (60 * N) (m s.a) := by
      cases ha : m s.a with
      | none =>
        have kl := key_lt la ha
        have : keyC (fun h => if h = s.a then bfV m s else m h) N = keyC m N + 1 := by
          rw [ek2, ha]
          simp [keyC]
        rw [this]
        refine ⟨by omega, ?_⟩
        show x + s.m + 1 ≤ 60 * N
        omega
      | some v =>
        rw [ha] at hi
        have hi : x + s.m < v := of_decide_eq_true hi
        have := c.up _ _ ha
        refine ⟨by omega, ?_⟩
        show x + s.m + 1 ≤ v
        omega
    refine ⟨⟨?_, ?_, ?_, ?_, ?_, ?_⟩, ?_⟩
    · show (if g = s.a then bfV m s else m g) = some 0
      rw [if_neg (fun z => hga z.symm)]; exact c.g0
    · intro h v h1
      split at h1
      · rw [hv] at h1; cases h1; omega
      · exact c.nn _ _ h1
    · intro h v h1
      split at h1
      · rw [hv] at h1; cases h1; exact hup.1
      · have := c.up _ _ h1; omega
    · have := c.k1; omega
    · intro h v h1
      split at h1
      · rename_i q
        rw [hv] at h1; cases h1; rw [q]; exact sound
      · exact c.s _ _ h1
    · intro h v h1
      split at h1
      · rename_i q; omega
      · exact c.lt _ _ h1
    · rw [em2]
      unfold muB
      omega
theorem bf_turns {N : Nat} {L : List Stp} {g : Nat} (hL : StOk N L) (hL1 : StOk1 L) (hg : g < N) : ∀ (R : List Stp) (m : Ms) (b : Bool), (∀ s ∈ R, s ∈ L) → BfOk N L g m →
    BfOk N L g (R.foldl bfT (m, b)).1 ∧ muB (60 * N) (R.foldl bfT (m, b)).1 N ≤ muB (60 * N) m N ∧ ((R.foldl bfT (m, b)).2 = true → b = true ∨ muB (60 * N) (R.foldl bfT (m, b)).1 N + 1 ≤ muB (60 * N) m N) ∧
    ((R.foldl bfT (m, b)).2 = false → b = false ∧ (R.foldl bfT (m, b)).1 = m ∧ ∀ s ∈ R, impB m s = false)
  | [], m, b, _, c => ⟨c, Int.le_refl _, fun h => .inl h, fun h => ⟨h, rfl, by simp⟩⟩
  | s :: R, m, b, hR, c => by
    rw [List.foldl_cons]
    by_cases hi : impB m s = true
    · have e : bfT (m, b) s = (fun h => if h = s.a then bfV m s else m h, true) := by unfold bfT; rw [if_pos hi]
      obtain ⟨c1, c2⟩ := bf_upd hL hL1 hg c (hR s (by simp)) hi
      rw [e]
      obtain ⟨r1, r2, r3, r4⟩ := bf_turns hL hL1 hg R _ true (fun x hx => hR x (by simp [hx])) c1
      exact ⟨r1, by omega, fun _ => .inr (by omega), fun h => (by have := (r4 h).1; cases this)⟩
    · have e : bfT (m, b) s = (m, b) := by unfold bfT; rw [if_neg hi]
      rw [e]
      obtain ⟨r1, r2, r3, r4⟩ := bf_turns hL hL1 hg R m b (fun x hx => hR x (by simp [hx])) c
      refine ⟨r1, r2, r3, fun h => ?_⟩
      obtain ⟨q1, q2, q3⟩ := r4 h
      refine ⟨q1, q2, fun x hx => ?_⟩
      rcases List.mem_cons.mp hx with rfl | hx
      · cases hh : impB m x with
        | false => rfl
        | true => exact absurd hh hi
      · exact q3 x hx
/-- nothing sooner: these are the least minutes -/
theorem bf_done {N : Nat} {L : List Stp} {g : Nat} {m : Ms} (hL : StOk N L) (hL1 : StOk1 L) (hg : g < N) (c : BfOk N L g m) (hd : ∀ s ∈ L, impB m s = false) : ∀ h, h < N → m h = chartM N L g h := by
  have ca := ch_all hL
  have comp : ∀ (n : Nat) h v, h < N → v.toNat ≤ n → chartM N L g h = some v → ∃ w, m h = some w ∧ w ≤ v := by
    intro n
    induction n with
    | zero =>
      intro h v hh hv hc
      have v0 := ca.nn _ _ _ hc
      by_cases q : h = g
      · subst q
        rw [ca.z] at hc; cases hc
        exact ⟨0, c.g0, by omega⟩
      · obtain ⟨s, s1, s2, u, s3, s4⟩ := chart_first hL hg hh q hc
        have := (hL1 s s1).1
        have := ca.nn _ _ _ s3
        omega
    | succ n ih =>
      intro h v hh hv hc
      by_cases q : h = g
      · subst q
        rw [ca.z] at hc; cases hc
        exact ⟨0, c.g0, by omega⟩
      · obtain ⟨s, s1, s2, u, s3, s4⟩ := chart_first hL hg hh q hc
        have l1 := (hL1 s s1).1
        have u0 := ca.nn _ _ _ s3
        obtain ⟨_, lb, _, _⟩ := hL s s1
        obtain ⟨w, w1, w2⟩ := ih s.b u lb (by omega) s3
        have := hd s s1
        unfold impB at this
        rw [w1, s2] at this
        dsimp only at this
        cases hm : m h with
        | none => rw [hm] at this; cases this
        | some z =>
          rw [hm] at this
          have := of_decide_eq_false this
          exact ⟨z, rfl, by omega⟩
  intro h hh
  cases hm : m h with
  | none =>
    cases hc : chartM N L g h with
    | none => rfl
    | some v =>
      obtain ⟨w, w1, _⟩ := comp v.toNat h v hh (Nat.le_refl _) hc
      rw [hm] at w1; cases w1
  | some v =>
    obtain ⟨u, u1, u2⟩ := c.s _ _ hm
    obtain ⟨w, w1, w2⟩ := comp u.toNat h u hh (Nat.le_refl _) u1
    rw [hm] at w1; cases w1
    rw [u1]
    congr 1
    omega
theorem bf_start {N : Nat} {L : List Stp} {g : Nat} (hL : StOk N L) (hg : g < N) : BfOk N L g (fun h => if h = g then some 0 else none) ∧ muB (60 * N) (fun h => if h = g then some 0 else none) N ≤ 60 * N * N := by
  have ca := ch_all hL
  have hk : keyC (fun h => if h = g then some (0 : Int) else none) N = 1 := by
    have e := sum_upd (fun _ => (0 : Int)) g 1 N
    rw [if_pos hg] at e
    have z : ∀ N : Nat, ((List.range N).map fun _ => (0 : Int)).sum = 0 := fun N => by
      induction N with
      | zero => rfl
      | succ N ih => rw [List.range_succ, List.map_append, List.sum_append, ih]; rfl
    rw [z] at e
    have e' : ((List.range N).map fun h => if h = g then (1 : Int) else 0).sum = 1 := e
    unfold keyC
    refine Eq.trans ?_ e'
    congr 1
    refine List.map_congr_left fun h _ => ?_
    by_cases q : h = g
    · simp [q]
    · simp [q]
  refine ⟨⟨by simp, ?_, ?_, by omega, ?_, ?_⟩, ?_⟩
  · intro h v h1
    split at h1
    · cases h1; decide
    · cases h1
  · intro h v h1
    rw [hk]
    split at h1
    · cases h1; decide
    · cases h1
  · intro h v h1
    split at h1
    · rename_i q
      cases h1
      rw [q]
      exact ⟨0, ca.z g, by decide⟩
    · cases h1
  · intro h v h1
    split at h1
    · omega
    · cases h1
  · unfold muB
    refine sum_le _ _ (fun k => ?_) N
    dsimp only
    split
    · show (0 : Int) ≤ _; omega
    · exact Int.le_refl _
end Iv
/-! Pv3: x[::s] -/
namespace Iv
open PySem
section
variable (P : Pg) (cf cm : Nat → List D → Sto → ResF) (ρ : Env) (S : Sto)
def slSR (x k : D) (ρ : Env) (S : Sto) : Res R := match k with
  | .int i => .of (slSD S x i) ρ S
  | _ => .err
@[simp] theorem slSR_int (x : D) (i : Int) : slSR x (.int i) ρ S = .of (slSD S x i) ρ S := rfl
@[simp] theorem xE_slS (a st : E) : evE P cf cm (.slS a st) ρ S = (pk a (evE P cf cm a) ρ S).bind fun x ρ S => (pk st (evE P cf cm st) ρ S).bind fun k ρ S => slSR x k ρ S := by
  simp only [evE]; rfl
@[simp] theorem slS_one (xs : List D) : slSD S (.lst xs) 1 = some (.ol xs) := rfl
@[simp] theorem slS_neg (xs : List D) : slSD S (.lst xs) (-1) = some (.ol xs.reverse) := rfl
end
end Iv
/-! Pb1: least minutes to a goal: the run -/
namespace Iv
open PySem
variable {P : Pg}
/-! ### dicts by names -/
theorem eqB_str (a b : Str) : D.eqB (.str a) (.str b) = decide (a = b) := by simp [D.eqB]
theorem getK_nil (k : D) : getK [] k = none := rfl
theorem getK_cons (k0 v0 k : D) (r : List (D × D)) : getK ((k0, v0) :: r) k = if D.eqB k0 k = true then some v0 else getK r k := by
  unfold getK
  rw [List.find?_cons]
  cases h : D.eqB k0 k <;> simp [h]
theorem hasK_getK (k : D) : ∀ kvs : List (D × D), hasK kvs k = (getK kvs k).isSome
  | [] => rfl
  | (a, b) :: r => by
    rw [getK_cons]
    have := hasK_getK k r
    unfold hasK at this ⊢
    rw [List.any_cons, this]
    cases h : D.eqB a k <;> simp
theorem eqB_two {d : D} {a b : Str} (h1 : D.eqB d (.str a) = true) : D.eqB d (.str b) = decide (a = b) := by
  cases d with
  | str x =>
    rw [eqB_str] at h1 ⊢
    rw [of_decide_eq_true h1]
  | _ => simp [D.eqB] at h1
theorem getK_map {a : Str} {v : D} (b : Str) : ∀ kvs : List (D × D), getK (kvs.map fun kv => if D.eqB kv.1 (.str a) = true then (kv.1, v) else kv) (.str b) = if a = b then (getK kvs (.str a)).map (fun _ => v) else getK kvs (.str b)
  | [] => by simp [getK_nil]
  | (x, y) :: r => by
    have ih := getK_map (a := a) (v := v) b r
    rw [List.map_cons]
    by_cases h1 : D.eqB x (.str a) = true
    · have h2 := eqB_two (b := b) h1
      rw [if_pos h1]
      show getK ((x, v) :: _) _ = _
      rw [getK_cons, getK_cons, getK_cons, if_pos h1, ih, h2]
      by_cases q : a = b
      · simp [q]
      · simp [q]
    · rw [if_neg h1]
      show getK ((x, y) :: _) _ = _
      rw [getK_cons, getK_cons, getK_cons, if_neg h1, ih]
      by_cases q : a = b
      · subst q
        rw [if_neg h1]; simp
      · simp [q]
theorem getK_app {a : Str} {v : D} (b : Str) : ∀ kvs : List (D × D), getK (kvs ++ [(.str a, v)]) (.str b) = match getK kvs (.str b) with | some d => some d | none => if a = b then some v else none
  | [] => by
    rw [List.nil_append, getK_cons, eqB_str]
    simp [getK_nil]
  | (x, y) :: r => by
    have ih := getK_app (a := a) (v := v) b r
    rw [List.cons_append, getK_cons, getK_cons, ih]
    by_cases h : D.eqB x (.str b) = true
    · rw [if_pos h, if_pos h]
    · rw [if_neg h, if_neg h]
theorem getK_putK (kvs : List (D × D)) (a b : Str) (v : D) : getK (putK kvs (.str a) v) (.str b) = if a = b then some v else getK kvs (.str b) := by
  unfold putK
  by_cases h : hasK kvs (.str a) = true
  · rw [if_pos h, getK_map]
    rw [hasK_getK] at h
    obtain ⟨w, hw⟩ := Option.isSome_iff_exists.mp h
    rw [hw]; rfl
  · rw [if_neg h, getK_app]
    by_cases q : a = b
    · subst q
      rw [hasK_getK] at h
      cases hg : getK kvs (.str a) with
      | none => rfl
      | some w => rw [hg] at h; exact absurd rfl h
    · rw [if_neg q, if_neg q]
      cases getK kvs (.str b) <;> rfl
theorem putK_len (kvs : List (D × D)) (a : Str) (v : D) : (putK kvs (.str a) v).length = kvs.length + (if (getK kvs (.str a)).isSome = true then 0 else 1) := by
  unfold putK
  rw [hasK_getK]
  by_cases h : (getK kvs (.str a)).isSome = true
  · rw [if_pos h, if_pos h, List.length_map]; rfl
  · rw [if_neg h, if_neg h, List.length_append]; rfl
section
variable (S : Sto) (kvs : List (D × D)) (z : Str)
theorem in_dct : cmpD S .In (.str z) (.dct false kvs) = some (getK kvs (.str z)).isSome := by
  show inD S (.str z) (.dct false kvs) = _
  simp [inD, seqD, lstD, dctD, flatK, hasK_getK]
theorem nin_dct : cmpD S .NotIn (.str z) (.dct false kvs) = some (!(getK kvs (.str z)).isSome) := by
  show (inD S (.str z) (.dct false kvs)).map (!·) = _
  rw [show inD S (.str z) (.dct false kvs) = _ from in_dct S kvs z]; rfl
theorem ix_dct : ixD S (.dct false kvs) (.str z) = getK kvs (.str z) := by
  simp [ixD, ixQ, ixK, dctD, flatK]
theorem get1_dct : primD S .get1 [.dct false kvs, .str z] = some (.v ((getK kvs (.str z)).getD .non)) := by
  simp [primD, p_get1, dctD, flatK]
theorem own_get1 : ownOk S .get1 (.dct false kvs) = true := by
  simp [ownOk, tyD, mown]
end
/-! ### one step -/
theorem lt_gen {n : Nat} {S : Sto} {sd goal : D} {kvs kvs2 : List (D × D)} {b b2 : Bool} {k mi : Int} {za zb : Str} {ob oa : Option Int} (h1 : getK kvs (.str zb) = ob.map .int) (h2 : getK kvs (.str za) = oa.map .int) (hz : kvs.length < sizeLine)
    (hr : (∃ x, ob = some x ∧ (oa = none ∨ ∃ v, oa = some v ∧ x + mi < v) ∧ kvs2 = putK kvs (.str za) (.int (x + mi)) ∧ b2 = true) ∨ ((ob = none ∨ ∃ x v, ob = some x ∧ oa = some v ∧ ¬ (x + mi < v)) ∧ kvs2 = kvs ∧ b2 = b)) :
    evSs P (callF P n) (makeF P n) Sh.b1_least_to [.v sd, .v goal, .od false kvs, .v (.bl b), .v (.int k), .v (.str za), .v (.str zb), .v (.int mi)] S = .ok .next [.v sd, .v goal, .od false kvs2, .v (.bl b2), .v (.int k), .v (.str za), .v (.str zb), .v (.int mi)] S := by
  have fl : flatK (.str za) = true := rfl
  rcases hr with ⟨x, rfl, h, rfl, rfl⟩ | ⟨h, rfl, rfl⟩
  · rcases h with rfl | ⟨v, rfl, hv⟩
    · simp [Sh.b1_least_to, in_dct, nin_dct, ix_dct, h1, h2, hz, fl]
    · simp [Sh.b1_least_to, in_dct, nin_dct, ix_dct, h1, h2, hz, hv, fl]
  · rcases h with rfl | ⟨x, v, rfl, rfl, hv⟩
    · simp [Sh.b1_least_to, in_dct, nin_dct, ix_dct, h1]
    · simp [Sh.b1_least_to, in_dct, nin_dct, ix_dct, h1, h2, hv]
def Stp.dn (names : List Str) (s : Stp) : D := .tup [.int s.k, .str (nmAt names s.a), .str (nmAt names s.b), .int s.m]
structure Rep (names : List Str) (kvs : List (D × D)) (m : Ms) : Prop where
  g : ∀ h, h < names.length → getK kvs (.str (nmAt names h)) = (m h).map .int
  l : (kvs.length : Int) = keyC m names.length
theorem key_upd {m : Ms} {N a : Nat} {v : Int} (ha : a < N) : keyC (fun h => if h = a then some v else m h) N = keyC m N + (if (m a).isSome = true then 0 else 1) := by
  have ek := sum_upd (fun h => if (m h).isSome then (1 : Int) else 0) a 1 N
  have e2 : keyC (fun h => if h = a then some v else m h) N = ((List.range N).map fun h => if h = a then (1 : Int) else (if (m h).isSome then (1 : Int) else 0)).sum := by
    unfold keyC
    congr 1
    refine List.map_congr_left fun h _ => ?_
    by_cases q : h = a
    · simp [q]
    · simp [q]
  rw [e2, ek, if_pos ha]
  unfold keyC
  cases m a <;> simp
theorem key_le {m : Ms} {N : Nat} : keyC m N ≤ N := by
  have := sum_le (fun h => if (m h).isSome then (1 : Int) else 0) 1 (fun k => by split <;> decide) N
  unfold keyC
  omega
theorem rep_put {names : List Str} (hn : names.Nodup) {kvs : List (D × D)} {m : Ms} {a : Nat} {v : Int} (r : Rep names kvs m) (ha : a < names.length) : Rep names (putK kvs (.str (nmAt names a)) (.int v)) (fun h => if h = a then some v else m h) := by
  refine ⟨fun h hh => ?_, ?_⟩
  · rw [getK_putK, r.g h hh]
    by_cases q : h = a
    · subst q; simp
    · have : ¬ nmAt names a = nmAt names h := fun z => q ((nm_inj hn ha hh).mp z).symm
      simp [q, this]
  · rw [putK_len, key_upd ha, r.g a ha, Option.isSome_map]
    have := r.l
    split <;> omega
theorem imp_yes {m : Ms} {s : Stp} (h : impB m s = true) : ∃ x, m s.b = some x ∧ (m s.a = none ∨ ∃ v, m s.a = some v ∧ x + s.m < v) := by
  unfold impB at h
  split at h
  · cases h
  · rename_i x hx
    refine ⟨x, hx, ?_⟩
    split at h
    · rename_i ha; exact .inl ha
    · rename_i v ha; exact .inr ⟨v, ha, of_decide_eq_true h⟩
theorem imp_no {m : Ms} {s : Stp} (h : ¬ impB m s = true) : m s.b = none ∨ ∃ x v, m s.b = some x ∧ m s.a = some v ∧ ¬ (x + s.m < v) := by
  unfold impB at h
  split at h
  · rename_i hx; exact .inl hx
  · rename_i x hx
    split at h
    · exact absurd rfl h
    · rename_i v ha; exact .inr ⟨x, v, hx, ha, fun z => h (decide_eq_true z)⟩
theorem lt_turn {n : Nat} {S : Sto} {names : List Str} (hn : names.Nodup) (h10 : names.length ≤ 10) {sd goal : D} {kvs : List (D × D)} {m : Ms} {b : Bool} {s : Stp} (r : Rep names kvs m) (ha : s.a < names.length) (hb : s.b < names.length) :
    ∃ kvs2, Rep names kvs2 (bfT (m, b) s).1 ∧ evSs P (callF P n) (makeF P n) Sh.b1_least_to [.v sd, .v goal, .od false kvs, .v (.bl b), .v (.int s.k), .v (.str (nmAt names s.a)), .v (.str (nmAt names s.b)), .v (.int s.m)] S =
      .ok .next [.v sd, .v goal, .od false kvs2, .v (.bl (bfT (m, b) s).2), .v (.int s.k), .v (.str (nmAt names s.a)), .v (.str (nmAt names s.b)), .v (.int s.m)] S := by
  have hz : kvs.length < sizeLine := by
    have := r.l
    have := key_le (m := m) (N := names.length)
    rw [sizeLine_eq]; omega
  have g1 := r.g s.b hb
  have g2 := r.g s.a ha
  by_cases hi : impB m s = true
  · obtain ⟨x, q1, q2⟩ := imp_yes hi
    have e1 : bfV m s = some (x + s.m) := by unfold bfV; rw [q1]
    have eT : bfT (m, b) s = (fun h => if h = s.a then bfV m s else m h, true) := by unfold bfT; rw [if_pos hi]
    rw [eT]
    refine ⟨_, ?_, lt_gen g1 g2 hz (.inl ⟨x, q1, q2, rfl, rfl⟩)⟩
    have := rep_put hn (v := x + s.m) r ha
    rw [e1]
    exact this
  · have eT : bfT (m, b) s = (m, b) := by unfold bfT; rw [if_neg hi]
    rw [eT]
    exact ⟨kvs, r, lt_gen g1 g2 hz (.inr ⟨imp_no hi, rfl, rfl⟩)⟩
theorem lt_round {n : Nat} {S : Sto} {names : List Str} (hn : names.Nodup) (h10 : names.length ≤ 10) {sd goal : D} {kvs : List (D × D)} {m : Ms} {b : Bool} {R : List Stp} (hR : StOk names.length R) (r : Rep names kvs m) {st : Sto → Bool} (hst : st S = true) :
    ∃ kvs2, Rep names kvs2 (R.foldl bfT (m, b)).1 ∧ forLoop (.tp [(.nm 4), (.nm 5), (.nm 6), (.nm 7)]) (evSs P (callF P n) (makeF P n) Sh.b1_least_to) [4, 5, 6, 7] st (R.map (Stp.dn names)) [.v sd, .v goal, .od false kvs, .v (.bl b), .no, .no, .no, .no] S =
      .ok .next [.v sd, .v goal, .od false kvs2, .v (.bl (R.foldl bfT (m, b)).2), .no, .no, .no, .no] S := by
  obtain ⟨ρ', e, kvs2, h1, rfl⟩ := for_invP (tg := .tp [(.nm 4), (.nm 5), (.nm 6), (.nm 7)]) (fb := evSs P (callF P n) (makeF P n) Sh.b1_least_to) (ks := [4, 5, 6, 7]) (st := st) (S := S) hst (Stp.dn names)
    (fun pre ρ => ∃ kvs2, Rep names kvs2 (pre.foldl bfT (m, b)).1 ∧ ρ = [.v sd, .v goal, .od false kvs2, .v (.bl (pre.foldl bfT (m, b)).2), .no, .no, .no, .no]) R [.v sd, .v goal, .od false kvs, .v (.bl b), .no, .no, .no, .no] ⟨kvs, r, rfl⟩ (by
      rintro pre s post ρ hpp ⟨kvs2, h1, rfl⟩
      obtain ⟨la, lb, _, _⟩ := hR s (by rw [hpp]; simp)
      obtain ⟨kvs3, h2, e⟩ := lt_turn (P := P) (n := n) (S := S) hn h10 (sd := sd) (goal := goal) (b := (pre.foldl bfT (m, b)).2) h1 la lb
      refine ⟨_, _, rfl, e, kvs3, ?_, ?_⟩
      · rw [List.foldl_append]; exact h2
      · rw [List.foldl_append]; simp [kill])
  exact ⟨kvs2, h1, e⟩
theorem lt_body {n : Nat} {S : Sto} {sd : List D} {goal : D} {kvs kvs2 : List (D × D)} {b b2 : Bool}
    (loop : forLoop (.tp [(.nm 4), (.nm 5), (.nm 6), (.nm 7)]) (evSs P (callF P n) (makeF P n) Sh.b1_least_to) [4, 5, 6, 7] (stays S [.lst sd]) sd [.v (.lst sd), .v goal, .od false kvs, .v (.bl false), .no, .no, .no, .no] S = .ok .next [.v (.lst sd), .v goal, .od false kvs2, .v (.bl b2), .no, .no, .no, .no] S) :
    evSs P (callF P n) (makeF P n) Sh.b2_least_to [.v (.lst sd), .v goal, .od false kvs, .v (.bl b), .no, .no, .no, .no] S = .ok .next [.v (.lst sd), .v goal, .od false kvs2, .v (.bl b2), .no, .no, .no, .no] S := by
  simp only [Sh.b2_least_to]
  rw [ss_n (ρ1 := [.v (.lst sd), .v goal, .od false kvs, .v (.bl false), .no, .no, .no, .no]) (S1 := S) (by simp)]
  rw [ss_n (ρ1 := [.v (.lst sd), .v goal, .od false kvs2, .v (.bl b2), .no, .no, .no, .no]) (S1 := S) (by
    simp [kill]
    exact loop)]
  simp
abbrev ltTest (P : Pg) (n : Nat) : Env → Sto → Res Bool := fun ρ S => (pk (.var 3) (evE P (callF P n) (makeF P n) (.var 3)) ρ S).bind fun x ρ S => .of (truthD S x) ρ S
theorem lt_test {n : Nat} {S : Sto} {a c : Slot} {d : Slot} {b : Bool} : ltTest P n [a, c, d, .v (.bl b), .no, .no, .no, .no] S = .ok b [a, c, d, .v (.bl b), .no, .no, .no, .no] S := by
  simp [ltTest, truthD]
theorem lt_while {n : Nat} {S : Sto} {names : List Str} (hn : names.Nodup) (h10 : names.length ≤ 10) {goal : D} {L R : List Stp} {g : Nat} (hg : g < names.length) (hL : StOk names.length L) (hL1 : StOk1 L) (hRL : ∀ s, s ∈ R ↔ s ∈ L) : ∀ (fuel : Nat) (kvs : List (D × D)) (m : Ms), Rep names kvs m → BfOk names.length L g m → muB (60 * names.length) m names.length + 3 ≤ fuel →
    ∃ kvs2 m2, Rep names kvs2 m2 ∧ BfOk names.length L g m2 ∧ (∀ s ∈ L, impB m2 s = false) ∧
      whileLoop (ltTest P n) (evSs P (callF P n) (makeF P n) Sh.b2_least_to) [4, 5, 6, 7] fuel [.v (.lst (R.map (Stp.dn names))), .v goal, .od false kvs, .v (.bl true), .no, .no, .no, .no] S = .ok .next [.v (.lst (R.map (Stp.dn names))), .v goal, .od false kvs2, .v (.bl false), .no, .no, .no, .no] S
  | fuel, kvs, m, r, c, hf => by
    have mu0 : 0 ≤ muB (60 * names.length) m names.length := sum_ge _ (fun k => by
      unfold costB
      split
      · omega
      · rename_i v hv; exact c.nn _ _ hv) _
    obtain ⟨f2, rfl⟩ : ∃ f2, fuel = f2 + 2 := ⟨fuel - 2, by omega⟩
    obtain ⟨kvs2, h1, e⟩ := lt_round (P := P) (n := n) (S := S) hn h10 (sd := .lst (R.map (Stp.dn names))) (goal := goal) (b := false) (R := R) (fun s hs => hL s ((hRL s).mp hs)) r (st := stays S [.lst (R.map (Stp.dn names))]) rfl
    obtain ⟨c1, c2, c3, c4⟩ := bf_turns hL hL1 hg R m false (fun s hs => (hRL s).mp hs) c
    have eb := lt_body (b := true) e
    have step : whileLoop (ltTest P n) (evSs P (callF P n) (makeF P n) Sh.b2_least_to) [4, 5, 6, 7] (f2 + 2) [.v (.lst (R.map (Stp.dn names))), .v goal, .od false kvs, .v (.bl true), .no, .no, .no, .no] S =
        whileLoop (ltTest P n) (evSs P (callF P n) (makeF P n) Sh.b2_least_to) [4, 5, 6, 7] (f2 + 1) [.v (.lst (R.map (Stp.dn names))), .v goal, .od false kvs2, .v (.bl (R.foldl bfT (m, false)).2), .no, .no, .no, .no] S := by
      rw [whileLoop, lt_test]
      dsimp only
      rw [eb]
      simp [kill]
    rw [step]
    cases hb : (R.foldl bfT (m, false)).2 with
    | false =>
      obtain ⟨_, q2, q3⟩ := c4 hb
      refine ⟨kvs2, m, by rw [← q2]; exact h1, c, fun s hs => q3 s ((hRL s).mpr hs), ?_⟩
      rw [whileLoop, lt_test]
    | true =>
      have c3 := c3 hb
      rcases c3 with c3 | c3
      · cases c3
      · exact lt_while hn h10 hg hL hL1 hRL (f2 + 1) kvs2 _ h1 c1 (by omega)
termination_by fuel => fuel
end Iv
/-! Pd0: pens -/
namespace Iv
open PySem
section
variable (P : Pg) (cf cm : Nat → List D → Sto → ResF) (ρ : Env) (S : Sto)
@[simp] theorem xE_dct0 : evE P cf cm (.dct []) ρ S = .ok (.od false []) ρ S := by
  simp only [evE, evEs]; rfl
@[simp] theorem xE_dct1 (k v : E) : evE P cf cm (.dct [k, v]) ρ S = (evEs P cf cm [k, v] ρ S).bind fun ds ρ S => (Res.of (twos ds) ρ S).bind fun kvs ρ S => if kvs.length ≤ 15 ∧ kvs.all (fun kv => flatK kv.1) = true then .ok (.od false (kvs.foldl (fun acc kv => putK acc kv.1 kv.2) [])) ρ S else .err := by
  simp only [evE]; refine congrArg (Res.bind _) ?_; funext ds ρ S
  cases twos ds <;> rfl
@[simp] theorem twos2 (k v : D) : twos [k, v] = some [(k, v)] := rfl
end
variable {P : Pg}
theorem set2 (S : Sto) (a : Nat) (c d : Cell) : setCell (setCell S a c) a d = setCell S a d := by simp [setCell]
theorem pen_tail {n : Nat} {S : Sto} {xs : D} {k : Int} (c : Int) : ∃ d s : Int, 0 ≤ d ∧ evSs P (callF P n) (makeF P n) (Sh.f__law_pen.body.drop 2) [.v xs, .v (.int k), .v (.int c), .no] S = .ok (.ret (.ol [.int d, .int s, .int 0])) [.v xs, .v (.int k), .v (.int c), .v (.int d)] S := by
  have z3 : (3 : Nat) ≤ sizeLine := by decide
  have pw : powOk 10 18 = true := by decide
  by_cases hc : (if c < 0 then -c else c) < 10 ^ 18
  · refine ⟨0, c.fmod 2147483629, by omega, ?_⟩
    have hc2 : (if c < 0 then -c else c) < 1000000000000000000 := hc
    simp [Sh.f__law_pen, pw, hc2, z3]
  · refine ⟨if c < 0 then -c else c, c.fmod 2147483629, by split <;> omega, ?_⟩
    have hc2 : ¬ (if c < 0 then -c else c) < 1000000000000000000 := hc
    simp [Sh.f__law_pen, pw, hc2, z3]
theorem pen_ok {i : Nat} (hP : P.fns[i]? = some Sh.f__law_pen) (n : Nat) (ns : List Int) (k : Nat) (S : Sto) : ∃ d s : Int, 0 ≤ d ∧ callF P (n + 1) i [.lst (ns.map D.int), .int k] S = .ok (.ol [.int d, .int s, .int 0]) S := by
  rw [run_def hP rfl]
  by_cases hk : k < ns.length
  · obtain ⟨d, s, h1, h2⟩ := pen_tail (P := P) (n := n) (S := S) (xs := .lst (ns.map D.int)) (k := k) ns[k]
    refine ⟨d, s, h1, ?_⟩
    have hk2 : ((k : Int) < ((ns.length : Nat) : Int)) := by omega
    have hx : L2.atI (ns.map D.int) (k : Int) = some (.int ns[k]) := by
      rw [atI_nat _ (by omega)]
      simp [hk]
    have hlen : primD S .len [.lst (ns.map D.int)] = some (.v (.int (ns.length : Nat))) := by rw [q_lenL, List.length_map]
    have h3 : evSs P (callF P n) (makeF P n) Sh.f__law_pen.body [.v (.lst (ns.map D.int)), .v (.int k), .no, .no] S = evSs P (callF P n) (makeF P n) (Sh.f__law_pen.body.drop 2) [.v (.lst (ns.map D.int)), .v (.int k), .v (.int ns[k]), .no] S := by
      show evSs P (callF P n) (makeF P n) (_ :: _ :: Sh.f__law_pen.body.drop 2) _ S = _
      generalize ns.map D.int = nd at *
      rw [ss_n (ρ1 := [.v (.lst nd), .v (.int k), .v (.int 0), .no]) (S1 := S) (by simp), ss_n (ρ1 := [.v (.lst nd), .v (.int k), .v (.int ns[k]), .no]) (S1 := S) (by simp [hlen, hk2, hx])]
    show finR (evSs P (callF P n) (makeF P n) Sh.f__law_pen.body [.v (.lst (ns.map D.int)), .v (.int k), .no, .no] S) = _
    rw [h3, h2]; rfl
  · obtain ⟨d, s, h1, h2⟩ := pen_tail (P := P) (n := n) (S := S) (xs := .lst (ns.map D.int)) (k := k) 0
    refine ⟨d, s, h1, ?_⟩
    have hk2 : ¬ ((k : Int) < ((ns.length : Nat) : Int)) := by omega
    have hlen : primD S .len [.lst (ns.map D.int)] = some (.v (.int (ns.length : Nat))) := by rw [q_lenL, List.length_map]
    have h3 : evSs P (callF P n) (makeF P n) Sh.f__law_pen.body [.v (.lst (ns.map D.int)), .v (.int k), .no, .no] S = evSs P (callF P n) (makeF P n) (Sh.f__law_pen.body.drop 2) [.v (.lst (ns.map D.int)), .v (.int k), .v (.int 0), .no] S := by
      show evSs P (callF P n) (makeF P n) (_ :: _ :: Sh.f__law_pen.body.drop 2) _ S = _
      generalize ns.map D.int = nd at *
      rw [ss_n (ρ1 := [.v (.lst nd), .v (.int k), .v (.int 0), .no]) (S1 := S) (by simp), ss_n (ρ1 := [.v (.lst nd), .v (.int k), .v (.int 0), .no]) (S1 := S) (by simp [hlen, hk2])]
    show finR (evSs P (callF P n) (makeF P n) Sh.f__law_pen.body [.v (.lst (ns.map D.int)), .v (.int k), .no, .no] S) = _
    rw [h3, h2]; rfl
/-- a pen that was drawn from at most so often -/
def PenB (S : Sto) (a : Nat) (b : Nat) : Prop := ∃ m : Int, 0 ≤ m ∧ m ≤ b ∧ Pen S a m
theorem draw_b {i : Nat} (hP : P.fns[i]? = some Sh.f__law_draw) {n a b : Nat} {base : Int} {S : Sto} (h : PenB S a b) (hb : 0 < base) (hb2 : base < 1073741824) (hm : b < 2 ^ 50) :
    ∃ (x : Int) (c : Cell), 0 ≤ x ∧ x < base ∧ PenB (setCell S a c) a (b + 1) ∧ callF P (n + 1) i [.ref a, .int base] S = .ok (.v (.int x)) (setCell S a c) := by
  obtain ⟨m, h0, h1, h2⟩ := h
  obtain ⟨x, m', c, q1, q2, q3, q4, q5, q6⟩ := draw_ok (P := P) (i := i) (n := n) hP h2 hb hb2 h0 (by omega)
  exact ⟨x, c, q1, q2, ⟨m', q3, by omega, q5⟩, q6⟩
theorem PenB.mono {S : Sto} {a b b' : Nat} (h : PenB S a b) (hb : b ≤ b') : PenB S a b' := by
  obtain ⟨m, h0, h1, h2⟩ := h
  exact ⟨m, h0, by omega, h2⟩
theorem penB_new {S : Sto} {d s : Int} (h : 0 ≤ d) : PenB (S ++ [.lst [.int d, .int s, .int 0]]) S.length 0 := ⟨0, by decide, by decide, d, s, by simp [cellAt], h⟩
theorem PenB.set {S : Sto} {a b : Nat} (h : PenB S a b) : ∃ c, S = setCell S a c := by
  obtain ⟨m, h0, h1, d, s, hc, _⟩ := h
  refine ⟨.lst [.int d, .int s, .int m], ?_⟩
  have hl := List.getElem?_eq_some_iff.mp hc
  simp only [setCell]
  rw [← hl.2, List.set_getElem_self]
end Iv
/-! Pb2: the program's chart: the run -/
namespace Iv
open PySem
variable {P : Pg}
theorem steps_st1 {t : Town} (ht : TownOk t) (shut : List Int) : StOk1 (stepsOf t shut) := by
  intro s hs
  obtain ⟨_, r, h1, h2, h3, h4⟩ := steps_drive shut 0 t.roads t.names.length ht.rd s hs
  exact (drive_ne (ht.rd r (List.mem_of_getElem? h1)) h2).2
/-- a goal's least minutes -/
theorem least_fin {n : Nat} {S : Sto} {sd : List D} {z : Str} {kvs : List (D × D)}
    (loop : whileLoop (ltTest P n) (evSs P (callF P n) (makeF P n) Sh.b2_least_to) [4, 5, 6, 7] turns [.v (.lst sd), .v (.str z), .od false [(.str z, .int 0)], .v (.bl true), .no, .no, .no, .no] S = .ok .next [.v (.lst sd), .v (.str z), .od false kvs, .v (.bl false), .no, .no, .no, .no] S) :
    finR (evSs P (callF P n) (makeF P n) Sh.f_least_to.body [.v (.lst sd), .v (.str z), .no, .no, .no, .no, .no, .no] S) = .ok (.od false kvs) S := by
  simp only [Sh.f_least_to]
  rw [ss_n (ρ1 := [.v (.lst sd), .v (.str z), .od false [(.str z, .int 0)], .no, .no, .no, .no, .no]) (S1 := S) (by simp [flatK, putK, hasK])]
  rw [ss_n (ρ1 := [.v (.lst sd), .v (.str z), .od false [(.str z, .int 0)], .v (.bl true), .no, .no, .no, .no]) (S1 := S) (by simp)]
  rw [ss_n (ρ1 := [.v (.lst sd), .v (.str z), .od false kvs, .v (.bl false), .no, .no, .no, .no]) (S1 := S) (by
    simp only [evS]
    exact loop)]
  simp
theorem rep_start {names : List Str} (hn : names.Nodup) {g : Nat} (hg : g < names.length) : Rep names [(.str (nmAt names g), .int 0)] (fun h => if h = g then some 0 else none) := by
  have := rep_put (names := names) (kvs := []) (m := fun _ => none) (v := 0) hn ⟨fun h hh => rfl, by
    have e : ∀ N : Nat, keyC (fun _ => none) N = 0 := fun N => by
      have := sum_le (fun h => if ((fun _ => none : Ms) h).isSome then (1 : Int) else 0) 0 (fun k => by simp) N
      have h0 := key_ge (m := fun _ => none) (N := N)
      unfold keyC at *
      omega
    rw [e]; rfl⟩ hg
  exact this
theorem least_to_ok {i : Nat} (hP : P.fns[i]? = some Sh.f_least_to) (n : Nat) {t : Town} (ht : TownOk t) (shut : List Int) {R : List Stp} (hR : ∀ s, s ∈ R ↔ s ∈ stepsOf t shut) {g : Nat} (hg : g < t.names.length) (S : Sto) :
    ∃ kvs, (∀ h, h < t.names.length → getK kvs (.str (nmAt t.names h)) = (chartM t.names.length (stepsOf t shut) g h).map .int) ∧
      callF P (n + 1) i [.lst (R.map (Stp.dn t.names)), .str (nmAt t.names g)] S = .ok (.od false kvs) S := by
  rw [run_def hP rfl]
  have hL := steps_st ht shut
  have hL1 := steps_st1 ht shut
  have h10 := ht.n10
  obtain ⟨c0, mu⟩ := bf_start hL hg
  have hmu : muB (60 * t.names.length) (fun h => if h = g then some 0 else none) t.names.length + 3 ≤ (turns : Nat) := by
    have : (60 * (t.names.length : Int)) * t.names.length ≤ 600 * 10 := by
      refine Int.mul_le_mul ?_ ?_ ?_ ?_ <;> omega
    have h2 : (turns : Nat) = 1000000 := rfl
    omega
  obtain ⟨kvs, m, r, c, hd, e⟩ := lt_while (P := P) (n := n) (S := S) ht.nd h10 (goal := .str (nmAt t.names g)) hg hL hL1 hR turns _ _ (rep_start ht.nd hg) c0 hmu
  refine ⟨kvs, fun h hh => ?_, least_fin e⟩
  rw [r.g h hh, bf_done hL hL1 hg c hd h hh]
/-! ### all steps -/
theorem names_range (names : List Str) : names.map D.str = (List.range names.length).map fun p : Nat => D.str (nmAt names p) := by
  apply List.ext_getElem?
  intro j
  rw [List.getElem?_map, List.getElem?_map]
  by_cases h : j < names.length
  · rw [List.getElem?_range h, List.getElem?_eq_getElem h]
    simp [nmAt, List.getD_eq_getElem?_getD, h]
  · rw [List.getElem?_eq_none (by omega), List.getElem?_eq_none (by simp; omega)]
    rfl
def allK (t : Town) (shut : List Int) (m : Nat) : List Stp := (List.range m).flatMap fun p => fromK t shut p t.roads.length
theorem allK_succ {t : Town} {shut : List Int} {m : Nat} : allK t shut (m + 1) = allK t shut m ++ fromK t shut m t.roads.length := by
  simp [allK, List.range_succ, List.flatMap_append]
theorem allK_in {t : Town} (ht : TownOk t) {shut : List Int} (s : Stp) : s ∈ allK t shut t.names.length ↔ s ∈ stepsOf t shut := by
  constructor
  · intro h
    obtain ⟨p, _, h⟩ := List.mem_flatMap.mp h
    exact (from_in ht h).1
  · intro h
    exact List.mem_flatMap.mpr ⟨s.a, List.mem_range.mpr ((steps_st ht shut) s h).1, from_of ht h rfl⟩
theorem allK_len {t : Town} {shut : List Int} : ∀ m, (allK t shut m).length ≤ m * t.roads.length
  | 0 => by simp [allK]
  | m + 1 => by
    rw [allK_succ, List.length_append]
    have := allK_len (t := t) (shut := shut) m
    have := fromK_len (t := t) (shut := shut) (p := m) t.roads.length
    rw [Nat.add_mul, Nat.one_mul]
    omega
theorem as_turn {n iF : Nat} {S : Sto} {td sh pl : D} {fs : List D} {k m : Int} {z : Str} (hz : fs.length < sizeLine) :
    evSs P (callF P n) (makeF P n) (Sh.b1_all_steps iF) [.v td, .v sh, .ol fs, .v pl, .v (.int k), .v (.str z), .v (.int m)] S = .ok .next [.v td, .v sh, .ol (fs ++ [.tup [.int k, pl, .str z, .int m]]), .v pl, .v (.int k), .v (.str z), .v (.int m)] S := by
  have z4 : (4 : Nat) ≤ sizeLine := le_size (by decide)
  simp [Sh.b1_all_steps, hz, z4]
theorem as_inner {n iF : Nat} {S : Sto} {td sh : D} {names : List Str} {p : Nat} {fs : List D} {st : Sto → Bool} (hst : st S = true) {R : List Stp} (hR : ∀ s ∈ R, s.a = p) (hz : fs.length + R.length ≤ 1000) :
    forLoop (.tp [(.nm 4), (.nm 5), (.nm 6)]) (evSs P (callF P n) (makeF P n) (Sh.b1_all_steps iF)) [4, 5, 6] st (R.map (Stp.f names)) [.v td, .v sh, .ol fs, .v (.str (nmAt names p)), .no, .no, .no] S =
      .ok .next [.v td, .v sh, .ol (fs ++ R.map (Stp.dn names)), .v (.str (nmAt names p)), .no, .no, .no] S := by
  obtain ⟨ρ', e, rfl⟩ := for_invP (tg := .tp [(.nm 4), (.nm 5), (.nm 6)]) (fb := evSs P (callF P n) (makeF P n) (Sh.b1_all_steps iF)) (ks := [4, 5, 6]) (st := st) (S := S) hst (Stp.f names)
    (fun pre ρ => ρ = [.v td, .v sh, .ol (fs ++ pre.map (Stp.dn names)), .v (.str (nmAt names p)), .no, .no, .no]) R [.v td, .v sh, .ol fs, .v (.str (nmAt names p)), .no, .no, .no] (by simp) (by
      rintro pre s post ρ hpp rfl
      have hl : R.length = pre.length + (post.length + 1) := by rw [hpp]; simp
      have ha : s.a = p := hR s (by rw [hpp]; simp)
      have e := as_turn (P := P) (n := n) (iF := iF) (S := S) (td := td) (sh := sh) (pl := .str (nmAt names p)) (fs := fs ++ pre.map (Stp.dn names)) (k := (s.k : Int)) (m := s.m) (z := nmAt names s.b) (by simp; rw [sizeLine_eq]; omega)
      refine ⟨_, _, rfl, e, ?_⟩
      have : Stp.dn names s = .tup [.int s.k, .str (nmAt names p), .str (nmAt names s.b), .int s.m] := by unfold Stp.dn; rw [ha]
      rw [List.map_append, List.map_cons, List.map_nil, this]
      simp [kill])
  exact e
theorem as_body {n iF : Nat} {S : Sto} {td sh pl : D} {fs fs2 items : List D} (e : callF P n iF [td, sh, pl] S = .ok (.ol items) S)
    (loop : forLoop (.tp [(.nm 4), (.nm 5), (.nm 6)]) (evSs P (callF P n) (makeF P n) (Sh.b1_all_steps iF)) [4, 5, 6] (stays S [.lst items]) items [.v td, .v sh, .ol fs, .v pl, .no, .no, .no] S = .ok .next [.v td, .v sh, .ol fs2, .v pl, .no, .no, .no] S) :
    evSs P (callF P n) (makeF P n) (Sh.b2_all_steps iF) [.v td, .v sh, .ol fs, .v pl, .no, .no, .no] S = .ok .next [.v td, .v sh, .ol fs2, .v pl, .no, .no, .no] S := by
  simp only [Sh.b2_all_steps]
  rw [ss_n (ρ1 := [.v td, .v sh, .ol fs2, .v pl, .no, .no, .no]) (S1 := S) (by
    simp [e, kill]
    exact loop)]
  simp
theorem as_fin {n iF : Nat} {S : Sto} {td nms fs : List D} {sh : D} (hat : L2.atI td 0 = some (.tup nms))
    (loop : forLoop (.nm 3) (evSs P (callF P n) (makeF P n) (Sh.b2_all_steps iF)) [3, 4, 5, 6] (stays S [.tup nms]) nms [.v (.tup td), .v sh, .ol [], .no, .no, .no, .no] S = .ok .next [.v (.tup td), .v sh, .ol fs, .no, .no, .no, .no] S) :
    finR (evSs P (callF P n) (makeF P n) (Sh.f_all_steps iF).body [.v (.tup td), .v sh, .no, .no, .no, .no, .no] S) = .ok (.ol fs) S := by
  simp only [Sh.f_all_steps]
  rw [ss_n (ρ1 := [.v (.tup td), .v sh, .ol [], .no, .no, .no, .no]) (S1 := S) (by simp)]
  rw [ss_n (ρ1 := [.v (.tup td), .v sh, .ol fs, .no, .no, .no, .no]) (S1 := S) (by
    simp [hat, kill]
    exact loop)]
  simp
theorem range_pre2 {N : Nat} {pre post : List Nat} {k : Nat} (h : List.range N = pre ++ k :: post) : pre.length = k ∧ k < N := by
  have h1 := congrArg List.length h
  have h2 := congrArg (fun l => l[pre.length]?) h
  simp at h1 h2
  rw [List.getElem?_range (by omega)] at h2
  simp at h2
  omega
theorem all_steps_ok {i iF iB iD : Nat} (hD : P.fns[iD]? = some Sh.f_driven) (hB : P.fns[iB]? = some (Sh.f_step_by iD)) (hF : P.fns[iF]? = some (Sh.f_steps_from iB)) (hP : P.fns[i]? = some (Sh.f_all_steps iF)) (n : Nat) {t : Town} (ht : TownOk t) (shut : List Int) (S : Sto) :
    callF P (n + 4) i [t.d, .tup (shut.map .int)] S = .ok (.ol ((allK t shut t.names.length).map (Stp.dn t.names))) S := by
  rw [run_def hP rfl]
  have h10 := ht.n10
  have h18 := ht.r18
  have lp : forLoop (.nm 3) (evSs P (callF P (n + 3)) (makeF P (n + 3)) (Sh.b2_all_steps iF)) [3, 4, 5, 6] (stays S [.tup (t.names.map .str)]) (t.names.map .str) [.v t.d, .v (.tup (shut.map .int)), .ol [], .no, .no, .no, .no] S = .ok .next [.v t.d, .v (.tup (shut.map .int)), .ol ((allK t shut t.names.length).map (Stp.dn t.names)), .no, .no, .no, .no] S := by
    obtain ⟨ρ', e, rfl⟩ := for_invP (tg := .nm 3) (fb := evSs P (callF P (n + 3)) (makeF P (n + 3)) (Sh.b2_all_steps iF)) (ks := [3, 4, 5, 6]) (st := stays S [.tup (t.names.map .str)]) (S := S) rfl (fun p : Nat => D.str (nmAt t.names p))
      (fun pre ρ => ρ = [.v t.d, .v (.tup (shut.map .int)), .ol ((allK t shut pre.length).map (Stp.dn t.names)), .no, .no, .no, .no]) (List.range t.names.length) [.v t.d, .v (.tup (shut.map .int)), .ol [], .no, .no, .no, .no] (by simp [allK]) (by
        rintro pre p post ρ hpp rfl
        obtain ⟨hp1, hp2⟩ := range_pre2 hpp
        have ef := steps_from_ok (P := P) hD hB hF n ht shut hp2 S
        have hz : ((allK t shut pre.length).map (Stp.dn t.names)).length + (fromK t shut p t.roads.length).length ≤ 1000 := by
          have l1 := allK_len (t := t) (shut := shut) pre.length
          have l2 := fromK_len (t := t) (shut := shut) (p := p) t.roads.length
          have l3 : pre.length * t.roads.length ≤ 10 * 18 := Nat.mul_le_mul (by omega) h18
          rw [List.length_map]; omega
        have inn := as_inner (P := P) (n := n + 3) (iF := iF) (S := S) (td := t.d) (sh := .tup (shut.map .int)) (names := t.names) (p := p) (fs := (allK t shut pre.length).map (Stp.dn t.names)) (st := stays S [.lst ((fromK t shut p t.roads.length).map (Stp.f t.names))]) rfl (R := fromK t shut p t.roads.length) (fun s hs => (from_in ht hs).2.1) hz
        refine ⟨_, _, by rw [bT_nm, if_pos (by simp)]; rfl, as_body ef inn, ?_⟩
        rw [List.length_append, List.length_singleton, allK_succ, hp1, List.map_append]
        simp [kill])
    rw [names_range]
    rw [List.length_range] at e
    exact e
  exact as_fin rfl lp
/-! ### the chart -/
theorem co_gen {n iA iL : Nat} {S : Sto} {td sh goal : D} {sl : Slot} {st rows row : List D} {kvs : List (D × D)} (hsl : sl = .ol st ∨ sl = .v (.lst st)) (e : callF P n iL [.lst st, goal] S = .ok (.od false kvs) S)
    (lc : evE P (callF P n) (makeF P n) (.lc (Sh.e1_chart_of iA iL) (.nm 6) .seq [(.ix (.var 0) (.int 0))] [] [6]) [.v td, .v sh, .v (.lst st), .ol rows, .v goal, .od false kvs, .no] S = .ok (.ol row) [.v td, .v sh, .v (.lst st), .ol rows, .v goal, .od false kvs, .no] S) (hz : rows.length < sizeLine) :
    evSs P (callF P n) (makeF P n) (Sh.b1_chart_of iA iL) [.v td, .v sh, sl, .ol rows, .v goal, .no, .no] S = .ok .next [.v td, .v sh, .v (.lst st), .ol (rows ++ [.tup row]), .v goal, .od false kvs, .no] S := by
  simp only [Sh.b1_chart_of]
  rw [ss_n (ρ1 := [.v td, .v sh, .v (.lst st), .ol rows, .v goal, .od false kvs, .no]) (S1 := S) (by rcases hsl with rfl | rfl <;> simp [e])]
  simp [lc, hz]
theorem co_row {n iA iL : Nat} {S : Sto} {t : Town} (ht : TownOk t) {sh goal : D} {st rows : List D} {kvs : List (D × D)} {M : Mx} {g : Nat} (hk : ∀ h, h < t.names.length → getK kvs (.str (nmAt t.names h)) = (M g h).map .int) :
    evE P (callF P n) (makeF P n) (.lc (Sh.e1_chart_of iA iL) (.nm 6) .seq [(.ix (.var 0) (.int 0))] [] [6]) [.v t.d, .v sh, .v (.lst st), .ol rows, .v goal, .od false kvs, .no] S = .ok (.ol (rowD t.names.length M g)) [.v t.d, .v sh, .v (.lst st), .ol rows, .v goal, .od false kvs, .no] S := by
  have h10 := ht.n10
  refine lc_map0 P (callF P n) (makeF P n) [.v t.d, .v sh, .v (.lst st), .ol rows, .v goal, .od false kvs, .no] S (i := 6) (elt := Sh.e1_chart_of iA iL) (k := .seq) (its := [.ix (.var 0) (.int 0)]) (ds := [.tup (t.names.map .str)]) (fun h : Nat => D.str (nmAt t.names h)) (fun h => oD (M g h)) (List.range t.names.length) rfl ?_ ?_ rfl (by rw [List.length_range]; exact le_size (by omega)) (fun h hh => ⟨.v (oD (M g h)), ?_, rfl⟩)
  · have : L2.atI [D.tup (t.names.map .str), .tup (t.roads.map (Road.d t.names)), .tup (t.stands.map .str), .int t.reach] 0 = some (.tup (t.names.map .str)) := rfl
    unfold Town.d
    generalize t.names.map D.str = nd at *
    generalize t.roads.map (Road.d t.names) = rd at *
    simp [this]
  · rw [← names_range]; rfl
  · have e1 := hk h (List.mem_range.mp hh)
    have e2 : (getK kvs (.str (nmAt t.names h))).getD .non = oD (M g h) := by rw [e1]; cases M g h <;> rfl
    have e3 := get1_dct S kvs (nmAt t.names h)
    rw [e2] at e3
    generalize nmAt t.names h = z at *
    generalize oD (M g h) = od at *
    simp [Sh.e1_chart_of, own_get1, e3]
theorem co_fin {n iA iL : Nat} {S : Sto} {td nms st rows : List D} {sh : D} {sl : Slot} (ea : callF P n iA [.tup td, sh] S = .ok (.ol st) S) (hat : L2.atI td 0 = some (.tup nms))
    (loop : forLoop (.nm 4) (evSs P (callF P n) (makeF P n) (Sh.b1_chart_of iA iL)) [4, 5] (stays S [.tup nms]) nms [.v (.tup td), .v sh, .ol st, .ol [], .no, .no, .no] S = .ok .next [.v (.tup td), .v sh, sl, .ol rows, .no, .no, .no] S) :
    finR (evSs P (callF P n) (makeF P n) (Sh.f_chart_of iA iL).body [.v (.tup td), .v sh, .no, .no, .no, .no, .no] S) = .ok (.v (.tup rows)) S := by
  simp only [Sh.f_chart_of]
  rw [ss_n (ρ1 := [.v (.tup td), .v sh, .ol st, .no, .no, .no, .no]) (S1 := S) (by simp [ea])]
  rw [ss_n (ρ1 := [.v (.tup td), .v sh, .ol st, .ol [], .no, .no, .no]) (S1 := S) (by simp)]
  rw [ss_n (ρ1 := [.v (.tup td), .v sh, sl, .ol rows, .no, .no, .no]) (S1 := S) (by
    simp [hat, kill]
    exact loop)]
  simp
structure ChFns (P : Pg) (iC iA iL iF iB iD : Nat) : Prop where
  D : P.fns[iD]? = some Sh.f_driven
  B : P.fns[iB]? = some (Sh.f_step_by iD)
  F : P.fns[iF]? = some (Sh.f_steps_from iB)
  A : P.fns[iA]? = some (Sh.f_all_steps iF)
  L : P.fns[iL]? = some Sh.f_least_to
  C : P.fns[iC]? = some (Sh.f_chart_of iA iL)
theorem chart_of_ok {iC iA iL iF iB iD : Nat} (Q : ChFns P iC iA iL iF iB iD) (n : Nat) {t : Town} (ht : TownOk t) (shut : List Int) (S : Sto) :
    callF P (n + 5) iC [t.d, .tup (shut.map .int)] S = .ok (.v (chD t.names.length (chartM t.names.length (stepsOf t shut)))) S := by
  rw [run_def Q.C rfl]
  have h10 := ht.n10
  have ea := all_steps_ok (P := P) Q.D Q.B Q.F Q.A n ht shut S
  have el := fun {g : Nat} hg => least_to_ok (P := P) Q.L (n + 3) ht shut (R := allK t shut t.names.length) (allK_in ht) (g := g) hg S
  generalize (allK t shut t.names.length).map (Stp.dn t.names) = st at *
  generalize chartM t.names.length (stepsOf t shut) = M at *
  have lp : ∃ sl, forLoop (.nm 4) (evSs P (callF P (n + 4)) (makeF P (n + 4)) (Sh.b1_chart_of iA iL)) [4, 5] (stays S [.tup (t.names.map .str)]) (t.names.map .str) [.v t.d, .v (.tup (shut.map .int)), .ol st, .ol [], .no, .no, .no] S = .ok .next [.v t.d, .v (.tup (shut.map .int)), sl, .ol ((List.range t.names.length).map fun g => D.tup (rowD t.names.length M g)), .no, .no, .no] S := by
    obtain ⟨ρ', e, sl, _, rfl⟩ := for_invP (tg := .nm 4) (fb := evSs P (callF P (n + 4)) (makeF P (n + 4)) (Sh.b1_chart_of iA iL)) (ks := [4, 5]) (st := stays S [.tup (t.names.map .str)]) (S := S) rfl (fun p : Nat => D.str (nmAt t.names p))
      (fun pre ρ => ∃ sl, (sl = Slot.ol st ∨ sl = Slot.v (.lst st)) ∧ ρ = [.v t.d, .v (.tup (shut.map .int)), sl, .ol (pre.map fun g => D.tup (rowD t.names.length M g)), .no, .no, .no]) (List.range t.names.length) [.v t.d, .v (.tup (shut.map .int)), .ol st, .ol [], .no, .no, .no] ⟨_, .inl rfl, rfl⟩ (by
        rintro pre g post ρ hpp ⟨sl, hsl, rfl⟩
        obtain ⟨hp1, hp2⟩ := range_pre2 hpp
        obtain ⟨kvs, k1, k2⟩ := el hp2
        have row := co_row (P := P) (n := n + 4) (iA := iA) (iL := iL) (S := S) ht (sh := .tup (shut.map .int)) (goal := .str (nmAt t.names g)) (st := st) (rows := pre.map fun g => D.tup (rowD t.names.length M g)) k1
        refine ⟨_, _, by rw [bT_nm, if_pos (by simp)]; rfl, co_gen hsl k2 row (by rw [List.length_map, sizeLine_eq]; omega), .v (.lst st), .inr rfl, ?_⟩
        rw [List.map_append]
        simp [kill])
    rw [names_range]
    exact ⟨sl, e⟩
  obtain ⟨sl, lp⟩ := lp
  exact co_fin ea rfl lp
end Iv
/-! Pb3: the program's way -/
namespace Iv
open PySem
variable {P : Pg}
theorem bf_ends {N : Nat} {L : List Stp} {g : Nat} (hL : StOk N L) (hL1 : StOk1 L) (hg : g < N) : ∀ (n : Nat) (m : Ms), BfOk N L g m → muB (60 * N) m N + 1 ≤ n → ∃ m2, BfOk N L g m2 ∧ ∀ s ∈ L, impB m2 s = false
  | n, m, c, hf => by
    have mu0 : 0 ≤ muB (60 * N) m N := sum_ge _ (fun k => by
      unfold costB
      split
      · omega
      · rename_i v hv; exact c.nn _ _ hv) _
    obtain ⟨n2, rfl⟩ : ∃ n2, n = n2 + 1 := ⟨n - 1, by omega⟩
    obtain ⟨c1, c2, c3, c4⟩ := bf_turns hL hL1 hg L m false (fun s hs => hs) c
    cases hb : (L.foldl bfT (m, false)).2 with
    | false =>
      obtain ⟨_, q2, q3⟩ := c4 hb
      exact ⟨m, c, q3⟩
    | true =>
      rcases c3 hb with c3 | c3
      · cases c3
      · exact bf_ends hL hL1 hg n2 _ c1 (by omega)
termination_by n => n
theorem chart_bound {N : Nat} {L : List Stp} {g h : Nat} (hL : StOk N L) (hL1 : StOk1 L) (hg : g < N) (hh : h < N) {v : Int} (hv : chartM N L g h = some v) : 0 ≤ v ∧ v ≤ 60 * N := by
  refine ⟨(ch_all hL).nn _ _ _ hv, ?_⟩
  obtain ⟨c0, mu⟩ := bf_start hL hg
  obtain ⟨m2, c, hd⟩ := bf_ends hL hL1 hg (muB (60 * N) (fun h => if h = g then some 0 else none) N + 1).toNat _ c0 (by omega)
  rw [← bf_done hL hL1 hg c hd h hh] at hv
  have := c.up _ _ hv
  have := key_le (m := m2) (N := N)
  omega
/-- the first step of the way told -/
def firstS (t : Town) (shut : List Int) (M : Mx) (p g : Nat) : Option Stp := match M g p with
  | none => none
  | some w => if p = g then none else (fromK t shut p t.roads.length).find? fun s => frC (M g s.b) s.m w
theorem firstD_S {t : Town} {shut : List Int} {M : Mx} {p g : Nat} : firstD t shut M p g = numD (firstS t shut M p g) := by
  unfold firstD firstS
  cases M g p with
  | none => rfl
  | some w =>
    dsimp only
    split <;> rfl
theorem firstS_some {t : Town} (ht : TownOk t) {shut : List Int} {p g : Nat} (hp : p < t.names.length) (hg : g < t.names.length) (hne : p ≠ g) {w : Int} (hw : chartM t.names.length (stepsOf t shut) g p = some w) :
    ∃ s, firstS t shut (chartM t.names.length (stepsOf t shut)) p g = some s ∧ s ∈ stepsOf t shut ∧ s.a = p ∧ chartM t.names.length (stepsOf t shut) g s.b = some (w - s.m) ∧ 1 ≤ s.m := by
  have hL := steps_st ht shut
  obtain ⟨s, s1, s2, u, s3, s4⟩ := chart_first hL hg hp hne hw
  unfold firstS
  rw [hw]
  dsimp only
  rw [if_neg hne]
  have hin := from_of ht s1 s2
  cases hf : (fromK t shut p t.roads.length).find? (fun s => frC (chartM t.names.length (stepsOf t shut) g s.b) s.m w) with
  | none =>
    have := List.find?_eq_none.mp hf s hin
    rw [s3] at this
    simp [frC, s4] at this
  | some s0 =>
    have h1 := List.find?_some hf
    obtain ⟨q1, q2, _⟩ := from_in ht (List.mem_of_find?_eq_some hf)
    refine ⟨s0, rfl, q1, q2, ?_, (steps_st1 ht shut s0 q1).1⟩
    unfold frC at h1
    split at h1
    · rename_i u hu
      have := of_decide_eq_true h1
      rw [hu]
      congr 1
      omega
    · cases h1
def pathL (t : Town) (shut : List Int) (M : Mx) (g : Nat) : Nat → Nat → List Stp
  | 0, _ => []
  | n + 1, p => if p = g then [] else match firstS t shut M p g with
    | none => []
    | some s => s :: pathL t shut M g n s.b
def wsum : List Stp → Int
  | [] => 0
  | s :: r => s.m + wsum r
theorem path_ok {t : Town} (ht : TownOk t) {shut : List Int} {g : Nat} (hg : g < t.names.length) : ∀ (n p : Nat) (w : Int), p < t.names.length → chartM t.names.length (stepsOf t shut) g p = some w → w < n →
    WCh t shut p (pathL t shut (chartM t.names.length (stepsOf t shut)) g n p) ∧ wend p (pathL t shut (chartM t.names.length (stepsOf t shut)) g n p) = g ∧ wsum (pathL t shut (chartM t.names.length (stepsOf t shut)) g n p) = w ∧
      ((pathL t shut (chartM t.names.length (stepsOf t shut)) g n p).length : Int) ≤ w
  | 0, p, w, hp, hw, hn => by
    have := (ch_all (steps_st ht shut)).nn _ _ _ hw
    omega
  | n + 1, p, w, hp, hw, hn => by
    have w0 := (ch_all (steps_st ht shut)).nn _ _ _ hw
    unfold pathL
    by_cases hpg : p = g
    · rw [if_pos hpg]
      subst hpg
      have := (ch_all (steps_st ht shut)).z p
      rw [hw] at this
      cases this
      exact ⟨trivial, rfl, rfl, by simp⟩
    · rw [if_neg hpg]
      obtain ⟨s, e, s1, s2, s3, s4⟩ := firstS_some ht hp hg hpg hw
      rw [e]
      dsimp only
      obtain ⟨⟨rd, r1, r2⟩, hns, hb⟩ := steps_in ht s1
      obtain ⟨h1, h2, h3, h4⟩ := path_ok ht hg n s.b (w - s.m) hb s3 (by omega)
      refine ⟨⟨s2, ⟨rd, r1, by rw [← s2]; exact r2⟩, hns, hb, h1⟩, h2, ?_, ?_⟩
      · show s.m + wsum _ = w
        rw [h3]; omega
      · rw [List.length_cons]; omega
theorem wch_walkTo {t : Town} {shut : List Int} : ∀ (l : List Stp) (p : Nat), WCh t shut p l → walkTo t p (l.map (·.k)) = some (wend p l, wsum l)
  | [], p, _ => rfl
  | s :: l, p, h => by
    obtain ⟨h1, ⟨rd, r1, r2⟩, h3, h4, h5⟩ := h
    rw [List.map_cons, walkTo, r1]
    dsimp only
    rw [r2]
    dsimp only
    rw [wch_walkTo l s.b h5]
    rfl
/-! ### the run -/
theorem way_test {iC iM iR iB n : Nat} {S : Sto} {td sh on ch : Slot} {z1 z2 : Str} {rs : List D} : (pk (Sh.t1_way iC iM iR iB) (evE P (callF P n) (makeF P n) (Sh.t1_way iC iM iR iB)) [td, sh, on, .v (.str z2), ch, .ol rs, .v (.str z1), .no] S).bind (fun x ρ S => .of (truthD S x) ρ S) = .ok (decide (z1 ≠ z2)) [td, sh, on, .v (.str z2), ch, .ol rs, .v (.str z1), .no] S := by
  by_cases h : z1 = z2
  · simp [Sh.t1_way, h, truthD]
  · simp [Sh.t1_way, h, truthD]
theorem way_turn {iC iM iR iB n : Nat} {S : Sto} {td sh ch : D} {on : Slot} {z1 z2 z3 : Str} {rs : List D} {k m : Int} (e1 : callF P n iR [td, sh, ch, .str z1, .str z2] S = .ok (.v (.int k)) S) (e2 : callF P n iB [td, sh, .str z1, .int k] S = .ok (.v (.tup [.str z3, .int m])) S) (hz : rs.length < sizeLine) :
    evSs P (callF P n) (makeF P n) (Sh.b1_way iC iM iR iB) [.v td, .v sh, on, .v (.str z2), .v ch, .ol rs, .v (.str z1), .no] S = .ok .next [.v td, .v sh, on, .v (.str z2), .v ch, .ol (rs ++ [.int k]), .v (.str z3), .v (.int k)] S := by
  have a0 : L2.atI [D.str z3, .int m] 0 = some (.str z3) := rfl
  simp [Sh.b1_way, e1, e2, a0, hz]
theorem way_fin0 {iC iM iR iB n : Nat} {S : Sto} {td sh ch : D} {z1 z2 : Str} (e1 : callF P n iC [td, sh] S = .ok (.v ch) S) (e2 : callF P n iM [td, ch, .str z1, .str z2] S = .ok (.v .non) S) :
    finR (evSs P (callF P n) (makeF P n) (Sh.f_way iC iM iR iB).body [.v td, .v sh, .v (.str z1), .v (.str z2), .no, .no, .no, .no] S) = .ok (.v .non) S := by
  simp [Sh.f_way, e1, e2]
theorem way_fin1 {iC iM iR iB n : Nat} {S : Sto} {td sh ch : D} {z1 z2 z3 : Str} {w : Int} {rs : List D} (e1 : callF P n iC [td, sh] S = .ok (.v ch) S) (e2 : callF P n iM [td, ch, .str z1, .str z2] S = .ok (.v (.int w)) S)
    (loop : whileLoop (fun ρ S => (pk (Sh.t1_way iC iM iR iB) (evE P (callF P n) (makeF P n) (Sh.t1_way iC iM iR iB)) ρ S).bind fun x ρ S => .of (truthD S x) ρ S) (evSs P (callF P n) (makeF P n) (Sh.b1_way iC iM iR iB)) [7] turns [.v td, .v sh, .v (.str z1), .v (.str z2), .v ch, .ol [], .v (.str z1), .no] S = .ok .next [.v td, .v sh, .v (.str z1), .v (.str z2), .v ch, .ol rs, .v (.str z3), .no] S) :
    finR (evSs P (callF P n) (makeF P n) (Sh.f_way iC iM iR iB).body [.v td, .v sh, .v (.str z1), .v (.str z2), .no, .no, .no, .no] S) = .ok (.v (.tup rs)) S := by
  simp only [Sh.f_way]
  rw [ss_n (ρ1 := [.v td, .v sh, .v (.str z1), .v (.str z2), .v ch, .no, .no, .no]) (S1 := S) (by simp [e1])]
  rw [ss_n (ρ1 := [.v td, .v sh, .v (.str z1), .v (.str z2), .v ch, .no, .no, .no]) (S1 := S) (by simp [e2])]
  rw [ss_n (ρ1 := [.v td, .v sh, .v (.str z1), .v (.str z2), .v ch, .ol [], .no, .no]) (S1 := S) (by simp)]
  rw [ss_n (ρ1 := [.v td, .v sh, .v (.str z1), .v (.str z2), .v ch, .ol [], .v (.str z1), .no]) (S1 := S) (by simp)]
  rw [ss_n (ρ1 := [.v td, .v sh, .v (.str z1), .v (.str z2), .v ch, .ol rs, .v (.str z3), .no]) (S1 := S) (by
    simp only [evS]
    exact loop)]
  simp
structure WFns (P : Pg) (iW iM iR iC iA iL iF iB iD : Nat) : Prop extends ChFns P iC iA iL iF iB iD where
  M : P.fns[iM]? = some Sh.f_minutes_to
  R : P.fns[iR]? = some (Sh.f_first_road iM iF)
  W : P.fns[iW]? = some (Sh.f_way iC iM iR iB)
theorem way_while {iW iM iR iC iA iL iF iB iD : Nat} (Q : WFns P iW iM iR iC iA iL iF iB iD) (n : Nat) {t : Town} (ht : TownOk t) (shut : List Int) {g : Nat} (hg : g < t.names.length) (S : Sto) {on : Slot} : ∀ (k fuel p : Nat) (w : Int) (rs : List D), p < t.names.length → chartM t.names.length (stepsOf t shut) g p = some w → w < k → k + 1 ≤ fuel → rs.length + k ≤ 1000 →
    whileLoop (fun ρ S => (pk (Sh.t1_way iC iM iR iB) (evE P (callF P (n + 4)) (makeF P (n + 4)) (Sh.t1_way iC iM iR iB)) ρ S).bind fun x ρ S => .of (truthD S x) ρ S) (evSs P (callF P (n + 4)) (makeF P (n + 4)) (Sh.b1_way iC iM iR iB)) [7] fuel
      [.v t.d, .v (.tup (shut.map .int)), on, .v (.str (nmAt t.names g)), .v (chD t.names.length (chartM t.names.length (stepsOf t shut))), .ol rs, .v (.str (nmAt t.names p)), .no] S =
    .ok .next [.v t.d, .v (.tup (shut.map .int)), on, .v (.str (nmAt t.names g)), .v (chD t.names.length (chartM t.names.length (stepsOf t shut))), .ol (rs ++ (pathL t shut (chartM t.names.length (stepsOf t shut)) g k p).map fun s => D.int (s.k : Int)), .v (.str (nmAt t.names g)), .no] S
  | 0, fuel, p, w, rs, hp, hw, hk, hf, hz => by
    have := (ch_all (steps_st ht shut)).nn _ _ _ hw
    omega
  | k + 1, fuel, p, w, rs, hp, hw, hk, hf, hz => by
    obtain ⟨f2, rfl⟩ : ∃ f2, fuel = f2 + 1 := ⟨fuel - 1, by omega⟩
    rw [whileLoop, way_test]
    unfold pathL
    by_cases hpg : p = g
    · have : nmAt t.names p = nmAt t.names g := by rw [hpg]
      rw [if_pos hpg]
      simp [this]
    · have hne : nmAt t.names p ≠ nmAt t.names g := fun z => hpg ((nm_inj ht.nd hp hg).mp z)
      rw [if_neg hpg, decide_eq_true hne]
      obtain ⟨s, e, s1, s2, s3, s4⟩ := firstS_some ht hp hg hpg hw
      obtain ⟨⟨rd, r1, r2⟩, hns, hb⟩ := steps_in ht s1
      have ef := first_road_ok (P := P) Q.D Q.B Q.F Q.M Q.R n ht shut (chartM t.names.length (stepsOf t shut)) hp hg S
      rw [firstD_S, e] at ef
      have hk1 : s.k < t.roads.length := (List.getElem?_eq_some_iff.mp r1).1
      have es := step_by_ok (P := P) Q.D Q.B (n + 2) ht shut hp (k := (s.k : Int)) (by omega) (by omega) S
      rw [if_neg hns, Int.toNat_natCast, r1, Option.bind_some, ← s2, r2] at es
      rw [s2] at es
      rw [e]
      dsimp only
      rw [way_turn (m := s.m) (z3 := nmAt t.names s.b) ef es (by rw [sizeLine_eq]; omega)]
      dsimp only
      have ih := way_while Q n ht shut hg S (on := on) k f2 s.b (w - s.m) (rs ++ [.int s.k]) hb s3 (by omega) (by omega) (by simp; omega)
      rw [show kill [7] [Slot.v t.d, .v (.tup (shut.map .int)), on, .v (.str (nmAt t.names g)), .v (chD t.names.length (chartM t.names.length (stepsOf t shut))), .ol (rs ++ [.int s.k]), .v (.str (nmAt t.names s.b)), .v (.int s.k)] = [.v t.d, .v (.tup (shut.map .int)), on, .v (.str (nmAt t.names g)), .v (chD t.names.length (chartM t.names.length (stepsOf t shut))), .ol (rs ++ [.int s.k]), .v (.str (nmAt t.names s.b)), .no] from rfl, ih]
      simp
/-- the way told -/
def wayO (t : Town) (shut : List Int) (g p : Nat) : Option (List Stp) := (chartM t.names.length (stepsOf t shut) g p).map fun _ => pathL t shut (chartM t.names.length (stepsOf t shut)) g 700 p
def wayT : Option (List Stp) → D
  | none => .non
  | some l => .tup ((l.map (·.k)).map fun k : Nat => D.int (k : Int))
theorem way_ok {iW iM iR iC iA iL iF iB iD : Nat} (Q : WFns P iW iM iR iC iA iL iF iB iD) (n : Nat) {t : Town} (ht : TownOk t) (shut : List Int) {p g : Nat} (hp : p < t.names.length) (hg : g < t.names.length) (S : Sto) :
    callF P (n + 6) iW [t.d, .tup (shut.map .int), .str (nmAt t.names p), .str (nmAt t.names g)] S = .ok (.v (wayT (wayO t shut g p))) S := by
  rw [run_def Q.W rfl]
  have h10 := ht.n10
  have e1 := chart_of_ok Q.toChFns n ht shut S
  have e2 := minutes_to_ok (P := P) Q.M (n + 4) ht (chartM t.names.length (stepsOf t shut)) hp hg S
  unfold wayO
  cases hw : chartM t.names.length (stepsOf t shut) g p with
  | none =>
    rw [hw] at e2
    exact way_fin0 e1 e2
  | some w =>
    rw [hw] at e2
    have b := chart_bound (steps_st ht shut) (steps_st1 ht shut) hg hp hw
    have l := way_while Q (n + 1) ht shut hg S (on := .v (.str (nmAt t.names p))) 700 turns p w [] hp hw (by omega) (by decide) (by simp)
    have := way_fin1 e1 e2 l
    rw [List.nil_append] at this
    rw [Option.map_some]
    show finR _ = .ok (.v (.tup (((pathL t shut _ g 700 p).map (·.k)).map fun k : Nat => D.int (k : Int)))) S
    rw [List.map_map]
    exact this
end Iv
/-! Pv4: sorted pairs, the least of tuples of whole numbers, dicts by numbers -/
namespace Iv
open PySem
def encB (b : Int × Nat) : D := .tup [.int b.1, .int b.2]
def encP (b : Int × Nat) : PyData := .tuple [.int b.1, .int b.2]
def leB (p q : Int × Nat) : Bool := decide (p.1 < q.1 ∨ (p.1 = q.1 ∧ (p.2 : Int) ≤ q.2))
theorem zip_map2 {α β γ : Type} (f : α → β) (g : α → γ) : ∀ l : List α, (l.map f).zip (l.map g) = l.map fun a => (f a, g a)
  | [] => rfl
  | a :: l => by rw [List.map_cons, List.map_cons, List.zip_cons_cons, zip_map2 f g l]; rfl
theorem pys_map {α : Type} (g : Nat → Option PyData) (e : α → D) (p : α → PyData) (h : ∀ a, D.py g (e a) = some (p a)) : ∀ l : List α, D.pys g (l.map e) = some (l.map p)
  | [] => by simp [D.pys]
  | a :: l => by simp [D.pys, h a, pys_map g e p h l]
theorem noDict_map {α : Type} (p : α → PyData) (h : ∀ a, (p a).hasDict = false) : ∀ l : List α, PyData.hasDictAll (l.map p) = false
  | [] => rfl
  | a :: l => by simp [PyData.hasDictAll, h a, noDict_map p h l]
theorem depth_map {α : Type} (p : α → PyData) {n : Nat} (h : ∀ a, (p a).depth ≤ n) : ∀ l : List α, PyData.depthAll (l.map p) ≤ n
  | [] => by simp [PyData.depthAll]
  | a :: l => by
    have := depth_map p h l
    have := h a
    simp only [List.map_cons, PyData.depthAll]
    omega
theorem q_sortB (S : Sto) (l : List (Int × Nat)) (hz : l.length ≤ sizeLine) : primD S .sorted [.lst (l.map encB)] = some (.ol ((l.mergeSort leB).map encB)) := by
  have e1 : pysD S (l.map encB) = some (l.map encP) := pys_map _ encB encP (fun a => by simp [encB, encP, D.py, D.pys]) l
  have al : ∀ a b, W.alike (encP a) (encP b) = true := fun a b => by simp [encP, W.alike, W.alikeAll]
  have so : sortable (l.map encP) = true := by
    unfold sortable
    simp only [Bool.and_eq_true, Bool.or_eq_true, List.all_eq_true, decide_eq_true_eq]
    refine ⟨⟨fun x hx y hy => ?_, .inl fun x hx => ?_⟩, fun x hx => ?_⟩
    · obtain ⟨a, _, rfl⟩ := List.mem_map.mp hx
      obtain ⟨b, _, rfl⟩ := List.mem_map.mp hy
      exact al a b
    · obtain ⟨a, _, rfl⟩ := List.mem_map.mp hx
      rfl
    · obtain ⟨a, _, rfl⟩ := List.mem_map.mp hx
      simp [encP, PyData.depth, PyData.depthAll]
  have nd : PyData.hasDictAll (l.map encP) = false := noDict_map encP (fun a => by simp [encP, PyData.hasDict, PyData.hasDictAll]) l
  have e2 : sortD S (l.map encB) = some (sortBy ((l.map encP).zip (l.map encB))) := by
    unfold sortD
    rw [e1]
    dsimp only
    rw [if_pos ⟨so, by rw [List.length_map]; exact hz, nd⟩]
  have e3 : sortBy ((l.map encP).zip (l.map encB)) = (l.mergeSort leB).map encB := by
    unfold sortBy
    have z : (l.map encP).zip (l.map encB) = l.map fun b => (encP b, encB b) := zip_map2 _ _ l
    rw [z]
    have := List.map_mergeSort (f := fun b => (encP b, encB b)) (r := leB) (s := W.dataLe false (fun p : PyData × D => p.1)) (l := l) (fun a _ b _ => by
      have := congrFun (congrFun (W.dataLe_ii (β := Int × Nat) (fun b => b.1) (fun b => (b.2 : Int))) a) b
      exact this.symm)
    rw [← this, List.map_map]
    rfl
  show (some (l.map encB)).bind (fun ys => (sortD S ys).map R.ol) = _
  rw [Option.bind_some, e2, e3]
  rfl
theorem sortB_pair (l : List (Int × Nat)) : (l.mergeSort leB).Pairwise fun a b => a.1 ≤ b.1 := by
  have := List.pairwise_mergeSort (le := leB) (fun a b c h1 h2 => by
    have h1 := of_decide_eq_true h1
    have h2 := of_decide_eq_true h2
    exact decide_eq_true (by omega)) (fun a b => by
    unfold leB
    by_cases h : a.1 < b.1 ∨ (a.1 = b.1 ∧ (a.2 : Int) ≤ b.2)
    · rw [decide_eq_true h]; rfl
    · have : b.1 < a.1 ∨ (b.1 = a.1 ∧ (b.2 : Int) ≤ a.2) := by omega
      rw [decide_eq_true this, Bool.or_true]) l
  exact this.imp fun {a b} h => by
    have h := of_decide_eq_true h
    omega
/-! ### the least of tuples -/
def encL (l : List Int) : D := .tup (l.map .int)
theorem eqBs_ints : ∀ a b : List Int, D.eqBs (a.map .int) (b.map .int) = true → a = b
  | [], [], _ => rfl
  | x :: a, y :: b, h => by
    simp only [List.map_cons, D.eqBs, D.eqB, Bool.and_eq_true, decide_eq_true_eq] at h
    rw [h.1, eqBs_ints a b h.2]
  | [], _ :: _, h => by simp [D.eqBs] at h
  | _ :: _, [], h => by simp [D.eqBs] at h
theorem q_minL (S : Sto) {L : List (List Int)} {l0 : List Int} (hm : l0 ∈ L) (hlt : ∀ l ∈ L, l = l0 ∨ l0 < l) : primD S .min1 [.lst (L.map encL)] = some (.v (encL l0)) := by
  let p : List Int → PyData := fun l => .tuple (l.map .int)
  have pe : ∀ l : List Int, D.py (boxPy S 3) (encL l) = some (p l) := fun l => by
    have : D.pys (boxPy S 3) (l.map D.int) = some (l.map .int) := pys_map _ D.int PyData.int (fun a => by simp [D.py]) l
    simp [encL, D.py, this, p]
  have e1 : pysD S (L.map encL) = some (L.map p) := pys_map _ encL p pe L
  have ne : intsOf (L.map encL) = none := by
    cases L with
    | nil => cases hm
    | cons a r => rfl
  have lt : ∀ a b : List Int, W.dataLt (p a) (p b) = decide (a < b) := fun a b => by
    show W.dataLt (.tuple _) (.tuple _) = _
    rw [W.dataLt_tuple]
    exact W.dataLt_ints a b
  have al : ∀ a b, W.alike (p a) (p b) = true := fun a b => by simp [p, W.alike, W.alike_ints]
  have nd : PyData.hasDictAll (L.map p) = false := noDict_map p (fun a => by simp [p, PyData.hasDict, noDict_map PyData.int (fun _ => rfl)]) L
  have dp : PyData.depthAll (L.map p) ≤ 64 := depth_map p (fun a => by simp [p, PyData.depth, W.depth_ints]) L
  have hz : (L.map p).zip (L.map encL) = L.map fun l => (p l, encL l) := zip_map2 _ _ L
  have inj : ∀ a b, D.eqB (encL a) (encL b) = true → a = b := fun a b h => by
    have h : D.eqBs (a.map .int) (b.map .int) = true := h
    exact eqBs_ints a b h
  have refl : ∀ a, D.eqB (encL a) (encL a) = true := fun a => by
    have : ∀ l : List Int, D.eqBs (l.map .int) (l.map .int) = true := fun l => by
      induction l with
      | nil => rfl
      | cons x r ih => simp [D.eqBs, D.eqB, ih]
    simp [encL, D.eqB, this]
  have good : ∀ l ∈ L, ((D.eqB (encL l) (encL l0) || W.dataLt (p l0) (p l)) && !W.dataLt (p l) (p l0)) = true := fun l hl => by
    rw [lt, lt]
    rcases hlt l hl with rfl | h
    · rw [refl]
      have : ¬ l < l := List.lt_irrefl l
      simp [this]
    · have : ¬ l < l0 := List.lt_asymm h
      simp [h, this]
  have find : ∃ q, ((L.map fun l => (p l, encL l)).find? fun q => (L.map fun l => (p l, encL l)).all fun r => (D.eqB r.2 q.2 || W.dataLt q.1 r.1) && !W.dataLt r.1 q.1) = some q ∧ q.2 = encL l0 := by
    cases hf : (L.map fun l => (p l, encL l)).find? fun q => (L.map fun l => (p l, encL l)).all fun r => (D.eqB r.2 q.2 || W.dataLt q.1 r.1) && !W.dataLt r.1 q.1 with
    | none =>
      have := List.find?_eq_none.mp hf (p l0, encL l0) (List.mem_map.mpr ⟨l0, hm, rfl⟩)
      exact absurd (List.all_eq_true.mpr fun r hr => by
        obtain ⟨l, hl, rfl⟩ := List.mem_map.mp hr
        exact good l hl) this
    | some q =>
      refine ⟨q, rfl, ?_⟩
      have h1 := List.find?_some hf
      obtain ⟨l, hl, rfl⟩ := List.mem_map.mp (List.mem_of_find?_eq_some hf)
      have h2 := List.all_eq_true.mp h1 (p l0, encL l0) (List.mem_map.mpr ⟨l0, hm, rfl⟩)
      have h3 := good l hl
      simp only [Bool.and_eq_true, Bool.or_eq_true, Bool.not_eq_true'] at h2 h3
      rcases h2.1 with h | h
      · show encL l = encL l0
        rw [inj _ _ h]
      · rw [h3.2] at h; cases h
  obtain ⟨q, f1, f2⟩ := find
  have mv : minV S (L.map encL) = some (encL l0) := by
    unfold minV
    rw [e1]
    dsimp only
    have c1 : ((L.map p).all fun a => (L.map p).all fun b => W.alike a b) = true := by
      simp only [List.all_eq_true]
      intro x hx y hy
      obtain ⟨a, _, rfl⟩ := List.mem_map.mp hx
      obtain ⟨b, _, rfl⟩ := List.mem_map.mp hy
      exact al a b
    have c2 : ((L.map p).all fun a => !isNone a) = true := by
      simp only [List.all_eq_true]
      intro x hx
      obtain ⟨a, _, rfl⟩ := List.mem_map.mp hx
      rfl
    rw [if_pos ⟨c1, c2, nd, dp⟩, hz, f1]
    show some q.2 = _
    rw [f2]
  show (some (L.map encL)).bind (fun ys => match intsOf ys with
    | some ns => ns.min?.map fun n => R.v (.int n)
    | none => (minV S ys).map .v) = _
  rw [Option.bind_some, ne]
  dsimp only
  rw [mv]
  first | done | rfl
end Iv
/-! Pn0: sorted things by their data; a wagon's task drawn -/
namespace Iv
open PySem
variable {P : Pg}
section
variable {α : Type}
def dleG (p : α → PyData) (a b : α) : Bool := !W.dataLt (p b) (p a)
theorem dleG_trans (p : α → PyData) (a b c : α) (h1 : dleG p a b = true) (h2 : dleG p b c = true) : dleG p a c = true := by
  unfold dleG at *
  cases h : W.dataLt (p c) (p a) with
  | false => rfl
  | true =>
    rcases PyProof.Rows.lex_negTrans (O := PyProof.Rows.itemOrd) _ (W.keyToks (p b)) _ h with h3 | h3
    · have h3 : W.dataLt (p c) (p b) = true := h3
      rw [h3] at h2; cases h2
    · have h3 : W.dataLt (p b) (p a) = true := h3
      rw [h3] at h1; cases h1
theorem dleG_total (p : α → PyData) (a b : α) : (dleG p a b || dleG p b a) = true := by
  unfold dleG
  cases h : W.dataLt (p b) (p a) with
  | false => rfl
  | true =>
    cases h2 : W.dataLt (p a) (p b) with
    | false => rfl
    | true =>
      have := PyProof.Rows.lex_trans (O := PyProof.Rows.itemOrd) _ _ _ h h2
      rw [PyProof.Rows.lex_irrefl] at this; cases this
theorem q_sortG (S : Sto) (e : α → D) (p : α → PyData) (pe : ∀ g a, D.py g (e a) = some (p a)) (l : List α) (so : sortable (l.map p) = true) (nd : ∀ a, (p a).hasDict = false) (hz : l.length ≤ sizeLine) : primD S .sorted [.lst (l.map e)] = some (.ol ((l.mergeSort (dleG p)).map e)) := by
  have e1 : pysD S (l.map e) = some (l.map p) := pys_map _ e p (pe _) l
  have nd : PyData.hasDictAll (l.map p) = false := noDict_map p nd l
  have e2 : sortD S (l.map e) = some (sortBy ((l.map p).zip (l.map e))) := by
    unfold sortD
    rw [e1]
    dsimp only
    rw [if_pos ⟨so, by rw [List.length_map]; exact hz, nd⟩]
  have e3 : sortBy ((l.map p).zip (l.map e)) = (l.mergeSort (dleG p)).map e := by
    unfold sortBy
    have z : (l.map p).zip (l.map e) = l.map fun b => (p b, e b) := zip_map2 _ _ l
    rw [z]
    have := List.map_mergeSort (f := fun b => (p b, e b)) (r := dleG p) (s := W.dataLe false (fun p : PyData × D => p.1)) (l := l) (fun a _ b _ => rfl)
    rw [← this, List.map_map]
    rfl
  show (some (l.map e)).bind (fun ys => (sortD S ys).map R.ol) = _
  rw [Option.bind_some, e2, e3]
  rfl
theorem sortG_pair (p : α → PyData) (l : List α) : (l.mergeSort (dleG p)).Pairwise fun a b => dleG p a b = true := List.pairwise_mergeSort (dleG_trans p) (dleG_total p) l
theorem sortG_again (p : α → PyData) (l : List α) : (l.mergeSort (dleG p)).mergeSort (dleG p) = l.mergeSort (dleG p) := List.mergeSort_of_pairwise (sortG_pair p l)
end
/-! ### calls, wagons -/
@[simp] theorem at1_0 (x0 : D) : L2.atI [x0] 0 = some x0 := rfl
@[simp] theorem at2_0 (x0 x1 : D) : L2.atI [x0, x1] 0 = some x0 := rfl
@[simp] theorem at2_1 (x0 x1 : D) : L2.atI [x0, x1] 1 = some x1 := rfl
@[simp] theorem at4_0 (x0 x1 x2 x3 : D) : L2.atI [x0, x1, x2, x3] 0 = some x0 := rfl
@[simp] theorem at4_1 (x0 x1 x2 x3 : D) : L2.atI [x0, x1, x2, x3] 1 = some x1 := rfl
@[simp] theorem at4_2 (x0 x1 x2 x3 : D) : L2.atI [x0, x1, x2, x3] 2 = some x2 := rfl
@[simp] theorem at4_3 (x0 x1 x2 x3 : D) : L2.atI [x0, x1, x2, x3] 3 = some x3 := rfl
@[simp] theorem at6_0 (x0 x1 x2 x3 x4 x5 : D) : L2.atI [x0, x1, x2, x3, x4, x5] 0 = some x0 := rfl
@[simp] theorem at6_1 (x0 x1 x2 x3 x4 x5 : D) : L2.atI [x0, x1, x2, x3, x4, x5] 1 = some x1 := rfl
@[simp] theorem at6_2 (x0 x1 x2 x3 x4 x5 : D) : L2.atI [x0, x1, x2, x3, x4, x5] 2 = some x2 := rfl
@[simp] theorem at6_3 (x0 x1 x2 x3 x4 x5 : D) : L2.atI [x0, x1, x2, x3, x4, x5] 3 = some x3 := rfl
@[simp] theorem at6_4 (x0 x1 x2 x3 x4 x5 : D) : L2.atI [x0, x1, x2, x3, x4, x5] 4 = some x4 := rfl
@[simp] theorem at6_5 (x0 x1 x2 x3 x4 x5 : D) : L2.atI [x0, x1, x2, x3, x4, x5] 5 = some x5 := rfl
inductive Tsk where
  | free
  | at_ (z : Str)
  | to_ (z : Str)
  deriving DecidableEq
abbrev freeD : D := .tup [.str (PySem.Str.ofString "free")]
def Tsk.d : Tsk → D
  | .free => freeD
  | .at_ z => .tup [.str (PySem.Str.ofString "at"), .str z]
  | .to_ z => .tup [.str (PySem.Str.ofString "to"), .str z]
def Tsk.nm : Tsk → Option Str
  | .free => none
  | .at_ z => some z
  | .to_ z => some z
structure Cal where
  nm : Str
  place : Nat
  grade : Int
  since : Int
def Cal.d (names : List Str) (c : Cal) : D := .tup [.str c.nm, .str (nmAt names c.place), .int c.grade, .int c.since]
structure Wag where
  nm : Str
  home : Str
  post : Str
  place : Nat
  mom : Int
  task : Tsk
def Wag.d (names : List Str) (w : Wag) : D := .tup [.str w.nm, .str w.home, .str w.post, .str (nmAt names w.place), .int w.mom, w.task.d]
structure CalOk (N : Nat) (now : Int) (c : Cal) : Prop where
  nm : NameOk c.nm
  place : c.place < N
  g1 : 1 ≤ c.grade
  g5 : c.grade ≤ 5
  s0 : 0 ≤ c.since
  s1 : c.since ≤ now
/-- how a task stands to the calls and to now -/
def TskOk (cs : List Cal) (now : Int) (place : Nat) (mom : Int) : Tsk → Prop
  | .free => True
  | .at_ z => mom ≤ now ∧ ∃ c ∈ cs, c.nm = z ∧ c.place = place
  | .to_ z => ∃ c ∈ cs, c.nm = z
structure WagOk (t : Town) (cs : List Cal) (now : Int) (w : Wag) : Prop where
  nm : NameOk w.nm
  home : w.home ∈ t.stands
  post : w.post ∈ t.names
  place : w.place < t.names.length
  m0 : 0 ≤ w.mom
  m1 : w.mom ≤ now + 120
  task : TskOk cs now w.place w.mom w.task
end Iv
/-! Pn1: a wagon's task drawn -/
namespace Iv
open PySem
variable {P : Pg}
section
variable (P : Pg) (cf cm : Nat → List D → Sto → ResF) (ρ : Env) (S : Sto)
@[simp] theorem xE_pop (o : E) (es : List E) : evE P cf cm (.pop o es) ρ S = (pk o (evE P cf cm o) ρ S).bind fun x ρ S => if isBoxL S x = true then ((evPs P cf cm es ρ S).bind fun ks ρ S => popR x ks ρ S) else .err := by simp only [evE]
end
section
variable {S : Sto} {a : Nat} {xs : List D}
theorem isBoxL_ref (hc : cellAt S a = some (.lst xs)) : isBoxL S (.ref a) = true := by simp only [isBoxL, hc]
theorem q_lenR (hc : cellAt S a = some (.lst xs)) : primD S .len [.ref a] = some (.v (.int xs.length)) := by
  simp only [primD, p_len]
  first
    | (simp only [hc]; done)
    | simp [seqD, lstD, hc]
theorem popR_at {ρ : Env} {y : D} {i : Int} (hc : cellAt S a = some (.lst xs)) (h0 : 0 ≤ i) (h1 : i < xs.length) (hz : xs.length ≤ 1000) (hy : xs[i.toNat]? = some y) : popR (.ref a) [.int i] ρ S = .ok (.v y) ρ (setCell S a (.lst (xs.eraseIdx i.toNat))) := by
  have : L2.ixN xs.length i = some i.toNat := by unfold L2.ixN; rw [if_pos h0, if_pos h1]
  have h62 : -(2 ^ 62) ≤ i ∧ i < 2 ^ 62 := by omega
  simp only [popR, popA, hc, if_pos h62, this, hy]
end
theorem pys_strs (g : Nat → Option PyData) (zs : List Str) : D.pys g (zs.map .str) = some (zs.map .str) := pys_map g D.str PyData.str (fun a => by simp [D.py]) zs
theorem shaped_strs (zs : List Str) (h : ∀ z ∈ zs, PyData.strOk z = true) : SeqAt.shaped (.list (zs.map .str)) = true := by
  have h1 : ∀ zs : List Str, (∀ z ∈ zs, PyData.strOk z = true) → PyData.canLayAll0 (zs.map .str) = true := fun zs h => by
    induction zs with
    | nil => simp [PyData.canLayAll0]
    | cons z r ih =>
      have := ih fun x hx => h x (by simp [hx])
      have := h z (by simp)
      simp [PyData.canLayAll0, PyData.canLay0, *]
  have h2 : ∀ zs : List Str, PyData.depthAll (zs.map .str) ≤ 1 := fun zs => depth_map PyData.str (fun a => by simp [PyData.depth]) zs
  have := h1 zs h
  have := h2 zs
  simp [SeqAt.shaped, PyData.canLay0, PyData.depth, *]
  try omega
theorem name_strOk0 {x : Str} (h : NameOk x) : PyData.strOk x = true := by
  have hs : ∀ c ∈ signL, c < 1114112 := by decide
  obtain ⟨_, _, h3⟩ := h
  unfold PyData.strOk
  rw [Array.all_eq_true_iff_forall_mem]
  intro c hc
  exact decide_eq_true (hs c (h3 c (by simpa using hc)))
theorem cEq_refNil {S : Sto} {a : Nat} {zs : List Str} (hc : cellAt S a = some (.lst (zs.map .str))) (hs : ∀ z ∈ zs, PyData.strOk z = true) : cmpD S .Eq (.ref a) (.lst []) = some (decide (zs = [])) := by
  have e1 : pyD S (.ref a) = some (.list (zs.map .str)) := by
    show boxPy S 3 a = _
    unfold boxPy
    rw [hc]
    dsimp only
    rw [pys_strs]; rfl
  have e2 : pyD S (.lst []) = some (.list []) := rfl
  have e3 : eqD0 S (.ref a) (.lst []) = some (PyData.eqv (.list (zs.map .str)) (.list [])) := by
    unfold eqD0
    rw [e1, e2]
    dsimp only
    rw [if_pos ⟨shaped_strs zs hs, shaped_strs [] (by simp)⟩]
  show eqD S (.ref a) (.lst []) = _
  unfold eqD
  rw [if_neg (by simp [scalD]), e3]
  cases zs with
  | nil => simp [PyData.eqv, PyData.eqvAll]
  | cons z r => simp [PyData.eqv, PyData.eqvAll]
theorem pick5 (a b c d e : D) {i : Int} (h0 : 0 ≤ i) (h1 : i < 5) : L2.atI [a, b, c, d, e] i = some (if i = 0 then a else if i = 1 then b else if i = 2 then c else if i = 3 then d else e) := by
  have : i = 0 ∨ i = 1 ∨ i = 2 ∨ i = 3 ∨ i = 4 := by omega
  rcases this with rfl | rfl | rfl | rfl | rfl <;> rfl
/-- the moment of a task's row -/
theorem task_mom {n : Nat} {S : Sto} {rd cd : List D} {x2 x3 now dd : Int} {rf : D} (h2 : L2.atI rd 2 = some (.int x2)) (h3 : L2.atI rd 3 = some (.int x3)) (ed : L2.atI [D.int 0, .int (x2.fmod 9), .int (x2.fmod 121), .int (-x2.fmod 9), .int (x2.fmod 3 - 1)] (x3.fmod 5) = some (.int dd)) :
    evS P (callF P n) (makeF P n) (.asg (.nm 4) (.prim .max2 [(.int 0), (.bin .Add (.var 1) (.ix (.lst [(.int 0), (.bin .Mod (.ix (.var 0) (.int 2)) (.int 9)), (.bin .Mod (.ix (.var 0) (.int 2)) (.int 121)), (.bin .Sub (.int 0) (.bin .Mod (.ix (.var 0) (.int 2)) (.int 9))), (.bin .Sub (.bin .Mod (.ix (.var 0) (.int 2)) (.int 3)) (.int 1))]) (.bin .Mod (.ix (.var 0) (.int 3)) (.int 5))))]))
      [.v (.lst rd), .v (.int now), .v (.lst cd), .v rf, .no, .no, .no, .no, .no] S = .ok .next [.v (.lst rd), .v (.int now), .v (.lst cd), .v rf, .v (.int (if now + dd > 0 then now + dd else 0)), .no, .no, .no, .no] S := by
  have z5 : (5 : Nat) ≤ sizeLine := le_size (by decide)
  simp [h2, h3, ed, z5]
theorem task_free {n : Nat} {S : Sto} {rd cd : List D} {x4 now mom : Int} {a : Nat} {zs : List Str} (hc : cellAt S a = some (.lst (zs.map .str))) (hs : ∀ z ∈ zs, PyData.strOk z = true) (h4 : L2.atI rd 4 = some (.int x4)) (h : x4.fmod 4 = 0 ∨ zs = []) :
    finR (evSs P (callF P n) (makeF P n) (Sh.f__law_task.body.drop 1) [.v (.lst rd), .v (.int now), .v (.lst cd), .v (.ref a), .v (.int mom), .no, .no, .no, .no] S) = .ok (.v (.tup [.non, .int mom, freeD])) S := by
  have z3 : (3 : Nat) ≤ sizeLine := le_size (by decide)
  have z1 : (1 : Nat) ≤ sizeLine := le_size (by decide)
  have e := cEq_refNil hc hs
  simp only [Sh.f__law_task, List.drop]
  by_cases h0 : x4.fmod 4 = 0
  · simp [h4, h0, z3, z1]
  · have hz := h.resolve_left h0
    subst hz
    simp [h4, h0, e, z3, z1]
theorem task_to {n : Nat} {S : Sto} {rd cd : List D} {x4 x5 now mom len : Int} {a : Nat} {zs : List Str} {z : Str} (hc : cellAt S a = some (.lst (zs.map .str))) (hs : ∀ z ∈ zs, PyData.strOk z = true) (h4 : L2.atI rd 4 = some (.int x4)) (h5 : L2.atI rd 5 = some (.int x5)) (hl : primD S .len [.ref a] = some (.v (.int len))) (l0 : len ≠ 0)
    {S1 : Sto} (hp : ∀ ρ, popR (.ref a) [.int (x5.fmod len)] ρ S = .ok (.v (.str z)) ρ S1) (h0 : ¬ x4.fmod 4 = 0) (h1 : ¬ x4.fmod 4 = 1) (hz : ¬ zs = []) :
    finR (evSs P (callF P n) (makeF P n) (Sh.f__law_task.body.drop 1) [.v (.lst rd), .v (.int now), .v (.lst cd), .v (.ref a), .v (.int mom), .no, .no, .no, .no] S) = .ok (.v (.tup [.non, .int mom, (Tsk.to_ z).d])) S1 := by
  have z3 : (3 : Nat) ≤ sizeLine := le_size (by decide)
  have z2 : (2 : Nat) ≤ sizeLine := le_size (by decide)
  have e := cEq_refNil hc hs
  have b := isBoxL_ref hc
  simp only [Sh.f__law_task, List.drop]
  simp [h4, h5, h0, h1, hz, e, z3, z2, b, hl, l0, hp, Tsk.d]
theorem task_at {n : Nat} {S : Sto} {rd cd fs : List D} {x4 x5 now mom len : Int} {a : Nat} {zs : List Str} {z : Str} {pl : D} (hc : cellAt S a = some (.lst (zs.map .str))) (hs : ∀ z ∈ zs, PyData.strOk z = true) (h4 : L2.atI rd 4 = some (.int x4)) (h5 : L2.atI rd 5 = some (.int x5)) (hl : primD S .len [.ref a] = some (.v (.int len))) (l0 : len ≠ 0)
    {S1 : Sto} (hp : ∀ ρ, popR (.ref a) [.int (x5.fmod len)] ρ S = .ok (.v (.str z)) ρ S1) (h1 : x4.fmod 4 = 1) (hz : ¬ zs = [])
    (lc : evE P (callF P n) (makeF P n) (.lc Sh.e1__law_task (.nm 8) .seq [(.var 2)] [Sh.t1__law_task] [8]) [.v (.lst rd), .v (.int now), .v (.lst cd), .v (.ref a), .v (.int mom), .v (.int 1), .v (.str z), .no, .no] S1 = .ok (.ol fs) [.v (.lst rd), .v (.int now), .v (.lst cd), .v (.ref a), .v (.int mom), .v (.int 1), .v (.str z), .no, .no] S1) (hf : L2.atI fs 0 = some pl) :
    finR (evSs P (callF P n) (makeF P n) (Sh.f__law_task.body.drop 1) [.v (.lst rd), .v (.int now), .v (.lst cd), .v (.ref a), .v (.int mom), .no, .no, .no, .no] S) = .ok (.v (.tup [pl, .int (if now < mom then now else mom), (Tsk.at_ z).d])) S1 := by
  have z3 : (3 : Nat) ≤ sizeLine := le_size (by decide)
  have z2 : (2 : Nat) ≤ sizeLine := le_size (by decide)
  have e := cEq_refNil hc hs
  have b := isBoxL_ref hc
  have h0 : ¬ x4.fmod 4 = 0 := by omega
  simp only [Sh.f__law_task, List.drop]
  rw [ss_n (ρ1 := [.v (.lst rd), .v (.int now), .v (.lst cd), .v (.ref a), .v (.int mom), .v (.int 1), .no, .no, .no]) (S1 := S) (by simp [h4, h1])]
  rw [ss_n (ρ1 := [.v (.lst rd), .v (.int now), .v (.lst cd), .v (.ref a), .v (.int mom), .v (.int 1), .no, .no, .no]) (S1 := S) (by simp [hz, e])]
  rw [ss_n (ρ1 := [.v (.lst rd), .v (.int now), .v (.lst cd), .v (.ref a), .v (.int mom), .v (.int 1), .v (.str z), .no, .no]) (S1 := S1) (by simp [h5, b, hl, l0, hp])]
  have st : evS P (callF P n) (makeF P n) (.asg (.nm 7) (.ix (.lc Sh.e1__law_task (.nm 8) .seq [(.var 2)] [Sh.t1__law_task] [8]) (.int 0))) [.v (.lst rd), .v (.int now), .v (.lst cd), .v (.ref a), .v (.int mom), .v (.int 1), .v (.str z), .no, .no] S1 = .ok .next [.v (.lst rd), .v (.int now), .v (.lst cd), .v (.ref a), .v (.int mom), .v (.int 1), .v (.str z), .v pl, .no] S1 := by
    simp only [xS_asg, xE_ix, pk_lc, toC, lc, c_ok, d_ol]
    simp [hf]
  rw [xSs_1]
  have : evS P (callF P n) (makeF P n) (.ite (.cmp .Eq (.var 5) (.int 1)) [(.asg (.nm 7) (.ix (.lc Sh.e1__law_task (.nm 8) .seq [(.var 2)] [Sh.t1__law_task] [8]) (.int 0))),
    (.ret (.tup [(.var 7), (.prim .min2 [(.var 4), (.var 1)]), (.tup [(.str (PySem.Str.ofString "at")), (.var 6)])]))] []) [.v (.lst rd), .v (.int now), .v (.lst cd), .v (.ref a), .v (.int mom), .v (.int 1), .v (.str z), .no, .no] S1 = .ok (.ret (.v (.tup [pl, .int (if now < mom then now else mom), (Tsk.at_ z).d]))) [.v (.lst rd), .v (.int now), .v (.lst cd), .v (.ref a), .v (.int mom), .v (.int 1), .v (.str z), .v pl, .no] S1 := by
    have t1 : (pk (.cmp .Eq (.var 5) (.int 1)) (evE P (callF P n) (makeF P n) (.cmp .Eq (.var 5) (.int 1))) [.v (.lst rd), .v (.int now), .v (.lst cd), .v (.ref a), .v (.int mom), .v (.int 1), .v (.str z), .no, .no] S1) = .ok (.bl true) [.v (.lst rd), .v (.int now), .v (.lst cd), .v (.ref a), .v (.int mom), .v (.int 1), .v (.str z), .no, .no] S1 := by simp
    rw [xS_ite, t1, b_ok, tB, b_of, b_ok]
    show evSs P (callF P n) (makeF P n) _ _ S1 = _
    rw [ss_n st]
    rw [ss_r (r := .v (.tup [pl, .int (if now < mom then now else mom), (Tsk.at_ z).d])) (ρ1 := [.v (.lst rd), .v (.int now), .v (.lst cd), .v (.ref a), .v (.int mom), .v (.int 1), .v (.str z), .v pl, .no]) (S1 := S1) (by simp [z3, z2, Tsk.d])]
  rw [this]
  rfl
theorem erase_map {α β : Type} (f : α → β) : ∀ (l : List α) (j : Nat), (l.map f).eraseIdx j = (l.eraseIdx j).map f
  | [], _ => rfl
  | _ :: _, 0 => rfl
  | x :: l, j + 1 => by simp [List.eraseIdx, erase_map f l j]
def oNm (names : List Str) : Option Nat → D
  | none => .non
  | some p => .str (nmAt names p)
theorem task_lc {n : Nat} {S1 : Sto} {ρ : Env} {names : List Str} {cs : List Cal} {z : Str} (hz : cs.length ≤ 1000) (h2 : ρ[2]? = some (.v (.lst (cs.map (Cal.d names))))) (h6 : ρ[6]? = some (.v (.str z))) (h8 : ρ[8]? = some .no) :
    evE P (callF P n) (makeF P n) (.lc Sh.e1__law_task (.nm 8) .seq [(.var 2)] [Sh.t1__law_task] [8]) ρ S1 = .ok (.ol ((cs.filter fun c => decide (c.nm = z)).map fun c => .str (nmAt names c.place))) ρ S1 := by
  have hl : 8 < ρ.length := (List.getElem?_eq_some_iff.mp h8).1
  have e6 : ∀ x, (ρ.set 8 x)[6]? = some (.v (.str z)) := fun x => by rw [List.getElem?_set_ne (by decide)]; exact h6
  have e8 : ∀ x, (ρ.set 8 x)[8]? = some x := fun x => by rw [List.getElem?_set_self hl]
  refine lc_filter P _ _ ρ S1 (ds := [.lst (cs.map (Cal.d names))]) (Cal.d names) (fun c => .str (nmAt names c.place)) (fun c => decide (c.nm = z)) cs h8 ?_ rfl rfl (le_size hz) (fun c _ => ?_) (fun c _ _ => ?_)
  · simp [h2]
  · simp [Sh.t1__law_task, e6, e8, Cal.d]
  · exact ⟨.v (.str (nmAt names c.place)), by simp [Sh.e1__law_task, e8, Cal.d], rfl⟩
theorem task_ok {i : Nat} (hP : P.fns[i]? = some Sh.f__law_task) (n : Nat) {rs : List Int} (hr : RowOk 10 rs) (names : List Str) {cs : List Cal} (hcs : cs.length ≤ 100) {now : Int} (hn : 0 ≤ now) {S : Sto} {a : Nat} {zs : List Str} (hc : cellAt S a = some (.lst (zs.map .str))) (hs : ∀ z ∈ zs, PyData.strOk z = true) (hl : zs.length ≤ 100) (hz : ∀ z ∈ zs, ∃ c ∈ cs, c.nm = z) :
    ∃ (o : Option Nat) (m : Int) (tk : Tsk) (S1 : Sto), callF P (n + 1) i [.lst (rs.map .int), .int now, .lst (cs.map (Cal.d names)), .ref a] S = .ok (.v (.tup [oNm names o, .int m, tk.d])) S1 ∧ 0 ≤ m ∧ m ≤ now + 120 ∧
      ((tk = .free ∧ o = none ∧ S1 = S) ∨ ∃ j z, zs[j]? = some z ∧ S1 = setCell S a (.lst ((zs.eraseIdx j).map .str)) ∧ ((tk = .to_ z ∧ o = none) ∨ ∃ c ∈ cs, c.nm = z ∧ tk = .at_ z ∧ o = some c.place ∧ m ≤ now)) := by
  rw [run_def hP rfl]
  obtain ⟨x2, a2, b2, h2⟩ := hr.at (k := 2) (by decide) (by decide)
  obtain ⟨x3, a3, b3, h3⟩ := hr.at (k := 3) (by decide) (by decide)
  obtain ⟨x4, a4, b4, h4⟩ := hr.at (k := 4) (by decide) (by decide)
  obtain ⟨x5, a5, b5, h5⟩ := hr.at (k := 5) (by decide) (by decide)
  have f5 := fm (a := x3) (b := 5) (by decide)
  have f9 := fm (a := x2) (b := 9) (by decide)
  have f121 := fm (a := x2) (b := 121) (by decide)
  have f3 := fm (a := x2) (b := 3) (by decide)
  have p5 := pick5 (.int 0) (.int (x2.fmod 9)) (.int (x2.fmod 121)) (.int (-x2.fmod 9)) (.int (x2.fmod 3 - 1)) f5.1 f5.2
  obtain ⟨dd, hd, ed⟩ : ∃ dd : Int, dd ≤ 120 ∧ (if x3.fmod 5 = 0 then D.int 0 else if x3.fmod 5 = 1 then .int (x2.fmod 9) else if x3.fmod 5 = 2 then .int (x2.fmod 121) else if x3.fmod 5 = 3 then .int (-x2.fmod 9) else .int (x2.fmod 3 - 1)) = .int dd := by
    split
    · exact ⟨0, by omega, rfl⟩
    · split
      · exact ⟨x2.fmod 9, by omega, rfl⟩
      · split
        · exact ⟨x2.fmod 121, by omega, rfl⟩
        · split
          · exact ⟨-x2.fmod 9, by omega, rfl⟩
          · exact ⟨x2.fmod 3 - 1, by omega, rfl⟩
  rw [ed] at p5
  obtain ⟨mom, hm⟩ : ∃ m, (if now + dd > 0 then now + dd else 0) = m := ⟨_, rfl⟩
  have m0 : 0 ≤ mom ∧ mom ≤ now + 120 := by rw [← hm]; split <;> omega
  have st := task_mom (P := P) (n := n) (S := S) (rd := rs.map D.int) (cd := cs.map (Cal.d names)) (now := now) (rf := .ref a) h2 h3 p5
  rw [hm] at st
  have head : finR (evSs P (callF P n) (makeF P n) Sh.f__law_task.body [.v (.lst (rs.map .int)), .v (.int now), .v (.lst (cs.map (Cal.d names))), .v (.ref a), .no, .no, .no, .no, .no] S) =
      finR (evSs P (callF P n) (makeF P n) (Sh.f__law_task.body.drop 1) [.v (.lst (rs.map .int)), .v (.int now), .v (.lst (cs.map (Cal.d names))), .v (.ref a), .v (.int mom), .no, .no, .no, .no] S) := by
    simp only [Sh.f__law_task, List.drop]
    rw [ss_n st]
  show ∃ o m tk S1, finR (evSs P (callF P n) (makeF P n) Sh.f__law_task.body [.v (.lst (rs.map .int)), .v (.int now), .v (.lst (cs.map (Cal.d names))), .v (.ref a), .no, .no, .no, .no, .no] S) = _ ∧ _
  rw [head]
  by_cases hf : x4.fmod 4 = 0 ∨ zs = []
  · exact ⟨none, mom, .free, S, task_free hc hs h4 hf, m0.1, m0.2, .inl ⟨rfl, rfl, rfl⟩⟩
  · have q0 : ¬ x4.fmod 4 = 0 := fun z => hf (.inl z)
    have qz : ¬ zs = [] := fun z => hf (.inr z)
    have lz : 0 < zs.length := List.length_pos_iff.mpr qz
    have lq := q_lenR hc
    rw [List.length_map] at lq
    have fj := fm (a := x5) (b := (zs.length : Int)) (by omega)
    obtain ⟨j, hj⟩ : ∃ j, (x5.fmod (zs.length : Int)).toNat = j := ⟨_, rfl⟩
    have hj2 : j < zs.length := by omega
    have hp : ∀ ρ, popR (.ref a) [.int (x5.fmod (zs.length : Int))] ρ S = .ok (.v (.str zs[j])) ρ (setCell S a (.lst ((zs.eraseIdx j).map .str))) := fun ρ => by
      rw [popR_at (y := .str zs[j]) hc fj.1 (by rw [List.length_map]; exact fj.2) (by rw [List.length_map]; omega) (by rw [hj, List.getElem?_map, List.getElem?_eq_getElem hj2]; rfl), hj, erase_map]
    by_cases q1 : x4.fmod 4 = 1
    · obtain ⟨c, c1, c2⟩ := hz zs[j] (List.getElem_mem hj2)
      have lc := task_lc (P := P) (n := n) (S1 := setCell S a (.lst ((zs.eraseIdx j).map .str))) (ρ := [.v (.lst (rs.map .int)), .v (.int now), .v (.lst (cs.map (Cal.d names))), .v (.ref a), .v (.int mom), .v (.int 1), .v (.str zs[j]), .no, .no]) (names := names) (cs := cs) (z := zs[j]) (by omega) rfl rfl rfl
      have hin : c ∈ cs.filter fun c => decide (c.nm = zs[j]) := List.mem_filter.mpr ⟨c1, decide_eq_true c2⟩
      cases hfl : cs.filter fun c => decide (c.nm = zs[j]) with
      | nil => rw [hfl] at hin; cases hin
      | cons d r =>
        rw [hfl] at lc
        have hd2 : d ∈ cs.filter fun c => decide (c.nm = zs[j]) := by rw [hfl]; simp
        obtain ⟨d1, d2⟩ := List.mem_filter.mp hd2
        have e := task_at (P := P) (n := n) (now := now) (mom := mom) (cd := cs.map (Cal.d names)) (pl := .str (nmAt names d.place)) hc hs h4 h5 lq (by omega) hp q1 qz lc (by rw [atI_nat _ (by decide)]; rfl)
        exact ⟨some d.place, _, .at_ zs[j], _, e, by split <;> omega, by split <;> omega, .inr ⟨j, zs[j], List.getElem?_eq_getElem hj2, rfl, .inr ⟨d, d1, of_decide_eq_true d2, rfl, rfl, by split <;> omega⟩⟩⟩
    · have e := task_to (P := P) (n := n) (now := now) (mom := mom) (cd := cs.map (Cal.d names)) hc hs h4 h5 lq (by omega) hp q0 q1 qz
      exact ⟨none, mom, .to_ zs[j], _, e, m0.1, m0.2, .inr ⟨j, zs[j], List.getElem?_eq_getElem hj2, rfl, .inl ⟨rfl, rfl⟩⟩⟩
end Iv
/-! Pn2: a scene drawn: turns of its loops -/
namespace Iv
open PySem
variable {P : Pg}
@[simp] theorem tNon (S : Sto) : truthD S .non = some false := rfl
theorem truth_nm {S : Sto} {z : Str} (h : NameOk z) : truthD S (.str z) = some true := by
  have h1 := h.1
  have h2 := h.2.1
  have hz : z.length ≤ sizeLine := le_size (by omega)
  show (if z.length ≤ sizeLine then some (z.length != 0) else none) = _
  rw [if_pos hz]
  have : z.length ≠ 0 := by omega
  simp [this]
section
variable {iT iR iC iN iK : Nat}
theorem sc_turn1 {n : Nat} {S : Sto} {nd rd sd nms tn cd : List D} {rds st reach nm pl : D} {kk c now m x15 s0 s1 s2 s3 gm mx sn : Int}
    (e0 : callF P n iC [.lst nd, .int (26 + kk)] S = .ok (.v (.int c)) S) (e1 : callF P n iR [.int c, .int 6] S = .ok (.ol sd) S)
    (h15 : L2.atI rd 15 = some (.int x15)) (h0 : L2.atI sd 0 = some (.int s0)) (h1 : L2.atI sd 1 = some (.int s1)) (h2 : L2.atI sd 2 = some (.int s2)) (h3 : L2.atI sd 3 = some (.int s3))
    (eg : L2.atI [D.int 5, .int 2, .int 1] (x15.fmod 3) = some (.int gm)) (g0 : gm ≠ 0) (emx : primD S .max2 [.int 0, .int (now - s2.fmod 3)] = some (.v (.int mx))) (n0 : now + 1 ≠ 0)
    (es : L2.atI [D.int mx, .int (s2.fmod (now + 1)), .int now] (s3.fmod 3) = some (.int sn)) (hnm : L2.atI nms kk = some nm) (hlen : primD S .len [.tup tn] = some (.v (.int m))) (m0 : m ≠ 0) (hpl : L2.atI tn (s0.fmod m) = some pl) (hz : cd.length < sizeLine) :
    evSs P (callF P n) (makeF P n) (Sh.b1__law_scene iT iR iC iN iK) [.v (.lst nd), .v (.tup [.tup tn, rds, st, reach]), .v (.lst rd), .ol nms, .v (.int now), .ol cd, .v (.int kk), .no, .no, .no, .no, .no, .no, .no, .no, .no, .no, .no] S =
    .ok .next [.v (.lst nd), .v (.tup [.tup tn, rds, st, reach]), .v (.lst rd), .ol nms, .v (.int now), .ol (cd ++ [.tup [nm, pl, .int (1 + s1.fmod gm), .int sn]]), .v (.int kk), .ol sd, .v (.int (1 + s1.fmod gm)), .v (.int sn), .no, .no, .no, .no, .no, .no, .no, .no] S := by
  have z3 : (3 : Nat) ≤ sizeLine := le_size (by decide)
  have z4 : (4 : Nat) ≤ sizeLine := le_size (by decide)
  simp only [Sh.b1__law_scene]
  rw [ss_n (ρ1 := [.v (.lst nd), .v (.tup [.tup tn, rds, st, reach]), .v (.lst rd), .ol nms, .v (.int now), .ol cd, .v (.int kk), .ol sd, .no, .no, .no, .no, .no, .no, .no, .no, .no, .no]) (S1 := S) (by simp [e0, e1])]
  rw [ss_n (ρ1 := [.v (.lst nd), .v (.tup [.tup tn, rds, st, reach]), .v (.lst rd), .ol nms, .v (.int now), .ol cd, .v (.int kk), .ol sd, .v (.int (1 + s1.fmod gm)), .no, .no, .no, .no, .no, .no, .no, .no, .no]) (S1 := S) (by simp [h1, h15, eg, g0, z3])]
  rw [ss_n (ρ1 := [.v (.lst nd), .v (.tup [.tup tn, rds, st, reach]), .v (.lst rd), .ol nms, .v (.int now), .ol cd, .v (.int kk), .ol sd, .v (.int (1 + s1.fmod gm)), .v (.int sn), .no, .no, .no, .no, .no, .no, .no, .no]) (S1 := S) (by simp [-q_max2, h2, h3, emx, n0, es, z3])]
  rw [ss_n (ρ1 := [.v (.lst nd), .v (.tup [.tup tn, rds, st, reach]), .v (.lst rd), .ol nms, .v (.int now), .ol (cd ++ [.tup [nm, pl, .int (1 + s1.fmod gm), .int sn]]), .v (.int kk), .ol sd, .v (.int (1 + s1.fmod gm)), .v (.int sn), .no, .no, .no, .no, .no, .no, .no, .no]) (S1 := S) (by simp [-q_lenT, hnm, hlen, m0, h0, hpl, z4, hz])]
  rw [xSs_0]
theorem sc_turn2 {n : Nat} {S S1 : Sto} {nd rd sd nms tn cd wd std : List D} {rds reach nm pl o pd tk home post pp : D} {sl : Slot} {a : Nat} {kk c now m ms mom x17 s0 s6 s7 s8 : Int} (hsl : sl = .ol cd ∨ sl = .v (.lst cd))
    (e0 : callF P n iC [.lst nd, .int (21 + kk)] S = .ok (.v (.int c)) S) (e1 : callF P n iR [.int c, .int 10] S = .ok (.ol sd) S) (e2 : callF P n iK [.lst sd, .int now, .lst cd, .ref a] S = .ok (.v (.tup [o, .int mom, tk])) S1)
    (h17 : L2.atI rd 17 = some (.int x17)) (h0 : L2.atI sd 0 = some (.int s0)) (h6 : L2.atI sd 6 = some (.int s6)) (h7 : L2.atI sd 7 = some (.int s7)) (h8 : L2.atI sd 8 = some (.int s8))
    (ho : (o = .non ∧ pd = pl) ∨ ∃ z, o = .str z ∧ truthD S1 (.str z) = some true ∧ pd = .str z) (hlen : primD S1 .len [.tup tn] = some (.v (.int m))) (m0 : m ≠ 0) (hpl : L2.atI tn (s0.fmod m) = some pl)
    (hlens : primD S1 .len [.tup std] = some (.v (.int ms))) (ms0 : ms ≠ 0) (hh : L2.atI std (s7.fmod ms) = some home) (hpp : L2.atI tn (s6.fmod m) = some pp) (hpost : L2.atI [home, pp] (s8.fmod 2) = some post)
    (hnm : L2.atI nms ((x17 + kk).fmod 15) = some nm) (hz : wd.length < sizeLine) :
    evSs P (callF P n) (makeF P n) (Sh.b2__law_scene iT iR iC iN iK) [.v (.lst nd), .v (.tup [.tup tn, rds, .tup std, reach]), .v (.lst rd), .ol nms, .v (.int now), sl, .v (.int kk), .no, .no, .no, .v (.ref a), .ol wd, .no, .no, .no, .no, .no, .no] S =
    .ok .next [.v (.lst nd), .v (.tup [.tup tn, rds, .tup std, reach]), .v (.lst rd), .ol nms, .v (.int now), .v (.lst cd), .v (.int kk), .v (.lst sd), .no, .no, .v (.ref a), .ol (wd ++ [.tup [nm, home, post, pd, .int mom, tk]]), .v pd, .v (.int mom), .v tk, .v home, .v post, .no] S1 := by
  have z2 : (2 : Nat) ≤ sizeLine := le_size (by decide)
  have z6 : (6 : Nat) ≤ sizeLine := le_size (by decide)
  simp only [Sh.b2__law_scene]
  rw [ss_n (ρ1 := [.v (.lst nd), .v (.tup [.tup tn, rds, .tup std, reach]), .v (.lst rd), .ol nms, .v (.int now), sl, .v (.int kk), .ol sd, .no, .no, .v (.ref a), .ol wd, .no, .no, .no, .no, .no, .no]) (S1 := S) (by simp [e0, e1])]
  rw [ss_n (ρ1 := [.v (.lst nd), .v (.tup [.tup tn, rds, .tup std, reach]), .v (.lst rd), .ol nms, .v (.int now), .v (.lst cd), .v (.int kk), .v (.lst sd), .no, .no, .v (.ref a), .ol wd, .v o, .v (.int mom), .v tk, .no, .no, .no]) (S1 := S1) (by rcases hsl with rfl | rfl <;> simp [e2])]
  rw [ss_n (ρ1 := [.v (.lst nd), .v (.tup [.tup tn, rds, .tup std, reach]), .v (.lst rd), .ol nms, .v (.int now), .v (.lst cd), .v (.int kk), .v (.lst sd), .no, .no, .v (.ref a), .ol wd, .v pd, .v (.int mom), .v tk, .no, .no, .no]) (S1 := S1) (by
    rcases ho with ⟨rfl, rfl⟩ | ⟨z, rfl, hz, rfl⟩
    · simp [-q_lenT, h0, hlen, m0, hpl]
    · simp [hz])]
  rw [ss_n (ρ1 := [.v (.lst nd), .v (.tup [.tup tn, rds, .tup std, reach]), .v (.lst rd), .ol nms, .v (.int now), .v (.lst cd), .v (.int kk), .v (.lst sd), .no, .no, .v (.ref a), .ol wd, .v pd, .v (.int mom), .v tk, .v home, .no, .no]) (S1 := S1) (by simp [-q_lenT, h7, hlens, ms0, hh])]
  rw [ss_n (ρ1 := [.v (.lst nd), .v (.tup [.tup tn, rds, .tup std, reach]), .v (.lst rd), .ol nms, .v (.int now), .v (.lst cd), .v (.int kk), .v (.lst sd), .no, .no, .v (.ref a), .ol wd, .v pd, .v (.int mom), .v tk, .v home, .v post, .no]) (S1 := S1) (by simp [-q_lenT, h6, h8, hlen, m0, hpp, hpost, z2])]
  rw [ss_n (ρ1 := [.v (.lst nd), .v (.tup [.tup tn, rds, .tup std, reach]), .v (.lst rd), .ol nms, .v (.int now), .v (.lst cd), .v (.int kk), .v (.lst sd), .no, .no, .v (.ref a), .ol (wd ++ [.tup [nm, home, post, pd, .int mom, tk]]), .v pd, .v (.int mom), .v tk, .v home, .v post, .no]) (S1 := S1) (by simp [h17, hnm, z6, hz])]
  rw [xSs_0]
end
end Iv
/-! Pn3: a scene drawn -/
namespace Iv
open PySem
variable {P : Pg}
structure SceneFns (P : Pg) (iT iR iC iN iK iRoad : Nat) : Prop extends TownFns P iR iC iN iRoad where
  town : P.fns[iT]? = some (Sh.f__law_town iR iC iN iRoad)
  task : P.fns[iK]? = some Sh.f__law_task
variable {iT iR iC iN iK iRoad : Nat}
theorem since_pick {now s2 s3 : Int} (hn : 0 ≤ now) : ∃ mx sn : Int, (∀ S : Sto, primD S .max2 [.int 0, .int (now - s2.fmod 3)] = some (.v (.int mx))) ∧ L2.atI [D.int mx, .int (s2.fmod (now + 1)), .int now] (s3.fmod 3) = some (.int sn) ∧ 0 ≤ sn ∧ sn ≤ now := by
  have f3 := fm (a := s2) (b := 3) (by decide)
  have fn := fm (a := s2) (b := now + 1) (by omega)
  have f3' := fm (a := s3) (b := 3) (by decide)
  obtain ⟨mx, hm⟩ : ∃ m, (if now - s2.fmod 3 > 0 then now - s2.fmod 3 else 0) = m := ⟨_, rfl⟩
  have p := pick3 (.int mx) (.int (s2.fmod (now + 1))) (.int now) f3'.1 f3'.2
  have m0 : 0 ≤ mx ∧ mx ≤ now := by rw [← hm]; split <;> omega
  by_cases q0 : s3.fmod 3 = 0
  · rw [if_pos q0] at p
    exact ⟨mx, mx, fun S => by rw [q_max2, hm], p, m0.1, m0.2⟩
  · rw [if_neg q0] at p
    by_cases q1 : s3.fmod 3 = 1
    · rw [if_pos q1] at p
      exact ⟨mx, _, fun S => by rw [q_max2, hm], p, fn.1, by omega⟩
    · rw [if_neg q1] at p
      exact ⟨mx, _, fun S => by rw [q_max2, hm], p, hn, Int.le_refl _⟩
theorem sc_loop1 (F : SceneFns P iT iR iC iN iK iRoad) {n : Nat} {S : Sto} {ns rs : List Int} (hr : RowOk 20 rs) {t : Town} (ht : TownOk t) {nms : List Str} (h15 : nms.length = 15) (hnm : ∀ x ∈ nms, NameOk x) {now : Int} (hn : 0 ≤ now) (m : Nat) (hm : m ≤ 10) {st : Sto → Bool} (hst : st S = true) :
    ∃ cs : List Cal, cs.length = m ∧ (∀ c ∈ cs, CalOk t.names.length now c) ∧ cs.map Cal.nm = nms.take m ∧
      forLoop (.nm 6) (evSs P (callF P (n + 1)) (makeF P (n + 1)) (Sh.b1__law_scene iT iR iC iN iK)) [6, 7, 8, 9] st ((List.range m).map fun k : Nat => D.int (k : Int)) [.v (.lst (ns.map .int)), .v t.d, .v (.lst (rs.map .int)), .ol (nms.map .str), .v (.int now), .ol [], .no, .no, .no, .no, .no, .no, .no, .no, .no, .no, .no, .no] S =
      .ok .next [.v (.lst (ns.map .int)), .v t.d, .v (.lst (rs.map .int)), .ol (nms.map .str), .v (.int now), .ol (cs.map (Cal.d t.names)), .no, .no, .no, .no, .no, .no, .no, .no, .no, .no, .no, .no] S := by
  obtain ⟨x15, _, _, e15⟩ := hr.at (k := 15) (by decide) (by decide)
  have f3 := fm (a := x15) (b := 3) (by decide)
  obtain ⟨gm, hg, eg⟩ : ∃ gm : Int, (1 ≤ gm ∧ gm ≤ 5) ∧ L2.atI [D.int 5, .int 2, .int 1] (x15.fmod 3) = some (.int gm) := by
    rw [pick3 _ _ _ f3.1 f3.2]
    split
    · exact ⟨5, by decide, rfl⟩
    · split
      · exact ⟨2, by decide, rfl⟩
      · exact ⟨1, by decide, rfl⟩
  obtain ⟨ρ', e, cs, rfl, q1, q2, q3⟩ := for_invP (tg := .nm 6) (fb := evSs P (callF P (n + 1)) (makeF P (n + 1)) (Sh.b1__law_scene iT iR iC iN iK)) (ks := [6, 7, 8, 9]) (st := st) hst (fun k : Nat => D.int (k : Int))
    (fun pre ρ => ∃ cs : List Cal, ρ = [.v (.lst (ns.map .int)), .v t.d, .v (.lst (rs.map .int)), .ol (nms.map .str), .v (.int now), .ol (cs.map (Cal.d t.names)), .no, .no, .no, .no, .no, .no, .no, .no, .no, .no, .no, .no] ∧ cs.length = pre.length ∧ (∀ c ∈ cs, CalOk t.names.length now c) ∧ cs.map Cal.nm = nms.take pre.length)
    (List.range m) _ ⟨[], rfl, rfl, by simp, by simp⟩ (by
      rintro pre k post ρ hp ⟨cs, rfl, q1, q2, q3⟩
      obtain ⟨hk, hk2⟩ := range_pre2 hp
      have ec := cell_at_ok F.cell n ns (26 + k) S
      rw [show ((26 + k : Nat) : Int) = 26 + (k : Int) from by omega] at ec
      obtain ⟨sd, r1, r2⟩ := row_ok F.row n (ns.getD (26 + k) 0) 6 S (by decide)
      obtain ⟨s0, _, _, h0⟩ := r1.at (k := 0) (by decide) (by decide)
      obtain ⟨s1, _, _, h1⟩ := r1.at (k := 1) (by decide) (by decide)
      obtain ⟨s2, _, _, h2⟩ := r1.at (k := 2) (by decide) (by decide)
      obtain ⟨s3, _, _, h3⟩ := r1.at (k := 3) (by decide) (by decide)
      obtain ⟨mx, sn, emx, es, sn0, sn1⟩ := since_pick (now := now) (s2 := s2) (s3 := s3) hn
      have n1 := ht.n1
      have fp := fm (a := s0) (b := (t.names.length : Int)) (by omega)
      have fg := fm (a := s1) (b := gm) (by omega)
      have turn := sc_turn1 (P := P) (iT := iT) (iR := iR) (iC := iC) (iN := iN) (iK := iK) (n := n + 1) (rds := .tup (t.roads.map (Road.d t.names))) (st := .tup (t.stands.map .str)) (reach := .int t.reach) (nms := nms.map D.str) (cd := cs.map (Cal.d t.names)) ec r2 e15 h0 h1 h2 h3 eg (by omega) (emx S) (by omega) es (atI_names nms (k := (k : Int)) (by omega) (by omega)) (m := (t.names.length : Int)) (tn := t.names.map D.str) (by rw [q_lenT, List.length_map]) (by omega) (atI_names t.names fp.1 fp.2) (by rw [List.length_map]; exact lt_size (by omega))
      refine ⟨_, _, by rw [bT_nm, if_pos (by simp)]; rfl, turn, cs ++ [⟨nmAt nms k, (s0.fmod (t.names.length : Int)).toNat, 1 + s1.fmod gm, sn⟩], ?_, by simp [q1], ?_, ?_⟩
      · simp [kill, Cal.d, Town.d]
      · intro c hc
        rcases List.mem_append.mp hc with hc | hc
        · exact q2 c hc
        · simp only [List.mem_singleton] at hc
          subst hc
          have : nmAt nms k ∈ nms := by
            have hlt : k < nms.length := by omega
            simp [nmAt, List.getD_eq_getElem?_getD, hlt]
          exact ⟨hnm _ this, by show (s0.fmod _).toNat < _; omega, by show 1 ≤ 1 + s1.fmod gm; omega, by show 1 + s1.fmod gm ≤ 5; omega, sn0, sn1⟩
      · have hlt : k < nms.length := by omega
        rw [List.map_append, q3, hk]
        simp only [List.length_append, List.length_singleton, hk]
        rw [List.take_add_one, List.getElem?_eq_getElem hlt]
        simp [nmAt, List.getD_eq_getElem?_getD, hlt])
  simp only [List.length_range] at q1 q3
  exact ⟨cs, q1, q2, q3, e⟩
theorem nodup_erase {α : Type} {z : α} : ∀ {l : List α} {j : Nat}, l.Nodup → l[j]? = some z → (l.eraseIdx j).Nodup ∧ z ∉ l.eraseIdx j ∧ z ∈ l ∧ ∀ x ∈ l.eraseIdx j, x ∈ l
  | [], _, _, h => by simp at h
  | x :: l, 0, hn, h => by
    simp only [List.getElem?_cons_zero, Option.some.injEq] at h
    subst h
    have := List.nodup_cons.mp hn
    exact ⟨this.2, this.1, by simp, fun y hy => by simp at hy; simp [hy]⟩
  | x :: l, j + 1, hn, h => by
    simp only [List.getElem?_cons_succ] at h
    have hn := List.nodup_cons.mp hn
    obtain ⟨h1, h2, h3, h4⟩ := nodup_erase hn.2 h
    simp only [List.eraseIdx_cons_succ]
    refine ⟨List.nodup_cons.mpr ⟨fun hx => hn.1 (h4 _ hx), h1⟩, ?_, by simp [h3], ?_⟩
    · intro hz
      rcases List.mem_cons.mp hz with rfl | hz
      · exact hn.1 h3
      · exact h2 hz
    · intro y hy
      rcases List.mem_cons.mp hy with rfl | hy
      · simp
      · simp [h4 y hy]
theorem cell_end (S : Sto) (c : Cell) : cellAt (S ++ [c]) S.length = some c := by simp [cellAt]
theorem set_end (S : Sto) (c c' : Cell) : setCell (S ++ [c]) S.length c' = S ++ [c'] := by simp [setCell]
theorem sc_loop2 (F : SceneFns P iT iR iC iN iK iRoad) {n : Nat} {S : Sto} {ns rs : List Int} (hr : RowOk 20 rs) {t : Town} (ht : TownOk t) {nms : List Str} (h15 : nms.length = 15) (hnm : ∀ x ∈ nms, NameOk x) {now : Int} (hn : 0 ≤ now) {cs : List Cal} (hcs : ∀ c ∈ cs, CalOk t.names.length now c) (hc10 : cs.length ≤ 10) (hcn : (cs.map Cal.nm).Nodup)
    {x17 : Int} (e17 : L2.atI (rs.map D.int) 17 = some (.int x17)) (m : Nat) (hm : m ≤ 5) {sl0 : Slot} (hsl0 : sl0 = .ol (cs.map (Cal.d t.names)) ∨ sl0 = .v (.lst (cs.map (Cal.d t.names)))) {st : Sto → Bool} (hst : ∀ S, st S = true) :
    ∃ (sl : Slot) (ws : List Wag) (zs : List Str), (sl = .ol (cs.map (Cal.d t.names)) ∨ sl = .v (.lst (cs.map (Cal.d t.names)))) ∧ ws.length = m ∧ (∀ w ∈ ws, WagOk t cs now w) ∧ ws.map Wag.nm = (List.range m).map (fun k : Nat => nmAt nms ((x17 + (k : Int)).fmod 15).toNat) ∧ (ws.filterMap fun w => w.task.nm).Nodup ∧
      forLoop (.nm 6) (evSs P (callF P (n + 1)) (makeF P (n + 1)) (Sh.b2__law_scene iT iR iC iN iK)) [6, 7, 12, 13, 14, 15, 16] st ((List.range m).map fun k : Nat => D.int (k : Int)) [.v (.lst (ns.map .int)), .v t.d, .v (.lst (rs.map .int)), .ol (nms.map .str), .v (.int now), sl0, .no, .no, .no, .no, .v (.ref S.length), .ol [], .no, .no, .no, .no, .no, .no] (S ++ [.lst ((cs.map Cal.nm).map .str)]) =
      .ok .next [.v (.lst (ns.map .int)), .v t.d, .v (.lst (rs.map .int)), .ol (nms.map .str), .v (.int now), sl, .no, .no, .no, .no, .v (.ref S.length), .ol (ws.map (Wag.d t.names)), .no, .no, .no, .no, .no, .no] (S ++ [.lst (zs.map .str)]) := by
  obtain ⟨ρ', S', e, sl, ws, zs, rfl, rfl, q0, q1, q2, q3, q4, q5⟩ := for_inv (tg := .nm 6) (fb := evSs P (callF P (n + 1)) (makeF P (n + 1)) (Sh.b2__law_scene iT iR iC iN iK)) (ks := [6, 7, 12, 13, 14, 15, 16]) (st := st) (fun k : Nat => D.int (k : Int))
    (fun pre ρ S' => ∃ (sl : Slot) (ws : List Wag) (zs : List Str), S' = S ++ [.lst (zs.map .str)] ∧ ρ = [.v (.lst (ns.map .int)), .v t.d, .v (.lst (rs.map .int)), .ol (nms.map .str), .v (.int now), sl, .no, .no, .no, .no, .v (.ref S.length), .ol (ws.map (Wag.d t.names)), .no, .no, .no, .no, .no, .no] ∧
      (sl = .ol (cs.map (Cal.d t.names)) ∨ sl = .v (.lst (cs.map (Cal.d t.names)))) ∧ ws.length = pre.length ∧ (∀ w ∈ ws, WagOk t cs now w) ∧ ws.map Wag.nm = (List.range pre.length).map (fun k : Nat => nmAt nms ((x17 + (k : Int)).fmod 15).toNat) ∧ (ws.filterMap fun w => w.task.nm).Nodup ∧
      zs.Nodup ∧ (∀ z ∈ zs, z ∈ cs.map Cal.nm ∧ z ∉ ws.filterMap fun w => w.task.nm) ∧ zs.length ≤ 10)
    (List.range m) [] _ (S ++ [.lst ((cs.map Cal.nm).map .str)]) ⟨sl0, [], cs.map Cal.nm, rfl, rfl, hsl0, rfl, by simp, by simp, by simp, hcn, by simp, by simpa using hc10⟩ (by
      rintro pre k post ρ S' hp ⟨sl, ws, zs, rfl, rfl, q0, q1, q2, q3, q4, q5, q6, q7⟩
      obtain ⟨hk, hk2⟩ := range_pre2 hp
      obtain ⟨S2, hS2⟩ : ∃ S2, S2 = S ++ [Cell.lst (zs.map D.str)] := ⟨_, rfl⟩
      rw [← hS2]
      have ec := cell_at_ok F.cell n ns (21 + k) S2
      rw [show ((21 + k : Nat) : Int) = 21 + (k : Int) from by omega] at ec
      obtain ⟨sd, r1, r2⟩ := row_ok F.row n (ns.getD (21 + k) 0) 10 S2 (by decide)
      obtain ⟨s0, _, _, h0⟩ := r1.at (k := 0) (by decide) (by decide)
      obtain ⟨s6, _, _, h6⟩ := r1.at (k := 6) (by decide) (by decide)
      obtain ⟨s7, _, _, h7⟩ := r1.at (k := 7) (by decide) (by decide)
      obtain ⟨s8, _, _, h8⟩ := r1.at (k := 8) (by decide) (by decide)
      have n1 := ht.n1
      have d1 := ht.s1
      have zok : ∀ z ∈ zs, PyData.strOk z = true := fun z hz => by
        obtain ⟨c, hc, rfl⟩ := List.mem_map.mp (q6 z hz).1
        exact name_strOk0 (hcs c hc).nm
      obtain ⟨o, mom, tk, S1, et, tm0, tm1, tc⟩ := task_ok (P := P) F.task n r1 t.names (cs := cs) (by omega) hn (S := S2) (a := S.length) (zs := zs) (by rw [hS2]; exact cell_end S _) zok (by omega) (fun z hz => by
        obtain ⟨c, hc, e⟩ := List.mem_map.mp (q6 z hz).1
        exact ⟨c, hc, e⟩)
      have fp := fm (a := s0) (b := (t.names.length : Int)) (by omega)
      have fq := fm (a := s6) (b := (t.names.length : Int)) (by omega)
      have fh := fm (a := s7) (b := (t.stands.length : Int)) (by omega)
      have f2 := fm (a := s8) (b := 2) (by decide)
      have f15 := fm (a := x17 + (k : Int)) (b := 15) (by decide)
      -- place
      obtain ⟨p, hp2⟩ : ∃ p, p = (o.getD (s0.fmod (t.names.length : Int)).toNat) := ⟨_, rfl⟩
      have po : o = none ∨ ∃ c ∈ cs, o = some c.place := by
        rcases tc with ⟨_, h, _⟩ | ⟨j, z, _, _, ⟨_, h⟩ | ⟨c, hc, _, _, h, _⟩⟩
        · exact .inl h
        · exact .inl h
        · exact .inr ⟨c, hc, h⟩
      have pl : p < t.names.length := by
        rcases po with rfl | ⟨c, hc, rfl⟩
        · rw [hp2]; show (s0.fmod _).toNat < _; omega
        · rw [hp2]; exact (hcs c hc).place
      have nmN : NameOk (nmAt t.names p) := ht.nm _ (by simp [nmAt, List.getD_eq_getElem?_getD, pl])
      have ho : (oNm t.names o = .non ∧ D.str (nmAt t.names p) = .str (nmAt t.names (s0.fmod (t.names.length : Int)).toNat)) ∨ ∃ z, oNm t.names o = .str z ∧ truthD S1 (.str z) = some true ∧ D.str (nmAt t.names p) = .str z := by
        rcases po with rfl | ⟨c, hc, rfl⟩
        · exact .inl ⟨rfl, by rw [hp2]; rfl⟩
        · refine .inr ⟨nmAt t.names p, by rw [hp2]; rfl, truth_nm nmN, rfl⟩
      -- home, post
      have hh := atI_names t.stands fh.1 fh.2
      have hpp := atI_names t.names fq.1 fq.2
      have hhm : nmAt t.stands (s7.fmod (t.stands.length : Int)).toNat ∈ t.stands := by
        have : (s7.fmod (t.stands.length : Int)).toNat < t.stands.length := by omega
        simp [nmAt, List.getD_eq_getElem?_getD, this]
      have hpm : nmAt t.names (s6.fmod (t.names.length : Int)).toNat ∈ t.names := by
        have : (s6.fmod (t.names.length : Int)).toNat < t.names.length := by omega
        simp [nmAt, List.getD_eq_getElem?_getD, this]
      obtain ⟨post', hpost, hpin⟩ : ∃ z, L2.atI [D.str (nmAt t.stands (s7.fmod (t.stands.length : Int)).toNat), .str (nmAt t.names (s6.fmod (t.names.length : Int)).toNat)] (s8.fmod 2) = some (.str z) ∧ z ∈ t.names := by
        have : s8.fmod 2 = 0 ∨ s8.fmod 2 = 1 := by omega
        rcases this with h | h
        · exact ⟨_, by rw [h]; rfl, ht.st _ hhm⟩
        · exact ⟨_, by rw [h]; rfl, hpm⟩
      have hn15 := atI_names nms (k := (x17 + (k : Int)).fmod 15) f15.1 (by omega)
      have turn := sc_turn2 (P := P) (iT := iT) (iR := iR) (iC := iC) (iN := iN) (iK := iK) (n := n + 1) (rds := .tup (t.roads.map (Road.d t.names))) (reach := .int t.reach) (nms := nms.map D.str) (cd := cs.map (Cal.d t.names)) (wd := ws.map (Wag.d t.names)) (S := S2) (S1 := S1) (sl := sl) (tn := t.names.map D.str) (std := t.stands.map D.str) (o := oNm t.names o) (pd := .str (nmAt t.names p)) (m := (t.names.length : Int)) (ms := (t.stands.length : Int)) q0 ec r2 et e17 h0 h6 h7 h8 ho
        (by rw [q_lenT, List.length_map]) (by omega) (atI_names t.names fp.1 fp.2) (by rw [q_lenT, List.length_map]) (by omega) hh hpp hpost hn15 (by rw [List.length_map]; exact lt_size (by omega))
      have wn : NameOk (nmAt nms ((x17 + (k : Int)).fmod 15).toNat) := hnm _ (by
        have : ((x17 + (k : Int)).fmod 15).toNat < nms.length := by omega
        simp [nmAt, List.getD_eq_getElem?_getD, this])
      have tko : TskOk cs now p mom tk := by
        rcases tc with ⟨rfl, _, _⟩ | ⟨j, z, hj, _, ⟨rfl, _⟩ | ⟨c, hc, h1, rfl, h2, h3⟩⟩
        · trivial
        · obtain ⟨c, hc, e⟩ := List.mem_map.mp (q6 z (List.mem_of_getElem? hj)).1
          exact ⟨c, hc, e⟩
        · exact ⟨h3, c, hc, h1, by rw [hp2, h2]; rfl⟩
      obtain ⟨w, hw⟩ : ∃ w : Wag, w = ⟨nmAt nms ((x17 + (k : Int)).fmod 15).toNat, nmAt t.stands (s7.fmod (t.stands.length : Int)).toNat, post', p, mom, tk⟩ := ⟨_, rfl⟩
      have wok : WagOk t cs now w := by rw [hw]; exact ⟨wn, hhm, hpin, pl, tm0, tm1, tko⟩
      have wnm : w.nm = nmAt nms ((x17 + (k : Int)).fmod 15).toNat := by rw [hw]
      have wtk : w.task = tk := by rw [hw]
      obtain ⟨zs', e1, e2, e3, e4, e5⟩ : ∃ zs' : List Str, S1 = S ++ [.lst (zs'.map .str)] ∧ zs'.Nodup ∧ (∀ z ∈ zs', z ∈ zs ∧ tk.nm ≠ some z) ∧ (∀ z, tk.nm = some z → z ∈ zs) ∧ zs'.length ≤ 10 := by
        rcases tc with ⟨h1, _, h2⟩ | ⟨j, z, hj, hS, hh⟩
        · exact ⟨zs, by rw [h2, hS2], q5, fun z hz => ⟨hz, by rw [h1]; simp [Tsk.nm]⟩, fun z hz => (by rw [h1] at hz; cases hz), q7⟩
        · obtain ⟨g1, g2, g3, g4⟩ := nodup_erase q5 hj
          have tz : tk.nm = some z := by
            rcases hh with ⟨h, _⟩ | ⟨c, _, _, h, _⟩ <;> rw [h] <;> rfl
          refine ⟨zs.eraseIdx j, by rw [hS, hS2, set_end], g1, fun x hx => ⟨g4 x hx, fun h => ?_⟩, fun x hx => ?_, Nat.le_trans (List.length_eraseIdx_le zs j) q7⟩
          · rw [tz] at h
            cases h
            exact g2 hx
          · rw [tz] at hx
            cases hx
            exact g3
      refine ⟨_, _, S1, by rw [bT_nm, if_pos (by simp)]; rfl, turn, hst _, .v (.lst (cs.map (Cal.d t.names))), ws ++ [w], zs', e1, ?_, .inr rfl, by simp [q1], ?_, ?_, ?_, e2, ?_, e5⟩
      · subst hw
        simp [kill, Wag.d, Town.d]
      · intro x hx
        rcases List.mem_append.mp hx with hx | hx
        · exact q2 x hx
        · simp only [List.mem_singleton] at hx
          rw [hx]; exact wok
      · rw [List.map_append, q3, List.length_append, List.length_singleton, List.range_succ, List.map_append, hk]
        simp [wnm]
      · rw [List.filterMap_append]
        refine List.nodup_append.mpr ⟨q4, ?_, ?_⟩
        · simp only [List.filterMap_cons, List.filterMap_nil, wtk]
          cases tk.nm <;> simp
        · intro x hx y hy
          simp only [List.filterMap_cons, List.filterMap_nil, wtk] at hy
          rintro rfl
          cases hq : tk.nm with
          | none => rw [hq] at hy; simp at hy
          | some z =>
            rw [hq] at hy
            simp only [List.mem_singleton] at hy
            subst hy
            exact (q6 _ (e4 _ hq)).2 hx
      · intro z hz
        obtain ⟨h1, h2⟩ := e3 z hz
        obtain ⟨h3, h4⟩ := q6 z h1
        refine ⟨h3, ?_⟩
        rw [List.filterMap_append]
        intro hin
        rcases List.mem_append.mp hin with hin | hin
        · exact h4 hin
        · simp only [List.filterMap_cons, List.filterMap_nil, wtk] at hin
          cases hq : tk.nm with
          | none => rw [hq] at hin; simp at hin
          | some y =>
            rw [hq] at hin
            simp only [List.mem_singleton] at hin
            subst hin
            exact h2 hq)
  simp only [List.nil_append, List.length_range] at q1 q3
  exact ⟨sl, ws, zs, q0, q1, q2, q3, q4, e⟩
end Iv
/-! Pn4: a scene drawn, whole -/
namespace Iv
open PySem
variable {P : Pg} {iT iR iC iN iK iRoad : Nat}
def Tsk.p : Tsk → PyData
  | .free => .tuple [.str (PySem.Str.ofString "free")]
  | .at_ z => .tuple [.str (PySem.Str.ofString "at"), .str z]
  | .to_ z => .tuple [.str (PySem.Str.ofString "to"), .str z]
def Cal.p (names : List Str) (c : Cal) : PyData := .tuple [.str c.nm, .str (nmAt names c.place), .int c.grade, .int c.since]
def Wag.p (names : List Str) (w : Wag) : PyData := .tuple [.str w.nm, .str w.home, .str w.post, .str (nmAt names w.place), .int w.mom, w.task.p]
theorem tsk_py (g : Nat → Option PyData) (k : Tsk) : D.py g k.d = some k.p := by cases k <;> simp [Tsk.d, Tsk.p, D.py, D.pys]
theorem cal_py (names : List Str) (g : Nat → Option PyData) (c : Cal) : D.py g (c.d names) = some (c.p names) := by simp [Cal.d, Cal.p, D.py, D.pys]
theorem wag_py (names : List Str) (g : Nat → Option PyData) (w : Wag) : D.py g (w.d names) = some (w.p names) := by simp [Wag.d, Wag.p, D.py, D.pys, tsk_py]
theorem sortable_map {α : Type} (p : α → PyData) (al : ∀ a b, W.alike (p a) (p b) = true) (tu : ∀ a, ∃ x xs, p a = .tuple (x :: xs)) (dp : ∀ a, (p a).depth ≤ 64) (l : List α) : sortable (l.map p) = true := by
  unfold sortable
  simp only [Bool.and_eq_true, Bool.or_eq_true, List.all_eq_true, decide_eq_true_eq]
  refine ⟨⟨fun x hx y hy => ?_, .inl fun x hx => ?_⟩, fun x hx => ?_⟩
  · obtain ⟨a, _, rfl⟩ := List.mem_map.mp hx
    obtain ⟨b, _, rfl⟩ := List.mem_map.mp hy
    exact al a b
  · obtain ⟨a, _, rfl⟩ := List.mem_map.mp hx
    obtain ⟨x, xs, e⟩ := tu a
    rw [e]
  · obtain ⟨a, _, rfl⟩ := List.mem_map.mp hx
    exact dp a
theorem q_sortCal (S : Sto) (names : List Str) (l : List Cal) (hz : l.length ≤ sizeLine) : primD S .sorted [.lst (l.map (Cal.d names))] = some (.ol ((l.mergeSort (dleG (Cal.p names))).map (Cal.d names))) :=
  q_sortG S (Cal.d names) (Cal.p names) (cal_py names) l (sortable_map _ (fun a b => by simp [Cal.p, W.alike, W.alikeAll]) (fun a => ⟨_, _, rfl⟩) (fun a => by simp [Cal.p, PyData.depth, PyData.depthAll]) l) (fun a => by simp [Cal.p, PyData.hasDict, PyData.hasDictAll]) hz
theorem q_sortWag (S : Sto) (names : List Str) (l : List Wag) (hz : l.length ≤ sizeLine) : primD S .sorted [.lst (l.map (Wag.d names))] = some (.ol ((l.mergeSort (dleG (Wag.p names))).map (Wag.d names))) :=
  q_sortG S (Wag.d names) (Wag.p names) (wag_py names) l (sortable_map _ (fun a b => by
    have : W.alike a.task.p b.task.p = true := by cases a.task <;> cases b.task <;> simp [Tsk.p, W.alike, W.alikeAll]
    simp [Wag.p, W.alike, W.alikeAll, this]) (fun a => ⟨_, _, rfl⟩) (fun a => by
    have : a.task.p.depth ≤ 5 := by cases a.task <;> simp [Tsk.p, PyData.depth, PyData.depthAll]
    simp [Wag.p, PyData.depth, PyData.depthAll]
    omega) l) (fun a => by
    have : a.task.p.hasDict = false := by cases a.task <;> simp [Tsk.p, PyData.hasDict, PyData.hasDictAll]
    simp [Wag.p, PyData.hasDict, PyData.hasDictAll, this]) hz
structure SceneOk (t : Town) (now : Int) (ws : List Wag) (cs : List Cal) : Prop where
  n0 : 0 ≤ now
  n1 : now ≤ 1000000
  c10 : cs.length ≤ 10
  w5 : ws.length ≤ 5
  cOk : ∀ c ∈ cs, CalOk t.names.length now c
  wOk : ∀ w ∈ ws, WagOk t cs now w
  cNd : (cs.map Cal.nm).Nodup
  wNd : (ws.map Wag.nm).Nodup
  tNd : (ws.filterMap fun w => w.task.nm).Nodup
  cSo : cs.mergeSort (dleG (Cal.p t.names)) = cs
  wSo : ws.mergeSort (dleG (Wag.p t.names)) = ws
theorem TskOk.perm {cs cs' : List Cal} (h : ∀ c, c ∈ cs → c ∈ cs') {now : Int} {p : Nat} {m : Int} {k : Tsk} (hk : TskOk cs now p m k) : TskOk cs' now p m k := by
  cases k with
  | free => trivial
  | at_ z => obtain ⟨h1, c, h2, h3⟩ := hk; exact ⟨h1, c, h _ h2, h3⟩
  | to_ z => obtain ⟨c, h2, h3⟩ := hk; exact ⟨c, h _ h2, h3⟩
theorem sc_head {n : Nat} {S S2 : Sto} {nd rd nms items1 items2 cd cn wd wd2 cd2 : List D} {td : D} {c x12 x13 x14 x16 now : Int} {sl : Slot} (hsl : sl = .ol cd ∨ sl = .v (.lst cd))
    (et : callF P n iT [.lst nd, .int 0] S = .ok (.v td) S) (e0 : callF P n iC [.lst nd, .int 20] S = .ok (.v (.int c)) S) (e1 : callF P n iR [.int c, .int 20] S = .ok (.ol rd) S) (e2 : callF P n iN [.lst rd, .int 15] S = .ok (.ol nms) S)
    (h12 : L2.atI rd 12 = some (.int x12)) (h13 : L2.atI rd 13 = some (.int x13)) (h14 : L2.atI rd 14 = some (.int x14)) (h16 : L2.atI rd 16 = some (.int x16))
    (en : L2.atI [D.int (x12.fmod 30), .int x12, .int 1000000] (x13.fmod 3) = some (.int now)) (it1 : itemsD S .range1 [.int (x14.fmod 11)] = some items1) (it2 : itemsD (S ++ [.lst cn]) .range1 [.int (x16.fmod 6)] = some items2)
    (loop1 : forLoop (.nm 6) (evSs P (callF P n) (makeF P n) (Sh.b1__law_scene iT iR iC iN iK)) [6, 7, 8, 9] (stays S [.int (x14.fmod 11)]) items1 [.v (.lst nd), .v td, .v (.lst rd), .ol nms, .v (.int now), .ol [], .no, .no, .no, .no, .no, .no, .no, .no, .no, .no, .no, .no] S =
      .ok .next [.v (.lst nd), .v td, .v (.lst rd), .ol nms, .v (.int now), .ol cd, .no, .no, .no, .no, .no, .no, .no, .no, .no, .no, .no, .no] S)
    (lc : evE P (callF P n) (makeF P n) (.lc (Sh.e1__law_scene iT iR iC iN iK) (.nm 17) .seq [(.var 5)] [] [17]) [.v (.lst nd), .v td, .v (.lst rd), .ol nms, .v (.int now), .ol cd, .no, .no, .no, .no, .no, .no, .no, .no, .no, .no, .no, .no] S = .ok (.ol cn) [.v (.lst nd), .v td, .v (.lst rd), .ol nms, .v (.int now), .v (.lst cd), .no, .no, .no, .no, .no, .no, .no, .no, .no, .no, .no, .no] S)
    (loop2 : forLoop (.nm 6) (evSs P (callF P n) (makeF P n) (Sh.b2__law_scene iT iR iC iN iK)) [6, 7, 12, 13, 14, 15, 16] (stays (S ++ [.lst cn]) [.int (x16.fmod 6)]) items2 [.v (.lst nd), .v td, .v (.lst rd), .ol nms, .v (.int now), .v (.lst cd), .no, .no, .no, .no, .v (.ref S.length), .ol [], .no, .no, .no, .no, .no, .no] (S ++ [.lst cn]) =
      .ok .next [.v (.lst nd), .v td, .v (.lst rd), .ol nms, .v (.int now), sl, .no, .no, .no, .no, .v (.ref S.length), .ol wd, .no, .no, .no, .no, .no, .no] S2)
    (so1 : primD S2 .sorted [.lst wd] = some (.ol wd2)) (so2 : primD S2 .sorted [.lst cd] = some (.ol cd2)) :
    finR (evSs P (callF P n) (makeF P n) (Sh.f__law_scene iT iR iC iN iK).body [.v (.lst nd), .no, .no, .no, .no, .no, .no, .no, .no, .no, .no, .no, .no, .no, .no, .no, .no, .no] S) = .ok (.v (.tup [td, .int now, .lst wd2, .lst cd2])) S2 := by
  have z3 : (3 : Nat) ≤ sizeLine := le_size (by decide)
  have z4 : (4 : Nat) ≤ sizeLine := le_size (by decide)
  have pw : powOk 10 6 = true := by decide +kernel
  simp only [Sh.f__law_scene]
  rw [ss_n (ρ1 := [.v (.lst nd), .v td, .no, .no, .no, .no, .no, .no, .no, .no, .no, .no, .no, .no, .no, .no, .no, .no]) (S1 := S) (by simp [et])]
  rw [ss_n (ρ1 := [.v (.lst nd), .v td, .ol rd, .no, .no, .no, .no, .no, .no, .no, .no, .no, .no, .no, .no, .no, .no, .no]) (S1 := S) (by simp [e0, e1])]
  rw [ss_n (ρ1 := [.v (.lst nd), .v td, .v (.lst rd), .ol nms, .no, .no, .no, .no, .no, .no, .no, .no, .no, .no, .no, .no, .no, .no]) (S1 := S) (by simp [e2])]
  rw [ss_n (ρ1 := [.v (.lst nd), .v td, .v (.lst rd), .ol nms, .v (.int now), .no, .no, .no, .no, .no, .no, .no, .no, .no, .no, .no, .no, .no]) (S1 := S) (by simp [h12, h13, en, z3, pw])]
  rw [ss_n (ρ1 := [.v (.lst nd), .v td, .v (.lst rd), .ol nms, .v (.int now), .ol [], .no, .no, .no, .no, .no, .no, .no, .no, .no, .no, .no, .no]) (S1 := S) (by simp)]
  rw [ss_n (ρ1 := [.v (.lst nd), .v td, .v (.lst rd), .ol nms, .v (.int now), .ol cd, .no, .no, .no, .no, .no, .no, .no, .no, .no, .no, .no, .no]) (S1 := S) (by
    simp [h14, it1, kill]
    exact loop1)]
  rw [ss_n (ρ1 := [.v (.lst nd), .v td, .v (.lst rd), .ol nms, .v (.int now), .v (.lst cd), .no, .no, .no, .no, .v (.ref S.length), .no, .no, .no, .no, .no, .no, .no]) (S1 := S ++ [.lst cn]) (by
    rw [xS_asg, xE_box, lc]
    rfl)]
  rw [ss_n (ρ1 := [.v (.lst nd), .v td, .v (.lst rd), .ol nms, .v (.int now), .v (.lst cd), .no, .no, .no, .no, .v (.ref S.length), .ol [], .no, .no, .no, .no, .no, .no]) (S1 := S ++ [.lst cn]) (by simp)]
  rw [ss_n (ρ1 := [.v (.lst nd), .v td, .v (.lst rd), .ol nms, .v (.int now), sl, .no, .no, .no, .no, .v (.ref S.length), .ol wd, .no, .no, .no, .no, .no, .no]) (S1 := S2) (by
    simp [h16, it2, kill]
    exact loop2)]
  rcases hsl with rfl | rfl <;> simp [so1, so2, z4]
theorem scene_ok (F : SceneFns P iT iR iC iN iK iRoad) {i : Nat} (hP : P.fns[i]? = some (Sh.f__law_scene iT iR iC iN iK)) (n : Nat) (ns : List Int) (S : Sto) :
    ∃ (t : Town) (now : Int) (ws : List Wag) (cs : List Cal) (c : Cell), TownOk t ∧ SceneOk t now ws cs ∧ callF P (n + 3) i [.lst (ns.map .int)] S = .ok (.v (.tup [t.d, .int now, .lst (ws.map (Wag.d t.names)), .lst (cs.map (Cal.d t.names))])) (S ++ [c]) := by
  rw [run_def hP rfl]
  obtain ⟨t, ht, et⟩ := town_ok F.toTownFns F.town n ns 0 S
  have ec := cell_at_ok F.cell (n + 1) ns 20 S
  obtain ⟨rs, hr, er⟩ := row_ok F.row (n + 1) (ns.getD 20 0) 20 S (by decide)
  obtain ⟨x12, a12, b12, h12⟩ := hr.at (k := 12) (by decide) (by decide)
  obtain ⟨x13, a13, b13, h13⟩ := hr.at (k := 13) (by decide) (by decide)
  obtain ⟨x14, a14, b14, h14⟩ := hr.at (k := 14) (by decide) (by decide)
  obtain ⟨x16, a16, b16, h16⟩ := hr.at (k := 16) (by decide) (by decide)
  obtain ⟨x17, a17, b17, h17⟩ := hr.at (k := 17) (by decide) (by decide)
  obtain ⟨nms, n1, n2, n3, en⟩ := names_ok F.names (n + 1) hr (Nat.le_refl _) (by decide) 15 (by decide) (by decide) S
  have f13 := fm (a := x13) (b := 3) (by decide)
  have f30 := fm (a := x12) (b := 30) (by decide)
  have f14 := fm (a := x14) (b := 11) (by decide)
  have f16 := fm (a := x16) (b := 6) (by decide)
  obtain ⟨now, hnow, enow⟩ : ∃ now : Int, (0 ≤ now ∧ now ≤ 1000000) ∧ L2.atI [D.int (x12.fmod 30), .int x12, .int 1000000] (x13.fmod 3) = some (.int now) := by
    rw [pick3 _ _ _ f13.1 f13.2]
    split
    · exact ⟨_, by omega, rfl⟩
    · split
      · exact ⟨_, by omega, rfl⟩
      · exact ⟨_, by omega, rfl⟩
  obtain ⟨m1, hm1⟩ : ∃ m : Nat, (m : Int) = x14.fmod 11 := ⟨(x14.fmod 11).toNat, by omega⟩
  obtain ⟨m2, hm2⟩ : ∃ m : Nat, (m : Int) = x16.fmod 6 := ⟨(x16.fmod 6).toNat, by omega⟩
  obtain ⟨cs, c1, c2, c3, loop1⟩ := sc_loop1 F (n := n + 1) (S := S) (ns := ns) hr ht n1 n3 hnow.1 m1 (by omega) (st := stays S [.int (x14.fmod 11)]) rfl
  have cnd : (cs.map Cal.nm).Nodup := by rw [c3]; exact n2.sublist (List.take_sublist _ _)
  have lc := lc_map0 P (callF P (n + 2)) (makeF P (n + 2)) [.v (.lst (ns.map .int)), .v t.d, .v (.lst (rs.map .int)), .ol (nms.map .str), .v (.int now), .v (.lst (cs.map (Cal.d t.names))), .no, .no, .no, .no, .no, .no, .no, .no, .no, .no, .no, .no] S (i := 17) (elt := Sh.e1__law_scene iT iR iC iN iK) (k := .seq) (its := [.var 5]) (ds := [.lst (cs.map (Cal.d t.names))])
    (ρ0 := [.v (.lst (ns.map .int)), .v t.d, .v (.lst (rs.map .int)), .ol (nms.map .str), .v (.int now), .ol (cs.map (Cal.d t.names)), .no, .no, .no, .no, .no, .no, .no, .no, .no, .no, .no, .no]) (Cal.d t.names) (fun c => .str c.nm) cs rfl (by simp) rfl rfl (le_size (by omega)) (fun c _ => ⟨.v (.str c.nm), by simp [Sh.e1__law_scene, Cal.d], rfl⟩)
  obtain ⟨sl, ws, zs, s1, w1, w2, w3, w4, loop2⟩ := sc_loop2 F (n := n + 1) (S := S) (ns := ns) hr ht n1 n3 hnow.1 c2 (by omega) cnd h17 m2 (by omega) (sl0 := .v (.lst (cs.map (Cal.d t.names)))) (.inr rfl) (st := stays (S ++ [.lst ((cs.map Cal.nm).map .str)]) [.int (x16.fmod 6)]) (fun _ => rfl)
  rw [List.map_map] at loop2
  have head := sc_head (P := P) (iT := iT) (iR := iR) (iC := iC) (iN := iN) (iK := iK) (n := n + 2) (S := S) (nd := ns.map D.int) (cn := cs.map (D.str ∘ Cal.nm)) s1 et ec er en h12 h13 h14 h16 enow (by rw [← hm1]; exact it_range1 S m1 (by omega)) (by rw [← hm2]; exact it_range1 _ m2 (by omega)) loop1 lc loop2
    (q_sortWag _ t.names ws (le_size (by omega))) (q_sortCal _ t.names cs (le_size (by omega)))
  have wnd : (ws.map Wag.nm).Nodup := by
    rw [w3]
    refine nodup_map_range _ m2 fun k j hk hj e => ?_
    have fk := fm (a := x17 + (k : Int)) (b := 15) (by decide)
    have fj := fm (a := x17 + (j : Int)) (b := 15) (by decide)
    have := (nm_inj n2 (a := ((x17 + (k : Int)).fmod 15).toNat) (b := ((x17 + (j : Int)).fmod 15).toNat) (by omega) (by omega)).mp e
    rw [Int.fmod_eq_emod_of_nonneg _ (by decide)] at this fk
    rw [Int.fmod_eq_emod_of_nonneg _ (by decide)] at this fj
    omega
  have pc := List.mergeSort_perm cs (dleG (Cal.p t.names))
  have pw := List.mergeSort_perm ws (dleG (Wag.p t.names))
  refine ⟨t, now, ws.mergeSort (dleG (Wag.p t.names)), cs.mergeSort (dleG (Cal.p t.names)), _, ht, ⟨hnow.1, hnow.2, ?_, ?_, fun c hc => c2 c (pc.mem_iff.mp hc), fun w hw => ?_, ?_, ?_, ?_, sortG_again _ _, sortG_again _ _⟩, head⟩
  · rw [List.length_mergeSort]; omega
  · rw [List.length_mergeSort]; omega
  · have h := w2 w (pw.mem_iff.mp hw)
    exact ⟨h.nm, h.home, h.post, h.place, h.m0, h.m1, h.task.perm fun c hc => pc.mem_iff.mpr hc⟩
  · exact (pc.map _).nodup_iff.mpr cnd
  · exact (pw.map _).nodup_iff.mpr wnd
  · exact (pw.filterMap _).nodup_iff.mpr w4
end Iv
/-! Pn5: how far a wagon is -/
namespace Iv
open PySem
variable {P : Pg}
def farV (now mom : Int) (o : Option Int) : Option Int := o.map fun m => (if mom - now > 0 then mom - now else 0) + m
theorem far_gen {n iM : Nat} {S : Sto} {td ch pl wp w0 w1 w2 w5 : D} {now mom : Int} {o : Option Int} (e : callF P n iM [td, ch, wp, pl] S = .ok (.v (oD o)) S) :
    finR (evSs P (callF P n) (makeF P n) (Sh.f_far iM).body [.v td, .v ch, .v (.int now), .v (.tup [w0, w1, w2, wp, .int mom, w5]), .v pl, .no] S) = .ok (.v (oD (farV now mom o))) S := by
  cases o with
  | none =>
    have e : callF P n iM [td, ch, wp, pl] S = .ok (.v .non) S := e
    simp [Sh.f_far, e, farV, oD]
  | some m =>
    have e : callF P n iM [td, ch, wp, pl] S = .ok (.v (.int m)) S := e
    simp [Sh.f_far, e, farV, oD]
theorem far_ok {i iM : Nat} (hM : P.fns[iM]? = some Sh.f_minutes_to) (hP : P.fns[i]? = some (Sh.f_far iM)) (n : Nat) {t : Town} (ht : TownOk t) (M : Mx) {w : Wag} (hw : w.place < t.names.length) {g : Nat} (hg : g < t.names.length) (now : Int) (S : Sto) :
    callF P (n + 2) i [t.d, chD t.names.length M, .int now, w.d t.names, .str (nmAt t.names g)] S = .ok (.v (oD (farV now w.mom (M g w.place)))) S := by
  rw [run_def hP rfl]
  exact far_gen (minutes_to_ok hM n ht M hw hg S)
theorem lfar_gen {n : Nat} {S : Sto} {td0 td1 td2 td3 pl wp w0 w1 w2 w5 : D} {rows row : List D} {now mom g p : Int} {o : Option Int} (e1 : primD S .index [td0, pl] = some (.v (.int g))) (e2 : primD S .index [td0, wp] = some (.v (.int p))) (e3 : L2.atI rows g = some (.tup row)) (e4 : L2.atI row p = some (oD o)) (ow : ownOk S .index td0 = true) :
    finR (evSs P (callF P n) (makeF P n) Sh.f__law_far.body [.v (.tup [td0, td1, td2, td3]), .v (.tup rows), .v (.int now), .v (.tup [w0, w1, w2, wp, .int mom, w5]), .v pl, .no] S) = .ok (.v (oD (farV now mom o))) S := by
  cases o with
  | none =>
    have e4 : L2.atI row p = some .non := e4
    simp [Sh.f__law_far, e1, e2, e3, e4, ow, farV, oD]
  | some m =>
    have e4 : L2.atI row p = some (.int m) := e4
    by_cases h : now < mom
    · have h2 : mom - now > 0 := by omega
      have h3 : m + mom - now = mom - now + m := by omega
      simp [Sh.f__law_far, e1, e2, e3, e4, ow, farV, oD, h, h3]
    · have h2 : ¬ mom - now > 0 := by omega
      simp [Sh.f__law_far, e1, e2, e3, e4, ow, farV, oD, h]
theorem law_far_ok {i : Nat} (hP : P.fns[i]? = some Sh.f__law_far) (n : Nat) {t : Town} (ht : TownOk t) (M : Mx) {w : Wag} (hw : w.place < t.names.length) {g : Nat} (hg : g < t.names.length) (now : Int) (S : Sto) :
    callF P (n + 1) i [t.d, chD t.names.length M, .int now, w.d t.names, .str (nmAt t.names g)] S = .ok (.v (oD (farV now w.mom (M g w.place)))) S := by
  rw [run_def hP rfl]
  exact lfar_gen (td0 := .tup (t.names.map .str)) (g := (g : Int)) (p := (w.place : Int)) (by rw [q_index, nm_idx ht.nd hg]; rfl) (by rw [q_index, nm_idx ht.nd hw]; rfl) (ch_at hg) (row_at hw) rfl
end Iv
/-! Pn6: calls by names, whether a wagon may be sent -/
namespace Iv
open PySem
variable {P : Pg}
section
variable (P : Pg) (cf cm : Nat → List D → Sto → ResF) (ρ : Env) (S : Sto)
end
theorem cn_loop {n : Nat} {S : Sto} {x0 : Slot} {names : List Str} {z : Str} {st : Sto → Bool} (hst : st S = true) : ∀ cs : List Cal,
    forLoop (.nm 2) (evSs P (callF P n) (makeF P n) Sh.b1_call_named) [2] st (cs.map (Cal.d names)) [x0, .v (.str z), .no] S =
    match cs.find? (fun c => decide (c.nm = z)) with
    | some c => .ok (.ret (.v (c.d names))) [x0, .v (.str z), .v (c.d names)] S
    | none => .ok .next [x0, .v (.str z), .no] S
  | [] => rfl
  | c :: cs => by
    have hb : bindT (.nm 2) (c.d names) [x0, .v (.str z), .no] = some [x0, .v (.str z), .v (c.d names)] := by rw [bT_nm, if_pos (by simp)]; rfl
    by_cases h : c.nm = z
    · have hr : evSs P (callF P n) (makeF P n) Sh.b1_call_named [x0, .v (.str z), .v (c.d names)] S = .ok (.ret (.v (c.d names))) [x0, .v (.str z), .v (c.d names)] S := by simp [Sh.b1_call_named, Cal.d, h]
      rw [List.map_cons, List.find?_cons_of_pos (by simpa using h)]
      simp only [forLoop, hb, hr]
    · have hr : evSs P (callF P n) (makeF P n) Sh.b1_call_named [x0, .v (.str z), .v (c.d names)] S = .ok .next [x0, .v (.str z), .v (c.d names)] S := by simp [Sh.b1_call_named, Cal.d, h]
      rw [List.map_cons, List.find?_cons_of_neg (by simpa using h), for_1 hb hr hst]
      exact cn_loop hst cs
theorem call_named_ok {i : Nat} (hP : P.fns[i]? = some Sh.f_call_named) (n : Nat) {names : List Str} {cs : List Cal} {sd : D} (hsd : sd = .lst (cs.map (Cal.d names)) ∨ sd = .tup (cs.map (Cal.d names))) {z : Str} {c : Cal} (hc : cs.find? (fun c => decide (c.nm = z)) = some c) (S : Sto) :
    callF P (n + 1) i [sd, .str z] S = .ok (.v (c.d names)) S := by
  rw [run_def hP rfl]
  show finR (evSs P (callF P n) (makeF P n) Sh.f_call_named.body [.v sd, .v (.str z), .no] S) = _
  have l := cn_loop (P := P) (n := n) (S := S) (x0 := .v sd) (names := names) (z := z) (st := stays S [sd]) (by rcases hsd with rfl | rfl <;> rfl) cs
  rw [hc] at l
  simp only [Sh.f_call_named]
  rw [ss_r (r := .v (c.d names)) (ρ1 := [.v sd, .v (.str z), .v (c.d names)]) (S1 := S) (by
    rcases hsd with rfl | rfl
    · simp [kill]
      exact l
    · simp [kill]
      exact l)]
  rfl
theorem cn_none_ok {i : Nat} (hP : P.fns[i]? = some Sh.f_call_named) (n : Nat) {names : List Str} {cs : List Cal} {sd : D} (hsd : sd = .lst (cs.map (Cal.d names)) ∨ sd = .tup (cs.map (Cal.d names))) {z : Str} (hc : cs.find? (fun c => decide (c.nm = z)) = none) (S : Sto) :
    callF P (n + 1) i [sd, .str z] S = .ok (.v .non) S := by
  rw [run_def hP rfl]
  show finR (evSs P (callF P n) (makeF P n) Sh.f_call_named.body [.v sd, .v (.str z), .no] S) = _
  have l := cn_loop (P := P) (n := n) (S := S) (x0 := .v sd) (names := names) (z := z) (st := stays S [sd]) (by rcases hsd with rfl | rfl <;> rfl) cs
  rw [hc] at l
  simp only [Sh.f_call_named]
  rw [ss_n (ρ1 := [.v sd, .v (.str z), .no]) (S1 := S) (by
    rcases hsd with rfl | rfl
    · simp [kill]
      exact l
    · simp [kill]
      exact l)]
  simp
/-! ### tasks -/
abbrev freeS : Str := PySem.Str.ofString "free"
abbrev atS : Str := PySem.Str.ofString "at"
abbrev toS : Str := PySem.Str.ofString "to"
@[simp] theorem at_free : decide (atS = freeS) = false := by decide +kernel
@[simp] theorem to_free : decide (toS = freeS) = false := by decide +kernel
@[simp] theorem to_at : decide (toS = atS) = false := by decide +kernel
@[simp] theorem at_to : decide (atS = toS) = false := by decide +kernel
theorem at_ne_free : (atS == freeS) = false := by decide +kernel
theorem to_ne_free : (toS == freeS) = false := by decide +kernel
def Tsk.sOk (k : Tsk) : Prop := ∀ z, k.nm = some z → PyData.strOk z = true
theorem pl_task {k : Tsk} (h : k.sOk) (n : Nat) : D.pl (n + 1) k.d = true := by
  have f : PyData.strOk freeS = true := by decide +kernel
  have a : PyData.strOk atS = true := by decide +kernel
  have t : PyData.strOk toS = true := by decide +kernel
  cases k with
  | free => simp [Tsk.d, D.pl, D.pls, f]
  | at_ z => simp [Tsk.d, D.pl, D.pls, a, h z rfl]
  | to_ z => simp [Tsk.d, D.pl, D.pls, t, h z rfl]
theorem eqv_free (k : Tsk) : D.eqv k.d freeD = decide (k = .free) := by
  have a := at_ne_free
  have t := to_ne_free
  cases k with
  | free => simp [Tsk.d, D.eqv, D.eqvs]
  | at_ z => simp [Tsk.d, D.eqv, D.eqvs]
  | to_ z => simp [Tsk.d, D.eqv, D.eqvs]
theorem eq_free {S : Sto} {k : Tsk} (h : k.sOk) : cmpD S .Eq k.d freeD = some (decide (k = .free)) := by
  rw [cEqP (pl_task h 63) (show D.pl 64 freeD = true by decide +kernel), eqv_free]
theorem ne_free {S : Sto} {k : Tsk} (h : k.sOk) : cmpD S .NotEq k.d freeD = some (!decide (k = .free)) := by
  rw [cNeP (pl_task h 63) (show D.pl 64 freeD = true by decide +kernel), eqv_free]
/-- whether a wagon of this task may be sent -/
def mayB (cs : List Cal) (z : Str) : Tsk → Bool
  | .free => true
  | .at_ _ => false
  | .to_ y => if y = z then false else match cs.find? (fun c => decide (c.nm = y)), cs.find? (fun c => decide (c.nm = z)) with
    | some a, some b => decide (b.grade < a.grade)
    | _, _ => false
theorem may_ok {i iN gF : Nat} (hN : P.fns[iN]? = some Sh.f_call_named) (hP : P.fns[i]? = some (Sh.f_may_be_sent gF iN)) (hF : P.glo[gF]? = some freeD) (n : Nat) {names : List Str} {cs : List Cal} {sd : D} (hsd : sd = .lst (cs.map (Cal.d names)) ∨ sd = .tup (cs.map (Cal.d names))) {w : Wag} (hs : w.task.sOk)
    (ht : ∀ y, w.task = .to_ y → ∃ a, cs.find? (fun c => decide (c.nm = y)) = some a) {z : Str} {b : Cal} (hb : cs.find? (fun c => decide (c.nm = z)) = some b) (S : Sto) :
    callF P (n + 2) i [sd, w.d names, .str z] S = .ok (.v (.bl (mayB cs z w.task))) S := by
  rw [run_def hP rfl]
  show finR (evSs P (callF P (n + 1)) (makeF P (n + 1)) (Sh.f_may_be_sent gF iN).body [.v sd, .v (w.d names), .v (.str z), .no] S) = _
  have ef := eq_free (S := S) hs
  simp only [Wag.d]
  cases hk : w.task with
  | free =>
    rw [hk] at ef
    simp [Sh.f_may_be_sent, hF, ef, mayB]
  | at_ y =>
    rw [hk] at ef
    simp only [Tsk.d] at *
    simp [Sh.f_may_be_sent, hF, ef, mayB]
  | to_ y =>
    rw [hk] at ef
    simp only [Tsk.d] at *
    have q := to_at
    by_cases h : y = z
    · subst h
      simp [Sh.f_may_be_sent, hF, ef, mayB]
    · obtain ⟨a, ha⟩ := ht y hk
      have e1 := call_named_ok hN n hsd ha S
      have e2 := call_named_ok hN n hsd hb S
      rw [Cal.d] at e1 e2
      simp only [mayB, if_neg h, ha, hb]
      simp [Sh.f_may_be_sent, hF, ef, h, e1, e2]
/-! ### a dict of pairs -/
theorem pairs_map {α : Type} (f : α → Str) (g : α → D) : ∀ l : List α, pairsOf (l.map fun a => .tup [.str (f a), g a]) = some (l.map fun a => (D.str (f a), g a))
  | [] => rfl
  | a :: l => by
    rw [List.map_cons, pairsOf, if_pos (by rfl), pairs_map f g l]; rfl
theorem getK_foldN {α : Type} (f : α → Str) (g : α → D) (z : Str) : ∀ (l : List α) (kvs : List (D × D)), (l.map f).Nodup → getK ((l.map fun a => (D.str (f a), g a)).foldl (fun acc kv => putK acc kv.1 kv.2) kvs) (.str z) = match l.find? (fun a => decide (f a = z)) with
    | some a => some (g a)
    | none => getK kvs (.str z)
  | [], kvs, _ => rfl
  | a :: l, kvs, hn => by
    have hn := List.nodup_cons.mp (show (f a :: l.map f).Nodup from hn)
    rw [List.map_cons, List.foldl_cons, getK_foldN f g z l _ hn.2]
    by_cases h : f a = z
    · rw [List.find?_cons_of_pos (by simpa using h)]
      have : l.find? (fun a => decide (f a = z)) = none := List.find?_eq_none.mpr fun b hb hf => hn.1 (by
        rw [h, ← of_decide_eq_true hf]
        exact List.mem_map_of_mem hb)
      rw [this]
      show getK (putK kvs (.str (f a)) (g a)) (.str z) = _
      rw [getK_putK, if_pos h]
    · rw [List.find?_cons_of_neg (by simpa using h)]
      cases l.find? (fun a => decide (f a = z)) with
      | some b => rfl
      | none =>
        show getK (putK kvs (.str (f a)) (g a)) (.str z) = _
        rw [getK_putK, if_neg h]
theorem q_dictN {α : Type} (S : Sto) (f : α → Str) (g : α → D) (l : List α) (hn : (l.map f).Nodup) : ∃ kvs, primD S .dict [.lst (l.map fun a => .tup [.str (f a), g a])] = some (.od false kvs) ∧ ∀ z, getK kvs (.str z) = (l.find? fun a => decide (f a = z)).map g := by
  refine ⟨(l.map fun a => (D.str (f a), g a)).foldl (fun acc kv => putK acc kv.1 kv.2) [], ?_, fun z => ?_⟩
  · show p_dict S [.lst (l.map fun a => .tup [.str (f a), g a])] = _
    show ((lstD S (.lst (l.map fun a => .tup [.str (f a), g a]))).bind fun ys => (pairsOf ys).map fun ps => R.od false (ps.foldl (fun acc kv => putK acc kv.1 kv.2) [])) = _
    rw [show lstD S (.lst (l.map fun a => D.tup [.str (f a), g a])) = some (l.map fun a => D.tup [.str (f a), g a]) from rfl, Option.bind_some, pairs_map]
    rfl
  · rw [getK_foldN f g z l [] hn]
    cases l.find? (fun a => decide (f a = z)) <;> rfl
theorem lmay_lc {n : Nat} {S : Sto} {ρ : Env} {names : List Str} {cs : List Cal} {sd : D} (hsd : sd = .lst (cs.map (Cal.d names)) ∨ sd = .tup (cs.map (Cal.d names))) (hz : cs.length ≤ 1000) (h0 : ρ[0]? = some (.v sd)) (h4 : ρ[4]? = some .no) :
    evE P (callF P n) (makeF P n) (.lc Sh.e1__law_may (.nm 4) .seq [(.var 0)] [] [4]) ρ S = .ok (.ol (cs.map fun c => .tup [.str c.nm, .int c.grade])) ρ S := by
  have z2 : (2 : Nat) ≤ sizeLine := le_size (by decide)
  have hl : 4 < ρ.length := (List.getElem?_eq_some_iff.mp h4).1
  have e4 : ∀ x, (ρ.set 4 x)[4]? = some x := fun x => by rw [List.getElem?_set_self hl]
  refine lc_map P _ _ ρ S (ds := [sd]) (Cal.d names) (fun c => .tup [.str c.nm, .int c.grade]) cs h4 (by simp [h0]) (by rcases hsd with rfl | rfl <;> rfl) (by rcases hsd with rfl | rfl <;> rfl) (le_size hz) (fun c _ => ?_)
  exact ⟨.v (.tup [.str c.nm, .int c.grade]), by simp [Sh.e1__law_may, e4, Cal.d, z2], rfl⟩
theorem law_may_ok {i : Nat} (hP : P.fns[i]? = some Sh.f__law_may) (n : Nat) {names : List Str} {cs : List Cal} (hz : cs.length ≤ 1000) (hn : (cs.map Cal.nm).Nodup) {sd : D} (hsd : sd = .lst (cs.map (Cal.d names)) ∨ sd = .tup (cs.map (Cal.d names))) {w : Wag} (hs : w.task.sOk)
    (ht : ∀ y, w.task = .to_ y → ∃ a, cs.find? (fun c => decide (c.nm = y)) = some a) {z : Str} {b : Cal} (hb : cs.find? (fun c => decide (c.nm = z)) = some b) (S : Sto) :
    callF P (n + 1) i [sd, w.d names, .str z] S = .ok (.v (.bl (mayB cs z w.task))) S := by
  rw [run_def hP rfl]
  show finR (evSs P (callF P n) (makeF P n) Sh.f__law_may.body [.v sd, .v (w.d names), .v (.str z), .no, .no] S) = _
  have lc := lmay_lc (P := P) (n := n) (S := S) (ρ := [.v sd, .v (w.d names), .v (.str z), .no, .no]) hsd hz rfl rfl
  obtain ⟨kvs, d1, d2⟩ := q_dictN S Cal.nm (fun c => D.int c.grade) cs hn
  have st : evS P (callF P n) (makeF P n) (.asg (.nm 3) (.prim .dict [(.lc Sh.e1__law_may (.nm 4) .seq [(.var 0)] [] [4])])) [.v sd, .v (w.d names), .v (.str z), .no, .no] S = .ok .next [.v sd, .v (w.d names), .v (.str z), .od false kvs, .no] S := by
    simp only [xS_asg, xE_prim, xPs_1, xPs_0, pk_lc, toC, lc, c_ok, d_ol, d1, b_of]
    rfl
  simp only [Sh.f__law_may]
  rw [ss_n st]
  have ef := eq_free (S := S) hs
  have z1 : (1 : Nat) ≤ sizeLine := le_size (by decide)
  simp only [Wag.d]
  have ix1 : ∀ S, ixD S (.dct false kvs) (.str z) = some (.int b.grade) := fun S => by rw [ix_dct, d2, hb]; rfl
  cases hk : w.task with
  | free =>
    rw [hk] at ef
    simp [ef, mayB, z1]
  | at_ y =>
    rw [hk] at ef
    simp only [Tsk.d] at *
    simp [ef, mayB, z1]
  | to_ y =>
    rw [hk] at ef
    simp only [Tsk.d] at *
    by_cases h : y = z
    · subst h
      simp [ef, mayB, z1]
    · obtain ⟨a, ha⟩ := ht y hk
      have ix2 : ∀ S, ixD S (.dct false kvs) (.str y) = some (.int a.grade) := fun S => by rw [ix_dct, d2, ha]; rfl
      simp only [mayB, if_neg h, ha, hb]
      simp [ef, h, z1, ix1, ix2]
end Iv
/-! Pv5: comprehensions over any target -/
namespace Iv
open PySem
variable {P : Pg} {cf cm : Nat → List D → Sto → ResF}
theorem comp_TG {α : Type} {tg : Tg} {ks : List Nat} {ft : Env → Sto → Res Bool} {fe : Env → Sto → Res D} {st : Sto → Bool} {ρ : Env} {S : Sto} (hst : st S = true) (e f : α → D) (tt : α → Bool) (B : α → Env) : ∀ (as : List α) (acc : List D) (ρ' : Env), kill ks ρ' = ρ → acc.length + as.length ≤ sizeLine →
    (∀ a ∈ as, bindT tg (e a) ρ = some (B a) ∧ ft (B a) S = .ok (tt a) (B a) S ∧ (tt a = true → fe (B a) S = .ok (f a) (B a) S) ∧ kill ks (B a) = ρ) →
    ∃ ρ2, compLoop tg ks ft fe st (as.map e) acc ρ' S = .ok (acc ++ (as.filter tt).map f) ρ2 S ∧ (ρ2 = ρ' ∨ ∃ a ∈ as, ρ2 = B a)
  | [], acc, ρ', _, _, _ => ⟨ρ', by simp [compLoop], .inl rfl⟩
  | a :: as, acc, ρ', hk, hz, h => by
    obtain ⟨h1, h2, h3, h4⟩ := h a (by simp)
    simp only [List.length_cons] at hz
    cases hb : tt a with
    | false =>
      obtain ⟨ρ2, q1, q2⟩ := comp_TG hst e f tt B as acc (B a) h4 (by omega) (fun b hb => h b (by simp [hb]))
      refine ⟨ρ2, ?_, .inr ?_⟩
      · rw [List.map_cons, compLoop, hk]
        simp only [h1, h2, hb, hst, if_true]
        rw [q1]
        simp [List.filter_cons, hb]
      · rcases q2 with rfl | ⟨b, hb, rfl⟩
        · exact ⟨a, by simp, rfl⟩
        · exact ⟨b, by simp [hb], rfl⟩
    | true =>
      obtain ⟨ρ2, q1, q2⟩ := comp_TG hst e f tt B as (acc ++ [f a]) (B a) h4 (by simp; omega) (fun b hb => h b (by simp [hb]))
      refine ⟨ρ2, ?_, .inr ?_⟩
      · have hz' : acc.length < sizeLine ∧ st S = true := ⟨by omega, hst⟩
        rw [List.map_cons, compLoop, hk]
        simp only [h1, h2, hb, h3 hb, if_pos hz']
        rw [q1]
        simp [List.filter_cons, hb]
      · rcases q2 with rfl | ⟨b, hb, rfl⟩
        · exact ⟨a, by simp, rfl⟩
        · exact ⟨b, by simp [hb], rfl⟩
theorem lc_TG {α : Type} {tg : Tg} {ks : List Nat} {elt c : E} {k : Ik} {its : List E} {ds : List D} {ρ0 ρ : Env} {S : Sto} (e f : α → D) (tt : α → Bool) (B : α → Env) (as : List α) (h1 : evEs P cf cm its ρ0 S = .ok ds ρ S) (h2 : itemsD S k ds = some (as.map e)) (hs : stays S ds S = true) (hok : lcOk ks tg ds ρ S = true) (hz : as.length ≤ sizeLine) (hk : kill ks ρ = ρ) (hb : back ks ρ ρ = ρ)
    (h : ∀ a ∈ as, bindT tg (e a) ρ = some (B a) ∧ (pk c (evE P cf cm c) (B a) S).bind (fun x ρ S => .of (truthD S x) ρ S) = .ok (tt a) (B a) S ∧ (tt a = true → evE P cf cm elt (B a) S = .ok (.v (f a)) (B a) S) ∧ kill ks (B a) = ρ ∧ back ks ρ (B a) = ρ) :
    evE P cf cm (.lc elt tg k its [c] ks) ρ0 S = .ok (.ol ((as.filter tt).map f)) ρ S := by
  obtain ⟨ρ2, q1, q2⟩ := comp_TG (ft := evC P cf cm [c]) (fe := elR P cf cm elt) hs e f tt B as [] ρ hk (by simpa using hz) (fun a ha => by
    obtain ⟨h1, h2, h3, h4, _⟩ := h a ha
    exact ⟨h1, by rw [xC_1]; exact h2, fun ht => by rw [elR_eq, h3 ht]; rfl, h4⟩)
  rw [xE_lc, h1, b_ok, h2, b_of, b_ok, if_pos hok, b_of, b_ok, q1, List.nil_append]
  show Res.ok _ (back ks ρ ρ2) S = _
  rcases q2 with rfl | ⟨a, ha, rfl⟩
  · rw [hb]
  · rw [(h a ha).2.2.2.2]
theorem lc_NG {α : Type} {tg : Tg} {ks : List Nat} {elt : E} {k : Ik} {its : List E} {ds : List D} {ρ0 ρ : Env} {S : Sto} (e f : α → D) (B : α → Env) (as : List α) (h1 : evEs P cf cm its ρ0 S = .ok ds ρ S) (h2 : itemsD S k ds = some (as.map e)) (hs : stays S ds S = true) (hok : lcOk ks tg ds ρ S = true) (hz : as.length ≤ sizeLine) (hk : kill ks ρ = ρ) (hb : back ks ρ ρ = ρ)
    (h : ∀ a ∈ as, bindT tg (e a) ρ = some (B a) ∧ evE P cf cm elt (B a) S = .ok (.v (f a)) (B a) S ∧ kill ks (B a) = ρ ∧ back ks ρ (B a) = ρ) :
    evE P cf cm (.lc elt tg k its [] ks) ρ0 S = .ok (.ol (as.map f)) ρ S := by
  obtain ⟨ρ2, q1, q2⟩ := comp_TG (ft := evC P cf cm []) (fe := elR P cf cm elt) hs e f (fun _ => true) B as [] ρ hk (by simpa using hz) (fun a ha => by
    obtain ⟨h1, h2, h3, h4⟩ := h a ha
    exact ⟨h1, by rw [xC_0], fun _ => by rw [elR_eq, h2]; rfl, h3⟩)
  rw [xE_lc, h1, b_ok, h2, b_of, b_ok, if_pos hok, b_of, b_ok, q1, List.nil_append, List.filter_eq_self.mpr (fun _ _ => rfl)]
  show Res.ok _ (back ks ρ ρ2) S = _
  rcases q2 with rfl | ⟨a, ha, rfl⟩
  · rw [hb]
  · rw [(h a ha).2.2.2]
/-! ### a thing is equal to itself -/
mutual
theorem eqv_self : ∀ (d : D) (n : Nat), D.pl n d = true → D.eqv d d = true
  | .non, _, _ => by simp [D.eqv]
  | .bl _, _, _ => by simp [D.eqv]
  | .int _, _, _ => by simp [D.eqv]
  | .str _, _, _ => by simp [D.eqv]
  | .tup xs, n + 1, h => by
    simp only [D.pl] at h
    simp only [D.eqv]
    exact eqvs_self xs n h
  | .lst xs, n + 1, h => by
    simp only [D.pl] at h
    simp only [D.eqv]
    exact eqvs_self xs n h
  | .tup _, 0, h => by simp [D.pl] at h
  | .lst _, 0, h => by simp [D.pl] at h
  | .dct _ _, 0, h => by simp [D.pl] at h
  | .dct _ _, _ + 1, h => by simp [D.pl] at h
  | .ref _, 0, h => by simp [D.pl] at h
  | .ref _, _ + 1, h => by simp [D.pl] at h
  | .exc _ _, 0, h => by simp [D.pl] at h
  | .exc _ _, _ + 1, h => by simp [D.pl] at h
theorem eqvs_self : ∀ (xs : List D) (n : Nat), D.pls n xs = true → D.eqvs xs xs = true
  | [], _, _ => by simp [D.eqvs]
  | x :: xs, n, h => by
    simp only [D.pls, Bool.and_eq_true] at h
    simp only [D.eqvs, Bool.and_eq_true]
    exact ⟨eqv_self x n h.1, eqvs_self xs n h.2⟩
end
theorem eq_selfP {S : Sto} {d : D} (h : D.pl 64 d = true) : cmpD S .Eq d d = some true := by rw [cEqP h h, eqv_self d 64 h]
theorem ne_selfP {S : Sto} {d : D} (h : D.pl 64 d = true) : cmpD S .NotEq d d = some false := by rw [cNeP h h, eqv_self d 64 h]; rfl
theorem pls_map {α : Type} (n : Nat) (e : α → D) : ∀ l : List α, (∀ a ∈ l, D.pl n (e a) = true) → D.pls n (l.map e) = true
  | [], _ => by simp [D.pls]
  | a :: l, h => by
    rw [List.map_cons, D.pls, h a (by simp), pls_map n e l fun b hb => h b (by simp [hb])]; rfl
end Iv
/-! Pk43: which may be sent -/
namespace Lk43
open PySem Iv
theorem find_some {cs : List Cal} {z : Str} (h : z ∈ cs.map Cal.nm) : ∃ a, cs.find? (fun c => decide (c.nm = z)) = some a := by
  obtain ⟨c, hc, rfl⟩ := List.mem_map.mp h
  cases e : cs.find? (fun d => decide (d.nm = c.nm)) with
  | some a => exact ⟨a, rfl⟩
  | none => exact absurd (List.find?_eq_none.mp e c hc) (by simp)
theorem q_isBoolB (S : Sto) (b : Bool) : primD S (.isi ["bool"]) [.bl b] = some (.v (.bl true)) := rfl
theorem cNe_bl (S : Sto) (b : Bool) : cmpD S .NotEq (.bl b) (.bl b) = some false := by cases b <;> rfl
theorem b1_gen {n : Nat} {S : Sto} {x0 x1 x2 x3 x4 x5 x9 x10 x11 : Slot} {sd wd nm : D} {b : Bool} (e1 : callF pg n i_may_be_sent [sd, wd, nm] S = .ok (.v (.bl b)) S) (e2 : callF pg n i__law_may [sd, wd, nm] S = .ok (.v (.bl b)) S) :
    evSs pg (callF pg n) (makeF pg n) b1_law [x0, x1, x2, x3, x4, x5, .v sd, .v wd, .v nm, x9, x10, x11, .no] S = .ok .next [x0, x1, x2, x3, x4, x5, .v sd, .v wd, .v nm, x9, x10, x11, .v (.bl b)] S := by
  have h1 := q_isBoolB S b
  have h2 := cNe_bl S b
  simp [b1_law, e1, e2, h1, h2]
structure Par where
  t : Town
  now : Int
  ws : List Wag
  cs : List Cal
def turnC (c : Cal) : Cal := ⟨c.nm, c.place, 6 - c.grade, c.since⟩
theorem b2_ok {n : Nat} {S : Sto} {x0 x1 x2 x3 x5 : Slot} (q : Par) (hs : SceneOk q.t q.now q.ws q.cs) {cs' : List Cal} (hn : cs'.map Cal.nm = q.cs.map Cal.nm) {sd : D} (hsd : sd = .lst (cs'.map (Cal.d q.t.names)) ∨ sd = .tup (cs'.map (Cal.d q.t.names))) {w : Wag} (hw : w ∈ q.ws) :
    evSs pg (callF pg (n + 2)) (makeF pg (n + 2)) b2_law [x0, x1, x2, x3, .v (.lst (q.cs.map (Cal.d q.t.names))), x5, .v sd, .v (w.d q.t.names), .no, .no, .no, .no, .no] S = .ok .next [x0, x1, x2, x3, .v (.lst (q.cs.map (Cal.d q.t.names))), x5, .v sd, .v (w.d q.t.names), .no, .no, .no, .no, .no] S := by
  have wk := hs.wOk w hw
  have h10 := hs.c10
  have hl : cs'.length = q.cs.length := by
    have := congrArg List.length hn
    simpa using this
  have hnd : (cs'.map Cal.nm).Nodup := by rw [hn]; exact hs.cNd
  have tn : ∀ y, w.task.nm = some y → y ∈ q.cs.map Cal.nm := fun y hy => by
    have := wk.task
    cases hk : w.task with
    | free => rw [hk] at hy; cases hy
    | at_ z =>
      rw [hk] at this hy
      cases hy
      obtain ⟨_, c, h1, h2, _⟩ := this
      exact List.mem_map.mpr ⟨c, h1, h2⟩
    | to_ z =>
      rw [hk] at this hy
      cases hy
      obtain ⟨c, h1, h2⟩ := this
      exact List.mem_map.mpr ⟨c, h1, h2⟩
  have so : w.task.sOk := fun y hy => by
    obtain ⟨c, h1, rfl⟩ := List.mem_map.mp (tn y hy)
    exact name_strOk0 (hs.cOk c h1).nm
  have tf : ∀ y, w.task = .to_ y → ∃ a, cs'.find? (fun c => decide (c.nm = y)) = some a := fun y hy => find_some (by rw [hn]; exact tn y (by rw [hy]; rfl))
  obtain ⟨ρ', e, rfl⟩ := for_invP (tg := .tp [(.nm 8), (.nm 9), (.nm 10), (.nm 11)]) (fb := evSs pg (callF pg (n + 2)) (makeF pg (n + 2)) b1_law) (ks := [8, 9, 10, 11, 12]) (st := stays S [.lst (q.cs.map (Cal.d q.t.names))]) (S := S) rfl (Cal.d q.t.names)
    (fun pre ρ => ρ = [x0, x1, x2, x3, .v (.lst (q.cs.map (Cal.d q.t.names))), x5, .v sd, .v (w.d q.t.names), .no, .no, .no, .no, .no]) q.cs _ rfl (by
      rintro pre c post ρ hp rfl
      have hc : c ∈ q.cs := by rw [hp]; simp
      obtain ⟨b, hb⟩ := find_some (cs := cs') (z := c.nm) (by rw [hn]; exact List.mem_map_of_mem hc)
      have e1 := may_ok (P := pg) (i := i_may_be_sent) (iN := i_call_named) (gF := g_FREE) rfl rfl rfl n hsd so tf hb S
      have e2 := law_may_ok (P := pg) (i := i__law_may) rfl (n + 1) (by omega) hnd hsd so tf hb S
      have turn := b1_gen (x0 := x0) (x1 := x1) (x2 := x2) (x3 := x3) (x4 := .v (.lst (q.cs.map (Cal.d q.t.names)))) (x5 := x5) (x9 := .v (.str (nmAt q.t.names c.place))) (x10 := .v (.int c.grade)) (x11 := .v (.int c.since)) e1 e2
      refine ⟨[x0, x1, x2, x3, .v (.lst (q.cs.map (Cal.d q.t.names))), x5, .v sd, .v (w.d q.t.names), .v (.str c.nm), .v (.str (nmAt q.t.names c.place)), .v (.int c.grade), .v (.int c.since), .no], _, ?_, turn, by simp [kill]⟩
      generalize w.d q.t.names = wd
      simp [Cal.d])
  simp only [b2_law]
  rw [ss_n (ρ1 := [x0, x1, x2, x3, .v (.lst (q.cs.map (Cal.d q.t.names))), x5, .v sd, .v (w.d q.t.names), .no, .no, .no, .no, .no]) (S1 := S) (by
    generalize w.d q.t.names = wd at *
    generalize q.cs.map (Cal.d q.t.names) = cd at *
    simp [kill]
    exact e), xSs_0]
theorem b3_ok {n : Nat} {S : Sto} {x0 x1 x2 x5 : Slot} (q : Par) (hs : SceneOk q.t q.now q.ws q.cs) {cs' : List Cal} (hn : cs'.map Cal.nm = q.cs.map Cal.nm) {sd : D} (hsd : sd = .lst (cs'.map (Cal.d q.t.names)) ∨ sd = .tup (cs'.map (Cal.d q.t.names))) :
    evSs pg (callF pg (n + 2)) (makeF pg (n + 2)) b3_law [x0, x1, x2, .v (.lst (q.ws.map (Wag.d q.t.names))), .v (.lst (q.cs.map (Cal.d q.t.names))), x5, .v sd, .no, .no, .no, .no, .no, .no] S = .ok .next [x0, x1, x2, .v (.lst (q.ws.map (Wag.d q.t.names))), .v (.lst (q.cs.map (Cal.d q.t.names))), x5, .v sd, .no, .no, .no, .no, .no, .no] S := by
  obtain ⟨ρ', e, rfl⟩ := for_invP (tg := .nm 7) (fb := evSs pg (callF pg (n + 2)) (makeF pg (n + 2)) b2_law) (ks := [7, 8, 9, 10, 11, 12]) (st := stays S [.lst (q.ws.map (Wag.d q.t.names))]) (S := S) rfl (Wag.d q.t.names)
    (fun pre ρ => ρ = [x0, x1, x2, .v (.lst (q.ws.map (Wag.d q.t.names))), .v (.lst (q.cs.map (Cal.d q.t.names))), x5, .v sd, .no, .no, .no, .no, .no, .no]) q.ws _ rfl (by
      rintro pre w post ρ hp rfl
      have := b2_ok (n := n) (S := S) (x0 := x0) (x1 := x1) (x2 := x2) (x3 := .v (.lst (q.ws.map (Wag.d q.t.names)))) (x5 := x5) q hs hn hsd (w := w) (by rw [hp]; simp)
      exact ⟨_, _, by rw [bT_nm, if_pos (by simp)]; rfl, this, by simp [kill]⟩)
  simp only [b3_law]
  rw [ss_n (ρ1 := [x0, x1, x2, .v (.lst (q.ws.map (Wag.d q.t.names))), .v (.lst (q.cs.map (Cal.d q.t.names))), x5, .v sd, .no, .no, .no, .no, .no, .no]) (S1 := S) (by
    generalize q.ws.map (Wag.d q.t.names) = wd at *
    generalize q.cs.map (Cal.d q.t.names) = cd at *
    simp [kill]
    exact e), xSs_0]
theorem pl_cals (q : Par) (ht : TownOk q.t) (hs : SceneOk q.t q.now q.ws q.cs) : D.pl 64 (.lst (q.cs.map (Cal.d q.t.names))) = true := by
  show D.pls 63 _ = true
  refine pls_map 63 _ _ fun c hc => ?_
  have h := hs.cOk c hc
  have p1 := name_strOk0 h.nm
  have p2 : PyData.strOk (nmAt q.t.names c.place) = true := name_strOk0 (ht.nm _ (by
    have := h.place
    simp [nmAt, List.getD_eq_getElem?_getD, this]))
  simp [Cal.d, D.pl, D.pls, p1, p2]
theorem law_gen {n : Nat} {S1 : Sto} {nd td now : D} {wd cd ud : List D} (e0 : callF pg n i__law_scene [nd] [] = .ok (.v (.tup [td, now, .lst wd, .lst cd])) S1)
    (lc : evE pg (callF pg n) (makeF pg n) (.lc e1_law (.tp [(.nm 8), (.nm 9), (.nm 10), (.nm 11)]) .seq [(.var 4)] [] [8, 9, 10, 11]) [.v nd, .v td, .v now, .v (.lst wd), .v (.lst cd), .no, .no, .no, .no, .no, .no, .no, .no] S1 = .ok (.ol ud) [.v nd, .v td, .v now, .v (.lst wd), .v (.lst cd), .no, .no, .no, .no, .no, .no, .no, .no] S1)
    (loop : forLoop (.nm 6) (evSs pg (callF pg n) (makeF pg n) b3_law) [6, 7, 8, 9, 10, 11, 12] (stays S1 [.lst [.lst cd, .lst ud, .tup cd, .lst cd]]) [.lst cd, .lst ud, .tup cd, .lst cd] [.v nd, .v td, .v now, .v (.lst wd), .v (.lst cd), .v (.lst ud), .no, .no, .no, .no, .no, .no, .no] S1 = .ok .next [.v nd, .v td, .v now, .v (.lst wd), .v (.lst cd), .v (.lst ud), .no, .no, .no, .no, .no, .no, .no] S1)
    (so : primD S1 .sorted [.lst cd] = some (.ol cd)) (eq : cmpD S1 .Eq (.lst cd) (.lst cd) = some true) :
    finR (evSs pg (callF pg n) (makeF pg n) f_law.body [.v nd, .no, .no, .no, .no, .no, .no, .no, .no, .no, .no, .no, .no] []) = .ok (.v (.bl true)) S1 := by
  have z4 : (4 : Nat) ≤ sizeLine := le_size (by decide)
  have t1 : primD S1 .tuple [.lst cd] = some (.v (.tup cd)) := rfl
  have t2 : primD S1 .list [.lst cd] = some (.ol cd) := rfl
  simp only [f_law]
  rw [ss_n (ρ1 := [.v nd, .v td, .v now, .v (.lst wd), .v (.lst cd), .no, .no, .no, .no, .no, .no, .no, .no]) (S1 := S1) (by simp [e0])]
  rw [ss_n (ρ1 := [.v nd, .v td, .v now, .v (.lst wd), .v (.lst cd), .ol ud, .no, .no, .no, .no, .no, .no, .no]) (S1 := S1) (by rw [xS_asg, lc]; rfl)]
  rw [ss_n (ρ1 := [.v nd, .v td, .v now, .v (.lst wd), .v (.lst cd), .v (.lst ud), .no, .no, .no, .no, .no, .no, .no]) (S1 := S1) (by
    simp [t1, z4, kill]
    exact loop)]
  simp [t2, so, eq]
theorem tF : TownFns pg i__law_row i__law_cell_at i__law_names i__law_road := ⟨rfl, rfl, rfl, rfl⟩
theorem sF : SceneFns pg i__law_town i__law_row i__law_cell_at i__law_names i__law_task i__law_road := ⟨tF, rfl, rfl⟩
theorem law_run (ns : List Int) (hl : ns.length ≤ 63) : ∃ S', callF pg 12 i_law [.lst (ns.map .int)] [] = .ok (.v (.bl true)) S' := by
  obtain ⟨t, now, ws, cs, c, ht, hs, e0⟩ := scene_ok (P := pg) sF (i := i__law_scene) rfl 8 ns []
  generalize hS1 : ([] ++ [c] : Sto) = S1 at e0
  let q : Par := ⟨t, now, ws, cs⟩
  have hs : SceneOk q.t q.now q.ws q.cs := hs
  have h10 := hs.c10
  have z4 : (4 : Nat) ≤ sizeLine := le_size (by decide)
  have lc := lc_NG (P := pg) (cf := callF pg 11) (cm := makeF pg 11) (tg := .tp [(.nm 8), (.nm 9), (.nm 10), (.nm 11)]) (ks := [8, 9, 10, 11]) (elt := e1_law) (k := .seq) (its := [.var 4]) (ds := [.lst (cs.map (Cal.d t.names))]) (S := S1)
    (ρ0 := [.v (.lst (ns.map .int)), .v t.d, .v (.int now), .v (.lst (ws.map (Wag.d t.names))), .v (.lst (cs.map (Cal.d t.names))), .no, .no, .no, .no, .no, .no, .no, .no])
    (ρ := [.v (.lst (ns.map .int)), .v t.d, .v (.int now), .v (.lst (ws.map (Wag.d t.names))), .v (.lst (cs.map (Cal.d t.names))), .no, .no, .no, .no, .no, .no, .no, .no])
    (Cal.d t.names) (fun c => (turnC c).d t.names) (fun c => [.v (.lst (ns.map .int)), .v t.d, .v (.int now), .v (.lst (ws.map (Wag.d t.names))), .v (.lst (cs.map (Cal.d t.names))), .no, .no, .no, .v (.str c.nm), .v (.str (nmAt t.names c.place)), .v (.int c.grade), .v (.int c.since), .no]) cs (by simp) rfl rfl rfl (le_size (by show q.cs.length ≤ 1000; omega)) rfl rfl
    (fun c _ => ⟨by simp [Cal.d], by simp [e1_law, turnC, Cal.d, z4], rfl, rfl⟩)
  rw [show (cs.map fun c => (turnC c).d t.names) = (cs.map turnC).map (Cal.d t.names) from by rw [List.map_map]; rfl] at lc
  obtain ⟨ρ', e, rfl⟩ := for_invP (tg := .nm 6) (fb := evSs pg (callF pg 11) (makeF pg 11) b3_law) (ks := [6, 7, 8, 9, 10, 11, 12]) (st := stays S1 [.lst [.lst (cs.map (Cal.d t.names)), .lst ((cs.map turnC).map (Cal.d t.names)), .tup (cs.map (Cal.d t.names)), .lst (cs.map (Cal.d t.names))]]) (S := S1) rfl (fun p : D × List Cal => p.1)
    (fun pre ρ => ρ = [.v (.lst (ns.map .int)), .v t.d, .v (.int now), .v (.lst (ws.map (Wag.d t.names))), .v (.lst (cs.map (Cal.d t.names))), .v (.lst ((cs.map turnC).map (Cal.d t.names))), .no, .no, .no, .no, .no, .no, .no])
    [(.lst (cs.map (Cal.d t.names)), cs), (.lst ((cs.map turnC).map (Cal.d t.names)), cs.map turnC), (.tup (cs.map (Cal.d t.names)), cs), (.lst (cs.map (Cal.d t.names)), cs)] _ rfl (by
      rintro pre p post ρ hp rfl
      have hin : p ∈ [(D.lst (cs.map (Cal.d t.names)), cs), (.lst ((cs.map turnC).map (Cal.d t.names)), cs.map turnC), (.tup (cs.map (Cal.d t.names)), cs), (.lst (cs.map (Cal.d t.names)), cs)] := by rw [hp]; simp
      obtain ⟨h1, h2⟩ : p.2.map Cal.nm = cs.map Cal.nm ∧ (p.1 = .lst (p.2.map (Cal.d t.names)) ∨ p.1 = .tup (p.2.map (Cal.d t.names))) := by
        have tt : (cs.map turnC).map Cal.nm = cs.map Cal.nm := by rw [List.map_map]; rfl
        simp only [List.mem_cons, List.not_mem_nil, or_false] at hin
        rcases hin with rfl | rfl | rfl | rfl
        · exact ⟨rfl, .inl rfl⟩
        · exact ⟨tt, .inl rfl⟩
        · exact ⟨rfl, .inr rfl⟩
        · exact ⟨rfl, .inl rfl⟩
      have := b3_ok (n := 9) (S := S1) (x0 := .v (.lst (ns.map .int))) (x1 := .v t.d) (x2 := .v (.int now)) (x5 := .v (.lst ((cs.map turnC).map (Cal.d t.names)))) q hs h1 h2
      exact ⟨_, _, by rw [bT_nm, if_pos (by simp)]; rfl, this, by simp [kill, q]⟩)
  exact ⟨S1, law_gen (n := 11) e0 lc e (by rw [q_sortCal _ _ _ (le_size (by show q.cs.length ≤ 1000; omega)), hs.cSo]) (eq_selfP (pl_cals q ht hs))⟩
end Lk43
theorem PySem.Challenge.cw_wagoncalls_k43_which_may_be_sent_holds : PySem.Challenge.rw_wagoncalls_k43_which_may_be_sent.Holds := by
  exact Lk43.ends fun ns h _ => Lk43.law_run ns h
