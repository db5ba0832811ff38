import PyProof.Rows.All
import Wide.All
import OpenK.AllK
import Wide.FinOn
import HandS.ForExc
import HandS.ForMost
import HandS.Flow
import HandS.Style
import HandS.Wide
import HandS.Rev
import HandS.Conv
import HandS.Zip
import HandS.TupAny
import HandS.IsInst
import HandS.Defaults
import HandS.MakeKw
import HandS.HeadEnd
import HandS.HeadHook2
import HandS.Head2
import HandS.Text
import HandS.TryOnly
import HandS.HeadHook3
import HandS.HeadHook4
import HandS.HeadWalk
import KE.KStateDown
import Lean
import PySem.Challenge.RW_hostturn_k42_like_terms
import HandS.Lambda
import HandS.Nested
import HandS.SetFor
import HandS.Strs
import HandS.Iter
import KE.KDictZip
import KE.KDictList
import KE.KTurns
import PyProof.CollectWalk
import PyProof.ListNew
import KE.GoesMore
import HandS.Exc
import HandS.ExcIs
import HandS.ExcOwn
import HandS.HotCalls
import HandS.Codes
import HandS.HeadHook1
import PyProof.ExcBaseAll.ValueError
import KE.KBits
import KE.DataEq
import PyProof.Rows.RegStrFacts
set_option Elab.async false
set_option linter.all false
set_option maxRecDepth 100000
/-! MIa: an own small language: values, store, interpreter. -/
namespace MI
open PySem (Str PyData)

/-! ### values, objects -/
inductive D where
  | non | bl (b : Bool) | int (i : Int) | str (s : Str)
  | tup (l : List D) | lst (l : List D) | ref (h : Nat) | ty (n : String)
  /-- a tuple of ints and texts that is no tuple of the written part: a key -/
  | key (l : List (Int ⊕ Str))
  deriving Inhabited
inductive O where
  | lst (l : List D) | ins (c : String) (fs : List (String × D)) | exn (c : String)
  /-- a lambda: its def, what it captured -/
  | clo (f : String) (l : List D) | dead
  /-- a dict whose keys are keys -/
  | dct (kvs : List (List (Int ⊕ Str) × D))
  deriving Inhabited
abbrev Sto := List O
abbrev Env := List (Option D)
/-- an exception: its class, its fields -/
structure X where
  cls : String
  fs : List (String × D)
inductive R (α : Type) where
  | ok (a : α) (S : Sto) | exc (x : X) (S : Sto) | bad
inductive Fl where
  | nx | rt (d : D) | bk | ct
def R.bind {α β : Type} (r : R α) (f : α → Sto → R β) : R β := match r with
  | .ok a S => f a S
  | .exc x S => .exc x S
  | .bad => .bad
@[simp] theorem R.bind_ok {α β : Type} (a : α) (S : Sto) (f : α → Sto → R β) : (R.ok a S).bind f = f a S := rfl
@[simp] theorem R.bind_exc {α β : Type} (x : X) (S : Sto) (f : α → Sto → R β) : (R.exc x S : R α).bind f = .exc x S := rfl
@[simp] theorem R.bind_bad {α β : Type} (f : α → Sto → R β) : (R.bad : R α).bind f = .bad := rfl
/-- a partial operation on values -/
def R.of {α : Type} (o : Option α) (S : Sto) : R α := match o with
  | some a => .ok a S
  | none => .bad
@[simp] theorem R.of_some {α : Type} (a : α) (S : Sto) : R.of (some a) S = .ok a S := rfl
@[simp] theorem R.of_none {α : Type} (S : Sto) : R.of (none : Option α) S = .bad := rfl

/-! ### the syntax -/
mutual
inductive E where
  | cI (i : Int) | cB (b : Bool) | cN | cS (s : String)
  | v (i : Nat) | g (x : String) | bt (n : String)
  | bin (o : PySem.Operator) (a b : E)
  | neg (a : E) | inv (a : E)
  | cmp (o : PySem.CmpOp) (a b : E)
  | chn (o o' : PySem.CmpOp) (a b c : E)
  | band (es : Es) | bor (es : Es) | not (a : E)
  | ite (c a b : E)
  | tup (es : Es)
  | frz (l : L) | box (l : L) | mv (i : Nat)
  | idx (a i : E)
  | slc (a lo hi : E)
  | fc (f : String) (es : Es)
  | mkk (c f : String) (es : Es) (ks : List String) (kes : Es)
  /-- a method's call with fewer arguments: the rest by their defaults -/
  | mtd (o : E) (m f : String) (es : Es)
  | bi (b : String) (es : Es)
  | kget (x : String) (k f : E)
  /-- {"a": "b", ..}.get(k, f) -/
  | wget (l : List (String × String)) (k f : E)
  /-- k in X, k not in X; X[k]: a table of the module -/
  | kin (neg : Bool) (x : String) (k : E)
  | kix (x : String) (k : E)
  /-- a lambda that is handed on; what is never come to -/
  | lam | nev
  /-- {}: a dict whose keys are keys; a tuple that is a key -/
  | dnew
  | ktup (es : Es)
  /-- len(set(a)) of a list of numbers that are all unlike -/
  | lset (a : E)
  /-- f(.., lambda ..): the lambda's def, the slots that it captures; a call of the lambda that a slot holds -/
  | flc (f : String) (es : Es) (id : String) (js : List Nat)
  | act (i : Nat) (es : Es)
  /-- a.index(b) of a list; {"a": 1, ..}[k] -/
  | lix (a b : E)
  | wix (l : List (String × Int)) (k : E)
  | fld (o : E) (f : String)
  | mth (o : E) (m : String) (es : Es)
  | mk (c : String) (es : Es)
  | isi (o : E) (c : String)
  | xis (o : E) (c : String)
  | hfc (f : String) (es : Es)
  | sm (m : String) (a b : E)
  | pop (o i : E)
inductive L where
  | disp (es : Es)
  | comp (el : E) (t : T) (it : It) (c : E) (vs : List Nat)
  | ofc (e : E)
  | ofr (es : Es)
  | ofz (a b : E)
  | slc (a lo hi : E)
  | cat (a b : E)
  | rep (a b : E)
  | rev (a : E)
  | sst (e : E)
inductive Es where
  | nil | cons (e : E) (es : Es)
inductive It where
  | seq (e : E) | rng (es : Es) | rng3 (es : Es) | zip (a b : E) | rev (e : E) | lit (l : L) | enm (e : E)
inductive T where
  | nm (i : Nat) | tp (ts : Ts) | sub (o i : E) | fld (o : E) (f : String)
inductive Ts where
  | nil | cons (t : T) (ts : Ts)
end
mutual
inductive S where
  | ex (e : E)
  | app (o e : E)
  | ext (o e : E)
  | clr (o : E)
  | fag (o : E) (f : String) (e : E)
  | asg (t : T) (e : E)
  | aug (i : Nat) (o : PySem.Operator) (e : E)
  | ret (e : E) | retN
  | ite (c : E) (a b : Ss)
  | for_ (t : T) (it : It) (body : Ss)
  | whl (c : E) (body : Ss)
  | pass | brk | cnt
  | never
  /-- raise C(text) -/
  | rse (c : String)
  /-- try: e, except C as i: suite -/
  | tri (e : E) (c : String) (i : Nat) (suite : Ss)
inductive Ss where
  | nil | cons (s : S) (r : Ss)
end
/-- a def: its name in the text, how many parameters, how many slots, its body -/
structure Fn where
  np : Nat
  ns : Nat
  /-- the parameters' names -/
  pn : List String
  /-- the defaults of the last ones -/
  dv : List D := []
  body : Ss
  /-- what it leaves of the store: true: nothing new -/
  pure : Bool := true

/-! ### what operations do -/
def get? (S : Sto) (h : Nat) : Option O := S[h]?
/-- an item of a key -/
def kD : Int ⊕ Str → D
  | .inl i => .int i
  | .inr s => .str s
/-- the items of a list, a tuple -/
def itemsOf (S : Sto) : D → Option (List D)
  | .lst l => some l
  | .tup l => some l
  | .key l => some (l.map kD)
  | .ref h => match S[h]? with
    | some (.lst l) => some l
    | _ => none
  | _ => none
def listOf (S : Sto) : D → Option (List D)
  | .lst l => some l
  | .ref h => match S[h]? with
    | some (.lst l) => some l
    | _ => none
  | _ => none
/-- what stands at a key -/
def valK (kvs : List (List (Int ⊕ Str) × D)) (k : List (Int ⊕ Str)) : Option D := (kvs.find? fun q => decide (q.1 = k)).map (·.2)
/-- in its place, or at the end -/
def putD' (kvs : List (List (Int ⊕ Str) × D)) (k : List (Int ⊕ Str)) (d : D) : List (List (Int ⊕ Str) × D) :=
  if (kvs.any fun q => decide (q.1 = k)) = true then kvs.map (fun q => if q.1 = k then (q.1, d) else q) else kvs ++ [(k, d)]
/-- a dict, whose keys are keys -/
def dctOf (S : Sto) : D → Option (List (List (Int ⊕ Str) × D))
  | .ref h => match S[h]? with
    | some (.dct kvs) => some kvs
    | _ => none
  | _ => none
/-- a key of these items -/
def keyL : List D → Option (List (Int ⊕ Str))
  | [] => some []
  | .int i :: r => (keyL r).map fun l => .inl i :: l
  | .str s :: r => (keyL r).map fun l => .inr s :: l
  | _ => none
def line : Nat := 16777216
def mulOk (i j : Int) : Bool := decide (-(2 ^ 64) < i ∧ i < 2 ^ 64) || decide (-(2 ^ 64) < j ∧ j < 2 ^ 64)
/-- a binary operator on ints -/
def binI (o : PySem.Operator) (i j : Int) : Option Int := match o with
  | .Add => some (i + j)
  | .Sub => some (i - j)
  | .Mult => if mulOk i j then some (i * j) else none
  | .FloorDiv => if j ≠ 0 ∧ j.natAbs < 2 ^ 250 then some (i.fdiv j) else none
  | .Mod => if j ≠ 0 then some (i.fmod j) else none
  | .Pow => if 0 ≤ j ∧ j ≤ 1000000 ∧ i.natAbs < 2 ^ 64 then some (i ^ j.toNat) else none
  | .LShift => if 0 ≤ j ∧ j ≤ 1000000 ∧ i.natAbs < 2 ^ 64 then some (i * 2 ^ j.toNat) else none
  | .RShift => if 0 ≤ j then some (i / 2 ^ j.toNat) else none
  | .BitAnd => some (PySem.Builtin.bitAnd i j)
  | .BitOr => some (PySem.Builtin.bitOr i j)
  | .BitXor => some (PySem.Builtin.bitXor i j)
  | _ => none
def addS (o : PySem.Operator) (x y : Str) : Option D := match o with
  | .Add => if x.length + y.length ≤ line then some (.str (x ++ y)) else none
  | _ => none
def addT (o : PySem.Operator) (x y : List D) : Option D := match o with
  | .Add => if x.length + y.length ≤ line then some (.tup (x ++ y)) else none
  | _ => none
def addL (S : Sto) (o : PySem.Operator) (a b : D) : Option D := match o with
  | .Add => (listOf S a).bind fun x => (listOf S b).bind fun y => if x.length + y.length ≤ line then some (.lst (x ++ y)) else none
  | _ => none
def binD (S : Sto) (o : PySem.Operator) : D → D → Option D
  | .int i, .int j => (binI o i j).map .int
  | .str x, .str y => addS o x y
  | .tup x, .tup y => addT o x y
  | .lst x, b => addL S o (.lst x) b
  | .ref h, b => addL S o (.ref h) b
  | _, _ => none
/-- values that == tells apart as they are -/
def scalD : D → D → Bool
  | .non, .non => true | .non, .int _ => true | .int _, .non => true | .non, .bl _ => true | .bl _, .non => true | .non, .str _ => true | .str _, .non => true
  | .int _, .int _ => true | .bl _, .bl _ => true | .str _, .str _ => true
  | .int _, .str _ => true | .str _, .int _ => true | .bl _, .str _ => true | .str _, .bl _ => true
  | _, _ => false
def flatD : D → Bool
  | .non => true | .bl _ => true | .int _ => true | .str _ => true | _ => false
/-- == of flat values -/
def eqF : D → D → Bool
  | .non, .non => true
  | .bl a, .bl b => a == b
  | .bl a, .int b => (if a then 1 else 0) == b
  | .int a, .bl b => a == (if b then 1 else 0)
  | .int a, .int b => a == b
  | .str a, .str b => a == b
  | _, _ => false
/-! a value as data, no handle in it -/
mutual
def pd0 : D → Option PyData
  | .non => some .none
  | .bl b => some (.bool b)
  | .int i => some (.int i)
  | .str s => some (.str s)
  | .tup l => (pds0 l).map .tuple
  | .lst l => (pds0 l).map .list
  | .ref _ => none
  | .ty _ => none
  | .key _ => none
def pds0 : List D → Option (List PyData)
  | [] => some []
  | d :: r => match pd0 d, pds0 r with
    | some x, some xs => some (x :: xs)
    | _, _ => none
end
def pdOf (S : Sto) : D → Option PyData
  | .ref h => match S[h]? with
    | some (.lst l) => (pds0 l).map .list
    | _ => none
  | d => pd0 d
/-- .. of a list, by what its items tell -/
def pdLs (f : D → Option PyData) : List D → Option (List PyData)
  | [] => some []
  | d :: r => match f d, pdLs f r with
    | some x, some xs => some (x :: xs)
    | _, _ => none
/-- a value as data, through handles too -/
def pdN (S : Sto) : Nat → D → Option PyData
  | 0 => fun _ => none
  | n + 1 => fun d => match d with
    | .ref h => match S[h]? with
      | some (.lst l) => (pdLs (pdN S n) l).map .list
      | _ => none
    | .tup l => (pdLs (pdN S n) l).map .tuple
    | .lst l => (pdLs (pdN S n) l).map .list
    | d => pd0 d
def pdE (S : Sto) (d : D) : Option PyData := match pdOf S d with
  | some x => some x
  | none => pdN S 6 d
/-- lists of other lengths -/
def lenNe (S : Sto) (a b : D) : Option Bool := match listOf S a, listOf S b with
  | some l, some k => if l.length = k.length then none else some false
  | _, _ => none
/-- == of data of any depth -/
def eqG (S : Sto) (a b : D) : Option Bool := match pdE S a, pdE S b with
  | some x, some y => if PySem.SeqAt.shaped x && PySem.SeqAt.shaped y then some (PyData.eqv x y) else none
  | _, _ => lenNe S a b
def eqD (S : Sto) : D → D → Option Bool
  | .int i, .int j => some (decide (i = j))
  | .str i, .str j => some (decide (i = j))
  | .bl i, .bl j => some (decide (i = j))
  | a, b => eqG S a b
def inG (S : Sto) (a b : D) : Option Bool := match itemsOf S b with
  | some l => if flatD a && l.all flatD then some (l.any fun y => eqF y a) else none
  | none => none
def inD (S : Sto) : D → D → Option Bool
  | .str x, .str y => some (!(PySem.Builtin.Str.occurrences y x 0 y.length 1).isEmpty)
  | .key k, b => (dctOf S b).map fun kvs => kvs.any fun q => decide (q.1 = k)
  | a, b => inG S a b
def ltD (f : Int → Int → Bool) : D → D → Option Bool
  | .int i, .int j => some (f i j)
  | _, _ => none
def isN : D → Bool
  | .non => true
  | _ => false
def isD2 (k : Bool) (a : D) : D → Option Bool
  | .non => some (isN a == k)
  | _ => none
def cmpD (S : Sto) (o : PySem.CmpOp) (a b : D) : Option Bool := match o with
  | .Eq => eqD S a b
  | .NotEq => (eqD S a b).map not
  | .Lt => ltD (fun i j => decide (i < j)) a b
  | .LtE => ltD (fun i j => decide (i ≤ j)) a b
  | .Gt => ltD (fun i j => decide (j < i)) a b
  | .GtE => ltD (fun i j => decide (j ≤ i)) a b
  | .In => inD S a b
  | .NotIn => (inD S a b).map not
  | .Is => isD2 true a b
  | .IsNot => isD2 false a b
def truD (S : Sto) : D → Option Bool
  | .non => some false
  | .bl b => some b
  | .int i => some (i != 0)
  | .str s => if s.length ≤ line then some ((s.length : Int) != 0) else none
  | .tup l => some (!l.isEmpty)
  | .lst l => some (!l.isEmpty)
  | .ref h => (listOf S (.ref h)).map fun l => !l.isEmpty
  | .ty _ => none
  | .key _ => none
def idxD (S : Sto) (a : D) : D → Option D
  | .int k => match a with
    | .str z => if z.length ≤ line then (L2.atI z.cps.toList k).map fun c => .str ⟨#[c]⟩ else none
    | a => (itemsOf S a).bind fun l => L2.atI l k
  | .key k => (dctOf S a).bind fun kvs => valK kvs k
  | _ => none
def cutL {α : Type} (xs : List α) (lo hi : Option Int) : List α := (xs.drop (HT.sIx xs.length 0 lo)).take (HT.sIx xs.length xs.length hi - HT.sIx xs.length 0 lo)
def slcD (S : Sto) (a : D) (lo hi : Option Int) : Option D := match a with
  | .tup l => some (.tup (cutL l lo hi))
  | .key l => some (.key (cutL l lo hi))
  | .str z => if z.length ≤ line then some (.str (L2.cutS z lo hi)) else none
  | a => (listOf S a).map fun l => .lst (cutL l lo hi)
def intsOf : List D → Option (List Int)
  | [] => some []
  | .int i :: r => (intsOf r).map (i :: ·)
  | _ => none
def blsOf : List D → Option (List Bool)
  | [] => some []
  | .bl i :: r => (blsOf r).map (i :: ·)
  | _ => none
/-- put in, rising, once -/
def insU (x : Int) : List Int → List Int
  | [] => [x]
  | y :: l => if x < y then x :: y :: l else if x = y then y :: l else y :: insU x l
def srtU : List Int → List Int
  | [] => []
  | x :: l => insU x (srtU l)
/-- len(set(..)) of numbers that are all unlike -/
def lstU (S : Sto) (d : D) : Option D := match (listOf S d).bind intsOf with
  | some ns => if decide ns.Nodup && decide (ns.length ≤ 4000) then some (.int ns.length) else none
  | none => none
/-- sorted(set(..)) -/
def sstD (S : Sto) (d : D) : Option (List D) := match (listOf S d).bind intsOf with
  | some ns => if ns.length < 63 then some ((srtU ns).map .int) else none
  | none => none
/-- the type of a value -/
def tyOf (S : Sto) : D → Option String
  | .non => some "NoneType"
  | .bl _ => some "bool"
  | .int _ => some "int"
  | .str _ => some "str"
  | .tup _ => some "tuple"
  | .lst _ => some "list"
  | .ref h => (listOf S (.ref h)).map fun _ => "list"
  | .ty _ => none
  | .key _ => none
/-- the built-in classes that are asked for -/
def tys : List String := ["int", "bool", "str", "list", "tuple"]
def isTyB (t c : String) : Bool := t == c || (t == "bool" && c == "int")
def one (f : D → Option D) : List D → Option D
  | [d] => f d
  | _ => none
def two (f : D → D → Option D) : List D → Option D
  | [d, e] => f d e
  | _ => none
def lenD (S : Sto) : D → Option D
  | .str z => if z.length ≤ line then some (.int z.length) else none
  | d => (itemsOf S d).map fun l => .int l.length
def intD : D → Option D
  | .int i => some (.int i)
  | .bl k => some (.int (if k then 1 else 0))
  | .str z => if z.length ≤ 640 then (PySem.intText? z).map .int else none
  | _ => none
def isInst (S : Sto) (d : D) : D → Option D
  | .ty t => if t ∈ tys then (tyOf S d).map fun u => .bl (isTyB u t) else none
  | _ => none
def mxD (f : Int → Int → Int) : D → D → Option D
  | .int i, .int j => some (.int (f i j))
  | _, _ => none
def tupD (S : Sto) : D → Option D
  | .tup l => some (.tup l)
  | d => (listOf S d).map .tup
/-- built-ins that change nothing -/
def bis : List String := ["len", "sum", "all", "any", "isinstance", "max", "min", "int", "tuple", "str", "divmod"]
def biT : String → Bool
  | "int" => true
  | "tuple" => true
  | "str" => true
  | _ => false
def dmD : D → D → Option D
  | .int i, .int j => if 0 < j ∧ j < 1073741824 then some (.tup [.int (i / j), .int (i % j)]) else none
  | _, _ => none
def strD : D → Option D
  | .int i => if i.natAbs.log2 < 1920 then some (.str (toString i)) else none
  | _ => none
def biD (S : Sto) (b : String) (ds : List D) : Option D := match b with
  | "len" => one (lenD S) ds
  | "int" => one intD ds
  | "isinstance" => two (isInst S) ds
  | "sum" => one (fun d => (listOf S d).bind fun l => (intsOf l).map fun ns => .int ns.sum) ds
  | "all" => one (fun d => (listOf S d).bind fun l => (blsOf l).map fun bs => .bl (bs.all id)) ds
  | "any" => one (fun d => (listOf S d).bind fun l => (blsOf l).map fun bs => .bl (bs.any id)) ds
  | "max" => two (mxD fun i j => if j > i then j else i) ds
  | "min" => two (mxD fun i j => if j < i then j else i) ds
  | "tuple" => one (tupD S) ds
  | "str" => one strD ds
  | "divmod" => two dmD ds
  | _ => none
def strsOf : List D → Option (List Str)
  | [] => some []
  | .str s :: r => (strsOf r).map (s :: ·)
  | _ => none
/-- a method of a text, with one argument -/
def smD (S : Sto) (m : String) (x y : D) : Option D := match x with
  | .str a => (match m with
    | "join" => (listOf S y).bind fun l => (strsOf l).bind fun ys => if (ys.map (·.length)).sum + ys.length * a.length ≤ line then some (.str (PySem.Txt.join a ys)) else none
    | "split" => (match y with
      | .str b => if (b.length == 0) = false ∧ a.length + 2 ≤ line then some (.lst ((PySem.Txt.split a b).map .str)) else none
      | _ => none)
    | "startswith" => (match y with
      | .str b => some (.bl (PySem.Txt.startswith a b))
      | _ => none)
    | _ => none)
  | _ => none
def rngL (lo : Int) (n : Nat) : List D := (List.range n).map fun (i : Nat) => .int (lo + i)
def small62 (i : Int) : Bool := decide (-(2 ^ 62) ≤ i ∧ i < 2 ^ 62)
def rngD : List D → Option (List D)
  | [.int j] => if small62 j then some (rngL 0 j.toNat) else none
  | [.int i, .int j] => if small62 i && small62 j then some (rngL i (j - i).toNat) else none
  | _ => none

def dnL (lo c : Int) (n : Nat) : List D := (List.range n).map fun (i : Nat) => .int (lo + i * c)
/-- range(i, j, c) -/
def rng3D : List D → Option (List D)
  | [.int i, .int j, .int c] => if c ≠ 0 ∧ c.natAbs < 1073741824 ∧ PySem.Builtin.Range.small i j c = true ∧ 0 ≤ PySem.Builtin.Range.rangeSize i j c then some (dnL i c (PySem.Builtin.Range.rangeSize i j c).toNat) else none
  | _ => none
/-- list(range(..)) -/
def ofrD (l : List D) : Option (List D) := match l with
  | [.int j] => if small62 j && decide (j.toNat ≤ line) then some (rngL 0 j.toNat) else none
  | [.int i, .int j] => if small62 i && small62 j && decide ((j - i).toNat ≤ line) then some (rngL i (j - i).toNat) else none
  | _ => none
/-- a row of a table: what stands at the text s; none: no row tells -/
def rowD : List D → Str → Option (Option D)
  | .tup [.str k, v] :: r, s => if k = s then some (some v) else rowD r s
  | .tup [.str k] :: r, s => if k = s then some none else rowD r s
  | _, _ => none
def kgetD : Option D → D → D → Option D
  | some (.lst l), .str s, z => match rowD l s with
    | some (some v) => some v
    | some none => some z
    | none => none
  | _, _, _ => none
def wgetD (l : List (String × String)) : D → D → Option D
  | .str s, z => some (l.foldl (fun r kv => if s = Str.ofString kv.1 then .str (Str.ofString kv.2) else r) z)
  | _, _ => none
def kinD : Option D → D → Option Bool
  | some (.lst l), .str s => (rowD l s).map Option.isSome
  | _, _ => none
def kixD : Option D → D → Option D
  | some (.lst l), .str s => match rowD l s with
    | some (some v) => some v
    | _ => none
  | _, _ => none
def lixD : D → D → Option D
  | .lst l, y => if flatD y && l.all flatD then (l.findIdx? fun z => eqF z y).map fun (i : Nat) => .int i else none
  | _, _ => none
def wixD (l : List (String × Int)) : D → Option D
  | .str s => l.foldl (fun r kv => if s = Str.ofString kv.1 then some (.int kv.2) else r) none
  | _ => none
/-! ### loops -/
/-- what is walked: written items; the list at a handle, as it stands at each turn -/
inductive Itm where
  | fix (l : List D)
  | at_ (h : Nat)
def itmD (S : Sto) : D → Option Itm
  | .lst l => some (.fix l)
  | .tup l => some (.fix l)
  | .str z => if z.length ≤ line then some (.fix (z.cps.toList.map fun c => .str ⟨#[c]⟩)) else none
  | .ref h => match S[h]? with
    | some (.lst _) => some (.at_ h)
    | _ => none
  | _ => none
/-- the items in pairs with their places -/
def enmL : Nat → List D → List D
  | _, [] => []
  | i, d :: r => .tup [.int i, d] :: enmL (i + 1) r
def enmD : D → Option (List D)
  | .lst l => some (enmL 0 l)
  | _ => none
def iAddD : D → D → Option D
  | .int i, .int j => some (.int (i + j))
  | _, _ => none
def zipL (l k : List D) : List D := (l.zip k).map fun p => .tup [p.1, p.2]
def zipD : D → D → Option (List D)
  | .lst l, .lst k => some (zipL l k)
  | .tup l, .tup k => some (zipL l k)
  | .str z, .lst k => some (zipL (z.cps.toList.map fun c => .str ⟨#[c]⟩) k)
  | _, _ => none
/-- list(zip(a, b)) -/
def ofzD : D → D → Option (List D)
  | .lst l, .lst k => some (zipL l k)
  | _, _ => none
def revD : D → Option (List D)
  | .lst l => some l.reverse
  | .tup l => some l.reverse
  | _ => none
/-- a loop's turns over items -/
def forL (f : D → Env → Sto → R (Fl × Env)) : List D → Env → Sto → R (Fl × Env)
  | [], ρ, S => .ok (.nx, ρ) S
  | x :: r, ρ, S => (f x ρ S).bind fun q S1 => match q.1 with
    | .nx => forL f r q.2 S1
    | .ct => forL f r q.2 S1
    | .bk => .ok (.nx, q.2) S1
    | .rt d => .ok (.rt d, q.2) S1
/-- .. over the list at a handle -/
def forH (f : D → Env → Sto → R (Fl × Env)) (h : Nat) : Nat → Nat → Env → Sto → R (Fl × Env)
  | 0, _, _, _ => .bad
  | m + 1, i, ρ, S => match S[h]? with
    | some (.lst l) => match l[i]? with
      | none => .ok (.nx, ρ) S
      | some x => (f x ρ S).bind fun q S1 => match q.1 with
        | .nx => forH f h m (i + 1) q.2 S1
        | .ct => forH f h m (i + 1) q.2 S1
        | .bk => .ok (.nx, q.2) S1
        | .rt d => .ok (.rt d, q.2) S1
    | _ => .bad
def whlL (c : Env → Sto → R Bool) (f : Env → Sto → R (Fl × Env)) : Nat → Env → Sto → R (Fl × Env)
  | 0, _, _ => .bad
  | m + 1, ρ, S => (c ρ S).bind fun b S1 => match b with
    | false => .ok (.nx, ρ) S1
    | true => (f ρ S1).bind fun q S2 => match q.1 with
      | .nx => whlL c f m q.2 S2
      | .ct => whlL c f m q.2 S2
      | .bk => .ok (.nx, q.2) S2
      | .rt d => .ok (.rt d, q.2) S2
/-- a comprehension's turns: f gives the item, or none where the test says no -/
def cmpL (f : D → Sto → R (Option D)) : List D → Sto → R (List D)
  | [], S => .ok [] S
  | x :: r, S => (f x S).bind fun o S1 => (cmpL f r S1).bind fun l S2 => match o with
    | some d => .ok (d :: l) S2
    | none => .ok l S2
def cmpH (f : D → Sto → R (Option D)) (h : Nat) : Nat → Nat → Sto → R (List D)
  | 0, _, _ => .bad
  | m + 1, i, S => match S[h]? with
    | some (.lst l) => match l[i]? with
      | none => .ok [] S
      | some x => (f x S).bind fun o S1 => (cmpH f h m (i + 1) S1).bind fun l S2 => match o with
        | some d => .ok (d :: l) S2
        | none => .ok l S2
    | _ => .bad
def wipeE (ρ : Env) : List Nat → Env
  | [] => ρ
  | v :: vs => (wipeE ρ vs).set v none
def atH (S : Sto) (h : Nat) : Nat := match S[h]? with
  | some (.lst l) => l.length + 1
  | _ => 0

/-- an item of a list is replaced -/
def setD (ρ : Env) (S : Sto) (d : D) : D → D → R Env
  | .ref h, .int k => match S[h]? with
    | some (.lst l) => match L2.ixN l.length k with
      | some j => .ok ρ (S.set h (.lst (l.set j d)))
      | none => .bad
    | _ => .bad
  | .ref h, .key k => match S[h]? with
    | some (.dct kvs) => if kvs.length < line then .ok ρ (S.set h (.dct (putD' kvs k d))) else .bad
    | _ => .bad
  | _, _ => .bad
/-- an item is taken out of a list -/
def popD (S : Sto) (k : D) : D → R D
  | .ref h => match k with
    | .int i => match S[h]? with
      | some (.lst l) => match L2.ixN l.length i with
        | some j => match l[j]? with
          | some d => if small62 i = true then .ok d (S.set h (.lst (l.eraseIdx j))) else .bad
          | none => .bad
        | none => .bad
      | _ => .bad
    | _ => .bad
  | _ => .bad
/-- a list is made longer -/
def appD (ρ : Env) (S : Sto) (d : D) : D → R (Fl × Env)
  | .ref h => match S[h]? with
    | some (.lst l) => if l.length < line then .ok (.nx, ρ) (S.set h (.lst (l ++ [d]))) else .bad
    | _ => .bad
  | _ => .bad
def augD (o : PySem.Operator) : D → D → Option D
  | .int a, .int b => match o with
    | .Add => some (.int (a + b))
    | .Sub => some (.int (a - b))
    | _ => none
  | _, _ => none
/-! ### the interpreter -/
/-- a class: its methods (name, def), its fields, the classes it is of -/
structure ClsI where
  mths : List (String × String)
  flds : List String
  sups : List String
structure Ctx where
  /-- the module's classes -/
  cls : String → Option ClsI
  /-- the module's constants -/
  glo : String → Option D
  /-- a call of a def -/
  fn : String → List D → Sto → R D
  /-- the arguments of a call with keywords, defaults filled in -/
  arr : String → List String → List D → List D → Option (List D)
  /-- a call that raises: the class, the store -/
  fx : String → List D → Sto → Option (String × Sto)
  /-- the classes of exceptions, with those above -/
  xcl : String → Option (List String)
  /-- a call of a def that calls none, where an exception is handled -/
  hf : String → List D → Sto → R D
def insOf (S : Sto) : D → Option (String × List (String × D))
  | .ref h => match S[h]? with
    | some (.ins c fs) => some (c, fs)
    | _ => none
  | _ => none
/-- the def of a method -/
def mOf (C : Ctx) (S : Sto) (x : D) (m : String) : Option String := (insOf S x).bind fun q => if (q.2.lookup m).isNone then (C.cls q.1).bind fun I => I.mths.lookup m else none
def fldD (C : Ctx) (S : Sto) (x : D) (f : String) : Option D := (insOf S x).bind fun q => (C.cls q.1).bind fun I => if I.flds.contains f then q.2.lookup f else none
/-- isinstance of an exception -/
def xisD (C : Ctx) (S : Sto) (x : D) (c : String) : Option Bool := match x with
  | .ref h => match S[h]? with
    | some (.exn k) => (C.xcl k).map fun l => l.contains c
    | _ => none
  | _ => none
/-- where an exception is handled: no calls, no classes -/
def hotC (C : Ctx) : Ctx := ⟨fun _ => none, C.glo, fun _ _ _ => .bad, fun _ _ _ _ => none, fun _ _ _ => none, C.xcl, C.hf⟩
def isiD (C : Ctx) (S : Sto) (x : D) (c : String) : Option Bool := (insOf S x).bind fun q => (C.cls q.1).map fun I => I.sups.contains c
def putD (f : String) (d : D) : List (String × D) → List (String × D)
  | [] => [(f, d)]
  | (k, x) :: r => if k = f then (k, d) :: r else (k, x) :: putD f d r
def setF (C : Ctx) (ρ : Env) (S : Sto) (d : D) (f : String) : D → R Env
  | .ref h => match S[h]? with
    | some (.ins c fs) => match C.cls c with
      | some I => if I.flds.contains f && decide (fs.length < 1000) then .ok ρ (S.set h (.ins c (putD f d fs))) else .bad
      | none => .bad
    | _ => .bad
  | _ => .bad
/-- x.clear() -/
def clrD (ρ : Env) (S : Sto) : D → R (Fl × Env)
  | .ref h => match S[h]? with
    | some (.lst _) => .ok (.nx, ρ) (S.set h (.lst []))
    | _ => .bad
  | _ => .bad
/-- a list is made longer by another -/
def extD (ρ : Env) (S : Sto) (d : D) : D → R (Fl × Env)
  | .ref h => match S[h]? with
    | some (.lst l) => match listOf S d with
      | some k => if l.length + k.length ≤ line then .ok (.nx, ρ) (S.set h (.lst (l ++ k))) else .bad
      | none => .bad
    | _ => .bad
  | _ => .bad
def initOf (C : Ctx) (c : String) : Option String := (C.cls c).bind fun I => I.mths.lookup "__init__"
def mkA (C : Ctx) (c : String) (l : List D) (S : Sto) : R D := match initOf C c with
  | none => .bad
  | some f => (C.fn f (.ref S.length :: l) (S ++ [.ins c []])).bind fun d S2 => if isN d = true then .ok (.ref S.length) S2 else .bad
def mkX (C : Ctx) (c : String) (l : List D) (S : Sto) : Option (String × Sto) := match initOf C c with
  | none => none
  | some f => C.fx f (.ref S.length :: l) (S ++ [.ins c []])
def mkkA (C : Ctx) (c f : String) (ks : List String) (l z : List D) (S : Sto) : R D := if initOf C c = some f then (match C.arr f ks (.ref S.length :: l) z with
    | none => .bad
    | some a => (C.fn f a (S ++ [.ins c []])).bind fun d S2 => if isN d = true then .ok (.ref S.length) S2 else .bad)
  else .bad
def mtdA (C : Ctx) (f : String) (l : List D) (S : Sto) : R D := match C.arr f [] l [] with
  | none => .bad
  | some a => C.fn f a S
def cloOf (S : Sto) : D → Option (String × List D)
  | .ref h => match S[h]? with
    | some (.clo f l) => some (f, l)
    | _ => none
  | _ => none
/-- what the slots hold -/
def capD (ρ : Env) : List Nat → Option (List D)
  | [] => some []
  | j :: r => match ρ[j]?, capD ρ r with
    | some (some d), some l => some (d :: l)
    | _, _ => none
/-- the call of a lambda -/
def actA (C : Ctx) (x : D) (l : List D) (S : Sto) : R D := match cloOf S x with
  | some (f, cs) => C.fn f (l ++ cs) S
  | none => .bad
/-- a call that hands a lambda on -/
def flcA (C : Ctx) (f : String) (l : List D) (id : String) (cs : List D) (S : Sto) : R D := (C.fn f (l ++ [.ref S.length]) (S ++ [.clo id cs])).bind fun d S2 => .ok d (S2.set S.length .dead)
def lenEs : Es → Nat
  | .nil => 0
  | .cons _ r => lenEs r + 1
def fuel : Nat := 1000000
def isCN : E → Bool
  | .cN => true
  | _ => false
/-- a part of a slice, left out where n is true -/
def partE (n : Bool) (f : Env → Sto → R D) : Env → Sto → R (Option Int) := match n with
  | true => fun _ S => .ok none S
  | false => fun ρ S => (f ρ S).bind fun d S1 => match d with
    | .int i => .ok (some i) S1
    | _ => .bad
mutual
def evE (C : Ctx) : E → Env → Sto → R D
  | .cI i => fun _ S => .ok (.int i) S
  | .cB b => fun _ S => .ok (.bl b) S
  | .cN => fun _ S => .ok .non S
  | .cS s => fun _ S => .ok (.str (Str.ofString s)) S
  | .v i => fun ρ S => match ρ[i]? with
    | some (some d) => .ok d S
    | _ => .bad
  | .g x => fun _ S => R.of (C.glo x) S
  | .bt n => fun _ S => .ok (.ty n) S
  | .bin o a b => fun ρ S => (evE C a ρ S).bind fun x S1 => (evE C b ρ S1).bind fun y S2 => R.of (binD S2 o x y) S2
  | .neg a => fun ρ S => (evE C a ρ S).bind fun x S1 => match x with
    | .int i => .ok (.int (-i)) S1
    | _ => .bad
  | .inv a => fun ρ S => (evE C a ρ S).bind fun x S1 => match x with
    | .int i => .ok (.int (PySem.Builtin.bitNot i)) S1
    | _ => .bad
  | .cmp o a b => fun ρ S => (evE C a ρ S).bind fun x S1 => (evE C b ρ S1).bind fun y S2 => R.of ((cmpD S2 o x y).map .bl) S2
  | .chn o o' a b c => fun ρ S => (evE C a ρ S).bind fun x S1 => (evE C b ρ S1).bind fun y S2 => (R.of (cmpD S2 o x y) S2).bind fun k S2 =>
      if k = true then (evE C c ρ S2).bind fun z S3 => R.of ((cmpD S3 o' y z).map .bl) S3 else .ok (.bl false) S2
  | .band es => evAnd C es
  | .bor es => evOr C es
  | .not a => fun ρ S => (evE C a ρ S).bind fun x S1 => match x with
    | .bl b => .ok (.bl (!b)) S1
    | _ => .bad
  | .ite c a b => fun ρ S => (evT C c ρ S).bind fun k S1 => if k = true then evE C a ρ S1 else evE C b ρ S1
  | .tup es => fun ρ S => (evEs C es ρ S).bind fun l S1 => if l.length ≤ line then .ok (.tup l) S1 else .bad
  | .frz l => fun ρ S => (evL C l ρ S).bind fun xs S1 => .ok (.lst xs) S1
  | .box l => fun ρ S => (evL C l ρ S).bind fun xs S1 => .ok (.ref S1.length) (S1 ++ [.lst xs])
  | .mv i => fun ρ S => match ρ[i]? with
    | some (some (.ref h)) => match S[h]? with
      | some (.lst l) => .ok (.lst l) (S.set h .dead)
      | _ => .bad
    | _ => .bad
  | .idx a i => fun ρ S => (evE C a ρ S).bind fun x S1 => (evE C i ρ S1).bind fun y S2 => R.of (idxD S2 x y) S2
  | .slc a lo hi => fun ρ S => (evE C a ρ S).bind fun x S1 => (partE (isCN lo) (evE C lo) ρ S1).bind fun p S2 => (partE (isCN hi) (evE C hi) ρ S2).bind fun q S3 => R.of (slcD S3 x p q) S3
  | .fc f es => fun ρ S => (evEs C es ρ S).bind fun l S1 => C.fn f l S1
  | .bi b es => fun ρ S => (evEs C es ρ S).bind fun l S1 => R.of (biD S1 b l) S1
  | .kget x k f => fun ρ S => (evE C k ρ S).bind fun y S1 => (evE C f ρ S1).bind fun z S2 => R.of (kgetD (C.glo x) y z) S2
  | .wget l k f => fun ρ S => (evE C k ρ S).bind fun y S1 => (evE C f ρ S1).bind fun z S2 => R.of (wgetD l y z) S2
  | .kin neg x k => fun ρ S => (evE C k ρ S).bind fun y S1 => R.of ((kinD (C.glo x) y).map fun b => .bl (b != neg)) S1
  | .kix x k => fun ρ S => (evE C k ρ S).bind fun y S1 => R.of (kixD (C.glo x) y) S1
  | .lam => fun _ S => .ok (.ref S.length) (S ++ [.dead])
  | .lset a => fun ρ S => (evE C a ρ S).bind fun x S1 => R.of (lstU S1 x) S1
  | .dnew => fun _ S => .ok (.ref S.length) (S ++ [.dct []])
  | .ktup es => fun ρ S => (evEs C es ρ S).bind fun l S1 => match keyL l with
    | some k => if l.length ≤ line then .ok (.key k) S1 else .bad
    | none => .bad
  | .nev => fun _ _ => .bad
  | .lix a b => fun ρ S => (evE C a ρ S).bind fun x S1 => (evE C b ρ S1).bind fun y S2 => R.of (lixD x y) S2
  | .wix l k => fun ρ S => (evE C k ρ S).bind fun y S1 => R.of (wixD l y) S1
  | .flc f es id js => fun ρ S => match capD ρ js with
    | some cs => (evEs C es ρ S).bind fun l S1 => flcA C f l id cs S1
    | none => .bad
  | .act i es => fun ρ S => match ρ[i]? with
    | some (some x) => if (cloOf S x).isSome = true then (evEs C es ρ S).bind fun l S1 => actA C x l S1 else .bad
    | _ => .bad
  | .fld o f => fun ρ S => (evE C o ρ S).bind fun x S1 => R.of (fldD C S1 x f) S1
  | .mth o m es => fun ρ S => (evE C o ρ S).bind fun x S1 => (R.of (mOf C S1 x m) S1).bind fun f S1 => (evEs C es ρ S1).bind fun l S2 => C.fn f (x :: l) S2
  | .mtd o m f es => fun ρ S => (evE C o ρ S).bind fun x S1 => (R.of (mOf C S1 x m) S1).bind fun g S1 => if g = f then (evEs C es ρ S1).bind fun l S2 => mtdA C f (x :: l) S2 else .bad
  | .mk c es => fun ρ S => (evEs C es ρ S).bind fun l S1 => mkA C c l S1
  | .mkk c f es ks kes => fun ρ S => (evEs C es ρ S).bind fun l S1 => (evEs C kes ρ S1).bind fun z S2 => mkkA C c f ks l z S2
  | .isi o c => fun ρ S => (evE C o ρ S).bind fun x S1 => R.of ((isiD C S1 x c).map .bl) S1
  | .xis o c => fun ρ S => (evE C o ρ S).bind fun x S1 => R.of ((xisD C S1 x c).map .bl) S1
  | .hfc f es => fun ρ S => (evEs C es ρ S).bind fun l S1 => C.hf f l S1
  | .sm m a b => fun ρ S => (evE C a ρ S).bind fun x S1 => (evE C b ρ S1).bind fun y S2 => R.of (smD S2 m x y) S2
  | .pop o i => fun ρ S => (evE C o ρ S).bind fun x S1 => if (listOf S1 x).isSome = true then (evE C i ρ S1).bind fun k S2 => popD S2 k x else .bad
def evT (C : Ctx) : E → Env → Sto → R Bool
  | .band es => evTAnd C es
  | .bor es => evTOr C es
  | .not a => fun ρ S => (evT C a ρ S).bind fun k S1 => .ok (!k) S1
  | .cmp o a b => fun ρ S => (evE C a ρ S).bind fun x S1 => (evE C b ρ S1).bind fun y S2 => R.of (cmpD S2 o x y) S2
  | .chn o o' a b c => fun ρ S => (evE C a ρ S).bind fun x S1 => (evE C b ρ S1).bind fun y S2 => (R.of (cmpD S2 o x y) S2).bind fun k S2 =>
      if k = true then (evE C c ρ S2).bind fun z S3 => R.of (cmpD S3 o' y z) S3 else .ok false S2
  | .cB b => fun _ S => .ok b S
  | .v i => fun ρ S => match ρ[i]? with
    | some (some d) => R.of (truD S d) S
    | _ => .bad
  | .fc f es => fun ρ S => (evEs C es ρ S).bind fun l S1 => (C.fn f l S1).bind fun x S2 => R.of (truD S2 x) S2
  | .bi b es => fun ρ S => (evEs C es ρ S).bind fun l S1 => (R.of (biD S1 b l) S1).bind fun x S2 => R.of (truD S2 x) S2
  | .idx a i => fun ρ S => (evE C a ρ S).bind fun x S1 => (evE C i ρ S1).bind fun y S2 => (R.of (idxD S2 x y) S2).bind fun x S2 => R.of (truD S2 x) S2
  | .bin o a b => fun ρ S => (evE C a ρ S).bind fun x S1 => (evE C b ρ S1).bind fun y S2 => (R.of (binD S2 o x y) S2).bind fun x S2 => R.of (truD S2 x) S2
  | .kin neg x k => fun ρ S => (evE C k ρ S).bind fun y S1 => R.of ((kinD (C.glo x) y).map fun b => b != neg) S1
  | .fld o f => fun ρ S => (evE C o ρ S).bind fun x S1 => (R.of (fldD C S1 x f) S1).bind fun x S2 => R.of (truD S2 x) S2
  | .mth o m es => fun ρ S => (evE C o ρ S).bind fun x S1 => (R.of (mOf C S1 x m) S1).bind fun f S1 => (evEs C es ρ S1).bind fun l S2 => (C.fn f (x :: l) S2).bind fun x S2 => R.of (truD S2 x) S2
  | .isi o c => fun ρ S => (evE C o ρ S).bind fun x S1 => R.of (isiD C S1 x c) S1
  | .xis o c => fun ρ S => (evE C o ρ S).bind fun x S1 => R.of (xisD C S1 x c) S1
  | .hfc f es => fun ρ S => (evEs C es ρ S).bind fun l S1 => (C.hf f l S1).bind fun x S2 => R.of (truD S2 x) S2
  | .sm m a b => fun ρ S => (evE C a ρ S).bind fun x S1 => (evE C b ρ S1).bind fun y S2 => (R.of (smD S2 m x y) S2).bind fun x S2 => R.of (truD S2 x) S2
  | .act i es => fun ρ S => (match ρ[i]? with
    | some (some x) => if (cloOf S x).isSome = true then (evEs C es ρ S).bind fun l S1 => actA C x l S1 else .bad
    | _ => .bad).bind fun x S2 => R.of (truD S2 x) S2
  | .pop o i => fun ρ S => ((evE C o ρ S).bind fun x S1 => if (listOf S1 x).isSome = true then (evE C i ρ S1).bind fun k S2 => popD S2 k x else .bad).bind fun x S2 => R.of (truD S2 x) S2
  | _ => fun _ _ => .bad
def evEs (C : Ctx) : Es → Env → Sto → R (List D)
  | .nil => fun _ S => .ok [] S
  | .cons e r => fun ρ S => (evE C e ρ S).bind fun x S1 => (evEs C r ρ S1).bind fun l S2 => .ok (x :: l) S2
def evAnd (C : Ctx) : Es → Env → Sto → R D
  | .nil => fun _ _ => .bad
  | .cons e .nil => evE C e
  | .cons e (.cons e2 r) => fun ρ S => (evE C e ρ S).bind fun x S1 => match x with
    | .bl true => evAnd C (.cons e2 r) ρ S1
    | .bl false => .ok (.bl false) S1
    | _ => .bad
def evOr (C : Ctx) : Es → Env → Sto → R D
  | .nil => fun _ _ => .bad
  | .cons e .nil => evE C e
  | .cons e (.cons e2 r) => fun ρ S => (evE C e ρ S).bind fun x S1 => match x with
    | .bl false => evOr C (.cons e2 r) ρ S1
    | .bl true => .ok (.bl true) S1
    | _ => .bad
def evTAnd (C : Ctx) : Es → Env → Sto → R Bool
  | .nil => fun _ S => .ok true S
  | .cons e r => fun ρ S => (evT C e ρ S).bind fun k S1 => if k = true then evTAnd C r ρ S1 else .ok false S1
def evTOr (C : Ctx) : Es → Env → Sto → R Bool
  | .nil => fun _ S => .ok false S
  | .cons e r => fun ρ S => (evT C e ρ S).bind fun k S1 => if k = true then .ok true S1 else evTOr C r ρ S1
def evL (C : Ctx) : L → Env → Sto → R (List D)
  | .disp es => fun ρ S => (evEs C es ρ S).bind fun l S1 => if l.length ≤ line then .ok l S1 else .bad
  | .comp el t it c vs => fun ρ S => (evIt C it ρ S).bind fun m S1 =>
      let f : D → Sto → R (Option D) := fun x S => (asg C t x (wipeE ρ vs) S).bind fun ρ1 S1 => (evT C c ρ1 S1).bind fun k S2 =>
        if k = true then (evE C el ρ1 S2).bind fun d S3 => .ok (some d) S3 else .ok none S2
      (match m with
      | .fix l => cmpL f l S1
      | .at_ h => cmpH f h (atH S1 h) 0 S1).bind fun l S2 => if l.length ≤ line then .ok l S2 else .bad
  | .ofc e => fun ρ S => (evE C e ρ S).bind fun x S1 => R.of (itemsOf S1 x) S1
  | .ofr es => fun ρ S => (evEs C es ρ S).bind fun l S1 => R.of (ofrD l) S1
  | .ofz a b => fun ρ S => (evE C a ρ S).bind fun x S1 => (evE C b ρ S1).bind fun y S2 => R.of (ofzD x y) S2
  | .slc a lo hi => fun ρ S => (evE C a ρ S).bind fun x S1 => (partE (isCN lo) (evE C lo) ρ S1).bind fun p S2 => (partE (isCN hi) (evE C hi) ρ S2).bind fun q S3 => (R.of (listOf S3 x) S3).bind fun l S3 => .ok (cutL l p q) S3
  | .cat a b => fun ρ S => (evE C a ρ S).bind fun x S1 => (evE C b ρ S1).bind fun y S2 => match listOf S2 x, listOf S2 y with
    | some l, some k => if l.length + k.length ≤ line then .ok (l ++ k) S2 else .bad
    | _, _ => .bad
  | .rep a b => fun ρ S => (evE C a ρ S).bind fun x S1 => (evE C b ρ S1).bind fun y S2 => match listOf S2 x, y with
    | some l, .int k => if -(2 ^ 63) ≤ k ∧ k < 2 ^ 63 ∧ l.length * k.toNat ≤ line then .ok (List.replicate k.toNat l).flatten S2 else .bad
    | _, _ => .bad
  | .rev a => fun ρ S => (evE C a ρ S).bind fun x S1 => (R.of (listOf S1 x) S1).bind fun l S2 => .ok l.reverse S2
  | .sst a => fun ρ S => (evE C a ρ S).bind fun x S1 => R.of (sstD S1 x) S1
def evIt (C : Ctx) : It → Env → Sto → R Itm
  | .seq e => fun ρ S => (evE C e ρ S).bind fun x S1 => R.of (itmD S1 x) S1
  | .lit l => fun ρ S => (evL C l ρ S).bind fun xs S1 => .ok (.fix xs) S1
  | .rng es => fun ρ S => (evEs C es ρ S).bind fun l S1 => R.of ((rngD l).map .fix) S1
  | .rng3 es => fun ρ S => (evEs C es ρ S).bind fun l S1 => R.of ((rng3D l).map .fix) S1
  | .zip a b => fun ρ S => (evE C a ρ S).bind fun x S1 => (evE C b ρ S1).bind fun y S2 => R.of ((zipD x y).map .fix) S2
  | .enm a => fun ρ S => (evE C a ρ S).bind fun x S1 => R.of ((enmD x).map .fix) S1
  | .rev e => fun ρ S => (evE C e ρ S).bind fun x S1 => R.of ((revD x).map .fix) S1
def asg (C : Ctx) : T → D → Env → Sto → R Env
  | .nm i => fun d ρ S => if i < ρ.length then .ok (ρ.set i (some d)) S else .bad
  | .tp ts => fun d ρ S => match d with
    | .tup l => asgs C ts l ρ S
    | .lst l => asgs C ts l ρ S
    | .ref h => match S[h]? with
      | some (.lst l) => asgs C ts l ρ S
      | _ => .bad
    | _ => .bad
  | .sub o i => fun d ρ S => (evE C o ρ S).bind fun x S1 => (evE C i ρ S1).bind fun y S2 => setD ρ S2 d x y
  | .fld o f => fun d ρ S => (evE C o ρ S).bind fun x S1 => setF C ρ S1 d f x
def asgs (C : Ctx) : Ts → List D → Env → Sto → R Env
  | .nil => fun l ρ S => match l with
    | [] => .ok ρ S
    | _ => .bad
  | .cons t r => fun l ρ S => match l with
    | [] => .bad
    | d :: l => (asg C t d ρ S).bind fun ρ1 S1 => asgs C r l ρ1 S1
end
/-- an expression that raises: the class, the store behind -/
def xE (C : Ctx) : E → Env → Sto → Option (String × Sto)
  | .fc f (.cons a r) => fun ρ S => match evEs C (.cons a r) ρ S with
    | .ok l S1 => C.fx f l S1
    | _ => none
  | .mk c (.cons a r) => fun ρ S => match evEs C (.cons a r) ρ S with
    | .ok l S1 => mkX C c l S1
    | _ => none
  | _ => fun _ _ => none
/-- what an except suite leaves -/
def offE (i : Nat) (z : R (Fl × Env)) : R (Fl × Env) := z.bind fun q S2 => match q.1 with
  | .nx => .ok (.nx, q.2.set i none) S2
  | .rt d => .ok (.rt d, q.2.set i none) S2
  | _ => .bad
mutual
def evS (C : Ctx) : S → Env → Sto → R (Fl × Env)
  | .ex e => fun ρ S => (evE C e ρ S).bind fun _ S1 => .ok (.nx, ρ) S1
  | .app o e => fun ρ S => (evE C o ρ S).bind fun x S1 => if (listOf S1 x).isSome = true then (evE C e ρ S1).bind fun d S2 => appD ρ S2 d x else .bad
  | .ext o e => fun ρ S => (evE C o ρ S).bind fun x S1 => if (listOf S1 x).isSome = true then (evE C e ρ S1).bind fun d S2 => extD ρ S2 d x else .bad
  | .clr o => fun ρ S => (evE C o ρ S).bind fun x S1 => clrD ρ S1 x
  | .fag o f e => fun ρ S => (evE C o ρ S).bind fun x S1 => (R.of (fldD C S1 x f) S1).bind fun v S2 => (evE C e ρ S2).bind fun y S3 => (R.of (iAddD v y) S3).bind fun z S4 => if (insOf S2 x).map (·.1) = (insOf S4 x).map (·.1) then (setF C ρ S4 z f x).bind fun ρ1 S5 => .ok (.nx, ρ1) S5 else .bad
  | .asg t e => fun ρ S => (evE C e ρ S).bind fun d S1 => (asg C t d ρ S1).bind fun ρ1 S2 => .ok (.nx, ρ1) S2
  | .aug i o e => fun ρ S => match ρ[i]? with
    | some (some x) => (evE C e ρ S).bind fun y S1 => (R.of (augD o x y) S1).bind fun z S2 => .ok (.nx, ρ.set i (some z)) S2
    | _ => .bad
  | .ret e => fun ρ S => (evE C e ρ S).bind fun d S1 => .ok (.rt d, ρ) S1
  | .retN => fun ρ S => .ok (.rt .non, ρ) S
  | .ite c a b => fun ρ S => (evT C c ρ S).bind fun k S1 => if k = true then evSs C a ρ S1 else evSs C b ρ S1
  | .for_ t it body => fun ρ S => (evIt C it ρ S).bind fun m S1 =>
      let f : D → Env → Sto → R (Fl × Env) := fun x ρ S => (asg C t x ρ S).bind fun ρ1 S1 => evSs C body ρ1 S1
      match m with
      | .fix l => forL f l ρ S1
      | .at_ h => forH f h (atH S1 h) 0 ρ S1
  | .whl c body => fun ρ S => whlL (evT C c) (evSs C body) fuel ρ S
  | .pass => fun ρ S => .ok (.nx, ρ) S
  | .brk => fun ρ S => .ok (.bk, ρ) S
  | .cnt => fun ρ S => .ok (.ct, ρ) S
  | .never => fun _ _ => .bad
  | .rse _ => fun _ _ => .bad
  | .tri e cn i suite => fun ρ S => match evE C e ρ S with
    | .ok _ S1 => .ok (.nx, ρ) S1
    | _ => match xE C e ρ S with
      | some (k, S1) => match C.xcl k with
        | some l => if l.contains cn = true then offE i (evSs (hotC C) suite (ρ.set i (some (.ref S1.length))) (S1 ++ [.exn k])) else .bad
        | none => .bad
      | none => .bad
def evSs (C : Ctx) : Ss → Env → Sto → R (Fl × Env)
  | .nil => fun ρ S => .ok (.nx, ρ) S
  | .cons s r => fun ρ S => (evS C s ρ S).bind fun q S1 => match q.1 with
    | .nx => evSs C r q.2 S1
    | f => .ok (f, q.2) S1
end
mutual
/-- a statement that raises -/
def xS (C : Ctx) : S → Env → Sto → Option (String × Sto)
  | .rse c => fun _ S => match C.xcl c with
    | some _ => some (c, S)
    | none => none
  | .ex e => fun ρ S => xE C e ρ S
  | .ret e => fun ρ S => xE C e ρ S
  | .ite c a b => fun ρ S => match evT C c ρ S with
    | .ok k S1 => if k = true then xSs C a ρ S1 else xSs C b ρ S1
    | _ => none
  | _ => fun _ _ => none
def xSs (C : Ctx) : Ss → Env → Sto → Option (String × Sto)
  | .nil => fun _ _ => none
  | .cons s r => fun ρ S => match xS C s ρ S with
    | some x => some x
    | none => match evS C s ρ S with
      | .ok (.nx, ρ1) S1 => xSs C r ρ1 S1
      | _ => none
end

/-! ### calls -/
structure Prog where
  cls : String → Option ClsI
  glo : String → Option D
  fns : String → Option Fn
  xcl : String → Option (List String) := fun _ => none
mutual
def below (n : Nat) : D → Bool
  | .ref h => decide (h < n)
  | .tup l => belows n l
  | .lst l => belows n l
  | _ => true
def belows (n : Nat) : List D → Bool
  | [] => true
  | d :: r => below n d && belows n r
end
mutual
def beqD : D → D → Bool
  | .non, .non => true
  | .bl a, .bl b => a == b
  | .int a, .int b => decide (a = b)
  | .str a, .str b => decide (a = b)
  | .tup l, .tup k => beqDs l k
  | .lst l, .lst k => beqDs l k
  | .ref a, .ref b => decide (a = b)
  | .ty a, .ty b => decide (a = b)
  | .key a, .key b => decide (a = b)
  | _, _ => false
def beqDs : List D → List D → Bool
  | [], [] => true
  | a :: r, b :: s => beqD a b && beqDs r s
  | _, _ => false
end
def beqF : List (String × D) → List (String × D) → Bool
  | [], [] => true
  | a :: r, b :: s => decide (a.1 = b.1) && beqD a.2 b.2 && beqF r s
  | _, _ => false
def beqK : List (List (Int ⊕ Str) × D) → List (List (Int ⊕ Str) × D) → Bool
  | [], [] => true
  | a :: r, b :: s => decide (a.1 = b.1) && beqD a.2 b.2 && beqK r s
  | _, _ => false
def beqO : O → O → Bool
  | .dct l, .dct k => beqK l k
  | .lst l, .lst k => beqDs l k
  | .ins c f, .ins d g => decide (c = d) && beqF f g
  | .exn c, .exn d => decide (c = d)
  | .clo c f, .clo d g => decide (c = d) && beqDs f g
  | .dead, .dead => true
  | _, _ => false
def beqS : Sto → Sto → Bool
  | [], [] => true
  | a :: r, b :: s => beqO a b && beqS r s
  | _, _ => false
def belowO (n : Nat) : O → Bool
  | .lst l => belows n l
  | .ins _ fs => fs.all fun q => below n q.2
  | .exn _ => true
  | .clo _ l => belows n l
  | .dct kvs => kvs.all fun q => below n q.2
  | .dead => true
mutual
theorem beqD_refl : ∀ d : D, beqD d d = true
  | .non => rfl
  | .bl a => by unfold beqD; simp
  | .int a => by unfold beqD; simp
  | .str a => by unfold beqD; simp
  | .tup l => by unfold beqD; exact beqDs_refl l
  | .lst l => by unfold beqD; exact beqDs_refl l
  | .ref a => by unfold beqD; simp
  | .ty a => by unfold beqD; simp
  | .key a => by unfold beqD; simp
theorem beqDs_refl : ∀ l : List D, beqDs l l = true
  | [] => rfl
  | d :: r => by unfold beqDs; rw [beqD_refl d, beqDs_refl r]; rfl
end
theorem beqF_refl : ∀ l : List (String × D), beqF l l = true
  | [] => rfl
  | a :: r => by unfold beqF; rw [beqD_refl, beqF_refl r]; simp
theorem beqK_refl : ∀ l : List (List (Int ⊕ Str) × D), beqK l l = true
  | [] => rfl
  | a :: r => by unfold beqK; rw [beqD_refl, beqK_refl r]; simp
theorem beqO_refl : ∀ o : O, beqO o o = true
  | .dct l => by simp [beqO, beqK_refl]
  | .lst l => beqDs_refl l
  | .ins c f => by simp [beqO, beqF_refl]
  | .exn c => by simp [beqO]
  | .clo c f => by simp [beqO, beqDs_refl]
  | .dead => rfl
@[simp] theorem beqS_refl : ∀ S : Sto, beqS S S = true
  | [] => rfl
  | a :: r => by unfold beqS; rw [beqO_refl, beqS_refl r]; rfl
mutual
theorem beqD_eq : ∀ (d e : D), beqD d e = true → d = e
  | .non, .non, _ => rfl
  | .bl a, .bl b, h => by unfold beqD at h; simp at h; rw [h]
  | .int a, .int b, h => by unfold beqD at h; simp at h; rw [h]
  | .str a, .str b, h => by unfold beqD at h; simp at h; rw [h]
  | .tup l, .tup k, h => by unfold beqD at h; rw [beqDs_eq l k h]
  | .lst l, .lst k, h => by unfold beqD at h; rw [beqDs_eq l k h]
  | .ref a, .ref b, h => by unfold beqD at h; simp at h; rw [h]
  | .ty a, .ty b, h => by unfold beqD at h; simp at h; rw [h]
  | .non, .bl _, h | .non, .int _, h | .non, .str _, h | .non, .tup _, h | .non, .lst _, h | .non, .ref _, h | .non, .ty _, h => by simp [beqD] at h
  | .bl _, .non, h | .bl _, .int _, h | .bl _, .str _, h | .bl _, .tup _, h | .bl _, .lst _, h | .bl _, .ref _, h | .bl _, .ty _, h => by simp [beqD] at h
  | .int _, .non, h | .int _, .bl _, h | .int _, .str _, h | .int _, .tup _, h | .int _, .lst _, h | .int _, .ref _, h | .int _, .ty _, h => by simp [beqD] at h
  | .str _, .non, h | .str _, .bl _, h | .str _, .int _, h | .str _, .tup _, h | .str _, .lst _, h | .str _, .ref _, h | .str _, .ty _, h => by simp [beqD] at h
  | .tup _, .non, h | .tup _, .bl _, h | .tup _, .int _, h | .tup _, .str _, h | .tup _, .lst _, h | .tup _, .ref _, h | .tup _, .ty _, h => by simp [beqD] at h
  | .lst _, .non, h | .lst _, .bl _, h | .lst _, .int _, h | .lst _, .str _, h | .lst _, .tup _, h | .lst _, .ref _, h | .lst _, .ty _, h => by simp [beqD] at h
  | .ref _, .non, h | .ref _, .bl _, h | .ref _, .int _, h | .ref _, .str _, h | .ref _, .tup _, h | .ref _, .lst _, h | .ref _, .ty _, h => by simp [beqD] at h
  | .ty _, .non, h | .ty _, .bl _, h | .ty _, .int _, h | .ty _, .str _, h | .ty _, .tup _, h | .ty _, .lst _, h | .ty _, .ref _, h => by simp [beqD] at h
  | .key a, .key b, h => by unfold beqD at h; simp at h; rw [h]
  | .key _, .non, h | .key _, .bl _, h | .key _, .int _, h | .key _, .str _, h | .key _, .tup _, h | .key _, .lst _, h | .key _, .ref _, h | .key _, .ty _, h => by simp [beqD] at h
  | .non, .key _, h | .bl _, .key _, h | .int _, .key _, h | .str _, .key _, h | .tup _, .key _, h | .lst _, .key _, h | .ref _, .key _, h | .ty _, .key _, h => by simp [beqD] at h
theorem beqDs_eq : ∀ (l k : List D), beqDs l k = true → l = k
  | [], [], _ => rfl
  | a :: r, b :: s, h => by
    unfold beqDs at h
    rw [Bool.and_eq_true] at h
    rw [beqD_eq a b h.1, beqDs_eq r s h.2]
  | [], _ :: _, h => by simp [beqDs] at h
  | _ :: _, [], h => by simp [beqDs] at h
end
theorem beqF_eq : ∀ (l k : List (String × D)), beqF l k = true → l = k
  | [], [], _ => rfl
  | (a, d) :: r, (b, e) :: s, h => by
    unfold beqF at h
    simp only [Bool.and_eq_true, decide_eq_true_eq] at h
    rw [h.1.1, beqD_eq d e h.1.2, beqF_eq r s h.2]
  | [], _ :: _, h => by simp [beqF] at h
  | _ :: _, [], h => by simp [beqF] at h
theorem beqK_eq : ∀ (l k : List (List (Int ⊕ Str) × D)), beqK l k = true → l = k
  | [], [], _ => rfl
  | (a, d) :: r, (b, e) :: s, h => by
    unfold beqK at h
    simp only [Bool.and_eq_true, decide_eq_true_eq] at h
    rw [h.1.1, beqD_eq d e h.1.2, beqK_eq r s h.2]
  | [], _ :: _, h => by simp [beqK] at h
  | _ :: _, [], h => by simp [beqK] at h
theorem beqO_eq : ∀ (o u : O), beqO o u = true → o = u
  | .dct l, .dct k, h => by
    unfold beqO at h
    rw [beqK_eq l k h]
  | .dct _, .lst _, h | .dct _, .ins _ _, h | .dct _, .exn _, h | .dct _, .clo _ _, h | .dct _, .dead, h | .lst _, .dct _, h | .ins _ _, .dct _, h | .exn _, .dct _, h | .clo _ _, .dct _, h | .dead, .dct _, h => by simp [beqO] at h
  | .lst l, .lst k, h => by rw [beqDs_eq l k h]
  | .ins c f, .ins d g, h => by
    unfold beqO at h
    simp only [Bool.and_eq_true, decide_eq_true_eq] at h
    rw [h.1, beqF_eq f g h.2]
  | .dead, .dead, _ => rfl
  | .exn c, .exn d, h => by
    unfold beqO at h
    rw [of_decide_eq_true h]
  | .clo c f, .clo d g, h => by
    unfold beqO at h
    simp only [Bool.and_eq_true, decide_eq_true_eq] at h
    rw [h.1, beqDs_eq f g h.2]
  | .clo _ _, .lst _, h | .clo _ _, .ins _ _, h | .clo _ _, .exn _, h | .clo _ _, .dead, h | .lst _, .clo _ _, h | .ins _ _, .clo _ _, h | .exn _, .clo _ _, h | .dead, .clo _ _, h => by simp [beqO] at h
  | .exn _, .lst _, h | .exn _, .ins _ _, h | .exn _, .dead, h | .lst _, .exn _, h | .ins _ _, .exn _, h | .dead, .exn _, h => by simp [beqO] at h
  | .lst _, .ins _ _, h | .lst _, .dead, h | .ins _ _, .lst _, h | .ins _ _, .dead, h | .dead, .lst _, h | .dead, .ins _ _, h => by simp [beqO] at h
theorem beqS_eq : ∀ (S S1 : Sto), beqS S S1 = true → S = S1
  | [], [], _ => rfl
  | a :: r, b :: s, h => by
    unfold beqS at h
    rw [Bool.and_eq_true] at h
    rw [beqO_eq a b h.1, beqS_eq r s h.2]
  | [], _ :: _, h => by simp [beqS] at h
  | _ :: _, [], h => by simp [beqS] at h
def startE (ns : Nat) (ds : List D) : Env := ds.map some ++ List.replicate (ns - ds.length) none
def endOf (q : Fl × Env) : Option D := match q.1 with
  | .rt d => some d
  | .nx => some .non
  | _ => none
/-- what is handed back: a def that is pure leaves nothing new in the store -/
def done (pure : Bool) (S : Sto) (d : D) (S1 : Sto) : R D := match pure with
  | false => .ok d S1
  | true => if below S.length d && (beqS (S1.take S.length) S || (S1.take S.length).all (belowO S.length)) then .ok d (S1.take S.length) else .bad
/-- positional values us, keywords' values ws by name, defaults its: in the parameters' order -/
def arrG (pn : List String) (nd n : Nat) (ks : List String) {α : Type} (us its ws : List α) : List α :=
  (List.range pn.length).filterMap fun i => if i < n then us[i]? else match ks.idxOf? (pn.getD i "") with
    | some j => ws[j]?
    | none => its[i - (pn.length - nd)]?
def arrP (P : Prog) (f : String) (ks : List String) (l z : List D) : Option (List D) := (P.fns f).bind fun F => if z.length = ks.length then some (arrG F.pn F.dv.length l.length ks l F.dv z) else none
/-- a def that calls none -/
def callH (P : Prog) (f : String) (ds : List D) (S : Sto) : R D := match P.fns f with
  | none => .bad
  | some F => if ds.length = F.np then (evSs ⟨fun _ => none, P.glo, fun _ _ _ => .bad, fun _ _ _ _ => none, fun _ _ _ => none, P.xcl, fun _ _ _ => .bad⟩ F.body (startE F.ns ds) S).bind fun q S1 => match endOf q with
    | some d => done F.pure S d S1
    | none => .bad
    else .bad
/-- calls, so many calls deep at most: what they give, what they raise -/
def callB (P : Prog) : Nat → (String → List D → Sto → R D) × (String → List D → Sto → Option (String × Sto))
  | 0 => (fun _ _ _ => .bad, fun _ _ _ => none)
  | k + 1 => (fun f ds S => match P.fns f with
    | none => .bad
    | some F => if ds.length = F.np then (evSs ⟨P.cls, P.glo, (callB P k).1, arrP P, (callB P k).2, P.xcl, callH P⟩ F.body (startE F.ns ds) S).bind fun q S1 => match endOf q with
      | some d => done F.pure S d S1
      | none => .bad
      else .bad, fun f ds S => match P.fns f with
    | none => none
    | some F => if ds.length = F.np then xSs ⟨P.cls, P.glo, (callB P k).1, arrP P, (callB P k).2, P.xcl, callH P⟩ F.body (startE F.ns ds) S else none)
def call (P : Prog) (k : Nat) : String → List D → Sto → R D := (callB P k).1
def callX (P : Prog) (k : Nat) : String → List D → Sto → Option (String × Sto) := (callB P k).2
def ctx (P : Prog) (k : Nat) : Ctx := ⟨P.cls, P.glo, call P k, arrP P, callX P k, P.xcl, callH P⟩
theorem call_succ {P : Prog} {k : Nat} {f : String} {ds : List D} {S : Sto} : call P (k + 1) f ds S = (match P.fns f with
    | none => .bad
    | some F => if ds.length = F.np then (evSs (ctx P k) F.body (startE F.ns ds) S).bind fun q S1 => match endOf q with
      | some d => done F.pure S d S1
      | none => .bad
      else .bad) := rfl
theorem callX_succ {P : Prog} {k : Nat} {f : String} {ds : List D} {S : Sto} : callX P (k + 1) f ds S = (match P.fns f with
    | none => none
    | some F => if ds.length = F.np then xSs (ctx P k) F.body (startE F.ns ds) S else none) := rfl
theorem ofS_inj {s t : String} (h : PySem.Str.ofString s = PySem.Str.ofString t) : s = t := by
  rw [PySem.Str.ofString_eq_toList, PySem.Str.ofString_eq_toList] at h
  have h1 : (s.toList.map Char.toNat).toArray = (t.toList.map Char.toNat).toArray := congrArg PySem.Str.cps h
  have h2 : s.toList.map Char.toNat = t.toList.map Char.toNat := by simpa using congrArg Array.toList h1
  have h3 : s.toList = t.toList := by
    have key : ∀ l k : List Char, l.map Char.toNat = k.map Char.toNat → l = k := by
      intro l
      induction l with
      | nil => intro k e; cases k with
        | nil => rfl
        | cons _ _ => cases e
      | cons a l ih =>
        intro k e
        cases k with
        | nil => cases e
        | cons b k =>
          simp only [List.map_cons, List.cons.injEq] at e
          have hab : a = b := by
            have := congrArg Char.ofNat e.1
            rwa [Char.ofNat_toNat, Char.ofNat_toNat] at this
          rw [hab, ih k e.2]
    exact key _ _ h2
  exact String.toList_inj.mp h3
end MI

/-! MIo: what the head tells, as data: the constants, the classes, the module's objects found layer by layer, those seen held as bits of a number. It stands ahead of all others: the equations of the head want much memory. -/
namespace MI
open PySem PySem.Spec PyProof.Rows L2
mutual
/-- what stands at u is d -/
def valB (K : PySem.W.Frag) : MI.D → Value → Bool
  | .non => fun u => He.relB .non u
  | .bl b => fun u => He.relB (.bl b) u
  | .int i => fun u => He.relB (.int i) u
  | .str s => fun u => He.relB (.str s) u
  | .tup l => fun u => match u with
    | .ref a => (match K.lookup a with
      | some ⟨.type c, _, .seq its _, _⟩ => decide (c = "tuple") && decide (its.size ≤ sizeLine) && valsB K l its.toList
      | _ => false)
    | _ => false
  | .lst l => fun u => match u with
    | .ref a => (match K.lookup a with
      | some ⟨.type c, none, .seq its _, _⟩ => decide (c = "list") && decide (its.size ≤ sizeLine) && valsB K l its.toList
      | _ => false)
    | _ => false
  | .ref _ => fun _ => false
  | .ty _ => fun _ => false
  | .key _ => fun _ => false
def valsB (K : PySem.W.Frag) : List MI.D → List Value → Bool
  | [] => fun us => us.isEmpty
  | d :: r => fun us => match us with
    | [] => false
    | u :: us => valB K d u && valsB K r us
end
/-- the global x is d -/
def gloB (K : PySem.W.Frag) (x : String) (d : MI.D) : Bool := match PySem.W.nsIn K mainGlobals (Str.ofString x) with
  | some (some u) => valB K d u
  | _ => false
/-- the rows of a table -/
def rowsB (K : PySem.W.Frag) (a : Addr) : List MI.D → Bool
  | .tup [.str k, d] :: r => (match PySem.W.nsIn K a k with
    | some (some u) => valB K d u
    | _ => false) && rowsB K a r
  | .tup [.str k] :: r => He.eqO (PySem.W.nsIn K a k) (some none) && rowsB K a r
  | [] => true
  | _ => false
abbrev AtT : Type := String → Str × Option Str
def eqB (a b : Option Bool) : Bool := decide (a = b)
def mthB (K : PySem.W.Frag) (A : Addr) (at_ : AtT) (q : String × String) : Bool := He.eqO (PySem.W.findIn K (.ref A) (Str.ofString q.1)) (some (some (.ref (He.fAd K (at_ q.2))))) && (PySem.W.isFn K (.ref (He.fAd K (at_ q.2))) && PySem.W.keepIn K (.ref (He.fAd K (at_ q.2))))
def clsB (K : PySem.W.Frag) (isc mks : List String) (at_ : AtT) (q : String × ClsI) : Bool :=
  He.eqO (PySem.W.nsIn K mainGlobals (Str.ofString q.1)) (some (some (.ref (He.ga K (Str.ofString q.1))))) &&
  ((He.Fa.cls (Str.ofString q.1)).ok K && (He.eqO (PySem.W.findIn K (.ref (He.ga K (Str.ofString q.1))) "__class__") (some (some (.builtin "object.__class__"))) &&
  (He.eqO (PySem.W.specialIn K (.builtin "object.__class__") "__get__") (some (some (.builtin "getset_descriptor.__get__"))) &&
  (eqB (PySem.W.takesIn K (.builtin "object.__class__")) (some true) && (eqB (PySem.W.mroIn K (He.ga K (Str.ofString q.1)) (.type "object")) (some true) &&
  (q.2.mths.all (mthB K (He.ga K (Str.ofString q.1)) at_) && (q.2.flds.all (fun f => He.eqO (PySem.W.findIn K (.ref (He.ga K (Str.ofString q.1))) (Str.ofString f)) (some none)) &&
  ((!mks.contains q.1 || (PySem.W.makesIn K (He.ga K (Str.ofString q.1)) && PySem.W.keepIn K (.ref (He.ga K (Str.ofString q.1))))) &&
  isc.all fun c => He.eqO (PySem.W.nsIn K mainGlobals (Str.ofString c)) (some (some (.ref (He.ga K (Str.ofString c))))) && eqB (PySem.W.kitOne K (.ref (He.ga K (Str.ofString q.1))) (.ref (He.ga K (Str.ofString c)))) (some (q.2.sups.contains c))))))))))
/-- a class by its name -/
def nmV (K : PySem.W.Frag) (c : String) : Option Value := match PySem.W.nsIn K mainGlobals (Str.ofString c) with
  | some (some (.ref A)) => some (.ref A)
  | some none => (match bootBuiltins (Str.ofString c) with
    | some (.type T) => some (.type T)
    | _ => none)
  | _ => none
def isB (K : PySem.W.Frag) (A : Addr) (l : List String) (c : String) : Bool := match nmV K c with
  | some cv => eqB (PySem.W.kitOne K (.ref A) cv) (some (l.contains c)) && eqB (PySem.W.exmOne K (.ref A) cv) (some (l.contains c))
  | none => false
def xcB (K : PySem.W.Frag) (xis : List String) (q : String × List String) : Bool :=
  He.eqO (PySem.W.nsIn K mainGlobals (Str.ofString q.1)) (some (some (.ref (He.ga K (Str.ofString q.1))))) && ((He.Fa.exc (Str.ofString q.1)).ok K &&
  (He.eqO (PySem.W.findIn K (.ref (He.ga K (Str.ofString q.1))) "__getattribute__") (some (some (.builtin "BaseException.__getattribute__"))) &&
  (He.eqO (PySem.W.findIn K (.ref (He.ga K (Str.ofString q.1))) "__getattr__") (some none) &&
  (PySem.W.hasDictIn K (He.ga K (Str.ofString q.1)) &&
  (He.eqO (PySem.W.findIn K (.ref (He.ga K (Str.ofString q.1))) "__class__") (some (some (.builtin "object.__class__"))) &&
  (He.eqO (PySem.W.specialIn K (.builtin "object.__class__") "__get__") (some (some (.builtin "getset_descriptor.__get__"))) &&
  (eqB (PySem.W.takesIn K (.builtin "object.__class__")) (some true) && (eqB (PySem.W.mroIn K (He.ga K (Str.ofString q.1)) (.type "object")) (some true) &&
  xis.all (isB K (He.ga K (Str.ofString q.1)) q.2)))))))))
end MI
namespace MI
open PySem PySem.Spec PyProof.Rows L2 He
/-- those not seen yet -/
def addY : List Addr → Nat → List Addr → Nat × List Addr
  | [], vis, acc => (vis, acc)
  | a :: r, vis, acc => match Nat.beq (Nat.land (Nat.shiftRight vis a) 1) 1 with
    | true => addY r vis acc
    | false => addY r (Nat.lor vis (Nat.shiftLeft 1 a)) (a :: acc)
def refsY (g : Addr → Option Obj) (a : Addr) : List Addr := match g a with
  | some o => refsD o
  | none => []
/-- n layers more: seen, the last layer, all -/
def layY (g : Addr → Option Obj) : Nat → Nat → List Addr → List Addr
  | 0, _, front => front
  | n + 1, vis, front => match addY (front.flatMap (refsY g)) vis [] with
    | (vis2, new) => front ++ layY g n vis2 new.reverse
def asY (g : Addr → Option Obj) (n : Nat) : List Addr := layY g n (Nat.shiftLeft 1 mainGlobals) [mainGlobals]
structure SaysY (fa : List Fa) (fn : List DefD) (ts : List Tab) (ex : PySem.W.Frag → Bool) (w : World) (K : PySem.W.Frag) : Prop where
  t : SaysT fa fn ts w K
  more : ex K = true
def obsY (n : Nat) (fa : List Fa) (fn : List DefD) (ts : List Tab) (ex : PySem.W.Frag → Bool) (g : Addr → Option Obj) : AlX := (obsT fa fn ts (frG g (asY g n)), ex (frG g (asY g n)))
def hookY (n : Nat) (fa : List Fa) (fn : List DefD) (ts : List Tab) (ex : PySem.W.Frag → Bool) : PySem.W.Hook where
  α := AlX
  obs := fun s => obsY n fa fn ts ex s.heap.get?
  val := fun w => (valT fn ts w, true)
  says := fun w h => ∃ K : PySem.W.Frag, K.In h ∧ SaysY fa fn ts ex w K
  of := fun _ _ e => ⟨_, frG_in, ⟨congrArg (fun z : AlX => z.1) e, congrArg (fun z : AlX => z.2) e⟩⟩
  keeps := fun _ _ _ ⟨K, hK, c⟩ k => ⟨K, PySem.W.Frag.In.keeps hK k, c⟩
theorem obsY_eq {n : Nat} {fa : List Fa} {fn : List DefD} {ts : List Tab} {ex : PySem.W.Frag → Bool} {g : Addr → Option Obj} {s : Shared} (h : ∀ a, g a = s.heap.get? a) : obsY n fa fn ts ex g = (hookY n fa fn ts ex).obs s := by
  have e : g = s.heap.get? := funext h
  rw [e] <;> rfl
/-! .. with tables of code objects -/
structure SaysZ (fa : List Fa) (fn : List DefD) (ts : List Tab) (tf : List Defn) (ex : PySem.W.Frag → Bool) (w : World) (h : Heap) (K : PySem.W.Frag) : Prop where
  t : SaysT fa fn ts w K
  more : ex K = true
  hd : ∀ p ∈ tf, PySem.W.codeHdIn K (cT K p).1 (cT K p).2 = true
  out : ∀ p ∈ tf, K.lookup (cT K p).2 = none
  empty : ∀ p ∈ tf, h.get? (cT K p).2 = some { cls := .none, data := .fields #[] }
def obsZ (n : Nat) (fa : List Fa) (fn : List DefD) (ts : List Tab) (tf : List Defn) (ex : PySem.W.Frag → Bool) (g : Addr → Option Obj) : AlX := (obsT fa fn ts (frT g (asY g n)), ex (frT g (asY g n)) && tabsB g tf (frT g (asY g n)))
theorem saysZ_of {n : Nat} {fa : List Fa} {fn : List DefD} {ts : List Tab} {tf : List Defn} {ex : PySem.W.Frag → Bool} {w : World} {h : Heap} (e : obsZ n fa fn ts tf ex h.get? = (valT fn ts w, true)) : SaysZ fa fn ts tf ex w h (frT h.get? (asY h.get? n)) := by
  have e1 : obsT fa fn ts (frT h.get? (asY h.get? n)) = valT fn ts w := congrArg (fun z : AlX => z.1) e
  have e2 : (ex (frT h.get? (asY h.get? n)) && tabsB h.get? tf (frT h.get? (asY h.get? n))) = true := congrArg (fun z : AlX => z.2) e
  obtain ⟨h1, h2⟩ := ba e2
  have key : ∀ p ∈ tf, PySem.W.codeHdIn (frT h.get? (asY h.get? n)) (cT (frT h.get? (asY h.get? n)) p).1 (cT (frT h.get? (asY h.get? n)) p).2 = true ∧ ∃ o, h.get? (cT (frT h.get? (asY h.get? n)) p).2 = some o ∧ emptyTab o = true := fun p hp => by
    obtain ⟨h3, h4⟩ := ba (List.all_eq_true.mp h2 p hp)
    refine ⟨h3, ?_⟩
    cases q : h.get? (cT (frT h.get? (asY h.get? n)) p).2 with
    | none =>
      rw [q] at h4
      cases h4
    | some o =>
      rw [q] at h4
      exact ⟨o, rfl, h4⟩
  exact ⟨e1, h1, fun p hp => (key p hp).1, fun p hp => by
    obtain ⟨_, o, q, z⟩ := key p hp
    exact frT_none q z, fun p hp => by
    obtain ⟨_, o, q, z⟩ := key p hp
    rw [q, emptyTab_eq z]⟩
def hookZ (n : Nat) (fa : List Fa) (fn : List DefD) (ts : List Tab) (tf : List Defn) (ex : PySem.W.Frag → Bool) : PySem.W.Hook where
  α := AlX
  obs := fun s => obsZ n fa fn ts tf ex s.heap.get?
  val := fun w => (valT fn ts w, true)
  says := fun w h => ∃ K : PySem.W.Frag, K.In h ∧ SaysZ fa fn ts tf ex w h K
  of := fun _ _ e => ⟨_, frT_in, saysZ_of e⟩
  keeps := fun _ _ _ ⟨K, hK, c⟩ k => ⟨K, PySem.W.Frag.In.keeps hK k, ⟨c.t, c.more, c.hd, c.out, fun p hp => k _ _ (c.empty p hp)⟩⟩
theorem obsZ_eq {n : Nat} {fa : List Fa} {fn : List DefD} {ts : List Tab} {tf : List Defn} {ex : PySem.W.Frag → Bool} {g : Addr → Option Obj} {s : Shared} (h : ∀ a, g a = s.heap.get? a) : obsZ n fa fn ts tf ex g = (hookZ n fa fn ts tf ex).obs s := by
  have e : g = s.heap.get? := funext h
  rw [e] <;> rfl
/-! the tables of the defs that make a lambda -/
abbrev lamN (q : Str) : Str := (q ++ ".<locals>.") ++ "<lambda>"
def nodB : List Nat → Bool
  | [] => true
  | a :: r => r.all (fun b => !Nat.beq a b) && nodB r
abbrev LfD : Type := List (Defn × Str)
def tabNod (lf : LfD) (K : PySem.W.Frag) : Bool := nodB (lf.map fun p => (cT K p.1).2)
abbrev tsOf (lf : LfD) (K : PySem.W.Frag) : List (Addr × Str) := lf.map fun p => ((cT K p.1).2, lamN p.2)
abbrev tfOf (lf : LfD) : List Defn := lf.map fun p => p.1
abbrev csOf (lf : LfD) (K : PySem.W.Frag) : List (Addr × Addr) := (tfOf lf).map (cT K)
end MI

/-! the defs of the law, as own syntax -/
namespace MI.Law
open MI
/-- fit(width, number); 0 width, 1 number -/
def f_fit : Fn where
  np := 2
  ns := 2
  pn := ["width", "number"]
  body :=
   (.cons (.ret (.bin .BitAnd (.v 1) (.bin .Sub (.bin .LShift (.cI 1) (.v 0)) (.cI 1)))) .nil)
/-- reckoned(width, word, one, other); 0 width, 1 word, 2 one, 3 other -/
def f_reckoned : Fn where
  np := 4
  ns := 4
  pn := ["width", "word", "one", "other"]
  body :=
   (.cons (.ite (.cmp .Eq (.v 1) (.cS "add"))
  (.cons (.ret (.fc "fit" (.cons (.v 0) (.cons (.bin .Add (.v 2) (.v 3)) .nil)))) .nil)
  .nil)
 (.cons (.ite (.cmp .Eq (.v 1) (.cS "sub"))
  (.cons (.ret (.fc "fit" (.cons (.v 0) (.cons (.bin .Sub (.v 2) (.v 3)) .nil)))) .nil)
  .nil)
 (.cons (.ite (.cmp .Eq (.v 1) (.cS "and"))
  (.cons (.ret (.bin .BitAnd (.v 2) (.v 3))) .nil)
  .nil)
 (.cons (.ite (.cmp .Eq (.v 1) (.cS "or"))
  (.cons (.ret (.bin .BitOr (.v 2) (.v 3))) .nil)
  .nil)
 (.cons (.ite (.cmp .Eq (.v 1) (.cS "xor"))
  (.cons (.ret (.bin .BitXor (.v 2) (.v 3))) .nil)
  .nil)
 (.cons (.ite (.cmp .Eq (.v 1) (.cS "not"))
  (.cons (.ret (.fc "fit" (.cons (.v 0) (.cons (.inv (.v 2)) .nil)))) .nil)
  .nil)
 (.cons (.ite (.cmp .Eq (.v 1) (.cS "left"))
  (.cons (.ret (.fc "fit" (.cons (.v 0) (.cons (.bin .Add (.v 2) (.v 2)) .nil)))) .nil)
  .nil)
 (.cons (.ret (.bin .RShift (.v 2) (.cI 1))) .nil))))))))
/-- Terms.__init__(self, width); 0 self, 1 width -/
def f_Terms_o__init : Fn where
  np := 2
  ns := 2
  pn := ["self", "width"]
  pure := false
  body :=
   (.cons (.asg (.fld (.v 0) "width") (.v 1))
 (.cons (.asg (.fld (.v 0) "knots") (.box (.disp .nil)))
 (.cons (.asg (.fld (.v 0) "seen") .dnew) .nil)))
/-- Terms.knot(self, told); 0 self, 1 told -/
def f_Terms_o_knot : Fn where
  np := 2
  ns := 2
  pn := ["self", "told"]
  pure := false
  body :=
   (.cons (.ite (.cmp .In (.v 1) (.fld (.v 0) "seen"))
  (.cons (.ret (.idx (.fld (.v 0) "seen") (.v 1))) .nil)
  .nil)
 (.cons (.ite (.cmp .Eq (.bi "len" (.cons (.fld (.v 0) "knots") .nil)) (.g "MOST_KNOTS"))
  (.cons .never .nil)
  .nil)
 (.cons (.asg (.sub (.fld (.v 0) "seen") (.v 1)) (.bi "len" (.cons (.fld (.v 0) "knots") .nil)))
 (.cons (.app (.fld (.v 0) "knots") (.v 1))
 (.cons (.ret (.idx (.fld (.v 0) "seen") (.v 1))) .nil)))))
/-- Terms.number(self, whole); 0 self, 1 whole -/
def f_Terms_o_number : Fn where
  np := 2
  ns := 2
  pn := ["self", "whole"]
  pure := false
  body :=
   (.cons (.ret (.mth (.v 0) "knot" (.cons (.ktup (.cons (.cS "number") (.cons (.fc "fit" (.cons (.fld (.v 0) "width") (.cons (.v 1) .nil))) .nil))) .nil))) .nil)
/-- Terms.unknown(self, name, which); 0 self, 1 name, 2 which -/
def f_Terms_o_unknown : Fn where
  np := 3
  ns := 3
  pn := ["self", "name", "which"]
  pure := false
  body :=
   (.cons (.ret (.mth (.v 0) "knot" (.cons (.ktup (.cons (.cS "unknown") (.cons (.v 1) (.cons (.v 2) .nil)))) .nil))) .nil)
/-- Terms.known(self, one); 0 self, 1 one, 2 told -/
def f_Terms_o_known : Fn where
  np := 2
  ns := 3
  pn := ["self", "one"]
  body :=
   (.cons (.asg (.nm 2) (.idx (.fld (.v 0) "knots") (.v 1)))
 (.cons (.ite (.cmp .Eq (.idx (.v 2) (.cI 0)) (.cS "number"))
  (.cons (.ret (.idx (.v 2) (.cI 1))) .nil)
  .nil)
 (.cons (.ret .cN) .nil)))
/-- Terms.make(self, word, one, other); 0 self, 1 word, 2 one, 3 other -/
def f_Terms_o_make : Fn where
  np := 4
  ns := 4
  pn := ["self", "word", "one", "other"]
  dv := [.non]
  pure := false
  body :=
   (.cons (.ite (.cmp .Is (.v 3) .cN)
  (.cons (.ret (.mth (.v 0) "make_one" (.cons (.v 1) (.cons (.v 2) .nil)))) .nil)
  .nil)
 (.cons (.ret (.mth (.v 0) "make_two" (.cons (.v 1) (.cons (.v 2) (.cons (.v 3) .nil))))) .nil))
/-- Terms.make_one(self, word, one); 0 self, 1 word, 2 one, 3 whole -/
def f_Terms_o_make_one : Fn where
  np := 3
  ns := 4
  pn := ["self", "word", "one"]
  pure := false
  body :=
   (.cons (.asg (.nm 3) (.mth (.v 0) "known" (.cons (.v 2) .nil)))
 (.cons (.ite (.cmp .IsNot (.v 3) .cN)
  (.cons (.ret (.mth (.v 0) "number" (.cons (.fc "reckoned" (.cons (.fld (.v 0) "width") (.cons (.v 1) (.cons (.v 3) (.cons (.cI 0) .nil))))) .nil))) .nil)
  .nil)
 (.cons (.ite (.band (.cons (.cmp .Eq (.v 1) (.cS "not")) (.cons (.cmp .Eq (.idx (.idx (.fld (.v 0) "knots") (.v 2)) (.cI 0)) (.cS "not")) .nil)))
  (.cons (.ret (.idx (.idx (.fld (.v 0) "knots") (.v 2)) (.cI 1))) .nil)
  .nil)
 (.cons (.ret (.mth (.v 0) "knot" (.cons (.ktup (.cons (.v 1) (.cons (.v 2) .nil))) .nil))) .nil))))
/-- Terms.make_two(self, word, one, other); 0 self, 1 word, 2 one, 3 other, 4 first, 5 second -/
def f_Terms_o_make_two : Fn where
  np := 4
  ns := 6
  pn := ["self", "word", "one", "other"]
  pure := false
  body :=
   (.cons (.asg (.nm 4) (.mth (.v 0) "known" (.cons (.v 2) .nil)))
 (.cons (.asg (.nm 5) (.mth (.v 0) "known" (.cons (.v 3) .nil)))
 (.cons (.ite (.band (.cons (.cmp .IsNot (.v 4) .cN) (.cons (.cmp .IsNot (.v 5) .cN) .nil)))
  (.cons (.ret (.mth (.v 0) "number" (.cons (.fc "reckoned" (.cons (.fld (.v 0) "width") (.cons (.v 1) (.cons (.v 4) (.cons (.v 5) .nil))))) .nil))) .nil)
  .nil)
 (.cons (.ite (.band (.cons (.cmp .Eq (.v 1) (.cS "sub")) (.cons (.cmp .IsNot (.v 5) .cN) .nil)))
  (.cons (.ret (.mth (.v 0) "make_two" (.cons (.cS "add") (.cons (.v 2) (.cons (.mth (.v 0) "number" (.cons (.bin .Sub (.cI 0) (.v 5)) .nil)) .nil))))) .nil)
  .nil)
 (.cons (.ite (.band (.cons (.cmp .In (.v 1) (.g "COMMUTING")) (.cons (.bor (.cons (.cmp .IsNot (.v 4) .cN) (.cons (.band (.cons (.cmp .Is (.v 5) .cN) (.cons (.cmp .Lt (.v 3) (.v 2)) .nil))) .nil))) .nil)))
  (.cons (.ret (.mth (.v 0) "make_sorted" (.cons (.v 1) (.cons (.v 3) (.cons (.v 2) .nil))))) .nil)
  .nil)
 (.cons (.ret (.mth (.v 0) "make_sorted" (.cons (.v 1) (.cons (.v 2) (.cons (.v 3) .nil))))) .nil))))))
/-- Terms.make_sorted(self, word, one, other); 0 self, 1 word, 2 one, 3 other, 4 whole, 5 told, 6 more -/
def f_Terms_o_make_sorted : Fn where
  np := 4
  ns := 7
  pn := ["self", "word", "one", "other"]
  pure := false
  body :=
   (.cons (.ite (.cmp .Eq (.v 2) (.v 3))
  (.cons (.ite (.bor (.cons (.cmp .Eq (.v 1) (.cS "sub")) (.cons (.cmp .Eq (.v 1) (.cS "xor")) .nil)))
   (.cons (.ret (.mth (.v 0) "number" (.cons (.cI 0) .nil))) .nil)
   .nil)
  (.cons (.ite (.bor (.cons (.cmp .Eq (.v 1) (.cS "and")) (.cons (.cmp .Eq (.v 1) (.cS "or")) .nil)))
   (.cons (.ret (.v 2)) .nil)
   .nil) .nil))
  .nil)
 (.cons (.asg (.nm 4) (.mth (.v 0) "known" (.cons (.v 3) .nil)))
 (.cons (.ite (.cmp .Eq (.v 4) (.cI 0))
  (.cons (.ite (.cmp .Eq (.v 1) (.cS "and"))
   (.cons (.ret (.v 3)) .nil)
   .nil)
  (.cons (.ret (.v 2)) .nil))
  .nil)
 (.cons (.asg (.nm 5) (.idx (.fld (.v 0) "knots") (.v 2)))
 (.cons (.ite (.band (.cons (.cmp .Eq (.v 1) (.cS "add")) (.cons (.cmp .IsNot (.v 4) .cN) (.cons (.cmp .Eq (.idx (.v 5) (.cI 0)) (.cS "add")) .nil))))
  (.cons (.asg (.nm 6) (.mth (.v 0) "known" (.cons (.idx (.v 5) (.cI 2)) .nil)))
  (.cons (.ite (.cmp .IsNot (.v 6) .cN)
   (.cons (.ret (.mth (.v 0) "make_two" (.cons (.cS "add") (.cons (.idx (.v 5) (.cI 1)) (.cons (.mth (.v 0) "number" (.cons (.bin .Add (.v 6) (.v 4)) .nil)) .nil))))) .nil)
   .nil) .nil))
  .nil)
 (.cons (.ret (.mth (.v 0) "knot" (.cons (.ktup (.cons (.v 1) (.cons (.v 2) (.cons (.v 3) .nil)))) .nil))) .nil))))))
/-- _law_cell_at(_law_script, _law_k); 0 _law_script, 1 _law_k -/
def g_law_cell_at : Fn where
  np := 2
  ns := 2
  pn := ["_law_script", "_law_k"]
  body :=
   (.cons (.ite (.cmp .Lt (.v 1) (.bi "len" (.cons (.v 0) .nil)))
  (.cons (.ret (.idx (.v 0) (.v 1))) .nil)
  .nil)
 (.cons (.ret (.cI 0)) .nil))
/-- _law_is_row(_law_cell); 0 _law_cell -/
def g_law_is_row : Fn where
  np := 1
  ns := 1
  pn := ["_law_cell"]
  body :=
   (.cons (.ret (.band (.cons (.cmp .GtE (.v 0) (.bin .LShift (.cI 1) (.cI 90))) (.cons (.cmp .Eq (.bin .Mod (.v 0) (.cI 2)) (.cI 1)) .nil)))) .nil)
/-- _law_mixed(_law_cell, _law_k); 0 _law_cell, 1 _law_k, 2 _law_number_here -/
def g_law_mixed : Fn where
  np := 2
  ns := 3
  pn := ["_law_cell", "_law_k"]
  body :=
   (.cons (.ite (.band (.cons (.fc "_law_is_row" (.cons (.v 0) .nil)) (.cons (.cmp .Gt (.bin .RShift (.v 0) (.bin .Add (.cI 1) (.bin .Mult (.cI 31) (.v 1)))) (.cI 0)) .nil)))
  (.cons (.ret (.bin .Mod (.bin .RShift (.v 0) (.bin .Add (.cI 1) (.bin .Mult (.cI 31) (.v 1)))) (.cI 2147483648))) .nil)
  .nil)
 (.cons (.asg (.nm 2) (.bin .Mod (.bin .Mult (.bin .Add (.bin .Add (.v 0) (.bin .Mult (.cI 7919) (.v 1))) (.cI 1)) (.cI 48271)) (.cI 2147483647)))
 (.cons (.asg (.nm 2) (.bin .Mod (.bin .Mult (.v 2) (.bin .Add (.bin .FloorDiv (.v 2) (.cI 1009)) (.cI 69621))) (.cI 2147483647)))
 (.cons (.ret (.bin .Mod (.bin .Mult (.v 2) (.bin .Add (.bin .Add (.bin .FloorDiv (.v 2) (.cI 2003)) (.cI 39373)) (.v 1))) (.cI 2147483629))) .nil))))
/-- _law_number(_law_cell, _law_k, _law_width); 0 _law_cell, 1 _law_k, 2 _law_width, 3 _law_number_here, 4 _law_large -/
def g_law_number : Fn where
  np := 3
  ns := 5
  pn := ["_law_cell", "_law_k", "_law_width"]
  body :=
   (.cons (.asg (.nm 3) (.fc "_law_mixed" (.cons (.v 0) (.cons (.v 1) .nil))))
 (.cons (.asg (.nm 4) (.bin .Mod (.bin .Mult (.bin .Mult (.bin .FloorDiv (.v 3) (.cI 4)) (.cI 48271)) (.cI 69621)) (.bin .LShift (.cI 1) (.v 2))))
 (.cons (.ite (.fc "_law_is_row" (.cons (.v 0) .nil))
  (.cons (.asg (.nm 4) (.bin .Mod (.bin .Add (.fc "_law_mixed" (.cons (.v 0) (.cons (.bin .Add (.cI 200) (.bin .Mult (.cI 2) (.v 1))) .nil))) (.bin .LShift (.fc "_law_mixed" (.cons (.v 0) (.cons (.bin .Add (.cI 201) (.bin .Mult (.cI 2) (.v 1))) .nil))) (.cI 31))) (.bin .LShift (.cI 1) (.v 2)))) .nil)
  .nil)
 (.cons (.ret (.idx (.frz (.disp (.cons (.bin .Mod (.bin .Mod (.bin .FloorDiv (.v 3) (.cI 8)) (.cI 301)) (.bin .LShift (.cI 1) (.v 2))) (.cons (.bin .Sub (.bin .Sub (.bin .LShift (.cI 1) (.v 2)) (.cI 1)) (.bin .Mod (.bin .FloorDiv (.v 3) (.cI 8)) (.cI 3))) (.cons (.v 4) (.cons (.cI 0) .nil)))))) (.bin .Mod (.v 3) (.cI 4)))) .nil))))
/-- _law_term(_law_terms, _law_cell, _law_width); 0 _law_terms, 1 _law_cell, 2 _law_width, 3 _law_number_here, 4 _law_one, 5 _law_other -/
def g_law_term : Fn where
  np := 3
  ns := 6
  pn := ["_law_terms", "_law_cell", "_law_width"]
  pure := false
  body :=
   (.cons (.asg (.nm 3) (.fc "_law_mixed" (.cons (.v 1) (.cons (.cI 1) .nil))))
 (.cons (.ite (.cmp .Eq (.bin .Mod (.v 3) (.cI 5)) (.cI 0))
  (.cons (.ret (.mth (.v 0) "number" (.cons (.fc "_law_number" (.cons (.v 1) (.cons (.cI 2) (.cons (.v 2) .nil)))) .nil))) .nil)
  .nil)
 (.cons (.asg (.nm 4) (.mth (.v 0) "unknown" (.cons (.idx (.frz (.disp (.cons (.cS "box") (.cons (.cS "got") (.cons (.cS "bits") .nil))))) (.bin .Mod (.bin .FloorDiv (.v 3) (.cI 5)) (.cI 3))) (.cons (.bin .Mod (.bin .FloorDiv (.v 3) (.cI 15)) (.cI 8)) .nil))))
 (.cons (.ite (.cmp .Eq (.bin .Mod (.v 3) (.cI 5)) (.cI 1))
  (.cons (.ret (.mth (.v 0) "make" (.cons (.cS "add") (.cons (.v 4) (.cons (.mth (.v 0) "number" (.cons (.fc "_law_number" (.cons (.v 1) (.cons (.cI 3) (.cons (.v 2) .nil)))) .nil)) .nil))))) .nil)
  .nil)
 (.cons (.ite (.cmp .Eq (.bin .Mod (.v 3) (.cI 5)) (.cI 2))
  (.cons (.ret (.v 4)) .nil)
  .nil)
 (.cons (.asg (.nm 5) (.mth (.v 0) "unknown" (.cons (.cS "box") (.cons (.bin .Mod (.bin .FloorDiv (.v 3) (.cI 120)) (.cI 8)) .nil))))
 (.cons (.ret (.mth (.v 0) "make" (.cons (.idx (.frz (.disp (.cons (.cS "add") (.cons (.cS "sub") (.cons (.cS "and") (.cons (.cS "or") (.cons (.cS "xor") (.cons (.cS "sub") .nil)))))))) (.bin .Mod (.bin .FloorDiv (.v 3) (.cI 960)) (.cI 6))) (.cons (.v 4) (.cons (.v 5) .nil))))) .nil)))))))
/-- _law_nothing_done(_law_terms, _law_x); 0 _law_terms, 1 _law_x, 2 _law_zero, 3 _law_found, 4 _law_word -/
def g_law_nothing_done : Fn where
  np := 2
  ns := 5
  pn := ["_law_terms", "_law_x"]
  pure := false
  body :=
   (.cons (.asg (.nm 2) (.mth (.v 0) "number" (.cons (.cI 0) .nil)))
 (.cons (.asg (.nm 3) (.frz (.comp (.mth (.v 0) "make" (.cons (.v 4) (.cons (.v 1) (.cons (.v 2) .nil)))) (.nm 4) (.seq (.tup (.cons (.cS "add") (.cons (.cS "sub") (.cons (.cS "or") (.cons (.cS "xor") .nil)))))) (.cB true) [4])))
 (.cons (.asg (.nm 3) (.frz (.cat (.v 3) (.frz (.disp (.cons (.mth (.v 0) "make" (.cons (.cS "add") (.cons (.v 2) (.cons (.v 1) .nil)))) (.cons (.mth (.v 0) "make" (.cons (.cS "or") (.cons (.v 2) (.cons (.v 1) .nil)))) (.cons (.mth (.v 0) "make" (.cons (.cS "xor") (.cons (.v 2) (.cons (.v 1) .nil)))) .nil))))))))
 (.cons (.asg (.nm 3) (.frz (.cat (.v 3) (.frz (.disp (.cons (.mth (.v 0) "make" (.cons (.cS "and") (.cons (.v 1) (.cons (.v 1) .nil)))) (.cons (.mth (.v 0) "make" (.cons (.cS "or") (.cons (.v 1) (.cons (.v 1) .nil)))) (.cons (.mtd (.v 0) "make" "Terms.make" (.cons (.cS "not") (.cons (.mtd (.v 0) "make" "Terms.make" (.cons (.cS "not") (.cons (.v 1) .nil))) .nil))) .nil))))))))
 (.cons (.ret (.cmp .Eq (.v 3) (.frz (.rep (.frz (.disp (.cons (.v 1) .nil))) (.bi "len" (.cons (.v 3) .nil)))))) .nil)))))
/-- _law_nought(_law_terms, _law_x); 0 _law_terms, 1 _law_x, 2 _law_zero, 3 _law_found -/
def g_law_nought : Fn where
  np := 2
  ns := 4
  pn := ["_law_terms", "_law_x"]
  pure := false
  body :=
   (.cons (.asg (.nm 2) (.mth (.v 0) "number" (.cons (.cI 0) .nil)))
 (.cons (.asg (.nm 3) (.frz (.disp (.cons (.mth (.v 0) "make" (.cons (.cS "sub") (.cons (.v 1) (.cons (.v 1) .nil)))) (.cons (.mth (.v 0) "make" (.cons (.cS "xor") (.cons (.v 1) (.cons (.v 1) .nil)))) (.cons (.mth (.v 0) "make" (.cons (.cS "and") (.cons (.v 1) (.cons (.v 2) .nil)))) (.cons (.mth (.v 0) "make" (.cons (.cS "and") (.cons (.v 2) (.cons (.v 1) .nil)))) .nil)))))))
 (.cons (.ret (.cmp .Eq (.v 3) (.frz (.disp (.cons (.v 2) (.cons (.v 2) (.cons (.v 2) (.cons (.v 2) .nil)))))))) .nil)))
/-- _law_numbers(_law_terms, _law_x, _law_first, _law_second, _law_width); 0 _law_terms, 1 _law_x, 2 _law_first, 3 _law_second, 4 _law_width, 5 _law_most, 6 _law_one, 7 _law_other, 8 _law_both, 9 _law_found, 10 _law_due -/
def g_law_numbers : Fn where
  np := 5
  ns := 11
  pn := ["_law_terms", "_law_x", "_law_first", "_law_second", "_law_width"]
  pure := false
  body :=
   (.cons (.asg (.nm 5) (.bin .LShift (.cI 1) (.v 4)))
 (.cons (.asg (.nm 6) (.mth (.v 0) "number" (.cons (.v 2) .nil)))
 (.cons (.asg (.nm 7) (.mth (.v 0) "number" (.cons (.v 3) .nil)))
 (.cons (.ite (.bor (.cons (.cmp .NotEq (.mth (.v 0) "number" (.cons (.bin .Add (.v 2) (.v 5)) .nil)) (.v 6)) (.cons (.cmp .NotEq (.mth (.v 0) "number" (.cons (.bin .Sub (.v 2) (.bin .Mult (.cI 3) (.v 5))) .nil)) (.v 6)) .nil)))
  (.cons (.ret (.cB false)) .nil)
  .nil)
 (.cons (.ite (.cmp .NotEq (.cmp .Eq (.v 6) (.v 7)) (.cmp .Eq (.v 2) (.v 3)))
  (.cons (.ret (.cB false)) .nil)
  .nil)
 (.cons (.ite (.cmp .NotEq (.mth (.v 0) "make" (.cons (.cS "sub") (.cons (.v 1) (.cons (.v 6) .nil)))) (.mth (.v 0) "make" (.cons (.cS "add") (.cons (.v 1) (.cons (.mth (.v 0) "number" (.cons (.bin .Sub (.cI 0) (.v 2)) .nil)) .nil)))))
  (.cons (.ret (.cB false)) .nil)
  .nil)
 (.cons (.asg (.nm 8) (.mth (.v 0) "make" (.cons (.cS "add") (.cons (.v 1) (.cons (.mth (.v 0) "number" (.cons (.bin .Add (.v 2) (.v 3)) .nil)) .nil)))))
 (.cons (.ite (.cmp .NotEq (.mth (.v 0) "make" (.cons (.cS "add") (.cons (.mth (.v 0) "make" (.cons (.cS "add") (.cons (.v 1) (.cons (.v 6) .nil)))) (.cons (.v 7) .nil)))) (.v 8))
  (.cons (.ret (.cB false)) .nil)
  .nil)
 (.cons (.asg (.nm 9) (.frz (.disp (.cons (.mth (.v 0) "make" (.cons (.cS "add") (.cons (.v 6) (.cons (.v 7) .nil)))) (.cons (.mth (.v 0) "make" (.cons (.cS "sub") (.cons (.v 6) (.cons (.v 7) .nil)))) (.cons (.mth (.v 0) "make" (.cons (.cS "and") (.cons (.v 6) (.cons (.v 7) .nil)))) .nil))))))
 (.cons (.asg (.nm 10) (.frz (.disp (.cons (.mth (.v 0) "number" (.cons (.bin .Add (.v 2) (.v 3)) .nil)) (.cons (.mth (.v 0) "number" (.cons (.bin .Sub (.v 2) (.v 3)) .nil)) (.cons (.mth (.v 0) "number" (.cons (.bin .BitAnd (.v 2) (.v 3)) .nil)) .nil))))))
 (.cons (.asg (.nm 9) (.frz (.cat (.v 9) (.frz (.disp (.cons (.mth (.v 0) "make" (.cons (.cS "or") (.cons (.v 6) (.cons (.v 7) .nil)))) (.cons (.mth (.v 0) "make" (.cons (.cS "xor") (.cons (.v 6) (.cons (.v 7) .nil)))) (.cons (.mtd (.v 0) "make" "Terms.make" (.cons (.cS "not") (.cons (.v 6) .nil))) .nil))))))))
 (.cons (.asg (.nm 10) (.frz (.cat (.v 10) (.frz (.disp (.cons (.mth (.v 0) "number" (.cons (.bin .BitOr (.v 2) (.v 3)) .nil)) (.cons (.mth (.v 0) "number" (.cons (.bin .BitXor (.v 2) (.v 3)) .nil)) (.cons (.mth (.v 0) "number" (.cons (.bin .Sub (.bin .Sub (.v 5) (.cI 1)) (.v 2)) .nil)) .nil))))))))
 (.cons (.asg (.nm 9) (.frz (.cat (.v 9) (.frz (.disp (.cons (.mtd (.v 0) "make" "Terms.make" (.cons (.cS "left") (.cons (.v 6) .nil))) (.cons (.mtd (.v 0) "make" "Terms.make" (.cons (.cS "right") (.cons (.v 6) .nil))) .nil)))))))
 (.cons (.ret (.cmp .Eq (.v 9) (.frz (.cat (.v 10) (.frz (.disp (.cons (.mth (.v 0) "number" (.cons (.bin .Mult (.cI 2) (.v 2)) .nil)) (.cons (.mth (.v 0) "number" (.cons (.bin .FloorDiv (.v 2) (.cI 2)) .nil)) .nil)))))))) .nil))))))))))))))
def f_law_b1 : Ss :=
   (.cons (.ite (.cmp .NotEq (.mth (.v 2) "make" (.cons (.v 5) (.cons (.v 3) (.cons (.v 4) .nil)))) (.mth (.v 2) "make" (.cons (.v 5) (.cons (.v 4) (.cons (.v 3) .nil)))))
  (.cons (.ret (.cB false)) .nil)
  .nil) .nil)
/-- law(_law_script); 0 _law_script, 1 _law_width, 2 _law_terms, 3 _law_x, 4 _law_y, 5 _law_word, 6 _law_first, 7 _law_second, 8 _law_unknown, 9 _law_k -/
def f_law : Fn where
  np := 1
  ns := 10
  pn := ["_law_script"]
  body :=
   (.cons (.asg (.nm 1) (.idx (.frz (.disp (.cons (.cI 8) (.cons (.cI 16) (.cons (.cI 32) .nil))))) (.bin .Mod (.fc "_law_cell_at" (.cons (.v 0) (.cons (.cI 0) .nil))) (.cI 3))))
 (.cons (.asg (.nm 2) (.mk "Terms" (.cons (.v 1) .nil)))
 (.cons (.asg (.nm 3) (.fc "_law_term" (.cons (.v 2) (.cons (.fc "_law_cell_at" (.cons (.v 0) (.cons (.cI 1) .nil))) (.cons (.v 1) .nil)))))
 (.cons (.asg (.nm 4) (.fc "_law_term" (.cons (.v 2) (.cons (.fc "_law_cell_at" (.cons (.v 0) (.cons (.cI 2) .nil))) (.cons (.v 1) .nil)))))
 (.cons (.ite (.cmp .NotEq (.fc "_law_term" (.cons (.v 2) (.cons (.fc "_law_cell_at" (.cons (.v 0) (.cons (.cI 1) .nil))) (.cons (.v 1) .nil)))) (.v 3))
  (.cons (.ret (.cB false)) .nil)
  .nil)
 (.cons (.for_ (.nm 5) (.seq (.tup (.cons (.cS "add") (.cons (.cS "and") (.cons (.cS "or") (.cons (.cS "xor") .nil)))))) f_law_b1)
 (.cons (.ite (.bor (.cons (.not (.fc "_law_nothing_done" (.cons (.v 2) (.cons (.v 3) .nil)))) (.cons (.not (.fc "_law_nought" (.cons (.v 2) (.cons (.v 4) .nil)))) .nil)))
  (.cons (.ret (.cB false)) .nil)
  .nil)
 (.cons (.asg (.nm 6) (.fc "_law_number" (.cons (.fc "_law_cell_at" (.cons (.v 0) (.cons (.cI 3) .nil))) (.cons (.cI 3) (.cons (.v 1) .nil)))))
 (.cons (.asg (.nm 7) (.fc "_law_number" (.cons (.fc "_law_cell_at" (.cons (.v 0) (.cons (.cI 4) .nil))) (.cons (.cI 4) (.cons (.v 1) .nil)))))
 (.cons (.ite (.cmp .Eq (.bin .Mod (.fc "_law_cell_at" (.cons (.v 0) (.cons (.cI 5) .nil))) (.cI 8)) (.cI 3))
  (.cons (.asg (.nm 7) (.bin .Mod (.bin .Sub (.cI 0) (.v 6)) (.bin .LShift (.cI 1) (.v 1)))) .nil)
  .nil)
 (.cons (.ite (.not (.fc "_law_numbers" (.cons (.v 2) (.cons (.v 3) (.cons (.v 6) (.cons (.v 7) (.cons (.v 1) .nil)))))))
  (.cons (.ret (.cB false)) .nil)
  .nil)
 (.cons (.asg (.nm 8) (.frz (.cat (.frz (.comp (.mth (.v 2) "unknown" (.cons (.cS "box") (.cons (.v 9) .nil))) (.nm 9) (.rng (.cons (.cI 8) .nil)) (.cB true) [9])) (.frz (.disp (.cons (.mth (.v 2) "unknown" (.cons (.cS "got") (.cons (.cI 0) .nil))) (.cons (.mth (.v 2) "unknown" (.cons (.cS "bits") (.cons (.cI 0) .nil))) .nil)))))))
 (.cons (.ret (.band (.cons (.cmp .Eq (.lset (.v 8)) (.cI 10)) (.cons (.cmp .Eq (.mth (.v 2) "unknown" (.cons (.cS "box") (.cons (.cI 3) .nil))) (.idx (.v 8) (.cI 3))) .nil)))) .nil)))))))))))))
def fnL : List (String × Fn) := [("fit", f_fit),
  ("reckoned", f_reckoned),
  ("Terms.__init__", f_Terms_o__init),
  ("Terms.knot", f_Terms_o_knot),
  ("Terms.number", f_Terms_o_number),
  ("Terms.unknown", f_Terms_o_unknown),
  ("Terms.known", f_Terms_o_known),
  ("Terms.make", f_Terms_o_make),
  ("Terms.make_one", f_Terms_o_make_one),
  ("Terms.make_two", f_Terms_o_make_two),
  ("Terms.make_sorted", f_Terms_o_make_sorted),
  ("_law_cell_at", g_law_cell_at),
  ("_law_is_row", g_law_is_row),
  ("_law_mixed", g_law_mixed),
  ("_law_number", g_law_number),
  ("_law_term", g_law_term),
  ("_law_nothing_done", g_law_nothing_done),
  ("_law_nought", g_law_nought),
  ("_law_numbers", g_law_numbers),
  ("law", f_law)]
def gloG : List (String × D) := [("COMMUTING", .tup [.str "add", .str "and", .str "or", .str "xor"]), ("MOST_KNOTS", .int 400)]
def tabG : List (String × List D) := []
def gloL : List (String × D) := gloG ++ tabG.map fun q => (q.1, .lst q.2)
def I_Terms : ClsI := ⟨[("__init__", "Terms.__init__"), ("make", "Terms.make"), ("unknown", "Terms.unknown"), ("number", "Terms.number"), ("make_one", "Terms.make_one"), ("make_two", "Terms.make_two"), ("knot", "Terms.knot"), ("known", "Terms.known"), ("make_sorted", "Terms.make_sorted")], ["width", "knots", "seen"], ["Terms"]⟩
def clsL : List (String × ClsI) := [("Terms", I_Terms)]
def xcL : List (String × List String) := []
def P : Prog := ⟨fun c => clsL.lookup c, fun x => gloL.lookup x, fun f => fnL.lookup f, fun c => xcL.lookup c⟩
theorem cls_Terms : P.cls "Terms" = some I_Terms := by rfl
theorem fnf_fit : P.fns "fit" = some f_fit := by rfl
theorem fnf_reckoned : P.fns "reckoned" = some f_reckoned := by rfl
theorem fnf_Terms_o__init : P.fns "Terms.__init__" = some f_Terms_o__init := by rfl
theorem fnf_Terms_o_knot : P.fns "Terms.knot" = some f_Terms_o_knot := by rfl
theorem fnf_Terms_o_number : P.fns "Terms.number" = some f_Terms_o_number := by rfl
theorem fnf_Terms_o_unknown : P.fns "Terms.unknown" = some f_Terms_o_unknown := by rfl
theorem fnf_Terms_o_known : P.fns "Terms.known" = some f_Terms_o_known := by rfl
theorem fnf_Terms_o_make : P.fns "Terms.make" = some f_Terms_o_make := by rfl
theorem fnf_Terms_o_make_one : P.fns "Terms.make_one" = some f_Terms_o_make_one := by rfl
theorem fnf_Terms_o_make_two : P.fns "Terms.make_two" = some f_Terms_o_make_two := by rfl
theorem fnf_Terms_o_make_sorted : P.fns "Terms.make_sorted" = some f_Terms_o_make_sorted := by rfl
theorem fng_law_cell_at : P.fns "_law_cell_at" = some g_law_cell_at := by rfl
theorem fng_law_is_row : P.fns "_law_is_row" = some g_law_is_row := by rfl
theorem fng_law_mixed : P.fns "_law_mixed" = some g_law_mixed := by rfl
theorem fng_law_number : P.fns "_law_number" = some g_law_number := by rfl
theorem fng_law_term : P.fns "_law_term" = some g_law_term := by rfl
theorem fng_law_nothing_done : P.fns "_law_nothing_done" = some g_law_nothing_done := by rfl
theorem fng_law_nought : P.fns "_law_nought" = some g_law_nought := by rfl
theorem fng_law_numbers : P.fns "_law_numbers" = some g_law_numbers := by rfl
theorem fnf_law : P.fns "law" = some f_law := by rfl
theorem glo_COMMUTING : P.glo "COMMUTING" = some (.tup [.str "add", .str "and", .str "or", .str "xor"]) := by rfl
theorem glo_MOST_KNOTS : P.glo "MOST_KNOTS" = some (.int 400) := by rfl
end MI.Law

set_option maxHeartbeats 0
namespace MI.Law
open PySem PySem.Spec PyProof.Rows L2 MI
abbrev Rr : PySem.W.OpenRow := PySem.W.OpenLaw.row PySem.Challenge.rw_hostturn_k42_like_terms
abbrev prog : Program := PySem.Challenge.pw_hostturn_k42_like_terms
def top (i : Nat) : Stmt := prog.main.body.getD i (.Pass ⟨0, 0, 0, 0⟩)
def mem (i j : Nat) : Stmt := match top i with
  | .ClassDef _ _ _ b _ _ _ _ _ _ _ => b.getD j (.Pass ⟨0, 0, 0, 0⟩)
  | s => s
def df_fit : He.DefD := ⟨("fit", none), "fit", "fit", defArgs (top 5), defBody (top 5), defScope (top 5), [], []⟩
def df_reckoned : He.DefD := ⟨("reckoned", none), "reckoned", "reckoned", defArgs (top 6), defBody (top 6), defScope (top 6), [], []⟩
def df_Terms_o__init : He.DefD := ⟨("Terms", some "__init__"), "__init__", "Terms.__init__", defArgs (mem 10 0), defBody (mem 10 0), defScope (mem 10 0), [], []⟩
def df_Terms_o_knot : He.DefD := ⟨("Terms", some "knot"), "knot", "Terms.knot", defArgs (mem 10 1), defBody (mem 10 1), defScope (mem 10 1), [], []⟩
def df_Terms_o_number : He.DefD := ⟨("Terms", some "number"), "number", "Terms.number", defArgs (mem 10 2), defBody (mem 10 2), defScope (mem 10 2), [], []⟩
def df_Terms_o_unknown : He.DefD := ⟨("Terms", some "unknown"), "unknown", "Terms.unknown", defArgs (mem 10 3), defBody (mem 10 3), defScope (mem 10 3), [], []⟩
def df_Terms_o_known : He.DefD := ⟨("Terms", some "known"), "known", "Terms.known", defArgs (mem 10 4), defBody (mem 10 4), defScope (mem 10 4), [], []⟩
def df_Terms_o_make : He.DefD := ⟨("Terms", some "make"), "make", "Terms.make", defArgs (mem 10 5), defBody (mem 10 5), defScope (mem 10 5), [.non], []⟩
def df_Terms_o_make_one : He.DefD := ⟨("Terms", some "make_one"), "make_one", "Terms.make_one", defArgs (mem 10 6), defBody (mem 10 6), defScope (mem 10 6), [], []⟩
def df_Terms_o_make_two : He.DefD := ⟨("Terms", some "make_two"), "make_two", "Terms.make_two", defArgs (mem 10 7), defBody (mem 10 7), defScope (mem 10 7), [], []⟩
def df_Terms_o_make_sorted : He.DefD := ⟨("Terms", some "make_sorted"), "make_sorted", "Terms.make_sorted", defArgs (mem 10 8), defBody (mem 10 8), defScope (mem 10 8), [], []⟩
def dg_law_cell_at : He.DefD := ⟨("_law_cell_at", none), "_law_cell_at", "_law_cell_at", defArgs (top 12), defBody (top 12), defScope (top 12), [], []⟩
def dg_law_is_row : He.DefD := ⟨("_law_is_row", none), "_law_is_row", "_law_is_row", defArgs (top 13), defBody (top 13), defScope (top 13), [], []⟩
def dg_law_mixed : He.DefD := ⟨("_law_mixed", none), "_law_mixed", "_law_mixed", defArgs (top 14), defBody (top 14), defScope (top 14), [], []⟩
def dg_law_number : He.DefD := ⟨("_law_number", none), "_law_number", "_law_number", defArgs (top 15), defBody (top 15), defScope (top 15), [], []⟩
def dg_law_term : He.DefD := ⟨("_law_term", none), "_law_term", "_law_term", defArgs (top 16), defBody (top 16), defScope (top 16), [], []⟩
def dg_law_nothing_done : He.DefD := ⟨("_law_nothing_done", none), "_law_nothing_done", "_law_nothing_done", defArgs (top 17), defBody (top 17), defScope (top 17), [], []⟩
def dg_law_nought : He.DefD := ⟨("_law_nought", none), "_law_nought", "_law_nought", defArgs (top 18), defBody (top 18), defScope (top 18), [], []⟩
def dg_law_numbers : He.DefD := ⟨("_law_numbers", none), "_law_numbers", "_law_numbers", defArgs (top 19), defBody (top 19), defScope (top 19), [], []⟩
def df_law : He.DefD := ⟨("law", none), "law", "law", defArgs (top 20), defBody (top 20), defScope (top 20), [], []⟩
def fnD : List He.DefD := [df_fit, df_reckoned, df_Terms_o__init, df_Terms_o_knot, df_Terms_o_number, df_Terms_o_unknown, df_Terms_o_known, df_Terms_o_make, df_Terms_o_make_one, df_Terms_o_make_two, df_Terms_o_make_sorted, dg_law_cell_at, dg_law_is_row, dg_law_mixed, dg_law_number, dg_law_term, dg_law_nothing_done, dg_law_nought, dg_law_numbers, df_law]
def atL : List (String × (Str × Option Str)) := [("fit", (("fit", none) : Str × Option Str)), ("reckoned", (("reckoned", none) : Str × Option Str)), ("Terms.__init__", (("Terms", some "__init__") : Str × Option Str)), ("Terms.knot", (("Terms", some "knot") : Str × Option Str)), ("Terms.number", (("Terms", some "number") : Str × Option Str)), ("Terms.unknown", (("Terms", some "unknown") : Str × Option Str)), ("Terms.known", (("Terms", some "known") : Str × Option Str)), ("Terms.make", (("Terms", some "make") : Str × Option Str)), ("Terms.make_one", (("Terms", some "make_one") : Str × Option Str)), ("Terms.make_two", (("Terms", some "make_two") : Str × Option Str)), ("Terms.make_sorted", (("Terms", some "make_sorted") : Str × Option Str)), ("_law_cell_at", (("_law_cell_at", none) : Str × Option Str)), ("_law_is_row", (("_law_is_row", none) : Str × Option Str)), ("_law_mixed", (("_law_mixed", none) : Str × Option Str)), ("_law_number", (("_law_number", none) : Str × Option Str)), ("_law_term", (("_law_term", none) : Str × Option Str)), ("_law_nothing_done", (("_law_nothing_done", none) : Str × Option Str)), ("_law_nought", (("_law_nought", none) : Str × Option Str)), ("_law_numbers", (("_law_numbers", none) : Str × Option Str)), ("law", (("law", none) : Str × Option Str))]
def atT (f : String) : Str × Option Str := (atL.lookup f).getD (Str.empty, none)
def faD : List He.Fa := [.glo "fit", .glo "reckoned", .glo "_law_cell_at", .glo "_law_is_row", .glo "_law_mixed", .glo "_law_number", .glo "_law_term", .glo "_law_nothing_done", .glo "_law_nought", .glo "_law_numbers", .glo "law", .free "range", .free "len", .free "set"]
def tsD : List He.Tab := []
def exD (K : PySem.W.Frag) : Bool := gloG.all (fun q => gloB K q.1 q.2) && (tabG.all (fun q => rowsB K (He.ga K q.1) q.2) && (clsL.all (clsB K [] ["Terms"] atT) && (xcL.all (xcB K []) && ([] : List String).all (fun c => (nmV K c).isSome))))
abbrev hk : PySem.W.Hook := MI.hookY 4 faD fnD tsD exD
def ob (s : PySem.W.SharedT) : He.AlX := MI.obsY 4 faD fnD tsD exD (HandSHeadRun.getT s)
theorem ob_eq (s : PySem.W.SharedT) : ob s = hk.obs s.abs := MI.obsY_eq (HandSHeadRun.getT_eq s)
def names0 : List PySem.Str := ["_wall", "HostError", "TooMany", "fit", "reckoned", "MOST_KNOTS", "COMMUTING", "Terms", "_law_cell_at", "_law_is_row", "_law_mixed", "_law_number", "_law_term", "_law_nothing_done", "_law_nought", "_law_numbers"]
def names : List PySem.Str := names0
theorem optX {α : Type} {o : Option α} {f : α → He.AlX} {l : List He.FnW} {t : List (Option (List (Option (Str × Int))))} (h1 : o.map (fun s => (f s).1.1.1) = some true) (h2 : o.map (fun s => ((f s).1.2, (f s).2)) = some (t, true)) (h3 : o.map (fun s => (f s).1.1.2) = some l) : o.map (fun s => f s) = some (((true, l), t), true) := by
  cases o with
  | none => cases h1
  | some v =>
    have e1 : (f v).1.1.1 = true := Option.some.inj h1
    have e2 : ((f v).1.2, (f v).2) = (t, true) := Option.some.inj h2
    have e3 : (f v).1.1.2 = l := Option.some.inj h3
    show some (f v) = _
    generalize f v = z at *
    obtain ⟨⟨⟨a, b⟩, c⟩, d⟩ := z
    have e4 : a = true := e1
    have e6 : b = l := e3
    have e5 : (c, d) = (t, true) := e2
    have e7 : c = t := congrArg (fun z => z.1) e5
    have e8 : d = true := congrArg (fun z => z.2) e5
    rw [e4, e6, e7, e8] <;> rfl
theorem optH {α β : Type} {o : Option α} {f : α → List β} {m : Nat} {l : List β} (h2 : o.map (fun s => (f s).take m) = some (l.take m)) (h3 : o.map (fun s => (f s).drop m) = some (l.drop m)) : o.map (fun s => f s) = some l := by
  cases o with
  | none => cases h2
  | some v =>
    have e2 : (f v).take m = l.take m := Option.some.inj h2
    have e3 : (f v).drop m = l.drop m := Option.some.inj h3
    show some (f v) = _
    rw [← List.take_append_drop m (f v), e2, e3, List.take_append_drop] <;> rfl
theorem opt2 {α β γ δ : Type} {o : Option α} {a : α → β} {b : α → γ} {c : α → δ} {x : β} {y : γ} {z : δ} (h1 : o.map (fun s => (a s, b s)) = some (x, y)) (h3 : o.map c = some z) : o.map (fun s => (a s, b s, c s)) = some (x, y, z) := by
  cases o with
  | none => cases h1
  | some v =>
    have e1 : (a v, b v) = (x, y) := Option.some.inj h1
    have e3 := Option.some.inj h3
    cases e1
    rw [← e3] <;> rfl
section
open HandSHeadRun PySem.W PySem.Calls
noncomputable abbrev eF (w : World) (os : OsState) := endF (stepQ (denQ tabQ) Rr.prog w) 20000 Rr.prog w os
abbrev qF : Program := PySem.W.view Rr.prog [20]
theorem runF1 (w : World) (os : OsState) : (eF (w.withFollow "special-get-raises" false) os).map (fun s => (looksF Rr.prog (boot_heap (w.withFollow "special-get-raises" false).params) s.abs, seenQ qF names (importedModules Rr.prog.main.body) (fun s => xlAt qF [] s && recOk Rr.toRowW.records s) s.abs)) = some (true, openGood qF names) := by kernel_rfl
theorem runF3a (w : World) (os : OsState) : (eF (w.withFollow "special-get-raises" false) os).map (fun s => (ob s).1.1.1) = some true := by kernel_rfl
theorem runF3b (w : World) (os : OsState) : (eF (w.withFollow "special-get-raises" false) os).map (fun s => ((ob s).1.2, (ob s).2)) = some (tsD.map (fun t => some (He.keysIn (w.withFollow "special-get-raises" false).params t.2)), true) := by kernel_rfl
theorem runF3c (w : World) (os : OsState) : (eF (w.withFollow "special-get-raises" false) os).map (fun s => (ob s).1.1.2) = some (fnD.map He.DefD.val) := by kernel_rfl
theorem runF3 (w : World) (os : OsState) : (eF (w.withFollow "special-get-raises" false) os).map (fun s => ob s) = some (hk.val (w.withFollow "special-get-raises" false)) := optX (runF3a w os) (runF3b w os) (runF3c w os)
theorem runT1 (w : World) (os : OsState) : (eF (w.withFollow "special-get-raises" true) os).map (fun s => (looksF Rr.prog (boot_heap (w.withFollow "special-get-raises" true).params) s.abs, seenQ qF names (importedModules Rr.prog.main.body) (fun s => xlAt qF [] s && recOk Rr.toRowW.records s) s.abs)) = some (true, openGood qF names) := by kernel_rfl
theorem runT3a (w : World) (os : OsState) : (eF (w.withFollow "special-get-raises" true) os).map (fun s => (ob s).1.1.1) = some true := by kernel_rfl
theorem runT3b (w : World) (os : OsState) : (eF (w.withFollow "special-get-raises" true) os).map (fun s => ((ob s).1.2, (ob s).2)) = some (tsD.map (fun t => some (He.keysIn (w.withFollow "special-get-raises" true).params t.2)), true) := by kernel_rfl
theorem runT3c (w : World) (os : OsState) : (eF (w.withFollow "special-get-raises" true) os).map (fun s => (ob s).1.1.2) = some (fnD.map He.DefD.val) := by kernel_rfl
theorem runT3 (w : World) (os : OsState) : (eF (w.withFollow "special-get-raises" true) os).map (fun s => ob s) = some (hk.val (w.withFollow "special-get-raises" true)) := optX (runT3a w os) (runT3b w os) (runT3c w os)
end
theorem runF (w : World) : HandSHeadRun.RunEq Rr (PySem.W.view Rr.prog [20]) hk ob 20000 names (w.withFollow "special-get-raises" false) := by
  intro os
  exact opt2 (runF1 w os) (runF3 w os)
theorem runT (w : World) : HandSHeadRun.RunEq Rr (PySem.W.view Rr.prog [20]) hk ob 20000 names (w.withFollow "special-get-raises" true) := by
  intro os
  exact opt2 (runT1 w os) (runT3 w os)
end MI.Law

set_option maxHeartbeats 200000
set_option maxHeartbeats 1000000
/-! MIb: how values and stores stand in the model's heap. -/
namespace MI
open PySem PySem.Spec PyProof.Rows L2

/-! ### values -/
/-- where the handles stand; the lists that are being made -/
structure Lo where
  hs : List Addr
  bs : List Addr
/-- the address is no live handle's, no list's that is being made -/
def NL (φ : Lo) (S : Sto) (a : Addr) : Prop := a ∉ φ.bs ∧ ∀ (h : Nat) (o : O), φ.hs[h]? = some a → S[h]? = some o → o = .dead
/-- a list of the module -/
def ML (K : PySem.W.Frag) (a : Addr) (xs : List V) : Prop := ∃ (o : Obj) (its : Array Value) (n : Nat), K.lookup a = some o ∧ o.cls = .type "list" ∧ o.dict = none ∧ o.data = .seq its n ∧ its.size ≤ sizeLine ∧ Vals xs its.toList
/-- a list that stays as it is -/
def LA (K : PySem.W.Frag) (φ : Lo) (S : Sto) (H : Hp) (a : Addr) (xs : List V) : Prop := (Rd H a (.lst xs) ∧ NL φ S a) ∨ ML K a xs
theorem LA.sq {K : PySem.W.Frag} {φ : Lo} {S : Sto} {H : Hp} {a : Addr} {xs : List V} (h : LA K φ S H a xs) : SqL K H a xs := h.elim (fun q => .inl q.1) .inr
mutual
def RV (K : PySem.W.Frag) (φ : Lo) (S : Sto) (H : Hp) : D → V → Prop
  | .non => fun v => v = .non
  | .bl b => fun v => v = .bl b
  | .int i => fun v => v = .int i
  | .str s => fun v => v = .str s
  | .tup l => fun v => ∃ a vs, v = .ref a ∧ SqT K H a vs ∧ RVs K φ S H l vs
  | .lst l => fun v => ∃ a vs, v = .ref a ∧ LA K φ S H a vs ∧ RVs K φ S H l vs
  | .ref h => fun v => ∃ a, v = .ref a ∧ φ.hs[h]? = some a
  | .ty n => fun v => v = .ty n
  | .key l => fun v => ∃ a, v = .ref a ∧ H a = some (.tup (l.map kV))
def RVs (K : PySem.W.Frag) (φ : Lo) (S : Sto) (H : Hp) : List D → List V → Prop
  | [] => fun vs => vs = []
  | d :: r => fun vs => ∃ v vr, vs = v :: vr ∧ RV K φ S H d v ∧ RVs K φ S H r vr
end
/-- a lambda that is handed on: where it stands, its def, its words, what its cells hold -/
structure Clo where
  f : Addr
  id : String
  F : NdefX.NF
  e : Expr
  ws : List V
/-- the lambdas that are handed on -/
class Cels where
  cs : List Clo
/-- the object at f is the lambda F, e -/
def LamO (f : Addr) (F : NdefX.NF) (e : Expr) : HO := .ext fun h => ∃ (pm ctv : Value), h.get? f = some (PySem.W.kla_obj "<lambda>" F.qual F.params e F.scope F.cl pm F.c ctv)
/-- the tables of code objects that are tracked, and the name that what stands in each bears -/
class Tabs where
  ts : List (Addr × Str)
  /-- the code objects, with their tables -/
  cs : List (Addr × Addr)
def TB0 [Tabs] (φ : Lo) (H : Hp) : Prop := ∀ t ∈ Tabs.ts, t.1 ∉ φ.hs ∧ t.1 ∉ φ.bs ∧ ∃ ps : Array Value, H t.1 = some (.tbl ps) ∧ TriplesOk ps.toList ∧ ∀ (pos : Pos) (cv : Value), codeAmong pos ps.toList = some cv → ∃ c, cv = .ref c ∧ H c = some (LamX.CodeO c t.2) ∧ c ∉ φ.hs ∧ c ∉ φ.bs
/-- the lambdas' code objects -/
def CB [Cels] (φ : Lo) (H : Hp) : Prop := ∀ q ∈ Cels.cs, H q.F.c = some (LamX.CodeO q.F.c q.F.qual) ∧ q.F.c ∉ φ.hs ∧ q.F.c ∉ φ.bs
def TB [Tabs] [Cels] (φ : Lo) (H : Hp) : Prop := TB0 φ H ∧ CB φ H
/-- what stood stands on -/
structure Mo (φ : Lo) (S : Sto) (H : Hp) (φ' : Lo) (S' : Sto) (H' : Hp) : Prop where
  tp : ∀ (a : Addr) (vs : List V), H a = some (.tup vs) → H' a = some (.tup vs)
  pre : ∀ (h : Nat) (a : Addr), φ.hs[h]? = some a → φ'.hs[h]? = some a
  tup : ∀ a vs, Rd H a (.tup vs) → Rd H' a (.tup vs)
  lst : ∀ a vs, Rd H a (.lst vs) → NL φ S a → Rd H' a (.lst vs) ∧ NL φ' S' a
/-- .. and the lists that are being made, too -/
structure Ext (φ : Lo) (S : Sto) (H : Hp) (φ' : Lo) (S' : Sto) (H' : Hp) : Prop where
  mo : Mo φ S H φ' S' H'
  bs : φ'.bs = φ.bs
  kb : ∀ b ∈ φ.bs, H' b = H b
section
variable {K : PySem.W.Frag} {φ φ' φ2 : Lo} {S S' S2 : Sto} {H H' H2 : Hp}
theorem tp_hp {p : Addr} {o : HO} (hp : H p = none) : ∀ (a : Addr) (vs : List V), H a = some (.tup vs) → upd H p o a = some (.tup vs) := fun a vs e => (upd_ne fun z => by rw [z, hp] at e; cases e).trans e
theorem tp_nt {p : Addr} {o : HO} (nt : ∀ vs, ¬ Rd H p (.tup vs)) : ∀ (a : Addr) (vs : List V), H a = some (.tup vs) → upd H p o a = some (.tup vs) := fun a vs e => (upd_ne fun z => nt vs (.inl (by rw [← z]; exact e))).trans e
theorem Mo.refl : Mo φ S H φ S H := ⟨fun _ _ e => e, fun _ _ e => e, fun _ _ e => e, fun _ _ e n => ⟨e, n⟩⟩
theorem Mo.trans (x : Mo φ S H φ' S' H') (y : Mo φ' S' H' φ2 S2 H2) : Mo φ S H φ2 S2 H2 :=
  ⟨fun a vs e => y.tp a vs (x.tp a vs e), fun h a e => y.pre h a (x.pre h a e), fun a vs e => y.tup a vs (x.tup a vs e), fun a vs e n => y.lst a vs (x.lst a vs e n).1 (x.lst a vs e n).2⟩
theorem Ext.refl : Ext φ S H φ S H := ⟨Mo.refl, rfl, fun _ _ => rfl⟩
theorem Ext.trans (x : Ext φ S H φ' S' H') (y : Ext φ' S' H' φ2 S2 H2) : Ext φ S H φ2 S2 H2 :=
  ⟨x.mo.trans y.mo, y.bs.trans x.bs, fun b hb => (y.kb b (by rw [x.bs]; exact hb)).trans (x.kb b hb)⟩
theorem LA.mo (x : Mo φ S H φ' S' H') {a : Addr} {vs : List V} (h : LA K φ S H a vs) : LA K φ' S' H' a vs := h.elim (fun q => .inl (x.lst a vs q.1 q.2)) .inr
theorem sqT_mono (x : ∀ a vs, Rd H a (.tup vs) → Rd H' a (.tup vs)) {a : Addr} {vs : List V} (h : SqT K H a vs) : SqT K H' a vs := by
  rcases h with h | h
  · exact .inl (x a vs h)
  · exact .inr h
mutual
theorem RV.mo (x : Mo φ S H φ' S' H') : ∀ (d : D) (v : V), RV K φ S H d v → RV K φ' S' H' d v
  | .non, v, h => by unfold RV at *; exact h
  | .bl _, v, h => by unfold RV at *; exact h
  | .int _, v, h => by unfold RV at *; exact h
  | .str _, v, h => by unfold RV at *; exact h
  | .tup l, v, h => by
    unfold RV at *
    obtain ⟨a, vs, e, q, r⟩ := h
    exact ⟨a, vs, e, sqT_mono x.tup q, RVs.mo x l vs r⟩
  | .lst l, v, h => by
    unfold RV at *
    obtain ⟨a, vs, e, q, r⟩ := h
    exact ⟨a, vs, e, q.mo x, RVs.mo x l vs r⟩
  | .ref _, v, h => by
    unfold RV at *
    obtain ⟨a, e, q⟩ := h
    exact ⟨a, e, x.pre _ a q⟩
  | .ty _, v, h => by unfold RV at *; exact h
  | .key _, v, h => by
    unfold RV at *
    obtain ⟨a, e, q⟩ := h
    exact ⟨a, e, x.tp a _ q⟩
theorem RVs.mo (x : Mo φ S H φ' S' H') : ∀ (l : List D) (vs : List V), RVs K φ S H l vs → RVs K φ' S' H' l vs
  | [], vs, h => by unfold RVs at *; exact h
  | d :: r, vs, h => by
    unfold RVs at *
    obtain ⟨v, vr, e, q, t⟩ := h
    exact ⟨v, vr, e, RV.mo x d v q, RVs.mo x r vr t⟩
end
theorem RV.mono (x : Ext φ S H φ' S' H') (d : D) (v : V) (h : RV K φ S H d v) : RV K φ' S' H' d v := RV.mo x.mo d v h
theorem RVs.mono (x : Ext φ S H φ' S' H') (l : List D) (vs : List V) (h : RVs K φ S H l vs) : RVs K φ' S' H' l vs := RVs.mo x.mo l vs h
theorem RVs.length : ∀ {l : List D} {vs : List V}, RVs K φ S H l vs → vs.length = l.length
  | [], vs, h => by unfold RVs at h; rw [h]; rfl
  | d :: r, vs, h => by
    unfold RVs at h
    obtain ⟨v, vr, e, q, t⟩ := h
    rw [e, List.length_cons, List.length_cons, RVs.length t]
theorem RVs.nil : RVs K φ S H [] [] := by unfold RVs; rfl
theorem RVs.cons {d : D} {v : V} {r : List D} {vr : List V} (h : RV K φ S H d v) (t : RVs K φ S H r vr) : RVs K φ S H (d :: r) (v :: vr) := by
  unfold RVs; exact ⟨v, vr, rfl, h, t⟩
theorem RVs.inv_cons {d : D} {r : List D} {vs : List V} (h : RVs K φ S H (d :: r) vs) : ∃ v vr, vs = v :: vr ∧ RV K φ S H d v ∧ RVs K φ S H r vr := by
  unfold RVs at h; exact h
theorem RVs.inv_nil {vs : List V} (h : RVs K φ S H [] vs) : vs = [] := by unfold RVs at h; exact h
theorem RVs.get : ∀ {l : List D} {vs : List V} {i : Nat} {d : D}, RVs K φ S H l vs → l[i]? = some d → ∃ v, vs[i]? = some v ∧ RV K φ S H d v
  | [], _, _, _, _, e => by simp at e
  | x :: r, _, 0, d, h, e => by
    obtain ⟨v, vr, rfl, q, t⟩ := h.inv_cons
    simp at e; subst e
    exact ⟨v, rfl, q⟩
  | x :: r, _, i + 1, d, h, e => by
    obtain ⟨v, vr, rfl, q, t⟩ := h.inv_cons
    obtain ⟨w, e1, q1⟩ := RVs.get (i := i) t (by simpa using e)
    exact ⟨w, by simpa using e1, q1⟩
theorem RVs.append : ∀ {l k : List D} {vs ws : List V}, RVs K φ S H l vs → RVs K φ S H k ws → RVs K φ S H (l ++ k) (vs ++ ws)
  | [], _, _, _, h, g => by rw [h.inv_nil]; exact g
  | x :: r, _, _, _, h, g => by
    obtain ⟨v, vr, rfl, q, t⟩ := h.inv_cons
    exact RVs.cons q (RVs.append t g)
theorem RVs.take : ∀ {l : List D} {vs : List V} (n : Nat), RVs K φ S H l vs → RVs K φ S H (l.take n) (vs.take n)
  | _, _, 0, _ => by simp; exact .nil
  | [], _, _ + 1, h => by rw [h.inv_nil]; exact .nil
  | x :: r, _, n + 1, h => by
    obtain ⟨v, vr, rfl, q, t⟩ := h.inv_cons
    exact RVs.cons q (RVs.take n t)
theorem RVs.drop : ∀ {l : List D} {vs : List V} (n : Nat), RVs K φ S H l vs → RVs K φ S H (l.drop n) (vs.drop n)
  | _, _, 0, h => h
  | [], _, _ + 1, h => by rw [h.inv_nil]; exact .nil
  | x :: r, _, n + 1, h => by
    obtain ⟨v, vr, rfl, q, t⟩ := h.inv_cons
    exact RVs.drop n t
theorem RVs.set {d : D} {v : V} (x : RV K φ S H d v) : ∀ {l : List D} {vs : List V} (i : Nat), RVs K φ S H l vs → RVs K φ S H (l.set i d) (vs.set i v)
  | [], _, _, h => by rw [h.inv_nil]; exact .nil
  | y :: r, _, 0, h => by
    obtain ⟨w, vr, rfl, q, t⟩ := h.inv_cons
    exact RVs.cons x t
  | y :: r, _, i + 1, h => by
    obtain ⟨w, vr, rfl, q, t⟩ := h.inv_cons
    exact RVs.cons q (RVs.set x i t)
theorem RVs.reverse : ∀ {l : List D} {vs : List V}, RVs K φ S H l vs → RVs K φ S H l.reverse vs.reverse
  | [], _, h => by rw [h.inv_nil]; exact .nil
  | x :: r, _, h => by
    obtain ⟨v, vr, rfl, q, t⟩ := h.inv_cons
    rw [List.reverse_cons, List.reverse_cons]
    exact (RVs.reverse t).append (RVs.cons q .nil)
theorem RVs.flatten_rep {l : List D} {vs : List V} (h : RVs K φ S H l vs) : ∀ n : Nat, RVs K φ S H (List.replicate n l).flatten (List.replicate n vs).flatten
  | 0 => .nil
  | n + 1 => by
    rw [List.replicate_succ, List.replicate_succ, List.flatten_cons, List.flatten_cons]
    exact h.append (RVs.flatten_rep h n)
theorem RVs.ints {ns : List Int} : ∀ {l : List D} {vs : List V}, intsOf l = some ns → RVs K φ S H l vs → vs = ns.map V.int := by
  induction ns with
  | nil =>
    intro l vs e h
    cases l with
    | nil => exact h.inv_nil
    | cons d r =>
      cases d <;> simp [intsOf] at e
  | cons n ns ih =>
    intro l vs e h
    cases l with
    | nil => simp [intsOf] at e
    | cons d r =>
      obtain ⟨v, vr, rfl, q, t⟩ := h.inv_cons
      cases d <;> simp [intsOf] at e
      obtain ⟨e1, e2⟩ := e
      subst e2
      unfold RV at q
      rw [q, ih e1 t]; rfl
theorem RVs.bls {ns : List Bool} : ∀ {l : List D} {vs : List V}, blsOf l = some ns → RVs K φ S H l vs → vs = ns.map V.bl := by
  induction ns with
  | nil =>
    intro l vs e h
    cases l with
    | nil => exact h.inv_nil
    | cons d r =>
      cases d <;> simp [blsOf] at e
  | cons n ns ih =>
    intro l vs e h
    cases l with
    | nil => simp [blsOf] at e
    | cons d r =>
      obtain ⟨v, vr, rfl, q, t⟩ := h.inv_cons
      cases d <;> simp [blsOf] at e
      obtain ⟨e1, e2⟩ := e
      subst e2
      unfold RV at q
      rw [q, ih e1 t]; rfl
theorem RVs.strs {ns : List Str} : ∀ {l : List D} {vs : List V}, strsOf l = some ns → RVs K φ S H l vs → vs = ns.map V.str := by
  induction ns with
  | nil =>
    intro l vs e h
    cases l with
    | nil => exact h.inv_nil
    | cons d r =>
      cases d <;> simp [strsOf] at e
  | cons n ns ih =>
    intro l vs e h
    cases l with
    | nil => simp [strsOf] at e
    | cons d r =>
      obtain ⟨v, vr, rfl, q, t⟩ := h.inv_cons
      cases d <;> simp [strsOf] at e
      obtain ⟨e1, e2⟩ := e
      subst e2
      unfold RV at q
      rw [q, ih e1 t]; rfl
theorem RV.of_strs : ∀ ns : List Str, RVs K φ S H (ns.map D.str) (ns.map V.str)
  | [] => .nil
  | n :: r => RVs.cons (by unfold RV; rfl) (RV.of_strs r)
/-- the fields' names, as the model has them -/
abbrev fnm (fs : List (String × D)) : List Str := fs.map fun q => Str.ofString q.1
theorem RVs.look {f : String} {d : D} : ∀ {fs : List (String × D)} {vs : List V}, RVs K φ S H (fs.map (·.2)) vs → fs.lookup f = some d → ∃ v, ((fnm fs).zip vs).lookup (Str.ofString f) = some v ∧ RV K φ S H d v
  | [], _, _, e => by cases e
  | (k, x) :: r, _, t, e => by
    obtain ⟨v, vr, rfl, q, t'⟩ := t.inv_cons
    show ∃ w, List.lookup (Str.ofString f) ((Str.ofString k, v) :: (fnm r).zip vr) = some w ∧ _
    by_cases hk : f = k
    · subst hk
      simp only [List.lookup_cons, beq_self_eq_true, if_true, Option.some.injEq] at e
      subst e
      exact ⟨v, by simp [List.lookup_cons], q⟩
    · have hk2 : (f == k) = false := by simpa using hk
      have hs : (Str.ofString f == Str.ofString k) = false := by
        apply beq_eq_false_iff_ne.mpr
        exact fun z => hk (ofS_inj z)
      simp only [List.lookup_cons, hk2] at e
      obtain ⟨w, e1, q1⟩ := RVs.look t' e
      exact ⟨w, by simp only [List.lookup_cons, hs]; exact e1, q1⟩
theorem RVs.look_none {f : String} : ∀ {fs : List (String × D)} {vs : List V}, fs.lookup f = none → ((fnm fs).zip vs).lookup (Str.ofString f) = none
  | [], _, _ => by simp
  | (k, x) :: r, [], _ => by simp
  | (k, x) :: r, v :: vr, e => by
    show List.lookup (Str.ofString f) ((Str.ofString k, v) :: (fnm r).zip vr) = none
    by_cases hk : f = k
    · subst hk
      simp [List.lookup_cons] at e
    · have hk2 : (f == k) = false := by simpa using hk
      have hs : (Str.ofString f == Str.ofString k) = false := by
        apply beq_eq_false_iff_ne.mpr
        exact fun z => hk (ofS_inj z)
      simp only [List.lookup_cons, hk2] at e
      simp only [List.lookup_cons, hs]
      exact RVs.look_none e
theorem RVs.putD {f : String} {d : D} {v : V} (q : RV K φ S H d v) : ∀ {fs : List (String × D)} {vs : List V}, RVs K φ S H (fs.map (·.2)) vs → ∃ vs', putF (Str.ofString f) v ((fnm fs).zip vs) = (fnm (MI.putD f d fs)).zip vs' ∧ RVs K φ S H ((MI.putD f d fs).map (·.2)) vs'
  | [], vs, t => ⟨[v], by simp [fnm, MI.putD, putF], RVs.cons q .nil⟩
  | (k, x) :: r, _, t => by
    obtain ⟨w, vr, rfl, q1, t'⟩ := t.inv_cons
    show ∃ vs', putF (Str.ofString f) v ((Str.ofString k, w) :: (fnm r).zip vr) = (fnm (if k = f then (k, d) :: r else (k, x) :: MI.putD f d r)).zip vs' ∧ RVs K φ S H ((if k = f then (k, d) :: r else (k, x) :: MI.putD f d r).map (·.2)) vs'
    by_cases hk : k = f
    · subst hk
      refine ⟨v :: vr, ?_, ?_⟩
      · simp [putF, fnm]
      · rw [if_pos rfl]; exact RVs.cons q t'
    · obtain ⟨vs', e, t2⟩ := RVs.putD q t'
      refine ⟨w :: vs', ?_, ?_⟩
      · rw [if_neg hk]
        show (if Str.ofString k = Str.ofString f then _ else (Str.ofString k, w) :: putF (Str.ofString f) v ((fnm r).zip vr)) = _
        rw [if_neg (fun z => hk (ofS_inj z)), e]; rfl
      · rw [if_neg hk]; exact RVs.cons q1 t2
theorem RV.of_ints : ∀ ns : List Int, RVs K φ S H (ns.map D.int) (ns.map V.int)
  | [] => .nil
  | n :: r => RVs.cons (by unfold RV; rfl) (RV.of_ints r)
end

/-! ### the store -/
/-- an exception without a dict of its own -/
def exT (a C : Addr) : HO := .ext fun h => ∃ (o : Obj) (vs : Array Value), h.get? a = some o ∧ o.cls = .ref C ∧ o.dict = none ∧ o.data = .fields vs
/-- an object of the store, at its address -/
def RO [Cels] (K : PySem.W.Frag) (mg : Str → Option Value) (φ : Lo) (S : Sto) (H : Hp) : O → Addr → Prop
  | .lst l => fun a => ∃ vs, H a = some (.lst vs) ∧ RVs K φ S H l vs
  | .ins c fs => fun a => ∃ (C dx : Addr) (vs : List V), mg (Str.ofString c) = some (.ref C) ∧ H a = some (.ins C dx ((fs.map fun q => Str.ofString q.1).zip vs)) ∧ RVs K φ S H (fs.map (·.2)) vs
  | .exn c => fun a => ∃ C, mg (Str.ofString c) = some (.ref C) ∧ H a = some (exT a C)
  | .clo id l => fun a => ∃ q ∈ Cels.cs, q.f = a ∧ q.id = id ∧ H a = some (LamO a q.F q.e) ∧ RVs K φ S H l q.ws
  | .dct kvs => fun a => ∃ ws, H a = some (.dT ((kvs.map (·.1)).zip ws)) ∧ RVs K φ S H (kvs.map (·.2)) ws
  | .dead => fun _ => True
structure RS [Tabs] [Cels] (K : PySem.W.Frag) (mg : Str → Option Value) (φ : Lo) (S : Sto) (H : Hp) : Prop where
  len : φ.hs.length = S.length
  nd : φ.hs.Nodup
  trk : ∀ a ∈ φ.hs, H a ≠ none
  btrk : ∀ b ∈ φ.bs, H b ≠ none
  ap : ∀ b ∈ φ.bs, b ∉ φ.hs
  obj : ∀ (h : Nat) (o : O) (a : Addr), S[h]? = some o → φ.hs[h]? = some a → RO K mg φ S H o a
  tb : TB φ H
variable [Tabs] [Cels]
theorem TB0.upd {φ φ' : Lo} {H : Hp} {p : Addr} {ho : HO} (t : TB0 φ H) (h1 : ∀ a, a ∈ φ'.hs → a ∈ φ.hs ∨ a = p) (h2 : ∀ a, a ∈ φ'.bs → a ∈ φ.bs ∨ a = p) (hp : H p = none ∨ p ∈ φ.hs ∨ p ∈ φ.bs) : TB0 φ' (upd H p ho) := fun q hq => by
  obtain ⟨n1, n2, ps, e, tr, hc⟩ := t q hq
  have np : ∀ {b : Addr} {o : HO}, H b = some o → b ∉ φ.hs → b ∉ φ.bs → b ≠ p := fun {b o} e m1 m2 z => by
    rcases hp with hp | hp | hp
    · rw [z, hp] at e; cases e
    · exact m1 (z ▸ hp)
    · exact m2 (z ▸ hp)
  have n3 := np e n1 n2
  refine ⟨fun m => (h1 _ m).elim n1 n3, fun m => (h2 _ m).elim n2 n3, ps, by rw [upd_ne n3]; exact e, tr, fun pos cv h => ?_⟩
  obtain ⟨c, e1, e2, m1, m2⟩ := hc pos cv h
  have n4 := np e2 m1 m2
  exact ⟨c, e1, by rw [upd_ne n4]; exact e2, fun m => (h1 _ m).elim m1 n4, fun m => (h2 _ m).elim m2 n4⟩
theorem TB.upd {φ φ' : Lo} {H : Hp} {p : Addr} {ho : HO} (t : TB φ H) (h1 : ∀ a, a ∈ φ'.hs → a ∈ φ.hs ∨ a = p) (h2 : ∀ a, a ∈ φ'.bs → a ∈ φ.bs ∨ a = p) (hp : H p = none ∨ p ∈ φ.hs ∨ p ∈ φ.bs) : TB φ' (upd H p ho) := ⟨t.1.upd h1 h2 hp, fun q hq => by
  obtain ⟨e, n1, n2⟩ := t.2 q hq
  have n3 : q.F.c ≠ p := fun z => by
    rcases hp with hp | hp | hp
    · rw [z, hp] at e; cases e
    · exact n1 (z ▸ hp)
    · exact n2 (z ▸ hp)
  exact ⟨by rw [upd_ne n3]; exact e, fun m => (h1 _ m).elim n1 n3, fun m => (h2 _ m).elim n2 n3⟩⟩
theorem TB0.sub {φ φ' : Lo} {H : Hp} (t : TB0 φ H) (h1 : ∀ a, a ∈ φ'.hs → a ∈ φ.hs) (h2 : ∀ a, a ∈ φ'.bs → a ∈ φ.bs) : TB0 φ' H := fun q hq => by
  obtain ⟨n1, n2, ps, e, tr, hc⟩ := t q hq
  refine ⟨fun m => n1 (h1 _ m), fun m => n2 (h2 _ m), ps, e, tr, fun pos cv h => ?_⟩
  obtain ⟨c, e1, e2, m1, m2⟩ := hc pos cv h
  exact ⟨c, e1, e2, fun m => m1 (h1 _ m), fun m => m2 (h2 _ m)⟩
theorem TB.sub {φ φ' : Lo} {H : Hp} (t : TB φ H) (h1 : ∀ a, a ∈ φ'.hs → a ∈ φ.hs) (h2 : ∀ a, a ∈ φ'.bs → a ∈ φ.bs) : TB φ' H := ⟨t.1.sub h1 h2, fun q hq => let ⟨e, n1, n2⟩ := t.2 q hq; ⟨e, fun m => n1 (h1 _ m), fun m => n2 (h2 _ m)⟩⟩
section
variable {K : PySem.W.Frag} {mg : Str → Option Value} {φ φ' φ2 : Lo} {S S' S2 : Sto} {H H' H2 : Hp}
theorem RS.at (R : RS K mg φ S H) {h : Nat} {o : O} (e : S[h]? = some o) : ∃ a, φ.hs[h]? = some a ∧ RO K mg φ S H o a := by
  have hl : h < φ.hs.length := by rw [R.len]; exact (List.getElem?_eq_some_iff.mp e).1
  exact ⟨φ.hs[h], List.getElem?_eq_getElem hl, R.obj h o _ e (List.getElem?_eq_getElem hl)⟩
theorem nodup_at {l : List Addr} (n : l.Nodup) {i j : Nat} {a : Addr} (e : l[i]? = some a) (f : l[j]? = some a) : i = j := by
  obtain ⟨h1, e1⟩ := List.getElem?_eq_some_iff.mp e
  obtain ⟨h2, e2⟩ := List.getElem?_eq_some_iff.mp f
  exact (List.getElem_inj n).mp (e1.trans e2.symm)
theorem rd_ne {p a : Addr} {u : HO} (hp : H p = none) (h : Rd H a u) : a ≠ p := by
  rintro rfl
  rcases h with h | ⟨o, h⟩ <;> rw [hp] at h <;> cases h
theorem rd_upd {p a : Addr} {u o : HO} (hp : a ≠ p) (h : Rd H a u) : Rd (upd H p o) a u := by
  rcases h with h | ⟨ob, h⟩
  · exact .inl (by rw [upd_ne hp]; exact h)
  · exact .inr ⟨ob, by rw [upd_ne hp]; exact h⟩
/-- a new object that is no handle's -/
theorem Ext.new {p : Addr} {o : HO} (R : RS K mg φ S H) (hp : H p = none) : Ext φ S H φ S (upd H p o) :=
  ⟨⟨tp_hp hp, fun _ _ e => e, fun a vs e => rd_upd (rd_ne hp e) e, fun a vs e n => ⟨rd_upd (rd_ne hp e) e, n⟩⟩, rfl, fun b hb => upd_ne fun z => R.btrk b hb (z ▸ hp)⟩
theorem RO.mono (x : Mo φ S H φ' S' H') {o : O} {a : Addr} (he : o ≠ .dead → H' a = H a) (h : RO K mg φ S H o a) : RO K mg φ' S' H' o a := by
  cases o with
  | lst l =>
    obtain ⟨vs, e, r⟩ := h
    exact ⟨vs, by rw [he (by simp)]; exact e, RVs.mo x _ _ r⟩
  | ins c fs =>
    obtain ⟨C, dx, vs, m, e, r⟩ := h
    exact ⟨C, dx, vs, m, by rw [he (by simp)]; exact e, RVs.mo x _ _ r⟩
  | exn c =>
    obtain ⟨C, h1, h2⟩ := h
    exact ⟨C, h1, (he (by simp)).trans h2⟩
  | clo id l =>
    obtain ⟨q, h1, h2, h3, h4, h5⟩ := h
    exact ⟨q, h1, h2, h3, (he (by simp)).trans h4, RVs.mo x _ _ h5⟩
  | dct kvs =>
    obtain ⟨ws, h1, h2⟩ := h
    exact ⟨ws, (he (by simp)).trans h1, RVs.mo x _ _ h2⟩
  | dead => trivial
theorem RS.new {p : Addr} {o : HO} (R : RS K mg φ S H) (hp : H p = none) : RS K mg φ S (upd H p o) := by
  have ne : ∀ a ∈ φ.hs, a ≠ p := fun a ha e => R.trk a ha (by rw [e]; exact hp)
  have neb : ∀ a ∈ φ.bs, a ≠ p := fun a ha e => R.btrk a ha (by rw [e]; exact hp)
  exact ⟨R.len, R.nd, fun a ha => by rw [upd_ne (ne a ha)]; exact R.trk a ha, fun a ha => by rw [upd_ne (neb a ha)]; exact R.btrk a ha, R.ap, fun h o' a e1 e2 => RO.mono (Ext.new R hp).mo (fun _ => upd_ne (ne a (List.mem_of_getElem? e2))) (R.obj h o' a e1 e2), R.tb.upd (fun _ m => .inl m) (fun _ m => .inl m) (.inl hp)⟩
theorem nl_new {p : Addr} (R : RS K mg φ S H) (hp : H p = none) : NL φ S p := ⟨fun hb => R.btrk p hb hp, fun h o e1 _ => absurd hp (R.trk p (List.mem_of_getElem? e1))⟩
theorem get_snoc {α : Type} {l : List α} {x y : α} {i : Nat} (e : (l ++ [x])[i]? = some y) : l[i]? = some y ∨ (i = l.length ∧ y = x) := by
  by_cases h : i < l.length
  · rw [List.getElem?_append_left h] at e; exact .inl e
  · have h1 : l.length ≤ i := Nat.le_of_not_lt h
    rw [List.getElem?_append_right h1] at e
    by_cases h2 : i = l.length
    · subst h2
      simp at e
      exact .inr ⟨rfl, e.symm⟩
    · rw [List.getElem?_eq_none (by simp; omega)] at e
      cases e
theorem get_snoc_l {α : Type} {l : List α} {x y : α} {i : Nat} (e : l[i]? = some y) : (l ++ [x])[i]? = some y := by
  rw [List.getElem?_append_left (List.getElem?_eq_some_iff.mp e).1]; exact e
theorem get_snoc_r {α : Type} {l : List α} {x : α} : (l ++ [x])[l.length]? = some x := by simp
/-- a new handle -/
theorem Ext.snoc {p : Addr} {o : O} {ho : HO} (R : RS K mg φ S H) (hp : H p = none) : Ext φ S H ⟨φ.hs ++ [p], φ.bs⟩ (S ++ [o]) (upd H p ho) :=
  ⟨⟨tp_hp hp, fun h a e => get_snoc_l e, fun a vs e => rd_upd (rd_ne hp e) e, fun a vs e n => ⟨rd_upd (rd_ne hp e) e, n.1, fun h o' e1 e2 => by
    rcases get_snoc e1 with e1 | ⟨_, e1⟩
    · have hl : h < S.length := by rw [← R.len]; exact (List.getElem?_eq_some_iff.mp e1).1
      rw [List.getElem?_append_left hl] at e2
      exact n.2 h o' e1 e2
    · exact absurd e1 (rd_ne hp e)⟩⟩, rfl, fun b hb => upd_ne fun z => R.btrk b hb (z ▸ hp)⟩
theorem RS.snoc {p : Addr} {o : O} {ho : HO} (R : RS K mg φ S H) (hp : H p = none) (ro : RO K mg ⟨φ.hs ++ [p], φ.bs⟩ (S ++ [o]) (upd H p ho) o p) : RS K mg ⟨φ.hs ++ [p], φ.bs⟩ (S ++ [o]) (upd H p ho) := by
  have ne : ∀ a ∈ φ.hs, a ≠ p := fun a ha e => R.trk a ha (by rw [e]; exact hp)
  have neb : ∀ a ∈ φ.bs, a ≠ p := fun a ha e => R.btrk a ha (by rw [e]; exact hp)
  refine ⟨by simp [R.len], ?_, fun a ha => ?_, fun a ha => by rw [upd_ne (neb a ha)]; exact R.btrk a ha, fun b hb hm => ?_, fun h o' a e1 e2 => ?_, R.tb.upd (fun a m => (List.mem_append.mp m).elim .inl fun z => .inr (List.mem_singleton.mp z)) (fun _ m => .inl m) (.inl hp)⟩
  · rw [List.nodup_append]
    exact ⟨R.nd, by simp, fun a ha b hb => by rw [List.mem_singleton] at hb; rw [hb]; exact ne a ha⟩
  · rcases List.mem_append.mp ha with ha | ha
    · rw [upd_ne (ne a ha)]; exact R.trk a ha
    · rw [List.mem_singleton] at ha
      rw [ha, upd_same]; simp
  · rcases List.mem_append.mp hm with hm | hm
    · exact R.ap b hb hm
    · rw [List.mem_singleton] at hm
      exact neb b hb hm
  · rcases get_snoc e2 with e2 | ⟨e2, e3⟩
    · have hl : h < S.length := by rw [← R.len]; exact (List.getElem?_eq_some_iff.mp e2).1
      rw [List.getElem?_append_left hl] at e1
      exact RO.mono (Ext.snoc R hp).mo (fun _ => upd_ne (ne a (List.mem_of_getElem? e2))) (R.obj h o' a e1 e2)
    · rw [e2, R.len] at e1
      rw [get_snoc_r] at e1
      cases e1
      rw [e3]; exact ro
/-- a live object is written -/
theorem Ext.write {h : Nat} {a : Addr} {o o' : O} {ho : HO} (R : RS K mg φ S H) (e1 : S[h]? = some o) (e2 : φ.hs[h]? = some a) (lv : o ≠ .dead) (nt : ∀ vs, ¬ Rd H a (.tup vs)) : Ext φ S H φ (S.set h o') (upd H a ho) := by
  refine ⟨⟨tp_nt nt, fun _ _ e => e, fun b vs e => rd_upd (fun q => nt vs (q ▸ e)) e, fun b vs e n => ?_⟩, rfl, fun b hb => upd_ne fun z => R.ap b hb (z ▸ List.mem_of_getElem? e2)⟩
  have nb : b ≠ a := fun q => lv (n.2 h o (q ▸ e2) e1)
  refine ⟨rd_upd nb e, n.1, fun h' o2 f1 f2 => ?_⟩
  have hh : h ≠ h' := fun q => nb (by rw [q, f1] at e2; exact Option.some.inj e2)
  rw [List.getElem?_set_ne hh] at f2
  exact n.2 h' o2 f1 f2
theorem RS.write {h : Nat} {a : Addr} {o o' : O} {ho : HO} (R : RS K mg φ S H) (e1 : S[h]? = some o) (e2 : φ.hs[h]? = some a) (lv : o ≠ .dead) (nt : ∀ vs, ¬ Rd H a (.tup vs)) (ro : RO K mg φ (S.set h o') (upd H a ho) o' a) : RS K mg φ (S.set h o') (upd H a ho) := by
  have hl : h < S.length := (List.getElem?_eq_some_iff.mp e1).1
  have ha : a ∈ φ.hs := List.mem_of_getElem? e2
  refine ⟨by simp [R.len], R.nd, fun b hb => ?_, fun b hb => by
    have nb : b ≠ a := fun z => R.ap b hb (by rw [z]; exact ha)
    rw [upd_ne nb]; exact R.btrk b hb, R.ap, fun h' o2 b f1 f2 => ?_, R.tb.upd (fun _ m => .inl m) (fun _ m => .inl m) (.inr (.inl ha))⟩
  · by_cases q : b = a
    · rw [q, upd_same]; simp
    · rw [upd_ne q]; exact R.trk b hb
  · by_cases q : h = h'
    · subst q
      rw [List.getElem?_set_self hl] at f1
      cases f1
      rw [e2] at f2; cases f2
      exact ro
    · rw [List.getElem?_set_ne q] at f1
      have nb : b ≠ a := fun z => q (nodup_at R.nd e2 (z ▸ f2))
      exact RO.mono (Ext.write R e1 e2 lv nt).mo (fun _ => upd_ne nb) (R.obj h' o2 b f1 f2)
/-- a handle is given up: its list is a value from then on -/
theorem Ext.kill {h : Nat} : Ext φ S H φ (S.set h .dead) H := by
  refine ⟨⟨fun _ _ e => e, fun _ _ e => e, fun _ _ e => e, fun b vs e n => ⟨e, n.1, fun h' o2 f1 f2 => ?_⟩⟩, rfl, fun _ _ => rfl⟩
  by_cases q : h = h'
  · subst q
    by_cases hl : h < S.length
    · rw [List.getElem?_set_self hl] at f2; cases f2; rfl
    · rw [List.getElem?_eq_none (by simpa using hl)] at f2; cases f2
  · rw [List.getElem?_set_ne q] at f2
    exact n.2 h' o2 f1 f2
theorem RS.kill {h : Nat} (R : RS K mg φ S H) : RS K mg φ (S.set h .dead) H := by
  refine ⟨by simp [R.len], R.nd, R.trk, R.btrk, R.ap, fun h' o2 b f1 f2 => ?_, R.tb⟩
  by_cases q : h = h'
  · subst q
    by_cases hl : h < S.length
    · rw [List.getElem?_set_self hl] at f1; cases f1; trivial
    · rw [List.getElem?_eq_none (by simpa using hl)] at f1; cases f1
  · rw [List.getElem?_set_ne q] at f1
    exact RO.mono Ext.kill.mo (fun _ => rfl) (R.obj h' o2 b f1 f2)
theorem nl_kill {h : Nat} {a : Addr} (R : RS K mg φ S H) (e2 : φ.hs[h]? = some a) : NL φ (S.set h .dead) a := ⟨fun hb => R.ap a hb (List.mem_of_getElem? e2), fun h' o f1 f2 => by
  have q := nodup_at R.nd e2 f1
  subst q
  by_cases hl : h < S.length
  · rw [List.getElem?_set_self hl] at f2; cases f2; rfl
  · rw [List.getElem?_eq_none (by simpa using hl)] at f2; cases f2⟩
/-- a list is being made at p -/
theorem Mo.open {p : Addr} {ho : HO} (hp : H p = none) : Mo φ S H ⟨φ.hs, p :: φ.bs⟩ S (upd H p ho) :=
  ⟨tp_hp hp, fun _ _ e => e, fun a vs e => rd_upd (rd_ne hp e) e, fun a vs e n => ⟨rd_upd (rd_ne hp e) e, fun hm => by
    rcases List.mem_cons.mp hm with hm | hm
    · exact rd_ne hp e hm
    · exact n.1 hm, n.2⟩⟩
theorem RS.open {p : Addr} {ho : HO} (R : RS K mg φ S H) (hp : H p = none) : RS K mg ⟨φ.hs, p :: φ.bs⟩ S (upd H p ho) := by
  have ne : ∀ a ∈ φ.hs, a ≠ p := fun a ha e => R.trk a ha (by rw [e]; exact hp)
  have neb : ∀ a ∈ φ.bs, a ≠ p := fun a ha e => R.btrk a ha (by rw [e]; exact hp)
  refine ⟨R.len, R.nd, fun a ha => by rw [upd_ne (ne a ha)]; exact R.trk a ha, fun b hb => ?_, fun b hb => ?_, fun h o a e1 e2 => RO.mono (Mo.open hp) (fun _ => upd_ne (ne a (List.mem_of_getElem? e2))) (R.obj h o a e1 e2), R.tb.upd (fun _ m => .inl m) (fun _ m => (List.mem_cons.mp m).elim .inr .inl) (.inl hp)⟩
  · rcases List.mem_cons.mp hb with hb | hb
    · rw [hb, upd_same]; simp
    · rw [upd_ne (neb b hb)]; exact R.btrk b hb
  · rcases List.mem_cons.mp hb with hb | hb
    · rw [hb]; exact fun hm => ne p hm rfl
    · exact R.ap b hb
/-- .. is written -/
theorem Mo.grow {p : Addr} {ho : HO} (hm : p ∈ φ.bs) (nt : ∀ vs, ¬ Rd H p (.tup vs)) : Mo φ S H φ S (upd H p ho) :=
  ⟨tp_nt nt, fun _ _ e => e, fun a vs e => rd_upd (fun q => nt vs (q ▸ e)) e, fun a vs e n => ⟨rd_upd (fun q => n.1 (q ▸ hm)) e, n⟩⟩
theorem RS.grow {p : Addr} {ho : HO} (R : RS K mg φ S H) (hm : p ∈ φ.bs) (nt : ∀ vs, ¬ Rd H p (.tup vs)) : RS K mg φ S (upd H p ho) := by
  have ne : ∀ a ∈ φ.hs, a ≠ p := fun a ha e => R.ap p hm (e ▸ ha)
  refine ⟨R.len, R.nd, fun a ha => by rw [upd_ne (ne a ha)]; exact R.trk a ha, fun b hb => ?_, R.ap, fun h o a e1 e2 => RO.mono (Mo.grow hm nt) (fun _ => upd_ne (ne a (List.mem_of_getElem? e2))) (R.obj h o a e1 e2), R.tb.upd (fun _ m => .inl m) (fun _ m => .inl m) (.inr (.inr hm))⟩
  by_cases q : b = p
  · rw [q, upd_same]; simp
  · rw [upd_ne q]; exact R.btrk b hb
/-- .. is done -/
theorem Mo.close {hs bs : List Addr} {p : Addr} : Mo ⟨hs, p :: bs⟩ S H ⟨hs, bs⟩ S H :=
  ⟨fun _ _ e => e, fun _ _ e => e, fun _ _ e => e, fun a vs e n => ⟨e, fun hm => n.1 (List.mem_cons_of_mem _ hm), n.2⟩⟩
theorem RS.close {hs bs : List Addr} {p : Addr} (R : RS K mg ⟨hs, p :: bs⟩ S H) : RS K mg ⟨hs, bs⟩ S H :=
  ⟨R.len, R.nd, R.trk, fun b hb => R.btrk b (List.mem_cons_of_mem _ hb), fun b hb => R.ap b (List.mem_cons_of_mem _ hb), fun h o a e1 e2 => RO.mono Mo.close (fun _ => rfl) (R.obj h o a e1 e2), R.tb.sub (fun _ m => m) (fun _ m => List.mem_cons_of_mem _ m)⟩
def delH (H : Hp) (p : Addr) : Hp := fun b => if b = p then none else H b
theorem delH_ne {p b : Addr} (h : b ≠ p) : delH H p b = H b := if_neg h
theorem delH_same {p : Addr} : delH H p p = none := if_pos rfl
theorem upd_delH {p : Addr} {o : HO} (h : H p = some o) : upd (delH H p) p o = H := by
  funext b
  by_cases q : b = p
  · rw [q, upd_same, h]
  · rw [upd_ne q, delH_ne q]
theorem rd_del {p a : Addr} {u : HO} (h : a ≠ p) (r : Rd H a u) : Rd (delH H p) a u := by
  rcases r with r | ⟨o, r⟩
  · exact .inl (by rw [delH_ne h]; exact r)
  · exact .inr ⟨o, by rw [delH_ne h]; exact r⟩
theorem Mo.del {hs bs : List Addr} {p : Addr} (nt : ∀ vs, ¬ Rd H p (.tup vs)) : Mo ⟨hs, p :: bs⟩ S H ⟨hs, bs⟩ S (delH H p) :=
  ⟨fun a vs e => (delH_ne fun z => nt vs (.inl (by rw [← z]; exact e))).trans e, fun _ _ e => e, fun a vs e => rd_del (fun q => nt vs (q ▸ e)) e, fun a vs e n => ⟨rd_del (fun q => n.1 (by rw [q]; exact List.mem_cons_self)) e, fun hm => n.1 (List.mem_cons_of_mem _ hm), n.2⟩⟩
theorem TB0.del {hs bs : List Addr} {p : Addr} (t : TB0 ⟨hs, p :: bs⟩ H) (nb : p ∉ bs) : TB0 ⟨hs, bs⟩ (delH H p) := fun q hq => by
  obtain ⟨n1, n2, ps, e, tr, hc⟩ := t q hq
  have np : ∀ {b : Addr}, b ∉ p :: bs → b ≠ p := fun {b} m z => m (z ▸ List.mem_cons_self)
  refine ⟨n1, fun m => n2 (List.mem_cons_of_mem _ m), ps, by rw [delH_ne (np n2)]; exact e, tr, fun pos cv h => ?_⟩
  obtain ⟨c, e1, e2, m1, m2⟩ := hc pos cv h
  exact ⟨c, e1, by rw [delH_ne (np m2)]; exact e2, m1, fun m => m2 (List.mem_cons_of_mem _ m)⟩
theorem TB.del {hs bs : List Addr} {p : Addr} (t : TB ⟨hs, p :: bs⟩ H) (nb : p ∉ bs) : TB ⟨hs, bs⟩ (delH H p) := ⟨t.1.del nb, fun q hq => by
  obtain ⟨e, n1, n2⟩ := t.2 q hq
  have n3 : q.F.c ≠ p := fun z => n2 (show q.F.c ∈ p :: bs from by rw [z]; exact List.mem_cons_self)
  exact ⟨by rw [delH_ne n3]; exact e, n1, fun m => n2 (List.mem_cons_of_mem _ m)⟩⟩
theorem RS.del {hs bs : List Addr} {p : Addr} (R : RS K mg ⟨hs, p :: bs⟩ S H) (nb : p ∉ bs) (nt : ∀ vs, ¬ Rd H p (.tup vs)) : RS K mg ⟨hs, bs⟩ S (delH H p) := by
  have ne : ∀ a ∈ hs, a ≠ p := fun a ha e => R.ap p List.mem_cons_self (by rw [← e]; exact ha)
  refine ⟨R.len, R.nd, fun a ha => by rw [delH_ne (ne a ha)]; exact R.trk a ha, fun b hb => ?_, fun b hb => R.ap b (List.mem_cons_of_mem _ hb), fun h o a e1 e2 => RO.mono (Mo.del nt) (fun _ => delH_ne (ne a (List.mem_of_getElem? e2))) (R.obj h o a e1 e2), R.tb.del nb⟩
  have hbp : b ≠ p := fun e => nb (by rw [← e]; exact hb)
  rw [delH_ne hbp]; exact R.btrk b (List.mem_cons_of_mem _ hb)
end

/-! ### the slots -/
structure RE (K : PySem.W.Frag) (φ : Lo) (S : Sto) (H : Hp) (ρ : Env) (σ : L2.St) : Prop where
  len : σ.length = ρ.length
  at_ : ∀ (i : Nat) (d : D), ρ[i]? = some (some d) → ∃ v, σ[i]? = some (some v) ∧ RV K φ S H d v
section
variable {K : PySem.W.Frag} {mg : Str → Option Value} {φ φ' φ2 : Lo} {S S' S2 : Sto} {H H' H2 : Hp} {ρ : Env} {σ : L2.St}
theorem RE.mo (x : Mo φ S H φ' S' H') (r : RE K φ S H ρ σ) : RE K φ' S' H' ρ σ := ⟨r.len, fun i d e => let ⟨v, e1, q⟩ := r.at_ i d e; ⟨v, e1, RV.mo x d v q⟩⟩
theorem RE.mono (x : Ext φ S H φ' S' H') (r : RE K φ S H ρ σ) : RE K φ' S' H' ρ σ := r.mo x.mo
theorem RE.set {i : Nat} {d : D} {v : V} (r : RE K φ S H ρ σ) (q : RV K φ S H d v) : RE K φ S H (ρ.set i (some d)) (σ.set i (some v)) := by
  refine ⟨by simp [r.len], fun j e h => ?_⟩
  by_cases ij : i = j
  · subst ij
    by_cases hl : i < ρ.length
    · rw [List.getElem?_set_self hl] at h
      cases h
      exact ⟨v, List.getElem?_set_self (by rw [r.len]; exact hl), q⟩
    · rw [List.getElem?_eq_none (by simpa using hl)] at h; cases h
  · rw [List.getElem?_set_ne ij] at h
    obtain ⟨w, e1, q1⟩ := r.at_ j e h
    exact ⟨w, by rw [List.getElem?_set_ne ij]; exact e1, q1⟩
theorem RE.unset {i : Nat} (r : RE K φ S H ρ σ) : RE K φ S H (ρ.set i none) (σ.set i none) := by
  refine ⟨by simp [r.len], fun j e h => ?_⟩
  by_cases ij : i = j
  · subst ij
    by_cases hl : i < ρ.length
    · rw [List.getElem?_set_self hl] at h; cases h
    · rw [List.getElem?_eq_none (by simpa using hl)] at h; cases h
  · rw [List.getElem?_set_ne ij] at h
    obtain ⟨w, e1, q1⟩ := r.at_ j e h
    exact ⟨w, by rw [List.getElem?_set_ne ij]; exact e1, q1⟩
theorem RE.wipe (r : RE K φ S H ρ σ) : ∀ vs : List Nat, RE K φ S H (wipeE ρ vs) (wipe σ vs)
  | [] => r
  | v :: vs => (r.wipe vs).unset
theorem bind_ok {α β : Type} {r : R α} {f : α → Sto → R β} {b : β} {S' : Sto} (h : r.bind f = .ok b S') : ∃ a S1, r = .ok a S1 ∧ f a S1 = .ok b S' := by
  cases r with
  | ok a S1 => exact ⟨a, S1, rfl, h⟩
  | exc x S1 => cases h
  | bad => cases h
theorem of_ok {α : Type} {o : Option α} {S S' : Sto} {a : α} (h : R.of o S = .ok a S') : o = some a ∧ S' = S := by
  cases o with
  | none => cases h
  | some b => cases h; exact ⟨rfl, rfl⟩
end
end MI

set_option maxHeartbeats 1000000
/-! MIc: operations by values. -/
namespace MI
open PySem PySem.Spec PyProof.Rows L2
variable [Tabs] [Cels]

/-! ### plumbing -/
theorem line_eq : line = sizeLine := rfl
theorem PE.imp {X : Cx} {e : Expr} {t t' : TE} (h : PE X e t) (i : ∀ σ H Q, t' σ H Q → t σ H Q) : PE X e t' := ⟨fun pins s σ H Q I q => h.run pins s σ H Q I (i σ H Q q)⟩
theorem PT.imp {X : Cx} {e : Expr} {t t' : TT} (h : PT X e t) (i : ∀ σ H Q, t' σ H Q → t σ H Q) : PT X e t' := ⟨fun pins s σ H Q I q => h.run pins s σ H Q I (i σ H Q q)⟩
theorem PW.imp {X : Cx} {e : Expr} {t t' : TT} (h : PW X e t) (i : ∀ σ H Q, t' σ H Q → t σ H Q) : PW X e t' := ⟨fun wh pins s σ H Q I q => h.run wh pins s σ H Q I (i σ H Q q)⟩
theorem PA.imp {X : Cx} {e : List Expr} {t t' : TA} (h : PA X e t) (i : ∀ σ H Q, t' σ H Q → t σ H Q) : PA X e t' := ⟨fun pos pins s σ H Q I q => h.run pos pins s σ H Q I (i σ H Q q)⟩
theorem PS.imp {X : Cx} {e : Stmt} {t t' : TS} (h : PS X e t) (i : ∀ D σ H, t' D σ H → t D σ H) : PS X e t' := ⟨fun pins s σ H D I q => h.run pins s σ H D I (i D σ H q)⟩
theorem PSs.imp {X : Cx} {e : List Stmt} {t t' : TS} (h : PSs X e t) (i : ∀ D σ H, t' D σ H → t D σ H) : PSs X e t' := ⟨fun pins s σ H D I q => h.run pins s σ H D I (i D σ H q)⟩
def noStar : Expr → Bool
  | .Starred _ _ => false
  | _ => true
theorem star_cons {e : Expr} {es : List Expr} {env : PySem.Env} (h : noStar e = true) : starEach (e :: es) env = (false, eval e env) :: starEach es env := by
  cases e <;> first | rfl | cases h
theorem plain_star {pos : Pos} {env : PySem.Env} : ∀ {es : List Expr}, es.all noStar = true → (backTo pos (starEach es env)).any (·.1) = false
  | [], _ => rfl
  | e :: es, h => by
    rw [List.all_cons, Bool.and_eq_true] at h
    rw [star_cons h.1]
    have := plain_star (pos := pos) (env := env) h.2
    show ((false, _) :: backTo pos (starEach es env)).any (·.1) = false
    rw [List.any_cons, this]; rfl
theorem OpR.imp {X : Cx} {f : Value → Value → Sem Value} {r r' : R2} (h : OpR X f r) (i : ∀ x y H Q, r' x y H Q → r x y H Q) : OpR X f r' := fun pins s σ H x y v u Q I rx ry q => h pins s σ H x y v u Q I rx ry (i _ _ _ _ q)
theorem CallR.imp {X : Cx} {f : Value} {r r' : List V → Hp → VK → Prop} (h : CallR X f r) (i : ∀ x H Q, r' x H Q → r x H Q) : CallR X f r' := fun pins s σ H x us Q I rx q => h pins s σ H x us Q I rx (i _ _ _ q)

/-! ### what is wanted behind an operation -/
section
variable (K : PySem.W.Frag) (mg : Str → Option Value)
/-- whatever stands for d is wanted -/
def Wt (φ : Lo) (S : Sto) (H : Hp) (d : D) (S1 : Sto) (Q : VK) : Prop := ∀ φ' H' v, Ext φ S H φ' S1 H' → RS K mg φ' S1 H' → RV K φ' S1 H' d v → Q v H'
/-- an expression's reading by the interpreter -/
def tE (f : Env → Sto → R D) : TE := fun σ H Q => ∃ φ ρ S d S1, RE K φ S H ρ σ ∧ RS K mg φ S H ∧ f ρ S = .ok d S1 ∧ Wt K mg φ S H d S1 Q
def tT (f : Env → Sto → R Bool) : TT := fun σ H Q => ∃ φ ρ S b S1, RE K φ S H ρ σ ∧ RS K mg φ S H ∧ f ρ S = .ok b S1 ∧ ∀ φ' H', Ext φ S H φ' S1 H' → RS K mg φ' S1 H' → Q b H'
def tA (f : Env → Sto → R (List D)) : TA := fun σ H Q => ∃ φ ρ S l S1, RE K φ S H ρ σ ∧ RS K mg φ S H ∧ f ρ S = .ok l S1 ∧ ∀ φ' H' vs, Ext φ S H φ' S1 H' → RS K mg φ' S1 H' → RVs K φ' S1 H' l vs → Q vs H'
/-- a fresh list's -/
def tL (f : Env → Sto → R (List D)) : TE := fun σ H Q => ∃ φ ρ S l S1, RE K φ S H ρ σ ∧ RS K mg φ S H ∧ f ρ S = .ok l S1 ∧ ∀ φ' H' vs p, Ext φ S H φ' S1 H' → RS K mg φ' S1 H' → RVs K φ' S1 H' l vs → H' p = none → Q (.ref p) (upd H' p (.lst vs))
/-- a binary operation on values -/
def r2 (f : Sto → D → D → Option D) : R2 := fun x y H Q => ∃ φ S a b d, RS K mg φ S H ∧ RV K φ S H a x ∧ RV K φ S H b y ∧ f S a b = some d ∧ Wt K mg φ S H d S Q
end
section
variable {K : PySem.W.Frag} {mg : Str → Option Value} {φ φ' : Lo} {S S1 : Sto} {H H' : Hp} {Q : VK} {d : D} {v : V}
theorem Wt.here (w : Wt K mg φ S H d S Q) (R : RS K mg φ S H) (r : RV K φ S H d v) : Q v H := w φ H v Ext.refl R r
theorem Wt.step {S2 : Sto} {φ1 : Lo} {H1 : Hp} (w : Wt K mg φ S H d S2 Q) (x : Ext φ S H φ1 S1 H1) : Wt K mg φ1 S1 H1 d S2 Q := fun φ' H' v y r q => w φ' H' v (x.trans y) r q
theorem rvint {i : Int} : RV K φ S H (.int i) v ↔ v = .int i := by unfold RV; exact Iff.rfl
theorem rvbl {i : Bool} : RV K φ S H (.bl i) v ↔ v = .bl i := by unfold RV; exact Iff.rfl
theorem rvstr {i : Str} : RV K φ S H (.str i) v ↔ v = .str i := by unfold RV; exact Iff.rfl
theorem rvnon : RV K φ S H .non v ↔ v = .non := by unfold RV; exact Iff.rfl
theorem rvty {n : String} : RV K φ S H (.ty n) v ↔ v = .ty n := by unfold RV; exact Iff.rfl
theorem rvtup {l : List D} : RV K φ S H (.tup l) v ↔ ∃ a vs, v = .ref a ∧ SqT K H a vs ∧ RVs K φ S H l vs := by unfold RV; exact Iff.rfl
theorem rvlst {l : List D} : RV K φ S H (.lst l) v ↔ ∃ a vs, v = .ref a ∧ LA K φ S H a vs ∧ RVs K φ S H l vs := by unfold RV; exact Iff.rfl
theorem rvref {h : Nat} : RV K φ S H (.ref h) v ↔ ∃ a, v = .ref a ∧ φ.hs[h]? = some a := by unfold RV; exact Iff.rfl
theorem rv_int {i : Int} : RV K φ S H (.int i) (.int i) := rvint.mpr rfl
theorem rv_bl {i : Bool} : RV K φ S H (.bl i) (.bl i) := rvbl.mpr rfl
theorem rv_str {i : Str} : RV K φ S H (.str i) (.str i) := rvstr.mpr rfl
theorem rv_non : RV K φ S H .non .non := rvnon.mpr rfl
theorem rv_tup {l : List D} {vs : List V} {p : Addr} (R : RS K mg φ S H) (hp : H p = none) (r : RVs K φ S H l vs) : RV K φ S (upd H p (.tup vs)) (.tup l) (.ref p) := by
  unfold RV
  exact ⟨p, vs, rfl, .inl (.inl upd_same), RVs.mono (Ext.new R hp) _ _ r⟩
theorem rv_lst {l : List D} {vs : List V} {p : Addr} (R : RS K mg φ S H) (hp : H p = none) (r : RVs K φ S H l vs) : RV K φ S (upd H p (.lst vs)) (.lst l) (.ref p) := by
  unfold RV
  exact ⟨p, vs, rfl, .inl ⟨.inl upd_same, nl_new R hp⟩, RVs.mono (Ext.new R hp) _ _ r⟩
theorem Wt.tup {l : List D} {vs : List V} {p : Addr} (w : Wt K mg φ S H (.tup l) S Q) (R : RS K mg φ S H) (r : RVs K φ S H l vs) (hp : H p = none) : Q (.ref p) (upd H p (.tup vs)) :=
  w φ _ _ (Ext.new R hp) (R.new hp) (rv_tup R hp r)
theorem Wt.lst {l : List D} {vs : List V} {p : Addr} (w : Wt K mg φ S H (.lst l) S Q) (R : RS K mg φ S H) (r : RVs K φ S H l vs) (hp : H p = none) : Q (.ref p) (upd H p (.lst vs)) :=
  w φ _ _ (Ext.new R hp) (R.new hp) (rv_lst R hp r)
theorem RVs.keys {K : PySem.W.Frag} {φ : Lo} {S : Sto} {H : Hp} : ∀ l : List (Int ⊕ Str), RVs K φ S H (l.map kD) (l.map kV)
  | [] => .nil
  | .inl i :: r => .cons (by unfold RV; rfl) (RVs.keys r)
  | .inr x :: r => .cons (by unfold RV; rfl) (RVs.keys r)
/-- a list that is read: by value, or at a live handle -/
theorem list_at {l : List D} (R : RS K mg φ S H) (r : RV K φ S H d v) (e : listOf S d = some l) : ∃ a vs, v = .ref a ∧ SqL K H a vs ∧ RVs K φ S H l vs := by
  cases d with
  | lst l' =>
    simp only [listOf, Option.some.injEq] at e
    subst e
    obtain ⟨a, vs, e1, q, t⟩ := rvlst.mp r
    exact ⟨a, vs, e1, q.sq, t⟩
  | ref h =>
    obtain ⟨a, e1, e2⟩ := rvref.mp r
    have e' : (match S[h]? with | some (.lst l) => some l | _ => none) = some l := e
    cases e3 : S[h]? with
    | none => rw [e3] at e'; cases e'
    | some o =>
      rw [e3] at e'
      cases o with
      | lst l' =>
        cases e'
        obtain ⟨vs, q, t⟩ := R.obj _ _ _ e3 e2
        exact ⟨a, vs, e1, .inl (.inl q), t⟩
      | ins _ _ => cases e'
      | exn _ => cases e'
      | clo _ _ => cases e'
      | dct _ => cases e'
      | dead => cases e'
  | _ => simp [listOf] at e
theorem items_at {l : List D} (R : RS K mg φ S H) (r : RV K φ S H d v) (e : itemsOf S d = some l) : ∃ a vs, v = .ref a ∧ (SqL K H a vs ∨ SqT K H a vs) ∧ RVs K φ S H l vs := by
  cases d with
  | lst l' =>
    obtain ⟨a, vs, e1, q, t⟩ := list_at R r (show listOf S (.lst l') = some l from e)
    exact ⟨a, vs, e1, .inl q, t⟩
  | ref h =>
    obtain ⟨a, vs, e1, q, t⟩ := list_at R r (show listOf S (.ref h) = some l from e)
    exact ⟨a, vs, e1, .inl q, t⟩
  | tup l' =>
    simp only [itemsOf, Option.some.injEq] at e
    subst e
    unfold RV at r
    obtain ⟨a, vs, e1, q, t⟩ := r
    exact ⟨a, vs, e1, .inr q, t⟩
  | key l' =>
    simp only [itemsOf, Option.some.injEq] at e
    subst e
    unfold RV at r
    obtain ⟨a, e1, q⟩ := r
    exact ⟨a, _, e1, .inr (.of q), RVs.keys l'⟩
  | _ => simp [itemsOf] at e
end

/-! ### operators -/
section
variable {X : Cx}
/-- + of any two lists -/
theorem op_catR : OpR X (binaryOp .Add) (fun x y H Q => ∃ l b xs zs, x = .ref l ∧ y = .ref b ∧ SqL X.K H l xs ∧ SqL X.K H b zs ∧ xs.length + zs.length ≤ sizeLine ∧ ∀ p, H p = none → Q (.ref p) (upd H p (.lst (xs ++ zs)))) := by
  intro pins s σ H x y v u Q I rx ry h
  obtain ⟨l, b, xs, zs, rfl, rfl, hH, hB, hz, q⟩ := h
  cases rx
  cases ry
  obtain ⟨its, r, ⟨⟨cls, dd, data, sl⟩, n, e, hc, _, hd⟩, z⟩ := I.list hH
  obtain ⟨its2, r2, ⟨⟨cls2, dd2, data2, sl2⟩, n2, e2, hc2, _, hd2⟩, z2⟩ := I.list hB
  simp only at hc hd hc2 hd2
  subst hc hd hc2 hd2
  have hl := r.length
  have hl2 := r2.length
  refine PySem.concat_meets ⟨_, e, rfl⟩ ⟨_, e2, rfl⟩ PySem.noFill_list_add PySem.seq_list_add PySem.F.slot_list_add PySem.F.entry_list_add (PySem.F.args_list_add_2 _ _) (PyProof.Rows.list_addW l b its.toArray its2.toArray n n2 dd dd2 sl sl2 (by rw [List.size_toArray, List.size_toArray]; omega)) ⟨e, e2, ?_⟩
  have ea : its.toArray ++ its2.toArray = (its ++ its2).toArray := by simp
  rw [ea]
  exact ⟨.ref _, _, I.laid (t' := s.toks) (o := .lst (xs ++ zs)) (fun b ob q => Heap.get?_push_of_some _ q) (Nat.le_refl _) ⟨by rw [List.length_append]; omega, _, 0, r.append r2, Heap.get?_push_size _ rfl⟩, rfl, q _ (I.hok.fresh (Nat.le_refl _))⟩
theorem mulOk_ok {i j : Int} (h : mulOk i j = true) : CMul i j := by
  unfold mulOk at h
  simp only [Bool.or_eq_true, decide_eq_true_eq] at h
  exact h
theorem ite_some {c : Prop} [Decidable c] {α : Type} {a b : α} (h : (if c then some a else none) = some b) : c ∧ a = b := by
  by_cases hc : c
  · rw [if_pos hc] at h; exact ⟨hc, Option.some.inj h⟩
  · rw [if_neg hc] at h; cases h
/-- ints -/
theorem op_fdiv250 : OpR X (binaryOp .FloorDiv) (rI (fun _ j => j ≠ 0 ∧ j.natAbs < 2 ^ 250) fun i j => .int (i.fdiv j)) := opI fun _ j _ _ _ _ _ hc q => floordiv_int hc.1 q (.inl (PyProof.noPylong_of_log2 (by
  have h0 : j.natAbs ≠ 0 := by have := hc.1; omega
  exact Nat.lt_trans ((Nat.log2_lt h0).mpr hc.2) (by decide))))
theorem binI_ok {o : Operator} : OpR X (binaryOp o) (fun x y H Q => ∃ i j k, x = .int i ∧ y = .int j ∧ binI o i j = some k ∧ Q (.int k) H) := by
  cases o with
  | Add => exact OpR.imp op_add fun x y H Q ⟨i, j, k, e1, e2, e3, q⟩ => ⟨i, j, e1, e2, by cases e3; exact q⟩
  | Sub => exact OpR.imp op_sub fun x y H Q ⟨i, j, k, e1, e2, e3, q⟩ => ⟨i, j, e1, e2, by cases e3; exact q⟩
  | Mult => exact OpR.imp op_mul fun x y H Q ⟨i, j, k, e1, e2, e3, q⟩ => let ⟨c, e⟩ := ite_some e3; ⟨i, j, e1, e2, mulOk_ok c, by subst e; exact q⟩
  | FloorDiv => exact OpR.imp op_fdiv250 fun x y H Q ⟨i, j, k, e1, e2, e3, q⟩ => let ⟨c, e⟩ := ite_some e3; ⟨i, j, e1, e2, c, by subst e; exact q⟩
  | Mod => exact OpR.imp op_modN fun x y H Q ⟨i, j, k, e1, e2, e3, q⟩ => let ⟨c, e⟩ := ite_some e3; ⟨i, j, e1, e2, c, by subst e; exact q⟩
  | Pow => exact OpR.imp op_pow fun x y H Q ⟨i, j, k, e1, e2, e3, q⟩ => let ⟨c, e⟩ := ite_some e3; ⟨i, j, e1, e2, c, by subst e; exact q⟩
  | LShift => exact OpR.imp op_shl fun x y H Q ⟨i, j, k, e1, e2, e3, q⟩ => let ⟨c, e⟩ := ite_some e3; ⟨i, j, e1, e2, c, by subst e; exact q⟩
  | RShift => exact OpR.imp op_shr fun x y H Q ⟨i, j, k, e1, e2, e3, q⟩ => let ⟨c, e⟩ := ite_some e3; ⟨i, j, e1, e2, c, by subst e; exact q⟩
  | BitAnd => exact OpR.imp op_and fun x y H Q ⟨i, j, k, e1, e2, e3, q⟩ => ⟨i, j, e1, e2, by cases e3; exact q⟩
  | BitOr => exact OpR.imp op_or fun x y H Q ⟨i, j, k, e1, e2, e3, q⟩ => ⟨i, j, e1, e2, by cases e3; exact q⟩
  | BitXor => exact OpR.imp op_xor fun x y H Q ⟨i, j, k, e1, e2, e3, q⟩ => ⟨i, j, e1, e2, by cases e3; exact q⟩
  | MatMult => exact fun pins s σ H x y v u Q I rx ry ⟨i, j, k, e1, e2, e3, q⟩ => by cases e3
  | Div => exact fun pins s σ H x y v u Q I rx ry ⟨i, j, k, e1, e2, e3, q⟩ => by cases e3
theorem addL_ok {o : Operator} {φ : Lo} {S : Sto} {a b d : D} {pins : List (Addr × Obj)} {s : Shared} {σ : L2.St} {H : Hp} {x y : V} {v u : Value} {Q : VK} (I : L2.Inv X pins σ H s) (rx : L2.RelV x v) (ry : L2.RelV y u)
    (R : RS X.K X.mg φ S H) (ra : RV X.K φ S H a x) (rb : RV X.K φ S H b y) (e : addL S o a b = some d) (w : Wt X.K X.mg φ S H d S Q) : wpAny (model X.prog X.w) X.A (binaryOp o v u) (EP X pins σ Q) X.xe s := by
  cases o with
  | Add =>
    obtain ⟨l1, e1, e⟩ := Option.bind_eq_some_iff.mp (show (listOf S a).bind (fun x => (listOf S b).bind fun y => if x.length + y.length ≤ line then some (D.lst (x ++ y)) else none) = some d from e)
    obtain ⟨l2, e2, e⟩ := Option.bind_eq_some_iff.mp e
    obtain ⟨hc, e⟩ := ite_some e
    subst e
    obtain ⟨a1, vs1, rfl, q1, t1⟩ := list_at R ra e1
    obtain ⟨a2, vs2, rfl, q2, t2⟩ := list_at R rb e2
    exact op_catR pins s σ H _ _ v u Q I rx ry ⟨a1, a2, vs1, vs2, rfl, rfl, q1, q2, by rw [t1.length, t2.length]; exact hc, fun p hp => w.lst R (t1.append t2) hp⟩
  | _ => cases e
/-- a binary operator -/
theorem bin_ok {o : Operator} : OpR X (binaryOp o) (r2 X.K X.mg fun S a b => binD S o a b) := by
  intro pins s σ H x y v u Q I rx ry h
  obtain ⟨φ, S, a, b, d, R, ra, rb, e, w⟩ := h
  cases a with
  | int i =>
    cases b with
    | int j =>
      obtain ⟨k, e1, e2⟩ := Option.map_eq_some_iff.mp (show (binI o i j).map D.int = some d from e)
      subst e2
      rw [rvint] at ra rb
      subst ra rb
      exact binI_ok pins s σ H _ _ v u Q I rx ry ⟨i, j, k, rfl, rfl, e1, w.here R rv_int⟩
    | _ => cases e
  | str z =>
    cases b with
    | str z2 =>
      rw [rvstr] at ra rb
      subst ra rb
      cases o with
      | Add =>
        obtain ⟨hc, e⟩ := ite_some (show (if z.length + z2.length ≤ line then some (D.str (z ++ z2)) else none) = some d from e)
        subst e
        exact op_add_str pins s σ H _ _ v u Q I rx ry ⟨z, z2, rfl, rfl, hc, w.here R rv_str⟩
      | _ => cases e
    | _ => cases e
  | tup l1 =>
    cases b with
    | tup l2 =>
      have ra' := ra
      have rb' := rb
      obtain ⟨a1, vs1, rfl, q1, t1⟩ := rvtup.mp ra
      obtain ⟨a2, vs2, rfl, q2, t2⟩ := rvtup.mp rb
      cases o with
      | Add =>
        obtain ⟨hc, e⟩ := ite_some (show (if l1.length + l2.length ≤ line then some (D.tup (l1 ++ l2)) else none) = some d from e)
        subst e
        refine op_catA pins s σ H _ _ v u Q I rx ry ⟨a1, a2, vs1, vs2, rfl, rfl, q1, q2, by rw [t1.length, t2.length]; exact hc, fun z => ?_, fun _ z => ?_, fun _ _ p hp => w.tup R (t1.append t2) hp⟩
        · have h1 := t1.length
          rw [z] at h1
          have h2 : l1 = [] := List.length_eq_zero_iff.mp h1.symm
          subst h2
          exact w.here R rb'
        · have h1 := t2.length
          rw [z] at h1
          have h2 : l2 = [] := List.length_eq_zero_iff.mp h1.symm
          subst h2
          rw [List.append_nil] at w
          exact w.here R ra'
      | _ => cases e
    | _ => cases e
  | lst l => exact addL_ok I rx ry R ra rb (by cases b <;> exact e) w
  | ref h => exact addL_ok I rx ry R ra rb (by cases b <;> exact e) w
  | _ => cases b <;> cases e
end
end MI

set_option maxHeartbeats 1000000
/-! MIkt: dicts whose keys are keys: as lists of pairs. -/
namespace MI
open PySem PySem.Spec PyProof.Rows L2
section
variable {K : PySem.W.Frag} {φ : Lo} {S : Sto} {H : Hp}
theorem valK_nil {k : List (Int ⊕ Str)} : valK [] k = none := rfl
theorem valK_pos {q : List (Int ⊕ Str) × D} {r : List (List (Int ⊕ Str) × D)} {k : List (Int ⊕ Str)} (e : q.1 = k) : valK (q :: r) k = some q.2 := by simp [valK, List.find?_cons, e]
theorem valK_neg {q : List (Int ⊕ Str) × D} {r : List (List (Int ⊕ Str) × D)} {k : List (Int ⊕ Str)} (e : ¬ q.1 = k) : valK (q :: r) k = valK r k := by simp [valK, List.find?_cons, e]
/-- the pairs in the heap -/
def zipW (kvs : List (List (Int ⊕ Str) × D)) (ws : List V) : List (List Key × V) := (kvs.map (·.1)).zip ws
theorem valK_at : ∀ {kvs : List (List (Int ⊕ Str) × D)} {ws : List V} (k : List (Int ⊕ Str)), RVs K φ S H (kvs.map (·.2)) ws →
    (∀ d, valK kvs k = some d → ∃ v, valV (zipW kvs ws) k = some v ∧ RV K φ S H d v) ∧ (valK kvs k = none → valV (zipW kvs ws) k = none)
  | [], ws, k, t => ⟨fun d e => by (rw [valK_nil] at e; cases e), fun _ => rfl⟩
  | q :: r, ws, k, t => by
    obtain ⟨v, vr, rfl, h1, h2⟩ := RVs.inv_cons t
    obtain ⟨i1, i2⟩ := valK_at (kvs := r) (ws := vr) k h2
    by_cases e : q.1 = k
    · refine ⟨fun d e1 => ?_, fun e1 => ?_⟩
      · rw [valK_pos e] at e1
        cases e1
        exact ⟨v, valV_pos (p := (q.1, v)) e, h1⟩
      · rw [valK_pos e] at e1; cases e1
    · rw [valK_neg e]
      have z : valV (zipW (q :: r) (v :: vr)) k = valV (zipW r vr) k := valV_neg (p := (q.1, v)) e
      rw [z]
      exact ⟨i1, i2⟩
theorem any_at {kvs : List (List (Int ⊕ Str) × D)} {ws : List V} (k : List (Int ⊕ Str)) (t : RVs K φ S H (kvs.map (·.2)) ws) : ((zipW kvs ws).any fun q => decide (q.1 = k)) = kvs.any fun q => decide (q.1 = k) := by
  induction kvs generalizing ws with
  | nil => rfl
  | cons q r ih =>
    obtain ⟨v, vr, rfl, h1, h2⟩ := RVs.inv_cons t
    show ((decide (q.1 = k)) || (zipW r vr).any _) = _
    rw [ih h2, List.any_cons]
theorem isSome_at {kvs : List (List (Int ⊕ Str) × D)} {ws : List V} (k : List (Int ⊕ Str)) (t : RVs K φ S H (kvs.map (·.2)) ws) : (valV (zipW kvs ws) k).isSome = kvs.any fun q => decide (q.1 = k) := by
  rw [← valV_any, any_at k t]
theorem repl_at {k : List (Int ⊕ Str)} {d : D} {v : V} (rv : RV K φ S H d v) : ∀ {kvs : List (List (Int ⊕ Str) × D)} {ws : List V}, RVs K φ S H (kvs.map (·.2)) ws →
    ∃ ws', (zipW kvs ws).map (fun q => if q.1 = k then (q.1, v) else q) = zipW (kvs.map (fun q => if q.1 = k then (q.1, d) else q)) ws' ∧ RVs K φ S H ((kvs.map (fun q => if q.1 = k then (q.1, d) else q)).map (·.2)) ws'
  | [], ws, t => ⟨[], rfl, .nil⟩
  | q :: r, ws, t => by
    obtain ⟨u, vr, rfl, h1, h2⟩ := RVs.inv_cons t
    obtain ⟨ws', e1, t1⟩ := repl_at rv h2
    by_cases e : q.1 = k
    · refine ⟨v :: ws', ?_, ?_⟩
      · show (if q.1 = k then (q.1, v) else (q.1, u)) :: (zipW r vr).map _ = _
        rw [e1, if_pos e, List.map_cons, if_pos e]
        rfl
      · rw [List.map_cons, if_pos e]
        exact .cons rv t1
    · refine ⟨u :: ws', ?_, ?_⟩
      · show (if q.1 = k then (q.1, v) else (q.1, u)) :: (zipW r vr).map _ = _
        rw [e1, if_neg e, List.map_cons, if_neg e]
        rfl
      · rw [List.map_cons, if_neg e]
        exact .cons h1 t1
theorem zipW_snoc {kvs : List (List (Int ⊕ Str) × D)} {ws : List V} {k : List (Int ⊕ Str)} {d : D} {v : V} (t : RVs K φ S H (kvs.map (·.2)) ws) : zipW (kvs ++ [(k, d)]) (ws ++ [v]) = zipW kvs ws ++ [(k, v)] := by
  have hl : ws.length = kvs.length := by rw [t.length, List.length_map]
  unfold zipW
  rw [List.map_append, List.zip_append (by rw [List.length_map, hl])]
  rfl
theorem put_at {kvs : List (List (Int ⊕ Str) × D)} {ws : List V} {k : List (Int ⊕ Str)} {d : D} {v : V} (rv : RV K φ S H d v) (t : RVs K φ S H (kvs.map (·.2)) ws) :
    ∃ ws', putK (zipW kvs ws) k v = zipW (putD' kvs k d) ws' ∧ RVs K φ S H ((putD' kvs k d).map (·.2)) ws' := by
  unfold putK putD'
  rw [any_at k t]
  by_cases e : (kvs.any fun q => decide (q.1 = k)) = true
  · rw [if_pos e, if_pos e]
    exact repl_at rv t
  · rw [if_neg e, if_neg e]
    refine ⟨ws ++ [v], (zipW_snoc t).symm, ?_⟩
    rw [List.map_append]
    exact t.append (.cons rv .nil)
end
section
variable [Tabs] [Cels] {K : PySem.W.Frag} {mg : Str → Option Value} {φ : Lo} {S : Sto} {H : Hp}
theorem key_at {l : List (Int ⊕ Str)} {v : V} (r : RV K φ S H (.key l) v) : ∃ a, v = .ref a ∧ H a = some (.tup (l.map kV)) := by unfold RV at r; exact r
theorem Wt.key {l : List (Int ⊕ Str)} {p : Addr} {Q : VK} (w : Wt K mg φ S H (.key l) S Q) (R : RS K mg φ S H) (hp : H p = none) : Q (.ref p) (upd H p (.tup (l.map kV))) :=
  w φ _ _ (Ext.new R hp) (R.new hp) (by unfold RV; exact ⟨p, rfl, upd_same⟩)
theorem cut_key {l : List (Int ⊕ Str)} {lo hi : Option Int} : cutV (l.map kV) lo hi = (cutL l lo hi).map kV := by
  unfold cutV cutL
  rw [List.length_map, List.map_take, List.map_drop]
theorem dctOf_inv {d : D} {kvs : List (List (Int ⊕ Str) × D)} (e : dctOf S d = some kvs) : ∃ h, d = .ref h ∧ S[h]? = some (.dct kvs) := by
  cases d with
  | ref h =>
    have e : (match S[h]? with | some (.dct kvs) => some kvs | _ => none) = some kvs := e
    cases e3 : S[h]? with
    | none => rw [e3] at e; cases e
    | some o =>
      rw [e3] at e
      cases o <;> first | (cases e; done) | skip
      exact ⟨h, rfl, by rw [e3, Option.some.inj e]⟩
  | _ => cases e
theorem dct_at {d : D} {v : V} {kvs : List (List (Int ⊕ Str) × D)} (R : RS K mg φ S H) (r : RV K φ S H d v) (e : dctOf S d = some kvs) : ∃ a ws, v = .ref a ∧ H a = some (.dT (zipW kvs ws)) ∧ RVs K φ S H (kvs.map (·.2)) ws := by
  obtain ⟨h, rfl, e1⟩ := dctOf_inv e
  obtain ⟨a, e2, e3⟩ := rvref.mp r
  obtain ⟨ws, e4, t⟩ := R.obj _ _ _ e1 e3
  exact ⟨a, ws, e2, e4, t⟩
end
section
variable {X : Cx}
theorem op_dIn (hu : X.A.units + 1 < cLine) : OpR X (compareOp .In) (fun x y H Q => ∃ a o, y = .ref a ∧ DGet H a x o ∧ Q (.bl o.isSome) H) := by
  intro pins s σ H x y v u Q I rx ry h
  obtain ⟨a, o, rfl, g, q⟩ := h
  cases ry
  exact d_in hu I g rx fun s' I' => ⟨.bl o.isSome, H, I', rfl, q⟩
theorem op_dNotIn (hu : X.A.units + 1 < cLine) : OpR X (compareOp .NotIn) (fun x y H Q => ∃ a o, y = .ref a ∧ DGet H a x o ∧ Q (.bl (!o.isSome)) H) := by
  intro pins s σ H x y v u Q I rx ry h
  obtain ⟨a, o, rfl, g, q⟩ := h
  cases ry
  exact d_notIn hu I g rx fun s' I' => ⟨.bl (!o.isSome), H, I', rfl, q⟩
theorem ix_dict (hu : X.A.units + 1 < cLine) : IxR X (fun x y H Q => ∃ a w, x = .ref a ∧ DGet H a y (some w) ∧ Q w H) := by
  intro value slice pins s σ H x y v u Q I rx ry h hs
  obtain ⟨a, z, rfl, g, q⟩ := h
  cases rx
  have hT := dict_typeIs I g
  unfold subscriptTail
  refine wpAny_bind ?_
  rw [getitemInPython_of_ne hT.not_modules]
  refine wpAny_bind (wpAny_specialOf hT PySem.F.slot_dict_getitem.lookup ?_)
  have fin : wpAny (model X.prog X.w) X.A (subscripted slice false (.ref a) u) (fun r s₃ => wpAny (model X.prog X.w) X.A (letTemporaryGo value (.ref a) r >>= fun _ => pure r) (EP X pins σ Q) X.xe s₃) X.xe s := by
    rw [hs]
    exact wpAny_operating (d_getItem hu I g ry fun w' s3 I3 rw' => wpAny_bind (wpAny_letTemporaryGo (wpAny_pure ⟨z, H, I3, rw', q⟩)))
  first
    | exact wpAny_pure (wpAny_bind fin)
    | exact wpAny_bind (wpAny_pure (wpAny_bind fin))
    | exact wpAny_bind fin
theorem set_dict (hu : X.A.units + 1 < cLine) : PSet X (fun x y v H Q => ∃ a H', x = .ref a ∧ DPut H a y v H' ∧ Q H') := by
  intro pins s σ H o i v ov iv u Q I ro ri rv h
  obtain ⟨a, H', rfl, g, q⟩ := h
  cases ro
  exact d_setItem hu I g ri rv fun s' I' => ⟨H', I', q⟩
theorem PSet.or {t t' : TSet} (h : PSet X t) (h' : PSet X t') : PSet X (fun x y v H Q => t x y v H Q ∨ t' x y v H Q) := by
  intro pins s σ H o i v ov iv u Q I ro ri rv q
  rcases q with q | q
  · exact h pins s σ H o i v ov iv u Q I ro ri rv q
  · exact h' pins s σ H o i v ov iv u Q I ro ri rv q
end
/-- items that make a key -/
theorem keyL_at [Tabs] [Cels] {K : PySem.W.Frag} {φ : Lo} {S : Sto} {H : Hp} : ∀ {l : List D} {vs : List V} {k : List (Int ⊕ Str)}, keyL l = some k → RVs K φ S H l vs → vs = k.map kV
  | [], vs, k, e, t => by
    cases e
    exact RVs.inv_nil t
  | d :: r, vs, k, e, t => by
    obtain ⟨v, vr, rfl, h1, h2⟩ := RVs.inv_cons t
    cases d <;> first | (cases e; done) | skip
    · obtain ⟨k', e1, e2⟩ := Option.map_eq_some_iff.mp (show (keyL r).map _ = some k from e)
      subst e2
      rw [rvint] at h1
      subst h1
      rw [keyL_at e1 h2]
      rfl
    · obtain ⟨k', e1, e2⟩ := Option.map_eq_some_iff.mp (show (keyL r).map _ = some k from e)
      subst e2
      rw [rvstr] at h1
      subst h1
      rw [keyL_at e1 h2]
      rfl
end MI

set_option maxHeartbeats 1000000
/-! MId: comparisons, truth, subscripts, built-ins, by values. -/
namespace MI
open PySem PySem.Spec PyProof.Rows L2
variable [Tabs] [Cels]
section
variable {K : PySem.W.Frag} {mg : Str → Option Value} {φ φ' : Lo} {S S1 : Sto} {H H' : Hp} {Q : VK}
/-! ### data -/
mutual
theorem dp_of : ∀ (d : D) (v : V) (x : PyData), pd0 d = some x → RV K φ S H d v → Dp K H v x
  | .non, v, x, e, r => by rw [rvnon] at r; subst r; cases e; exact .non
  | .bl b, v, x, e, r => by rw [rvbl] at r; subst r; cases e; exact .bl b
  | .int i, v, x, e, r => by rw [rvint] at r; subst r; cases e; exact .int i
  | .str z, v, x, e, r => by rw [rvstr] at r; subst r; cases e; exact .str z
  | .tup l, v, x, e, r => by
    obtain ⟨a, vs, rfl, q, t⟩ := rvtup.mp r
    obtain ⟨xs, e1, e2⟩ := Option.map_eq_some_iff.mp (show (pds0 l).map PyData.tuple = some x from by unfold pd0 at e; exact e)
    subst e2
    exact .tup q (dps_of l vs xs e1 t)
  | .lst l, v, x, e, r => by
    obtain ⟨a, vs, rfl, q, t⟩ := rvlst.mp r
    obtain ⟨xs, e1, e2⟩ := Option.map_eq_some_iff.mp (show (pds0 l).map PyData.list = some x from by unfold pd0 at e; exact e)
    subst e2
    exact .lst q.sq (dps_of l vs xs e1 t)
  | .ref _, v, x, e, r => by unfold pd0 at e; cases e
  | .ty _, v, x, e, r => by unfold pd0 at e; cases e
theorem dps_of : ∀ (l : List D) (vs : List V) (xs : List PyData), pds0 l = some xs → RVs K φ S H l vs → DpAll K H vs xs
  | [], vs, xs, e, r => by rw [r.inv_nil]; cases e; exact .nil
  | d :: l, vs, xs, e, r => by
    obtain ⟨v, vr, rfl, q, t⟩ := r.inv_cons
    unfold pds0 at e
    cases e1 : pd0 d with
    | none => rw [e1] at e; cases e
    | some x =>
      cases e2 : pds0 l with
      | none => rw [e1, e2] at e; cases e
      | some ys =>
        rw [e1, e2] at e
        cases e
        exact .cons (dp_of d v x e1 q) (dps_of l vr ys e2 t)
end
theorem dpOf {d : D} {v : V} {x : PyData} (R : RS K mg φ S H) (e : pdOf S d = some x) (r : RV K φ S H d v) : Dp K H v x := by
  cases d with
  | ref h =>
    obtain ⟨a, rfl, e2⟩ := rvref.mp r
    have e' : (match S[h]? with | some (.lst l) => (pds0 l).map .list | _ => none) = some x := e
    cases e3 : S[h]? with
    | none => rw [e3] at e'; cases e'
    | some o =>
      rw [e3] at e'
      cases o with
      | lst l' =>
        obtain ⟨xs, e1, e4⟩ := Option.map_eq_some_iff.mp (show (pds0 l').map PyData.list = some x from e')
        subst e4
        obtain ⟨vs, q, t⟩ := R.obj _ _ _ e3 e2
        exact .lst (.inl (.inl q)) (dps_of l' vs xs e1 t)
      | ins _ _ => cases e'
      | exn _ => cases e'
      | clo _ _ => cases e'
      | dct _ => cases e'
      | dead => cases e'
  | _ => exact dp_of _ v x e r
theorem pdLs_ok {f : MI.D → Option PyData} (hf : ∀ d v x, f d = some x → RV K φ S H d v → Dp K H v x) : ∀ (l : List MI.D) (vs : List V) (xs : List PyData), pdLs f l = some xs → RVs K φ S H l vs → DpAll K H vs xs
  | [], vs, xs, e, r => by rw [r.inv_nil]; cases e; exact .nil
  | d :: l, vs, xs, e, r => by
    obtain ⟨v, vr, rfl, q, t⟩ := r.inv_cons
    unfold pdLs at e
    cases e1 : f d with
    | none => rw [e1] at e; cases e
    | some x =>
      cases e2 : pdLs f l with
      | none => rw [e1, e2] at e; cases e
      | some ys =>
        rw [e1, e2] at e
        cases e
        exact .cons (hf d v x e1 q) (pdLs_ok hf l vr ys e2 t)
theorem pdN_ok (R : RS K mg φ S H) : ∀ (n : Nat) (d : MI.D) (v : V) (x : PyData), pdN S n d = some x → RV K φ S H d v → Dp K H v x
  | 0, _, _, _, e, _ => by cases e
  | n + 1, d, v, x, e, r => by
    cases d with
    | ref h =>
      obtain ⟨a, rfl, e2⟩ := rvref.mp r
      have e' : (match S[h]? with | some (.lst l) => (pdLs (pdN S n) l).map .list | _ => none) = some x := e
      cases e3 : S[h]? with
      | none => rw [e3] at e'; cases e'
      | some o =>
        rw [e3] at e'
        cases o with
        | lst l' =>
          obtain ⟨xs, e1, e4⟩ := Option.map_eq_some_iff.mp (show (pdLs (pdN S n) l').map PyData.list = some x from e')
          subst e4
          obtain ⟨vs, q, t⟩ := R.obj _ _ _ e3 e2
          exact .lst (.inl (.inl q)) (pdLs_ok (pdN_ok R n) l' vs xs e1 t)
        | ins _ _ => cases e'
        | exn _ => cases e'
        | clo _ _ => cases e'
        | dct _ => cases e'
        | dead => cases e'
    | tup l =>
      obtain ⟨a, vs, rfl, q, t⟩ := rvtup.mp r
      obtain ⟨xs, e1, e2⟩ := Option.map_eq_some_iff.mp (show (pdLs (pdN S n) l).map PyData.tuple = some x from e)
      subst e2
      exact .tup q (pdLs_ok (pdN_ok R n) l vs xs e1 t)
    | lst l =>
      obtain ⟨a, vs, rfl, q, t⟩ := rvlst.mp r
      obtain ⟨xs, e1, e2⟩ := Option.map_eq_some_iff.mp (show (pdLs (pdN S n) l).map PyData.list = some x from e)
      subst e2
      exact .lst q.sq (pdLs_ok (pdN_ok R n) l vs xs e1 t)
    | _ => exact dp_of _ v x e r
theorem dpE {d : MI.D} {v : V} {x : PyData} (R : RS K mg φ S H) (e : pdE S d = some x) (r : RV K φ S H d v) : Dp K H v x := by
  unfold pdE at e
  cases e1 : pdOf S d with
  | none => rw [e1] at e; exact pdN_ok R 6 d v x e r
  | some y => rw [e1] at e; cases e; exact dpOf R e1 r
theorem eqD_cases {a b : D} {k : Bool} (h : eqD S a b = some k) :
    (∃ i j, a = .int i ∧ b = .int j ∧ k = decide (i = j)) ∨ (∃ i j, a = .str i ∧ b = .str j ∧ k = decide (i = j)) ∨ (∃ i j, a = .bl i ∧ b = .bl j ∧ k = decide (i = j)) ∨ eqG S a b = some k := by
  cases a with
  | int i => cases b with
    | int j => exact .inl ⟨i, j, rfl, rfl, (Option.some.inj h).symm⟩
    | _ => exact .inr (.inr (.inr h))
  | str i => cases b with
    | str j => exact .inr (.inl ⟨i, j, rfl, rfl, (Option.some.inj h).symm⟩)
    | _ => exact .inr (.inr (.inr h))
  | bl i => cases b with
    | bl j => exact .inr (.inr (.inl ⟨i, j, rfl, rfl, (Option.some.inj h).symm⟩))
    | _ => exact .inr (.inr (.inr h))
  | _ => exact .inr (.inr (.inr (by cases b <;> exact h)))
theorem lenNe_inv {a b : D} {k : Bool} (e : lenNe S a b = some k) : k = false ∧ ∃ l l2, listOf S a = some l ∧ listOf S b = some l2 ∧ l.length ≠ l2.length := by
  unfold lenNe at e
  cases e1 : listOf S a with
  | none => rw [e1] at e; cases e
  | some l =>
    cases e2 : listOf S b with
    | none => rw [e1, e2] at e; cases e
    | some l2 =>
      rw [e1, e2] at e
      by_cases hc : l.length = l2.length
      · simp only [hc, if_true] at e; cases e
      · simp only [if_neg hc] at e
        exact ⟨(Option.some.inj e).symm, l, l2, rfl, rfl, hc⟩
theorem eqG_at {a b : D} {k : Bool} {x y : V} (R : RS K mg φ S H) (e : eqG S a b = some k) (ra : RV K φ S H a x) (rb : RV K φ S H b y) : (∃ d e, Dp K H x d ∧ Dp K H y e ∧ SeqAt.shaped d = true ∧ SeqAt.shaped e = true ∧ PyData.eqv d e = k) ∨
    (k = false ∧ ∃ c c2 xs ys, x = .ref c ∧ y = .ref c2 ∧ SqL K H c xs ∧ SqL K H c2 ys ∧ xs.length ≠ ys.length) := by
  unfold eqG at e
  have go : lenNe S a b = some k → (k = false ∧ ∃ c c2 xs ys, x = .ref c ∧ y = .ref c2 ∧ SqL K H c xs ∧ SqL K H c2 ys ∧ xs.length ≠ ys.length) := fun e => by
    obtain ⟨hk, l, l2, e1, e2, hl⟩ := lenNe_inv e
    obtain ⟨c, xs, rfl, q1, t1⟩ := list_at R ra e1
    obtain ⟨c2, ys, rfl, q2, t2⟩ := list_at R rb e2
    exact ⟨hk, c, c2, xs, ys, rfl, rfl, q1, q2, by rw [t1.length, t2.length]; exact hl⟩
  cases e1 : pdE S a with
  | none => rw [e1] at e; exact .inr (go e)
  | some u =>
    cases e2 : pdE S b with
    | none => rw [e1, e2] at e; exact .inr (go e)
    | some w =>
      rw [e1, e2] at e
      obtain ⟨hc, e⟩ := ite_some (show (if (SeqAt.shaped u && SeqAt.shaped w) = true then some (PyData.eqv u w) else none) = some k from e)
      rw [Bool.and_eq_true] at hc
      exact .inl ⟨u, w, dpE R e1 ra, dpE R e2 rb, hc.1, hc.2, e⟩
theorem op_eqL {X : Cx} (hu : X.A.units + 64 < cLine) : OpR X (compareOp .Eq) fun x y H Q => ∃ c c2 xs ys, x = .ref c ∧ y = .ref c2 ∧ SqL X.K H c xs ∧ SqL X.K H c2 ys ∧ xs.length ≠ ys.length ∧ Q (.bl false) H := by
  intro pins s σ H x y v u Q I rx ry h
  obtain ⟨c, c2, xs, ys, rfl, rfl, q1, q2, hl, q⟩ := h
  obtain rfl : v = Value.ref c := rx
  obtain rfl : u = Value.ref c2 := ry
  obtain ⟨its, rv, p, hz⟩ := I.list q1
  obtain ⟨its2, rv2, p2, hz2⟩ := I.list q2
  have h1 := rv.length
  have h2 := rv2.length
  exact (PySem.SeqAt.RcAt.lists_lengths p.isList p2.isList (by simp; omega) (by omega)) _ _ _ _ ⟨.bl false, H, I, rfl, q⟩
theorem op_neL {X : Cx} (hu : X.A.units + 64 < cLine) : OpR X (compareOp .NotEq) fun x y H Q => ∃ c c2 xs ys, x = .ref c ∧ y = .ref c2 ∧ SqL X.K H c xs ∧ SqL X.K H c2 ys ∧ xs.length ≠ ys.length ∧ Q (.bl true) H := by
  intro pins s σ H x y v u Q I rx ry h
  obtain ⟨c, c2, xs, ys, rfl, rfl, q1, q2, hl, q⟩ := h
  obtain rfl : v = Value.ref c := rx
  obtain rfl : u = Value.ref c2 := ry
  obtain ⟨its, rv, p, hz⟩ := I.list q1
  obtain ⟨its2, rv2, p2, hz2⟩ := I.list q2
  have h1 := rv.length
  have h2 := rv2.length
  exact (PySem.SeqAt.RcNeAt.lists_lengths p.isList p2.isList (by simp; omega) (by omega)) _ _ _ _ ⟨.bl true, H, I, rfl, q⟩
theorem inD_cases {a b : D} {k : Bool} (h : inD S a b = some k) :
    (∃ i j, a = .str i ∧ b = .str j ∧ k = !(Builtin.Str.occurrences j i 0 j.length 1).isEmpty) ∨ (∃ l kvs, a = .key l ∧ dctOf S b = some kvs ∧ k = kvs.any fun q => decide (q.1 = l)) ∨ inG S a b = some k := by
  cases a with
  | str i => cases b with
    | str j => exact .inl ⟨i, j, rfl, rfl, (Option.some.inj h).symm⟩
    | _ => exact .inr (.inr h)
  | key l =>
    obtain ⟨kvs, e1, e2⟩ := Option.map_eq_some_iff.mp (show (dctOf S b).map (fun kvs => kvs.any fun q => decide (q.1 = l)) = some k from h)
    exact .inr (.inl ⟨l, kvs, rfl, e1, e2.symm⟩)
  | _ => exact .inr (.inr (by cases b <;> exact h))
theorem flat_at {d : D} {v : V} (f : flatD d = true) (r : RV K φ S H d v) : flatV v = true ∧ ∀ (e : D) (w : V), flatD e = true → RV K φ S H e w → eqV v w = eqF d e := by
  cases d with
  | non =>
    rw [rvnon] at r; subst r
    refine ⟨rfl, fun e w fe re => ?_⟩
    cases e with
    | non => rw [rvnon] at re; subst re; rfl
    | bl b => rw [rvbl] at re; subst re; rfl
    | int b => rw [rvint] at re; subst re; rfl
    | str b => rw [rvstr] at re; subst re; rfl
    | _ => cases fe
  | bl x =>
    rw [rvbl] at r; subst r
    refine ⟨rfl, fun e w fe re => ?_⟩
    cases e with
    | non => rw [rvnon] at re; subst re; rfl
    | bl b => rw [rvbl] at re; subst re; rfl
    | int b => rw [rvint] at re; subst re; rfl
    | str b => rw [rvstr] at re; subst re; rfl
    | _ => cases fe
  | int x =>
    rw [rvint] at r; subst r
    refine ⟨rfl, fun e w fe re => ?_⟩
    cases e with
    | non => rw [rvnon] at re; subst re; rfl
    | bl b => rw [rvbl] at re; subst re; rfl
    | int b => rw [rvint] at re; subst re; rfl
    | str b => rw [rvstr] at re; subst re; rfl
    | _ => cases fe
  | str x =>
    rw [rvstr] at r; subst r
    refine ⟨rfl, fun e w fe re => ?_⟩
    cases e with
    | non => rw [rvnon] at re; subst re; rfl
    | bl b => rw [rvbl] at re; subst re; rfl
    | int b => rw [rvint] at re; subst re; rfl
    | str b => rw [rvstr] at re; subst re; rfl
    | _ => cases fe
  | _ => cases f
theorem flats_at {a : D} {x : V} (fa : flatD a = true) (ra : RV K φ S H a x) : ∀ {l : List D} {vs : List V}, l.all flatD = true → RVs K φ S H l vs → vs.all flatV = true ∧ inV x vs = l.any fun y => eqF y a
  | [], vs, _, r => by rw [r.inv_nil]; exact ⟨rfl, rfl⟩
  | d :: l, vs, f, r => by
    obtain ⟨v, vr, rfl, q, t⟩ := r.inv_cons
    rw [List.all_cons, Bool.and_eq_true] at f
    obtain ⟨h1, h2⟩ := flats_at fa ra f.2 t
    obtain ⟨g1, g2⟩ := flat_at f.1 q
    refine ⟨by rw [List.all_cons, g1, h1]; rfl, ?_⟩
    show (eqV v x || inV x vr) = (eqF d a || _)
    rw [h2, g2 a x fa ra]
theorem inG_at {a b : D} {k : Bool} {x y : V} (R : RS K mg φ S H) (e : inG S a b = some k) (ra : RV K φ S H a x) (rb : RV K φ S H b y) : ∃ p xs, y = .ref p ∧ (SqL K H p xs ∨ SqT K H p xs) ∧ flatV x = true ∧ xs.all flatV = true ∧ inV x xs = k := by
  unfold inG at e
  cases e1 : itemsOf S b with
  | none => rw [e1] at e; cases e
  | some l =>
    rw [e1] at e
    obtain ⟨hc, e⟩ := ite_some (show (if (flatD a && l.all flatD) = true then some (l.any fun y => eqF y a) else none) = some k from e)
    rw [Bool.and_eq_true] at hc
    obtain ⟨p, vs, e2, q, t⟩ := items_at R rb e1
    obtain ⟨h1, h2⟩ := flats_at hc.1 ra hc.2 t
    exact ⟨p, vs, e2, q, (flat_at hc.1 ra).1, h1, h2.trans e⟩
theorem ltD_cases {f : Int → Int → Bool} {a b : D} {k : Bool} (h : ltD f a b = some k) : ∃ i j, a = .int i ∧ b = .int j ∧ k = f i j := by
  cases a with
  | int i => cases b with
    | int j => exact ⟨i, j, rfl, rfl, (Option.some.inj h).symm⟩
    | _ => cases h
  | _ => cases b <;> cases h
theorem isN_at {a : D} {x : V} (ra : RV K φ S H a x) : decide (x = .non) = isN a := by
  cases a with
  | non => rw [rvnon] at ra; subst ra; rfl
  | bl b => rw [rvbl] at ra; subst ra; rfl
  | int b => rw [rvint] at ra; subst ra; rfl
  | str b => rw [rvstr] at ra; subst ra; rfl
  | tup l => obtain ⟨a, vs, rfl, _⟩ := rvtup.mp ra; rfl
  | lst l => obtain ⟨a, vs, rfl, _⟩ := rvlst.mp ra; rfl
  | ref h => obtain ⟨a, rfl, _⟩ := rvref.mp ra; rfl
  | ty n => rw [rvty] at ra; subst ra; rfl
  | key l => unfold RV at ra; obtain ⟨a, rfl, _⟩ := ra; rfl
end
theorem dI {i j : Int} : decide (V.int i = V.int j) = decide (i = j) := by simp
theorem dS {i j : Str} : decide (V.str i = V.str j) = decide (i = j) := by simp
theorem dB {i j : Bool} : decide (V.bl i = V.bl j) = decide (i = j) := by simp
section
variable {X : Cx}
/-- a comparison -/
theorem cmp_ok {o : CmpOp} (hu : X.A.units + 64 < cLine) : OpR X (compareOp o) (r2 X.K X.mg fun S a b => (cmpD S o a b).map .bl) := by
  intro pins s σ H x y v u Q I rx ry h
  obtain ⟨φ, S, a, b, d, R, ra, rb, e, w⟩ := h
  obtain ⟨k, ec, e2⟩ := Option.map_eq_some_iff.mp (show (cmpD S o a b).map D.bl = some d from e)
  clear e
  subst e2
  have wk := w.here R rv_bl
  cases o with
  | Eq =>
    rcases eqD_cases (show eqD S a b = some k from ec) with ⟨i, j, rfl, rfl, ek⟩ | ⟨i, j, rfl, rfl, ek⟩ | ⟨i, j, rfl, rfl, ek⟩ | h
    · rw [rvint] at ra rb
      subst ra rb
      exact op_eq pins s σ H _ _ v u Q I rx ry ⟨rfl, by rw [dI, ← ek]; exact wk⟩
    · rw [rvstr] at ra rb
      subst ra rb
      exact op_eq pins s σ H _ _ v u Q I rx ry ⟨rfl, by rw [dS, ← ek]; exact wk⟩
    · rw [rvbl] at ra rb
      subst ra rb
      exact op_eq pins s σ H _ _ v u Q I rx ry ⟨rfl, by rw [dB, ← ek]; exact wk⟩
    · obtain ⟨d1, d2, p1, p2, s1, s2, ek⟩ | ⟨rfl, c, c2, xs, ys, rfl, rfl, q1, q2, hl⟩ := eqG_at R h ra rb
      rotate_left
      · exact op_eqL hu pins s σ H _ _ v u Q I rx ry ⟨c, c2, xs, ys, rfl, rfl, q1, q2, hl, wk⟩
      exact op_eqD hu pins s σ H _ _ v u Q I rx ry ⟨d1, d2, p1, p2, s1, s2, by rw [ek]; exact wk⟩
  | NotEq =>
    obtain ⟨k', e1, e2⟩ := Option.map_eq_some_iff.mp (show (eqD S a b).map not = some k from ec)
    subst e2
    rcases eqD_cases e1 with ⟨i, j, rfl, rfl, ek⟩ | ⟨i, j, rfl, rfl, ek⟩ | ⟨i, j, rfl, rfl, ek⟩ | h
    · rw [rvint] at ra rb
      subst ra rb
      exact op_ne pins s σ H _ _ v u Q I rx ry ⟨rfl, by rw [dI, ← ek]; exact wk⟩
    · rw [rvstr] at ra rb
      subst ra rb
      exact op_ne pins s σ H _ _ v u Q I rx ry ⟨rfl, by rw [dS, ← ek]; exact wk⟩
    · rw [rvbl] at ra rb
      subst ra rb
      exact op_ne pins s σ H _ _ v u Q I rx ry ⟨rfl, by rw [dB, ← ek]; exact wk⟩
    · obtain ⟨d1, d2, p1, p2, s1, s2, ek⟩ | ⟨rfl, c, c2, xs, ys, rfl, rfl, q1, q2, hl⟩ := eqG_at R h ra rb
      rotate_left
      · exact op_neL hu pins s σ H _ _ v u Q I rx ry ⟨c, c2, xs, ys, rfl, rfl, q1, q2, hl, wk⟩
      exact op_neD hu pins s σ H _ _ v u Q I rx ry ⟨d1, d2, p1, p2, s1, s2, by rw [ek]; exact wk⟩
  | Lt =>
    obtain ⟨i, j, rfl, rfl, ek⟩ := ltD_cases (show ltD _ a b = some k from ec)
    rw [rvint] at ra rb
    subst ra rb ek
    exact op_lt pins s σ H _ _ v u Q I rx ry ⟨i, j, rfl, rfl, wk⟩
  | LtE =>
    obtain ⟨i, j, rfl, rfl, ek⟩ := ltD_cases (show ltD _ a b = some k from ec)
    rw [rvint] at ra rb
    subst ra rb ek
    exact op_le pins s σ H _ _ v u Q I rx ry ⟨i, j, rfl, rfl, wk⟩
  | Gt =>
    obtain ⟨i, j, rfl, rfl, ek⟩ := ltD_cases (show ltD _ a b = some k from ec)
    rw [rvint] at ra rb
    subst ra rb ek
    exact op_gt pins s σ H _ _ v u Q I rx ry ⟨i, j, rfl, rfl, wk⟩
  | GtE =>
    obtain ⟨i, j, rfl, rfl, ek⟩ := ltD_cases (show ltD _ a b = some k from ec)
    rw [rvint] at ra rb
    subst ra rb ek
    exact op_ge pins s σ H _ _ v u Q I rx ry ⟨i, j, rfl, rfl, wk⟩
  | In =>
    rcases inD_cases (show inD S a b = some k from ec) with ⟨i, j, rfl, rfl, ek⟩ | ⟨l, kvs, rfl, ed, ek⟩ | h
    · rw [rvstr] at ra rb
      subst ra rb ek
      exact op_in_str pins s σ H _ _ v u Q I rx ry ⟨i, j, rfl, rfl, wk⟩
    · obtain ⟨a', rfl, ha⟩ := key_at ra
      obtain ⟨p, ws, rfl, hp, t⟩ := dct_at R rb ed
      exact op_dIn (by omega) pins s σ H _ _ v u Q I rx ry ⟨p, _, rfl, DGet.t hp ha, by rw [isSome_at l t, ← ek]; exact wk⟩
    · obtain ⟨p, xs, rfl, q, f1, f2, ek⟩ := inG_at R h ra rb
      subst ek
      exact op_in_seq pins s σ H _ _ v u Q I rx ry ⟨p, xs, rfl, q, f1, f2, wk⟩
  | NotIn =>
    obtain ⟨k', e1, e2⟩ := Option.map_eq_some_iff.mp (show (inD S a b).map not = some k from ec)
    subst e2
    rcases inD_cases e1 with ⟨i, j, rfl, rfl, ek⟩ | ⟨l, kvs, rfl, ed, ek⟩ | h
    · rw [rvstr] at ra rb
      subst ra rb ek
      exact op_notin_str pins s σ H _ _ v u Q I rx ry ⟨i, j, rfl, rfl, wk⟩
    · obtain ⟨a', rfl, ha⟩ := key_at ra
      obtain ⟨p, ws, rfl, hp, t⟩ := dct_at R rb ed
      exact op_dNotIn (by omega) pins s σ H _ _ v u Q I rx ry ⟨p, _, rfl, DGet.t hp ha, by rw [isSome_at l t, ← ek]; exact wk⟩
    · obtain ⟨p, xs, rfl, q, f1, f2, ek⟩ := inG_at R h ra rb
      subst ek
      exact op_notIn_seq pins s σ H _ _ v u Q I rx ry ⟨p, xs, rfl, q, f1, f2, wk⟩
  | Is =>
    cases b with
    | non =>
      rw [rvnon] at rb
      subst rb
      have ek : (isN a == true) = k := Option.some.inj ec
      refine op_isN pins s σ H _ _ v u Q I rx ry ⟨rfl, ?_⟩
      rw [isN_at ra]
      rw [← ek] at wk
      simpa using wk
    | _ => cases ec
  | IsNot =>
    cases b with
    | non =>
      rw [rvnon] at rb
      subst rb
      have ek : (isN a == false) = k := Option.some.inj ec
      refine op_notN pins s σ H _ _ v u Q I rx ry ⟨rfl, ?_⟩
      rw [isN_at ra]
      rw [← ek] at wk
      simpa using wk
    | _ => cases ec
end
end MI

set_option maxHeartbeats 1000000
/-! MIe: truth, subscripts, built-ins, by values. -/
namespace MI
open PySem PySem.Spec PyProof.Rows L2
variable [Tabs] [Cels]
section
variable {X : Cx} {K : PySem.W.Frag} {mg : Str → Option Value} {φ φ' : Lo} {S S1 : Sto} {H H' : Hp} {Q : VK} {d : D} {v : V}
theorem isEmpty_len {α β : Type} {l : List α} {k : List β} (e : k.length = l.length) : k.isEmpty = l.isEmpty := by
  cases l with
  | nil => rw [List.length_eq_zero_iff.mp e]; rfl
  | cons x r => cases k with
    | nil => cases e
    | cons _ _ => rfl
theorem tru_at {k : Bool} (R : RS K mg φ S H) (e : truD S d = some k) (r : RV K φ S H d v) : TruV K v H k := by
  cases d with
  | non => rw [rvnon] at r; subst r; exact (Option.some.inj e).symm
  | bl b => rw [rvbl] at r; subst r; exact (Option.some.inj e).symm
  | int i => rw [rvint] at r; subst r; exact (Option.some.inj e).symm
  | str z =>
    rw [rvstr] at r; subst r
    obtain ⟨hc, e⟩ := ite_some (show (if z.length ≤ line then some ((z.length : Int) != 0) else none) = some k from e)
    exact ⟨hc, e.symm⟩
  | tup l =>
    obtain ⟨a, vs, rfl, q, t⟩ := rvtup.mp r
    exact .inr (.inl ⟨vs, q, by rw [isEmpty_len t.length]; exact (Option.some.inj e).symm⟩)
  | lst l =>
    obtain ⟨a, vs, rfl, q, t⟩ := rvlst.mp r
    exact .inl ⟨vs, q.sq, by rw [isEmpty_len t.length]; exact (Option.some.inj e).symm⟩
  | ref h =>
    obtain ⟨l, e1, e2⟩ := Option.map_eq_some_iff.mp (show (listOf S (.ref h)).map (fun l => !l.isEmpty) = some k from e)
    obtain ⟨a, vs, rfl, q, t⟩ := list_at R r e1
    exact .inl ⟨vs, q, by rw [isEmpty_len t.length]; exact e2.symm⟩
  | ty n => cases e
  | key l => cases e
theorem atI_rv {l : List D} {vs : List V} {k : Int} (e : atI l k = some d) (t : RVs K φ S H l vs) : ∃ v, atI vs k = some v ∧ RV K φ S H d v := by
  unfold atI at *
  rw [t.length]
  cases e1 : ixN l.length k with
  | none => rw [e1] at e; cases e
  | some j =>
    rw [e1] at e
    exact t.get (i := j) e
/-- a subscript -/
theorem idx_ok (hu : X.A.units + 1 < cLine) : IxR X (r2 X.K X.mg idxD) := by
  intro value slice pins s σ H x y v u Q I rx ry h hs
  obtain ⟨φ, S, a, b, d, R, ra, rb, e, w⟩ := h
  have go : ∀ k : Int, y = .int k → (itemsOf S a).bind (fun l => atI l k) = some d → wpAny (model X.prog X.w) X.A (subscriptTail value slice v u) (EP X pins σ Q) X.xe s := by
    intro k ey e
    obtain ⟨l, e1, e2⟩ := Option.bind_eq_some_iff.mp e
    obtain ⟨p, vs, ex, q, t⟩ := items_at R ra e1
    obtain ⟨v', e3, r3⟩ := atI_rv e2 t
    rcases q with q | q
    · exact ix_list value slice pins s σ H x y v u Q I rx ry ⟨p, vs, k, v', ex, ey, q, e3, w.here R r3⟩ hs
    · exact ix_tup value slice pins s σ H x y v u Q I rx ry ⟨p, vs, k, v', ex, ey, q, e3, w.here R r3⟩ hs
  cases b with
  | int k =>
    rw [rvint] at rb
    cases a with
    | str z =>
      rw [rvstr] at ra
      obtain ⟨hc, e⟩ : z.length ≤ line ∧ (L2.atI z.cps.toList k).map (fun c => D.str ⟨#[c]⟩) = some d := by
        have e' : (if z.length ≤ line then (L2.atI z.cps.toList k).map (fun c => D.str ⟨#[c]⟩) else none) = some d := e
        by_cases hc : z.length ≤ line
        · rw [if_pos hc] at e'; exact ⟨hc, e'⟩
        · rw [if_neg hc] at e'; cases e'
      obtain ⟨c, e1, e2⟩ := Option.map_eq_some_iff.mp e
      subst e2
      exact ix_str value slice pins s σ H x y v u Q I rx ry ⟨z, k, c, ra, rb, hc, e1, w.here R rv_str⟩ hs
    | _ => exact go k rb e
  | key l =>
    obtain ⟨kvs, e1, e2⟩ := Option.bind_eq_some_iff.mp (show (dctOf S a).bind (fun kvs => valK kvs l) = some d from e)
    obtain ⟨a', rfl, ha⟩ := key_at rb
    obtain ⟨p, ws, rfl, hp, t⟩ := dct_at R ra e1
    obtain ⟨z, e3, rz⟩ := (valK_at l t).1 d e2
    exact ix_dict hu value slice pins s σ H _ _ v u Q I rx ry ⟨p, z, rfl, by rw [← e3]; exact DGet.t hp ha, w.here R rz⟩ hs
  | _ => cases e
theorem cut_eq {l : List D} {vs : List V} {lo hi : Option Int} (t : RVs K φ S H l vs) : RVs K φ S H (cutL l lo hi) (cutV vs lo hi) := by
  unfold cutL cutV
  rw [t.length]
  exact (t.drop _).take _
/-- a slice -/
theorem slc_ok : SlR X (fun x lo hi H Q => ∃ φ S a d, RS X.K X.mg φ S H ∧ RV X.K φ S H a x ∧ slcD S a lo hi = some d ∧ Wt X.K X.mg φ S H d S Q) := by
  intro pins s σ H x v vl vu lo hi sl Q I rx hs pl pu h
  obtain ⟨φ, S, a, d, R, ra, e, w⟩ := h
  have go : (listOf S a).map (fun l => D.lst (cutL l lo hi)) = some d → ∃ T id, typeLookup (.type T) "__getitem__" = pure (some (.builtin id)) ∧ s.TypeIs v T ∧ wpAny (model X.prog X.w) X.A (getItem v (.ref sl)) (EP X pins σ Q) X.xe s := by
    intro e
    obtain ⟨l, e1, e2⟩ := Option.map_eq_some_iff.mp e
    subst e2
    obtain ⟨p, vs, ex, q, t⟩ := list_at R ra e1
    exact sl_list pins s σ H x v vl vu lo hi sl Q I rx hs pl pu ⟨p, vs, ex, q, fun p hp => w.lst R (cut_eq t) hp⟩
  cases a with
  | str z =>
    rw [rvstr] at ra
    obtain ⟨hc, e⟩ := ite_some (show (if z.length ≤ line then some (D.str (L2.cutS z lo hi)) else none) = some d from e)
    subst e
    exact sl_str pins s σ H x v vl vu lo hi sl Q I rx hs pl pu ⟨z, ra, hc, w.here R rv_str⟩
  | tup l =>
    have ra' := ra
    obtain ⟨p, vs, rfl, q, t⟩ := rvtup.mp ra
    have e : D.tup (cutL l lo hi) = d := Option.some.inj e
    subst e
    refine sl_tupA pins s σ H _ v vl vu lo hi sl Q I rx hs pl pu ⟨p, vs, rfl, q, fun hw => ?_, fun _ p hp => w.tup R (cut_eq t) hp⟩
    have el : cutL l lo hi = l := by
      unfold cutL
      rw [t.length] at hw
      rw [hw.1, hw.2]
      simp
    rw [el] at w
    exact w.here R ra'
  | key l =>
    have ra' := ra
    obtain ⟨p, rfl, q⟩ := key_at ra
    have e : D.key (cutL l lo hi) = d := Option.some.inj e
    subst e
    refine sl_tupA pins s σ H _ v vl vu lo hi sl Q I rx hs pl pu ⟨p, _, rfl, .of q, fun hw => ?_, fun _ p hp => by rw [cut_key]; exact w.key R hp⟩
    have el : cutL l lo hi = l := by
      unfold cutL
      rw [List.length_map] at hw
      rw [hw.1, hw.2]
      simp
    rw [el] at w
    exact w.here R ra'
  | lst l => exact go e
  | ref h => exact go e
  | _ => exact go e
/-! ### built-ins -/
def rB (K : PySem.W.Frag) (mg : Str → Option Value) (f : Sto → List D → Option D) : List V → Hp → VK → Prop := fun vs H Q => ∃ φ S ds d, RS K mg φ S H ∧ RVs K φ S H ds vs ∧ f S ds = some d ∧ Wt K mg φ S H d S Q
theorem one_inv {f : D → Option D} {ds : List D} {e : D} (h : one f ds = some e) : ∃ d, ds = [d] ∧ f d = some e := by
  match ds, h with
  | [d], h => exact ⟨d, rfl, h⟩
  | [], h => cases h
  | _ :: _ :: _, h => cases h
theorem two_inv {f : D → D → Option D} {ds : List D} {e : D} (h : two f ds = some e) : ∃ d d2, ds = [d, d2] ∧ f d d2 = some e := by
  match ds, h with
  | [d, d2], h => exact ⟨d, d2, rfl, h⟩
  | [], h => cases h
  | [_], h => cases h
  | _ :: _ :: _ :: _, h => cases h
theorem rvs1 {d : D} {vs : List V} (t : RVs K φ S H [d] vs) : ∃ v, vs = [v] ∧ RV K φ S H d v := by
  obtain ⟨v, vr, rfl, q, t⟩ := t.inv_cons
  rw [t.inv_nil]
  exact ⟨v, rfl, q⟩
theorem rvs2 {d e : D} {vs : List V} (t : RVs K φ S H [d, e] vs) : ∃ v w, vs = [v, w] ∧ RV K φ S H d v ∧ RV K φ S H e w := by
  obtain ⟨v, vr, rfl, q, t⟩ := t.inv_cons
  obtain ⟨w, rfl, q2⟩ := rvs1 t
  exact ⟨v, w, rfl, q, q2⟩
theorem len_ok : CallR X (.builtin "len") (rB X.K X.mg fun S => one (lenD S)) := by
  refine CallR.imp call_len fun vs H Q ⟨φ, S, ds, d, R, t, e, w⟩ => ?_
  obtain ⟨d0, rfl, e⟩ := one_inv e
  obtain ⟨v, rfl, r⟩ := rvs1 t
  have go : (itemsOf S d0).map (fun l => D.int l.length) = some d → ∃ x n, [v] = [x] ∧ LenV X.K x H n ∧ Q (.int n) H := by
    intro e
    obtain ⟨l, e1, e2⟩ := Option.map_eq_some_iff.mp e
    subst e2
    obtain ⟨a, vs, rfl, q, t⟩ := items_at R r e1
    refine ⟨_, l.length, rfl, ?_, w.here R rv_int⟩
    rcases q with q | q
    · exact .inl ⟨vs, q, t.length.symm⟩
    · exact .inr ⟨vs, q, t.length.symm⟩
  cases d0 with
  | str z =>
    rw [rvstr] at r
    subst r
    obtain ⟨hc, e⟩ := ite_some (show (if z.length ≤ line then some (D.int z.length) else none) = some d from e)
    subst e
    exact ⟨_, z.length, rfl, ⟨hc, rfl⟩, w.here R rv_int⟩
  | _ => exact go e
theorem CallR.or {X : Cx} {f : Value} {A B : List V → Hp → VK → Prop} (ha : CallR X f A) (hb : CallR X f B) : CallR X f fun vs H Q => A vs H Q ∨ B vs H Q := by
  intro pins s σ H xs us Q I rs h
  rcases h with h | h
  · exact ha pins s σ H xs us Q I rs h
  · exact hb pins s σ H xs us Q I rs h
theorem int_ok : CallR X (.type "int") (rB X.K X.mg fun _ => one intD) := by
  refine CallR.imp (CallR.or call_int1 call_int_str) fun vs H Q ⟨φ, S, ds, d, R, t, e, w⟩ => ?_
  obtain ⟨d0, rfl, e⟩ := one_inv e
  obtain ⟨v, rfl, r⟩ := rvs1 t
  cases d0 with
  | int i =>
    rw [rvint] at r; subst r
    have e : D.int i = d := Option.some.inj e
    subst e
    exact .inl (.inl ⟨i, rfl, w.here R rv_int⟩)
  | bl k =>
    rw [rvbl] at r; subst r
    have e : D.int (if k then 1 else 0) = d := Option.some.inj e
    subst e
    exact .inl (.inr ⟨k, rfl, w.here R rv_int⟩)
  | str z =>
    rw [rvstr] at r; subst r
    have e : (if z.length ≤ 640 then (PySem.intText? z).map D.int else none) = some d := e
    have hc : z.length ≤ 640 := by
      by_cases hc : z.length ≤ 640
      · exact hc
      · rw [if_neg hc] at e; cases e
    rw [if_pos hc] at e
    obtain ⟨n, hn, e⟩ := Option.map_eq_some_iff.mp e
    subst e
    exact .inr ⟨z, n, rfl, hn, hc, w.here R rv_int⟩
  | _ => cases e
theorem sum_ok (hc : X.calm = true) : CallR X (.builtin "sum") (rB X.K X.mg fun S => one (fun d => (listOf S d).bind fun l => (intsOf l).map fun ns => .int ns.sum)) := by
  refine CallR.imp (cr_sum hc) fun vs H Q ⟨φ, S, ds, d, R, t, e, w⟩ => ?_
  obtain ⟨d0, rfl, e⟩ := one_inv e
  obtain ⟨v, rfl, r⟩ := rvs1 t
  obtain ⟨l, e1, e⟩ := Option.bind_eq_some_iff.mp e
  obtain ⟨ns, e2, e⟩ := Option.map_eq_some_iff.mp e
  subst e
  obtain ⟨a, vs, rfl, q, t⟩ := list_at R r e1
  have := RVs.ints e2 t
  subst this
  exact ⟨a, ns, rfl, q, w.here R rv_int⟩
theorem all_ok (hc : X.calm = true) : CallR X (.builtin "all") (rB X.K X.mg fun S => one (fun d => (listOf S d).bind fun l => (blsOf l).map fun ns => .bl (ns.all id))) := by
  refine CallR.imp (cr_all hc) fun vs H Q ⟨φ, S, ds, d, R, t, e, w⟩ => ?_
  obtain ⟨d0, rfl, e⟩ := one_inv e
  obtain ⟨v, rfl, r⟩ := rvs1 t
  obtain ⟨l, e1, e⟩ := Option.bind_eq_some_iff.mp e
  obtain ⟨ns, e2, e⟩ := Option.map_eq_some_iff.mp e
  subst e
  obtain ⟨a, vs, rfl, q, t⟩ := list_at R r e1
  have := RVs.bls e2 t
  subst this
  exact ⟨a, ns, rfl, q, w.here R rv_bl⟩
theorem any_ok (hc : X.calm = true) : CallR X (.builtin "any") (rB X.K X.mg fun S => one (fun d => (listOf S d).bind fun l => (blsOf l).map fun ns => .bl (ns.any id))) := by
  refine CallR.imp (cr_any hc) fun vs H Q ⟨φ, S, ds, d, R, t, e, w⟩ => ?_
  obtain ⟨d0, rfl, e⟩ := one_inv e
  obtain ⟨v, rfl, r⟩ := rvs1 t
  obtain ⟨l, e1, e⟩ := Option.bind_eq_some_iff.mp e
  obtain ⟨ns, e2, e⟩ := Option.map_eq_some_iff.mp e
  subst e
  obtain ⟨a, vs, rfl, q, t⟩ := list_at R r e1
  have := RVs.bls e2 t
  subst this
  exact ⟨a, ns, rfl, q, w.here R rv_bl⟩
theorem mxD_inv {f : Int → Int → Int} {d e u : D} (h : mxD f d e = some u) : ∃ i j, d = .int i ∧ e = .int j ∧ u = .int (f i j) := by
  cases d with
  | int i => cases e with
    | int j => exact ⟨i, j, rfl, rfl, (Option.some.inj h).symm⟩
    | _ => cases h
  | _ => cases e <;> cases h
theorem max_ok (hc : X.calm = true) : CallR X (.builtin "max") (rB X.K X.mg fun _ => two (mxD fun i j => if j > i then j else i)) := by
  refine CallR.imp (call_max2 hc) fun vs H Q ⟨φ, S, ds, d, R, t, e, w⟩ => ?_
  obtain ⟨d0, d1, rfl, e⟩ := two_inv e
  obtain ⟨v, v', rfl, r, r'⟩ := rvs2 t
  obtain ⟨i, j, rfl, rfl, rfl⟩ := mxD_inv e
  rw [rvint] at r r'
  subst r r'
  exact ⟨i, j, rfl, w.here R rv_int⟩
theorem min_ok (hc : X.calm = true) : CallR X (.builtin "min") (rB X.K X.mg fun _ => two (mxD fun i j => if j < i then j else i)) := by
  refine CallR.imp (call_min2 hc) fun vs H Q ⟨φ, S, ds, d, R, t, e, w⟩ => ?_
  obtain ⟨d0, d1, rfl, e⟩ := two_inv e
  obtain ⟨v, v', rfl, r, r'⟩ := rvs2 t
  obtain ⟨i, j, rfl, rfl, rfl⟩ := mxD_inv e
  rw [rvint] at r r'
  subst r r'
  exact ⟨i, j, rfl, w.here R rv_int⟩
theorem tuple_ok : CallR X (.type "tuple") (rB X.K X.mg fun S => one (tupD S)) := by
  refine CallR.imp call_tuple_of fun vs H Q ⟨φ, S, ds, d, R, t, e, w⟩ => ?_
  obtain ⟨d0, rfl, e⟩ := one_inv e
  obtain ⟨v, rfl, r⟩ := rvs1 t
  have go : (listOf S d0).map D.tup = some d → ∃ p ys, [v] = [.ref p] ∧ ((SqL X.K H p ys ∧ ∀ l, H l = none → Q (.ref l) (upd H l (.tup ys))) ∨ (SqT X.K H p ys ∧ Q (.ref p) H)) := by
    intro e
    obtain ⟨l, e1, e2⟩ := Option.map_eq_some_iff.mp e
    subst e2
    obtain ⟨a, vs, rfl, q, t⟩ := list_at R r e1
    exact ⟨a, vs, rfl, .inl ⟨q, fun p hp => w.tup R t hp⟩⟩
  cases d0 with
  | tup l =>
    have r' := r
    obtain ⟨a, vs, rfl, q, t⟩ := rvtup.mp r
    have e : D.tup l = d := Option.some.inj e
    subst e
    exact ⟨a, vs, rfl, .inr ⟨q, w.here R r'⟩⟩
  | _ => exact go e
/-- the type of a value, as the model's isinstance asks it -/
theorem tyx_at {t : String} (R : RS K mg φ S H) (e : tyOf S d = some t) (r : RV K φ S H d v) : TyX K H v (.type t) := by
  have lst : ∀ {a : Addr} {vs : List V}, SqL K H a vs → TyX K H (.ref a) (.type "list") := fun q => by
    rcases q with (q | ⟨o, q⟩) | ⟨o, its, n, h1, h2, _⟩
    · exact .base (.lst q)
    · exact .base (.frz q)
    · exact .kList h1 h2
  cases d with
  | non => rw [rvnon] at r; subst r; cases e; exact .base .non
  | bl b => rw [rvbl] at r; subst r; cases e; exact .base (.bl b)
  | int i => rw [rvint] at r; subst r; cases e; exact .base (.int i)
  | str z => rw [rvstr] at r; subst r; cases e; exact .base (.str z)
  | tup l =>
    obtain ⟨a, vs, rfl, q, t⟩ := rvtup.mp r
    cases e
    rcases q with (q | ⟨o, q⟩) | ⟨o, its, n, h1, h2, _⟩
    · exact .base (.tup q)
    · exact .fTuple q
    · exact .kTuple h1 h2
  | lst l =>
    obtain ⟨a, vs, rfl, q, t⟩ := rvlst.mp r
    cases e
    exact lst q.sq
  | ref h =>
    obtain ⟨l, e1, e2⟩ := Option.map_eq_some_iff.mp (show (listOf S (.ref h)).map (fun _ => "list") = some t from e)
    subst e2
    obtain ⟨a, vs, rfl, q, t⟩ := list_at R r e1
    exact lst q
  | ty n => cases e
  | key l => cases e
theorem tyOf_mem {t : String} (e : tyOf S d = some t) : t ∈ ["NoneType", "bool", "int", "str", "tuple", "list"] := by
  cases d with
  | ref h =>
    obtain ⟨l, e1, e2⟩ := Option.map_eq_some_iff.mp (show (listOf S (.ref h)).map (fun _ => "list") = some t from e)
    subst e2
    simp
  | ty n => cases e
  | key l => cases e
  | _ => cases e; simp
theorem kit_all : ∀ t ∈ ["NoneType", "bool", "int", "str", "tuple", "list"], ∀ c ∈ tys, kitB t c = some (isTyB t c) := by decide +kernel
theorem isinst_okk : CallR X (.builtin "isinstance") (rB X.K X.mg fun S => two (isInst S)) := by
  refine CallR.imp call_isi fun vs H Q ⟨φ, S, ds, d, R, t, e, w⟩ => ?_
  obtain ⟨d0, d1, rfl, e⟩ := two_inv e
  obtain ⟨v, v', rfl, r, r'⟩ := rvs2 t
  cases d1 with
  | ty c =>
    rw [rvty] at r'
    subst r'
    have e' : (if c ∈ tys then (tyOf S d0).map (fun u => D.bl (isTyB u c)) else none) = some d := e
    by_cases hc : c ∈ tys
    · rw [if_pos hc] at e'
      obtain ⟨u, e1, e2⟩ := Option.map_eq_some_iff.mp e'
      subst e2
      exact ⟨v, .ty c, .type u, .type c, isTyB u c, rfl, .ty c, tyx_at R e1 r, kit_ty (kit_all u (tyOf_mem e1) c hc), w.here R rv_bl⟩
    · rw [if_neg hc] at e'; cases e'
  | _ => cases e
end
section
variable {X : Cx}
theorem str_ok : CallR X (.type "str") (rB X.K X.mg fun _ => one strD) := by
  refine CallR.imp call_str_int fun vs H Q ⟨φ, S, ds, d, R, t, e, w⟩ => ?_
  obtain ⟨d0, rfl, e⟩ := one_inv e
  obtain ⟨v, rfl, r⟩ := rvs1 t
  cases d0 with
  | int i =>
    rw [rvint] at r; subst r
    obtain ⟨hc, e⟩ := ite_some (show (if i.natAbs.log2 < 1920 then some (D.str (toString i)) else none) = some d from e)
    subst e
    exact ⟨i, rfl, hc, w.here R rv_str⟩
  | _ => cases e
end
section
variable {X : Cx}
theorem divmod_ok : CallR X (.builtin "divmod") (rB X.K X.mg fun _ => two dmD) := by
  refine CallR.imp call_divmod fun vs H Q ⟨φ, S, ds, d, R, t, e, w⟩ => ?_
  obtain ⟨d0, d1, rfl, e⟩ := two_inv e
  obtain ⟨v, v2, rfl, r, r2⟩ := rvs2 t
  cases d0 with
  | int i =>
    cases d1 with
    | int j =>
      rw [rvint] at r r2; subst r; subst r2
      obtain ⟨hc, e⟩ := ite_some (show (if 0 < j ∧ j < 1073741824 then some (D.tup [.int (i / j), .int (i % j)]) else none) = some d from e)
      subst e
      exact ⟨i, j, rfl, hc, fun p hp => w.tup R (.cons rv_int (.cons rv_int .nil)) hp⟩
    | _ => cases e
  | _ => cases e
end
/-- what a built-in is called by -/
def biV (b : String) : Value := match biT b with
  | true => .type b
  | false => .builtin b
/-- a built-in that may stand where an exception is handled -/
def coolB (b : String) : Bool := !(["sum", "all", "any", "max", "min"] : List String).contains b
theorem bi_ok {X : Cx} : ∀ b ∈ bis, (coolB b = false → X.calm = true) → CallR X (biV b) (rB X.K X.mg fun S ds => biD S b ds) ∧ bootBuiltins (Str.ofString b) = some (biV b) ∧ Str.ofString b ≠ ("__name__" : Str) ∧ ((Str.ofString b : Str) == ("__debug__" : Str)) = false := by
  intro b hb hc
  simp only [bis, List.mem_cons, List.mem_nil_iff, or_false] at hb
  rcases hb with rfl | rfl | rfl | rfl | rfl | rfl | rfl | rfl | rfl | rfl | rfl
  · exact ⟨len_ok, by decide +kernel, by decide, by decide⟩
  · exact ⟨sum_ok (hc (by decide)), by decide +kernel, by decide, by decide⟩
  · exact ⟨all_ok (hc (by decide)), by decide +kernel, by decide, by decide⟩
  · exact ⟨any_ok (hc (by decide)), by decide +kernel, by decide, by decide⟩
  · exact ⟨isinst_okk, by decide +kernel, by decide, by decide⟩
  · exact ⟨max_ok (hc (by decide)), by decide +kernel, by decide, by decide⟩
  · exact ⟨min_ok (hc (by decide)), by decide +kernel, by decide, by decide⟩
  · exact ⟨int_ok, by decide +kernel, by decide, by decide⟩
  · exact ⟨tuple_ok, by decide +kernel, by decide, by decide⟩
  · exact ⟨str_ok, by decide +kernel, by decide, by decide⟩
  · exact ⟨divmod_ok, by decide +kernel, by decide, by decide⟩
end MI

set_option maxHeartbeats 1000000
/-! MIf: the text and the own syntax: what may stand for what; expressions. -/
namespace MI
open PySem PySem.Spec PyProof.Rows L2

/-! ### the check -/
def plainE : Expr → Bool
  | .Starred _ _ => false
  | .Set _ _ _ => false
  | .Slice _ _ _ _ => false
  | _ => true
theorem plain_noStar {e : Expr} (h : plainE e = true) : noStar e = true := by cases e <;> first | rfl | cases h
theorem plain_mark {e : Expr} {op : CmpOp} (h : plainE e = true) : behindInMarks op e = false := by cases e <;> first | rfl | cases h
theorem plain_ix {e : Expr} (h : plainE e = true) : PlainIx e := by intro o i; cases e <;> first | rfl | cases h
theorem plain_fold {e : Expr} {env : PySem.Env} (h : plainE e = true) : ∀ x, foldedSetIterable e env x = pure x := by intro x; cases e <;> first | rfl | cases h
structure Par where
  fns : List String
  glos : List String
  bts : List String
  tabs : List String := []
  /-- the classes that are asked for -/
  isc : List String := []
  /-- the classes that are made -/
  mks : List String := []
  /-- calls with keywords or defaults: the def, how many by place (self among them), the keywords -/
  shs : List (String × Nat × List String) := []
  /-- the classes that exceptions are asked for -/
  xis : List String := []
  /-- the defs that are called where an exception is handled -/
  hfns : List String := []
  /-- where an exception is handled -/
  hot : Bool := false
  /-- the def may make lambdas -/
  lam : Bool := false
  /-- the defs that make lambdas -/
  lfs : List String := []
  /-- the lambdas that are called: the def of each, the names that it captures, its words -/
  lo : String → List Str → Arguments → Expr → Scope → Bool := fun _ _ _ _ _ => false
def Par.hotP (p : Par) : Par := ⟨[], p.glos, p.bts, [], [], [], [], p.xis, p.hfns, true, false, [], fun _ _ _ _ _ => false⟩
/-- .. in a def that calls none -/
def Par.leafP (p : Par) : Par := ⟨[], p.glos, p.bts, [], [], [], [], p.xis, [], true, false, [], fun _ _ _ _ _ => false⟩
def Par.lamP (p : Par) : Par := ⟨p.fns, p.glos, p.bts, p.tabs, p.isc, p.mks, p.shs, p.xis, p.hfns, p.hot, true, p.lfs, p.lo⟩
/-- within a comprehension -/
def Par.blkP (p : Par) : Par := ⟨p.fns, p.glos, p.bts, p.tabs, p.isc, p.mks, p.shs, p.xis, p.hfns, p.hot, false, p.lfs, p.lo⟩
/-- within a lambda that is called -/
def Par.noLo (p : Par) : Par := ⟨p.fns, p.glos, p.bts, p.tabs, p.isc, p.mks, p.shs, p.xis, p.hfns, p.hot, false, p.lfs, fun _ _ _ _ _ => false⟩
/-- for the def f -/
def Par.at (p : Par) (f : String) : Par := if p.lfs.contains f = true then p.lamP else p
def nameOk (x : Str) : Bool := !(x == ("__debug__" : Str)) && !(x == ("__classdict__" : Str)) && !decide (x = ("__name__" : Str))
def isVis (sc : Scope) (x : Str) : Bool := match sc.names.lookup x with
  | some .local => true
  | some .cell => true
  | some .free => true
  | _ => false
def isGl (sc : Scope) (x : Str) : Bool := match sc.names.lookup x with
  | some .globalImplicit => true
  | _ => false
def isLoc (sc : Scope) (fn : Str → Bool) (x : Str) : Bool := match sc.names.lookup x with
  | some .local => true
  | some .cell => fn x
  | _ => false
def ownOf (N : List Str) (vs : List Nat) : List (Str × Nat) := vs.map fun i => (N.getD i Str.empty, i)
/-- no super() stands ahead of the point -/
def plainB : Expr → Bool
  | .Call (.Name _ _) [] [] _ => false
  | _ => true
theorem plainB_base {o : Expr} {a : Str} {env : PySem.Env} {w : Sem Value} (h : plainB o = true) : attributeBase o a env w = w := by
  unfold attributeBase
  split
  · cases h
  · rfl
/-- an expression whose test is its value's truth -/
def plainT : Expr → Bool
  | .UnaryOp _ _ _ => false
  | .BoolOp _ _ _ => false
  | .IfExp _ _ _ _ => false
  | .Compare _ _ _ _ => false
  | _ => true
theorem plain_true {e : Expr} {env : PySem.Env} (h : plainT e = true) : ∀ whole, isTrue e env whole = (do let v ← whole; standAt e.pos; holding [v] (truthy v)) := by intro w; cases e <;> first | rfl | cases h
mutual
def tgS : T → List Nat
  | .nm i => [i]
  | .tp ts => tgSs ts
  | .sub _ _ => []
  | .fld _ _ => []
def tgSs : Ts → List Nat
  | .nil => []
  | .cons t r => tgS t ++ tgSs r
end
def len12 : List Expr → Bool
  | [_] => true
  | [_, _] => true
  | _ => false
/-- zip wants a tuple of targets -/
def tupTg : It → Expr → Bool
  | .zip _ _ => fun e => match e with
    | .Tuple _ _ _ => true
    | _ => false
  | .enm _ => fun e => match e with
    | .Tuple _ _ _ => true
    | _ => false
  | _ => fun _ => true
def dpOk : List (String × String) → List (Option Expr) → List Expr → Bool
  | [], [], [] => true
  | q :: l, some (.Constant (.str x) _ _) :: ks, .Constant (.str y) _ _ :: vs => decide (x = Str.ofString q.1) && decide (y = Str.ofString q.2) && dpOk l ks vs
  | _, _, _ => false
/-- a lambda that is called: the names that it captures are its maker's cells -/
def lamOk (p : Par) (N : List Str) (id : String) (js : List Nat) (sc : Scope) (fn : Str → Bool) (params : Arguments) (body : Expr) (scope : Scope) : Bool :=
  params.defaults.isEmpty && params.kw_defaults.isEmpty && js.all (fun j => decide (j < N.length)) && scope.names.all (fun y => !decide (y.2 = .free) || (decide (sc.names.lookup y.1 = some .cell) && fn y.1)) &&
    (js.map fun j => N.getD j Str.empty).all (fun y => fn y && decide ((y, NameKind.free) ∈ scope.names)) && p.lo id (js.map fun j => N.getD j Str.empty) params body scope
def dpOkI : List (String × Int) → List (Option Expr) → List Expr → Bool
  | [], [], [] => true
  | q :: l, some (.Constant (.str x) _ _) :: ks, .Constant (.int y) _ _ :: vs => decide (x = Str.ofString q.1) && decide (y = q.2) && dpOkI l ks vs
  | _, _, _ => false
mutual
def okE (p : Par) (N : List Str) : E → Scope → (Str → Bool) → Expr → Bool
  | .cI i => fun _ _ e => match e with
    | .Constant (.int j) _ _ => decide (i = j)
    | _ => false
  | .cB b => fun _ _ e => match e with
    | .Constant (.bool j) _ _ => b == j
    | _ => false
  | .cN => fun _ _ e => match e with
    | .Constant .none _ _ => true
    | _ => false
  | .cS s => fun _ _ e => match e with
    | .Constant (.str z) _ _ => decide (z = Str.ofString s)
    | _ => false
  | .v i => fun sc _ e => match e with
    | .Name x _ => decide (N[i]? = some x) && isVis sc x && nameOk x
    | _ => false
  | .g x => fun sc _ e => match e with
    | .Name y _ => decide (y = Str.ofString x) && isGl sc y && nameOk y && p.glos.contains x
    | _ => false
  | .bt x => fun sc _ e => match e with
    | .Name y _ => decide (y = Str.ofString x) && isGl sc y && nameOk y && p.bts.contains x && tys.contains x
    | _ => false
  | .bin o a b => fun sc fn e => match e with
    | .BinOp l o' r _ => decide (o = o') && okE p N a sc fn l && okE p N b sc fn r
    | _ => false
  | .neg a => fun sc fn e => match e with
    | .UnaryOp .USub l _ => okE p N a sc fn l
    | _ => false
  | .inv a => fun sc fn e => match e with
    | .UnaryOp .Invert l _ => okE p N a sc fn l
    | _ => false
  | .cmp o a b => fun sc fn e => match e with
    | .Compare l [o'] [r] _ => decide (o = o') && plainE r && okE p N a sc fn l && okE p N b sc fn r
    | _ => false
  | .chn o o2 a b c => fun sc fn e => match e with
    | .Compare l [o', o2'] [r, r2] _ => decide (o = o') && decide (o2 = o2') && plainE r2 && okE p N a sc fn l && okE p N b sc fn r && okE p N c sc fn r2
    | _ => false
  | .band es => fun sc fn e => match e with
    | .BoolOp .And l _ => okEs p N es sc fn l
    | _ => false
  | .bor es => fun sc fn e => match e with
    | .BoolOp .Or l _ => okEs p N es sc fn l
    | _ => false
  | .not a => fun sc fn e => match e with
    | .UnaryOp .Not l _ => okE p N a sc fn l
    | _ => false
  | .ite c a b => fun sc fn e => match e with
    | .IfExp t x y _ => okE p N c sc fn t && okE p N a sc fn x && okE p N b sc fn y
    | _ => false
  | .tup es => fun sc fn e => match e with
    | .Tuple l _ _ => okEs p N es sc fn l
    | _ => false
  | .ktup es => fun sc fn e => match e with
    | .Tuple l _ _ => okEs p N es sc fn l
    | _ => false
  | .lset a => fun sc fn e => match e with
    | .Call (.Name y _) [.Call (.Name z _) [x] [] _] [] _ => decide (y = ("len" : Str)) && isGl sc y && p.bts.contains "len" && decide (z = ("set" : Str)) && isGl sc z && p.bts.contains "set" && (plainE x && !p.hot) && okE p N a sc fn x
    | _ => false
  | .dnew => fun _ _ e => match e with
    | .Dict [] [] _ => true
    | _ => false
  | .frz l => fun sc fn e => okL p N l sc fn e
  | .box l => fun sc fn e => okL p N l sc fn e
  | .mv i => fun sc _ e => match e with
    | .Name x _ => decide (N[i]? = some x) && isVis sc x && nameOk x
    | _ => false
  | .idx a i => fun sc fn e => match e with
    | .Subscript x y _ => plainE y && okE p N a sc fn x && okE p N i sc fn y
    | _ => false
  | .slc a lo hi => fun sc fn e => match e with
    | .Subscript x (.Slice l h none _) _ => okE p N a sc fn x && (match l with
        | none => isCN lo
        | some l => !isCN lo && okE p N lo sc fn l) && (match h with
        | none => isCN hi
        | some h => !isCN hi && okE p N hi sc fn h)
    | _ => false
  | .fc f es => fun sc fn e => match e with
    | .Call (.Name y _) l [] _ => decide (y = Str.ofString f) && isGl sc y && nameOk y && p.fns.contains f && okEs p N es sc fn l
    | _ => false
  | .bi b es => fun sc fn e => match e with
    | .Call (.Name y _) l [] _ => decide (y = Str.ofString b) && isGl sc y && nameOk y && p.bts.contains b && (bis.contains b && (coolB b || !p.hot)) && okEs p N es sc fn l && !l.isEmpty
    | _ => false
  | .kget x k f => fun sc fn e => match e with
    | .Call (.Attribute (.Name y _) a apos) [pk, pf] [] cpos => decide (y = Str.ofString x) && isGl sc y && nameOk y && p.tabs.contains x && decide (a = ("get" : Str)) && plainE pk && plainE pf && (apos.endLine == cpos.line) && okE p N k sc fn pk && okE p N f sc fn pf
    | _ => false
  | .wget l k f => fun sc fn e => match e with
    | .Call (.Attribute (.Dict ks vs _) a apos) [pk, pf] [] cpos => dpOk l ks vs && !l.isEmpty && decide (l.length ≤ 15) && decide (a = ("get" : Str)) && plainE pk && plainE pf && (apos.endLine == cpos.line) && okE p N k sc fn pk && okE p N f sc fn pf
    | _ => false
  | .kin neg x k => fun sc fn e => match e with
    | .Compare l [o] [.Name y _] _ => decide (o = if neg = true then CmpOp.NotIn else CmpOp.In) && decide (y = Str.ofString x) && isGl sc y && nameOk y && p.tabs.contains x && okE p N k sc fn l
    | _ => false
  | .kix x k => fun sc fn e => match e with
    | .Subscript (.Name y _) z _ => decide (y = Str.ofString x) && isGl sc y && nameOk y && p.tabs.contains x && plainE z && okE p N k sc fn z
    | _ => false
  | .nev => fun _ _ _ => true
  | .lix a b => fun sc fn e => match e with
    | .Call (.Attribute pa n apos) [pb] [] cpos => decide (n = ("index" : Str)) && plainB pa && (apos.endLine == cpos.line) && plainE pb && okE p N a sc fn pa && okE p N b sc fn pb
    | _ => false
  | .wix l k => fun sc fn e => match e with
    | .Subscript (.Dict ks vs _) pk _ => dpOkI l ks vs && !l.isEmpty && decide (l.length ≤ 15) && plainE pk && okE p N k sc fn pk
    | _ => false
  | .flc f es id js => fun sc fn e => match e with
    | .Call (.Name y _) l [] _ => decide (y = Str.ofString f) && isGl sc y && nameOk y && p.fns.contains f && p.lam && okEsF p N es id js sc fn l
    | _ => false
  | .act i es => fun sc fn e => match e with
    | .Call (.Name y _) l [] _ => decide (N[i]? = some y) && isVis sc y && nameOk y && !p.hot && !l.isEmpty && okEs p N es sc fn l
    | _ => false
  | .lam => fun sc _ e => match e with
    | .Lambda params _ scope _ => p.lam && params.defaults.isEmpty && params.kw_defaults.isEmpty && scope.names.all (fun y => !decide (y.2 = .free) || decide (sc.names.lookup y.1 = some .cell) || decide (sc.names.lookup y.1 = some .free))
    | _ => false
  | .fld o f => fun sc fn e => match e with
    | .Attribute po a _ => decide (a = Str.ofString f) && plainB po && okE p N o sc fn po
    | _ => false
  | .mth o m es => fun sc fn e => match e with
    | .Call (.Attribute po a apos) l [] cpos => decide (a = Str.ofString m) && plainB po && (apos.endLine == cpos.line) && decide (l.length < 30) && okE p N o sc fn po && okEs p N es sc fn l
    | _ => false
  | .mtd o m f es => fun sc fn e => match e with
    | .Call (.Attribute po a apos) l [] cpos => decide (a = Str.ofString m) && plainB po && (apos.endLine == cpos.line) && decide (l.length < 30) && p.shs.contains (f, l.length + 1, []) && !l.isEmpty && okE p N o sc fn po && okEs p N es sc fn l
    | _ => false
  | .mk c es => fun sc fn e => match e with
    | .Call (.Name y _) l [] _ => decide (y = Str.ofString c) && isGl sc y && nameOk y && p.mks.contains c && okEs p N es sc fn l
    | _ => false
  | .mkk c f es ks kes => fun sc fn e => match e with
    | .Call (.Name y _) l kws _ => decide (y = Str.ofString c) && isGl sc y && nameOk y && p.mks.contains c && p.shs.contains (f, l.length + 1, ks) && !l.isEmpty && okEs p N es sc fn l && okKw p N kes sc fn ks kws
    | _ => false
  | .isi o c => fun sc fn e => match e with
    | .Call (.Name y _) [po, .Name z _] [] _ => decide (y = ("isinstance" : Str)) && isGl sc y && p.bts.contains "isinstance" && plainE po && decide (z = Str.ofString c) && isGl sc z && nameOk z && p.isc.contains c && okE p N o sc fn po
    | _ => false
  | .xis o c => fun sc fn e => match e with
    | .Call (.Name y _) [po, .Name z _] [] _ => decide (y = ("isinstance" : Str)) && isGl sc y && p.bts.contains "isinstance" && plainE po && decide (z = Str.ofString c) && isGl sc z && nameOk z && p.xis.contains c && okE p N o sc fn po
    | _ => false
  | .hfc f es => fun sc fn e => match e with
    | .Call (.Name y _) l [] _ => decide (y = Str.ofString f) && isGl sc y && nameOk y && p.hfns.contains f && p.hot && !l.isEmpty && okEs p N es sc fn l
    | _ => false
  | .sm m a b => fun sc fn e => match e with
    | .Call (.Attribute pa n apos) [pb] [] cpos => decide (n = Str.ofString m) && plainB pa && (apos.endLine == cpos.line) && plainE pb && okE p N a sc fn pa && okE p N b sc fn pb
    | _ => false
  | .pop o i => fun sc fn e => match e with
    | .Call (.Attribute po n apos) [pb] [] cpos => decide (n = ("pop" : Str)) && plainB po && (apos.endLine == cpos.line) && plainE pb && okE p N o sc fn po && okE p N i sc fn pb
    | _ => false
def okEs (p : Par) (N : List Str) : Es → Scope → (Str → Bool) → List Expr → Bool
  | .nil => fun _ _ l => match l with
    | [] => true
    | _ => false
  | .cons e r => fun sc fn l => match l with
    | [] => false
    | x :: l => plainE x && okE p N e sc fn x && okEs p N r sc fn l
/-- the last argument is a lambda -/
def okEsF (p : Par) (N : List Str) : Es → String → List Nat → Scope → (Str → Bool) → List Expr → Bool
  | .nil => fun id js sc fn l => match l with
    | [.Lambda params body scope _] => lamOk p N id js sc fn params body scope
    | _ => false
  | .cons e r => fun id js sc fn l => match l with
    | [] => false
    | x :: l => plainE x && okE p N e sc fn x && okEsF p N r id js sc fn l
def okKw (p : Par) (N : List Str) : Es → Scope → (Str → Bool) → List String → List Keyword → Bool
  | .nil => fun _ _ ks l => ks.isEmpty && l.isEmpty
  | .cons e r => fun sc fn ks l => match ks, l with
    | k :: ks, ⟨some nm, x, _⟩ :: l => decide (nm = Str.ofString k) && plainE x && okE p N e sc fn x && okKw p N r sc fn ks l
    | _, _ => false
def okL (p : Par) (N : List Str) : L → Scope → (Str → Bool) → Expr → Bool
  | .disp es => fun sc fn e => match e with
    | .List l _ => okEs p N es sc fn l
    | _ => false
  | .comp el t it c vs => fun sc fn e => match e with
    | .ListComp elt [⟨tg, iter, ifs, 0⟩] scope _ => (plainE iter && !p.hot) && tupTg it tg && (tgS t).all (fun i => vs.contains i) && okIt p N it sc fn iter && blkC N sc scope (ownOf N vs) &&
        okT p.blkP N t (relS scope sc) (fun x => scope.names.lookup x == some .cell) tg && okE p.blkP N el (relS scope sc) (fun x => scope.names.lookup x == some .cell) elt &&
        (match ifs with
        | [] => isTrueC c
        | [q] => okE p.blkP N c (relS scope sc) (fun x => scope.names.lookup x == some .cell) q
        | _ => false)
    | _ => false
  | .ofc a => fun sc fn e => match e with
    | .Call (.Name y _) [x] [] _ => decide (y = ("list" : Str)) && isGl sc y && p.bts.contains "list" && plainE x && okE p N a sc fn x
    | _ => false
  | .ofr es => fun sc fn e => match e with
    | .Call (.Name y _) [.Call (.Name z _) l [] _] [] _ => decide (y = ("list" : Str)) && isGl sc y && p.bts.contains "list" && decide (z = ("range" : Str)) && isGl sc z && p.bts.contains "range" && okEs p N es sc fn l && (len12 l && !p.hot)
    | _ => false
  | .ofz a b => fun sc fn e => match e with
    | .Call (.Name y _) [.Call (.Name z _) [x1, x2] [] _] [] _ => decide (y = ("list" : Str)) && isGl sc y && p.bts.contains "list" && decide (z = ("zip" : Str)) && isGl sc z && p.bts.contains "zip" && plainE x1 && (plainE x2 && !p.hot) && okE p N a sc fn x1 && okE p N b sc fn x2
    | _ => false
  | .slc a lo hi => fun sc fn e => match e with
    | .Subscript x (.Slice l h none _) _ => okE p N a sc fn x && (match l with
        | none => isCN lo
        | some l => !isCN lo && okE p N lo sc fn l) && (match h with
        | none => isCN hi
        | some h => !isCN hi && okE p N hi sc fn h)
    | _ => false
  | .cat a b => fun sc fn e => match e with
    | .BinOp x .Add y _ => okE p N a sc fn x && okE p N b sc fn y
    | _ => false
  | .rep a b => fun sc fn e => match e with
    | .BinOp x .Mult y _ => okE p N a sc fn x && okE p N b sc fn y
    | _ => false
  | .rev a => fun sc fn e => match e with
    | .Subscript x (.Slice none none (some (.UnaryOp .USub (.Constant (.int 1) _ _) _)) _) _ => okE p N a sc fn x
    | _ => false
  | .sst a => fun sc fn e => match e with
    | .Call (.Name y _) [.Call (.Name z _) [x] [] _] [] _ => decide (y = ("sorted" : Str)) && isGl sc y && p.bts.contains "sorted" && decide (z = ("set" : Str)) && isGl sc z && p.bts.contains "set" && (plainE x && !p.hot) && okE p N a sc fn x
    | _ => false
def isTrueC : E → Bool
  | .cB true => true
  | _ => false
def okIt (p : Par) (N : List Str) : It → Scope → (Str → Bool) → Expr → Bool
  | .seq a => fun sc fn e => okE p N a sc fn e
  | .lit l => fun sc fn e => okL p N l sc fn e
  | .rng es => fun sc fn e => match e with
    | .Call (.Name y _) l [] _ => decide (y = ("range" : Str)) && isGl sc y && p.bts.contains "range" && okEs p N es sc fn l && len12 l
    | _ => false
  | .rng3 es => fun sc fn e => match e with
    | .Call (.Name y _) [x1, x2, x3] [] _ => decide (y = ("range" : Str)) && isGl sc y && p.bts.contains "range" && okEs p N es sc fn [x1, x2, x3]
    | _ => false
  | .zip a b => fun sc fn e => match e with
    | .Call (.Name y _) [x, z] [] _ => decide (y = ("zip" : Str)) && isGl sc y && p.bts.contains "zip" && plainE x && plainE z && okE p N a sc fn x && okE p N b sc fn z
    | _ => false
  | .enm a => fun sc fn e => match e with
    | .Call (.Name y _) [x] [] _ => decide (y = ("enumerate" : Str)) && isGl sc y && p.bts.contains "enumerate" && plainE x && okE p N a sc fn x
    | _ => false
  | .rev a => fun sc fn e => match e with
    | .Call (.Name y _) [x] [] _ => decide (y = ("reversed" : Str)) && isGl sc y && p.bts.contains "reversed" && plainE x && okE p N a sc fn x
    | _ => false
def okT (p : Par) (N : List Str) : T → Scope → (Str → Bool) → Expr → Bool
  | .nm i => fun sc fn e => match e with
    | .Name x _ => decide (N[i]? = some x) && isLoc sc fn x
    | _ => false
  | .tp ts => fun sc fn e => match e with
    | .Tuple l _ _ => okTs p N ts sc fn l && !p.hot
    | _ => false
  | .sub o i => fun sc fn e => match e with
    | .Subscript x y _ => plainE y && okE p N o sc fn x && okE p N i sc fn y
    | _ => false
  | .fld o f => fun sc fn e => match e with
    | .Attribute po a _ => decide (a = Str.ofString f) && okE p N o sc fn po
    | _ => false
def okTs (p : Par) (N : List Str) : Ts → Scope → (Str → Bool) → List Expr → Bool
  | .nil => fun _ _ l => match l with
    | [] => true
    | _ => false
  | .cons t r => fun sc fn l => match l with
    | [] => false
    | x :: l => plainE x && okT p N t sc fn x && okTs p N r sc fn l
end
end MI

set_option maxHeartbeats 2000000
/-! MIg: what is walked. -/
namespace MI
open PySem PySem.Spec PyProof.Rows L2
variable [Tabs] [Cels]
section
variable {K : PySem.W.Frag} {mg : Str → Option Value} {φ φ0 φ' : Lo} {S S0 S1 : Sto} {H H0 H' : Hp} {Q : VK} {σ : L2.St}
/-- one step of a reading -/
theorem tE1 {fa : Env → Sto → R D} {g : D → Sto → R D} (h : tE K mg (fun ρ S => (fa ρ S).bind fun x S1 => g x S1) σ H Q) :
    tE K mg fa σ H fun v1 H1 => ∃ φ S a d S', RS K mg φ S H1 ∧ RV K φ S H1 a v1 ∧ g a S = .ok d S' ∧ Wt K mg φ S H1 d S' Q := by
  obtain ⟨φ, ρ, S, d, S1, re, rs, e, w⟩ := h
  obtain ⟨a, S2, e1, e2⟩ := bind_ok e
  exact ⟨φ, ρ, S, a, S2, re, rs, e1, fun φ1 H1 v1 x1 r1 q1 => ⟨φ1, S2, a, d, S1, r1, q1, e2, w.step x1⟩⟩
/-- two -/
theorem tE2 {fa fb : Env → Sto → R D} {g : D → D → Sto → R D} (h : tE K mg (fun ρ S => (fa ρ S).bind fun x S1 => (fb ρ S1).bind fun y S2 => g x y S2) σ H Q) :
    tE K mg fa σ H fun v1 H1 => tE K mg fb σ H1 fun v2 H2 => ∃ φ S a b d S', RS K mg φ S H2 ∧ RV K φ S H2 a v1 ∧ RV K φ S H2 b v2 ∧ g a b S = .ok d S' ∧ Wt K mg φ S H2 d S' Q := by
  obtain ⟨φ, ρ, S, d, S1, re, rs, e, w⟩ := h
  obtain ⟨a, S2, e1, e2⟩ := bind_ok e
  refine ⟨φ, ρ, S, a, S2, re, rs, e1, fun φ1 H1 v1 x1 r1 q1 => ?_⟩
  obtain ⟨b, S3, e3, e4⟩ := bind_ok e2
  exact ⟨φ1, ρ, S2, b, S3, re.mono x1, r1, e3, fun φ2 H2 v2 x2 r2 q2 => ⟨φ2, S3, a, b, d, S1, r2, RV.mono x2 _ _ q1, q2, e4, w.step (x1.trans x2)⟩⟩
theorem tE_bool {fa : Env → Sto → R D} {g : D → Sto → R Bool} {Qb : Bool → Hp → Prop} (h : tT K mg (fun ρ S => (fa ρ S).bind fun x S1 => g x S1) σ H Qb) :
    tE K mg fa σ H fun v1 H1 => ∃ φ S a d S', RS K mg φ S H1 ∧ RV K φ S H1 a v1 ∧ g a S = .ok d S' ∧ ∀ φ' H', Ext φ S H1 φ' S' H' → RS K mg φ' S' H' → Qb d H' := by
  obtain ⟨φ, ρ, S, d, S1, re, rs, e, w⟩ := h
  obtain ⟨a, S2, e1, e2⟩ := bind_ok e
  exact ⟨φ, ρ, S, a, S2, re, rs, e1, fun φ1 H1 v1 x1 r1 q1 => ⟨φ1, S2, a, d, S1, r1, q1, e2, fun φ' H' x r => w φ' H' (x1.trans x) r⟩⟩
/-- an iterator yields these items, one behind the other, whatever stands on -/
structure Wk (K : PySem.W.Frag) (mg : Str → Option Value) (J : L2.It) (l : List D) (φ0 : Lo) (S0 : Sto) (H0 : Hp) : Prop where
  go : ∀ (i : Nat) φ S H, Mo φ0 S0 H0 φ S H → RS K mg φ S H → i < l.length → J.go i H ∧ ∀ x H', J.yld i H x H' → ∃ d, l[i]? = some d ∧ Ext φ S H φ S H' ∧ (∀ b, H b ≠ none → H' b = H b) ∧ RS K mg φ S H' ∧ RV K φ S H' d x
  stop : ∀ (i : Nat) φ S H, Mo φ0 S0 H0 φ S H → RS K mg φ S H → l.length ≤ i → J.stop i H
/-- .. the list at a handle, as it stands at each turn -/
structure WkH (K : PySem.W.Frag) (mg : Str → Option Value) (J : L2.It) (h : Nat) (φ0 : Lo) (S0 : Sto) (H0 : Hp) : Prop where
  go : ∀ (i : Nat) φ S H (l : List D), Mo φ0 S0 H0 φ S H → RS K mg φ S H → S[h]? = some (.lst l) → i < l.length → J.go i H ∧ ∀ x H', J.yld i H x H' → ∃ d, l[i]? = some d ∧ H' = H ∧ RV K φ S H' d x
  stop : ∀ (i : Nat) φ S H (l : List D), Mo φ0 S0 H0 φ S H → RS K mg φ S H → S[h]? = some (.lst l) → l.length ≤ i → J.stop i H
/-- what comes at turn i: an item, or the end -/
def stI : Itm → Nat → Sto → Option (Option D)
  | .fix l => fun i _ => some l[i]?
  | .at_ h => fun i S => match S[h]? with
    | some (.lst l) => some l[i]?
    | _ => none
structure WkG (K : PySem.W.Frag) (mg : Str → Option Value) (J : L2.It) (st : Nat → Sto → Option (Option D)) (φ0 : Lo) (S0 : Sto) (H0 : Hp) : Prop where
  go : ∀ (i : Nat) φ S H d, Mo φ0 S0 H0 φ S H → RS K mg φ S H → st i S = some (some d) → J.go i H ∧ ∀ x H', J.yld i H x H' → Ext φ S H φ S H' ∧ RS K mg φ S H' ∧ RV K φ S H' d x
  stop : ∀ (i : Nat) φ S H, Mo φ0 S0 H0 φ S H → RS K mg φ S H → st i S = some none → J.stop i H
def WkI (K : PySem.W.Frag) (mg : Str → Option Value) (J : L2.It) (φ0 : Lo) (S0 : Sto) (H0 : Hp) (m : Itm) : Prop := WkG K mg J (stI m) φ0 S0 H0
theorem Wk.g {J : L2.It} {l : List D} (w : Wk K mg J l φ0 S0 H0) : WkI K mg J φ0 S0 H0 (.fix l) where
  go := fun i φ S H d x rs e => by
    have e : l[i]? = some d := Option.some.inj e
    have hi := (List.getElem?_eq_some_iff.mp e).1
    obtain ⟨g, y⟩ := w.go i φ S H x rs hi
    refine ⟨g, fun v H' yy => ?_⟩
    obtain ⟨d', e', x', _, r', q'⟩ := y v H' yy
    rw [e] at e'; cases e'
    exact ⟨x', r', q'⟩
  stop := fun i φ S H x rs e => by
    have e : l[i]? = none := Option.some.inj e
    exact w.stop i φ S H x rs (List.getElem?_eq_none_iff.mp e)
theorem WkH.g {J : L2.It} {h : Nat} (w : WkH K mg J h φ0 S0 H0) : WkI K mg J φ0 S0 H0 (.at_ h) where
  go := fun i φ S H d x rs e => by
    have e0 : (match S[h]? with | some (.lst l) => some l[i]? | _ => none) = some (some d) := e
    cases e1 : S[h]? with
    | none => rw [e1] at e0; cases e0
    | some o =>
      cases o with
      | lst l =>
        rw [e1] at e0
        have e : l[i]? = some d := Option.some.inj e0
        obtain ⟨g, y⟩ := w.go i φ S H l x rs e1 (List.getElem?_eq_some_iff.mp e).1
        refine ⟨g, fun v H' yy => ?_⟩
        obtain ⟨d', e', x', q'⟩ := y v H' yy
        rw [e] at e'; cases e'
        subst x'
        exact ⟨Ext.refl, rs, q'⟩
      | _ => rw [e1] at e0; cases e0
  stop := fun i φ S H x rs e => by
    have e0 : (match S[h]? with | some (.lst l) => some l[i]? | _ => none) = some none := e
    cases e1 : S[h]? with
    | none => rw [e1] at e0; cases e0
    | some o =>
      cases o with
      | lst l =>
        rw [e1] at e0
        have e : l[i]? = none := Option.some.inj e0
        exact w.stop i φ S H l x rs e1 (List.getElem?_eq_none_iff.mp e)
      | _ => rw [e1] at e0; cases e0
/-! loops by turns -/
def cmpG (f : D → Sto → R (Option D)) (st : Nat → Sto → Option (Option D)) : Nat → Nat → Sto → R (List D)
  | 0, _, _ => .bad
  | m + 1, i, S => match st i S with
    | none => .bad
    | some none => .ok [] S
    | some (some x) => (f x S).bind fun o S1 => (cmpG f st m (i + 1) S1).bind fun l S2 => match o with
      | some d => .ok (d :: l) S2
      | none => .ok l S2
theorem cmpL_g {f : D → Sto → R (Option D)} {l : List D} : ∀ {k : List D} {i : Nat} {S : Sto}, l.drop i = k → cmpG f (stI (.fix l)) (k.length + 1) i S = cmpL f k S
  | [], i, S, e => by
    have h : l[i]? = none := by rw [List.getElem?_eq_none_iff]; exact List.drop_eq_nil_iff.mp e
    show (match (some l[i]? : Option (Option D)) with | none => R.bad | some none => .ok [] S | some (some x) => _) = _
    rw [h]; rfl
  | x :: k, i, S, e => by
    have h : l[i]? = some x := by
      have := congrArg (·[0]?) e
      simpa using this
    have h2 : l.drop (i + 1) = k := by rw [← List.drop_drop, e]; rfl
    show (match (some l[i]? : Option (Option D)) with | none => R.bad | some none => .ok [] S | some (some x) => _) = _
    rw [h]
    show (f x S).bind _ = (f x S).bind _
    congr 1
    funext o S1
    rw [show (x :: k).length = k.length + 1 from rfl, cmpL_g (k := k) h2] <;> congr 1
theorem cmpH_g {f : D → Sto → R (Option D)} {h : Nat} : ∀ {m i : Nat} {S : Sto}, cmpG f (stI (.at_ h)) m i S = cmpH f h m i S
  | 0, _, _ => rfl
  | m + 1, i, S => by
    unfold cmpG cmpH
    show (match (match S[h]? with | some (.lst l) => some l[i]? | _ => none) with | none => R.bad | some none => .ok [] S | some (some x) => _) = _
    cases S[h]? with
    | none => rfl
    | some o =>
      cases o with
      | lst l =>
        show (match (some l[i]? : Option (Option D)) with | none => R.bad | some none => .ok [] S | some (some x) => _) = (match l[i]? with | none => .ok [] S | some x => _)
        cases l[i]? with
        | none => rfl
        | some x =>
          show (f x S).bind _ = (f x S).bind _
          congr 1
          funext o S1
          rw [cmpH_g] <;> congr 1
      | ins _ _ => rfl
      | exn _ => rfl
      | clo _ _ => rfl
      | dct _ => rfl
      | dead => rfl
def forG (f : D → Env → Sto → R (Fl × Env)) (st : Nat → Sto → Option (Option D)) : Nat → Nat → Env → Sto → R (Fl × Env)
  | 0, _, _, _ => .bad
  | m + 1, i, ρ, S => match st i S with
    | none => .bad
    | some none => .ok (.nx, ρ) S
    | some (some x) => (f x ρ S).bind fun q S1 => match q.1 with
      | .nx => forG f st m (i + 1) q.2 S1
      | .ct => forG f st m (i + 1) q.2 S1
      | .bk => .ok (.nx, q.2) S1
      | .rt d => .ok (.rt d, q.2) S1
theorem forL_g {f : D → Env → Sto → R (Fl × Env)} {l : List D} : ∀ {k : List D} {i : Nat} {ρ : Env} {S : Sto}, l.drop i = k → forG f (stI (.fix l)) (k.length + 1) i ρ S = forL f k ρ S
  | [], i, ρ, S, e => by
    have h : l[i]? = none := by rw [List.getElem?_eq_none_iff]; exact List.drop_eq_nil_iff.mp e
    show (match (some l[i]? : Option (Option D)) with | none => R.bad | some none => R.ok (Fl.nx, ρ) S | some (some x) => _) = _
    rw [h]; rfl
  | x :: k, i, ρ, S, e => by
    have h : l[i]? = some x := by
      have := congrArg (·[0]?) e
      simpa using this
    have h2 : l.drop (i + 1) = k := by rw [← List.drop_drop, e]; rfl
    show (match (some l[i]? : Option (Option D)) with | none => R.bad | some none => R.ok (Fl.nx, ρ) S | some (some x) => _) = _
    rw [h]
    show (f x ρ S).bind _ = (f x ρ S).bind _
    congr 1
    funext q S1
    obtain ⟨fl, ρ1⟩ := q
    cases fl with
    | nx => exact forL_g (k := k) h2
    | ct => exact forL_g (k := k) h2
    | bk => rfl
    | rt d => rfl
theorem forH_g {f : D → Env → Sto → R (Fl × Env)} {h : Nat} : ∀ {m i : Nat} {ρ : Env} {S : Sto}, forG f (stI (.at_ h)) m i ρ S = forH f h m i ρ S
  | 0, _, _, _ => rfl
  | m + 1, i, ρ, S => by
    unfold forG forH
    show (match (match S[h]? with | some (.lst l) => some l[i]? | _ => none) with | none => R.bad | some none => R.ok (Fl.nx, ρ) S | some (some x) => _) = _
    cases S[h]? with
    | none => rfl
    | some o =>
      cases o with
      | lst l =>
        show (match (some l[i]? : Option (Option D)) with | none => R.bad | some none => R.ok (Fl.nx, ρ) S | some (some x) => _) = (match l[i]? with | none => R.ok (Fl.nx, ρ) S | some x => _)
        cases l[i]? with
        | none => rfl
        | some x =>
          show (f x ρ S).bind _ = (f x ρ S).bind _
          congr 1
          funext q S1
          obtain ⟨fl, ρ1⟩ := q
          cases fl with
          | nx => exact forH_g
          | ct => exact forH_g
          | bk => rfl
          | rt d => rfl
      | ins _ _ => rfl
      | exn _ => rfl
      | clo _ _ => rfl
      | dct _ => rfl
      | dead => rfl
theorem wk_list {a : Addr} {vs : List V} {l : List D} (q : LA K φ0 S0 H0 a vs) (t : RVs K φ0 S0 H0 l vs) : Wk K mg (Itl K a) l φ0 S0 H0 where
  go := fun i φ S H x rs hi => by
    have q1 := (q.mo x).sq
    have t1 := RVs.mo x _ _ t
    have hv : i < vs.length := by rw [t.length]; exact hi
    refine ⟨⟨vs, vs[i], q1, List.getElem?_eq_getElem hv⟩, fun v H' y => ?_⟩
    obtain ⟨rfl, y⟩ := y
    obtain ⟨v', e1, r1⟩ := t1.get (List.getElem?_eq_getElem hi)
    have := y vs q1
    rw [e1] at this
    cases this
    exact ⟨_, List.getElem?_eq_getElem hi, Ext.refl, fun _ _ => rfl, rs, r1⟩
  stop := fun i φ S H x rs hi => ⟨vs, (q.mo x).sq, by rw [t.length]; exact hi⟩
theorem wk_tup {a : Addr} {vs : List V} {l : List D} (q : SqT K H0 a vs) (t : RVs K φ0 S0 H0 l vs) : Wk K mg (Itt K a) l φ0 S0 H0 where
  go := fun i φ S H x rs hi => by
    have q1 := sqT_mono x.tup q
    have t1 := RVs.mo x _ _ t
    have hv : i < vs.length := by rw [t.length]; exact hi
    refine ⟨⟨vs, vs[i], q1, List.getElem?_eq_getElem hv⟩, fun v H' y => ?_⟩
    obtain ⟨rfl, y⟩ := y
    obtain ⟨v', e1, r1⟩ := t1.get (List.getElem?_eq_getElem hi)
    have := y vs q1
    rw [e1] at this
    cases this
    exact ⟨_, List.getElem?_eq_getElem hi, Ext.refl, fun _ _ => rfl, rs, r1⟩
  stop := fun i φ S H x rs hi => ⟨vs, sqT_mono x.tup q, by rw [t.length]; exact hi⟩
theorem wk_rng {lo : Int} {n : Nat} : Wk K mg (Itr lo n) (rngL lo n) φ0 S0 H0 where
  go := fun i φ S H x rs hi => by
    have hi' : i < n := by unfold rngL at hi; simpa using hi
    refine ⟨hi', fun v H' y => ?_⟩
    obtain ⟨rfl, rfl⟩ := y
    exact ⟨.int (lo + i), by unfold rngL; simp [hi'], Ext.refl, fun _ _ => rfl, rs, rv_int⟩
  stop := fun i φ S H x rs hi => by
    show n ≤ i
    unfold rngL at hi; simpa using hi
theorem wk_rng3 {lo c : Int} {n : Nat} : Wk K mg (Itc lo c n) (dnL lo c n) φ0 S0 H0 where
  go := fun i φ S H x rs hi => by
    have hi' : i < n := by unfold dnL at hi; simpa using hi
    refine ⟨hi', fun v H' y => ?_⟩
    obtain ⟨rfl, rfl⟩ := y
    exact ⟨.int (lo + i * c), by unfold dnL; simp [hi'], Ext.refl, fun _ _ => rfl, rs, rv_int⟩
  stop := fun i φ S H x rs hi => by
    show n ≤ i
    unfold dnL at hi; simpa using hi
theorem wk_str {z : Str} : Wk K mg (Its z) (z.cps.toList.map fun c => .str ⟨#[c]⟩) φ0 S0 H0 where
  go := fun i φ S H x rs hi => by
    have hi' : i < z.cps.size := by simpa using hi
    refine ⟨hi', fun v H' y => ?_⟩
    obtain ⟨rfl, c, e, rfl⟩ := y
    exact ⟨.str ⟨#[c]⟩, by simp [e], Ext.refl, fun _ _ => rfl, rs, rv_str⟩
  stop := fun i φ S H x rs hi => by
    show z.cps.size ≤ i
    simpa using hi
theorem wk_rev {a : Addr} {vs : List V} {l : List D} (q : LA K φ0 S0 H0 a vs) (t : RVs K φ0 S0 H0 l vs) : Wk K mg (Itv K a vs.length) l.reverse φ0 S0 H0 where
  go := fun i φ S H x rs hi => by
    have q1 := (q.mo x).sq
    have t1 := RVs.mo x _ _ t
    rw [List.length_reverse] at hi
    have hv : vs.length - 1 - i < vs.length := by rw [t.length]; omega
    refine ⟨⟨by rw [t.length]; exact hi, vs, vs[vs.length - 1 - i], q1, List.getElem?_eq_getElem hv⟩, fun v H' y => ?_⟩
    obtain ⟨rfl, y⟩ := y
    have hl : l.length - 1 - i < l.length := by omega
    obtain ⟨v', e1, r1⟩ := t1.get (List.getElem?_eq_getElem hl)
    have := y vs q1
    rw [t.length, e1] at this
    cases this
    exact ⟨_, by rw [List.getElem?_reverse hi]; exact List.getElem?_eq_getElem hl, Ext.refl, fun _ _ => rfl, rs, r1⟩
  stop := fun i φ S H x rs hi => by
    show vs.length ≤ i
    rw [t.length]; simpa using hi
theorem wk_revT {a : Addr} {vs : List V} {l : List D} (q : SqT K H0 a vs) (t : RVs K φ0 S0 H0 l vs) : Wk K mg (RT.ItvT K a vs.length) l.reverse φ0 S0 H0 where
  go := fun i φ S H x rs hi => by
    have q1 := sqT_mono x.tup q
    have t1 := RVs.mo x _ _ t
    rw [List.length_reverse] at hi
    have hv : vs.length - 1 - i < vs.length := by rw [t.length]; omega
    refine ⟨⟨by rw [t.length]; exact hi, vs, vs[vs.length - 1 - i], q1, List.getElem?_eq_getElem hv⟩, fun v H' y => ?_⟩
    obtain ⟨rfl, y⟩ := y
    have hl : l.length - 1 - i < l.length := by omega
    obtain ⟨v', e1, r1⟩ := t1.get (List.getElem?_eq_getElem hl)
    have := y vs q1
    rw [t.length, e1] at this
    cases this
    exact ⟨_, by rw [List.getElem?_reverse hi]; exact List.getElem?_eq_getElem hl, Ext.refl, fun _ _ => rfl, rs, r1⟩
  stop := fun i φ S H x rs hi => by
    show vs.length ≤ i
    rw [t.length]; simpa using hi
theorem zip_get {l k : List D} {i : Nat} {d e : D} (h1 : l[i]? = some d) (h2 : k[i]? = some e) : ((l.zip k).map fun p => D.tup [p.1, p.2])[i]? = some (.tup [d, e]) := by
  rw [List.getElem?_map, List.getElem?_zip_eq_some (z := (d, e)) |>.mpr ⟨h1, h2⟩]; rfl
theorem wk_zip {a b : Addr} {vs ws : List V} {l k : List D} (q : LA K φ0 S0 H0 a vs) (t : RVs K φ0 S0 H0 l vs) (q' : LA K φ0 S0 H0 b ws) (t' : RVs K φ0 S0 H0 k ws) :
    Wk K mg (Itz K a b) ((l.zip k).map fun p => D.tup [p.1, p.2]) φ0 S0 H0 where
  go := fun i φ S H x rs hi => by
    have q1 := (q.mo x).sq
    have q2 := (q'.mo x).sq
    have t1 := RVs.mo x _ _ t
    have t2 := RVs.mo x _ _ t'
    simp only [List.length_map, List.length_zip] at hi
    have h1 : i < l.length := by omega
    have h2 : i < k.length := by omega
    obtain ⟨v1, e1, r1⟩ := t1.get (List.getElem?_eq_getElem h1)
    obtain ⟨v2, e2, r2⟩ := t2.get (List.getElem?_eq_getElem h2)
    refine ⟨⟨vs, ws, v1, v2, q1, q2, e1, e2⟩, fun v H' y => ?_⟩
    obtain ⟨T, y1, y2, rfl, hT, rfl, f1, f2⟩ := y
    have g1 := f1 vs q1
    have g2 := f2 ws q2
    rw [e1] at g1; cases g1
    rw [e2] at g2; cases g2
    exact ⟨_, zip_get (List.getElem?_eq_getElem h1) (List.getElem?_eq_getElem h2), Ext.new rs hT, fun b hb => upd_ne fun z => hb (z ▸ hT), rs.new hT, rv_tup rs hT (RVs.cons r1 (RVs.cons r2 .nil))⟩
  stop := fun i φ S H x rs hi => by
    simp only [List.length_map, List.length_zip] at hi
    exact ⟨vs, ws, (q.mo x).sq, (q'.mo x).sq, by rw [t.length, t'.length]; omega⟩
theorem enm_get : ∀ {l : List MI.D} {n i : Nat} {d : MI.D}, l[i]? = some d → (enmL n l)[i]? = some (.tup [.int ((n + i : Nat) : Int), d])
  | _ :: _, n, 0, _, e => by
    have e := Option.some.inj e
    subst e
    rfl
  | _ :: l, n, i + 1, d, e => by
    have e : l[i]? = some d := e
    show (enmL (n + 1) l)[i]? = _
    rw [enm_get (n := n + 1) e, show n + 1 + i = n + (i + 1) by omega]
theorem enm_len : ∀ {l : List MI.D} {n : Nat}, (enmL n l).length = l.length
  | [], _ => rfl
  | _ :: l, n => by
    show (enmL (n + 1) l).length + 1 = l.length + 1
    rw [enm_len]
theorem wk_enm {a : Addr} {vs : List V} {l : List MI.D} (q : LA K φ0 S0 H0 a vs) (t : RVs K φ0 S0 H0 l vs) :
    Wk K mg (Ite K a) (enmL 0 l) φ0 S0 H0 where
  go := fun i φ S H x rs hi => by
    have q1 := (q.mo x).sq
    have t1 := RVs.mo x _ _ t
    rw [enm_len] at hi
    obtain ⟨v1, e1, r1⟩ := t1.get (List.getElem?_eq_getElem hi)
    refine ⟨⟨vs, v1, q1, e1⟩, fun v H' y => ?_⟩
    obtain ⟨T, y1, rfl, hT, rfl, f1⟩ := y
    have g1 := f1 vs q1
    rw [e1] at g1; cases g1
    refine ⟨_, enm_get (List.getElem?_eq_getElem hi), Ext.new rs hT, fun b hb => upd_ne fun z => hb (z ▸ hT), rs.new hT, ?_⟩
    rw [Nat.zero_add]
    exact rv_tup rs hT (RVs.cons rv_int (RVs.cons r1 .nil))
  stop := fun i φ S H x rs hi => by
    rw [enm_len] at hi
    exact ⟨vs, (q.mo x).sq, by rw [t.length]; exact hi⟩
theorem wk_zipT {a b : Addr} {vs ws : List V} {l k : List D} (q : SqT K H0 a vs) (t : RVs K φ0 S0 H0 l vs) (q' : SqT K H0 b ws) (t' : RVs K φ0 S0 H0 k ws) :
    Wk K mg (RZ.ItzT K a b) ((l.zip k).map fun p => D.tup [p.1, p.2]) φ0 S0 H0 where
  go := fun i φ S H x rs hi => by
    have q1 := sqT_mono x.tup q
    have q2 := sqT_mono x.tup q'
    have t1 := RVs.mo x _ _ t
    have t2 := RVs.mo x _ _ t'
    simp only [List.length_map, List.length_zip] at hi
    have h1 : i < l.length := by omega
    have h2 : i < k.length := by omega
    obtain ⟨v1, e1, r1⟩ := t1.get (List.getElem?_eq_getElem h1)
    obtain ⟨v2, e2, r2⟩ := t2.get (List.getElem?_eq_getElem h2)
    refine ⟨⟨vs, ws, v1, v2, q1, q2, e1, e2⟩, fun v H' y => ?_⟩
    obtain ⟨T, y1, y2, rfl, hT, rfl, f1, f2⟩ := y
    have g1 := f1 vs q1
    have g2 := f2 ws q2
    rw [e1] at g1; cases g1
    rw [e2] at g2; cases g2
    exact ⟨_, zip_get (List.getElem?_eq_getElem h1) (List.getElem?_eq_getElem h2), Ext.new rs hT, fun b hb => upd_ne fun z => hb (z ▸ hT), rs.new hT, rv_tup rs hT (RVs.cons r1 (RVs.cons r2 .nil))⟩
  stop := fun i φ S H x rs hi => by
    simp only [List.length_map, List.length_zip] at hi
    exact ⟨vs, ws, sqT_mono x.tup q, sqT_mono x.tup q', by rw [t.length, t'.length]; omega⟩
theorem wk_at {h : Nat} {a : Addr} (e : φ0.hs[h]? = some a) : WkH K mg (Itl K a) h φ0 S0 H0 where
  go := fun i φ S H l x rs hs hi => by
    have e' := x.pre h a e
    obtain ⟨vs, q, t⟩ := rs.obj _ _ _ hs e'
    have hv : i < vs.length := by rw [t.length]; exact hi
    refine ⟨⟨vs, vs[i], .of q, List.getElem?_eq_getElem hv⟩, fun v H' y => ?_⟩
    obtain ⟨rfl, y⟩ := y
    obtain ⟨v', e1, r1⟩ := t.get (List.getElem?_eq_getElem hi)
    have := y vs (.of q)
    rw [e1] at this
    cases this
    exact ⟨_, List.getElem?_eq_getElem hi, rfl, r1⟩
  stop := fun i φ S H l x rs hs hi => by
    obtain ⟨vs, q, t⟩ := rs.obj _ _ _ hs (x.pre h a e)
    exact ⟨vs, .of q, by rw [t.length]; exact hi⟩
/-- an iterable's reading -/
def tI (K : PySem.W.Frag) (mg : Str → Option Value) (f : Env → Sto → R Itm) : TI := fun σ H R => ∃ φ ρ S m S1, RE K φ S H ρ σ ∧ RS K mg φ S H ∧ f ρ S = .ok m S1 ∧ ∀ φ' H' J, Ext φ S H φ' S1 H' → RS K mg φ' S1 H' → WkI K mg J φ' S1 H' m → R J H'
end
theorem PI.imp {X : Cx} {tg e : Expr} {t t' : TI} (h : PI X tg e t) (i : ∀ σ H R, t' σ H R → t σ H R) : PI X tg e t' := ⟨fun pins s σ H R I q => h.run pins s σ H R I (i σ H R q)⟩
end MI

set_option maxHeartbeats 3200000
/-! MIst: sorted(set(xs)), xs a list of ints. -/
namespace L2
open PySem PySem.Spec PyProof.Rows
section
variable {P : Program} {w : World} {A : Around} {E : Value → Shared → Prop} {s : Shared}
/-- the new, empty set -/
abbrev setOb (w : World) : Obj := { cls := .type "set", dict := none, data := .set #[] 0 (.fresh 0 0 (!w.params.followText "set-order")) }
/-- set(xs), xs a list of ints: the library's way of tuples, turned to lists -/
theorem call_set_listI {l : Addr} {items : Array Value} (ns : List Int) {Q : Value → Shared → Prop} (hh : A.handled = none) (hl : s.heap.IsList l items) (hit : IntsAre items.toList ns) (hb : ns.length + 1 < scanBound)
    (h : ∀ (h' : Heap) (tk c : Nat), SetR w h' s.heap.objs.size (fun j => decide (j ∈ ns)) c → c ≤ ns.length → (∀ b o, s.heap.get? b = some o → h'.get? b = some o) → Q (.ref s.heap.objs.size) { s with heap := h', toks := tk }) :
    wpAny (model P w) A (call (.type "set") [.ref l]) Q E s := by
  have hisz : items.size = ns.length := by
    have q := IntsAre.length hit
    rw [Array.length_toList] at q
    exact q
  obtain ⟨c, tl, hmro⟩ := F.called_set.mro
  have hmade := F.called_set.made
  have hsub := F.called_set.sub
  refine wpAny_call (codeAny_of_tree ?_)
  show wpAny _ _ (callAny (.type "set") _) _ _ _
  refine wpAny_pure ⟨Code.quiet_builtin _ (by decide +kernel), codeAny_builtin F.entry_type_call ?_⟩
  rw [Around.under_plain (weight_type_call_type "set" [.ref l] []) rfl]
  have h1 := F.called_set.notType
  have h2 := F.called_set.canCreate
  have hct := F.typeCall_set_1 (.ref l)
  repeat (any_goals (first | assumption | wp_step))

  refine codeAny_mono (code_set_led1 (.ref l) (E := E) (Q₁ := fun obj s₁ => obj = .ref s.heap.objs.size ∧ s₁ = { s with heap := s.heap.push (setOb w) }) ⟨rfl, rfl⟩) fun r s₁ hr => ?_
  cases r with
  | error e => exact hr
  | ok fl =>
    cases fl with
    | ret obj =>
      obtain ⟨rfl, rfl⟩ := hr
      have hS : (s.heap.push (setOb w)).get? s.heap.objs.size = some (setOb w) := Heap.get?_push_size _ rfl
      have hT : Shared.TypeIs { s with heap := s.heap.push (setOb w) } (.ref s.heap.objs.size) "set" := ⟨_, hS, rfl⟩
      have hli := F.called_set.init.lookup
      have hbi := F.called_set.init.bind (.ref s.heap.objs.size)
      repeat (any_goals (first | assumption | wp_step))

      refine codeAny_mono (codeAny_call_builtin (R := wants (fun r s₂ => r = .none ∧ ∃ h' tk c, s₂ = { s with heap := h', toks := tk } ∧ SetR w h' s.heap.objs.size (fun j => decide (j ∈ ns)) c ∧ c ≤ ns.length ∧
          (∀ b o, s.heap.get? b = some o → h'.get? b = some o)) E) F.called_set.init.plain F.entry_set_init (check_set_init_1 hT ?_)) fun r₂ s₂ hr₂ => ?_
      · obtain ⟨ol, hol, hcl, nl, hdl⟩ := hl
        obtain ⟨ocls, odict, odata, oslots⟩ := ol
        simp only at hcl hdl
        subst hcl; subst hdl
        have hol' : (s.heap.push (setOb w)).get? l = some { cls := .type "list", dict := odict, data := .seq items nl, slots := oslots } := Heap.get?_push_of_some _ hol
        have hsls := F.sub_list_set
        have hslf := F.sub_list_frozenset
        have hne : (Value.type "list" == Value.type "dict") = false := by decide
        have hl1 : (s.heap.push (setOb w)).IsList l items := ⟨_, hol', rfl, nl, rfl⟩
        unfold Builtin.«set.__init__» noKeywords Builtin.Frozenset.updateFrom
        generalize hPI : pyIter = PI
        wp_walk
        subst hPI

        refine wpAny_pyIter_list hl1 ?_
        refine wpAny_bind (wpAny_runValue ?_)
        have hlS : l < s.heap.objs.size := Heap.lt_size hol
        have hh3 : A.in1.in1.in1.handled = none := by simp [hh]
        have hz1 : (s.heap.push (setOb w)).objs.size = s.heap.objs.size + 1 := Heap.size_push ..
        have hneI : l ≠ (s.heap.push (setOb w)).objs.size := by
          rw [Heap.size_push]; exact Nat.ne_of_lt (Nat.lt_succ_of_lt hlS)
        have hSf : s.heap.objs.size ∉ [(s.heap.push (setOb w)).objs.size, l] := by
          rw [Heap.size_push]; simp only [List.mem_cons, List.mem_singleton, List.not_mem_nil, or_false, not_or]
          exact ⟨Nat.ne_of_lt (Nat.lt_succ_self _), Nat.ne_of_gt hlS⟩
        have hval : ∀ (i : Nat) (v : Value), items[i]? = some v → ∃ k t, ns[i]? = some k ∧ v = .int k t := fun i v hv => by
          have hi : i < ns.length := by rw [← hisz]; exact (Array.getElem?_eq_some_iff.mp hv).1
          obtain ⟨t, e⟩ := PyProof.Rows.IntsAre.int_at hit i v (by rw [Array.getElem?_toList]; exact hv)
          refine ⟨ns[i], t, List.getElem?_eq_getElem hi, ?_⟩
          rw [e, List.getD_eq_getElem?_getD, List.getElem?_eq_getElem hi] <;> rfl
        refine set_update_ints ((Walks.list hh3 _ l hneI items).toS) s.heap.objs.size
          hSf ns hisz hb hval (items.size - 0) 0 _ (by omega) (Nat.zero_le _)
          ⟨⟨_, Heap.get?_push_size _ rfl, rfl, rfl⟩, (hl1.push _)⟩ ?hS0 ?hR
        case hS0 =>
          have hget : ((s.heap.push (setOb w)).push { cls := .type "list_iterator", data := .fields #[.ref l, .int 0 0] }).get? s.heap.objs.size
              = some (setOb w) := Heap.get?_push_of_some _ hS
          exact ⟨0, Nat.le_refl 0, setR_new_at hget⟩
        case hR =>
          intro s' c' hm hc' hS'
          obtain ⟨h', g2, d', tk', os'⟩ := s'
          have eg : g2 = s.gens := hm.gens
          have ed : d' = s.drawn := hm.drawn
          have eo : os' = s.os := hm.os
          subst eg; subst ed; subst eo
          show wpAny _ _ _ _ _ _
          refine wpAny_pure ?_
          show wpAny _ _ (ret Value.none) _ _ _
          rw [hisz] at hc'
          refine wpAny_pure ⟨rfl, h', tk', c', rfl, hS', hc', fun b o e => ?_⟩
          have hb0 : b < s.heap.objs.size := Heap.lt_size e
          have hb1 : b ≠ s.heap.objs.size := Nat.ne_of_lt hb0
          have hb2 : b ≠ (s.heap.push (setOb w)).objs.size := by
            rw [Heap.size_push]; exact Nat.ne_of_lt (Nat.lt_succ_of_lt hb0)
          exact hm.heap b o (by simp only [List.mem_cons, List.mem_singleton, List.not_mem_nil, or_false, not_or]; exact ⟨hb1, hb2⟩) (Heap.get?_push_of_some _ (Heap.get?_push_of_some _ e))

      · cases r₂ with
        | error e => exact hr₂
        | ok fl₂ =>
          cases fl₂ with
          | ret r =>
            obtain ⟨rfl, h', tk, c', rfl, hS', hc', hk'⟩ := hr₂
            repeat (any_goals (first | assumption | wp_step))
            exact h _ _ _ hS' hc' hk'
          | _ => exact hr₂.elim
    | _ => exact hr.elim

end
section
variable {X : Cx}
/-- set(xs) -/
def rSetLI (K : PySem.W.Frag) (w : World) : List V → Hp → VK → Prop := fun xs H Q => ∃ (b : Addr) (ns : List Int), xs = [V.ref b] ∧ SqL K H b (ns.map V.int) ∧ ns.length + 1 < scanBound ∧ ∀ p c, H p = none → c ≤ ns.length → Q (.ref p) (upd H p (SetO w p (fun j => decide (j ∈ ns)) c))
theorem cr_setLI (hc : X.calm = true) : CallR X (.type "set") (rSetLI X.K X.w) := by
  intro pins s σ H xs us Q I r h
  obtain ⟨b, ns, rfl, hq, hb, q⟩ := h
  obtain ⟨its, rv, pl, _⟩ := I.list hq
  rw [Vals.ref1 r]
  refine call_set_listI (l := b) (items := its.toArray) ns (I.ok.hd hc) pl.isList (by simpa using intsAre_of rv) hb fun h' tk c hS hc' hk => ?_
  have hn : H s.heap.objs.size = none := I.hok.fresh (Nat.le_refl _)
  have J : Inv X pins σ (upd H s.heap.objs.size (SetO X.w s.heap.objs.size (fun j => decide (j ∈ ns)) c)) { s with heap := h', toks := tk } :=
    I.laid (t' := tk) hk (Nat.le_refl _) (setO_new hS)
  exact ⟨.ref _, _, J, rfl, q _ c hn hc'⟩
end
end L2

set_option maxHeartbeats 2000000
/-! MIlz: list(zip(xs, ys)), two lists. -/
namespace L2
open PySem PySem.Spec PyProof.Rows
theorem zip_no_len : typeLookup (.type "zip") "__len__" = pure none := by rw [typeLookup_type, builtinLookup_eq_fast]; kernel_rfl
theorem zip_no_hint : typeLookup (.type "zip") "__length_hint__" = pure none := by rw [typeLookup_type, builtinLookup_eq_fast]; kernel_rfl
theorem ne_gt {a b S : Addr} (h1 : a < S) (h2 : S < b) : b ≠ a := Nat.ne_of_gt (Nat.lt_trans h1 h2)
theorem ne_lt {a S : Addr} (h1 : a < S) : S ≠ a := Nat.ne_of_gt h1
/-- a zip of two lists, behind i items; what it gave out last is still there -/
structure ZpAt (h : Heap) (S z TI TO i1 i2 l1 l2 : Addr) (xs ys : Array Value) (i : Nat) : Prop where
  ti : IsPair h TI (.ref i1) (.ref i2)
  a : h.IsListIter i1 l1 i
  b : h.IsListIter i2 l2 i
  l : h.IsList l1 xs
  m : h.IsList l2 ys
  st : (IsZip h z TI TO .none ∧ ∃ u v, IsPair h TO u v) ∨ ∃ T f oT, IsZipHeld h z TI TO T f ∧ h.get? T = some oT ∧ S < T
section
variable {prog : Program} {w : World} {A : Around} {E : Value → Shared → Prop} {s : Shared} {S z TI TO i1 i2 l1 l2 : Addr} {xs ys : Array Value} {i : Nat}
theorem ZpAt.keep {h h' : Heap} (Z : ZpAt h S z TI TO i1 i2 l1 l2 xs ys i) (k : ∀ b o, b ≠ S → h.get? b = some o → h'.get? b = some o) (n1 : TI < S) (n2 : i1 < S) (n3 : i2 < S) (n4 : l1 < S) (n5 : l2 < S) (n6 : z < S) (n7 : TO < S) : ZpAt h' S z TI TO i1 i2 l1 l2 xs ys i := by
  refine ⟨k _ _ (Nat.ne_of_lt n1) Z.ti, Z.a.at fun o e => k _ _ (Nat.ne_of_lt n2) e, Z.b.at fun o e => k _ _ (Nat.ne_of_lt n3) e, Z.l.at fun o e => k _ _ (Nat.ne_of_lt n4) e, Z.m.at fun o e => k _ _ (Nat.ne_of_lt n5) e, ?_⟩
  rcases Z.st with ⟨h1, u, v, h2⟩ | ⟨T, f, oT, h1, h2, h3⟩
  · exact .inl ⟨k _ _ (Nat.ne_of_lt n6) h1, u, v, k _ _ (Nat.ne_of_lt n7) h2⟩
  · exact .inr ⟨T, f, oT, k _ _ (Nat.ne_of_lt n6) h1, k _ _ (Nat.ne_of_gt h3) h2, h3⟩
theorem zp_next (D : ZipApart z TI TO i1 i2 l1 l2) (Z : ZpAt s.heap S z TI TO i1 i2 l1 l2 xs ys i) (hb : z < S ∧ TI < S ∧ TO < S ∧ i1 < S ∧ i2 < S) (hs : S < s.heap.objs.size) {x y : Value} (hx : xs[i]? = some x) (hy : ys[i]? = some y) {Q : Option Value → Shared → Prop}
    (hQ : ∀ h', ZpAt h' S z TI TO i1 i2 l1 l2 xs ys (i + 1) → IsPair h' s.heap.objs.size x y → h'.objs.size = s.heap.objs.size + 1 → (∀ c o, c ≠ z → c ≠ TO → c ≠ i1 → c ≠ i2 → s.heap.get? c = some o → h'.get? c = some o) → Q (some (.ref s.heap.objs.size)) { s with heap := h' }) :
    wpAny (model prog w) A (pyNext (.ref z)) Q E s := by
  have hlt : ∀ {b o}, s.heap.get? b = some o → b ≠ s.heap.objs.size := fun e => Nat.ne_of_lt (Heap.lt_size e)
  obtain ⟨hz, hTI, hTO, hi1, hi2⟩ := hb
  rcases Z.st with ⟨h1, u, v, h2⟩ | ⟨T, f, oT, h1, h2, h3⟩
  · refine wpAny_pyNext_zip_item D h1 Z.ti h2 Z.a Z.b Z.l Z.m hx hy fun h' a1 a2 a3 a4 a5 a6 hk => ?_
    exact hQ h' ⟨hk _ _ D.TIz D.TITO D.TIi1 D.TIi2 Z.ti, a3, a4, Z.l.at fun o e => hk _ _ D.l1z D.l1TO D.l1i1 D.l1i2 e, Z.m.at fun o e => hk _ _ D.l2z D.l2TO D.l2i1 D.l2i2 e, .inr ⟨_, false, _, a1, a5, hs⟩⟩ a5 a6 hk
  · refine wpAny_pyNext_zip_item_held D h1 h2 Z.ti Z.a Z.b Z.l Z.m hx hy fun h' a1 a3 a4 a5 a6 hk => ?_
    exact hQ h' ⟨hk _ _ D.TIz D.TIi1 D.TIi2 Z.ti, a3, a4, Z.l.at fun o e => hk _ _ D.l1z D.l1i1 D.l1i2 e, Z.m.at fun o e => hk _ _ D.l2z D.l2i1 D.l2i2 e, .inr ⟨T, true, oT, a1, hk _ _ (ne_gt hz h3) (ne_gt hi1 h3) (ne_gt hi2 h3) h2, h3⟩⟩ a5 a6 fun c o c1 _ c3 c4 e => hk c o c1 c3 c4 e
theorem zp_end (hh : A.handled = none) (D : ZipApart z TI TO i1 i2 l1 l2) (Z : ZpAt s.heap S z TI TO i1 i2 l1 l2 xs ys i) (hend : xs[i]? = none ∨ ys[i]? = none) {Q : Option Value → Shared → Prop}
    (hQ : ∀ h', (∀ c o, c ≠ z → c ≠ TO → c ≠ i1 → c ≠ i2 → s.heap.get? c = some o → h'.get? c = some o) → Q none { s with heap := h' }) : wpAny (model prog w) A (pyNext (.ref z)) Q E s := by
  rcases Z.st with ⟨h1, u, v, h2⟩ | ⟨T, f, oT, h1, h2, h3⟩
  · exact wpAny_pyNext_zip_end hh D h1 Z.ti h2 Z.a Z.b Z.l Z.m hend hQ
  · exact wpAny_pyNext_zip_end_held hh D h1 h2 Z.ti Z.a Z.b Z.l Z.m hend fun h' hk => hQ h' fun c o c1 _ c3 c4 e => hk c o c1 c3 c4 e
/-- the pairs given out -/
structure Prs (h : Heap) (S : Addr) (xs ys : Array Value) (Ts : List Addr) : Prop where
  lo : ∀ T ∈ Ts, S < T ∧ T < h.objs.size
  nd : Ts.Nodup
  at_ : ∀ (j : Nat) (T : Addr) (x y : Value), Ts[j]? = some T → xs[j]? = some x → ys[j]? = some y → IsPair h T x y
theorem zip_loop {R : Result → Shared → Prop} {n : Nat} (hh : A.handled = none) (D : ZipApart z TI TO i1 i2 l1 l2) (hb : z < S ∧ TI < S ∧ TO < S ∧ i1 < S ∧ i2 < S) (hl1 : l1 < S) (hl2 : l2 < S) (hn : n = min xs.size ys.size) (hz : n ≤ sizeLine) (res : Value) :
    ∀ (k i : Nat) (s : Shared) (acc : Array Value) (c : Nat) (Ts : List Addr), n - i = k → i ≤ n → ZpAt s.heap S z TI TO i1 i2 l1 l2 xs ys i → s.heap.get? S = some { cls := .type "list", dict := none, data := .seq acc c, slots := #[] } → acc = (Ts.map Value.ref).toArray → Ts.length = i → Prs s.heap S xs ys Ts →
      (∀ h' acc' c' Ts', (∀ b o, b ≠ S → b ≠ z → b ≠ TO → b ≠ i1 → b ≠ i2 → s.heap.get? b = some o → h'.get? b = some o) → h'.get? S = some { cls := .type "list", dict := none, data := .seq acc' c', slots := #[] } → acc' = (Ts'.map Value.ref).toArray → Ts'.length = n → Prs h' S xs ys Ts' → R (.ok (.ret res)) { s with heap := h' }) →
      codeAny (model prog w) A (.builtin "list.extend.loop" ⟨[.ref S, .ref z, res], []⟩) R s := by
  obtain ⟨bz, bTI, bTO, b1, b2⟩ := id hb
  intro k
  induction k with
  | zero =>
    intro i s acc c Ts hk hi Z hS hacc hT P hR
    have hin : i = n := by omega
    subst hin
    refine codeAny_builtin F.entry_extend_loop ?_
    rw [Around.under_plainId F.plain_extend_loop _]
    show wpAny _ A.in1 (pyNext (.ref z) >>= _) _ _ s
    refine wpAny_bind (zp_end (A := A.in1) (show A.in1.handled = none from hh) D Z ?_ fun h' hk' => ?_)
    · by_cases hc : xs.size ≤ ys.size
      · exact .inl (Array.getElem?_eq_none (by omega))
      · exact .inr (Array.getElem?_eq_none (by omega))
    · have kS := hk' S _ (ne_lt bz) (ne_lt bTO) (ne_lt b1) (ne_lt b2) hS
      refine wpAny_pure (hR h' acc c Ts (fun b o _ c1 c2 c3 c4 e => hk' b o c1 c2 c3 c4 e) kS hacc hT ⟨fun T hm => ?_, P.nd, fun j T x y e1 e2 e3 => ?_⟩)
      · have h1 := P.lo T hm
        obtain ⟨j, hj⟩ := List.mem_iff_getElem?.mp hm
        have hj' := (List.getElem?_eq_some_iff.mp hj).1
        have hx : xs[j]? = some xs[j] := Array.getElem?_eq_getElem (by omega)
        have hy : ys[j]? = some ys[j] := Array.getElem?_eq_getElem (by omega)
        exact ⟨h1.1, Heap.lt_size (hk' T _ (ne_gt bz h1.1) (ne_gt bTO h1.1) (ne_gt b1 h1.1) (ne_gt b2 h1.1) (P.at_ j T _ _ hj hx hy))⟩
      · have h1 := P.lo T (List.mem_of_getElem? e1)
        exact hk' T _ (ne_gt bz h1.1) (ne_gt bTO h1.1) (ne_gt b1 h1.1) (ne_gt b2 h1.1) (P.at_ j T x y e1 e2 e3)
  | succ k ih =>
    intro i s acc c Ts hk hi Z hS hacc hT P hR
    have hlt : i < n := by omega
    have hx : xs[i]? = some xs[i] := Array.getElem?_eq_getElem (by omega)
    have hy : ys[i]? = some ys[i] := Array.getElem?_eq_getElem (by omega)
    have hSl := Heap.lt_size hS
    refine codeAny_builtin F.entry_extend_loop ?_
    rw [Around.under_plainId F.plain_extend_loop _]
    show wpAny _ A.in1 (pyNext (.ref z) >>= _) _ _ s
    refine wpAny_bind (zp_next D Z hb hSl hx hy fun h' Z' hp hsz hk' => ?_)
    have hS' := hk' S _ (ne_lt bz) (ne_lt bTO) (ne_lt b1) (ne_lt b2) hS
    have hal : acc.size = i := by rw [hacc]; simp [hT]
    show wpAny _ A.in1 (updateSeq S (·.push (.ref s.heap.objs.size)) >>= _) _ _ _
    refine wpAny_bind ?_
    refine wpAny_updateSeq hS' rfl (wpAny_pure ⟨plainId_quiet F.plain_extend_loop _, ?_⟩) (by rw [hal]; omega) (by show (acc.push _).size ≤ sizeLine + 1; rw [Array.size_push, hal]; omega)
    have oth : ∀ b o, b ≠ S → h'.get? b = some o → (h'.update S (Obj.mapSeq (·.push (.ref s.heap.objs.size)))).get? b = some o := fun b o hb e => (Heap.get?_update_other _ _ (Ne.symm hb)).trans e
    have all : ∀ b o, b ≠ S → b ≠ z → b ≠ TO → b ≠ i1 → b ≠ i2 → s.heap.get? b = some o → (h'.update S (Obj.mapSeq (·.push (.ref s.heap.objs.size)))).get? b = some o := fun b o c0 c1 c2 c3 c4 e => oth b o c0 (hk' b o c1 c2 c3 c4 e)
    refine ih (i + 1) _ (acc.push (.ref s.heap.objs.size)) _ (Ts ++ [s.heap.objs.size]) (by omega) (by omega) (Z'.keep oth hb.2.1 hb.2.2.2.1 hb.2.2.2.2 hl1 hl2 hb.1 hb.2.2.1) (Heap.get?_update_self _ hS' rfl) (by rw [hacc]; simp) (by simp [hT]) ⟨fun T hm => ?_, ?_, fun j T x y e1 e2 e3 => ?_⟩ fun h2 acc' c' Ts' hk2 hS2 ha hT' P' => ?_
    · have hbig : ∀ T o, (h'.update S (Obj.mapSeq (·.push (.ref s.heap.objs.size)))).get? T = some o → T < (h'.update S (Obj.mapSeq (·.push (.ref s.heap.objs.size)))).objs.size := fun T o e => Heap.lt_size e
      rcases List.mem_append.mp hm with hm | hm
      · have h1 := P.lo T hm
        obtain ⟨j, hj⟩ := List.mem_iff_getElem?.mp hm
        have hj' := (List.getElem?_eq_some_iff.mp hj).1
        have hx : xs[j]? = some xs[j] := Array.getElem?_eq_getElem (by omega)
        have hy : ys[j]? = some ys[j] := Array.getElem?_eq_getElem (by omega)
        exact ⟨h1.1, hbig T _ (all T _ (Nat.ne_of_gt h1.1) (ne_gt bz h1.1) (ne_gt bTO h1.1) (ne_gt b1 h1.1) (ne_gt b2 h1.1) (P.at_ j T _ _ hj hx hy))⟩
      · rw [List.mem_singleton] at hm
        rw [hm]
        exact ⟨hSl, hbig _ _ (oth _ _ (Nat.ne_of_gt hSl) hp)⟩
    · rw [List.nodup_append]
      exact ⟨P.nd, by simp, fun a ha b hb' => by
        rw [List.mem_singleton] at hb'
        rw [hb']
        exact Nat.ne_of_lt (P.lo a ha).2⟩
    · by_cases hj : j < Ts.length
      · rw [List.getElem?_append_left hj] at e1
        have h1 := P.lo T (List.mem_of_getElem? e1)
        exact all T _ (Nat.ne_of_gt h1.1) (ne_gt bz h1.1) (ne_gt bTO h1.1) (ne_gt b1 h1.1) (ne_gt b2 h1.1) (P.at_ j T x y e1 e2 e3)
      · rw [List.getElem?_append_right (by omega)] at e1
        have hj0 : j = i := by
          by_cases h0 : j - Ts.length = 0
          · omega
          · rw [List.getElem?_eq_none (by simp; omega)] at e1; cases e1
        subst hj0
        rw [hT, Nat.sub_self] at e1
        cases e1
        rw [hx] at e2
        rw [hy] at e3
        cases e2
        cases e3
        exact oth _ _ (Nat.ne_of_gt hSl) hp
    · exact hR h2 acc' c' Ts' (fun b o c0 c1 c2 c3 c4 e => hk2 b o c0 c1 c2 c3 c4 (all b o c0 c1 c2 c3 c4 e)) hS2 ha hT' P'
/-- list(z), z a zip -/
theorem call_list_zip {Q : Value → Shared → Prop} {n : Nat} (hh : A.handled = none) (D : ZipApart z TI TO i1 i2 l1 l2) (hz : IsZip s.heap z TI TO .none) (hTI : IsPair s.heap TI (.ref i1) (.ref i2)) (hTO : IsPair s.heap TO .none .none) (h1 : s.heap.IsListIter i1 l1 0) (h2 : s.heap.IsListIter i2 l2 0) (hl1 : s.heap.IsList l1 xs) (hl2 : s.heap.IsList l2 ys) (hn : n = min xs.size ys.size) (hsz : n ≤ sizeLine)
    (hQ : ∀ h' acc' c' Ts', (∀ b o, b ≠ z → b ≠ TO → b ≠ i1 → b ≠ i2 → s.heap.get? b = some o → h'.get? b = some o) → h'.get? s.heap.objs.size = some { cls := .type "list", dict := none, data := .seq acc' c', slots := #[] } → acc' = (Ts'.map Value.ref).toArray → Ts'.length = n → Prs h' s.heap.objs.size xs ys Ts' → Q (.ref s.heap.objs.size) { s with heap := h' }) :
    wpAny (model prog w) A (call (.type "list") [.ref z]) Q E s := by
  refine callType_codes (Q₁ := fun obj s₁ => obj = .ref s.heap.objs.size ∧ s₁ = { s with heap := s.heap.push { cls := .type "list", data := .seq #[] } }) PySem.F.called_list (PySem.F.typeCall_list_1 _) PySem.F.entry_list_init
    (PySem.code_list_new _ ⟨rfl, rfl⟩) fun obj s₁ h₁ => ?_
  obtain ⟨rfl, rfl⟩ := h₁
  generalize hSS : s.heap.objs.size = S at *
  have hS : (s.heap.push { cls := .type "list", data := .seq #[] }).get? S = some { cls := .type "list", data := .seq #[] } := by rw [← hSS]; exact Heap.get?_push_size _ rfl
  have ltz := Heap.lt_size hz
  have ltI := Heap.lt_size hTI
  have ltO := Heap.lt_size hTO
  have lt1 : i1 < s.heap.objs.size := by obtain ⟨_, e, _⟩ := h1; exact Heap.lt_size e
  have lt2 : i2 < s.heap.objs.size := by obtain ⟨_, e, _⟩ := h2; exact Heap.lt_size e
  have ltl1 : l1 < s.heap.objs.size := by obtain ⟨_, e, _⟩ := hl1; exact Heap.lt_size e
  have ltl2 : l2 < s.heap.objs.size := by obtain ⟨_, e, _⟩ := hl2; exact Heap.lt_size e
  rw [hSS] at ltz ltI ltO lt1 lt2 ltl1 ltl2
  refine ⟨⟨_, hS, rfl⟩, PySem.F.args_list_init_2 _ _, ?_⟩
  show wpAny _ _ (do let old ← Builtin.List.listItems (.ref S); Builtin.List.listUpdate (.ref S) (fun _ => #[]); letGo old.toList.reverse; Builtin.List.listExtendWith (.ref S) (.ref z) .none) _ _ _
  refine wpAny_bind ?_
  unfold Builtin.List.listItems
  refine wpAny_bind (wpAny_seqItems hS rfl (wpAny_pure ?_))
  show wpAny _ _ (updateSeq S (fun _ => #[]) >>= fun _ => letGo (#[] : Array Value).toList.reverse >>= fun _ => Builtin.List.listExtendWith (.ref S) (.ref z) .none) _ _ _
  refine wpAny_bind (wpAny_updateSeq hS rfl ?_)
  have hS₂ := Heap.get?_update_self (Obj.mapSeq (fun _ => (#[] : Array Value))) hS rfl
  have oth : ∀ b o, b ≠ S → s.heap.get? b = some o → ((s.heap.push { cls := .type "list", data := .seq #[] }).update S (Obj.mapSeq (fun _ => (#[] : Array Value)))).get? b = some o :=
    fun b o hb e => (Heap.get?_update_other _ _ (Ne.symm hb)).trans (Heap.get?_push_of_some _ e)
  refine wpAny_bind (wpAny_letGo ?_)
  have Z0 : ZpAt s.heap S z TI TO i1 i2 l1 l2 xs ys 0 := ⟨hTI, h1, h2, hl1, hl2, .inl ⟨hz, _, _, hTO⟩⟩
  have Z2 := Z0.keep oth ltI lt1 lt2 ltl1 ltl2 ltz ltO
  have hz2 := oth _ _ (Nat.ne_of_lt ltz) hz
  unfold Builtin.List.listExtendWith
  refine wpAny_bind (wpAny_typeOf (T := "zip") ⟨_, hz2, rfl⟩ ?_)
  have hne : Builtin.List.listSameRef (.ref S) (.ref z) = false := by simp [Builtin.List.listSameRef, Nat.ne_of_gt ltz]
  have e2 : (Value.type "zip" == Value.type "list") = false := by decide
  have e3 : (Value.type "zip" == Value.type "tuple") = false := by decide
  simp only [hne, e2, e3, Bool.or_false, Bool.false_eq_true, if_false]
  refine wpAny_bind (wpAny_pyIter_zip hz2 ?_)
  refine wpAny_bind (wpAny_holding ?_)
  unfold Builtin.List.listLengthHint
  refine wpAny_bind (wpAny_specialOf (T := "zip") ⟨_, hz2, rfl⟩ zip_no_len ?_)
  show wpAny _ A.in1.in1 (specialOf (Value.ref z) (Str.ofString "__length_hint__") >>= _) _ _ _
  refine wpAny_bind (wpAny_specialOf (T := "zip") ⟨_, hz2, rfl⟩ zip_no_hint ?_)
  refine wpAny_pure ?_
  show wpAny _ A.in1.in1 (rule "list.extend.makes-room" >>= fun _ => Builtin.List.listTouch (.ref S) >>= fun _ =>
    again (.builtin "list.extend.loop" ⟨[.ref S, .ref z, .none], []⟩)) _ _ _
  refine wpAny_bind (wpAny_rule ?_)
  refine wpAny_bind ?_
  show wpAny _ A.in1.in1 (updateSeq S (·.push .none) >>= fun _ => updateSeq S (·.pop)) _ _ _
  refine wpAny_bind (wpAny_updateSeq hS₂ rfl ?_)
  have hS₃ := Heap.get?_update_self (Obj.mapSeq (·.push Value.none)) hS₂ rfl
  refine wpAny_updateSeq (hz := by seq_fits) hS₃ rfl ?_
  have hS₄ := Heap.get?_update_self (Obj.mapSeq (·.pop)) hS₃ rfl
  have oth2 : ∀ b o, b ≠ S → s.heap.get? b = some o → ((((s.heap.push { cls := .type "list", data := .seq #[] }).update S (Obj.mapSeq (fun _ => (#[] : Array Value)))).update S (Obj.mapSeq (·.push Value.none))).update S (Obj.mapSeq (·.pop))).get? b = some o :=
    fun b o hb e => (Heap.get?_update_other _ _ (Ne.symm hb)).trans ((Heap.get?_update_other _ _ (Ne.symm hb)).trans (oth b o hb e))
  refine wpAny_pure ⟨plainId_quiet PySem.F.plain_extend_loop _, zip_loop (A := A.in1) (show A.in1.handled = none from hh) D ⟨ltz, ltI, ltO, lt1, lt2⟩ ltl1 ltl2 hn hsz .none n 0 _ _ _ [] rfl (Nat.zero_le _) (Z0.keep oth2 ltI lt1 lt2 ltl1 ltl2 ltz ltO) hS₄ rfl rfl ⟨fun T h => absurd h (by simp), List.nodup_nil, fun j T x y e => by simp at e⟩ fun h' acc' c' Ts' hk hS' ha hT P => ?_⟩
  exact ⟨rfl, hQ h' acc' c' Ts' (fun b o c1 c2 c3 c4 e => hk b o (Nat.ne_of_lt (by rw [← hSS]; exact Heap.lt_size e)) c1 c2 c3 c4 (oth2 b o (Nat.ne_of_lt (by rw [← hSS]; exact Heap.lt_size e)) e)) hS' ha hT P⟩
end
end L2
namespace L2
open PySem PySem.Spec PyProof.Rows
/-- new tuples, tracked -/
def trkT (H : Hp) : List (Addr × List V) → Hp
  | [] => H
  | q :: r => upd (trkT H r) q.1 (.tup q.2)
theorem trkT_out {H : Hp} : ∀ {l : List (Addr × List V)} {b : Addr}, b ∉ l.map (·.1) → trkT H l b = H b
  | [], _, _ => rfl
  | q :: r, b, h => by
    rw [List.map_cons, List.mem_cons, not_or] at h
    exact (upd_ne h.1).trans (trkT_out h.2)
theorem trkT_in {H : Hp} : ∀ {l : List (Addr × List V)} {q : Addr × List V}, (l.map (·.1)).Nodup → q ∈ l → trkT H l q.1 = some (.tup q.2)
  | [], _, _, h => absurd h (by simp)
  | p :: r, q, nd, h => by
    rw [List.map_cons, List.nodup_cons] at nd
    rcases List.mem_cons.mp h with e | h
    · rw [e]; exact upd_same
    · have ne : q.1 ≠ p.1 := fun e => nd.1 (by rw [← e]; exact List.mem_map.mpr ⟨q, h, rfl⟩)
      exact (upd_ne ne).trans (trkT_in nd.2 h)
def prsV (Ts : List Addr) (xs ys : List V) : List (Addr × List V) := Ts.zip ((xs.zip ys).map fun q => [q.1, q.2])
def tLZ (K : PySem.W.Frag) (ta tb : TE) : TE := fun σ H Q => ta σ H fun x H1 => tb σ H1 fun y H2 => ∃ a b xs ys, x = .ref a ∧ y = .ref b ∧ SqL K H2 a xs ∧ SqL K H2 b ys ∧
  ∀ (Ts : List Addr) (D : Addr), Ts.length = min xs.length ys.length → Ts.Nodup → (∀ T ∈ Ts, H2 T = none) → H2 D = none → D ∉ Ts → Q (.ref D) (upd (trkT H2 (prsV Ts xs ys)) D (.lst (Ts.map V.ref)))
section
variable {X : Cx} {pins : List (Addr × Obj)} {σ : St} {H : Hp} {s : Shared}
theorem vals_refsZ : ∀ Ts : List Addr, Vals (Ts.map V.ref) (Ts.map Value.ref)
  | [] => .nil
  | T :: r => .cons rfl (vals_refsZ r)
theorem prs_fst {Ts : List Addr} {xs ys : List V} (h : Ts.length = min xs.length ys.length) : (prsV Ts xs ys).map (·.1) = Ts := by
  unfold prsV
  have : (Ts.zip ((xs.zip ys).map fun q => [q.1, q.2])).map Prod.fst = Ts := List.map_fst_zip (by simp; omega)
  exact this
/-- the list of pairs is known from now on -/
theorem inv_pairs {xs ys : List V} {its its2 : List Value} {Ts : List Addr} {D : Addr} {h' : Heap} {acc : Array Value} {c' : Nat} {t' : Nat} (I : Inv X pins σ H s) (rx : Vals xs its) (ry : Vals ys its2) (k : ∀ b o, s.heap.get? b = some o → h'.get? b = some o) (hD : h'.get? D = some { cls := .type "list", dict := none, data := .seq acc c', slots := #[] }) (ha : acc = (Ts.map Value.ref).toArray) (hl : Ts.length = min xs.length ys.length) (hz : min xs.length ys.length ≤ sizeLine)
    (hDn : s.heap.objs.size ≤ D) (P : Prs h' D its.toArray its2.toArray Ts) : Inv X pins σ (upd (trkT H (prsV Ts xs ys)) D (.lst (Ts.map V.ref))) { s with heap := h', toks := t' } := by
  have big : ∀ T ∈ Ts, s.heap.objs.size ≤ T := fun T hT => Nat.le_trans hDn (Nat.le_of_lt (P.lo T hT).1)
  have old : ∀ b o, s.heap.get? b = some o → upd (trkT H (prsV Ts xs ys)) D (.lst (Ts.map V.ref)) b = H b := fun b o e => by
    have lt := Heap.lt_size e
    have nD : b ≠ D := Nat.ne_of_lt (Nat.lt_of_lt_of_le lt hDn)
    rw [upd_ne nD]
    exact trkT_out (fun hm => by
      rw [prs_fst hl] at hm
      exact absurd (Nat.lt_of_lt_of_le lt (big b hm)) (Nat.lt_irrefl _))
  have oldH : ∀ b u, H b = some u → upd (trkT H (prsV Ts xs ys)) D (.lst (Ts.map V.ref)) b = H b := fun b u e => by
    have lt := I.hok.lt e
    have nD : b ≠ D := Nat.ne_of_lt (Nat.lt_of_lt_of_le lt hDn)
    rw [upd_ne nD]
    exact trkT_out (fun hm => by
      rw [prs_fst hl] at hm
      exact absurd (Nat.lt_of_lt_of_le lt (big b hm)) (Nat.lt_irrefl _))
  refine I.un ⟨fun b o e _ _ _ => k b o e, fun b o e _ _ _ => ⟨o.slots, k b o e⟩, fun b o e n _ => (old b o e).trans n, fun b o e _ => ⟨o, k b o e⟩, fun b xs e => (oldH b _ e).trans e, fun b o u e => (oldH b _ e).trans e, fun b ps e => ⟨#[], by rw [oldH b _ e, e]; simp⟩⟩ ?_
  intro b u e
  by_cases hb : b = D
  · subst hb
    rw [upd_same] at e
    cases e
    refine ⟨by rw [List.length_map, hl]; exact hz, _, c', vals_refsZ Ts, ?_⟩
    rw [hD, ha]
  · rw [upd_ne hb] at e
    by_cases hm : b ∈ Ts
    · obtain ⟨j, hj⟩ := List.mem_iff_getElem?.mp hm
      have hjl := (List.getElem?_eq_some_iff.mp hj).1
      have hx : xs[j]? = some xs[j] := List.getElem?_eq_getElem (by omega)
      have hy : ys[j]? = some ys[j] := List.getElem?_eq_getElem (by omega)
      obtain ⟨u1, hu1, r1⟩ := rx.get hx
      obtain ⟨u2, hu2, r2⟩ := ry.get hy
      have hp := P.at_ j b u1 u2 hj (by simpa using hu1) (by simpa using hu2)
      have hmem : (b, [xs[j], ys[j]]) ∈ prsV Ts xs ys := by
        refine List.mem_iff_getElem?.mpr ⟨j, ?_⟩
        unfold prsV
        rw [List.getElem?_zip_eq_some]
        refine ⟨hj, ?_⟩
        rw [List.getElem?_map, List.getElem?_zip_eq_some (z := (xs[j], ys[j])) |>.mpr ⟨hx, hy⟩]
        rfl
      rw [trkT_in (by rw [prs_fst hl]; exact P.nd) hmem] at e
      cases e
      exact ⟨by show 2 ≤ sizeLine; decide, [u1, u2], .cons r1 (.cons r2 .nil), ⟨_, hp, rfl, _, rfl⟩⟩
    · rw [trkT_out (by rw [prs_fst hl]; exact hm)] at e
      exact (I.hok b u e).stay (fun d v _ q => k d v q) (fun d q => (oldH d _ q).trans q) fun d xs q => (oldH d _ q).trans q
/-- list(zip(a, b)) -/
theorem pe_listZip {e1 e2 : Expr} {ta tb : TE} {p p2 pos pos2 : Pos} (hc : X.calm = true) (hg : Gl X "list") (hm : X.mg "list" = none) (hg2 : Gl X "zip") (hm2 : X.mg "zip" = none) (ha : PE X e1 ta) (hb : PE X e2 tb)
    (na : starEach [e1, e2] X.env = (false, eval e1 X.env) :: starEach [e2] X.env := by rfl) (nb : starEach [e2] X.env = (false, eval e2 X.env) :: starEach [] X.env := by rfl) (hpl : (backTo pos2 (starEach [e2] X.env)).any (·.1) = false := by rfl) :
    PE X (.Call (.Name "list" p) [.Call (.Name "zip" p2) [e1, e2] [] pos2] [] pos) (tLZ X.K ta tb) := by
  refine ⟨fun pins s σ H Q I h => ?_⟩
  have n0 : starEach [.Call (.Name "zip" p2) [e1, e2] [] pos2] X.env = (false, eval (.Call (.Name "zip" p2) [e1, e2] [] pos2) X.env) :: starEach [] X.env := rfl
  refine Call_ (ld_blt I hg hm PyProof.Rows.boot_list (PyProof.Rows.callWith_type1 (args_cons ?_ n0) n0))
  refine Call_ (ld_blt I hg2 hm2 PyProof.Rows.boot_zip (PyProof.Rows.callWith_type1 (args_cons (thn (ha.run pins s σ H _ I h) fun v s1 ⟨x, H1, I1, r1, q1⟩ => one_arg hb I1 q1 (fun u s2 y H2 I2 r2 q => ?_) nb) na) na hpl))
  obtain ⟨a, b, xs, ys, rfl, rfl, hqx, hqy, q⟩ := q
  obtain rfl : v = Value.ref a := r1
  obtain rfl : u = Value.ref b := r2
  obtain ⟨its, rv, pl, hzx⟩ := I2.list hqx
  obtain ⟨its2, rv2, pl2, hzy⟩ := I2.list hqy
  have la : a < s2.heap.objs.size := pl.lt
  have lb : b < s2.heap.objs.size := pl2.lt
  have lx := rv.length
  have ly := rv2.length
  refine call_zip_2 pl.isList pl2.isList fun h' hz hTI hTO h1 h2 hsz hk => ?_
  refine args_nil ?_
  have D := PySem.W.ktu_apart s2.heap.objs.size a b la lb
  refine call_list_zip (n := min its.toArray.size its2.toArray.size) (I2.ok.hd hc) D hz hTI hTO h1 h2 (pl.isList.at fun o e => hk _ o e) (pl2.isList.at fun o e => hk _ o e) rfl (by simp; omega) fun h3 acc' c' Ts' hk3 hS ha' hT P => ?_
  have kk : ∀ b o, s2.heap.get? b = some o → h3.get? b = some o := fun b o e => by
    have lt := Heap.lt_size e
    exact hk3 b o (Nat.ne_of_lt (Nat.lt_of_lt_of_le lt (Nat.le_add_right _ _))) (Nat.ne_of_lt (Nat.lt_of_lt_of_le lt (Nat.le_add_right _ _))) (Nat.ne_of_lt lt) (Nat.ne_of_lt (Nat.lt_of_lt_of_le lt (Nat.le_add_right _ _))) (hk b o e)
  have hge : s2.heap.objs.size ≤ h'.objs.size := by rw [hsz]; exact Nat.le_add_right _ _
  have hl : Ts'.length = min xs.length ys.length := by rw [hT, lx, ly]; simp
  have I3 := inv_pairs (t' := s2.toks) (xs := xs) (ys := ys) I2 rv rv2 kk hS ha' hl (by omega) hge P
  refine ⟨.ref h'.objs.size, _, I3, rfl, q Ts' h'.objs.size hl P.nd (fun T hT => I2.hok.fresh (Nat.le_trans hge (Nat.le_of_lt (P.lo T hT).1))) (I2.hok.fresh hge) fun hm => Nat.lt_irrefl _ (P.lo _ hm).1⟩
end
end L2

set_option maxHeartbeats 1000000
/-! MIgz: zip of a text and a list. -/
namespace MI
open PySem PySem.Spec PyProof.Rows L2
variable [Tabs] [Cels]
/-- the text z and the list at b, turn by turn, in new pairs -/
def ItzS (K : PySem.W.Frag) (z : Str) (b : Addr) : L2.It :=
  ⟨fun i H => ∃ (ys : List V) (c : Nat) (y : V), SqL K H b ys ∧ z.cps[i]? = some c ∧ ys[i]? = some y,
    fun i H v H' => ∃ T c y, v = .ref T ∧ H T = none ∧ H' = upd H T (.tup [.str ⟨#[c]⟩, y]) ∧ z.cps[i]? = some c ∧ ∀ ys, SqL K H b ys → ys[i]? = some y,
    fun i H => ∃ ys : List V, SqL K H b ys ∧ (z.cps.size ≤ i ∨ ys.length ≤ i)⟩
abbrev StZ (z TI TO i1 i2 : Addr) (x : Str) (t : Tok) (b : Addr) (i : Nat) (h : Heap) : Prop :=
  IsZip h z TI TO .none ∧ IsTupOf2 h TI (.ref i1) (.ref i2) ∧ (∃ a1 a2, IsTupOf2 h TO a1 a2) ∧ h.IsStrIter i1 (strIterType x) x t i ∧ h.IsListIter i2 b i
/-- a text's iterator at its end -/
theorem draws_endS {prog : Program} {w : World} {A : Around} (hh : A.handled = none) (it : Addr) (x : Str) (t : Tok) {i : Nat} (hx : x.cps[i]? = none) :
    Draws prog w A it [it] i (fun _ _ => False) (fun j h => j = i ∧ h.IsStrIter it (strIterType x) x t i) where
  live := fun _ _ st => let ⟨_, o, ho, _⟩ := st; ⟨o, ho⟩
  frame := fun _ _ _ st hk => let ⟨e, o, ho, r⟩ := st; ⟨e, o, hk it (by simp) o ho, r⟩
  item := fun j s Q E hj st _ => absurd st.1 (by omega)
  done := fun s Q E st hE => by
    have st := st.2
    cases ha : x.cps.all (· < 128)
    · simp only [strIterType, ha, Bool.false_eq_true, if_false] at st
      exact wpAny_nextOf_wide_end hh st hx hE
    · simp only [strIterType, ha, if_true] at st
      exact wpAny_nextOf_ascii_end hh st hx hE
/-- .. a list's -/
theorem draws_endL {prog : Program} {w : World} {A : Around} (hh : A.handled = none) (it l : Addr) (hne : l ≠ it) (items : Array Value) {i : Nat} (hx : items[i]? = none) :
    Draws prog w A it [it, l] i (fun _ _ => False) (fun j h => j = i ∧ h.IsListIter it l i ∧ h.IsList l items) where
  live := fun _ _ st => let ⟨o, ho, _⟩ := st.2.1; ⟨o, ho⟩
  frame := fun _ _ _ st hk => ⟨st.1, st.2.1.at fun o e => hk it (by simp) o e, st.2.2.at fun o e => hk l (by simp) o e⟩
  item := fun j s Q E hj st _ => absurd st.1 (by omega)
  done := fun s Q E st hE => wpAny_nextOf_list_end hh st.2.1 st.2.2 hx hE
structure Apart (z TI TO i1 i2 b : Addr) : Prop where
  s : ZipSep2 z TI TO i1 i2 [i1] [i2, b]
  bi : b ≠ i2
theorem turn_zipS {P : Program} {w : World} {K : PySem.W.Frag} {elts : List Expr} {kk : Nat} {tpos : Pos} {b z TI TO i1 i2 : Addr} {x : Str} {t : Tok} (D : Apart z TI TO i1 i2 b) :
    Turn P w K (.Tuple elts kk tpos) (ItzS K x b) [z, TI, TO, i1, i2] z (StZ z TI TO i1 i2 x t b) where
  mem := by simp
  obj := fun i h st c hc => by
    obtain ⟨hz, hTI, ⟨x, y, hTO⟩, ⟨o1, e1, _, d1⟩, ⟨o2, e2, _, d2⟩⟩ := st
    have e' : c = z ∨ c = TI ∨ c = TO ∨ c = i1 ∨ c = i2 := by simpa using hc
    rcases e' with q | q | q | q | q
    · rw [q]; exact ⟨_, hz, fun v q => nomatch q⟩
    · rw [q]; exact ⟨_, hTI, fun v q => nomatch q⟩
    · rw [q]; exact ⟨_, hTO, fun v q => nomatch q⟩
    · rw [q]; exact ⟨o1, e1, fun v q => by rw [d1] at q; cases q⟩
    · rw [q]; exact ⟨o2, e2, fun v q => by rw [d2] at q; cases q⟩
  keep := fun i h h' st k => by
    obtain ⟨hz, hTI, ⟨x, y, hTO⟩, ⟨o1, e1, r1⟩, h2⟩ := st
    exact ⟨k z (by simp) _ hz, k TI (by simp) _ hTI, ⟨x, y, k TO (by simp) _ hTO⟩, ⟨o1, k i1 (by simp) _ e1, r1⟩, h2.at fun o q => k i2 (by simp) o q⟩
  item := by
    intro X hP hw hK hc i pins s σ H E I hf st hg
    subst hP hw hK
    obtain ⟨hz, hTI, ⟨x0, y0, hTO⟩, h1, h2⟩ := st
    obtain ⟨ys, c, y, hqy, hx, hy⟩ := hg
    obtain ⟨its2, rv2, p2, _⟩ := I.list hqy
    obtain ⟨u2, hu2, ru2⟩ := rv2.get hy
    have hzl : z < s.heap.objs.size := Heap.lt_size hz
    have D1 := Draws.text (prog := X.prog) (w := X.w) (A := X.A.in1) (I.ok.hd hc) i1 x t
    have D2 := Draws.list (prog := X.prog) (w := X.w) (A := X.A.in1) (I.ok.hd hc) i2 b D.bi its2.toArray
    have l1 : i < x.cps.size := by
      rcases Nat.lt_or_ge i x.cps.size with h | h
      · exact h
      · rw [Array.getElem?_eq_none h] at hx; cases hx
    have l2 : i < its2.toArray.size := by
      rcases Nat.lt_or_ge i its2.toArray.size with h | h
      · exact h
      · rw [List.getElem?_eq_none (by simpa using h)] at hu2; cases hu2
    refine wpAny_pyNext_zipD2_item D.s D1 D2 hz hTI hTO h1 ⟨h2, p2.isList⟩ l1 l2 fun x1 x2 h' tk y1 y2 z' TO' h1' h2' hT hsz hk => ?_
    obtain ⟨c', t', y1, rfl⟩ := y1
    rw [hx] at y1
    cases y1
    have y2 : its2.toArray[i]? = some x2 := y2
    have e2 : x2 = u2 := by
      have : its2[i]? = some x2 := by simpa using y2
      rw [hu2] at this
      exact (Option.some.inj this).symm
    subst e2
    refine ⟨_, rfl, wpAny_letOwnedTupleGo_zip (s := { s with heap := h', toks := tk }) z' fun h'' z'' sb => ?_⟩
    have hT2 : h''.get? s.heap.objs.size = some { cls := .type "tuple", data := .seq #[.str ⟨#[c]⟩ t', x2] } := (sb.2 _ (Nat.ne_of_gt hzl)).trans hT
    have new : ObjOk X.prog X.w (upd H s.heap.objs.size (.tup [.str ⟨#[c]⟩, y])) h'' s.heap.objs.size (.tup [.str ⟨#[c]⟩, y]) :=
      ⟨by show 2 ≤ sizeLine; decide, [.str ⟨#[c]⟩ t', x2], .cons ⟨t', rfl⟩ (.cons ru2 .nil), ⟨_, hT2, rfl, _, rfl⟩⟩
    have I1 : Inv X pins σ (upd H s.heap.objs.size (.tup [.str ⟨#[c]⟩, y])) { s with heap := h'', toks := tk } :=
      I.turnedNew (t' := tk) (ch := [z, TI, TO, i1, i2]) (fun c o hb q => (sb.2 c (fun q' => hb (by simp [q']))).trans (hk c o (fun q' => hb (by simp [q'])) (fun q' => hb (by simp [q'])) (fun q' => hb (by simp [q'])) (fun q' => hb (by simp [q'])) q)) hf (Nat.le_refl _) new
    refine ⟨.ref s.heap.objs.size, _, I1, rfl, ⟨_, c, y, rfl, I.hok.fresh (Nat.le_refl _), rfl, hx, fun l hl => by rw [I.list_inj hl hqy]; exact hy⟩, ⟨z'', ?_, ⟨.str ⟨#[c]⟩ t', x2, ?_⟩, ?_, ?_⟩, fun c hcm => ?_⟩
    · exact (sb.2 _ D.s.TIz).trans (hk _ _ D.s.TIz D.s.TITO D.s.TIi1 D.s.TIi2 hTI)
    · exact (sb.2 _ D.s.TOz).trans TO'
    · obtain ⟨o, e, r⟩ := h1'
      exact ⟨o, (sb.2 _ (Ne.symm D.s.zi1)).trans e, r⟩
    · exact h2'.1.at fun o q => (sb.2 _ (Ne.symm D.s.zi2)).trans q
    · have hlt : c < s.heap.objs.size := by
        have e' : c = z ∨ c = TI ∨ c = TO ∨ c = i1 ∨ c = i2 := by simpa using hcm
        rcases e' with q | q | q | q | q
        · rw [q]; exact hzl
        · rw [q]; exact Heap.lt_size hTI
        · rw [q]; exact Heap.lt_size hTO
        · rw [q]; obtain ⟨_, e1, _⟩ := h1; exact Heap.lt_size e1
        · rw [q]; obtain ⟨_, e2, _⟩ := h2; exact Heap.lt_size e2
      rw [upd_ne (Nat.ne_of_lt hlt)]
      exact (hf c hcm).1
  done := by
    intro X hP hw hK hc i pins s σ H E I hf st hg
    subst hP hw hK
    obtain ⟨hz, hTI, ⟨x0, y0, hTO⟩, h1, h2⟩ := st
    obtain ⟨ys, hqy, hend⟩ := hg
    obtain ⟨its2, rv2, p2, _⟩ := I.list hqy
    have l2 := rv2.length
    have fin : ∀ {n1 n2 : Nat} {P1 P2 : Nat → Value → Prop} {St1 St2 : Nat → Heap → Prop} (D1 : Draws X.prog X.w X.A.in1 i1 [i1] n1 P1 St1) (D2 : Draws X.prog X.w X.A.in1 i2 [i2, b] n2 P2 St2), St1 i s.heap → St2 i s.heap → i ≤ n1 → i ≤ n2 → (i = n1 ∨ i = n2) →
        wpAny (model X.prog X.w) X.A (pyNext (.ref z)) (fun r s1 => r = none ∧ Inv X pins σ H s1) E s := fun D1 D2 s1 s2 e1 e2 e3 =>
      wpAny_pyNext_zipD2_end D.s D1 D2 hz hTI hTO s1 s2 e1 e2 e3 fun h' tk hk => ⟨rfl, I.turnedL (t' := tk) (ch := [z, TI, TO, i1, i2]) (fun c o hb q =>
        hk c o (fun q' => hb (by simp [q'])) (fun q' => hb (by simp [q'])) (fun q' => hb (by simp [q'])) (fun q' => hb (by simp [q'])) q) hf⟩
    have hd : X.A.in1.handled = none := I.ok.hd hc
    have T1 := Draws.text (prog := X.prog) (w := X.w) (A := X.A.in1) hd i1 x t
    have L1 := Draws.list (prog := X.prog) (w := X.w) (A := X.A.in1) hd i2 b D.bi its2.toArray
    by_cases c1 : i < x.cps.size
    · have c2 : its2.toArray[i]? = none := by
        rcases hend with h | h
        · omega
        · exact Array.getElem?_eq_none (by rw [List.size_toArray, ← l2]; exact h)
      exact fin T1 (draws_endL (prog := X.prog) (w := X.w) (A := X.A.in1) hd i2 b D.bi its2.toArray c2) h1 ⟨rfl, h2, p2.isList⟩ (Nat.le_of_lt c1) (Nat.le_refl _) (.inr rfl)
    · have c1' : x.cps[i]? = none := Array.getElem?_eq_none (by omega)
      have T2 := draws_endS (prog := X.prog) (w := X.w) (A := X.A.in1) hd i1 x t c1'
      by_cases c2 : i < its2.toArray.size
      · exact fin T2 L1 ⟨rfl, h1⟩ ⟨h2, p2.isList⟩ (Nat.le_refl _) (Nat.le_of_lt c2) (.inl rfl)
      · exact fin T2 (draws_endL (prog := X.prog) (w := X.w) (A := X.A.in1) hd i2 b D.bi its2.toArray (Array.getElem?_eq_none (Nat.le_of_not_lt c2))) ⟨rfl, h1⟩ ⟨rfl, h2, p2.isList⟩ (Nat.le_refl _) (Nat.le_refl _) (.inl rfl)
  self := fun A i s Q E st h => wpAny_pyIter_zip st.1 h
theorem apart_new (n b : Nat) (hb : b < n) : Apart (n + 4) (n + 2) (n + 3) n (n + 1) b := by
  refine ⟨⟨?_, ?_, ?_, ?_, ?_, ?_, ?_, ?_, ?_, ?_, ?_, ?_, ?_⟩, ?_⟩
  all_goals first | (simp; done) | exact Nat.ne_of_gt (by omega) | exact Nat.ne_of_lt (by omega) | (simp only [List.mem_cons, List.not_mem_nil, or_false, not_or]; first | exact Nat.ne_of_gt (by omega) | exact Nat.ne_of_lt (by omega) | (refine ⟨?_, ?_⟩ <;> first | exact Nat.ne_of_gt (by omega) | exact Nat.ne_of_lt (by omega)))
def iZipS (K : PySem.W.Frag) (ta : TA) : TI := fun σ H R => ta σ H fun vs H1 => ∃ (z : Str) (b : Addr) (ys : List V), vs = [.str z, .ref b] ∧ SqL K H1 b ys ∧ R (ItzS K z b) H1
theorem pi_zipS {X : Cx} {e e2 : Expr} {ta : TA} {p pos tpos : Pos} {elts : List Expr} {kk : Nat} (hg : Gl X "zip") (hm : X.mg "zip" = none) (ha : PA X [e, e2] ta)
    (hs : starEach [e, e2] X.env = (false, eval e X.env) :: starEach [e2] X.env := by rfl) (hpl : (backTo pos (starEach [e2] X.env)).any (·.1) = false := by rfl) :
    PI X (.Tuple elts kk tpos) (.Call (.Name "zip" p) [e, e2] [] pos) (iZipS X.K ta) := by
  refine ⟨fun pins s σ H R I h => ?_⟩
  refine Call_ (ld_blt I hg hm PyProof.Rows.boot_zip (PyProof.Rows.callWith_type1 (thn (ha.run pos pins s σ H _ I h) fun us s1 ⟨vs, H1, I1, r1, q1⟩ => ?_) hs hpl))
  obtain ⟨z, b, ys, ex, hq, q1⟩ := q1
  subst ex
  cases r1 with
  | cons r rr =>
    cases rr with
    | cons r' rr =>
      cases rr
      obtain ⟨t, rfl⟩ := r
      cases r'
      obtain ⟨its2, rv2, p2, _⟩ := I1.list hq
      have fresh5 : ∀ c, c ∈ [s1.heap.objs.size + 4, s1.heap.objs.size + 2, s1.heap.objs.size + 3, s1.heap.objs.size, s1.heap.objs.size + 1] → FpOk X pins H1 c := fun c hcm => by
        have hle : s1.heap.objs.size ≤ c := by
          simp only [List.mem_cons, List.not_mem_nil, or_false] at hcm
          omega
        exact I1.fpOk hle (I1.hok.fresh hle)
      refine zip_begins2 (begins_text z t) (begins_list b its2.toArray) trivial p2.isList fun h' hz hTI hTO g1 g2 hsz hk => wpAny_pyIter_zip hz ?_
      have I2 : Inv X pins σ H1 { s1 with heap := h' } := I1.kept (t' := s1.toks) hk
      have hb := p2.lt
      exact ⟨s1.heap.objs.size + 4, [s1.heap.objs.size + 4, s1.heap.objs.size + 2, s1.heap.objs.size + 3, s1.heap.objs.size, s1.heap.objs.size + 1], _, _, H1, rfl, I2, turn_zipS (x := z) (t := t) (apart_new s1.heap.objs.size b hb), ⟨hz, hTI, ⟨_, _, hTO⟩, ⟨_, g1, rfl, rfl⟩, ⟨_, g2, rfl, rfl⟩⟩, fresh5, q1⟩
theorem wk_zipS {K : PySem.W.Frag} {mg : Str → Option Value} {φ0 : Lo} {S0 : Sto} {H0 : Hp} {z : Str} {b : Addr} {ws : List V} {k : List D} (q' : LA K φ0 S0 H0 b ws) (t' : RVs K φ0 S0 H0 k ws) :
    Wk K mg (ItzS K z b) (((z.cps.toList.map fun c => D.str ⟨#[c]⟩).zip k).map fun p => D.tup [p.1, p.2]) φ0 S0 H0 where
  go := fun i φ S H x rs hi => by
    have q2 := (q'.mo x).sq
    have t2 := RVs.mo x _ _ t'
    simp only [List.length_map, List.length_zip, Array.length_toList] at hi
    have h1 : i < z.cps.size := by omega
    have h2 : i < k.length := by omega
    obtain ⟨v2, e2, r2⟩ := t2.get (List.getElem?_eq_getElem h2)
    refine ⟨⟨ws, z.cps[i], v2, q2, Array.getElem?_eq_getElem h1, e2⟩, fun v H' y => ?_⟩
    obtain ⟨T, c, y2, rfl, hT, rfl, f1, f2⟩ := y
    have g2 := f2 ws q2
    rw [e2] at g2; cases g2
    have g1 : (z.cps.toList.map fun c => D.str ⟨#[c]⟩)[i]? = some (.str ⟨#[c]⟩) := by rw [List.getElem?_map, Array.getElem?_toList, f1]; rfl
    exact ⟨_, zip_get g1 (List.getElem?_eq_getElem h2), Ext.new rs hT, fun b hb => upd_ne fun z => hb (z ▸ hT), rs.new hT, rv_tup rs hT (RVs.cons rv_str (RVs.cons r2 .nil))⟩
  stop := fun i φ S H x rs hi => by
    simp only [List.length_map, List.length_zip, Array.length_toList] at hi
    exact ⟨ws, (q'.mo x).sq, by rw [t'.length]; omega⟩
end MI

set_option maxHeartbeats 4000000
/-! MIx: exceptions: calls where one is handled, try with the exception held as an object. -/
namespace MI
open PySem PySem.Spec PyProof.Rows L2 L2H
variable [Tabs] [Cels]
/-! ### a def where an exception is handled -/
structure FnW (P : Program) (w : World) (K : PySem.W.Frag) (mg : Str → Option Value) (base : Heap) (k : Nat) (f : Addr) (fd : FuncData) (ps : List Str) (sp : Sp) : Prop where
  len : ∀ vs H Q E, sp vs H Q E → vs.length = ps.length
  run : ∀ (A : Around) (outer : List PySem.Env) (s : Shared) (H : Hp) (args : Args) (us : List Value) (vs : List V) (Q : VK) (E : XK), RoomH k A → Env0 P w K mg base A outer s H → BindsTo s fd args (ps.zip us) → Vals vs us → sp vs H Q E →
    codeAny (model P w) A (.call (.ref f) args) (CR CX0 outer P w H s Q E) s
def cxW (P : Program) (w : World) (K : PySem.W.Frag) (mg : Str → Option Value) (base : Heap) (N : List Str) (qual : Str) (scope : Scope) (f : Addr) (cd : Value) (A : Around) (outer : List PySem.Env) (s : Shared) (H : Hp) (E : XK) : Cx :=
  { cxOf CX0 P w K mg base N qual scope f cd A outer s H E with calm := false }
theorem inv_startW {P : Program} {w : World} {K : PySem.W.Frag} {mg : Str → Option Value} {base : Heap} {N ps : List Str} {qual : Str} {scope : Scope} {f : Addr} {cd : Value} {A : Around} {outer : List PySem.Env} {s s1 : Shared} {H : Hp} {E : XK} {us : List Value} {vs : List V}
    (S : FnScope N ps scope) (e0 : Env0 P w K mg base A outer s H) (hl : vs.length = ps.length) (r : Vals vs us)
    (x : InCallC s s.heap.objs.size (bindL (envOfC qual scope s.heap.objs.size f cd).kindOf (ps.zip us) fun _ => none) (cellsFrom (s.heap.objs.size + 1) scope.names []) (bindC (envOfC qual scope s.heap.objs.size f cd).kindOf (ps.zip us) fun _ => none) s1) :
    Inv (cxW P w K mg base N qual scope f cd A outer s H E) [] (L2.start N vs) H s1 := by
  have hpl : ps.length ≤ N.length := by have := congrArg List.length S.pre; rw [List.length_take] at this; omega
  obtain ⟨h1, tk, rfl, hk⟩ := x.done
  have noA : ∀ b : Addr, b ∉ (cxW P w K mg base N qual scope f cd A outer s H E).ex := fun b z => absurd (show b ∈ ([] : List Addr) from z) (by simp)
  refine ⟨⟨e0.mod, S.kind, rfl, rfl, Nat.le_refl _, fun y z c h1 h2 => ?_, fun y hy => ?_, fun y c _ h => ?_, (fun z => Bool.noConfusion (show false = true from z)), Around.frames_deeper e0.frames, .inr ⟨rfl, rfl⟩, fun b z => absurd z (noA b), e0.bs, e0.bsz, fun b _ _ => noA b, fun b z => absurd z (noA b), e0.funs, e0.frf⟩,
    rfl, e0.bare, Un.kept hk, ⟨_, x.toInCall.ns, fun i y v h1 h2 h3 => ?_⟩, fun y c h => ⟨_, x.cell y c h⟩, e0.hok.fresh (Nat.le_refl _), fun y c h => ?_, fun q hq => ?_, e0.hok.kept hk, ?_⟩
  · exact name_of_addr x.apart (PySem.mem_of_lookup h1) (PySem.mem_of_lookup h2)
  · have hy : scope.names.lookup y = some .cell ∨ scope.names.lookup y = some .free := hy
    rcases hy with hy | hy
    · exact cell_has hy
    · exact absurd rfl (S.nofree _ (PySem.mem_of_lookup hy))
  · exact Nat.le_of_lt (x.above y c (PySem.mem_of_lookup h))
  · have hi : i < vs.length := by
      unfold L2.start at h2
      by_cases hi : i < vs.length
      · exact hi
      · rw [List.getElem?_append_right (by simpa using hi)] at h2
        rw [List.getElem?_replicate] at h2
        split at h2 <;> cases h2
    have ha : vs[i]? = some v := by
      unfold L2.start at h2
      rw [List.getElem?_append_left (by simpa using hi), List.getElem?_map] at h2
      cases e : vs[i]? with
      | none => rw [e] at h2; cases h2
      | some a => rw [e] at h2; cases h2; rfl
    obtain ⟨u, hu, rv⟩ := r.get ha
    have hp : ps[i]? = some y := by
      rw [← S.pre, List.getElem?_take_of_lt (by omega)]; exact h1
    have ndP : ps.Nodup := by rw [← S.pre]; exact S.nd.sublist (List.take_sublist _ _)
    refine ⟨u, rv, ?_⟩
    rcases S.par y (List.mem_of_getElem? hp) with k | k
    · exact .inl ⟨k, bindL_get ndP hp hu k⟩
    · obtain ⟨c, e⟩ := cell_has (n := s.heap.objs.size + 1) k
      refine .inr ⟨.inl k, c, e, ?_⟩
      have q := x.cell y c e
      rw [bindC_get ndP hp hu (by show scope.names.lookup y ≠ _; rw [k]; decide)] at q
      exact q
  · exact e0.hok.fresh (Nat.le_of_lt (x.above y c (PySem.mem_of_lookup h)))
  · exact absurd (show q ∈ ([] : List (Addr × Obj)) from hq) (by simp)
  · unfold L2.start
    show _ = N.length
    rw [List.length_append, List.length_map, List.length_replicate]
    omega
theorem fn_ofW {P : Program} {w : World} {K : PySem.W.Frag} {mg : Str → Option Value} {base : Heap} {k : Nat} {f : Addr} {name qual : Str} {params : Arguments} {body : List Stmt} {scope : Scope} {dV kV doc pm cdv ct oc : Value} {an od : Option Addr}
    {osl : Array (Option Value)} {N ps : List Str} {sp : Sp} (lk : K.lookup f = some ⟨oc, od, .func (PySem.W.fnOf name qual params body scope dV kV doc pm an cdv ct), osl⟩) (hcd : PySem.W.codeIn K cdv qual = true) (S : FnScope N ps scope)
    (len : ∀ vs H Q E, sp vs H Q E → vs.length = ps.length)
    (hbody : ∀ (A : Around) (outer : List PySem.Env) (s : Shared) (H : Hp) (vs : List V) (Q : VK) (E : XK), RoomH k (A.deeper (envOfC qual scope s.heap.objs.size f cdv)) → sp vs H Q E →
      ∃ t, PSs (cxW P w K mg base N qual scope f cdv A outer s H E) body t ∧ t { nx := fun _ H' => Q .non H', rt := Q } (L2.start N vs) H) :
    FnW P w K mg base (k + 1) f (PySem.W.fnOf name qual params body scope dV kV doc pm an cdv ct) ps sp := by
  refine ⟨len, fun A outer s H args us vs Q E hr e0 hb r hsp => ?_⟩
  have hl := len _ _ _ _ hsp
  have KX : K.In s.heap := e0.mod.kin.keeps fun b o e => (e0.bs b o e).1
  have lim : s.heap.NoLimit := e0.mod.nolimit.keeps fun b o e => (e0.bs b o e).1
  have hkind : ∀ y ∈ ps.zip us, scope.names.lookup y.1 = some .local ∨ (scope.names.lookup y.1 = some .cell ∧ ((cellsFrom (s.heap.objs.size + 1) scope.names []).lookup y.1).isSome = true) := fun ⟨n, v⟩ hy => by
    rcases S.par n (List.of_mem_zip hy).1 with q | q
    · exact .inl q
    · exact .inr ⟨q, PySem.W.cellsFrom_some _ _ _ (.inl q)⟩
  refine codeAny_call_function hr.depth (KX _ _ lk) rfl S.co S.gen rfl (PySem.W.codeRec_of KX hcd) (hb _ _ _ _ ?_)
  refine wpAny_newFunctionEnv_cells S.kind hkind fun env he s1 x => ?_
  subst he
  refine ⟨lim.keeps x.toInCall.keep, codeAny_func ?_⟩
  obtain ⟨t, ht, hq⟩ := hbody A outer s H vs Q E (hr.deeper _) hsp
  have I : Inv (cxW P w K mg base N qual scope f cdv A outer s H E) [] (L2.start N vs) H s1 := inv_startW S e0 hl r x
  refine wpAny_mono (ht.run [] s1 (L2.start N vs) H _ I hq) (fun fl s' hs => ?_) fun e s' hs => hs
  have fin : ∀ {σ' : L2.St} {H' : Hp} {v : V} {u : Value}, Inv (cxW P w K mg base N qual scope f cdv A outer s H E) [] σ' H' s' → RelV v u → Q v H' → CE outer P w H s Q u s' :=
    fun {σ' H' v u} J rv q => ⟨v, H', J.os, J.bare, J.base, J.hok, rv, q⟩
  cases fl with
  | ret u =>
    obtain ⟨v, σ', H', J, rv, q⟩ := hs
    exact fin J rv q
  | next =>
    obtain ⟨σ', H', J, q⟩ := hs
    exact fin (v := V.non) (u := Value.none) J rfl q
  | brk =>
    obtain ⟨_, _, _, q⟩ := hs
    exact False.elim q
  | cont =>
    obtain ⟨_, _, _, q⟩ := hs
    exact False.elim q


section
variable {X : Cx} {CX : CXT} {k : Nat} {f C : Addr} {fd : FuncData} {ps : List Str} {sp : Sp} {x m : Str} {q pos apos : Pos} {e o : Expr} {es : List Expr} {ta : TE} {t : TA}
theorem run_fnW {pins : List (Addr × Obj)} {σ : L2.St} {H : Hp} {s : Shared} {Q : VK} {us : List Value} {vs : List V} (F : FnW X.prog X.w X.K X.mg X.base k f fd ps sp) (hr : RoomH k X.A) (hb : Binds X.K fd ps [])
    (I : Inv X pins σ H s) (r : Vals vs us) (h : sp vs H Q E0) : wpAny (model X.prog X.w) X.A (PySem.call (.ref f) us) (EP X pins σ Q) X.xe s := by
  have hl : us.length = ps.length := by rw [← r.length]; exact F.len _ _ _ _ h
  have b := hb s us I.kIn (by rw [List.append_nil]; exact hl)
  rw [List.append_nil] at b
  refine wpAny_call (codeAny_mono (F.run X.A X.stack s H ⟨us, []⟩ us vs Q E0 hr I.env0 b r h) fun r s' hq => ?_)
  cases r with
  | error e => exact False.elim hq
  | ok fl =>
    cases fl with
    | ret u => exact I.after hq
    | next => exact False.elim hq
    | brk => exact False.elim hq
    | cont => exact False.elim hq
theorem pe_callW (F : FnW X.prog X.w X.K X.mg X.base k f fd ps sp) (hr : RoomH k X.A) (hg : Gl X x) (hm : X.mg x = some (.ref f)) (hk : PySem.W.keepIn X.K (.ref f) = true) (hb : Binds X.K fd ps [])
    (ha : PA X (e :: es) t) (hdb : (x == ("__debug__" : Str)) = false := by decide) (he : starEach (e :: es) X.env = (false, eval e X.env) :: starEach es X.env := by rfl) (hpl : (backTo pos (starEach es X.env)).any (·.1) = false := by rfl) :
    PE X (.Call (.Name x q) (e :: es) [] pos) (fun σ H Q => t σ H fun vs H1 => sp vs H1 Q E0) := by
  refine ⟨fun pins s σ H Q I h => ?_⟩
  refine wpAny_Call_Name_kw (ld_glob I hg hm ?_ hdb)
  refine PySem.W.callWith_K (h₀ := X.base) I.ok.mod.kin hk (thn (ha.run pos pins s σ H _ I h) fun us s1 ⟨vs, H1, I1, r, q⟩ => ⟨I1.kIn, ?_⟩) he hpl
  exact run_fnW F hr hb I1 r q
/-! ### making, where __init__ may raise -/
theorem run_makeS {E : L2.St → XK} {pins : List (Addr × Obj)} {σ : L2.St} {H : Hp} {s : Shared} {Q : VK} {us : List Value} {vs : List V} (M : Mk X.K C f) (F : FnOk X.prog X.w X.K X.mg X.base CX k f fd ps sp) (hr : Room (k + 1) X.A) (hb : Binds X.K fd ps [])
    (hx : PassesAt CX X σ (E σ)) (I : Inv X pins σ H s) (r : Vals vs us)
    (h : ∀ x dx, H x = none → H dx = none → dx ≠ x → sp (.ref x :: vs) (upd (upd H dx (.own x)) x (.ins C dx [])) (fun v H2 => v = .non ∧ Q (.ref x) H2) (E σ)) :
    wpAny (model X.prog X.w) X.A (PySem.call (.ref C) us) (EP X pins σ Q) X.xe s := by
  have hq := h (s.heap.objs.size + 1) s.heap.objs.size (I.hok.fresh (Nat.le_succ _)) (I.hok.fresh (Nat.le_refl _)) (Nat.ne_of_lt (Nat.lt_succ_self _))
  have I2 := Inv.made (C := C) I
  have r2 : Vals (V.ref (s.heap.objs.size + 1) :: vs) (Value.ref (s.heap.objs.size + 1) :: us) := .cons rfl r
  have hl : (Value.ref (s.heap.objs.size + 1) :: us).length = ps.length := by
    have e := r2.length
    rw [F.len _ _ _ _ hq] at e
    exact e.symm
  have b := hb _ (Value.ref (s.heap.objs.size + 1) :: us) I2.kIn (by rw [List.append_nil]; exact hl)
  rw [List.append_nil] at b
  refine wpAny_call (make_map (f := f) I.kIn M.makes M.init (beq_iff_eq.mp M.fn) (codeAny_mono (F.run _ X.stack _ _ ⟨Value.ref (s.heap.objs.size + 1) :: us, []⟩ (Value.ref (s.heap.objs.size + 1) :: us) _ _ (E σ) (hr.make C us [])
    (I2.env0.make C us []) b r2 hq) fun r s' hq' => ?_))
  cases r with
  | error e => exact hx pins _ _ e s' I2 hq'
  | ok fl =>
    cases fl with
    | ret u =>
      obtain ⟨v, H', I3, rv, ev, q3⟩ := I2.after hq'
      subst ev
      exact ⟨rv, ⟨V.ref (s.heap.objs.size + 1), H', I3, rfl, q3⟩⟩
    | next => exact False.elim hq'
    | brk => exact False.elim hq'
    | cont => exact False.elim hq'
theorem pe_makeS {E : L2.St → XK} (M : Mk X.K C f) (F : FnOk X.prog X.w X.K X.mg X.base CX k f fd ps sp) (hr : Room (k + 1) X.A) (hg : Gl X x) (hm : X.mg x = some (.ref C)) (hb : Binds X.K fd ps []) (hx : ∀ σ, PassesAt CX X σ (E σ))
    (ha : PA X (e :: es) t) (hdb : (x == ("__debug__" : Str)) = false := by decide) (he : starEach (e :: es) X.env = (false, eval e X.env) :: starEach es X.env := by rfl) (hpl : (backTo pos (starEach es X.env)).any (·.1) = false := by rfl) :
    PE X (.Call (.Name x q) (e :: es) [] pos) (fun σ H Q => t σ H fun vs H1 => ∀ x dx, H1 x = none → H1 dx = none → dx ≠ x →
  sp (.ref x :: vs) (upd (upd H1 dx (.own x)) x (.ins C dx [])) (fun v H2 => v = .non ∧ Q (.ref x) H2) (E σ)) := by
  refine ⟨fun pins s σ H Q I h => ?_⟩
  refine wpAny_Call_Name_kw (ld_glob I hg hm ?_ hdb)
  refine PySem.W.callWith_K (h₀ := X.base) I.ok.mod.kin M.kp (thn (ha.run pos pins s σ H _ I h) fun us s1 ⟨vs, H1, I1, r, q⟩ => ⟨I1.kIn, ?_⟩) he hpl
  exact run_makeS M F hr hb (hx σ) I1 r q
end
/-! ### an exception held as an object -/
theorem exT_ok {P : Program} {w : World} {H : Hp} {h : Heap} {a C : Addr} {o : Obj} {vs : Array Value} (e : h.get? a = some o) (c : o.cls = .ref C) (d : o.dict = none) (v : o.data = .fields vs) : ObjOk P w H h a (exT a C) :=
  ⟨⟨o, vs, e, c, d, v⟩, ⟨o, e⟩, fun h1 h2 ⟨o', vs', e', c', d', v'⟩ k => ⟨o', vs', k o' e', c', d', v'⟩⟩
theorem exT_at {P : Program} {w : World} {H : Hp} {h : Heap} {a C : Addr} (hok : HOk P w H h) (q : H a = some (exT a C)) : ∃ (o : Obj) (vs : Array Value), h.get? a = some o ∧ o.cls = .ref C ∧ o.dict = none ∧ o.data = .fields vs := by
  have z := hok a _ q
  exact z.1
theorem exT_own {a C x : Addr} : exT a C ≠ .own x := fun z => by cases z
/-- isinstance(e, c), e an exception that is held -/
def rIsX (K : PySem.W.Frag) : List V → Hp → VK → Prop := fun xs H Q => ∃ (a D : Addr) (c : V) (cv : Value) (b : Bool), xs = [.ref a, c] ∧ H a = some (exT a D) ∧ ExcC K D ∧ (∀ u, RelV c u → u = cv) ∧ PySem.W.kitOne K (.ref D) cv = some b ∧ Q (.bl b) H
theorem call_isX {X : Cx} : CallR X (.builtin "isinstance") (rIsX X.K) := by
  intro pins s σ H xs us Q I r h
  obtain ⟨a, D, c, cv, b, rfl, ha, C, hcv, e, q⟩ := h
  cases r with
  | cons rx rr =>
    cases rr with
    | cons rt rr =>
      cases rr
      cases rx
      have ec := hcv _ rt
      subst ec
      obtain ⟨oe, vs, hget, h1, h2, hv⟩ := exT_at I.hok ha
      have J : PySem.W.InstAt s.heap a oe D none := by
        obtain ⟨oc, od, oda, osl⟩ := oe
        dsimp only at h1 h2 hv
        subst h1 h2 hv
        exact ⟨hget, rfl, rfl, trivial⟩
      exact PySem.W.kia_one (PySem.W.handS_kitx_exc C.hg C.hk C.hs C.hd C.ha C.hn C.ht C.hm) I.kIn J e (fun z => nomatch z) fun tk => ⟨.bl b, H, I.kept (t' := tk) fun _ _ z => z, rfl, q⟩

/-! ### try: body, except x as n: suite, the exception held -/
section
variable {X : Cx} {pins : List (Addr × Obj)} {σ : L2.St} {H : Hp} {s : Shared}
theorem Inv.hold (I : Inv X pins σ H s) {a C : Addr} {oe : Obj} {vs : Array Value} (ha : s.heap.get? a = some oe) (hc : oe.cls = .ref C) (hdi : oe.dict = none) (hd : oe.data = .fields vs) (na : H a = none) (n0 : X.s_0.heap.get? a = none) (nL : a ≠ X.env.locals) (npin : ∀ p ∈ X.pn ++ pins, p.1 ≠ a) :
    Inv X pins σ (upd H a (exT a C)) s := by
  have ne0 : ∀ b o, X.s_0.heap.get? b = some o → b ≠ a := fun b o e z => by rw [z, n0] at e; cases e
  have nH : ∀ b o, X.H_0 b = some o → H b = some o ∨ True := fun _ _ _ => .inr trivial
  have cne : ∀ x c, X.env.cells.lookup x = some c → c ≠ a := fun x c e z => by
    obtain ⟨v, q⟩ := I.cell x c e
    subst z
    obtain ⟨o, q1, q2⟩ : ∃ o, s.heap.get? c = some o ∧ o.data = .cell v := by
      have q' := q
      first
        | exact ⟨_, q', rfl⟩
        | (obtain ⟨o, q1, q2⟩ := q'; exact ⟨o, q1, q2⟩)
        | (obtain ⟨o, q1, _, q2⟩ := q'; exact ⟨o, q1, q2⟩)
    rw [ha] at q1
    cases q1
    rw [hd] at q2; cases q2
  have tk : ∀ b o, H b = some o → upd H a (exT a C) b = some o := fun b o e => by
    rw [upd_ne (fun z => by rw [z, na] at e; cases e)]; exact e
  refine ⟨I.ok, I.os, I.bare, ⟨I.base.keep, I.base.slot, fun b o e n hx => ?_, I.base.there, fun b xs e => tk _ _ (I.base.tups b xs e), fun b o u e => tk _ _ (I.base.frzs b o u e), fun b ps e => let ⟨m, q⟩ := I.base.tbls b ps e; ⟨m, tk _ _ q⟩⟩, I.loc, I.cell, ?_, fun x c e => ?_, fun p hp => ?_, fun b ob e => ?_, I.len⟩
  · rw [upd_ne (ne0 b o e)]; exact I.base.free b o e n hx
  · rw [upd_ne nL.symm]; exact I.free
  · rw [upd_ne (cne x c e)]; exact I.freeC x c e
  · obtain ⟨e, n, ne, nf, d⟩ := I.pin p hp
    exact ⟨e, by rw [upd_ne (npin p hp)]; exact n, ne, nf, d⟩
  · by_cases hb : b = a
    · subst hb
      rw [upd_same] at e
      cases e
      exact exT_ok ha hc hdi hd
    · rw [upd_ne hb] at e
      exact (I.hok b ob e).stay (fun _ _ _ q => q) (fun c q => tk _ _ q) fun c xs q => tk _ _ q
/-- the context of such a suite -/
abbrev sui (X : Cx) (a : Addr) (pn : List (Addr × Obj)) : Cx := { X with A := X.A.mark (some (.ref a)), calm := false, pn := pn, xe := fun _ _ => False }
theorem Cx.Ok.sui {X : Cx} (ok : X.Ok) (a : Addr) (pn : List (Addr × Obj)) : (sui X a pn).Ok :=
  ⟨ok.mod, ok.kind, ok.glob, ok.blt, ok.above, ok.inj, ok.has, ok.cab, (fun z => absurd (show false = true from z) Bool.false_ne_true), ok.frames, ok.stk, ok.exf, ok.bs, ok.bsz, ok.noex, ok.exfs, ok.funs, ok.frf⟩
theorem Inv.sui (I : Inv X pins σ H s) (a : Addr) : Inv (sui X a (X.pn ++ pins)) [] σ H s :=
  ⟨Cx.Ok.sui I.ok _ _, I.os, I.bare, I.base, I.loc, I.cell, I.free, I.freeC, fun p hp => I.pin p (by rw [List.append_nil] at hp; exact hp), I.hok, I.len⟩
theorem Inv.unsui {a : Addr} {pn' : List (Addr × Obj)} (I : Inv (MI.sui X a (X.pn ++ pins)) pn' σ H s) (ok : X.Ok) : Inv X pins σ H s :=
  ⟨ok, I.os, I.bare, I.base, I.loc, I.cell, I.free, I.freeC, fun p hp => I.pin p (List.mem_append_left _ hp), I.hok, I.len⟩
end
/-- what the clause wishes of an exception of the body -/
def wHold (K : PySem.W.Frag) (c : Value) (i : Nat) (ts : TS) (D : Ends) : WX := fun cls d σ H =>
  ∃ C : Addr, cls = .ref C ∧ d = none ∧ PySem.W.exmOne K cls c = some true ∧ ∀ a, H a = none → ts { nx := fun σ' H' => D.nx (σ'.set i none) H', rt := D.rt, bk := fun σ' H' => D.bk (σ'.set i none) H', ct := fun σ' H' => D.ct (σ'.set i none) H' } (σ.set i (some (.ref a))) (upd H a (exT a C))
section
variable {X : Cx} {x n : Str} {c : Value} {i : Nat} {body suite : List Stmt} {b0 : Stmt} {np pos pos' : Pos} {tb : WX → TS} {ts : TS}
theorem ps_try_hold (hs : X.stack = X.env :: X.outer) (hf : X.env.frame = some X.env.locals) (hex : X.ex = []) (hN : X.N.Nodup) (hi : X.N[i]? = some n) (hln : X.env.kindOf n = some .local) (hc : Names X x c)
    (hb : ∀ (W : WX) (pn : List (Addr × Obj)) (xe : Value → Shared → Prop), L2.Takes (X.tr pn xe) W → PassesOwn (model X.prog X.w) X.A X.env xe → PSs (X.tr pn xe) body (tb W))
    (hsu : ∀ (a : Addr) (pn : List (Addr × Obj)), PSs (sui X a pn) (b0 :: suite) ts) :
    PS X (.Try body [.ExceptHandler (some (.Name x np)) (some n) (b0 :: suite) pos'] [] [] pos) (fun D σ H => tb (wHold X.K c i ts D) D σ H) := by
  refine ⟨fun pins s σ H D I h => ?_⟩
  have ok := I.ok
  have hfr : X.A.frames = some (X.env :: X.outer) := by rw [ok.frames, hs]
  have hloc : Loc X.env.scope n := .inl hln
  refine wpAny_Try_except ?_
  refine wpAny_mono ((hb (wHold X.K c i ts D) (X.pn ++ pins) (fun e s₁ => wpAny (model X.prog X.w) X.A (noteFrame e X.env) (fun _ s₂ => wpAny (model X.prog X.w) X.A (setFlight e none) (fun _ s₃ =>
    wpAny (model X.prog X.w) X.A (handleBy e X.env [.ExceptHandler (some (.Name x np)) (some n) (b0 :: suite) pos']) (SP X pins D) X.xe s₃) X.xe s₂) X.xe s₁) (fun u s' xx => ?_) PassesOwn.looking).run [] s σ H D (I.toTry _) h) (fun f s1 hsp => ?_) (fun e s1 he => he)
  · obtain ⟨a, B, sI, pins', σ', H', cls, d, rfl, J', nb, up, sky, na, os, ag, C, rfl, rfl, hb1, hyes⟩ := xx
    have J : Inv X pins σ' H' sI := J'.ofTry ok
    have sky' : Sky B (X.env :: X.outer) a (Zc (.ref C) none) X.env.locals s'.heap := by rw [← hs]; exact sky
    show wpAny (model X.prog X.w) X.A (noteFrame (.ref a) X.env) _ _ _
    refine Sky.land Zc.steady hfr hf sky' fun h3 fl3 up3 => ?_
    have J3 : Inv X pins σ' H' { s' with heap := h3 } := J.landed nb fl3.1 (up.trans up3) os ag
    obtain ⟨oe3, vs3, he3, hz3, hd3⟩ := fl3.there
    have notFr : ∀ {h : Heap} {o : Obj} {vs : Array Value}, h.FunFrames B (X.env :: X.outer) → h.get? a = some o → o.data = .fields vs → a ∉ frs (X.env :: X.outer) := fun {h o vs} ff e dd hm => by
      obtain ⟨_, o', e', hnf⟩ := ff.mem hm
      rw [e] at e'; cases e'
      exact hnf _ dd
    have nfr := notFr fl3.2.2.1 he3 hd3
    have nL : a ≠ X.env.locals := fun z => nfr (List.mem_filterMap.mpr ⟨X.env, List.mem_cons_self, by rw [hf, z]⟩)
    have nF : a ∉ X.fs := fun hm => by
      obtain ⟨e, he, q⟩ := List.mem_filterMap.mp hm
      exact nfr (List.mem_filterMap.mpr ⟨e, List.mem_cons_of_mem _ he, q⟩)
    have nst : a ∉ frs X.stack := by rw [hs]; exact nfr
    have nI : sI.heap.get? a = none := by
      cases q : sI.heap.get? a with
      | none => rfl
      | some o =>
        have z := nb a o q nst
        rw [fl3.2.1] at z; cases z
    have n0 : X.s_0.heap.get? a = none := by
      cases q : X.s_0.heap.get? a with
      | none => rfl
      | some o =>
        obtain ⟨o', z⟩ := J.base.there a o q (by rw [hex]; simp)
        rw [nI] at z; cases z
    have npin : ∀ p ∈ X.pn ++ pins, p.1 ≠ a := fun p hp z => by
      have q := (J.pin p hp).1
      rw [z, nI] at q; cases q
    have S3 := J3.suite he3 hd3 na nL nF
    refine wpAny_handleBy_cons (codeAny_handlers_test ?_) (by intro q; cases q)
    have LT : PySem.W.Looks (model X.prog X.w) h3 (typeOf (.ref a)) (.ref C) := fun A Q E s k q => wpAny_typeOf_ref (k _ _ he3) (by rw [hz3.1]; exact q)
    have LM := PySem.W.exm_one (M := model X.prog X.w) (J3.kIn) LT hb1
    have test : ∀ {Q : Value → Shared → Prop} {E : Value → Shared → Prop}, Q c { s' with heap := h3 } → wpAny (model X.prog X.w) (X.A.mark (some (.ref a))) (eval (.Name x np) X.env) Q E { s' with heap := h3 } := fun {Q E} q => by
      obtain ⟨hg, hdbg, hm | ⟨hm, hv, hnn⟩⟩ := hc
      · exact ld_glob (X := X.suite a ((a, oe3) :: (X.pn ++ pins))) S3 hg hm q hdbg
      · exact ld_blt (X := X.suite a ((a, oe3) :: (X.pn ++ pins))) S3 hg hm hv q hnn hdbg
    refine test (LM.here ?_)
    refine codeAny_handlers_suite_as ?_
    refine HandSPX.lands_againZ fl3 fun h4 fl4 up4 => ?_
    have J4 : Inv X pins σ' H' { s' with heap := h4 } := J.landed nb fl4.1 ((up.trans up3).trans up4) os ag
    obtain ⟨oe4, vs4, he4, hz4, hd4⟩ := fl4.there
    have T4 : Inv (sui X a (X.pn ++ pins)) [] σ' (upd H' a (exT a C)) { s' with heap := h4 } := Inv.sui (Inv.hold J4 he4 hz4.1 hz4.2 hd4 na n0 nL npin) a
    refine store_ok (X := sui X a (X.pn ++ pins)) (v := .ref a) T4 hN hi hloc rfl (fun s5 S5 => ?_) (.inr hln)
    refine wpAny_mono ((hsu a (X.pn ++ pins)).run [] s5 _ _ _ S5 (hyes a na)) (fun f s6 hsp => ?_) (fun _ _ z => False.elim z)
    have end_ : ∀ {σ6 : L2.St} {H6 : Hp} {Q : Shared → Prop}, Inv (sui X a (X.pn ++ pins)) [] σ6 H6 s6 → (∀ s7, Inv X pins (σ6.set i none) H6 s7 → Q s7) →
        wpAny (model X.prog X.w) X.A (do bindName X.env n .none; unbindBehindTheSuite X.env n pos') (fun _ s7 => Q s7) X.xe s6 := fun {σ6 H6 Q} S6 hq => gone_ok (Inv.unsui S6 ok) hN hi hln hq
    cases f with
    | next =>
      obtain ⟨σ6, H6, S6, q6⟩ := hsp
      exact end_ S6 fun s7 J7 => ⟨_, _, J7, q6⟩
    | brk =>
      obtain ⟨σ6, H6, S6, q6⟩ := hsp
      exact end_ S6 fun s7 J7 => ⟨_, _, J7, q6⟩
    | cont =>
      obtain ⟨σ6, H6, S6, q6⟩ := hsp
      exact end_ S6 fun s7 J7 => ⟨_, _, J7, q6⟩
    | ret u =>
      obtain ⟨v6, σ6, H6, S6, r6, q6⟩ := hsp
      exact end_ S6 fun s7 J7 => ⟨_, _, _, J7, r6, q6⟩
  · cases f with
    | next =>
      obtain ⟨σ', H', J', q⟩ := hsp
      exact wpAny_execs_nil ⟨σ', H', J'.ofTry ok, q⟩
    | brk =>
      obtain ⟨σ', H', J', q⟩ := hsp
      exact ⟨σ', H', J'.ofTry ok, q⟩
    | cont =>
      obtain ⟨σ', H', J', q⟩ := hsp
      exact ⟨σ', H', J'.ofTry ok, q⟩
    | ret u =>
      obtain ⟨v, σ', H', J', r, q⟩ := hsp
      exact ⟨v, σ', H', J'.ofTry ok, r, q⟩
end
end MI

set_option maxHeartbeats 4000000
/-! MIw: a lambda that is handed on, nothing known of it. -/
namespace LamX
open PySem PySem.Spec PyProof.Rows L2
/-- what the making does to what is tracked -/
def Step (H : Hp) (P : Addr) (q : Str) (H1 : Hp) : Prop := H1 = H ∨ ∃ (ps more : Array Value) (c' : Addr), H P = some (.tbl ps) ∧ H c' = none ∧ H1 = upd (upd H P (.tbl (ps ++ more))) c' (CodeO c' q) ∧ TriplesOk (ps ++ more).toList ∧ (∀ pos cv, codeAmong pos (ps ++ more).toList = some cv → codeAmong pos ps.toList = some cv ∨ cv = .ref c')
theorem lam_make3 {X : Cx} {pins : List (Addr × Obj)} {σ : L2.St} {H : Hp} {s : Shared} {c P : Addr} {params : Arguments} {body : Expr} {scope : Scope} {pos : Pos} {E : Value → Shared → Prop} {Q : Value → Shared → Prop} (I : Inv X pins σ H s) (TB : TabB X.base X.mg c P) (hcode : X.env.code = .ref c)
    (hT : TabS H P (X.env.qual ++ "<lambda>")) (hdef : defaultsOf params X.env = ([], [])) (hfree : ∀ y ∈ scope.names, y.2 = .free → ∃ c, X.env.cells.lookup y.1 = some c)
    (h : ∀ (f : Addr) (o : Obj) (H1 : Hp) (s' : Shared), Inv X pins σ H1 s' → s'.heap.get? f = some o → s.heap.objs.size ≤ f → H1 f = none → Step H P (X.env.qual ++ "<lambda>") H1 → Q (.ref f) s') :
    wpAny (model X.prog X.w) X.A (eval (.Lambda params body scope pos) X.env) Q E s := by
  obtain ⟨ps, hP, ht, ha⟩ := hT
  refine PySem.W.kla_eval hdef ?_
  have bP : s.heap.BuiltinsAt X.mg P := TB.bm.keeps I.bk
  have hP' : s.heap.get? P = some { cls := .none, data := .fields ps } := I.hok P _ hP
  cases hc : codeAmong pos ps.toList with
  | none =>
    refine PySem.W.kla_makeFunction (mg := X.mg) (c := c) (P := P) (ps := ps) (closure_ok hfree) I.ok.glob (I.mod.glob.keeps I.bk) hcode (TB.code.keeps I.bk) hP' ht hc TB.gP bP fun c' ctv h' tk hx hge hlt hrec htb => ?_
    obtain ⟨c2, oc, vs, t, e2, hoc, hd, hv⟩ := hrec
    cases e2
    have hsz : s.heap.objs.size ≤ h'.objs.size := Nat.le_trans hge (Nat.le_of_lt hlt)
    have nC : H c' = none := I.hok.fresh hge
    have I1 := inv_table (t' := tk) (more := #[rawInt pos.line, rawInt pos.col, .ref c']) (h' := h'.push (PySem.W.kla_obj "<lambda>" (X.env.qual ++ "<lambda>") params body scope (cloFrom X.env.cells scope.names []) ((X.mg "__name__").getD .none) c' ctv)) I hP
      (fun b o hb e => Heap.get?_push_of_some _ (hx b o hb e)) (Heap.get?_push_of_some _ htb) hge ⟨oc, vs, t, Heap.get?_push_of_some _ hoc, hd, hv⟩
    have eL : (ps ++ #[rawInt pos.line, rawInt pos.col, .ref c']).toList = ps.toList ++ [rawInt pos.line, rawInt pos.col, .ref c'] := by simp
    refine h h'.objs.size _ _ _ I1 (Heap.get?_push_size _ rfl) hsz ?_ (.inr ⟨ps, _, c', hP, nC, rfl, by rw [eL]; exact PySem.TriplesOk_snoc _ _ _ _ ht, fun p' cv hcv => ?_⟩)
    · have n1 : h'.objs.size ≠ c' := Nat.ne_of_gt hlt
      have n2 : h'.objs.size ≠ P := Nat.ne_of_gt (Nat.lt_of_lt_of_le (Heap.lt_size hP') hsz)
      rw [upd_ne n1, upd_ne n2]
      exact I.hok.fresh hsz
    · rw [eL] at hcv
      exact among_app _ ht hcv
  | some cv =>
    obtain ⟨c', e, hco⟩ := ha pos cv hc
    subst e
    refine PySem.W.kla_makeFunctionHit (mg := X.mg) (c := c) (P := P) (ps := ps) (closure_ok hfree) I.ok.glob (I.mod.glob.keeps I.bk) hcode (TB.code.keeps I.bk) hP' ht hc bP fun ctv h' tk hx hsz => ?_
    have I1 : Inv X pins σ H { s with heap := h'.push (PySem.W.kla_obj "<lambda>" (X.env.qual ++ "<lambda>") params body scope (cloFrom X.env.cells scope.names []) ((X.mg "__name__").getD .none) c' ctv), toks := tk } := I.kept fun b o e => Heap.get?_push_of_some _ (hx b o e)
    exact h h'.objs.size _ H _ I1 (Heap.get?_push_size _ rfl) hsz (I.hok.fresh hsz) (.inl rfl)
end LamX
namespace MI
open PySem PySem.Spec PyProof.Rows L2
variable [Tabs] [Cels]
/-- some object -/
def exO (a : Addr) : HO := .ext fun h => ∃ o : Obj, h.get? a = some o
theorem Inv.holdO {X : Cx} {pins : List (Addr × Obj)} {σ : L2.St} {H : Hp} {s : Shared} (I : Inv X pins σ H s) {a : Addr} {oe : Obj} (ha : s.heap.get? a = some oe) (na : H a = none) (n0 : X.s_0.heap.get? a = none) (nL : a ≠ X.env.locals) (nc : ∀ x c, X.env.cells.lookup x = some c → c ≠ a) (npin : ∀ p ∈ X.pn ++ pins, p.1 ≠ a) :
    Inv X pins σ (upd H a (exO a)) s := by
  have ne0 : ∀ b o, X.s_0.heap.get? b = some o → b ≠ a := fun b o e z => by rw [z, n0] at e; cases e
  have tk : ∀ b o, H b = some o → upd H a (exO a) b = some o := fun b o e => by
    rw [upd_ne (fun z => by rw [z, na] at e; cases e)]; exact e
  refine ⟨I.ok, I.os, I.bare, ⟨I.base.keep, I.base.slot, fun b o e n hx => ?_, I.base.there, fun b xs e => tk _ _ (I.base.tups b xs e), fun b o u e => tk _ _ (I.base.frzs b o u e), fun b ps e => let ⟨m, q⟩ := I.base.tbls b ps e; ⟨m, tk _ _ q⟩⟩, I.loc, I.cell, ?_, fun x c e => ?_, fun p hp => ?_, fun b ob e => ?_, I.len⟩
  · rw [upd_ne (ne0 b o e)]; exact I.base.free b o e n hx
  · rw [upd_ne nL.symm]; exact I.free
  · rw [upd_ne (nc x c e)]; exact I.freeC x c e
  · obtain ⟨e, n, ne, nf, d⟩ := I.pin p hp
    exact ⟨e, by rw [upd_ne (npin p hp)]; exact n, ne, nf, d⟩
  · by_cases hb : b = a
    · subst hb
      rw [upd_same] at e
      cases e
      exact ⟨⟨oe, ha⟩, ⟨oe, ha⟩, fun h1 h2 ⟨o, q⟩ k => ⟨o, k o q⟩⟩
    · rw [upd_ne hb] at e
      exact (I.hok b ob e).stay (fun _ _ _ q => q) (fun c q => tk _ _ q) fun c xs q => tk _ _ q
theorem pe_lam {X : Cx} {c P : Addr} {params : Arguments} {body : Expr} {scope : Scope} {pos : Pos} (TBB : LamX.TabB X.base X.mg c P) (hcode : X.env.code = .ref c) (hdef : defaultsOf params X.env = ([], []))
    (hfree : ∀ y ∈ scope.names, y.2 = .free → X.env.scope.names.lookup y.1 = some .cell ∨ X.env.scope.names.lookup y.1 = some .free) :
    PE X (.Lambda params body scope pos) (fun _ H Q => LamX.TabS H P (X.env.qual ++ "<lambda>") ∧ ∀ (f : Addr) (H1 : Hp), LamX.Step H P (X.env.qual ++ "<lambda>") H1 → H1 f = none → Q (.ref f) (upd H1 f (exO f))) := by
  refine ⟨fun pins s σ H Q I ⟨hT, h⟩ => ?_⟩
  refine LamX.lam_make3 I TBB hcode hT hdef (fun y hy e => I.ok.has _ (hfree y hy e)) fun f o H1 s' J hf hsz hn st => ?_
  have lt' : ∀ b ob, s.heap.get? b = some ob → b ≠ f := fun b ob e z => by
    rw [z] at e
    exact Nat.lt_irrefl _ (Nat.lt_of_lt_of_le (Heap.lt_size e) hsz)
  have n0 : X.s_0.heap.get? f = none := by
    cases q : X.s_0.heap.get? f with
    | none => rfl
    | some o0 => exact absurd (Nat.lt_of_lt_of_le (Heap.lt_size q) (Nat.le_trans I.sz hsz)) (Nat.lt_irrefl _)
  have nL : f ≠ X.env.locals := fun z => by
    have := I.lt
    rw [← z] at this
    exact Nat.lt_irrefl _ (Nat.lt_of_lt_of_le this hsz)
  have nc : ∀ x c, X.env.cells.lookup x = some c → c ≠ f := fun x c e => by
    obtain ⟨v, ob, q, _⟩ := I.cell x c e
    exact lt' c ob q
  have npin : ∀ p ∈ X.pn ++ pins, p.1 ≠ f := fun p hp => lt' _ _ (I.pin p hp).1
  exact ⟨.ref f, _, Inv.holdO J hf hn n0 nL nc npin, rfl, h f H1 st hn⟩
/-! ### the tables stay -/
variable {K : PySem.W.Frag} {mg : Str → Option Value} {φ : Lo} {S : Sto} {H H1 : Hp}
theorem TB.tabS (t : TB φ H) {P : Addr} {q : Str} (h : (P, q) ∈ Tabs.ts) : LamX.TabS H P q := by
  obtain ⟨_, _, ps, e, tr, hc⟩ := t.1 (P, q) h
  exact ⟨ps, e, tr, fun pos cv z => let ⟨c, e1, e2, _⟩ := hc pos cv z; ⟨c, e1, e2⟩⟩
/-- behind the making of a lambda -/
theorem lam_ext (R : RS K mg φ S H) {P : Addr} {q : Str} (h : (P, q) ∈ Tabs.ts) (hu : ∀ t ∈ Tabs.ts, t.1 = P → t.2 = q) (st : LamX.Step H P q H1) : Ext φ S H φ S H1 ∧ RS K mg φ S H1 := by
  rcases st with rfl | ⟨ps, more, c', eP, nC, rfl, tr, hap⟩
  · exact ⟨Ext.refl, R⟩
  · obtain ⟨n1, n2, ps', e', tr', hc⟩ := R.tb.1 (P, q) h
    rw [eP] at e'
    cases e'
    have nPc : P ≠ c' := fun z => by rw [z, nC] at eP; cases eP
    have at_ : ∀ b, b ≠ P → b ≠ c' → upd (upd H P (.tbl (ps ++ more))) c' (LamX.CodeO c' q) b = H b := fun b h1 h2 => by rw [upd_ne h2, upd_ne h1]
    have nhs : ∀ b ∈ φ.hs, b ≠ P ∧ b ≠ c' := fun b hb => ⟨fun z => n1 (z ▸ hb), fun z => R.trk b hb (z ▸ nC)⟩
    have nbs : ∀ b ∈ φ.bs, b ≠ P ∧ b ≠ c' := fun b hb => ⟨fun z => n2 (z ▸ hb), fun z => R.btrk b hb (z ▸ nC)⟩
    have rdk : ∀ a u, Rd H a u → (∀ p, u ≠ .tbl p) → Rd (upd (upd H P (.tbl (ps ++ more))) c' (LamX.CodeO c' q)) a u := fun a u r nt => by
      have na : a ≠ P ∧ a ≠ c' := by
        constructor
        · rintro rfl
          rcases r with r | ⟨ob, r⟩ <;> rw [eP] at r
          · exact nt _ (Option.some.inj r).symm
          · cases r
        · rintro rfl
          rcases r with r | ⟨ob, r⟩ <;> rw [nC] at r <;> cases r
      rcases r with r | ⟨ob, r⟩
      · exact .inl (by rw [at_ a na.1 na.2]; exact r)
      · exact .inr ⟨ob, by rw [at_ a na.1 na.2]; exact r⟩
    have x : Ext φ S H φ S (upd (upd H P (.tbl (ps ++ more))) c' (LamX.CodeO c' q)) := ⟨⟨fun a vs e => by
      have na : a ≠ P ∧ a ≠ c' := ⟨fun z => by (rw [z, eP] at e; cases e), fun z => by (rw [z, nC] at e; cases e)⟩
      exact (at_ a na.1 na.2).trans e, fun _ _ e => e, fun a vs r => rdk a _ r (fun _ z => by cases z), fun a vs r n => ⟨rdk a _ r (fun _ z => by cases z), n⟩⟩, rfl, fun b hb => at_ b (nbs b hb).1 (nbs b hb).2⟩
    refine ⟨x, ⟨R.len, R.nd, fun a ha => by rw [at_ a (nhs a ha).1 (nhs a ha).2]; exact R.trk a ha, fun b hb => by rw [at_ b (nbs b hb).1 (nbs b hb).2]; exact R.btrk b hb, R.ap, fun hh o a e1 e2 => ?_, fun t ht => ?_, fun q' hq' => ?_⟩⟩
    · have ha := List.mem_of_getElem? e2
      exact RO.mono x.mo (fun _ => at_ a (nhs a ha).1 (nhs a ha).2) (R.obj hh o a e1 e2)
    · obtain ⟨m1, m2, ps2, e2, tr2, hc2⟩ := R.tb.1 t ht
      have keepC : ∀ {c : Addr}, H c = some (LamX.CodeO c t.2) → upd (upd H P (.tbl (ps ++ more))) c' (LamX.CodeO c' q) c = some (LamX.CodeO c t.2) := fun {c} e => by
        rw [at_ c (fun z => by rw [z, eP] at e; exact LamX.codeO_ne _ (Option.some.inj e).symm) (fun z => by rw [z, nC] at e; cases e)]; exact e
      refine ⟨m1, m2, ?_⟩
      by_cases hb : t.1 = P
      · have hq := hu t ht hb
        rw [hb, eP] at e2
        cases e2
        refine ⟨_, by rw [hb, upd_ne nPc, upd_same], tr, fun pos cv hcv => ?_⟩
        rcases hap pos cv hcv with z | z
        · obtain ⟨c, g1, g2, g3, g4⟩ := hc2 pos cv z
          exact ⟨c, g1, keepC g2, g3, g4⟩
        · exact ⟨c', z, by rw [hq, upd_same], fun m => (nhs c' m).2 rfl, fun m => (nbs c' m).2 rfl⟩
      · have nc : t.1 ≠ c' := fun z => by rw [z, nC] at e2; cases e2
        refine ⟨ps2, by rw [at_ t.1 hb nc]; exact e2, tr2, fun pos cv hcv => ?_⟩
        obtain ⟨c, g1, g2, g3, g4⟩ := hc2 pos cv hcv
        exact ⟨c, g1, keepC g2, g3, g4⟩
    · obtain ⟨e, n1', n2'⟩ := R.tb.2 q' hq'
      refine ⟨?_, n1', n2'⟩
      rw [at_ _ (fun z => by rw [z, eP] at e; exact LamX.codeO_ne _ (Option.some.inj e).symm) (fun z => by rw [z, nC] at e; cases e)]
      exact e
end MI

set_option maxHeartbeats 4000000
/-! MIv: a lambda that is handed on and called. -/
namespace LamX
open PySem PySem.Spec PyProof.Rows L2
theorem lam_make4 {X : Cx} {pins : List (Addr × Obj)} {σ : L2.St} {H : Hp} {s : Shared} {c P : Addr} {params : Arguments} {body : Expr} {scope : Scope} {pos : Pos} {E : Value → Shared → Prop} {Q : Value → Shared → Prop} (I : Inv X pins σ H s) (TB : TabB X.base X.mg c P) (hcode : X.env.code = .ref c)
    (hT : TabS H P (X.env.qual ++ "<lambda>")) (hdef : defaultsOf params X.env = ([], [])) (hfree : ∀ y ∈ scope.names, y.2 = .free → ∃ c, X.env.cells.lookup y.1 = some c)
    (h : ∀ (f c' : Addr) (pm ctv : Value) (H1 : Hp) (s' : Shared), Inv X pins σ H1 s' → s'.heap.get? f = some (PySem.W.kla_obj "<lambda>" (X.env.qual ++ "<lambda>") params body scope (cloFrom X.env.cells scope.names []) pm c' ctv) → s.heap.objs.size ≤ f → H1 f = none → Step H P (X.env.qual ++ "<lambda>") H1 →
      H1 c' = some (CodeO c' (X.env.qual ++ "<lambda>")) → (H c' = none ∨ ∃ ps : Array Value, H P = some (.tbl ps) ∧ codeAmong pos ps.toList = some (.ref c')) → Q (.ref f) s') :
    wpAny (model X.prog X.w) X.A (eval (.Lambda params body scope pos) X.env) Q E s := by
  obtain ⟨ps, hP, ht, ha⟩ := hT
  refine PySem.W.kla_eval hdef ?_
  have bP : s.heap.BuiltinsAt X.mg P := TB.bm.keeps I.bk
  have hP' : s.heap.get? P = some { cls := .none, data := .fields ps } := I.hok P _ hP
  cases hc : codeAmong pos ps.toList with
  | none =>
    refine PySem.W.kla_makeFunction (mg := X.mg) (c := c) (P := P) (ps := ps) (closure_ok hfree) I.ok.glob (I.mod.glob.keeps I.bk) hcode (TB.code.keeps I.bk) hP' ht hc TB.gP bP fun c' ctv h' tk hx hge hlt hrec htb => ?_
    obtain ⟨c2, oc, vs, t, e2, hoc, hd, hv⟩ := hrec
    cases e2
    have hsz : s.heap.objs.size ≤ h'.objs.size := Nat.le_trans hge (Nat.le_of_lt hlt)
    have nC : H c' = none := I.hok.fresh hge
    have I1 := inv_table (t' := tk) (more := #[rawInt pos.line, rawInt pos.col, .ref c']) (h' := h'.push (PySem.W.kla_obj "<lambda>" (X.env.qual ++ "<lambda>") params body scope (cloFrom X.env.cells scope.names []) ((X.mg "__name__").getD .none) c' ctv)) I hP
      (fun b o hb e => Heap.get?_push_of_some _ (hx b o hb e)) (Heap.get?_push_of_some _ htb) hge ⟨oc, vs, t, Heap.get?_push_of_some _ hoc, hd, hv⟩
    have eL : (ps ++ #[rawInt pos.line, rawInt pos.col, .ref c']).toList = ps.toList ++ [rawInt pos.line, rawInt pos.col, .ref c'] := by simp
    refine h h'.objs.size c' _ _ _ _ I1 (Heap.get?_push_size _ rfl) hsz ?_ (.inr ⟨ps, _, c', hP, nC, rfl, by rw [eL]; exact PySem.TriplesOk_snoc _ _ _ _ ht, fun p' cv hcv => ?_⟩) upd_same (.inl nC)
    · have n1 : h'.objs.size ≠ c' := Nat.ne_of_gt hlt
      have n2 : h'.objs.size ≠ P := Nat.ne_of_gt (Nat.lt_of_lt_of_le (Heap.lt_size hP') hsz)
      rw [upd_ne n1, upd_ne n2]
      exact I.hok.fresh hsz
    · rw [eL] at hcv
      exact among_app _ ht hcv
  | some cv =>
    obtain ⟨c', e, hco⟩ := ha pos cv hc
    subst e
    refine PySem.W.kla_makeFunctionHit (mg := X.mg) (c := c) (P := P) (ps := ps) (closure_ok hfree) I.ok.glob (I.mod.glob.keeps I.bk) hcode (TB.code.keeps I.bk) hP' ht hc bP fun ctv h' tk hx hsz => ?_
    have I1 : Inv X pins σ H { s with heap := h'.push (PySem.W.kla_obj "<lambda>" (X.env.qual ++ "<lambda>") params body scope (cloFrom X.env.cells scope.names []) ((X.mg "__name__").getD .none) c' ctv), toks := tk } := I.kept fun b o e => Heap.get?_push_of_some _ (hx b o e)
    exact h h'.objs.size c' _ _ H _ I1 (Heap.get?_push_size _ rfl) hsz (I.hok.fresh hsz) (.inl rfl) hco (.inr ⟨ps, hP, hc⟩)
end LamX
namespace MI
open PySem PySem.Spec PyProof.Rows L2
variable [Tabs] [Cels]
theorem Inv.holdX {X : Cx} {pins : List (Addr × Obj)} {σ : L2.St} {H : Hp} {s : Shared} {ψ : Heap → Prop} (I : Inv X pins σ H s) {a : Addr} {oe : Obj} (ha : s.heap.get? a = some oe) (hψ : ψ s.heap) (st : ∀ h1 h2 : Heap, ψ h1 → (∀ o, h1.get? a = some o → h2.get? a = some o) → ψ h2) (na : H a = none) (n0 : X.s_0.heap.get? a = none) (nL : a ≠ X.env.locals) (nc : ∀ x c, X.env.cells.lookup x = some c → c ≠ a) (npin : ∀ p ∈ X.pn ++ pins, p.1 ≠ a) :
    Inv X pins σ (upd H a (.ext ψ)) s := by
  have ne0 : ∀ b o, X.s_0.heap.get? b = some o → b ≠ a := fun b o e z => by rw [z, n0] at e; cases e
  have tk : ∀ b o, H b = some o → upd H a (.ext ψ) b = some o := fun b o e => by
    rw [upd_ne (fun z => by rw [z, na] at e; cases e)]; exact e
  refine ⟨I.ok, I.os, I.bare, ⟨I.base.keep, I.base.slot, fun b o e n hx => ?_, I.base.there, fun b xs e => tk _ _ (I.base.tups b xs e), fun b o u e => tk _ _ (I.base.frzs b o u e), fun b ps e => let ⟨m, q⟩ := I.base.tbls b ps e; ⟨m, tk _ _ q⟩⟩, I.loc, I.cell, ?_, fun x c e => ?_, fun p hp => ?_, fun b ob e => ?_, I.len⟩
  · rw [upd_ne (ne0 b o e)]; exact I.base.free b o e n hx
  · rw [upd_ne nL.symm]; exact I.free
  · rw [upd_ne (nc x c e)]; exact I.freeC x c e
  · obtain ⟨e, n, ne, nf, d⟩ := I.pin p hp
    exact ⟨e, by rw [upd_ne (npin p hp)]; exact n, ne, nf, d⟩
  · by_cases hb : b = a
    · subst hb
      rw [upd_same] at e
      cases e
      exact ⟨hψ, ⟨oe, ha⟩, st⟩
    · rw [upd_ne hb] at e
      exact (I.hok b ob e).stay (fun _ _ _ q => q) (fun c q => tk _ _ q) fun c xs q => tk _ _ q
/-- the lambda that the frame of X makes -/
abbrev lamNF (X : Cx) (params : Arguments) (scope : Scope) (c' : Addr) : NdefX.NF := ⟨"<lambda>", X.env.qual ++ "<lambda>", params, [], scope, cloFrom X.env.cells scope.names [], c'⟩
def tLamF (X : Cx) (P : Addr) (params : Arguments) (body : Expr) (scope : Scope) : TE := fun _ H Q => LamX.TabS H P (X.env.qual ++ "<lambda>") ∧ ∀ (f c' : Addr) (H1 : Hp), LamX.Step H P (X.env.qual ++ "<lambda>") H1 → H1 f = none → H1 c' = some (LamX.CodeO c' (X.env.qual ++ "<lambda>")) →
  (H c' = none ∨ ∃ (pos : Pos) (ps : Array Value), H P = some (.tbl ps) ∧ codeAmong pos ps.toList = some (.ref c')) → Q (.ref f) (upd H1 f (LamO f (lamNF X params scope c') body))
theorem pe_lamF {X : Cx} {c P : Addr} {params : Arguments} {body : Expr} {scope : Scope} {pos : Pos} (TBB : LamX.TabB X.base X.mg c P) (hcode : X.env.code = .ref c) (hdef : defaultsOf params X.env = ([], []))
    (hfree : ∀ y ∈ scope.names, y.2 = .free → X.env.scope.names.lookup y.1 = some .cell ∨ X.env.scope.names.lookup y.1 = some .free) :
    PE X (.Lambda params body scope pos) (tLamF X P params body scope) := by
  refine ⟨fun pins s σ H Q I ⟨hT, h⟩ => ?_⟩
  refine LamX.lam_make4 I TBB hcode hT hdef (fun y hy e => I.ok.has _ (hfree y hy e)) fun f c' pm ctv H1 s' J hf hsz hn st hc' hcc => ?_
  have lt' : ∀ b ob, s.heap.get? b = some ob → b ≠ f := fun b ob e z => by
    rw [z] at e
    exact Nat.lt_irrefl _ (Nat.lt_of_lt_of_le (Heap.lt_size e) hsz)
  have n0 : X.s_0.heap.get? f = none := by
    cases q : X.s_0.heap.get? f with
    | none => rfl
    | some o0 => exact absurd (Nat.lt_of_lt_of_le (Heap.lt_size q) (Nat.le_trans I.sz hsz)) (Nat.lt_irrefl _)
  have nL : f ≠ X.env.locals := fun z => by
    have := I.lt
    rw [← z] at this
    exact Nat.lt_irrefl _ (Nat.lt_of_lt_of_le this hsz)
  have nc : ∀ x c, X.env.cells.lookup x = some c → c ≠ f := fun x c e => by
    obtain ⟨v, ob, q, _⟩ := I.cell x c e
    exact lt' c ob q
  have npin : ∀ p ∈ X.pn ++ pins, p.1 ≠ f := fun p hp => lt' _ _ (I.pin p hp).1
  exact ⟨.ref f, _, Inv.holdX J hf ⟨pm, ctv, hf⟩ (fun h1 h2 ⟨pm, ctv, q⟩ k => ⟨pm, ctv, k _ q⟩) hn n0 nL nc npin, rfl, h f c' H1 st hn hc' (hcc.imp id fun ⟨ps, z⟩ => ⟨_, ps, z⟩)⟩
theorem lamO_at {P : Program} {w : World} {H : Hp} {h : Heap} {f : Addr} {F : NdefX.NF} {e : Expr} (hok : HOk P w H h) (q : H f = some (LamO f F e)) : ∃ (pm ctv : Value), h.get? f = some (PySem.W.kla_obj "<lambda>" F.qual F.params e F.scope F.cl pm F.c ctv) := (hok f _ q).1
/-- THE RULE: a lambda's call by its body -/
theorem lam_run {CX : CXT} {P : Program} {w : World} {K : PySem.W.Frag} {mg : Str → Option Value} {base : Heap} {N ps fr : List Str} {F : NdefX.NF} {e : Expr} {f : Addr} {k : Nat} {A : Around} {outer : List PySem.Env} {s : Shared} {H : Hp} {us : List Value} {vs : List V} {ws : List (Option V)} {Q : VK} {E : XK} {t : TE}
    (S : NdefX.NScope N ps fr F.scope) (hb : ∀ (pm ctv : Value) (us : List Value), us.length = ps.length → bindArgs (PySem.W.kla_fn "<lambda>" F.qual F.params e F.scope F.cl pm (.ref F.c) ctv) ⟨us, []⟩ = pure (ps.zip us))
    (hr : Room (k + 1) A) (e0 : Env0 P w K mg base A outer s H) (hf : H f = some (LamO f F e)) (hc : H F.c = some (LamX.CodeO F.c F.qual)) (C : NdefX.CellsAt F.cl fr ws s.heap H) (r : Vals vs us) (hl : vs.length = ps.length)
    (ht : Room k (A.deeper (NdefX.envF F f s.heap.objs.size)) → PE (NdefX.ncx CX P w K mg base N F f A outer s H E) e t) (hq : t (NdefX.startF N vs ws) H Q) : codeAny (model P w) A (.call (.ref f) ⟨us, []⟩) (CR CX outer P w H s Q E) s := by
  have lim : s.heap.NoLimit := e0.mod.nolimit.keeps fun b o e => (e0.bs b o e).1
  obtain ⟨pm, ctv, ho⟩ := lamO_at e0.hok hf
  refine PySem.W.kla_callFunE hr.depth ho rfl S.co S.gen rfl (NdefX.codeO_at e0.hok hc) ?_
  rw [hb pm ctv us (by rw [← r.length]; exact hl)]
  refine wpAny_pure (wpAny_newFunctionEnv S.nocell (fun ⟨n, _⟩ hy => S.par n (List.of_mem_zip hy).1) (fun h₁ hns hsb => ⟨lim.fresh _ hsb, ?_⟩) S.kind)
  show codeAny _ _ (.expr e (NdefX.envF F f s.heap.objs.size)) _ _
  have kp : ∀ b o, s.heap.get? b = some o → h₁.get? b = some o := fun b o e => hsb.extBut b o (Nat.ne_of_lt (Heap.lt_size e)) (Heap.get?_push_of_some _ e)
  have I : Inv (NdefX.ncx CX P w K mg base N F f A outer s H E) [] (NdefX.startF N vs ws) H { s with heap := h₁, toks := s.toks + (ps.zip us).length } := NdefX.inv_startN S hr.hd e0 hl r C hns kp
  refine PySem.W.kla_codeExpr (wpAny_mono ((ht (hr.deeper _)).run [] _ (NdefX.startF N vs ws) H Q I hq) (fun v s' hq => ?_) fun e s' hq => hq)
  obtain ⟨w', H', J', rv, q⟩ := hq
  exact ⟨w', H', J'.os, J'.bare, J'.base, J'.hok, rv, q⟩
/-! ### the base of a call that a lambda is handed to: all that is not tracked, no frame -/
def baseX (X : Cx) (H : Hp) (s : Shared) : Heap := hidT s.heap fun b => if b ∈ frs X.stack then some (.own 0) else H b
section
variable {X : Cx} {pins : List (Addr × Obj)} {σ : L2.St} {H : Hp} {s : Shared}
theorem baseX_get {b : Addr} {o : Obj} (e : s.heap.get? b = some o) (n : H b = none) (f : b ∉ frs X.stack) : (baseX X H s).get? b = some o := hidT_get e (by rw [if_neg f]; exact n)
theorem of_baseX {b : Addr} {o : Obj} (e : (baseX X H s).get? b = some o) : s.heap.get? b = some o ∧ H b = none ∧ b ∉ frs X.stack := by
  obtain ⟨h1, h2⟩ := of_hidT e
  by_cases f : b ∈ frs X.stack
  · rw [if_pos f] at h2; cases h2
  · rw [if_neg f] at h2; exact ⟨h1, h2, f⟩
theorem baseX_sub (I : Inv X pins σ H s) {b : Addr} {o : Obj} (e : X.base.get? b = some o) : (baseX X H s).get? b = some o :=
  baseX_get (I.bs b o e).1 (I.bs b o e).2 fun hb => by
    have := (I.stack.mem hb).1
    rw [e] at this; cases this
theorem funs_base {h base base' : Heap} : ∀ {l : List PySem.Env}, h.FunFrames base l → (∀ b ∈ frs l, base'.get? b = none) → h.FunFrames base' l
  | [], _, _ => trivial
  | env :: r, ⟨hk, ⟨L, o, hf, hn, ho, hd⟩, hr⟩, hb => by
    have e : frs (env :: r) = L :: frs r := by unfold frs; rw [List.filterMap_cons, hf]
    rw [e] at hb
    exact ⟨hk, ⟨L, o, hf, hb L List.mem_cons_self, ho, hd⟩, funs_base hr fun b m => hb b (List.mem_cons_of_mem _ m)⟩
theorem env0X (I : Inv X pins σ H s) : Env0 X.prog X.w X.K X.mg (baseX X H s) X.A X.stack s H := by
  have sub : ∀ b o, X.base.get? b = some o → (baseX X H s).get? b = some o := fun b o e => baseX_sub I e
  refine ⟨I.ok.frames, ⟨I.mod.kin.keeps sub, I.mod.glob.keeps sub, ?_, I.mod.nolimit.keeps sub⟩, fun b o e => ⟨(of_baseX e).1, (of_baseX e).2.1⟩, Nat.le_of_eq (hidT_size _ _), funs_base I.stack fun b hb => ?_, I.stkFree, I.hok, I.bare⟩
  · obtain ⟨mb, h1, h2⟩ := I.mod.blt
    exact ⟨mb, h1.keeps sub, h2⟩
  · cases q : (baseX X H s).get? b with
    | none => rfl
    | some o => exact absurd hb (of_baseX q).2.2
/-- the maker's cells, in that base -/
theorem cells_baseX (I : Inv X pins σ H s) {cl : List (Str × Addr)} {fr : List Str} {ws : List (Option V)} (C : NdefX.CellsAt cl fr ws s.heap H) (sub : ∀ y c, cl.lookup y = some c → X.env.cells.lookup y = some c ∧ X.fn y = true) : NdefX.CellsAt cl fr ws (baseX X H s) (fun _ => none) := by
  have nf : ∀ y c, cl.lookup y = some c → c ∉ frs X.stack := fun y c e hb => by
    obtain ⟨h1, h2⟩ := sub y c e
    rcases List.mem_cons.mp (I.stkSub c hb) with z | z
    · exact I.cne y c h1 z
    · obtain ⟨_, o, ho, _⟩ := I.ok.funs.mem z
      exact Nat.lt_irrefl _ (Nat.lt_of_lt_of_le (Heap.lt_size ho) (I.ok.cab y c h2 h1))
  have kp : ∀ y c, cl.lookup y = some c → ∀ v, s.heap.IsCell c v → (baseX X H s).IsCell c v := fun y c e v ⟨o, ho, hd⟩ => ⟨o, baseX_get ho (C.all y c e).1 (nf y c e), hd⟩
  refine ⟨C.len, fun y c e => ?_, C.inj, fun i y e => ?_⟩
  · obtain ⟨n, v, z⟩ := C.all y c e
    exact ⟨rfl, v, kp y c e v z⟩
  · obtain ⟨c, hc, hv⟩ := C.has i y e
    exact ⟨c, hc, fun v ev => let ⟨u, r, z⟩ := hv v ev; ⟨u, r, kp y c hc _ z⟩⟩
/-- .. at a later time -/
theorem cells_of_base {base : Heap} {cl : List (Str × Addr)} {fr : List Str} {ws : List (Option V)} (C : NdefX.CellsAt cl fr ws base (fun _ => none)) (hb : ∀ b o, base.get? b = some o → s.heap.get? b = some o ∧ H b = none) : NdefX.CellsAt cl fr ws s.heap H := by
  have kp : ∀ c v, base.IsCell c v → s.heap.IsCell c v := fun c v ⟨o, ho, hd⟩ => ⟨o, (hb c o ho).1, hd⟩
  refine ⟨C.len, fun y c e => ?_, C.inj, fun i y e => ?_⟩
  · obtain ⟨_, v, z⟩ := C.all y c e
    obtain ⟨o, ho, hd⟩ := z
    exact ⟨(hb c o ho).2, v, o, (hb c o ho).1, hd⟩
  · obtain ⟨c, hc, hv⟩ := C.has i y e
    exact ⟨c, hc, fun v ev => let ⟨u, r, z⟩ := hv v ev; ⟨u, r, kp c _ z⟩⟩
theorem cells_mono {base base' : Heap} {cl : List (Str × Addr)} {fr : List Str} {ws : List (Option V)} (C : NdefX.CellsAt cl fr ws base (fun _ => none)) (hb : ∀ b o, base.get? b = some o → base'.get? b = some o) : NdefX.CellsAt cl fr ws base' (fun _ => none) := by
  have kp : ∀ c v, base.IsCell c v → base'.IsCell c v := fun c v ⟨o, ho, hd⟩ => ⟨o, hb c o ho, hd⟩
  refine ⟨C.len, fun y c e => ?_, C.inj, fun i y e => ?_⟩
  · obtain ⟨_, v, z⟩ := C.all y c e
    exact ⟨rfl, v, kp c v z⟩
  · obtain ⟨c, hc, hv⟩ := C.has i y e
    exact ⟨c, hc, fun v ev => let ⟨u, r, z⟩ := hv v ev; ⟨u, r, kp c _ z⟩⟩
end
end MI
namespace MI
open PySem PySem.Spec PyProof.Rows L2
/-! ### the lambdas' list grows, shrinks -/
section
variable {K : PySem.W.Frag} {mg : Str → Option Value} {φ : Lo} {S : Sto} {H : Hp}
theorem RS.celsIn {t : Tabs} {c c' : Cels} (R : @RS t c K mg φ S H) (h1 : ∀ q ∈ @Cels.cs c, q ∈ @Cels.cs c') (h2 : ∀ q ∈ @Cels.cs c', q ∈ @Cels.cs c ∨ (H q.F.c = some (LamX.CodeO q.F.c q.F.qual) ∧ q.F.c ∉ φ.hs ∧ q.F.c ∉ φ.bs)) : @RS t c' K mg φ S H := by
  obtain ⟨a1, a2, a3, a4, a5, a6, a7, a8⟩ := R
  refine @RS.mk t c' K mg φ S H a1 a2 a3 a4 a5 (fun h o a e1 e2 => ?_) ⟨a7, fun q hq => (h2 q hq).elim (fun z => a8 q z) id⟩
  have ro : @RO c K mg φ S H o a := a6 h o a e1 e2
  cases o with
  | clo id l =>
    obtain ⟨q, m, z⟩ := ro
    exact ⟨q, h1 q m, z⟩
  | lst _ => exact ro
  | ins _ _ => exact ro
  | exn _ => exact ro
  | dct _ => exact ro
  | dead => trivial
theorem RS.celsOut {t : Tabs} {cs : List Clo} {q : Clo} (R : @RS t ⟨q :: cs⟩ K mg φ S H) {h : Nat} (hh : φ.hs[h]? = some q.f) : @RS t ⟨cs⟩ K mg φ (S.set h .dead) H := by
  have R2 := @RS.kill t ⟨q :: cs⟩ K mg φ S H h R
  obtain ⟨a1, a2, a3, a4, a5, a6, a7, a8⟩ := R2
  refine @RS.mk t ⟨cs⟩ K mg φ _ H a1 a2 a3 a4 a5 (fun h' o a e1 e2 => ?_) ⟨a7, fun q' hq => a8 q' (List.mem_cons_of_mem _ hq)⟩
  have ro : @RO ⟨q :: cs⟩ K mg φ _ H o a := a6 h' o a e1 e2
  cases o with
  | clo id l =>
    obtain ⟨q', m, ef, z⟩ := ro
    rcases List.mem_cons.mp m with e | m
    · subst e
      rw [← ef] at e2
      letI := t
      letI : Cels := ⟨cs⟩
      have eh := nodup_at a2 hh e2
      subst eh
      by_cases hl : h < S.length
      · rw [List.getElem?_set_self hl] at e1; cases e1
      · rw [List.getElem?_eq_none (by simpa using hl)] at e1; cases e1
    · exact ⟨q', m, ef, z⟩
  | lst _ => exact ro
  | ins _ _ => exact ro
  | exn _ => exact ro
  | dct _ => exact ro
  | dead => trivial
theorem cap_rv {ρ : Env} {σ : L2.St} (re : RE K φ S H ρ σ) : ∀ {js : List Nat} {l : List D}, capD ρ js = some l → ∃ ws : List V, js.map (NdefX.slotAt σ) = ws.map some ∧ RVs K φ S H l ws
  | [], l, e => by cases e; exact ⟨[], rfl, .nil⟩
  | j :: r, l, e => by
    unfold capD at e
    cases e1 : ρ[j]? with
    | none => rw [e1] at e; cases e
    | some o =>
      cases o with
      | none => rw [e1] at e; cases e
      | some d =>
        cases e2 : capD ρ r with
        | none => rw [e1, e2] at e; cases e
        | some k =>
          rw [e1, e2] at e
          cases e
          obtain ⟨ws, h1, h2⟩ := cap_rv re e2
          obtain ⟨v, h3, h4⟩ := re.at_ j d e1
          exact ⟨v :: ws, by rw [List.map_cons, List.map_cons, NdefX.slotAt_of h3, h1], .cons h4 h2⟩
end
end MI

set_option maxHeartbeats 4000000
/-! MIh: the interpreter's answer for an expression is the model's. -/
namespace MI
open PySem PySem.Spec PyProof.Rows L2
variable [Tabs] [Cels]

/-! ### what is known of the module -/
/-- what is wanted of an exception -/
def WtX (K : PySem.W.Frag) (mg : Str → Option Value) (φ : Lo) (S : Sto) (H : Hp) (c : String) (S1 : Sto) (E : XK) : Prop := ∀ φ' H', Ext φ S H φ' S1 H' → RS K mg φ' S1 H' → ∀ A : Addr, mg (Str.ofString c) = some (.ref A) → E (.ref A) none H'

/-- a def's promise: what the interpreter answers -/
def spC (C : Ctx) (K : PySem.W.Frag) (mg : Str → Option Value) (n : Nat) (f : String) : Sp := fun vs H Q _ => ∃ φ S ds d S1, RS K mg φ S H ∧ RVs K φ S H ds vs ∧ ds.length = n ∧ C.fn f ds S = .ok d S1 ∧ Wt K mg φ S H d S1 Q
/-- .. where an exception is handled -/
def spH (C : Ctx) (K : PySem.W.Frag) (mg : Str → Option Value) (n : Nat) (f : String) : Sp := fun vs H Q _ => ∃ φ S ds d S1, RS K mg φ S H ∧ RVs K φ S H ds vs ∧ ds.length = n ∧ C.hf f ds S = .ok d S1 ∧ Wt K mg φ S H d S1 Q
/-- what a call lets out -/
def spX (C : Ctx) (K : PySem.W.Frag) (mg : Str → Option Value) (n : Nat) (f : String) : Sp := fun vs H _ E => ∃ φ S ds c S1, RS K mg φ S H ∧ RVs K φ S H ds vs ∧ ds.length = n ∧ C.fx f ds S = some (c, S1) ∧ WtX K mg φ S H c S1 E
/-- a lambda's promise -/
def spA (C : Ctx) (K : PySem.W.Frag) (mg : Str → Option Value) (q : Clo) : Sp := fun vs H Q _ => H q.f = some (LamO q.f q.F q.e) ∧ ∃ φ S ds caps d S1, RS K mg φ S H ∧ RVs K φ S H ds vs ∧ RVs K φ S H caps q.ws ∧ C.fn q.id (ds ++ caps) S = .ok d S1 ∧ Wt K mg φ S H d S1 Q
/-- .. may be called -/
def CloA (C : Ctx) (X : Cx) (q : Clo) : Prop := ∃ k : Nat, Room (k + 1) X.A ∧ ∀ (A : Around) (outer : List PySem.Env) (s : Shared) (H : Hp) (us : List Value) (vs : List V) (Q : VK), Room k A → Env0 X.prog X.w X.K X.mg X.base A outer s H → Vals vs us → spA C X.K X.mg q vs H Q E0 →
  codeAny (model X.prog X.w) A (.call (.ref q.f) ⟨us, []⟩) (CR CX0 outer X.prog X.w H s Q E0) s
/-- a lambda's words are checked, its cells stand in the base -/
def CloB (p : Par) (base : Heap) (q : Clo) : Prop := ∃ fr : List Str, NdefX.CellsAt q.F.cl fr (q.ws.map some) base (fun _ => none) ∧ p.lo q.id fr q.F.params q.e q.F.scope = true
/-- what a call with keywords binds -/
def Shp (K : PySem.W.Frag) (arr : String → List String → List D → List D → Option (List D)) (fd : FuncData) (ps : List Str) (f : String) (n : Nat) (ks : List String) : Prop := ∃ (g : List Value → List Value → List Value) (gV : List V → List V → List V), KBn K fd ps n (ks.map Str.ofString) g gV ∧
  ∀ (l z ds : List D), arr f ks l z = some ds → l.length = n → z.length = ks.length → ∀ (φ : Lo) (S : Sto) (H : Hp) (vs zs : List V), RVs K φ S H l vs → RVs K φ S H z zs → RVs K φ S H ds (gV vs zs)
/-- the def f at a may be called -/
def FnA (p : Par) (C : Ctx) (X : Cx) (f : String) (a : Addr) : Prop := ∃ (fd : FuncData) (ps : List Str) (k n : Nat), PySem.W.keepIn X.K (.ref a) = true ∧ (Binds X.K fd ps [] ∧ (∀ q ∈ p.shs, q.1 = f → Shp X.K C.arr fd ps f q.2.1 q.2.2) ∧ (∀ ds S z, C.fx f ds S = some z → ds.length = n) ∧ FnOk X.prog X.w X.K X.mg X.base (L2.CX X.prog X.w) k a fd ps (spX C X.K X.mg n f)) ∧ Room (k + 1) X.A ∧
  (∀ ds S d S1, C.fn f ds S = .ok d S1 → ds.length = n) ∧ FnOk X.prog X.w X.K X.mg X.base CX0 k a fd ps (spC C X.K X.mg n f)
def FnH (p : Par) (C : Ctx) (X : Cx) (f : String) : Prop := ∃ a : Addr, X.mg (Str.ofString f) = some (.ref a) ∧ FnA p C X f a
/-- what of a class is the module's -/
structure ClsS (K : PySem.W.Frag) (mg : Str → Option Value) (p : Par) (c : String) (I : ClsI) (A : Addr) : Prop where
  at_ : mg (Str.ofString c) = some (.ref A)
  cls : Cls K A
  c1 : PySem.W.findIn K (.ref A) "__class__" = some (some (.builtin "object.__class__"))
  c2 : PySem.W.specialIn K (.builtin "object.__class__") "__get__" = some (some (.builtin "getset_descriptor.__get__"))
  c3 : PySem.W.takesIn K (.builtin "object.__class__") = some true
  c4 : PySem.W.mroIn K A (.type "object") = some true
  flds : ∀ f, I.flds.contains f = true → NoAttr K A (Str.ofString f)
  mks : p.mks.contains c = true → PySem.W.makesIn K A = true ∧ PySem.W.keepIn K (.ref A) = true
  sups : ∀ c' ∈ p.isc, ∃ A', mg (Str.ofString c') = some (.ref A') ∧ PySem.W.kitOne K (.ref A) (.ref A') = some (I.sups.contains c')
/-- .. and its methods -/
structure ClsH (p : Par) (C : Ctx) (X : Cx) (c : String) (I : ClsI) (A : Addr) : Prop where
  s : ClsS X.K X.mg p c I A
  mths : ∀ m f, I.mths.lookup m = some f → ∃ a, Meth X.K A (Str.ofString m) a ∧ FnA p C X f a
/-- a row of a table holds -/
def RowOk (K : PySem.W.Frag) (d : Addr) (s : Str) : Option D → Prop
  | some dv => ∃ u v, PySem.W.nsIn K d s = some (some u) ∧ L2.RelV v u ∧ ∀ φ S H, RV K φ S H dv v
  | none => PySem.W.nsIn K d s = some none
def TabOk (K : PySem.W.Frag) (w : World) (mg : Str → Option Value) (glo : String → Option D) (x : String) : Prop := ∃ l d es n, glo x = some (.lst l) ∧ mg (Str.ofString x) = some (.ref d) ∧ KDict K w d es n ∧ ∀ s r, rowD l s = some r → RowOk K d s r
/-- a class by its name: the module's, a built-in one -/
def Nm (mg : Str → Option Value) (c : Str) (cv : Value) : Prop := mg c = some cv ∨ (mg c = none ∧ bootBuiltins c = some cv)
theorem Nm.eq {mg : Str → Option Value} {c : Str} {u v : Value} (h1 : Nm mg c u) (h2 : Nm mg c v) : u = v := by
  rcases h1 with h1 | ⟨h1, g1⟩ <;> rcases h2 with h2 | ⟨h2, g2⟩
  · rw [h1] at h2; exact Option.some.inj h2
  · rw [h1] at h2; cases h2
  · rw [h1] at h2; cases h2
  · rw [g1] at g2; exact Option.some.inj g2
def CV (v : V) (cv : Value) : Prop := (∃ A, v = .ref A ∧ cv = .ref A) ∨ ∃ T, v = .ty T ∧ cv = .type T
theorem CV.rel {v : V} {cv : Value} (h : CV v cv) : L2.RelV v cv ∧ ∀ u, L2.RelV v u → u = cv := by
  rcases h with ⟨A, rfl, rfl⟩ | ⟨T, rfl, rfl⟩ <;> exact ⟨rfl, fun u e => e⟩
/-- a class of exceptions: what isinstance and except ask -/
structure XcOk (K : PySem.W.Frag) (mg : Str → Option Value) (p : Par) (c : String) (l : List String) (A : Addr) : Prop where
  at_ : mg (Str.ofString c) = some (.ref A)
  exc : ExcC K A
  new : PySem.W.excIn K A He.veBase "ValueError.__new__" = true
  kp : PySem.W.keepIn K (.ref A) = true
  sb : PySem.W.subIn K (.ref A) (.type "BaseException") = some true
  ty : PySem.W.typeIn K (.ref A) = some (.type "type")
  isc : ∀ c' ∈ p.xis, ∃ cv : Value, Nm mg (Str.ofString c') cv ∧ PySem.W.kitOne K (.ref A) cv = some (l.contains c') ∧ PySem.W.exmOne K (.ref A) cv = some (l.contains c')
/-- a def that may be called where an exception is handled -/
def HotA (C : Ctx) (X : Cx) (f : String) : Prop := ∃ (a : Addr) (fd : FuncData) (ps : List Str) (k n : Nat), X.mg (Str.ofString f) = some (.ref a) ∧ PySem.W.keepIn X.K (.ref a) = true ∧ Binds X.K fd ps [] ∧ L2H.RoomH k X.A ∧
  (∀ ds S d S1, C.hf f ds S = .ok d S1 → ds.length = n) ∧ FnW X.prog X.w X.K X.mg X.base k a fd ps (spH C X.K X.mg n f)
/-- lambdas may be made here -/
def LamC (X : Cx) : Prop := ∃ c P : Addr, X.env.code = .ref c ∧ LamX.TabB X.base X.mg c P ∧ (P, X.env.qual ++ "<lambda>") ∈ Tabs.ts ∧ ∀ t ∈ Tabs.ts, t.1 = P → t.2 = X.env.qual ++ "<lambda>"
structure XC (p : Par) (C : Ctx) (X : Cx) : Prop where
  calm : p.hot = false → X.calm = true
  nd : X.N.Nodup
  hu : X.A.units + 64 < cLine
  fns : ∀ f ∈ p.fns, FnH p C X f
  clss : ∀ c I, C.cls c = some I → ∃ A, ClsH p C X c I A
  bts : ∀ b ∈ p.bts, X.mg (Str.ofString b) = none
  tabs : ∀ x ∈ p.tabs, TabOk X.K X.w X.mg C.glo x
  xcs : ∀ c l, C.xcl c = some l → ∃ A, XcOk X.K X.mg p c l A
  xis : ∀ c ∈ p.xis, ∃ v cv, CV v cv ∧ Nm X.mg (Str.ofString c) cv
  hfns : ∀ f ∈ p.hfns, HotA C X f
  lam : p.lam = true → LamC X
  act : p.hot = false → ∀ q ∈ Cels.cs, CloA C X q
  clb : p.lam = true → ∀ q ∈ Cels.cs, CloB p X.base q
  flc : p.lam = true → ∀ (base : Heap) (cs : List Clo), (∀ b o, X.base.get? b = some o → base.get? b = some o) → (∀ q ∈ cs, CloB p base q) → ∀ f ∈ p.fns, @FnH _ ⟨cs⟩ p C { X with base := base } f
  glos : ∀ x ∈ p.glos, ∃ d u v, C.glo x = some d ∧ X.mg (Str.ofString x) = some u ∧ L2.RelV v u ∧ ∀ φ S H, RV X.K φ S H d v
section
variable {p : Par} {C : Ctx} {X : Cx}
theorem ClsS.par {K : PySem.W.Frag} {mg : Str → Option Value} {p p' : Par} {c : String} {I : ClsI} {A : Addr} (k : ClsS K mg p c I A) (h1 : p'.mks = p.mks) (h2 : p'.isc = p.isc) : ClsS K mg p' c I A := ⟨k.at_, k.cls, k.c1, k.c2, k.c3, k.c4, k.flds, by rw [h1]; exact k.mks, by rw [h2]; exact k.sups⟩
theorem XcOk.par {K : PySem.W.Frag} {mg : Str → Option Value} {p p' : Par} {c : String} {l : List String} {A : Addr} (k : XcOk K mg p c l A) (h : p'.xis = p.xis) : XcOk K mg p' c l A := ⟨k.at_, k.exc, k.new, k.kp, k.sb, k.ty, by rw [h]; exact k.isc⟩
theorem XC.blk (x : XC p C X) (s : Shared) (H : Hp) (scope : Scope) (ce : PySem.Env) (fp : List Addr) : XC p.blkP C (X.blk s H scope ce fp) := ⟨x.calm, x.nd, x.hu, x.fns, fun c I e => let ⟨A, k⟩ := x.clss c I e; ⟨A, ⟨k.s.par rfl rfl, k.mths⟩⟩, x.bts, x.tabs, fun c l e => let ⟨A, k⟩ := x.xcs c l e; ⟨A, k.par rfl⟩, x.xis, fun f hf => let ⟨a, fd, ps, k, n, h1, h2, h3, h4, h5, h6⟩ := x.hfns f hf; ⟨a, fd, ps, k, n, h1, h2, h3, h4, h5, h6⟩, (fun z => absurd (show false = true from z) Bool.noConfusion), x.act, (fun z => absurd (show false = true from z) Bool.noConfusion), (fun z => absurd (show false = true from z) Bool.noConfusion), x.glos⟩
theorem nameOk_iff {x : Str} (h : nameOk x = true) : (x == ("__debug__" : Str)) = false ∧ (x == ("__classdict__" : Str)) = false ∧ x ≠ ("__name__" : Str) := by
  unfold nameOk at h
  simp only [Bool.and_eq_true, Bool.not_eq_true', decide_eq_false_iff_not] at h
  exact ⟨h.1.1, h.1.2, h.2⟩
theorem isVis_ok {sc : Scope} {x : Str} (h : isVis sc x = true) : Vis sc x := by
  unfold isVis at h
  split at h
  · exact .inl (by assumption)
  · exact .inr (.inl (by assumption))
  · exact .inr (.inr (by assumption))
  · cases h
theorem isGl_ok {x : Str} (h : isGl X.env.scope x = true) : Gl X x := by
  unfold isGl at h
  split at h
  · assumption
  · cases h
theorem isLoc_ok {x : Str} (h : isLoc X.env.scope X.fn x = true) : Loc X.env.scope x ∧ (X.fn x = true ∨ X.env.scope.names.lookup x = some .local) := by
  unfold isLoc at h
  split at h
  · rename_i e; exact ⟨.inl e, .inr e⟩
  · rename_i e; exact ⟨.inr e, .inl h⟩
  · cases h
theorem blk_scope {s : Shared} {H : Hp} {scope : Scope} {fp : List Addr} {cl : List (Str × Addr)} {A : Addr} : (X.blk s H scope (compEnvC scope cl A X.env) fp).env.scope = relS scope X.env.scope := rfl
theorem mem_of_contains {l : List String} {x : String} (h : l.contains x = true) : x ∈ l := by simpa using h
theorem dec_eq {α : Type} [DecidableEq α] {a b : α} (h : decide (a = b) = true) : a = b := of_decide_eq_true h
/-- the reading of a fresh list as a value, as a handle -/
theorem frz_of {f : Env → Sto → R (List D)} {σ : L2.St} {H : Hp} {Q : VK} (h : tE X.K X.mg (fun ρ S => (f ρ S).bind fun xs S1 => .ok (.lst xs) S1) σ H Q) : tL X.K X.mg f σ H Q := by
  obtain ⟨φ, ρ, S, d, S1, re, rs, e, w⟩ := h
  obtain ⟨l, S2, e1, e2⟩ := bind_ok e
  cases e2
  exact ⟨φ, ρ, S, l, S1, re, rs, e1, fun φ' H' vs q x r t hq => w φ' _ _ (x.trans (Ext.new r hq)) (r.new hq) (rv_lst r hq t)⟩
theorem box_of {f : Env → Sto → R (List D)} {σ : L2.St} {H : Hp} {Q : VK} (h : tE X.K X.mg (fun ρ S => (f ρ S).bind fun xs S1 => .ok (.ref S1.length) (S1 ++ [.lst xs])) σ H Q) : tL X.K X.mg f σ H Q := by
  obtain ⟨φ, ρ, S, d, S1, re, rs, e, w⟩ := h
  obtain ⟨l, S2, e1, e2⟩ := bind_ok e
  cases e2
  refine ⟨φ, ρ, S, l, S2, re, rs, e1, fun φ' H' vs q x r t hq => ?_⟩
  have y : Ext φ' S2 H' ⟨φ'.hs ++ [q], φ'.bs⟩ (S2 ++ [.lst l]) (upd H' q (.lst vs)) := Ext.snoc r hq
  refine w _ _ _ (x.trans y) (RS.snoc r hq ⟨vs, upd_same, RVs.mono y _ _ t⟩) (rvref.mpr ⟨q, rfl, ?_⟩)
  show (φ'.hs ++ [q])[S2.length]? = some q
  rw [← r.len]; exact get_snoc_r
/-- the part of a slice -/
theorem part_none {lo : E} (h : isCN lo = true) : lo = .cN := by cases lo <;> first | rfl | cases h
end
end MI

set_option maxHeartbeats 4000000
/-! MIi: soundness of expressions. -/
namespace MI
open PySem PySem.Spec PyProof.Rows L2
variable [Tabs] [Cels]
section
variable {p : Par} {C : Ctx} {X : Cx} {σ : L2.St} {H : Hp} {Q : VK} {Qb : Bool → Hp → Prop}
theorem band2 {a b : Bool} (h : (a && b) = true) : a = true ∧ b = true := Bool.and_eq_true_iff.mp h
def tP (K : PySem.W.Frag) (mg : Str → Option Value) (f : Env → Sto → R (Option Int)) : TO := fun σ H Q => ∃ φ ρ S d S1, RE K φ S H ρ σ ∧ RS K mg φ S H ∧ f ρ S = .ok d S1 ∧ ∀ φ' H', Ext φ S H φ' S1 H' → RS K mg φ' S1 H' → Q d H'
theorem PO.imp {e : Option Expr} {t t' : TO} (h : PO X e t) (i : ∀ σ H Q, t' σ H Q → t σ H Q) : PO X e t' := ⟨fun pins s σ H Q I q => h.run pins s σ H Q I (i σ H Q q)⟩
theorem part_ok {lo : E} {f : Env → Sto → R D} {l : Option Expr} (hl : match l with
    | none => isCN lo = true
    | some l => isCN lo = false ∧ PE X l (tE X.K X.mg f)) : PO X l (tP X.K X.mg (partE (isCN lo) f)) := by
  cases l with
  | none =>
    have hl : isCN lo = true := hl
    rw [hl]
    exact PO.imp po_none fun σ H Q ⟨φ, ρ, S, d, S1, re, rs, e, w⟩ => by cases e; exact w φ H Ext.refl rs
  | some l =>
    obtain ⟨h1, h2⟩ : isCN lo = false ∧ PE X l (tE X.K X.mg f) := hl
    rw [h1]
    refine PO.imp (po_some h2) fun σ H Q ⟨φ, ρ, S, d, S1, re, rs, e, w⟩ => ?_
    obtain ⟨a, S2, e1, e2⟩ := bind_ok e
    refine ⟨φ, ρ, S, a, S2, re, rs, e1, fun φ' H' v x r t => ?_⟩
    cases a with
    | int i => cases e2; exact ⟨i, rvint.mp t, w φ' H' x r⟩
    | _ => cases e2
/-- a value, two parts of a slice, and the rest -/
theorem tE_slc {α : Type} {fa : Env → Sto → R D} {fl fh : Env → Sto → R (Option Int)} {g : D → Option Int → Option Int → Sto → R α} {W : Lo → Sto → Hp → α → Sto → Prop} (hW : ∀ {φ S H φ1 S1 H1 d S2}, W φ S H d S2 → Ext φ S H φ1 S1 H1 → W φ1 S1 H1 d S2)
    (h : ∃ φ ρ S d S1, RE X.K φ S H ρ σ ∧ RS X.K X.mg φ S H ∧ (fa ρ S).bind (fun x S1 => (fl ρ S1).bind fun p S2 => (fh ρ S2).bind fun q S3 => g x p q S3) = .ok d S1 ∧ W φ S H d S1) :
    tE X.K X.mg fa σ H fun x H1 => tP X.K X.mg fl σ H1 fun l H2 => tP X.K X.mg fh σ H2 fun u H3 => ∃ φ S a d S', RS X.K X.mg φ S H3 ∧ RV X.K φ S H3 a x ∧ g a l u S = .ok d S' ∧ W φ S H3 d S' := by
  obtain ⟨φ, ρ, S, d, S1, re, rs, e, w⟩ := h
  obtain ⟨a, S2, e1, e⟩ := bind_ok e
  refine ⟨φ, ρ, S, a, S2, re, rs, e1, fun φ1 H1 v1 x1 r1 q1 => ?_⟩
  obtain ⟨b, S3, e2, e⟩ := bind_ok e
  obtain ⟨c, S4, e3, e⟩ := bind_ok e
  refine ⟨φ1, ρ, S2, b, S3, re.mono x1, r1, e2, fun φ2 H2 x2 r2 => ?_⟩
  refine ⟨φ2, ρ, S3, c, S4, (re.mono x1).mono x2, r2, e3, fun φ3 H3 x3 r3 => ?_⟩
  exact ⟨φ3, S4, a, d, S1, r3, RV.mono (x2.trans x3) _ _ q1, e, hW w ((x1.trans x2).trans x3)⟩
theorem tL1 {fa : Env → Sto → R D} {g : D → Sto → R (List D)} (h : tL X.K X.mg (fun ρ S => (fa ρ S).bind fun x S1 => g x S1) σ H Q) :
    tE X.K X.mg fa σ H fun v1 H1 => ∃ φ S a l S', RS X.K X.mg φ S H1 ∧ RV X.K φ S H1 a v1 ∧ g a S = .ok l S' ∧ ∀ φ' H' vs p, Ext φ S H1 φ' S' H' → RS X.K X.mg φ' S' H' → RVs X.K φ' S' H' l vs → H' p = none → Q (.ref p) (upd H' p (.lst vs)) := by
  obtain ⟨φ, ρ, S, d, S1, re, rs, e, w⟩ := h
  obtain ⟨a, S2, e1, e2⟩ := bind_ok e
  exact ⟨φ, ρ, S, a, S2, re, rs, e1, fun φ1 H1 v1 x1 r1 q1 => ⟨φ1, S2, a, d, S1, r1, q1, e2, fun φ' H' vs p x r t hp => w φ' H' vs p (x1.trans x) r t hp⟩⟩
theorem tL2 {fa fb : Env → Sto → R D} {g : D → D → Sto → R (List D)} (h : tL X.K X.mg (fun ρ S => (fa ρ S).bind fun x S1 => (fb ρ S1).bind fun y S2 => g x y S2) σ H Q) :
    tE X.K X.mg fa σ H fun v1 H1 => tE X.K X.mg fb σ H1 fun v2 H2 => ∃ φ S a b l S', RS X.K X.mg φ S H2 ∧ RV X.K φ S H2 a v1 ∧ RV X.K φ S H2 b v2 ∧ g a b S = .ok l S' ∧ ∀ φ' H' vs p, Ext φ S H2 φ' S' H' → RS X.K X.mg φ' S' H' → RVs X.K φ' S' H' l vs → H' p = none → Q (.ref p) (upd H' p (.lst vs)) := by
  obtain ⟨φ, ρ, S, d, S1, re, rs, e, w⟩ := h
  obtain ⟨a, S2, e1, e2⟩ := bind_ok e
  refine ⟨φ, ρ, S, a, S2, re, rs, e1, fun φ1 H1 v1 x1 r1 q1 => ?_⟩
  obtain ⟨b, S3, e3, e4⟩ := bind_ok e2
  exact ⟨φ1, ρ, S2, b, S3, re.mono x1, r1, e3, fun φ2 H2 v2 x2 r2 q2 => ⟨φ2, S3, a, b, d, S1, r2, RV.mono x2 _ _ q1, q2, e4, fun φ' H' vs p x r t hp => w φ' H' vs p ((x1.trans x2).trans x) r t hp⟩⟩
/-- list * int, any list -/
theorem op_repR : OpR X (binaryOp .Mult) (fun x y H Q => ∃ l k xs, x = .ref l ∧ y = .int k ∧ SqL X.K H l xs ∧ -(2 ^ 63) ≤ k ∧ k < 2 ^ 63 ∧ xs.length * k.toNat ≤ sizeLine ∧ ∀ p, H p = none → Q (.ref p) (upd H p (.lst (List.replicate k.toNat xs).flatten))) := by
  intro pins s σ H x y v u Q I rx ry h
  obtain ⟨l, k, xs, rfl, rfl, hH, h1, h2, hz, q⟩ := h
  cases rx
  obtain ⟨t, rfl⟩ := ry
  obtain ⟨its, r, ⟨⟨cls, dd, data, sl⟩, n, e, hc, _, hd⟩, z⟩ := I.list hH
  simp only at hc hd
  subst hc hd
  have hl := r.length
  have hlen : its.toArray.size * k.toNat ≤ sizeLine := by rw [List.size_toArray, ← hl]; exact hz
  have hcap : ¬ its.toArray.size * k.toNat > (2 ^ 63 - 1) / 8 := by
    have : (sizeLine : Nat) ≤ (2 ^ 63 - 1) / 8 := by decide
    omega
  have hfit : ¬ (!Builtin.List.listFitsIndex k) = true := by
    rw [fitsIndex_both h1 h2]
    exact Bool.false_ne_true
  have hlong : ¬ Builtin.List.listTooLong (its.toArray.size * k.toNat) = true := by
    rw [notLongL hlen]
    exact Bool.false_ne_true
  have hnew : List.foldl (fun x1 x2 => x1 ++ x2) #[] (List.replicate (if its.toArray.isEmpty = true then 0 else k.toNat) its.toArray) = (List.replicate k.toNat its).flatten.toArray := by
    have f0 : ∀ m : Nat, List.foldl (fun x1 x2 => x1 ++ x2) #[] (List.replicate m its.toArray) = (List.replicate m its).flatten.toArray := fun m => by
      have := foldl_rep its m []
      rw [List.nil_append] at this
      exact this
    rw [f0]
    cases its with
    | nil => simp
    | cons a r' => rw [if_neg (by simp)]
  refine wpAny_binaryOp_repeat_ref (T := "list") (U := "int") (by decide) ⟨_, e, rfl⟩ (fun s' => typeIs_int s' k t) noFill_list_mul F.fills_int_mul F.slot_int_rmul repeat_list F.slot_int_index.lookup
    (call_meets F.slot_int_rmul (typeIs_int s k t) F.entry_int_rmul (F.args_int_rmul_2 _ _) (PySem.lm_int_rmul_list_any k t l its.toArray n dd sl)
      ⟨e, rfl, ⟨_, e, rfl⟩, call_meets F.slot_list_mul ⟨_, e, rfl⟩ F.entry_list_mul (F.args_list_mul_2 _ _) (PySem.lm_list_mul_any l its.toArray n dd sl k t hfit hcap hlong) ⟨e, ?_⟩⟩)
  rw [hnew]
  exact ⟨.ref _, _, I.lnew (t' := s.toks) (r.rep k.toNat) (by rw [PyProof.Rows.lm_len_rep_flat, Nat.mul_comm]; exact hz), rfl, q _ I.fresh⟩
/-- a call of a def by its name -/
theorem fc_ok {f : String} {es : List Expr} {fa : Env → Sto → R (List D)} {q pos : Pos} (x : XC p C X) (hf : f ∈ p.fns) (hg : Gl X (Str.ofString f)) (hn : nameOk (Str.ofString f) = true) (hp : es.all noStar = true) (ha : PA X es (tA X.K X.mg fa))
    (h0 : es = [] → fa = fun _ S => .ok [] S) :
    PE X (.Call (.Name (Str.ofString f) q) es [] pos) (tE X.K X.mg fun ρ S => (fa ρ S).bind fun l S1 => C.fn f l S1) := by
  obtain ⟨a, hm, fd, ps, k, n, hk, ⟨hb, _⟩, hr, hlen, F⟩ := x.fns f hf
  have hr := hr.mono (Nat.le_succ k)
  have red : ∀ σ H Q, tE X.K X.mg (fun ρ S => (fa ρ S).bind fun l S1 => C.fn f l S1) σ H Q → tCall (spC C X.K X.mg n f) [] E0 (tA X.K X.mg fa) σ H Q := by
    intro σ H Q ⟨φ, ρ, S, d, S1, re, rs, e, w⟩
    obtain ⟨l, S2, e1, e2⟩ := bind_ok e
    refine ⟨φ, ρ, S, l, S2, re, rs, e1, fun φ' H' vs xx r t => ?_⟩
    show spC C X.K X.mg n f (vs ++ []) H' Q E0
    rw [List.append_nil]
    exact ⟨φ', S2, l, d, S1, r, t, hlen _ _ _ _ e2, e2, w.step xx⟩
  cases es with
  | nil =>
    have h0 := h0 rfl
    refine PE.imp (pe_call0 F hr hg hm hk hb .nil pass0 (nameOk_iff hn).1) fun σ H Q ⟨φ, ρ, S, d, S1, re, rs, e, w⟩ => ?_
    rw [h0] at e
    exact ⟨φ, S, [], d, S1, rs, .nil, hlen _ _ _ _ e, e, w⟩
  | cons e es =>
    rw [List.all_cons, Bool.and_eq_true] at hp
    exact PE.imp (pe_call F hr hg hm hk hb .nil pass0 ha (nameOk_iff hn).1 (star_cons hp.1) (plain_star hp.2)) red
/-- a built-in's call -/
theorem biE_ok {b : String} {es : List Expr} {fa : Env → Sto → R (List D)} {q pos : Pos} (x : XC p C X) (hb : b ∈ p.bts) (hbi : (bis.contains b && (coolB b || !p.hot)) = true) (hg : Gl X (Str.ofString b)) (hp : es.all noStar = true) (hne : es ≠ []) (ha : PA X es (tA X.K X.mg fa)) :
    PE X (.Call (.Name (Str.ofString b) q) es [] pos) (tE X.K X.mg fun ρ S => (fa ρ S).bind fun l S1 => R.of (biD S1 b l) S1) := by
  obtain ⟨hbi, hcool⟩ := band2 hbi
  obtain ⟨hc, hv, h1, h2⟩ := bi_ok (X := X) b (mem_of_contains hbi) fun q => x.calm (by rw [q] at hcool; simpa using hcool)
  have hm := x.bts b hb
  have red : ∀ σ H Q, tE X.K X.mg (fun ρ S => (fa ρ S).bind fun l S1 => R.of (biD S1 b l) S1) σ H Q → tCB (rB X.K X.mg fun S ds => biD S b ds) (tA X.K X.mg fa) σ H Q := by
    intro σ H Q ⟨φ, ρ, S, d, S1, re, rs, e, w⟩
    obtain ⟨l, S2, e1, e2⟩ := bind_ok e
    obtain ⟨e2, e3⟩ := of_ok e2
    subst e3
    exact ⟨φ, ρ, S, l, S1, re, rs, e1, fun φ' H' vs xx r t => ⟨φ', S1, l, d, r, t, e2, w.step xx⟩⟩
  cases es with
  | nil => exact absurd rfl hne
  | cons e es =>
    rw [List.all_cons, Bool.and_eq_true] at hp
    unfold biV at hc hv
    cases hT : biT b with
    | true =>
      rw [hT] at hc hv
      exact PE.imp (pe_callTy hc hg hm hv ha h1 h2 (star_cons hp.1) (plain_star hp.2)) red
    | false =>
      rw [hT] at hc hv
      exact PE.imp (pe_callB hc hg hm hv ha h1 h2 (star_cons hp.1) (plain_star hp.2)) red
theorem okEs_plain {N : List Str} : ∀ {es : Es} {sc : Scope} {fn : Str → Bool} {l : List Expr}, okEs p N es sc fn l = true → l.all noStar = true
  | .nil, sc, fn, [], h => rfl
  | .nil, sc, fn, _ :: _, h => by unfold okEs at h; cases h
  | .cons e r, sc, fn, [], h => by unfold okEs at h; cases h
  | .cons e r, sc, fn, x :: l, h => by
    unfold okEs at h
    obtain ⟨h1, h2⟩ := band2 h
    obtain ⟨h3, h4⟩ := band2 h1
    rw [List.all_cons, plain_noStar h3, okEs_plain h2]; rfl
theorem okEs_nil {N : List Str} {es : Es} {sc : Scope} {fn : Str → Bool} (h : okEs p N es sc fn [] = true) : evEs C es = fun _ S => .ok [] S := by
  cases es with
  | nil => rfl
  | cons e r => unfold okEs at h; cases h
/-- a test by the value's truth -/
theorem pt_of {e : Expr} {f : Env → Sto → R D} (h : PE X e (tE X.K X.mg f)) (hp : plainT e = true) : PT X e (tT X.K X.mg fun ρ S => (f ρ S).bind fun x S1 => R.of (truD S1 x) S1) := by
  refine PT.imp (pt_truth h (plain_true hp)) fun σ H Q ⟨φ, ρ, S, b, S1, re, rs, e, w⟩ => ?_
  obtain ⟨a, S2, e1, e2⟩ := bind_ok e
  obtain ⟨e2, e3⟩ := of_ok e2
  subst e3
  exact ⟨φ, ρ, S, a, S1, re, rs, e1, fun φ' H' v x r t => ⟨b, tru_at r e2 t, w φ' H' x r⟩⟩
end
section
variable {X : Cx} {d : Addr} {es : Array DictEntry} {n : Nat} {o e f : Expr} {td ty tx : TE} {apos cpos : Pos}
def tKGet2 (K : PySem.W.Frag) (d : Addr) (td ty tx : TE) : TE := fun σ H Q => td σ H fun x H1 => x = .ref d ∧ ty σ H1 fun y H2 => tx σ H2 fun z H3 => ∃ (s : Str) (r : Option Value), y = .str s ∧ PySem.W.nsIn K d s = some r ∧
  match r with
  | some u => ∃ v, L2.RelV v u ∧ Q v H3
  | none => Q z H3
theorem pe_kget2 (D : KDict X.K X.w d es n) (ho : PE X o td) (he : PE X e ty) (hf : PE X f tx) (m : M2 X o "get" apos e f cpos) : PE X (.Call (.Attribute o "get" apos) [e, f] [] cpos) (tKGet2 X.K d td ty tx) := by
  refine ⟨fun pins s σ H Q I h => ?_⟩
  refine wpAny_Call_method m.base m.few m.line PySem.F.plainAttrs_dict PySem.F.slot_dict_get PySem.F.type_dict_get (thn (ho.run pins s σ H _ I h) fun u s1 ⟨x, H1, I1, rx, ex, q1⟩ => ?_)
  subst ex
  obtain rfl : u = Value.ref d := rx
  refine ⟨kd_type D I1, fun b q => by cases q; exact ⟨_, I1.kIn _ _ D.at_, rfl⟩, ?_⟩
  rw [m.trees]
  refine Calls.callWith_builtin rfl (Calls.evalArgs_plain (Calls.spliced_cons (thn (he.run pins s1 σ H1 _ I1 q1) fun iv s2 ⟨y, H2, I2, ry, q2⟩ =>
    Calls.spliced_cons (thn (hf.run pins s2 σ H2 _ I2 q2) fun fv s3 ⟨z, H3, I3, rz, z0, r, ey, hn, q3⟩ => Calls.spliced_nil ?_))))
  subst ey
  obtain ⟨t, rfl⟩ := ry
  have mp := PySem.W.mapOf_K (prog := X.prog) (w := X.w) I3.kIn D.at_ D.lit
  refine call_meetsIn PySem.F.slot_dict_get (kd_type D I3) PySem.F.entry_dict_get (PySem.F.args_dict_get_3 _ _ _) (meets_dict_get_default _ d (PySem.strKind_is X.prog X.w z0 t) D.low fv) ⟨_, mp, ?_⟩
  rw [PySem.W.find_K D.at_ hn]
  cases r with
  | none => exact ⟨z, H3, I3.tok _, rz, q3⟩
  | some u =>
    obtain ⟨v, rv, q⟩ := q3
    exact ⟨v, H3, I3.tok _, rv, q⟩
def kvsOf (l : List (String × String)) : List (Key × V) := l.map fun q => (Sum.inr (Str.ofString q.1), V.str (Str.ofString q.2))
abbrev trsOf (l : List (String × String)) : List (TE × TE) := l.map fun q => (tC (.str (Str.ofString q.1)), tC (.str (Str.ofString q.2)))
theorem pps_of {X : Cx} {pos : Pos} : ∀ {l : List (String × String)} {ks : List (Option Expr)} {vs : List Expr}, dpOk l ks vs = true → PPs X pos ks vs (trsOf l) ∧ ks.all (·.isSome) = true ∧ ks.length = vs.length ∧ ks.length = l.length
  | [], ks, vs, h => by
    unfold dpOk at h
    split at h
    · exact ⟨pps_nil, rfl, rfl, rfl⟩
    · rename_i e; cases e
    · cases h
  | q :: l, ks, vs, h => by
    unfold dpOk at h
    split at h
    · rename_i e; cases e
    · rename_i e
      cases e
      obtain ⟨h, h3⟩ := band2 h
      obtain ⟨h1, h2⟩ := band2 h
      have e1 := of_decide_eq_true h1
      have e2 := of_decide_eq_true h2
      subst e1 e2
      obtain ⟨a, b, c, d⟩ := pps_of (X := X) (pos := pos) h3
      exact ⟨pps_cons pe_str pe_str a, by simpa using b, by simp [c], by simp [d]⟩
    · cases h
theorem tPairs_of {σ : L2.St} {H : Hp} {Q : List (V × V) → Hp → Prop} : ∀ {l : List (String × String)}, Q (l.map fun q => (V.str (Str.ofString q.1), V.str (Str.ofString q.2))) H → tPairs (trsOf l) σ H Q
  | [], h => h
  | q :: l, h => tPairs_of (l := l) (Q := fun ps H3 => Q ((V.str (Str.ofString q.1), V.str (Str.ofString q.2)) :: ps) H3) h
theorem valV_merge (k : Key) : ∀ (more kvs : List (Key × V)) (z : V), (valV (mergeK kvs more) k).getD z = more.foldl (fun r kv => if k = kv.1 then kv.2 else r) ((valV kvs k).getD z)
  | [], kvs, z => rfl
  | p :: r, kvs, z => by
    show (valV (mergeK (putK kvs p.1 p.2) r) k).getD z = _
    rw [valV_merge k r, valV_put, List.foldl_cons]
    by_cases h : k = p.1
    · rw [if_pos h, if_pos h] <;> rfl
    · rw [if_neg h, if_neg h]
theorem wget_fold {K : PySem.W.Frag} {φ : Lo} {S : Sto} {H : Hp} (s : Str) : ∀ (l : List (String × String)) {z : MI.D} {v : V}, RV K φ S H z v →
    RV K φ S H (l.foldl (fun r kv => if s = Str.ofString kv.1 then .str (Str.ofString kv.2) else r) z) ((kvsOf l).foldl (fun r kv => if (Sum.inr s : Key) = kv.1 then kv.2 else r) v)
  | [], _, _, r => r
  | q :: l, z, v, r => by
    show RV K φ S H (l.foldl _ _) ((kvsOf l).foldl _ _)
    refine wget_fold s l ?_
    show RV K φ S H (if s = Str.ofString q.1 then .str (Str.ofString q.2) else z) (if (Sum.inr s : Key) = Sum.inr (Str.ofString q.1) then V.str (Str.ofString q.2) else v)
    by_cases h : s = Str.ofString q.1
    · rw [if_pos h, if_pos (by rw [h])]
      exact rvstr.mpr rfl
    · rw [if_neg h, if_neg (fun z => h (Sum.inr.inj z))]
      exact r
theorem wget_ok {p : Par} {C : Ctx} {X : Cx} (x : XC p C X) {l : List (String × String)} {ks : List (Option Expr)} {vs : List Expr} {pos apos cpos : Pos} {pk pf : Expr} {fa fb : Env → Sto → R MI.D} (hd : dpOk l ks vs = true) (h0 : l.isEmpty = false) (h15 : l.length ≤ 15) (h1 : plainE pk = true) (h2 : plainE pf = true) (hl : (apos.endLine == cpos.line) = true)
    (ha : PE X pk (tE X.K X.mg fa)) (hb : PE X pf (tE X.K X.mg fb)) : PE X (.Call (.Attribute (.Dict ks vs pos) "get" apos) [pk, pf] [] cpos) (tE X.K X.mg fun ρ S => (fa ρ S).bind fun u S1 => (fb ρ S1).bind fun z S2 => R.of (wgetD l u z) S2) := by
  obtain ⟨a, b, c, d⟩ := pps_of (X := X) (pos := pos) hd
  have hs : starEach [pk, pf] X.env = [(false, eval pk X.env), (false, eval pf X.env)] := by rw [star_cons (plain_noStar h1), star_cons (plain_noStar h2)]; rfl
  have ne : ks ≠ [] := fun z => by
    rw [z] at d
    cases l with
    | nil => cases h0
    | cons q l => cases d
  refine PE.imp (pe_dget2 (by have := x.hu; omega) (pe_disp a b c ne (by omega)) ha hb ⟨rfl, by rw [hs]; rfl, hl, by rw [hs]; rfl⟩) fun σ H Q ⟨φ, ρ, S, dd, S1, re, rs, e, w⟩ => ?_
  intro P hP
  have len : (kvsOf l).length ≤ 15 := by unfold kvsOf; rw [List.length_map]; exact h15
  refine tPairs_of ⟨upd_same, kvsOf l, by unfold kvsOf; rw [List.map_map]; rfl, len, P, rfl, .inl ⟨_, .inl upd_same⟩, ?_⟩
  obtain ⟨u, S2, e1, e⟩ := bind_ok e
  obtain ⟨z, S3, e2, e⟩ := bind_ok e
  obtain ⟨e4, e5⟩ := of_ok e
  subst e5
  have hc : upd (upd H P (.dK [])) P (.dK (mergeK [] (kvsOf l))) = upd H P (.dK (mergeK [] (kvsOf l))) := by
    funext b
    by_cases q : b = P
    · rw [q, upd_same, upd_same]
    · rw [upd_ne q, upd_ne q, upd_ne q]
  rw [hc]
  have m0 : P ∈ (⟨φ.hs, P :: φ.bs⟩ : Lo).bs := List.mem_cons_self
  refine ⟨⟨φ.hs, P :: φ.bs⟩, ρ, S, u, S2, re.mo (Mo.open hP), rs.open hP, e1, fun φ1 H1 v1 x1 r1 q1 => ⟨φ1, ρ, S2, z, S1, (re.mo (Mo.open hP)).mono x1, r1, e2, fun φ2 H2 v2 x2 r2 q2 => ?_⟩⟩
  have b1 : φ1.bs = P :: φ.bs := x1.bs
  have b2 : φ2.bs = P :: φ.bs := x2.bs.trans b1
  have k1 : H2 P = some (.dK (mergeK [] (kvsOf l))) := (x2.kb P (by rw [b1]; exact List.mem_cons_self)).trans ((x1.kb P m0).trans upd_same)
  obtain ⟨hs2, bs2⟩ := φ2
  have b2 : bs2 = P :: φ.bs := b2
  subst b2
  cases u <;> first | (cases e4; done) | skip
  rename_i s hshadow
  rw [rvstr] at q1
  subst q1
  refine ⟨_, DGet.k (k := Sum.inr s) k1, ?_⟩
  have e4 := Option.some.inj e4
  have hne : ∀ b ∈ φ.bs, b ≠ P := fun b hb z => rs.btrk b hb (by rw [z]; exact hP)
  have ex : Ext φ S H ⟨hs2, φ.bs⟩ S1 H2 := ⟨(Mo.open hP).trans (x1.mo.trans (x2.mo.trans Mo.close)), rfl, fun b hb => (x2.kb b (by rw [b1]; exact List.mem_cons_of_mem _ hb)).trans ((x1.kb b (List.mem_cons_of_mem _ hb)).trans (upd_ne (hne b hb)))⟩
  have rv : RV X.K ⟨hs2, φ.bs⟩ S1 H2 z v2 := RV.mo Mo.close z v2 q2
  rw [valV_merge]
  rw [← e4] at w
  exact w _ _ _ ex r2.close (wget_fold s l rv)
theorem kget_ok {p : Par} {C : Ctx} {X : Cx} (x : XC p C X) {y : String} {q apos cpos : Pos} {pk pf : Expr} {fa fb : Env → Sto → R MI.D} (ht : p.tabs.contains y = true) (hg : Gl X (Str.ofString y)) (hn : nameOk (Str.ofString y) = true) (h1 : plainE pk = true) (h2 : plainE pf = true) (hl : (apos.endLine == cpos.line) = true)
    (ha : PE X pk (tE X.K X.mg fa)) (hb : PE X pf (tE X.K X.mg fb)) : PE X (.Call (.Attribute (.Name (Str.ofString y) q) "get" apos) [pk, pf] [] cpos) (tE X.K X.mg fun ρ S => (fa ρ S).bind fun u S1 => (fb ρ S1).bind fun z S2 => R.of (kgetD (C.glo y) u z) S2) := by
  obtain ⟨l, d, es, n, g1, g2, D, g3⟩ := x.tabs y (mem_of_contains ht)
  obtain ⟨n1, n2, n3⟩ := nameOk_iff hn
  have hs : starEach [pk, pf] X.env = [(false, eval pk X.env), (false, eval pf X.env)] := by rw [star_cons (plain_noStar h1), star_cons (plain_noStar h2)]; rfl
  refine PE.imp (pe_kget2 D (pe_glob hg g2 (v := .ref d) rfl n1) ha hb ⟨rfl, by rw [hs]; rfl, hl, by rw [hs]; rfl⟩) fun σ H Q ⟨φ, ρ, S, dd, S1, re, rs, e, w⟩ => ?_
  refine ⟨rfl, ?_⟩
  obtain ⟨u, S2, e1, e⟩ := bind_ok e
  obtain ⟨z, S3, e2, e⟩ := bind_ok e
  obtain ⟨e4, e5⟩ := of_ok e
  subst e5
  refine ⟨φ, ρ, S, u, S2, re, rs, e1, fun φ1 H1 v1 x1 r1 q1 => ⟨φ1, ρ, S2, z, S1, re.mono x1, r1, e2, fun φ2 H2 v2 x2 r2 q2 => ?_⟩⟩
  rw [g1] at e4
  cases u <;> first | (cases e4; done) | skip
  rename_i s hshadow
  rw [rvstr] at q1
  subst q1
  have e4 : (match rowD l s with
    | some (some v) => some v
    | some none => some z
    | none => none) = some dd := e4
  cases hr : rowD l s with
  | none => rw [hr] at e4; cases e4
  | some r =>
    rw [hr] at e4
    have hrow := g3 s r hr
    cases r with
    | none =>
      cases e4
      exact ⟨s, none, rfl, hrow, w φ2 H2 _ (x1.trans x2) r2 q2⟩
    | some dv =>
      cases e4
      obtain ⟨u0, v0, k1, k2, k3⟩ := hrow
      exact ⟨s, some u0, rfl, k1, v0, k2, w φ2 H2 _ (x1.trans x2) r2 (k3 _ _ _)⟩
end
/-! a written dict of texts to numbers -/
section
def kvsI (l : List (String × Int)) : List (Key × V) := l.map fun q => (Sum.inr (Str.ofString q.1), V.int q.2)
abbrev trsI (l : List (String × Int)) : List (TE × TE) := l.map fun q => (tC (.str (Str.ofString q.1)), tC (.int q.2))
theorem ppsI_of {X : Cx} {pos : Pos} : ∀ {l : List (String × Int)} {ks : List (Option Expr)} {vs : List Expr}, dpOkI l ks vs = true → PPs X pos ks vs (trsI l) ∧ ks.all (·.isSome) = true ∧ ks.length = vs.length ∧ ks.length = l.length
  | [], ks, vs, h => by
    unfold dpOkI at h
    split at h
    · exact ⟨pps_nil, rfl, rfl, rfl⟩
    · rename_i e; cases e
    · cases h
  | q :: l, ks, vs, h => by
    unfold dpOkI at h
    split at h
    · rename_i e; cases e
    · rename_i e
      cases e
      obtain ⟨h, h3⟩ := band2 h
      obtain ⟨h1, h2⟩ := band2 h
      have e1 := of_decide_eq_true h1
      have e2 := of_decide_eq_true h2
      subst e1 e2
      obtain ⟨a, b, c, d⟩ := ppsI_of (X := X) (pos := pos) h3
      exact ⟨pps_cons pe_str pe_int a, by simpa using b, by simp [c], by simp [d]⟩
    · cases h
theorem tPairsI_of {σ : L2.St} {H : Hp} {Q : List (V × V) → Hp → Prop} : ∀ {l : List (String × Int)}, Q (l.map fun q => (V.str (Str.ofString q.1), V.int q.2)) H → tPairs (trsI l) σ H Q
  | [], h => h
  | q :: l, h => tPairsI_of (l := l) (Q := fun ps H3 => Q ((V.str (Str.ofString q.1), V.int q.2) :: ps) H3) h
theorem valV_mergeO (k : Key) : ∀ (more kvs : List (Key × V)), valV (mergeK kvs more) k = more.foldl (fun r kv => if k = kv.1 then some kv.2 else r) (valV kvs k)
  | [], kvs => rfl
  | p :: r, kvs => by
    show valV (mergeK (putK kvs p.1 p.2) r) k = _
    rw [valV_mergeO k r, valV_put, List.foldl_cons]
theorem wix_fold (s : Str) : ∀ (l : List (String × Int)) {z : Option MI.D} {v : Option V}, (z = none ∧ v = none ∨ ∃ i : Int, z = some (.int i) ∧ v = some (.int i)) → ∀ d, (l.foldl (fun r kv => if s = Str.ofString kv.1 then some (MI.D.int kv.2) else r) z) = some d → ∃ i : Int, d = .int i ∧ ((kvsI l).foldl (fun r kv => if (Sum.inr s : Key) = kv.1 then some kv.2 else r) v) = some (.int i)
  | [], z, v, h, d, e => by
    rcases h with ⟨rfl, _⟩ | ⟨i, rfl, rfl⟩
    · cases e
    · cases e; exact ⟨i, rfl, rfl⟩
  | q :: l, z, v, h, d, e => by
    rw [List.foldl_cons] at e
    refine wix_fold s l (v := if (Sum.inr s : Key) = Sum.inr (Str.ofString q.1) then some (V.int q.2) else v) ?_ d e
    by_cases hs : s = Str.ofString q.1
    · rw [if_pos hs, if_pos (by rw [hs])]
      exact .inr ⟨q.2, rfl, rfl⟩
    · rw [if_neg hs, if_neg (fun z => hs (Sum.inr.inj z))]
      exact h
theorem noSl_of {e : Expr} (h : plainE e = true) : NoSl e := fun ov iv => by cases e <;> first | rfl | cases h
theorem wix_ok {p : Par} {C : Ctx} {X : Cx} (x : XC p C X) {l : List (String × Int)} {ks : List (Option Expr)} {vs : List Expr} {pos pos2 : Pos} {pk : Expr} {fa : Env → Sto → R MI.D} (hd : dpOkI l ks vs = true) (h0 : l.isEmpty = false) (h15 : l.length ≤ 15) (h1 : plainE pk = true)
    (ha : PE X pk (tE X.K X.mg fa)) : PE X (.Subscript (.Dict ks vs pos) pk pos2) (tE X.K X.mg fun ρ S => (fa ρ S).bind fun u S1 => R.of (wixD l u) S1) := by
  obtain ⟨a, b, c, d⟩ := ppsI_of (X := X) (pos := pos) hd
  have ne : ks ≠ [] := fun z => by
    rw [z] at d
    cases l with
    | nil => cases h0
    | cons q l => cases d
  refine PE.imp (pe_dget (by have := x.hu; omega) (pe_disp a b c ne (by omega)) ha (noSl_of h1)) fun σ H Q ⟨φ, ρ, S, dd, S1, re, rs, e, w⟩ => ?_
  intro P hP
  have len : (kvsI l).length ≤ 15 := by unfold kvsI; rw [List.length_map]; exact h15
  refine tPairsI_of ⟨upd_same, kvsI l, by unfold kvsI; rw [List.map_map]; rfl, len, ?_⟩
  obtain ⟨u, S2, e1, e⟩ := bind_ok e
  obtain ⟨e4, e5⟩ := of_ok e
  subst e5
  have hc : upd (upd H P (.dK [])) P (.dK (mergeK [] (kvsI l))) = upd H P (.dK (mergeK [] (kvsI l))) := by
    funext b
    by_cases q : b = P
    · rw [q, upd_same, upd_same]
    · rw [upd_ne q, upd_ne q, upd_ne q]
  rw [hc]
  have m0 : P ∈ (⟨φ.hs, P :: φ.bs⟩ : Lo).bs := List.mem_cons_self
  refine ⟨⟨φ.hs, P :: φ.bs⟩, ρ, S, u, S1, re.mo (Mo.open hP), rs.open hP, e1, fun φ1 H1 v1 x1 r1 q1 => ?_⟩
  have b1 : φ1.bs = P :: φ.bs := x1.bs
  have k1 : H1 P = some (.dK (mergeK [] (kvsI l))) := (x1.kb P m0).trans upd_same
  obtain ⟨hs1, bs1⟩ := φ1
  have b1 : bs1 = P :: φ.bs := b1
  subst b1
  cases u <;> first | (cases e4; done) | skip
  rename_i s
  rw [rvstr] at q1
  subst q1
  obtain ⟨i, rfl, ef⟩ := wix_fold s l (.inl ⟨rfl, rfl⟩) dd e4
  have hne : ∀ b ∈ φ.bs, b ≠ P := fun b hb z => rs.btrk b hb (by rw [z]; exact hP)
  have ex : Ext φ S H ⟨hs1, φ.bs⟩ S1 H1 := ⟨(Mo.open hP).trans (x1.mo.trans Mo.close), rfl, fun b hb => (x1.kb b (List.mem_cons_of_mem _ hb)).trans (upd_ne (hne b hb))⟩
  have hv : valV (mergeK [] (kvsI l)) (Sum.inr s) = some (.int i) := by
    rw [valV_mergeO]; exact ef
  refine ⟨P, .int i, rfl, ?_, w _ _ _ ex r1.close (rvint.mpr rfl)⟩
  rw [← hv]
  exact DGet.k (k := Sum.inr s) k1
end
theorem kin_ok {p : Par} {C : Ctx} {X : Cx} (x : XC p C X) {y : String} {neg : Bool} {q pos : Pos} {pk : Expr} {fa : Env → Sto → R MI.D} (ht : p.tabs.contains y = true) (hg : Gl X (Str.ofString y)) (hn : nameOk (Str.ofString y) = true)
    (ha : PE X pk (tE X.K X.mg fa)) : PE X (.Compare pk [if neg = true then CmpOp.NotIn else CmpOp.In] [.Name (Str.ofString y) q] pos) (tE X.K X.mg fun ρ S => (fa ρ S).bind fun u S1 => R.of ((kinD (C.glo y) u).map fun b => .bl (b != neg)) S1) := by
  obtain ⟨l, d, es, n, g1, g2, D, g3⟩ := x.tabs y (mem_of_contains ht)
  obtain ⟨n1, n2, n3⟩ := nameOk_iff hn
  have key : ∀ {σ H Q}, tE X.K X.mg (fun ρ S => (fa ρ S).bind fun u S1 => R.of ((kinD (C.glo y) u).map fun b => .bl (b != neg)) S1) σ H Q → tE X.K X.mg fa σ H fun v1 H1 => ∃ (z : Str) (r : Option Value), v1 = .str z ∧ PySem.W.nsIn X.K d z = some r ∧ Q (.bl (r.isSome != neg)) H1 := by
    intro σ H Q ⟨φ, ρ, S, dd, S1, re, rs, e, w⟩
    obtain ⟨u, S2, e1, e⟩ := bind_ok e
    obtain ⟨e4, e5⟩ := of_ok e
    subst e5
    obtain ⟨b, e6, rfl⟩ := Option.map_eq_some_iff.mp e4
    refine ⟨φ, ρ, S, u, S1, re, rs, e1, fun φ1 H1 v1 x1 r1 q1 => ?_⟩
    rw [g1] at e6
    cases u <;> first | (cases e6; done) | skip
    rename_i s
    rw [rvstr] at q1
    subst q1
    obtain ⟨r, hr, rfl⟩ := Option.map_eq_some_iff.mp (show (rowD l s).map Option.isSome = some b from e6)
    have hrow := g3 s r hr
    cases r with
    | none => exact ⟨s, none, rfl, hrow, w φ1 H1 _ x1 r1 rv_bl⟩
    | some dv =>
      obtain ⟨u0, v0, k1, k2, k3⟩ := hrow
      exact ⟨s, some u0, rfl, k1, w φ1 H1 _ x1 r1 rv_bl⟩
  cases neg with
  | false =>
    refine PE.imp (pe_cmpR (op_in_kd D) ha (pe_glob hg g2 (v := .ref d) rfl n1) rfl) fun σ H Q h => ?_
    obtain ⟨φ, ρ, S, u, S1, re, rs, e, w⟩ := key h
    refine ⟨φ, ρ, S, u, S1, re, rs, e, fun φ1 H1 v1 x1 r1 q1 => ?_⟩
    obtain ⟨z, r, rfl, h1, h2⟩ := w φ1 H1 v1 x1 r1 q1
    exact ⟨z, r, rfl, rfl, h1, by simpa using h2⟩
  | true =>
    refine PE.imp (pe_cmpR (op_notIn_kd D) ha (pe_glob hg g2 (v := .ref d) rfl n1) rfl) fun σ H Q h => ?_
    obtain ⟨φ, ρ, S, u, S1, re, rs, e, w⟩ := key h
    refine ⟨φ, ρ, S, u, S1, re, rs, e, fun φ1 H1 v1 x1 r1 q1 => ?_⟩
    obtain ⟨z, r, rfl, h1, h2⟩ := w φ1 H1 v1 x1 r1 q1
    exact ⟨z, r, rfl, rfl, h1, by simpa using h2⟩
theorem kinT_ok {p : Par} {C : Ctx} {X : Cx} (x : XC p C X) {y : String} {neg : Bool} {q pos : Pos} {pk : Expr} {fa : Env → Sto → R MI.D} (ht : p.tabs.contains y = true) (hg : Gl X (Str.ofString y)) (hn : nameOk (Str.ofString y) = true)
    (ha : PE X pk (tE X.K X.mg fa)) : PT X (.Compare pk [if neg = true then CmpOp.NotIn else CmpOp.In] [.Name (Str.ofString y) q] pos) (tT X.K X.mg fun ρ S => (fa ρ S).bind fun u S1 => R.of ((kinD (C.glo y) u).map fun b => b != neg) S1) := by
  obtain ⟨l, d, es, n, g1, g2, D, g3⟩ := x.tabs y (mem_of_contains ht)
  obtain ⟨n1, n2, n3⟩ := nameOk_iff hn
  have key : ∀ {σ H} {Q : Bool → Hp → Prop}, tT X.K X.mg (fun ρ S => (fa ρ S).bind fun u S1 => R.of ((kinD (C.glo y) u).map fun b => b != neg) S1) σ H Q → tE X.K X.mg fa σ H fun v1 H1 => ∃ (z : Str) (r : Option Value), v1 = .str z ∧ PySem.W.nsIn X.K d z = some r ∧ Q (r.isSome != neg) H1 := by
    intro σ H Q ⟨φ, ρ, S, dd, S1, re, rs, e, w⟩
    obtain ⟨u, S2, e1, e⟩ := bind_ok e
    obtain ⟨e4, e5⟩ := of_ok e
    subst e5
    obtain ⟨b, e6, rfl⟩ := Option.map_eq_some_iff.mp e4
    refine ⟨φ, ρ, S, u, S1, re, rs, e1, fun φ1 H1 v1 x1 r1 q1 => ?_⟩
    rw [g1] at e6
    cases u <;> first | (cases e6; done) | skip
    rename_i s
    rw [rvstr] at q1
    subst q1
    obtain ⟨r, hr, rfl⟩ := Option.map_eq_some_iff.mp (show (rowD l s).map Option.isSome = some b from e6)
    have hrow := g3 s r hr
    cases r with
    | none => exact ⟨s, none, rfl, hrow, w φ1 H1 x1 r1⟩
    | some dv =>
      obtain ⟨u0, v0, k1, k2, k3⟩ := hrow
      exact ⟨s, some u0, rfl, k1, w φ1 H1 x1 r1⟩
  cases neg with
  | false =>
    refine PT.imp (pt_cmpR (op_in_kd D) ha (pe_glob hg g2 (v := .ref d) rfl n1) rfl) fun σ H Q h => ?_
    obtain ⟨φ, ρ, S, u, S1, re, rs, e, w⟩ := key h
    refine ⟨φ, ρ, S, u, S1, re, rs, e, fun φ1 H1 v1 x1 r1 q1 => ?_⟩
    obtain ⟨z, r, rfl, h1, h2⟩ := w φ1 H1 v1 x1 r1 q1
    exact ⟨z, r, rfl, rfl, h1, _, rfl, by simpa using h2⟩
  | true =>
    refine PT.imp (pt_cmpR (op_notIn_kd D) ha (pe_glob hg g2 (v := .ref d) rfl n1) rfl) fun σ H Q h => ?_
    obtain ⟨φ, ρ, S, u, S1, re, rs, e, w⟩ := key h
    refine ⟨φ, ρ, S, u, S1, re, rs, e, fun φ1 H1 v1 x1 r1 q1 => ?_⟩
    obtain ⟨z, r, rfl, h1, h2⟩ := w φ1 H1 v1 x1 r1 q1
    exact ⟨z, r, rfl, rfl, h1, _, rfl, by simpa using h2⟩
theorem kix_ok {p : Par} {C : Ctx} {X : Cx} (x : XC p C X) {y : String} {q pos : Pos} {pk : Expr} {fa : Env → Sto → R MI.D} (ht : p.tabs.contains y = true) (hg : Gl X (Str.ofString y)) (hn : nameOk (Str.ofString y) = true) (hp : plainE pk = true)
    (ha : PE X pk (tE X.K X.mg fa)) : PE X (.Subscript (.Name (Str.ofString y) q) pk pos) (tE X.K X.mg fun ρ S => (fa ρ S).bind fun u S1 => R.of (kixD (C.glo y) u) S1) := by
  obtain ⟨l, d, es, n, g1, g2, D, g3⟩ := x.tabs y (mem_of_contains ht)
  obtain ⟨n1, n2, n3⟩ := nameOk_iff hn
  have hix : IxR X (fun x y H Q => ∃ (z : Str) (u0 : Value) (v0 : V), x = .ref d ∧ y = .str z ∧ PySem.W.nsIn X.K d z = some (some u0) ∧ RelV v0 u0 ∧ Q v0 H) := by
    intro value slice pins s σ H x y v u Q I rx ry h hs
    obtain ⟨z, u0, v0, rfl, rfl, hk, r0, q0⟩ := h
    obtain rfl : v = Value.ref d := rx
    exact tail_any (kd_type D I) slot_dict_getitem.lookup (op_item_kd D pins s σ H (.ref d) (.str z) (.ref d) u Q I rfl ry ⟨z, u0, v0, rfl, rfl, hk, r0, q0⟩) hs
  refine PE.imp (pe_ix hix (pe_glob hg g2 (v := .ref d) rfl n1) ha (plain_ix hp)) fun σ H Q ⟨φ, ρ, S, dd, S1, re, rs, e, w⟩ => ?_
  obtain ⟨u, S2, e1, e⟩ := bind_ok e
  obtain ⟨e4, e5⟩ := of_ok e
  subst e5
  refine ⟨φ, ρ, S, u, S1, re, rs, e1, fun φ1 H1 v1 x1 r1 q1 => ?_⟩
  rw [g1] at e4
  cases u <;> first | (cases e4; done) | skip
  rename_i s
  rw [rvstr] at q1
  subst q1
  have e4 : (match rowD l s with
    | some (some v) => some v
    | _ => none) = some dd := e4
  cases hr : rowD l s with
  | none => rw [hr] at e4; cases e4
  | some r =>
    rw [hr] at e4
    have hrow := g3 s r hr
    cases r with
    | none => cases e4
    | some dv =>
      cases e4
      obtain ⟨u0, v0, k1, k2, k3⟩ := hrow
      exact ⟨s, u0, v0, rfl, rfl, k1, k2, w φ1 H1 _ x1 r1 (k3 _ _ _)⟩
/-- a lambda that is handed on -/
theorem lam_ok {p : Par} {C : Ctx} {X : Cx} (x : XC p C X) (hl : p.lam = true) {params : Arguments} {body : Expr} {scope : Scope} {pos : Pos} (h1 : params.defaults.isEmpty = true) (h2 : params.kw_defaults.isEmpty = true)
    (hf : ∀ y ∈ scope.names, y.2 = .free → X.env.scope.names.lookup y.1 = some .cell ∨ X.env.scope.names.lookup y.1 = some .free) : PE X (.Lambda params body scope pos) (tE X.K X.mg fun _ S => .ok (.ref S.length) (S ++ [.dead])) := by
  obtain ⟨c, P, hc, TBB, ht, hu⟩ := x.lam hl
  have hdef : defaultsOf params X.env = ([], []) := by
    obtain ⟨a, b, cc, dd, e, f, g⟩ := params
    have h1 : g.isEmpty = true := h1
    have h2 : e.isEmpty = true := h2
    cases g with
    | cons _ _ => cases h1
    | nil =>
      cases e with
      | cons _ _ => cases h2
      | nil => rfl
  refine PE.imp (pe_lam TBB hc hdef hf) fun σ H Q ⟨φ, ρ, S, d, S1, re, rs, e, w⟩ => ?_
  cases e
  refine ⟨rs.tb.tabS ht, fun f H1 st nf => ?_⟩
  obtain ⟨x1, r1⟩ := lam_ext rs ht hu st
  have xs : Ext φ S H1 ⟨φ.hs ++ [f], φ.bs⟩ (S ++ [.dead]) (upd H1 f (exO f)) := Ext.snoc r1 nf
  have rn : RS X.K X.mg ⟨φ.hs ++ [f], φ.bs⟩ (S ++ [.dead]) (upd H1 f (exO f)) := RS.snoc r1 nf trivial
  have hh : (φ.hs ++ [f])[S.length]? = some f := by rw [← rs.len]; exact get_snoc_r
  exact w _ _ _ (x1.trans xs) rn (rvref.mpr ⟨f, rfl, hh⟩)
/-- a call of the lambda that a slot holds -/
theorem act_ok {p : Par} {C : Ctx} {X : Cx} (x : XC p C X) (hot : p.hot = false) {i : Nat} {y : Str} {e0 : Expr} {es : List Expr} {fa : Env → Sto → R (List MI.D)} {q pos : Pos} (hN : X.N[i]? = some y) (hv : Vis X.env.scope y) (hn : nameOk y = true) (hp : (e0 :: es).all noStar = true) (ha : PA X (e0 :: es) (tA X.K X.mg fa)) :
    PE X (.Call (.Name y q) (e0 :: es) [] pos) (tE X.K X.mg fun ρ S => match ρ[i]? with
      | some (some z) => if (cloOf S z).isSome = true then (fa ρ S).bind fun l S1 => actA C z l S1 else .bad
      | _ => .bad) := by
  have hp2 := hp
  rw [List.all_cons, Bool.and_eq_true] at hp2
  refine ⟨fun pins s σ H Q I ⟨φ, ρ, S, d, S1, re, rs, e, w⟩ => ?_⟩
  cases e1 : ρ[i]? with
  | none => simp only [e1] at e; cases e
  | some o =>
  cases o with
  | none => simp only [e1] at e; cases e
  | some z =>
  simp only [e1] at e
  by_cases hc : (cloOf S z).isSome = true
  · rw [if_pos hc] at e
    obtain ⟨l, S2, e2, e3⟩ := bind_ok e
    obtain ⟨v, ev, rv⟩ := re.at_ i z e1
    cases z with
    | ref h =>
      obtain ⟨a, rfl, eh⟩ := rvref.mp rv
      have hS : ∃ f cs, S[h]? = some (.clo f cs) := by
        have hc : ((match S[h]? with | some (.clo f l) => some (f, l) | _ => none : Option (String × List MI.D))).isSome = true := hc
        cases e4 : S[h]? with
        | none => rw [e4] at hc; cases hc
        | some ob =>
          rw [e4] at hc
          cases ob with
          | clo f cs => exact ⟨f, cs, rfl⟩
          | lst _ => cases hc
          | ins _ _ => cases hc
          | exn _ => cases hc
          | dct _ => cases hc
          | dead => cases hc
      obtain ⟨f0, cs0, hS⟩ := hS
      obtain ⟨q0, m0, ea0, _, hH0, _⟩ := rs.obj h _ a hS eh
      have hS2 : ∃ f cs, S2[h]? = some (.clo f cs) ∧ C.fn f (l ++ cs) S2 = .ok d S1 := by
        have e3 : (match (match S2[h]? with | some (.clo f l) => some (f, l) | _ => none : Option (String × List MI.D)) with | some (f, cs) => C.fn f (l ++ cs) S2 | none => .bad) = .ok d S1 := e3
        cases e4 : S2[h]? with
        | none => rw [e4] at e3; cases e3
        | some ob =>
          rw [e4] at e3
          cases ob with
          | clo f cs => exact ⟨f, cs, rfl, e3⟩
          | lst _ => cases e3
          | ins _ _ => cases e3
          | exn _ => cases e3
          | dct _ => cases e3
          | dead => cases e3
      obtain ⟨f1, cs1, hS2, hcall⟩ := hS2
      refine wpAny_Call_Name_kw (thn ((pe_var (pos := q) (i := i) hN hv (nameOk_iff hn).1 (nameOk_iff hn).2.1).run pins s σ H (fun v H1 => v = .ref a ∧ H1 = H) I ⟨.ref a, ev, rfl, rfl⟩) fun u s1 ⟨v, H1, I1, r1, q1⟩ => ?_)
      obtain ⟨ev2, eH⟩ := q1
      subst ev2
      rw [eH] at I1
      obtain rfl : u = Value.ref a := r1
      have fnAt : ∀ {H' : Hp} {s' : Shared} {q' : Clo}, Inv X pins σ H' s' → H' a = some (LamO a q'.F q'.e) → PySem.W.FnAt a s'.heap := fun {H' s' q'} I' e' => by
        obtain ⟨pm, ctv, ho⟩ := lamO_at I'.hok e'
        exact ⟨_, _, _, _, ho⟩
      refine PySem.W.callWith_F (first := []) (fnAt I1 hH0) (thn (ha.run pos pins s1 σ H (fun vs H2 => ∃ φ2, Ext φ S H φ2 S2 H2 ∧ RS X.K X.mg φ2 S2 H2 ∧ RVs X.K φ2 S2 H2 l vs) I1 ⟨φ, ρ, S, l, S2, re, rs, e2, fun φ' H' vs xx r t => ⟨φ', xx, r, t⟩⟩) fun us s2 ⟨vs, H2, I2, r, φ2, xx, r2, t2⟩ => ?_) (star_cons hp2.1) (plain_star hp2.2)
      obtain ⟨q', m', ea, eid, hH', t'⟩ := r2.obj h _ a hS2 (xx.mo.pre h a eh)
      refine ⟨fnAt I2 hH', ?_⟩
      show wpAny _ _ (PySem.call (.ref a) us) _ _ _
      obtain ⟨k, hr, hrun⟩ := x.act hot q' m'
      subst eid
      subst ea
      refine wpAny_call (codeAny_mono (hrun X.A X.stack s2 H2 us vs Q (hr.mono (Nat.le_succ k)) I2.env0 r ⟨hH', φ2, S2, l, cs1, d, S1, r2, t2, t', hcall, w.step xx⟩) fun r s' hq => ?_)
      cases r with
      | error e => exact pass0 pins σ H2 s2 e s' I2 hq
      | ok fl =>
        cases fl with
        | ret u => exact I2.after hq
        | next => exact False.elim hq
        | brk => exact False.elim hq
        | cont => exact False.elim hq
    | _ => cases hc
  · rw [if_neg hc] at e; cases e
/-- the reading of arguments with a lambda behind -/
def tAF (K : PySem.W.Frag) (mg : Str → Option Value) (te : TE) (fa : Env → Sto → R (List MI.D)) : TA := fun σ H Q => ∃ φ ρ S l S1, RE K φ S H ρ σ ∧ RS K mg φ S H ∧ fa ρ S = .ok l S1 ∧ ∀ φ' H' vs, Ext φ S H φ' S1 H' → RS K mg φ' S1 H' → RVs K φ' S1 H' l vs → te σ H' fun x H2 => Q (vs ++ [x]) H2
/-- f(.., lambda ..) -/
theorem flc_ok {p : Par} {C : Ctx} {X : Cx} (x : XC p C X) (hl : p.lam = true) {f : String} {id : String} {js : List Nat} {params : Arguments} {body : Expr} {scope : Scope} {e0 : Expr} {es : List Expr} {fa : Env → Sto → R (List MI.D)} {q pos : Pos} (hf : f ∈ p.fns) (hg : Gl X (Str.ofString f)) (hn : nameOk (Str.ofString f) = true)
    (hp : (e0 :: es).all noStar = true) (hlo : lamOk p X.N id js X.env.scope X.fn params body scope = true)
    (ha : ∀ P : Addr, (∃ c, X.env.code = .ref c ∧ LamX.TabB X.base X.mg c P) → PA X (e0 :: es) (tAF X.K X.mg (tLamF X P params body scope) fa)) :
    PE X (.Call (.Name (Str.ofString f) q) (e0 :: es) [] pos) (tE X.K X.mg fun ρ S => match capD ρ js with
      | some cs => (fa ρ S).bind fun l S1 => flcA C f l id cs S1
      | none => .bad) := by
  obtain ⟨a, hm, _, _, _, _, hk, _⟩ := x.fns f hf
  obtain ⟨c, P, hc, TBB, ht, hu⟩ := x.lam hl
  have hp2 := hp
  rw [List.all_cons, Bool.and_eq_true] at hp2
  unfold lamOk at hlo
  simp only [Bool.and_eq_true] at hlo
  obtain ⟨⟨⟨⟨⟨h1, h2⟩, h3⟩, h4⟩, h5⟩, h6⟩ := hlo
  have hfree2 : ∀ y ∈ scope.names, y.2 = .free → X.env.scope.names.lookup y.1 = some .cell ∧ X.fn y.1 = true := fun y hy e => by
    have z := List.all_eq_true.mp h4 y hy
    rw [e] at z
    simpa using z
  have hfree : ∀ y ∈ scope.names, y.2 = .free → X.env.scope.names.lookup y.1 = some .cell := fun y hy e => (hfree2 y hy e).1
  refine ⟨fun pins s σ H Q I ⟨φ, ρ, S, d, S1, re, rs, e, w⟩ => ?_⟩
  cases ec : capD ρ js with
  | none => simp only [ec] at e; cases e
  | some cs =>
  simp only [ec] at e
  obtain ⟨l, S2, e1, e2⟩ := bind_ok e
  obtain ⟨d', S3, e3, e4⟩ := bind_ok (show ((C.fn f (l ++ [.ref S2.length]) (S2 ++ [.clo id cs])).bind fun d S2' => .ok d (S2'.set S2.length .dead)) = .ok d S1 from e2)
  cases e4
  obtain ⟨ws, hws, tcs⟩ := cap_rv re ec
  have hjs : js.map (fun j => X.N[j]?) = (js.map fun j => X.N.getD j Str.empty).map some := by
    rw [List.map_map]
    refine List.map_congr_left fun j hj => ?_
    have hlt : j < X.N.length := of_decide_eq_true (List.all_eq_true.mp h3 j hj)
    show X.N[j]? = some (X.N.getD j Str.empty)
    rw [List.getD_eq_getElem?_getD, List.getElem?_eq_getElem hlt]; rfl
  refine wpAny_Call_Name_kw (ld_glob I hg hm ?_ (nameOk_iff hn).1)
  refine PySem.W.callWith_K (h₀ := X.base) I.ok.mod.kin hk (thn ((ha P ⟨c, hc, TBB⟩).run pos pins s σ H (fun vs H3 => ∃ (φ1 : Lo) (vs0 : List V) (f0 c' : Addr) (H1 H2 : Hp), vs = vs0 ++ [.ref f0] ∧ Ext φ S H φ1 S2 H1 ∧ RS X.K X.mg φ1 S2 H1 ∧ RVs X.K φ1 S2 H1 l vs0 ∧ LamX.Step H1 P (X.env.qual ++ "<lambda>") H2 ∧ H2 f0 = none ∧ H2 c' = some (LamX.CodeO c' (X.env.qual ++ "<lambda>")) ∧
      (H1 c' = none ∨ ∃ (pos : Pos) (ps : Array Value), H1 P = some (.tbl ps) ∧ codeAmong pos ps.toList = some (.ref c')) ∧ H3 = upd H2 f0 (LamO f0 (lamNF X params scope c') body)) I
    ⟨φ, ρ, S, l, S2, re, rs, e1, fun φ' H' vs xx r t => ⟨r.tb.tabS ht, fun f0 c' H1 st hf0 hc' hcc => ⟨φ', vs, f0, c', H', H1, rfl, xx, r, t, st, hf0, hc', hcc, rfl⟩⟩⟩) fun us s2 ⟨vs, H3, I2, r, φ1, vs0, f0, c', H1, H2, ev, xx, r1, t1, st, hf0, hc', hcc, eH⟩ => ⟨I2.kIn, ?_⟩) (star_cons hp2.1) (plain_star hp2.2)
  show wpAny _ _ (PySem.call (.ref a) us) _ _ _
  subst ev
  obtain ⟨x1, r2⟩ := lam_ext r1 ht hu st
  have nc : c' ∉ φ1.hs ∧ c' ∉ φ1.bs := by
    rcases hcc with z | ⟨pos', ps, z1, z2⟩
    · exact ⟨fun m => r1.trk c' m z, fun m => r1.btrk c' m z⟩
    · obtain ⟨_, _, ps', g1, _, g3⟩ := r1.tb.1 _ ht
      have g1 : H1 P = some (.tbl ps') := g1
      rw [z1] at g1
      cases g1
      obtain ⟨c2, g4, _, g5, g6⟩ := g3 pos' _ z2
      cases g4
      exact ⟨g5, g6⟩
  let q0 : Clo := ⟨f0, id, lamNF X params scope c', body, ws⟩
  have xs : Ext φ1 S2 H2 ⟨φ1.hs ++ [f0], φ1.bs⟩ (S2 ++ [.clo id cs]) H3 := by rw [eH]; exact Ext.snoc r2 hf0
  have ncf : c' ≠ f0 := fun z => by rw [z, hf0] at hc'; cases hc'
  have hH3c : H3 c' = some (LamX.CodeO c' (X.env.qual ++ "<lambda>")) := by rw [eH, upd_ne ncf]; exact hc'
  have hH3f : H3 f0 = some (LamO f0 (lamNF X params scope c') body) := by rw [eH, upd_same]
  have tcs3 : RVs X.K ⟨φ1.hs ++ [f0], φ1.bs⟩ (S2 ++ [.clo id cs]) H3 cs ws := RVs.mo (xx.trans (x1.trans xs)).mo _ _ tcs
  have rin : @RS _ ⟨q0 :: Cels.cs⟩ X.K X.mg φ1 S2 H2 := RS.celsIn r2 (fun q m => List.mem_cons_of_mem _ m) fun q m => (List.mem_cons.mp m).elim (fun z => .inr (by rw [z]; exact ⟨hc', nc.1, nc.2⟩)) .inl
  have rn : @RS _ ⟨q0 :: Cels.cs⟩ X.K X.mg ⟨φ1.hs ++ [f0], φ1.bs⟩ (S2 ++ [.clo id cs]) H3 := by
    rw [eH]
    refine @RS.snoc _ ⟨q0 :: Cels.cs⟩ _ _ _ _ _ _ _ _ rin hf0 ⟨q0, List.mem_cons_self, rfl, rfl, upd_same, ?_⟩
    rw [← eH]
    exact tcs3
  have hh : (φ1.hs ++ [f0])[S2.length]? = some f0 := by rw [← r1.len]; exact get_snoc_r
  have tl : RVs X.K ⟨φ1.hs ++ [f0], φ1.bs⟩ (S2 ++ [.clo id cs]) H3 (l ++ [.ref S2.length]) (vs0 ++ [.ref f0]) := (RVs.mo (x1.trans xs).mo _ _ t1).append (.cons (rvref.mpr ⟨f0, rfl, hh⟩) .nil)
  have hcaps := NdefX.Caps.made (X := X) (scope := scope) (fr := js.map fun j => X.N.getD j Str.empty) (js := js) I2.ok (fun y hy e => .inl (hfree y hy e)) (fun y hy => by
    have z := List.all_eq_true.mp h5 y hy
    exact of_decide_eq_true (Bool.and_eq_true_iff.mp z).2) hjs
  have hcl := NdefX.cells_of I2 hcaps
  rw [hws] at hcl
  have hfn : ∀ y b, (cloFrom X.env.cells scope.names []).lookup y = some b → X.env.cells.lookup y = some b ∧ X.fn y = true := fun y b e => ⟨hcaps.sub y b e, by
    have hy : (y, NameKind.free) ∈ scope.names := by
      rcases cloFrom_mem (PySem.mem_of_lookup e) with hm | ⟨g1, _⟩
      · cases hm
      · exact g1
    exact (hfree2 _ hy rfl).2⟩
  have hB : ∀ q ∈ q0 :: Cels.cs, CloB p (baseX X H3 s2) q := fun q m => by
    rcases List.mem_cons.mp m with z | z
    · subst z
      exact ⟨_, cells_baseX I2 hcl hfn, h6⟩
    · obtain ⟨fr, g1, g2⟩ := x.clb hl q z
      exact ⟨fr, cells_mono g1 fun b o e => baseX_sub I2 e, g2⟩
  obtain ⟨a', hm', fd, ps, k, n, _, ⟨hb, _⟩, hr, hlen, F⟩ := x.flc hl (baseX X H3 s2) (q0 :: Cels.cs) (fun b o e => baseX_sub I2 e) hB f hf
  have ea : a' = a := by
    have z : X.mg (Str.ofString f) = some (.ref a') := hm'
    rw [hm] at z; cases z; rfl
  subst ea
  have hsp : @spC _ ⟨q0 :: Cels.cs⟩ C X.K X.mg n f (vs0 ++ [.ref f0]) H3 Q E0 := ⟨⟨φ1.hs ++ [f0], φ1.bs⟩, _, _, d, S3, rn, tl, hlen _ _ _ _ e3, e3, fun φ' H' v xf rf qf => by
    have hh' : φ'.hs[S2.length]? = some q0.f := xf.mo.pre _ _ hh
    exact w φ' H' v (xx.trans (x1.trans (xs.trans (xf.trans Ext.kill)))) (RS.celsOut rf hh') (RV.mo Ext.kill.mo _ _ qf)⟩
  have hl2 : (us ++ []).length = ps.length := by rw [List.append_nil, ← r.length]; exact F.len _ _ _ _ hsp
  have hbt := hb s2 us I2.kIn hl2
  rw [List.append_nil] at hbt
  have e0 : Env0 X.prog X.w X.K X.mg (baseX X H3 s2) X.A X.stack s2 H3 := env0X I2
  refine wpAny_call (codeAny_mono (F.run X.A X.stack s2 H3 ⟨us, []⟩ us _ Q E0 (hr.mono (Nat.le_succ k)) e0 hbt r hsp) fun r s' hq => ?_)
  cases r with
  | error e => exact pass0 pins σ H3 s2 e s' I2 hq
  | ok fl =>
    cases fl with
    | ret u => exact I2.after hq
    | next => exact False.elim hq
    | brk => exact False.elim hq
    | cont => exact False.elim hq
theorem lix_ok {p : Par} {C : Ctx} {X : Cx} {oa ob : Expr} {fa fb : Env → Sto → R MI.D} {apos pos : Pos} (x : XC p C X) (hb : plainB oa = true) (hl : (apos.endLine == pos.line) = true) (hp : plainE ob = true) (ha : PE X oa (tE X.K X.mg fa)) (hbb : PE X ob (tE X.K X.mg fb)) :
    PE X (.Call (.Attribute oa ("index" : Str) apos) [ob] [] pos) (tE X.K X.mg fun ρ S => (fa ρ S).bind fun x S1 => (fb ρ S1).bind fun y S2 => R.of (lixD x y) S2) := by
  have hs : starEach [ob] X.env = [(false, eval ob X.env)] := star_cons (plain_noStar hp)
  refine PE.imp (pe_bm F.plainAttrs_list F.slot_list_index F.type_list_index mt_index ha (pa_cons hbb pa_nil hs) (plainB_base hb) (by rw [hs]; rfl) hl hs rfl) fun σ H Q ⟨φ, ρ, S, d, S1, re, rs, e, w⟩ => ?_
  obtain ⟨u, S2, e1, e2⟩ := bind_ok e
  obtain ⟨y, S3, e3, e5⟩ := bind_ok e2
  obtain ⟨e4, e6⟩ := of_ok e5
  subst e6
  obtain ⟨l, rfl⟩ : ∃ l, u = .lst l := by cases u <;> first | (cases e4; done) | exact ⟨_, rfl⟩
  refine ⟨φ, ρ, S, .lst l, S2, re, rs, e1, fun φ1 H1 v1 x1 r1 q1 => ?_⟩
  obtain ⟨a, vs, rfl, hA, t⟩ := rvlst.mp q1
  refine ⟨.inl ⟨rfl, _, hA.sq⟩, φ1, ρ, S2, y, S1, re.mono x1, r1, e3, fun φ2 H2 v2 x2 r2 q2 => ?_⟩
  have e4 : (if (flatD y && l.all flatD) = true then (l.findIdx? fun z => eqF z y).map fun (i : Nat) => MI.D.int i else none) = some d := e4
  obtain ⟨hc, e6⟩ : (flatD y && l.all flatD) = true ∧ (l.findIdx? fun z => eqF z y).map (fun (i : Nat) => MI.D.int i) = some d := by
    by_cases hc : (flatD y && l.all flatD) = true
    · rw [if_pos hc] at e4; exact ⟨hc, e4⟩
    · rw [if_neg hc] at e4; cases e4
  obtain ⟨j, hj, rfl⟩ := Option.map_eq_some_iff.mp e6
  rw [Bool.and_eq_true] at hc
  have t2 := RVs.mono x2 _ _ t
  have hA2 := hA.mo x2.mo
  obtain ⟨f1, _⟩ := flats_at hc.1 q2 hc.2 t2
  obtain ⟨g1, _⟩ := flat_at hc.1 q2
  obtain ⟨hlt, hz, hno⟩ := List.findIdx?_eq_some_iff_getElem.mp hj
  obtain ⟨v, hv, rv⟩ := t2.get (List.getElem?_eq_getElem hlt)
  refine ⟨a, vs, v2, j, v, rfl, rfl, hA2.sq, g1, f1, hv, ?_, fun m z' hm hz' => ?_, w φ2 H2 _ (x1.trans x2) r2 (rvint.mpr rfl)⟩
  · obtain ⟨_, q⟩ := flat_at (List.all_eq_true.mp hc.2 _ (List.getElem_mem hlt)) rv
    rw [q y v2 hc.1 q2]; exact hz
  · have hml : m < l.length := Nat.lt_trans hm hlt
    obtain ⟨v', hv', rv'⟩ := t2.get (List.getElem?_eq_getElem hml)
    rw [hz'] at hv'
    cases hv'
    obtain ⟨_, q⟩ := flat_at (List.all_eq_true.mp hc.2 _ (List.getElem_mem hml)) rv'
    rw [q y v2 hc.1 q2]
    simpa using hno m hm
section
variable {p : Par} {C : Ctx} {X : Cx} {σ : L2.St} {H : Hp} {Q : VK}
theorem insOf_inv {S : Sto} {x : MI.D} {c : String} {fs : List (String × MI.D)} (e : insOf S x = some (c, fs)) : ∃ h, x = .ref h ∧ S[h]? = some (.ins c fs) := by
  cases x with
  | ref h =>
    unfold insOf at e
    cases e3 : S[h]? with
    | none => simp [e3] at e
    | some ob =>
      cases ob with
      | ins c' fs' =>
        simp only [e3] at e
        cases e
        exact ⟨h, rfl, e3⟩
      | _ => simp [e3] at e
  | _ => cases e
/-- an instance, where it stands -/
theorem ins_at (x : XC p C X) {φ : Lo} {S : Sto} {d : MI.D} {v : V} {c : String} {fs : List (String × MI.D)} {I : ClsI} (R : RS X.K X.mg φ S H) (r : RV X.K φ S H d v) (e : insOf S d = some (c, fs)) (eI : C.cls c = some I) :
    ∃ h a A dx vs, d = .ref h ∧ S[h]? = some (.ins c fs) ∧ φ.hs[h]? = some a ∧ v = .ref a ∧ H a = some (.ins A dx ((fnm fs).zip vs)) ∧ RVs X.K φ S H (fs.map (·.2)) vs ∧ ClsH p C X c I A := by
  obtain ⟨h, rfl, eh⟩ := insOf_inv e
  obtain ⟨a, rfl, qa⟩ := rvref.mp r
  obtain ⟨A, dx, vs, hA, hH, t⟩ := R.obj _ _ _ eh qa
  obtain ⟨A', k⟩ := x.clss c I eI
  have h1 := k.s.at_
  rw [hA] at h1
  cases h1
  exact ⟨h, a, A, dx, vs, rfl, eh, qa, rfl, hH, t, k⟩
/-- a field is read -/
theorem fld_ok {o : Expr} {f : String} {fa : Env → Sto → R MI.D} {pos : Pos} (x : XC p C X) (hb : plainB o = true) (ha : PE X o (tE X.K X.mg fa)) :
    PE X (.Attribute o (Str.ofString f) pos) (tE X.K X.mg fun ρ S => (fa ρ S).bind fun x S1 => R.of (fldD C S1 x f) S1) := by
  refine PE.imp (pe_fld ha (plainB_base hb)) fun σ H Q ⟨φ, ρ, S, d, S1, re, rs, e, w⟩ => ?_
  obtain ⟨u, S2, e1, e2⟩ := bind_ok e
  obtain ⟨e2, e3⟩ := of_ok e2
  subst e3
  refine ⟨φ, ρ, S, u, S1, re, rs, e1, fun φ1 H1 v1 x1 r1 q1 => ?_⟩
  obtain ⟨⟨c, fs⟩, g1, e6⟩ := Option.bind_eq_some_iff.mp (show ((insOf S1 u).bind fun q => (C.cls q.1).bind fun I => if I.flds.contains f then q.2.lookup f else none) = some d from e2)
  obtain ⟨I, g2, e7⟩ := Option.bind_eq_some_iff.mp e6
  obtain ⟨h, a, A, dx, vs, rfl, eh, qa, rfl, hH, t, k⟩ := ins_at x r1 q1 g1 g2
  by_cases hf : I.flds.contains f = true
  · rw [if_pos hf] at e7
    obtain ⟨v, ev, rv⟩ := RVs.look t e7
    exact ⟨a, A, dx, _, v, rfl, hH, k.s.cls, k.s.flds f hf, ev, w φ1 H1 v x1 r1 rv⟩
  · rw [if_neg hf] at e7; cases e7
theorem mcall_tree {o : Expr} {m : Str} {apos pos : Pos} {es : List Expr} {env : PySem.Env} (hb : plainB o = true) (hp : es.all noStar = true) (hn : es.length < 30) (hl : (apos.endLine == pos.line) = true) :
    eval (.Call (.Attribute o m apos) es [] pos) env = (do
      let ov ← eval o env
      standAt apos.atName
      let (f, first) ← holding [ov] (getMethod ov m (do return (← importBound o env).getD true))
      callWith pos f first (backTo pos (starEach es env)) (backToKw pos (keywordEach [] env))) := by
  have h1 : methodCallForm (es.length + ([] : List Keyword).length) (backTo pos (starEach es env)) (backToKw pos (keywordEach [] env)) = true := by
    unfold methodCallForm
    have h2 : (backTo pos (starEach es env)).all (fun x => !x.1) = true := by
      have := plain_star (pos := pos) (env := env) hp
      rw [List.any_eq_false] at this
      rw [List.all_eq_true]
      intro y hy
      have := this y hy
      simpa using this
    have h3 : (backToKw pos (keywordEach [] env)) = [] := rfl
    rw [h2, h3]
    simp [hn]
  rw [PySem.arm_eval_Call, plainB_base hb]
  unfold methodCall
  rw [h1]
  unfold calleeOf methodCallPos
  rw [hl]
  rfl
/-- a method's call -/
theorem mth_ok {o : Expr} {m : String} {es : List Expr} {fo : Env → Sto → R MI.D} {fa : Env → Sto → R (List MI.D)} {apos pos : Pos} (x : XC p C X) (hb : plainB o = true) (hl : (apos.endLine == pos.line) = true) (hn : es.length < 30) (hp : es.all noStar = true)
    (ho : PE X o (tE X.K X.mg fo)) (ha : PA X es (tA X.K X.mg fa)) (h0 : es = [] → fa = fun _ S => .ok [] S) :
    PE X (.Call (.Attribute o (Str.ofString m) apos) es [] pos) (tE X.K X.mg fun ρ S => (fo ρ S).bind fun x S1 => (R.of (mOf C S1 x m) S1).bind fun f S1 => (fa ρ S1).bind fun l S2 => C.fn f (x :: l) S2) := by
  refine ⟨fun pins s σ H Q I h => ?_⟩
  refine methcall_of ho I ?_ (mcall_tree hb hp hn hl)
  obtain ⟨φ, ρ, S, d, S1, re, rs, e, w⟩ := h
  obtain ⟨u, S2, e1, eA⟩ := bind_ok e
  obtain ⟨f, S3, e2, eB⟩ := bind_ok eA
  obtain ⟨e2, e3⟩ := of_ok e2
  subst e3
  refine ⟨φ, ρ, S, u, S3, re, rs, e1, fun φ1 H1 v1 x1 r1 q1 => ?_⟩
  obtain ⟨⟨c, fs⟩, g1, e6⟩ := Option.bind_eq_some_iff.mp (show ((insOf S3 u).bind fun q => if (q.2.lookup m).isNone then (C.cls q.1).bind fun I => I.mths.lookup m else none) = some f from e2)
  by_cases hm : (fs.lookup m).isNone = true
  · have e7 : ((if (fs.lookup m).isNone = true then (C.cls c).bind fun I => I.mths.lookup m else none) : Option String) = some f := e6
    rw [if_pos hm] at e7
    obtain ⟨Ic, g2, e8⟩ := Option.bind_eq_some_iff.mp e7
    obtain ⟨hh, a, A, dx, vs, rfl, eh, qa, rfl, hH, t, k⟩ := ins_at x r1 q1 g1 g2
    obtain ⟨ga, M, fd, ps, kk, n, hk, ⟨hbd, _⟩, hr, hlen, F⟩ := k.mths m f e8
    refine ⟨a, A, dx, _, ga, rfl, hH, k.s.cls, M, RVs.look_none (Option.isNone_iff_eq_none.mp hm), fun s1 I1 => ?_⟩
    obtain ⟨l, S4, e4, e5⟩ := bind_ok eB
    cases es with
    | nil =>
      have h0 := h0 rfl
      rw [h0] at e4
      cases e4
      exact PySem.W.callWith_K0 (first := [.ref a]) I1.kIn hk (run_fn (us := [.ref a]) (vs := [.ref a]) F (hr.mono (Nat.le_succ kk)) hbd .nil pass0 I1 (.cons rfl .nil)
        (show spC C X.K X.mg n f [.ref a] H1 Q E0 from ⟨φ1, S3, [.ref hh], d, S1, r1, .cons q1 .nil, hlen _ _ _ _ e5, e5, w.step x1⟩))
    | cons e0 es =>
      rw [List.all_cons, Bool.and_eq_true] at hp
      have hA : tA X.K X.mg fa σ H1 fun vs H2 => spC C X.K X.mg n f (.ref a :: vs) H2 Q E0 := ⟨φ1, ρ, S3, l, S4, re.mono x1, r1, e4, fun φ2 H2 vs2 x2 r2 t2 =>
        ⟨φ2, S4, .ref hh :: l, d, S1, r2, .cons (RV.mono x2 _ _ q1) t2, hlen _ _ _ _ e5, e5, w.step (x1.trans x2)⟩⟩
      refine PySem.W.callWith_K (first := [.ref a]) (h₀ := X.base) I1.ok.mod.kin hk (thn (ha.run pos pins s1 σ H1 _ I1 hA) fun us s2 ⟨vs2, H2, I2, r2, q2⟩ => ⟨I2.kIn, ?_⟩) (star_cons hp.1) (plain_star hp.2)
      exact run_fn (us := .ref a :: us) (vs := .ref a :: vs2) F (hr.mono (Nat.le_succ kk)) hbd .nil pass0 I2 (.cons rfl r2) (by rw [List.append_nil]; exact q2)
  · have e7 : ((if (fs.lookup m).isNone = true then (C.cls c).bind fun I => I.mths.lookup m else none) : Option String) = some f := e6
    rw [if_neg hm] at e7; cases e7
/-- a method's call, the rest by their defaults -/
theorem run_fnK {X : Cx} {k : Nat} {f : Addr} {fd : FuncData} {ps : List Str} {sp : Sp} {pins : List (Addr × Obj)} {σ : L2.St} {H : Hp} {s : Shared} {Q : VK} {us us' : List Value} {vs : List V} (F : FnOk X.prog X.w X.K X.mg X.base CX0 k f fd ps sp) (hr : Room k X.A) (b : BindsTo s fd ⟨us, []⟩ (ps.zip us'))
    (I : Inv X pins σ H s) (r : Vals vs us') (h : sp vs H Q E0) : wpAny (model X.prog X.w) X.A (PySem.call (.ref f) us) (EP X pins σ Q) X.xe s := by
  refine wpAny_call (codeAny_mono (F.run X.A X.stack s H ⟨us, []⟩ us' vs Q E0 hr I.env0 b r h) fun r s' hq => ?_)
  cases r with
  | error e => exact False.elim hq
  | ok fl =>
    cases fl with
    | ret u => exact I.after hq
    | next => exact False.elim hq
    | brk => exact False.elim hq
    | cont => exact False.elim hq
theorem mtd_ok {o : Expr} {m f : String} {es : List Expr} {fo : Env → Sto → R MI.D} {fa : Env → Sto → R (List MI.D)} {apos pos : Pos} (x : XC p C X) (hb : plainB o = true) (hl : (apos.endLine == pos.line) = true) (hn : es.length < 30) (hs : (f, es.length + 1, []) ∈ p.shs) (hne : es ≠ []) (hp : es.all noStar = true)
    (ho : PE X o (tE X.K X.mg fo)) (ha : PA X es (tA X.K X.mg fa)) (hla : ∀ {ρ S ds S1}, fa ρ S = .ok ds S1 → ds.length = es.length) :
    PE X (.Call (.Attribute o (Str.ofString m) apos) es [] pos) (tE X.K X.mg fun ρ S => (fo ρ S).bind fun x S1 => (R.of (mOf C S1 x m) S1).bind fun g S1 => if g = f then (fa ρ S1).bind fun l S2 => mtdA C f (x :: l) S2 else .bad) := by
  refine ⟨fun pins s σ H Q I h => ?_⟩
  refine methcall_of ho I ?_ (mcall_tree hb hp hn hl)
  obtain ⟨φ, ρ, S, d, S1, re, rs, e, w⟩ := h
  obtain ⟨u, S2, e1, eA⟩ := bind_ok e
  obtain ⟨g, S3, e2, eB⟩ := bind_ok eA
  obtain ⟨e2, e3⟩ := of_ok e2
  subst e3
  by_cases hgf : g = f
  case neg => rw [if_neg hgf] at eB; cases eB
  rw [if_pos hgf] at eB
  subst hgf
  refine ⟨φ, ρ, S, u, S3, re, rs, e1, fun φ1 H1 v1 x1 r1 q1 => ?_⟩
  obtain ⟨⟨c, fs⟩, g1, e6⟩ := Option.bind_eq_some_iff.mp (show ((insOf S3 u).bind fun q => if (q.2.lookup m).isNone then (C.cls q.1).bind fun I => I.mths.lookup m else none) = some g from e2)
  by_cases hm : (fs.lookup m).isNone = true
  · have e7 : ((if (fs.lookup m).isNone = true then (C.cls c).bind fun I => I.mths.lookup m else none) : Option String) = some g := e6
    rw [if_pos hm] at e7
    obtain ⟨Ic, g2, e8⟩ := Option.bind_eq_some_iff.mp e7
    obtain ⟨hh, a, A, dx, vs, rfl, eh, qa, rfl, hH, t, k⟩ := ins_at x r1 q1 g1 g2
    obtain ⟨ga, M, fd, ps, kk, n, hk, ⟨_, hsh⟩, hr, hlen, F⟩ := k.mths m g e8
    obtain ⟨gg, gV, kb, hgv⟩ := hsh.1 _ hs rfl
    refine ⟨a, A, dx, _, ga, rfl, hH, k.s.cls, M, RVs.look_none (Option.isNone_iff_eq_none.mp hm), fun s1 I1 => ?_⟩
    obtain ⟨l, S4, e4, e5⟩ := bind_ok eB
    unfold mtdA at e5
    cases ea : C.arr g [] (.ref hh :: l) [] with
    | none => simp [ea] at e5
    | some args =>
      simp only [ea] at e5
      cases es with
      | nil => exact absurd rfl hne
      | cons e0 es =>
        rw [List.all_cons, Bool.and_eq_true] at hp
        have hA : tA X.K X.mg fa σ H1 fun vs H2 => vs.length = (e0 :: es).length ∧ spC C X.K X.mg n g (gV (.ref a :: vs) []) H2 Q E0 := ⟨φ1, ρ, S3, l, S4, re.mono x1, r1, e4, fun φ2 H2 vs2 x2 r2 t2 => by
          have targs := hgv _ _ _ ea (by rw [List.length_cons, hla e4]) rfl _ _ _ _ _ (.cons (RV.mono x2 _ _ q1) t2) .nil
          exact ⟨by rw [t2.length]; exact hla e4, φ2, S4, args, d, S1, r2, targs, hlen _ _ _ _ e5, e5, w.step (x1.trans x2)⟩⟩
        refine PySem.W.callWith_K (first := [.ref a]) (h₀ := X.base) I1.ok.mod.kin hk (thn (ha.run pos pins s1 σ H1 _ I1 hA) fun us s2 ⟨vs2, H2, I2, r2, q0, q2⟩ => ⟨I2.kIn, ?_⟩) (star_cons hp.1) (plain_star hp.2)
        have bd := kb.to s2 (.ref a :: us) [] I2.kIn (by rw [List.length_cons, ← r2.length, q0]) rfl
        exact run_fnK (us := .ref a :: us) F (hr.mono (Nat.le_succ kk)) bd I2 (kb.rel (vs := .ref a :: vs2) (us := .ref a :: us) (.cons rfl r2) .nil) q2
  · have e7 : ((if (fs.lookup m).isNone = true then (C.cls c).bind fun I => I.mths.lookup m else none) : Option String) = some g := e6
    rw [if_neg hm] at e7; cases e7
/-- an instance is made -/
theorem mk_ok {c : String} {es : List Expr} {fa : Env → Sto → R (List MI.D)} {q pos : Pos} (x : XC p C X) (hk : p.mks.contains c = true) (hg : Gl X (Str.ofString c)) (hn : nameOk (Str.ofString c) = true) (hp : es.all noStar = true)
    (ha : PA X es (tA X.K X.mg fa)) (h0 : es = [] → fa = fun _ S => .ok [] S) :
    PE X (.Call (.Name (Str.ofString c) q) es [] pos) (tE X.K X.mg fun ρ S => (fa ρ S).bind fun l S1 => mkA C c l S1) := by
  cases hI : C.cls c with
  | none =>
    refine ⟨fun pins s σ H Q I ⟨φ, ρ, S, d, S1, re, rs, e, w⟩ => ?_⟩
    obtain ⟨l, S2, e1, e2⟩ := bind_ok e
    unfold mkA initOf at e2
    rw [hI] at e2
    cases e2
  | some Ic =>
    cases hf : Ic.mths.lookup "__init__" with
    | none =>
      refine ⟨fun pins s σ H Q I ⟨φ, ρ, S, d, S1, re, rs, e, w⟩ => ?_⟩
      obtain ⟨l, S2, e1, e2⟩ := bind_ok e
      have : initOf C c = none := by unfold initOf; rw [hI]; exact hf
      unfold mkA at e2
      rw [this] at e2
      cases e2
    | some f =>
      have hi : initOf C c = some f := by unfold initOf; rw [hI]; exact hf
      obtain ⟨A, k⟩ := x.clss c Ic hI
      obtain ⟨ga, M, fd, ps, kk, n, hkp, ⟨hbd, _⟩, hr, hlen, F⟩ := k.mths _ f hf
      obtain ⟨m1, m2⟩ := k.s.mks hk
      have mk : Mk X.K A ga := ⟨m1, M.at_, M.fn, m2⟩
      have red : ∀ σ H Q, tE X.K X.mg (fun ρ S => (fa ρ S).bind fun l S1 => mkA C c l S1) σ H Q → tMake A (spC C X.K X.mg n f) [] E0 (tA X.K X.mg fa) σ H Q := by
        intro σ H Q ⟨φ, ρ, S, d, S1, re, rs, e, w⟩
        obtain ⟨l, S2, e1, e2⟩ := bind_ok e
        refine ⟨φ, ρ, S, l, S2, re, rs, e1, fun φ1 H1 vs x1 r1 t => fun a dx ha hdx hne => ?_⟩
        unfold mkA at e2
        rw [hi] at e2
        obtain ⟨dd, S3, e3, e4⟩ := bind_ok e2
        by_cases hN : isN dd = true
        · rw [if_pos hN] at e4
          cases e4
          show spC C X.K X.mg n f (.ref a :: (vs ++ [])) _ _ E0
          rw [List.append_nil]
          have ra := r1.new (o := .own a) hdx
          have ha2 : upd H1 dx (.own a) a = none := by rw [upd_ne (Ne.symm hne)]; exact ha
          have xs : Ext φ1 S2 (upd H1 dx (.own a)) ⟨φ1.hs ++ [a], φ1.bs⟩ (S2 ++ [.ins c []]) (upd (upd H1 dx (.own a)) a (.ins A dx [])) := Ext.snoc ra ha2
          have xx := (Ext.new r1 hdx).trans xs
          have rn : RS X.K X.mg ⟨φ1.hs ++ [a], φ1.bs⟩ (S2 ++ [.ins c []]) (upd (upd H1 dx (.own a)) a (.ins A dx [])) := RS.snoc ra ha2 ⟨A, dx, [], k.s.at_, upd_same, .nil⟩
          have hh : (φ1.hs ++ [a])[S2.length]? = some a := by rw [← r1.len]; exact get_snoc_r
          refine ⟨_, _, .ref S2.length :: l, dd, S1, rn, .cons (rvref.mpr ⟨a, rfl, hh⟩) (RVs.mono xx _ _ t), hlen _ _ _ _ e3, e3, fun φ' H' v x' r' q' => ?_⟩
          cases dd with
          | non => exact ⟨rvnon.mp q', w φ' H' (.ref a) ((x1.trans xx).trans x') r' (rvref.mpr ⟨a, rfl, x'.mo.pre _ _ hh⟩)⟩
          | _ => cases hN
        · rw [if_neg hN] at e4; cases e4
      cases es with
      | nil =>
        have h0 := h0 rfl
        refine PE.imp (pe_make0 mk F hr hg k.s.at_ hbd .nil pass0 (nameOk_iff hn).1) fun σ H Q h => ?_
        have h' := red σ H Q h
        rw [h0] at h'
        obtain ⟨φ, ρ, S, l, S1, re, rs, e, w⟩ := h'
        cases e
        exact w φ H [] Ext.refl rs .nil
      | cons e es =>
        rw [List.all_cons, Bool.and_eq_true] at hp
        exact PE.imp (pe_make mk F hr hg k.s.at_ hbd .nil pass0 ha (nameOk_iff hn).1 (star_cons hp.1) (plain_star hp.2)) red
theorem RVs.fn_len {K : PySem.W.Frag} {φ : Lo} {S : Sto} {H : Hp} {l : List MI.D} {vs : List V} (h : RVs K φ S H l vs) : vs.length = l.length := h.length
/-- an instance is made by a call with keywords -/
theorem mkk_ok {c f : String} {ks : List String} {es : List Expr} {kws : List Keyword} {fa fk : Env → Sto → R (List MI.D)} {q pos : Pos} (x : XC p C X) (hk : p.mks.contains c = true) (hg : Gl X (Str.ofString c)) (hn : nameOk (Str.ofString c) = true) (hs : (f, es.length + 1, ks) ∈ p.shs) (hne : es ≠ []) (hp : es.all noStar = true)
    (ha : PA X es (tA X.K X.mg fa)) (hl : ∀ {ρ S ds S1}, fa ρ S = .ok ds S1 → ds.length = es.length) (hkw : PK X kws (tA X.K X.mg fk)) (hkl : ∀ {ρ S ds S1}, fk ρ S = .ok ds S1 → ds.length = ks.length)
    (hall : ∀ pos, (backToKw pos (keywordEach kws X.env)).all (·.1.isSome) = true) (hks : ∀ pos, (backToKw pos (keywordEach kws X.env)).filterMap (·.1) = ks.map Str.ofString) :
    PE X (.Call (.Name (Str.ofString c) q) es kws pos) (tE X.K X.mg fun ρ S => (fa ρ S).bind fun l S1 => (fk ρ S1).bind fun z S2 => mkkA C c f ks l z S2) := by
  have none_ : ∀ {σ H Q}, ¬ initOf C c = some f → tE X.K X.mg (fun ρ S => (fa ρ S).bind fun l S1 => (fk ρ S1).bind fun z S2 => mkkA C c f ks l z S2) σ H Q → False := fun hi ⟨φ, ρ, S, d, S1, re, rs, e, w⟩ => by
    obtain ⟨l, S2, e1, e2⟩ := bind_ok e
    obtain ⟨z, S3, e3, e4⟩ := bind_ok e2
    unfold mkkA at e4
    rw [if_neg hi] at e4
    cases e4
  by_cases hi : initOf C c = some f
  · obtain ⟨Ic, hI, hf⟩ := Option.bind_eq_some_iff.mp (show ((C.cls c).bind fun I => I.mths.lookup "__init__") = some f from hi)
    obtain ⟨A, k⟩ := x.clss c Ic hI
    obtain ⟨ga, M, fd, ps, kk, n, hkp, ⟨_, hsh⟩, hr, hlen, F⟩ := k.mths _ f hf
    obtain ⟨m1, m2⟩ := k.s.mks hk
    have mk : Mk X.K A ga := ⟨m1, M.at_, M.fn, m2⟩
    obtain ⟨g, gV, kb, hgv⟩ := hsh.1 _ hs rfl
    have red : ∀ σ H Q, tE X.K X.mg (fun ρ S => (fa ρ S).bind fun l S1 => (fk ρ S1).bind fun z S2 => mkkA C c f ks l z S2) σ H Q → tMakeN A es.length (ks.map Str.ofString).length (spC C X.K X.mg n f) gV E0 (tA X.K X.mg fa) (tA X.K X.mg fk) σ H Q := by
      intro σ H Q ⟨φ, ρ, S, d, S1, re, rs, e, w⟩
      obtain ⟨l, S2, e1, e2⟩ := bind_ok e
      obtain ⟨z, S3, e5, e6⟩ := bind_ok e2
      refine ⟨φ, ρ, S, l, S2, re, rs, e1, fun φ1 H1 vs x1 r1 t => ⟨φ1, ρ, S2, z, S3, re.mono x1, r1, e5, fun φ2 H2 zs x2 r2 t2 => ⟨by rw [t.length]; exact hl e1, by rw [t2.length, List.length_map]; exact hkl e5, fun a dx ha hdx hne => ?_⟩⟩⟩
      unfold mkkA at e6
      rw [if_pos hi] at e6
      cases ea : C.arr f ks (.ref S3.length :: l) z with
      | none => simp [ea] at e6
      | some args =>
        simp only [ea] at e6
        obtain ⟨dd, S4, e3, e4⟩ := bind_ok e6
        by_cases hN : isN dd = true
        · rw [if_pos hN] at e4
          cases e4
          have ra := r2.new (o := .own a) hdx
          have ha2 : upd H2 dx (.own a) a = none := by rw [upd_ne (Ne.symm hne)]; exact ha
          have xs : Ext φ2 S3 (upd H2 dx (.own a)) ⟨φ2.hs ++ [a], φ2.bs⟩ (S3 ++ [.ins c []]) (upd (upd H2 dx (.own a)) a (.ins A dx [])) := Ext.snoc ra ha2
          have xx := (Ext.new r2 hdx).trans xs
          have rn : RS X.K X.mg ⟨φ2.hs ++ [a], φ2.bs⟩ (S3 ++ [.ins c []]) (upd (upd H2 dx (.own a)) a (.ins A dx [])) := RS.snoc ra ha2 ⟨A, dx, [], k.s.at_, upd_same, .nil⟩
          have hh : (φ2.hs ++ [a])[S3.length]? = some a := by rw [← r2.len]; exact get_snoc_r
          have targs := hgv _ _ _ ea (by rw [List.length_cons, hl e1]) (hkl e5) _ _ _ _ _ (.cons (rvref.mpr ⟨a, rfl, hh⟩) (RVs.mono xx _ _ (RVs.mono x2 _ _ t))) (RVs.mono xx _ _ t2)
          refine ⟨_, _, args, dd, _, rn, targs, hlen _ _ _ _ e3, e3, fun φ' H' v x' r' q' => ?_⟩
          cases dd with
          | non => exact ⟨rvnon.mp q', w φ' H' (.ref a) (((x1.trans x2).trans xx).trans x') r' (rvref.mpr ⟨a, rfl, x'.mo.pre _ _ hh⟩)⟩
          | _ => cases hN
        · rw [if_neg hN] at e4; cases e4
    cases es with
    | nil => exact absurd rfl hne
    | cons e es =>
      rw [List.all_cons, Bool.and_eq_true] at hp
      have hst := plain_star (pos := pos) (env := X.env) (es := e :: es) (by rw [List.all_cons, hp.1, hp.2]; rfl)
      exact PE.imp (pe_makeN (n := (e :: es).length) mk F hr hg k.s.at_ kb pass0 ha hkw (hall pos) (hks pos) (nameOk_iff hn).1 (star_cons hp.1) (by
        rw [hst, Bool.false_or]
        have q := hall pos
        rw [List.all_eq_true] at q
        rw [List.any_eq_false]
        intro y hy
        have := q y hy
        cases hz : y.1 with
        | none => rw [hz] at this; cases this
        | some _ => simp)) red
  · exact ⟨fun pins s σ H Q I h => (none_ hi h).elim⟩
/-- isinstance(e, C) of an exception -/
theorem xis_ok {o : Expr} {c : String} {fa : Env → Sto → R MI.D} {q q2 pos : Pos} (x : XC p C X) (hb : "isinstance" ∈ p.bts) (hg : Gl X ("isinstance" : Str)) (hgc : Gl X (Str.ofString c)) (hn : nameOk (Str.ofString c) = true) (hc : c ∈ p.xis) (hp : plainE o = true) (ha : PE X o (tE X.K X.mg fa)) :
    PE X (.Call (.Name ("isinstance" : Str) q) [o, .Name (Str.ofString c) q2] [] pos) (tE X.K X.mg fun ρ S => (fa ρ S).bind fun x S1 => R.of ((xisD C S1 x c).map .bl) S1) := by
  have hm := x.bts _ hb
  obtain ⟨v, cv, hv, hnm⟩ := x.xis c hc
  obtain ⟨r1, r2⟩ := hv.rel
  have hcl : PE X (.Name (Str.ofString c) q2) (tC v) := by
    rcases hnm with e | ⟨e1, e2⟩
    · exact pe_glob hgc e r1 (nameOk_iff hn).1
    · exact pe_bltn hgc e1 e2 r1 (nameOk_iff hn).2.2 (nameOk_iff hn).1
  have hs : starEach [o, .Name (Str.ofString c) q2] X.env = (false, eval o X.env) :: starEach [.Name (Str.ofString c) q2] X.env := star_cons (plain_noStar hp)
  refine PE.imp (pe_callB call_isX hg hm (by decide +kernel) (pa_cons ha (pa_cons hcl pa_nil) hs) (by decide) (by decide) hs rfl) fun σ H Q ⟨φ, ρ, S, d, S1, re, rs, e, w⟩ => ?_
  obtain ⟨u, S2, e1, e2⟩ := bind_ok e
  obtain ⟨e2, e3⟩ := of_ok e2
  subst e3
  obtain ⟨b, e4, rfl⟩ := Option.map_eq_some_iff.mp e2
  refine ⟨φ, ρ, S, u, S1, re, rs, e1, fun φ1 H1 v1 x1 r1' q1 => ?_⟩
  unfold xisD at e4
  cases u with
  | ref h =>
    obtain ⟨a, rfl, eh⟩ := rvref.mp q1
    dsimp only at e4
    cases e5 : S1[h]? with
    | none => rw [e5] at e4; cases e4
    | some ob =>
      rw [e5] at e4
      cases ob with
      | exn k =>
        dsimp only at e4
        obtain ⟨l, g1, rfl⟩ := Option.map_eq_some_iff.mp e4
        obtain ⟨A, F⟩ := x.xcs k l g1
        obtain ⟨A2, m2, hH⟩ := r1'.obj h _ a e5 eh
        have hA : A2 = A := by have z := F.at_; rw [m2] at z; cases z; rfl
        subst hA
        obtain ⟨cv', n', kt, _⟩ := F.isc c hc
        have ec : cv' = cv := n'.eq hnm
        subst ec
        exact ⟨a, A2, v, cv', _, rfl, hH, F.exc, r2, kt, w φ1 H1 _ x1 r1' rv_bl⟩
      | _ => cases e4
  | _ => cases e4
/-- a call of a def where an exception is handled -/
theorem hfc_ok {f : String} {e : Expr} {es : List Expr} {fa : Env → Sto → R (List D)} {q pos : Pos} (x : XC p C X) (hf : f ∈ p.hfns) (hg : Gl X (Str.ofString f)) (hn : nameOk (Str.ofString f) = true) (hp : (e :: es).all noStar = true) (ha : PA X (e :: es) (tA X.K X.mg fa)) :
    PE X (.Call (.Name (Str.ofString f) q) (e :: es) [] pos) (tE X.K X.mg fun ρ S => (fa ρ S).bind fun l S1 => C.hf f l S1) := by
  obtain ⟨a, fd, ps, k, n, hm, hk, hb, hr, hlen, F⟩ := x.hfns f hf
  rw [List.all_cons, Bool.and_eq_true] at hp
  refine PE.imp (pe_callW F hr hg hm hk hb ha (nameOk_iff hn).1 (star_cons hp.1) (plain_star hp.2)) fun σ H Q ⟨φ, ρ, S, d, S1, re, rs, e, w⟩ => ?_
  obtain ⟨l, S2, e1, e2⟩ := bind_ok e
  exact ⟨φ, ρ, S, l, S2, re, rs, e1, fun φ' H' vs xx r t => ⟨φ', S2, l, d, S1, r, t, hlen _ _ _ _ e2, e2, w.step xx⟩⟩
/-- isinstance(x, C) of a class of the module -/
theorem isi_ok {o : Expr} {c : String} {fa : Env → Sto → R MI.D} {q q2 pos : Pos} (x : XC p C X) (hb : "isinstance" ∈ p.bts) (hg : Gl X ("isinstance" : Str)) (hgc : Gl X (Str.ofString c)) (hn : nameOk (Str.ofString c) = true) (hc : c ∈ p.isc) (hp : plainE o = true) (ha : PE X o (tE X.K X.mg fa)) :
    PE X (.Call (.Name ("isinstance" : Str) q) [o, .Name (Str.ofString c) q2] [] pos) (tE X.K X.mg fun ρ S => (fa ρ S).bind fun x S1 => R.of ((isiD C S1 x c).map .bl) S1) := by
  have hm := x.bts _ hb
  by_cases hA : ∃ A', X.mg (Str.ofString c) = some (.ref A')
  · obtain ⟨A', gA⟩ := hA
    have hs : starEach [o, .Name (Str.ofString c) q2] X.env = (false, eval o X.env) :: starEach [.Name (Str.ofString c) q2] X.env := star_cons (plain_noStar hp)
    refine PE.imp (pe_callB call_isi hg hm (by decide +kernel) (pa_cons ha (pa_cons (pe_glob hgc gA (v := .ref A') rfl (nameOk_iff hn).1) pa_nil) hs) (by decide) (by decide) hs rfl) fun σ H Q ⟨φ, ρ, S, d, S1, re, rs, e, w⟩ => ?_
    obtain ⟨u, S2, e1, e2⟩ := bind_ok e
    obtain ⟨e2, e3⟩ := of_ok e2
    subst e3
    obtain ⟨b, e4, rfl⟩ := Option.map_eq_some_iff.mp e2
    refine ⟨φ, ρ, S, u, S1, re, rs, e1, fun φ1 H1 v1 x1 r1 q1 => ?_⟩
    obtain ⟨⟨c', fs⟩, g1, e5⟩ := Option.bind_eq_some_iff.mp (show ((insOf S1 u).bind fun q => (C.cls q.1).map fun I => I.sups.contains c) = some b from e4)
    obtain ⟨Ic, g2, e6⟩ := Option.map_eq_some_iff.mp e5
    obtain ⟨h, a, A, dx, vs, rfl, eh, qa, rfl, hH, t, k⟩ := ins_at x r1 q1 g1 g2
    obtain ⟨A2, gA2, kt⟩ := k.s.sups c hc
    rw [gA] at gA2
    cases gA2
    subst e6
    exact ⟨_, _, _, _, _, rfl, .own A', .base (.ins hH k.s.cls k.s.c1 k.s.c2 k.s.c3 k.s.c4), kt, w φ1 H1 _ x1 r1 rv_bl⟩
  · refine ⟨fun pins s σ H Q I ⟨φ, ρ, S, d, S1, re, rs, e, w⟩ => ?_⟩
    obtain ⟨u, S2, e1, e2⟩ := bind_ok e
    obtain ⟨e2, e3⟩ := of_ok e2
    subst e3
    obtain ⟨b, e4, rfl⟩ := Option.map_eq_some_iff.mp e2
    obtain ⟨⟨c', fs⟩, g1, e5⟩ := Option.bind_eq_some_iff.mp (show ((insOf S1 u).bind fun q => (C.cls q.1).map fun I => I.sups.contains c) = some b from e4)
    obtain ⟨Ic, g2, e6⟩ := Option.map_eq_some_iff.mp e5
    obtain ⟨A, k⟩ := x.clss c' Ic g2
    obtain ⟨A2, gA2, kt⟩ := k.s.sups c hc
    exact absurd ⟨A2, gA2⟩ hA
/-- a method of a text, with one argument -/
theorem sm_ok {m : String} {oa ob : Expr} {fa fb : Env → Sto → R MI.D} {apos pos : Pos} (x : XC p C X) (hb : plainB oa = true) (hl : (apos.endLine == pos.line) = true) (hp : plainE ob = true) (ha : PE X oa (tE X.K X.mg fa)) (hbb : PE X ob (tE X.K X.mg fb)) :
    PE X (.Call (.Attribute oa (Str.ofString m) apos) [ob] [] pos) (tE X.K X.mg fun ρ S => (fa ρ S).bind fun x S1 => (fb ρ S1).bind fun y S2 => R.of (smD S2 m x y) S2) := by
  have hs : starEach [ob] X.env = [(false, eval ob X.env)] := star_cons (plain_noStar hp)
  have go : ∀ {id : String} {r : V → List V → Hp → VK → Prop} (slot : Slot "str" (Str.ofString m) id) (ty : typeOf (.builtin id) = pure (.type "method_descriptor")) (rule : MtR X id r)
      (hr : ∀ (φ : Lo) (S : Sto) (a : Str) (y d : MI.D) (v : V) (H : Hp) (Q : VK), RS X.K X.mg φ S H → RV X.K φ S H y v → smD S m (.str a) y = some d → Wt X.K X.mg φ S H d S Q → r (.str a) [v] H Q),
      PE X (.Call (.Attribute oa (Str.ofString m) apos) [ob] [] pos) (tE X.K X.mg fun ρ S => (fa ρ S).bind fun x S1 => (fb ρ S1).bind fun y S2 => R.of (smD S2 m x y) S2) := by
    intro id r slot ty rule hr
    refine PE.imp (pe_m1 slot ty rule ha hbb hs (plainB_base hb) hl) fun σ H Q ⟨φ, ρ, S, d, S1, re, rs, e, w⟩ => ?_
    obtain ⟨u, S2, e1, e2⟩ := bind_ok e
    obtain ⟨y, S3, e3, e4⟩ := bind_ok e2
    obtain ⟨e4, e5⟩ := of_ok e4
    subst e5
    refine ⟨φ, ρ, S, u, S2, re, rs, e1, fun φ1 H1 v1 x1 r1 q1 => ?_⟩
    obtain ⟨a, rfl⟩ : ∃ a, u = .str a := by cases u <;> first | (cases e4; done) | exact ⟨_, rfl⟩
    rw [rvstr] at q1
    subst q1
    exact ⟨⟨a, rfl⟩, φ1, ρ, S2, y, S1, re.mono x1, r1, e3, fun φ2 H2 v2 x2 r2 q2 => hr φ2 S1 a y d v2 H2 Q r2 q2 e4 (w.step (x1.trans x2))⟩
  by_cases h1 : m = "join"
  · subst h1
    refine go F.slot_str_join F.type_str_join mt_join fun φ S a y d v H Q R q e w => ?_
    obtain ⟨l, g1, e⟩ := Option.bind_eq_some_iff.mp (show ((listOf S y).bind fun l => (strsOf l).bind fun ys => if (ys.map (·.length)).sum + ys.length * a.length ≤ line then some (D.str (Txt.join a ys)) else none) = some d from e)
    obtain ⟨ys, g2, e⟩ := Option.bind_eq_some_iff.mp e
    obtain ⟨hc, e⟩ := ite_some e
    subst e
    obtain ⟨a0, vs0, rfl, q0, t0⟩ := list_at R q g1
    rw [RVs.strs g2 t0] at q0
    exact ⟨a, a0, ys, rfl, rfl, .inl q0, hc, w.here R rv_str⟩
  · by_cases h2 : m = "split"
    · subst h2
      refine go F.slot_str_split F.type_str_split mt_split fun φ S a y d v H Q R q e w => ?_
      cases y <;> first | (cases e; done) | skip
      rename_i b
      rw [rvstr] at q
      subst q
      obtain ⟨hc, e⟩ := ite_some (show (if (b.length == 0) = false ∧ a.length + 2 ≤ line then some (D.lst ((Txt.split a b).map .str)) else none) = some d from e)
      subst e
      exact ⟨a, b, rfl, rfl, hc.1, hc.2, fun p hp => w.lst R (RV.of_strs _) hp⟩
    · by_cases h3 : m = "startswith"
      · subst h3
        refine go F.slot_str_startswith F.type_str_startswith mt_startswith fun φ S a y d v H Q R q e w => ?_
        cases y <;> first | (cases e; done) | skip
        rename_i b
        rw [rvstr] at q
        subst q
        have e : D.bl (Txt.startswith a b) = d := Option.some.inj e
        subst e
        exact ⟨a, b, rfl, rfl, w.here R rv_bl⟩
      · refine ⟨fun pins s σ H Q I ⟨φ, ρ, S, d, S1, re, rs, e, w⟩ => ?_⟩
        obtain ⟨u, S2, e1, e2⟩ := bind_ok e
        obtain ⟨y, S3, e3, e4⟩ := bind_ok e2
        obtain ⟨e4, e5⟩ := of_ok e4
        obtain ⟨a, rfl⟩ : ∃ a, u = .str a := by cases u <;> first | (cases e4; done) | exact ⟨_, rfl⟩
        have e6 : smD S3 m (.str a) y = none := by
          simp [smD, h1, h2, h3]
        rw [e6] at e4
        cases e4
end
end MI

set_option maxHeartbeats 4000000
/-! MIj: targets, walks, comprehensions. -/
namespace MI
open PySem PySem.Spec PyProof.Rows L2
variable [Tabs] [Cels]
def tG (K : PySem.W.Frag) (mg : Str → Option Value) (sl : List Nat) (f : D → Env → Sto → R Env) : TG := fun v σ H Q => ∃ φ ρ S d ρ1 S1, RE K φ S H ρ σ ∧ RS K mg φ S H ∧ RV K φ S H d v ∧ f d ρ S = .ok ρ1 S1 ∧
  ∀ φ' H' σ', Ext φ S H φ' S1 H' → RS K mg φ' S1 H' → RE K φ' S1 H' ρ1 σ' → σ'.length = σ.length → (∀ i, i ∉ sl → σ'[i]? = σ[i]?) → Q σ' H'
def tGs (K : PySem.W.Frag) (mg : Str → Option Value) (sl : List Nat) (f : List D → Env → Sto → R Env) : TGs := fun vs σ H Q => ∃ φ ρ S l ρ1 S1, RE K φ S H ρ σ ∧ RS K mg φ S H ∧ RVs K φ S H l vs ∧ f l ρ S = .ok ρ1 S1 ∧
  ∀ φ' H' σ', Ext φ S H φ' S1 H' → RS K mg φ' S1 H' → RE K φ' S1 H' ρ1 σ' → σ'.length = σ.length → (∀ i, i ∉ sl → σ'[i]? = σ[i]?) → Q σ' H'
section
variable {p : Par} {C : Ctx} {X : Cx} {σ : L2.St} {H : Hp} {Q : VK}
theorem PG.imp {e : Expr} {t t' : TG} (h : PG X e t) (i : ∀ v σ H Q, t' v σ H Q → t v σ H Q) : PG X e t' := ⟨fun pins s σ H v u Q I r q => h.run pins s σ H v u Q I r (i v σ H Q q)⟩
theorem PG.or {e : Expr} {t t' : TG} (h : PG X e t) (h' : PG X e t') : PG X e fun v σ H Q => t v σ H Q ∨ t' v σ H Q := ⟨fun pins s σ H v u Q I r q => q.elim (h.run pins s σ H v u Q I r) (h'.run pins s σ H v u Q I r)⟩
theorem PGs.imp {e : List Expr} {t t' : TGs} (h : PGs X e t) (i : ∀ v σ H Q, t' v σ H Q → t v σ H Q) : PGs X e t' := ⟨fun pins s σ H v u Q I r q => h.run pins s σ H v u Q I r (i v σ H Q q)⟩
theorem PTs.imp {e : List Expr} {t t' : TT} (h : PTs X e t) (i : ∀ σ H Q, t' σ H Q → t σ H Q) : PTs X e t' := ⟨fun pins s σ H Q I q => h.run pins s σ H Q I (i σ H Q q)⟩
theorem asgEach_len {env : PySem.Env} : ∀ {l : List Expr}, (assignEach l env).length = l.length
  | [] => rfl
  | e :: l => by
    have h : (assignEach (e :: l) env).length = (assignEach l env).length + 1 := by cases e <;> rfl
    rw [h, asgEach_len]; rfl
theorem asgEach_star {env : PySem.Env} : ∀ {l : List Expr}, l.all noStar = true → (assignEach l env).findIdx? (·.1) = none
  | [], _ => rfl
  | e :: l, h => by
    rw [List.all_cons, Bool.and_eq_true] at h
    have q := asgEach_star (env := env) h.2
    have he : assignEach (e :: l) env = (false, assign e env) :: assignEach l env := by
      have h1 := h.1
      cases e <;> first | rfl | cases h1
    rw [he, List.findIdx?_cons, q]; rfl
theorem asgEach_cons {env : PySem.Env} {e : Expr} {l : List Expr} (h : noStar e = true) : (assignEach (e :: l) env).map (·.2) = assign e env :: (assignEach l env).map (·.2) := by
  cases e <;> first | rfl | cases h
theorem plain_asg {o i : Expr} {pos : Pos} {env : PySem.Env} (h : plainE i = true) : ∀ v, assign (.Subscript o i pos) env v = (do
      let ov ← holding [v] (eval o env)
      let iv ← holding [v, ov] (eval i env)
      standAt pos
      holding [v, ov, iv] (setItem ov iv v)
      release [v, ov, iv] []) := by intro v; cases i <;> first | rfl | cases h
theorem okTs_star {N : List Str} : ∀ {ts : Ts} {sc : Scope} {fn : Str → Bool} {l : List Expr}, okTs p N ts sc fn l = true → l.all noStar = true
  | .nil, sc, fn, [], h => rfl
  | .nil, sc, fn, _ :: _, h => by unfold okTs at h; cases h
  | .cons e r, sc, fn, [], h => by unfold okTs at h; cases h
  | .cons e r, sc, fn, x :: l, h => by
    unfold okTs at h
    obtain ⟨h1, h2⟩ := band2 h
    obtain ⟨h3, h4⟩ := band2 h1
    rw [List.all_cons, plain_noStar h3, okTs_star h2]; rfl
theorem asgs_len {N : List Str} : ∀ {ts : Ts} {sc : Scope} {fn : Str → Bool} {l : List Expr} {ds : List D} {ρ ρ1 : Env} {S S1 : Sto}, okTs p N ts sc fn l = true → asgs C ts ds ρ S = .ok ρ1 S1 → ds.length = l.length
  | .nil, sc, fn, [], [], _, _, _, _, h, e => rfl
  | .nil, sc, fn, _ :: _, _, _, _, _, _, h, e => by unfold okTs at h; cases h
  | .nil, sc, fn, [], _ :: _, _, _, _, _, h, e => by unfold asgs at e; cases e
  | .cons t r, sc, fn, [], _, _, _, _, _, h, e => by unfold okTs at h; cases h
  | .cons t r, sc, fn, x :: l, [], _, _, _, _, h, e => by unfold asgs at e; cases e
  | .cons t r, sc, fn, x :: l, d :: ds, ρ, ρ1, S, S1, h, e => by
    unfold okTs at h
    obtain ⟨h1, h2⟩ := band2 h
    unfold asgs at e
    obtain ⟨ρ2, S2, e1, e2⟩ := bind_ok e
    rw [List.length_cons, List.length_cons, asgs_len h2 e2]
theorem wipe_keep {σ σ2 : L2.St} {vs sl : List Nat} (hs : ∀ i ∈ sl, i ∈ vs) (hl : σ2.length = (wipe σ vs).length) (hk : ∀ i, i ∉ sl → σ2[i]? = (wipe σ vs)[i]?) : wipe σ2 vs = wipe σ vs := by
  have key : ∀ (τ : L2.St) (ws : List Nat) (i : Nat), i < τ.length → (wipe τ ws)[i]? = if i ∈ ws then some none else τ[i]? := by
    intro τ ws
    induction ws with
    | nil => intro i hi; rfl
    | cons w ws ih =>
      intro i hi
      have hlen : (wipe τ ws).length = τ.length := wipe_length τ ws
      show ((wipe τ ws).set w none)[i]? = _
      by_cases e : w = i
      · subst e
        rw [List.getElem?_set_self (by rw [hlen]; exact hi), if_pos List.mem_cons_self]
      · rw [List.getElem?_set_ne e, ih i hi]
        by_cases m : i ∈ ws
        · rw [if_pos m, if_pos (List.mem_cons_of_mem _ m)]
        · rw [if_neg m, if_neg (fun z => (List.mem_cons.mp z).elim (fun q => e q.symm) m)]
  rw [wipe_length] at hl
  apply List.ext_getElem?
  intro i
  by_cases hi : i < σ.length
  · rw [key σ2 vs i (by rw [hl]; exact hi)]
    by_cases m : i ∈ vs
    · rw [if_pos m, key σ vs i hi, if_pos m]
    · rw [if_neg m, hk i (fun z => m (hs i z))]
  · rw [List.getElem?_eq_none (by rw [wipe_length, hl]; omega), List.getElem?_eq_none (by rw [wipe_length]; omega)]
/-- a list comprehension's turns -/
theorem lc_read {it : Env → Sto → R Itm} {ga : D → Env → Sto → R Env} {sl vs : List Nat} {tc : Env → Sto → R Bool} {el : Env → Sto → R D} (hs : ∀ i ∈ sl, i ∈ vs)
    (h : tL X.K X.mg (fun ρ S => (it ρ S).bind fun m S1 =>
      let f : D → Sto → R (Option D) := fun x S => (ga x (wipeE ρ vs) S).bind fun ρ1 S1 => (tc ρ1 S1).bind fun k S2 => if k = true then (el ρ1 S2).bind fun d S3 => .ok (some d) S3 else .ok none S2
      (match m with
      | .fix l => cmpL f l S1
      | .at_ h => cmpH f h (atH S1 h) 0 S1).bind fun l S2 => if l.length ≤ line then .ok l S2 else .bad) σ H Q) :
    tLc (tI X.K X.mg it) (tG X.K X.mg sl ga) (tT X.K X.mg tc) (tE X.K X.mg el) vs σ H Q := by
  obtain ⟨φ, ρ, S, res, S1, re, rs, e, w⟩ := h
  obtain ⟨m, S2, e1, e⟩ := bind_ok e
  refine ⟨φ, ρ, S, m, S2, re, rs, e1, fun φ1 H1 J x1 r1 wk D hD => ?_⟩
  obtain ⟨l, S3, e2, e3⟩ := bind_ok e
  have hl : l.length ≤ line ∧ l = res ∧ S3 = S1 := by
    by_cases hc : l.length ≤ line
    · rw [if_pos hc] at e3; cases e3; exact ⟨hc, rfl, rfl⟩
    · rw [if_neg hc] at e3; cases e3
  obtain ⟨hlen, rfl, rfl⟩ := hl
  clear e3 e
  generalize hf : (fun (x : MI.D) (S : Sto) => (ga x (wipeE ρ vs) S).bind fun ρ1 S1 => (tc ρ1 S1).bind fun k S2 => if k = true then (el ρ1 S2).bind fun d S3 => R.ok (some d) S3 else .ok none S2) = f at e2
  have e2' : ∃ n, cmpG f (stI m) n 0 S2 = .ok l S3 := by
    cases m with
    | fix k => exact ⟨_, (cmpL_g rfl).trans e2⟩
    | at_ h => exact ⟨_, cmpH_g.trans e2⟩
  obtain ⟨n, e2'⟩ := e2'
  clear e2
  have hDb : D ∉ φ1.bs := fun hb => r1.btrk D hb hD
  refine ⟨fun i m' Hc => ∃ φc Sc acc accV rest, φc.bs = D :: φ1.bs ∧ Mo φ1 S2 H1 φc Sc Hc ∧ (∀ b ∈ φ1.bs, Hc b = H1 b) ∧ RS X.K X.mg φc Sc Hc ∧ Hc D = some (.lst accV) ∧ RVs X.K φc Sc Hc acc accV ∧ cmpG f (stI m) m' i Sc = .ok rest S3 ∧ acc ++ rest = l,
    ⟨n, ⟨φ1.hs, D :: φ1.bs⟩, S2, [], [], l, rfl, Mo.open hD, fun b hb => upd_ne (fun z => hDb (z ▸ hb)), RS.open r1 hD, upd_same, .nil, e2', rfl⟩, ?_⟩
  rintro i m' Hc ⟨φc, Sc, acc, accV, rest, hbs, mo, kb, rc, hDc, racc, ec, hacc⟩
  have nt : ∀ (Hx : Hp) (av : List V), Hx D = some (.lst av) → ∀ us, ¬ Rd Hx D (.tup us) := by
    intro Hx av hx us q
    rcases q with q | ⟨o, q⟩ <;> rw [hx] at q <;> cases q
  cases m' with
  | zero => cases ec
  | succ m' =>
    unfold cmpG at ec
    cases es : stI m i Sc with
    | none => rw [es] at ec; cases ec
    | some o =>
      rw [es] at ec
      cases o with
      | none =>
        refine .inl ⟨wk.stop i φc Sc Hc mo rc es, ?_⟩
        cases ec
        rw [List.append_nil] at hacc
        subst hacc
        obtain ⟨hsc, bsc⟩ := φc
        have hbs : bsc = D :: φ1.bs := hbs
        subst hbs
        have md := Mo.del (S := S3) (H := Hc) (hs := hsc) (bs := φ1.bs) (p := D) (nt Hc accV hDc)
        have rd := RS.del rc hDb (nt Hc accV hDc)
        have xx : Ext φ1 S2 H1 ⟨hsc, φ1.bs⟩ S3 (delH Hc D) := ⟨mo.trans md, rfl, fun b hb => by
          have hbD : b ≠ D := fun z => hDb (z ▸ hb)
          rw [delH_ne hbD]; exact kb b hb⟩
        have := w ⟨hsc, φ1.bs⟩ (delH Hc D) accV D (x1.trans xx) rd (RVs.mo md _ _ racc) delH_same
        rw [upd_delH hDc] at this
        exact this
      | some d =>
        obtain ⟨hgo, hy⟩ := wk.go i φc Sc Hc d mo rc es
        refine .inr ⟨hgo, fun Hn => ∃ φc Sc acc accV rest, φc.bs = D :: φ1.bs ∧ Mo φ1 S2 H1 φc Sc Hn ∧ (∀ b ∈ φ1.bs, Hn b = H1 b) ∧ RS X.K X.mg φc Sc Hn ∧ Hn D = some (.lst accV) ∧ RVs X.K φc Sc Hn acc accV ∧ cmpG f (stI m) m' (i + 1) Sc = .ok rest S3 ∧ acc ++ rest = l,
          fun Hn hn => ⟨m', Nat.lt_succ_self _, hn⟩, fun xv Hy hyy => ?_⟩
        obtain ⟨xy, ry, qy⟩ := hy xv Hy hyy
        obtain ⟨ov, S4, f1, f2⟩ := bind_ok ec
        obtain ⟨rl, S5, f3, f4⟩ := bind_ok f2
        subst hf
        obtain ⟨ρ1, S6, g1, g2⟩ := bind_ok f1
        have hDm : D ∈ φc.bs := by rw [hbs]; exact List.mem_cons_self
        have rew : RE X.K φc Sc Hy (wipeE ρ vs) (wipe σ vs) := (((re.mono x1).mo mo).mono xy).wipe vs
        refine ⟨φc, wipeE ρ vs, Sc, d, ρ1, S6, rew, ry, qy, g1, fun φ2 H2 σ2 x2 r2 re2 hlen2 hk2 => ⟨wipe_keep hs hlen2 hk2, ?_⟩⟩
        obtain ⟨k, S7, g3, g4⟩ := bind_ok g2
        refine ⟨φ2, ρ1, S6, k, S7, re2, r2, g3, fun φ3 H3 x3 r3 => ?_⟩
        -- from the turn's start to behind the test
        have x03 : Ext φc Sc Hc φ3 S7 H3 := (xy.trans x2).trans x3
        cases k with
        | false =>
          rw [if_neg Bool.false_ne_true] at g4
          cases g4
          cases f4
          refine iteF ?_
          refine ⟨φ3, _, acc, accV, rest, x03.bs.trans hbs, mo.trans x03.mo, fun b hb => (x03.kb b (by rw [hbs]; exact List.mem_cons_of_mem _ hb)).trans (kb b hb), r3, (x03.kb D hDm).trans hDc, RVs.mono x03 _ _ racc, ?_, hacc⟩
          exact f3
        | true =>
          rw [if_pos rfl] at g4
          refine iteT ?_
          obtain ⟨dv, S8, g5, g6⟩ := bind_ok g4
          refine ⟨φ3, ρ1, S7, dv, S8, re2.mono x3, r3, g5, fun φ4 H4 yv x4 r4 q4 => ?_⟩
          cases g6
          cases f4
          have x04 : Ext φc Sc Hc φ4 S4 H4 := x03.trans x4
          have hD4 : H4 D = some (.lst accV) := (x04.kb D hDm).trans hDc
          have hDm4 : D ∈ φ4.bs := by rw [x04.bs]; exact hDm
          have racc4 := RVs.mono x04 _ _ racc
          have mg' := Mo.grow (S := S4) (ho := .lst (accV ++ [yv])) hDm4 (nt H4 accV hD4)
          refine ⟨accV, hD4, ?_, φ4, S4, acc ++ [dv], accV ++ [yv], rl, x04.bs.trans hbs, (mo.trans x04.mo).trans mg', fun b hb => ?_, RS.grow r4 hDm4 (nt H4 accV hD4), upd_same, RVs.mo mg' _ _ (racc4.append (RVs.cons q4 .nil)), f3, by rw [← hacc]; simp⟩
          · rw [racc.length]
            have : (acc ++ dv :: rl).length ≤ line := by rw [hacc]; exact hlen
            rw [List.length_append, List.length_cons] at this
            show acc.length < line
            omega
          · have hbD : b ≠ D := fun z => hDb (z ▸ hb)
            rw [upd_ne hbD]
            exact (x04.kb b (by rw [hbs]; exact List.mem_cons_of_mem _ hb)).trans (kb b hb)
end
end MI

set_option maxHeartbeats 1000000
/-! MIk: soundness of expressions, tests, targets, walks. -/
namespace MI
open PySem PySem.Spec PyProof.Rows L2
variable [Tabs] [Cels]
theorem beq_true {a b : Bool} (h : (a == b) = true) : a = b := by cases a <;> cases b <;> first | rfl | cases h
/-- a walk over a value -/
theorem seq_ok {X : Cx} {tg e : Expr} {f : Env → Sto → R D} (h : PE X e (tE X.K X.mg f)) : PI X tg e (tI X.K X.mg fun ρ S => (f ρ S).bind fun x S1 => R.of (itmD S1 x) S1) := by
  refine ⟨fun pins s σ H R I ⟨φ, ρ, S, m, S1, re, rs, e, w⟩ => ?_⟩
  obtain ⟨d, S2, e1, e2⟩ := bind_ok e
  obtain ⟨e2, e3⟩ := of_ok e2
  subst e3
  have base : ∀ {Q : VK}, Wt X.K X.mg φ S H d S1 Q → tE X.K X.mg f σ H Q := fun w => ⟨φ, ρ, S, d, S1, re, rs, e1, w⟩
  cases d with
  | lst l =>
    cases e2
    refine (pi_list h).run pins s σ H R I (base fun φ' H' v x r t => ?_)
    obtain ⟨a, vs, rfl, q, t⟩ := rvlst.mp t
    exact ⟨a, rfl, ⟨vs, q.sq⟩, w φ' H' _ x r (wk_list q t).g⟩
  | tup l =>
    cases e2
    refine (pi_tup h).run pins s σ H R I (base fun φ' H' v x r t => ?_)
    obtain ⟨a, vs, rfl, q, t⟩ := rvtup.mp t
    exact ⟨a, rfl, ⟨vs, q⟩, w φ' H' _ x r (wk_tup q t).g⟩
  | str z =>
    obtain ⟨hc, e2⟩ := ite_some (show (if z.length ≤ line then some (Itm.fix (z.cps.toList.map fun c => .str ⟨#[c]⟩)) else none) = some m from e2)
    subst e2
    refine (pi_str h).run pins s σ H R I (base fun φ' H' v x r t => ?_)
    rw [rvstr] at t
    exact ⟨z, t, w φ' H' _ x r wk_str.g⟩
  | ref h' =>
    have e' : (match S1[h']? with | some (.lst _) => some (Itm.at_ h') | _ => none) = some m := e2
    cases e3 : S1[h']? with
    | none => rw [e3] at e'; cases e'
    | some o =>
      cases o with
      | lst l =>
        rw [e3] at e'
        cases e'
        refine (pi_list h).run pins s σ H R I (base fun φ' H' v x r t => ?_)
        obtain ⟨a, rfl, q⟩ := rvref.mp t
        obtain ⟨vs, hv, _⟩ := r.obj _ _ _ e3 q
        exact ⟨a, rfl, ⟨vs, .of hv⟩, w φ' H' _ x r (wk_at q).g⟩
      | _ => rw [e3] at e'; cases e'
  | _ => cases e2
theorem R.bind_assoc {α β γ : Type} {r : R α} {f : α → Sto → R β} {g : β → Sto → R γ} : (r.bind f).bind g = r.bind fun a S => (f a S).bind g := by cases r <;> rfl
theorem bind_assoc3 {α β γ : Type} {r : R α} {f : α → Sto → R β} {g : β → Sto → R γ} : (r.bind f).bind g = r.bind fun a S => (f a S).bind g := R.bind_assoc
theorem bind_assoc4 {α β γ δ : Type} {r : R α} {f : α → Sto → R β} {f2 : α → β → Sto → R γ} {g : γ → Sto → R δ} : (r.bind fun a S => (f a S).bind fun b S => f2 a b S).bind g = r.bind fun a S => (f a S).bind fun b S => (f2 a b S).bind g := by
  rw [R.bind_assoc]; congr 1; funext a S; rw [R.bind_assoc]
theorem okEs_len {p : Par} {N : List Str} : ∀ {es : Es} {sc : Scope} {fn : Str → Bool} {l : List Expr}, okEs p N es sc fn l = true → lenEs es = l.length
  | .nil, sc, fn, [], h => rfl
  | .nil, sc, fn, _ :: _, h => by unfold okEs at h; cases h
  | .cons e r, sc, fn, [], h => by unfold okEs at h; cases h
  | .cons e r, sc, fn, x :: l, h => by
    unfold okEs at h
    obtain ⟨h1, h2⟩ := band2 h
    show lenEs r + 1 = l.length + 1
    rw [okEs_len h2]
theorem evEs_len {C : Ctx} : ∀ {es : Es} {n : Nat} {ρ : Env} {S S1 : Sto} {ds : List D}, lenEs es = n → evEs C es ρ S = .ok ds S1 → ds.length = n
  | .nil, n, ρ, S, S1, ds, h, e => by cases e; exact h
  | .cons x r, n, ρ, S, S1, ds, h, e => by
    obtain ⟨a, S2, e1, e2⟩ := bind_ok (show ((evE C x ρ S).bind fun x S1 => (evEs C r ρ S1).bind fun l S2 => R.ok (x :: l) S2) = .ok ds S1 from e)
    obtain ⟨b, S3, e3, e4⟩ := bind_ok e2
    cases e4
    rw [List.length_cons, evEs_len rfl e3]
    exact h
theorem okKw_len {p : Par} {N : List Str} : ∀ {es : Es} {sc : Scope} {fn : Str → Bool} {ks : List String} {l : List Keyword}, okKw p N es sc fn ks l = true → lenEs es = ks.length
  | .nil, sc, fn, ks, l, h => by unfold okKw at h; obtain ⟨h1, _⟩ := band2 h; rw [List.isEmpty_iff.mp h1]; rfl
  | .cons e r, sc, fn, ks, l, h => by
    unfold okKw at h
    split at h
    · obtain ⟨_, h2⟩ := band2 h
      show lenEs r + 1 = _
      rw [okKw_len h2]; rfl
    · cases h
theorem okKw_all {p : Par} {N : List Str} {env : PySem.Env} {pos : Pos} : ∀ {es : Es} {sc : Scope} {fn : Str → Bool} {ks : List String} {l : List Keyword}, okKw p N es sc fn ks l = true → (backToKw pos (keywordEach l env)).all (·.1.isSome) = true
  | .nil, sc, fn, ks, l, h => by unfold okKw at h; obtain ⟨_, h1⟩ := band2 h; rw [List.isEmpty_iff.mp h1]; rfl
  | .cons e r, sc, fn, ks, l, h => by
    unfold okKw at h
    split at h
    · rename_i k ks nm y pos' l
      obtain ⟨_, h2⟩ := band2 h
      show (true && (backToKw pos (keywordEach l env)).all (·.1.isSome)) = true
      rw [okKw_all h2]; rfl
    · cases h
theorem okKw_ks {p : Par} {N : List Str} {env : PySem.Env} {pos : Pos} : ∀ {es : Es} {sc : Scope} {fn : Str → Bool} {ks : List String} {l : List Keyword}, okKw p N es sc fn ks l = true → (backToKw pos (keywordEach l env)).filterMap (·.1) = ks.map Str.ofString
  | .nil, sc, fn, ks, l, h => by unfold okKw at h; obtain ⟨h0, h1⟩ := band2 h; rw [List.isEmpty_iff.mp h1, List.isEmpty_iff.mp h0]; rfl
  | .cons e r, sc, fn, ks, l, h => by
    unfold okKw at h
    split at h
    · rename_i k ks nm y pos' l
      obtain ⟨h, h2⟩ := band2 h
      obtain ⟨h, _⟩ := band2 h
      obtain ⟨h, _⟩ := band2 h
      have e1 := dec_eq h
      subst e1
      show Str.ofString k :: (backToKw pos (keywordEach l env)).filterMap (·.1) = _
      rw [okKw_ks h2]; rfl
    · cases h
theorem PK.imp {X : Cx} {e : List Keyword} {t t' : TA} (h : PK X e t) (i : ∀ σ H Q, t' σ H Q → t σ H Q) : PK X e t' := ⟨fun pos pins s σ H Q I q => h.run pos pins s σ H Q I (i σ H Q q)⟩
theorem rng1 {ds l : List D} (h : rngD ds = some l) (hl : ds.length = 1) : ∃ j, ds = [.int j] ∧ small62 j = true ∧ l = rngL 0 j.toNat := by
  match ds, h, hl with
  | [.int j], h, _ => obtain ⟨hc, e2⟩ := ite_some (show (if small62 j = true then some (rngL 0 j.toNat) else none) = some l from h); exact ⟨j, rfl, hc, e2.symm⟩
theorem rng2 {ds l : List D} (h : rngD ds = some l) (hl : ds.length = 2) : ∃ i j, ds = [.int i, .int j] ∧ small62 i = true ∧ small62 j = true ∧ l = rngL i (j - i).toNat := by
  match ds, h, hl with
  | [.int i, .int j], h, _ => obtain ⟨hc, e2⟩ := ite_some (show (if (small62 i && small62 j) = true then some (rngL i (j - i).toNat) else none) = some l from h); exact ⟨i, j, rfl, (band2 hc).1, (band2 hc).2, e2.symm⟩
theorem s62 {i : Int} (h : small62 i = true) : -(2 ^ 62) ≤ i ∧ i < 2 ^ 62 := of_decide_eq_true h
theorem len12_cases {l : List Expr} (h : len12 l = true) : (∃ a, l = [a]) ∨ ∃ a b, l = [a, b] := by
  cases l with
  | nil => cases h
  | cons a l =>
    cases l with
    | nil => exact .inl ⟨a, rfl⟩
    | cons b l =>
      cases l with
      | nil => exact .inr ⟨a, b, rfl⟩
      | cons _ _ => cases h
theorem rng_ok {p : Par} {C : Ctx} {X : Cx} (x : XC p C X) {tg : Expr} {q pos : Pos} {l : List Expr} {fa : Env → Sto → R (List D)} (h7 : p.bts.contains "range" = true) (h3 : isGl X.env.scope "range" = true) (hp : l.all noStar = true) (ha : PA X l (tA X.K X.mg fa))
    (hlen : ∀ {ρ S ds S1}, fa ρ S = .ok ds S1 → ds.length = l.length) (h9 : len12 l = true) :
    PI X tg (.Call (.Name "range" q) l [] pos) (tI X.K X.mg fun ρ S => (fa ρ S).bind fun l S1 => R.of ((rngD l).map .fix) S1) := by
  have hm := x.bts "range" (mem_of_contains h7)
  have red : ∀ {σ H Rj}, tI X.K X.mg (fun ρ S => (fa ρ S).bind fun l S1 => R.of ((rngD l).map .fix) S1) σ H Rj → tA X.K X.mg fa σ H fun vs H1 => ∃ φ S ds k, RS X.K X.mg φ S H1 ∧ RVs X.K φ S H1 ds vs ∧ ds.length = l.length ∧ rngD ds = some k ∧ ∀ J, Wk X.K X.mg J k φ S H1 → Rj J H1 := by
    intro σ H Rj ⟨φ, ρ, S, m, S1, re, rs, e, w⟩
    obtain ⟨ds, S2, e1, e2⟩ := bind_ok e
    obtain ⟨e6, e3⟩ := of_ok e2
    subst e3
    obtain ⟨l, e4, e5⟩ := Option.map_eq_some_iff.mp e6
    subst e5
    exact ⟨φ, ρ, S, ds, S1, re, rs, e1, fun φ' H' vs xx r t => ⟨φ', S1, ds, l, r, t, hlen e1, e4, fun J wk => w φ' H' J xx r wk.g⟩⟩
  rcases len12_cases h9 with ⟨a, rfl⟩ | ⟨a, b, rfl⟩
  · 
    rw [List.all_cons, Bool.and_eq_true] at hp
    refine PI.imp (pi_range1 (isGl_ok h3) hm ha (star_cons hp.1)) fun σ H Rj h => ?_
    obtain ⟨φ, ρ, S, ds, S1, re, rs, e, w⟩ := red h
    refine ⟨φ, ρ, S, ds, S1, re, rs, e, fun φ' H' vs xx r t => ?_⟩
    obtain ⟨φ2, S2, ds2, k, r2, t2, hl, e2, w2⟩ := w φ' H' vs xx r t
    obtain ⟨j, rfl, c, rfl⟩ := rng1 e2 hl
    obtain ⟨v, rfl, rv⟩ := rvs1 t2
    exact ⟨j, by rw [rvint.mp rv], (s62 c).1, (s62 c).2, w2 _ wk_rng⟩
  · 
    rw [List.all_cons, List.all_cons, Bool.and_eq_true, Bool.and_eq_true] at hp
    refine PI.imp (pi_range2 (isGl_ok h3) hm ha (by rw [star_cons hp.1, star_cons hp.2.1]; rfl) (by rw [star_cons hp.2.1]; rfl)) fun σ H Rj h => ?_
    obtain ⟨φ, ρ, S, ds, S1, re, rs, e, w⟩ := red h
    refine ⟨φ, ρ, S, ds, S1, re, rs, e, fun φ' H' vs xx r t => ?_⟩
    obtain ⟨φ2, S2, ds2, k, r2, t2, hl, e2, w2⟩ := w φ' H' vs xx r t
    obtain ⟨i, j, rfl, c1, c2, rfl⟩ := rng2 e2 hl
    obtain ⟨v, v2, rfl, rv, rv2⟩ := rvs2 t2
    exact ⟨i, j, by rw [rvint.mp rv, rvint.mp rv2], ⟨(s62 c1).1, (s62 c1).2, (s62 c2).1, (s62 c2).2⟩, w2 _ wk_rng⟩
theorem zipD_cases {u u2 : D} {l : List D} (h : zipD u u2 = some l) : (∃ a b, u = .lst a ∧ u2 = .lst b ∧ l = zipL a b) ∨ (∃ a b, u = .tup a ∧ u2 = .tup b ∧ l = zipL a b) ∨ ∃ z b, u = .str z ∧ u2 = .lst b ∧ l = zipL (z.cps.toList.map fun c => .str ⟨#[c]⟩) b := by
  cases u with
  | lst a => cases u2 with
    | lst b => exact .inl ⟨a, b, rfl, rfl, (Option.some.inj h).symm⟩
    | _ => cases h
  | tup a => cases u2 with
    | tup b => exact .inr (.inl ⟨a, b, rfl, rfl, (Option.some.inj h).symm⟩)
    | _ => cases h
  | str a => cases u2 with
    | lst b => exact .inr (.inr ⟨a, b, rfl, rfl, (Option.some.inj h).symm⟩)
    | _ => cases h
  | _ => cases u2 <;> cases h
theorem revD_cases {u : D} {l : List D} (h : revD u = some l) : (∃ a, u = .lst a ∧ l = a.reverse) ∨ ∃ a, u = .tup a ∧ l = a.reverse := by
  cases u with
  | lst a => exact .inl ⟨a, rfl, (Option.some.inj h).symm⟩
  | tup a => exact .inr ⟨a, rfl, (Option.some.inj h).symm⟩
  | _ => cases h
theorem PI.or {X : Cx} {tg e : Expr} {t t' : TI} (h : PI X tg e t) (h' : PI X tg e t') : PI X tg e fun σ H R => t σ H R ∨ t' σ H R := ⟨fun pins s σ H R I q => q.elim (h.run pins s σ H R I) (h'.run pins s σ H R I)⟩
theorem zip_ok {p : Par} {C : Ctx} {X : Cx} (x : XC p C X) {tg e1 e2 : Expr} {q pos : Pos} {fa fb : Env → Sto → R D} {a b : E} (ht : tupTg (.zip a b) tg = true) (h5 : p.bts.contains "zip" = true) (h3 : isGl X.env.scope "zip" = true) (h6 : plainE e1 = true) (h7 : plainE e2 = true)
    (ha : PE X e1 (tE X.K X.mg fa)) (hb : PE X e2 (tE X.K X.mg fb)) : PI X tg (.Call (.Name "zip" q) [e1, e2] [] pos) (tI X.K X.mg fun ρ S => (fa ρ S).bind fun x S1 => (fb ρ S1).bind fun y S2 => R.of ((zipD x y).map .fix) S2) := by
  have hm := x.bts "zip" (mem_of_contains h5)
  cases tg <;> first | cases ht | skip
  · have hab := pa_cons ha (pa_cons hb pa_nil (star_cons (plain_noStar h7))) (star_cons (plain_noStar h6))
    refine PI.imp (PI.or (RZ.pi_zipA (isGl_ok h3) hm hab (by rw [star_cons (plain_noStar h6), star_cons (plain_noStar h7)]) (by rw [star_cons (plain_noStar h7)]; rfl)) (pi_zipS (isGl_ok h3) hm hab (by rw [star_cons (plain_noStar h6), star_cons (plain_noStar h7)]) (by rw [star_cons (plain_noStar h7)]; rfl))) fun σ H Rj ⟨φ, ρ, S, m, S1, re, rs, e, w⟩ => ?_
    obtain ⟨u, S2, f1, e⟩ := bind_ok e
    obtain ⟨u2, S3, f2, e⟩ := bind_ok e
    obtain ⟨e6, e3⟩ := of_ok e
    subst e3
    obtain ⟨l, e4, e5⟩ := Option.map_eq_some_iff.mp e6
    subst e5
    rcases zipD_cases e4 with ⟨a, b, rfl, rfl, rfl⟩ | ⟨a, b, rfl, rfl, rfl⟩ | ⟨a, b, rfl, rfl, rfl⟩
    · refine .inl ⟨φ, ρ, S, _, S2, re, rs, f1, fun φ1 H1 v1 x1 r1 q1 => ⟨φ1, ρ, S2, _, S1, re.mono x1, r1, f2, fun φ2 H2 v2 x2 r2 q2 => ?_⟩⟩
      obtain ⟨a1, vs, rfl, g1, t1⟩ := rvlst.mp (RV.mono x2 _ _ q1)
      obtain ⟨a2, ws, rfl, g2, t2⟩ := rvlst.mp q2
      exact ⟨a1, a2, vs, ws, rfl, .inl ⟨g1.sq, g2.sq, w φ2 H2 _ (x1.trans x2) r2 (wk_zip g1 t1 g2 t2).g⟩⟩
    · refine .inl ⟨φ, ρ, S, _, S2, re, rs, f1, fun φ1 H1 v1 x1 r1 q1 => ⟨φ1, ρ, S2, _, S1, re.mono x1, r1, f2, fun φ2 H2 v2 x2 r2 q2 => ?_⟩⟩
      obtain ⟨a1, vs, rfl, g1, t1⟩ := rvtup.mp (RV.mono x2 _ _ q1)
      obtain ⟨a2, ws, rfl, g2, t2⟩ := rvtup.mp q2
      exact ⟨a1, a2, vs, ws, rfl, .inr ⟨g1, g2, w φ2 H2 _ (x1.trans x2) r2 (wk_zipT g1 t1 g2 t2).g⟩⟩
    · refine .inr ⟨φ, ρ, S, _, S2, re, rs, f1, fun φ1 H1 v1 x1 r1 q1 => ⟨φ1, ρ, S2, _, S1, re.mono x1, r1, f2, fun φ2 H2 v2 x2 r2 q2 => ?_⟩⟩
      rw [rvstr] at q1
      subst q1
      obtain ⟨a2, ws, rfl, g2, t2⟩ := rvlst.mp q2
      exact ⟨a, a2, ws, rfl, g2.sq, w φ2 H2 _ (x1.trans x2) r2 (wk_zipS g2 t2).g⟩
theorem popD_ok {S S1 : Sto} {k u d : MI.D} (e : popD S k u = .ok d S1) : ∃ h i l j, u = .ref h ∧ k = .int i ∧ S[h]? = some (.lst l) ∧ L2.ixN l.length i = some j ∧ l[j]? = some d ∧ small62 i = true ∧ S1 = S.set h (.lst (l.eraseIdx j)) := by
  cases u with
  | ref h =>
    cases k with
    | int i =>
      have e : (match S[h]? with
        | some (.lst l) => match L2.ixN l.length i with
          | some j => match l[j]? with
            | some d => if small62 i = true then R.ok d (S.set h (.lst (l.eraseIdx j))) else .bad
            | none => .bad
          | none => .bad
        | _ => .bad) = .ok d S1 := e
      cases e3 : S[h]? with
      | none => simp [e3] at e
      | some ob =>
        cases ob with
        | lst l =>
          simp only [e3] at e
          cases e4 : L2.ixN l.length i with
          | none => simp [e4] at e
          | some j =>
            simp only [e4] at e
            cases e5 : l[j]? with
            | none => simp [e5] at e
            | some d' =>
              simp only [e5] at e
              by_cases hc : small62 i = true
              · rw [if_pos hc] at e
                cases e
                exact ⟨h, i, l, j, rfl, rfl, e3, e4, e5, hc, rfl⟩
              · rw [if_neg hc] at e; cases e
        | _ => simp [e3] at e
    | _ => cases e
  | _ => cases e
theorem RVs.erase {K : PySem.W.Frag} {φ : Lo} {S : Sto} {H : Hp} : ∀ {l : List MI.D} {vs : List V} (i : Nat), RVs K φ S H l vs → RVs K φ S H (l.eraseIdx i) (vs.eraseIdx i)
  | [], vs, i, r => by rw [r.inv_nil]; cases i <;> exact .nil
  | d :: l, vs, i, r => by
    obtain ⟨v, vr, rfl, q, t⟩ := r.inv_cons
    cases i with
    | zero => exact t
    | succ i => exact .cons q (RVs.erase i t)
theorem pop_ok {p : Par} {C : Ctx} {X : Cx} (x : XC p C X) {po pe : Expr} {apos cpos : Pos} {o i : E} (hl : (apos.endLine == cpos.line) = true) (ho : plainB po = true) (he : plainE pe = true) (h1 : PE X po (tE X.K X.mg (evE C o))) (h2 : PE X pe (tE X.K X.mg (evE C i))) :
    PE X (.Call (.Attribute po ("pop" : Str) apos) [pe] [] cpos) (tE X.K X.mg (evE C (.pop o i))) := by
  have hs : starEach [pe] X.env = [(false, eval pe X.env)] := star_cons (plain_noStar he)
  refine PE.imp (pe_bm PySem.F.plainAttrs_list PySem.F.slot_list_pop PySem.F.type_list_pop mt_popAt h1 (pa_cons h2 pa_nil hs) (plainB_base ho) (by rw [hs]; rfl) hl hs rfl) fun σ H Q ⟨φ, ρ, S, dd, S1, re, rs, he0, w⟩ => ?_
  obtain ⟨u, S2, e1, e2⟩ := bind_ok (show ((evE C o ρ S).bind fun x S1 => if (listOf S1 x).isSome = true then (evE C i ρ S1).bind fun k S2 => popD S2 k x else .bad) = .ok dd S1 from he0)
  by_cases hc : (listOf S2 u).isSome = true
  · rw [if_pos hc] at e2
    obtain ⟨l0, hl0⟩ := Option.isSome_iff_exists.mp hc
    obtain ⟨k, S3, e3, e4⟩ := bind_ok e2
    obtain ⟨h, n, l, j, rfl, rfl, eh, hj, hd, hsm, rfl⟩ := popD_ok e4
    refine ⟨φ, ρ, S, .ref h, S2, re, rs, e1, fun φ1 H1 v1 x1 r1 q1 => ?_⟩
    obtain ⟨a0, vs0, hv0, hq0, _⟩ := list_at r1 q1 hl0
    obtain ⟨a, rfl, qa⟩ := rvref.mp q1
    have ea : a = a0 := by cases hv0; rfl
    subst ea
    refine ⟨.inl ⟨rfl, vs0, hq0⟩, ?_⟩
    refine ⟨φ1, ρ, S2, .int n, S3, re.mono x1, r1, e3, fun φ2 H2 v2 x2 r2 q2 => ?_⟩
    have qa2 := x2.mo.pre h a qa
    obtain ⟨vs, hv, t⟩ := r2.obj _ _ _ eh qa2
    have nt : ∀ us, ¬ Rd H2 a (.tup us) := by
      intro us z
      rcases z with z | ⟨o, z⟩ <;> rw [hv] at z <;> cases z
    have xw : Ext φ2 S3 H2 φ2 (S3.set h (.lst (l.eraseIdx j))) (upd H2 a (.lst (vs.eraseIdx j))) := Ext.write r2 eh qa2 (by simp) nt
    have hsm' := of_decide_eq_true hsm
    obtain ⟨g1, g2, _, _⟩ := L2.ixN_seq hj
    obtain ⟨y, hy, ry⟩ := t.get hd
    refine ⟨a, vs, n, j, y, rfl, by rw [rvint.mp q2], hv, by omega, by omega, by rw [t.length]; exact g1, hy, ?_⟩
    have x12 := (x1.trans x2).trans xw
    exact w φ2 _ _ x12 (RS.write r2 eh qa2 (by simp) nt ⟨_, upd_same, RVs.mono xw _ _ (RVs.erase j t)⟩) (RV.mono xw _ _ ry)
  · rw [if_neg hc] at e2; cases e2
theorem enm_ok {p : Par} {C : Ctx} {X : Cx} (x : XC p C X) {tg e1 : Expr} {q pos : Pos} {fa : Env → Sto → R D} {a : E} (ht : tupTg (.enm a) tg = true) (h5 : p.bts.contains "enumerate" = true) (h3 : isGl X.env.scope "enumerate" = true) (h6 : plainE e1 = true)
    (ha : PE X e1 (tE X.K X.mg fa)) : PI X tg (.Call (.Name "enumerate" q) [e1] [] pos) (tI X.K X.mg fun ρ S => (fa ρ S).bind fun x S1 => R.of ((enmD x).map .fix) S1) := by
  have hm := x.bts "enumerate" (mem_of_contains h5)
  cases tg <;> first | cases ht | skip
  · refine PI.imp (pi_enum (isGl_ok h3) hm (pa_cons ha pa_nil (star_cons (plain_noStar h6))) (star_cons (plain_noStar h6))) fun σ H Rj ⟨φ, ρ, S, m, S1, re, rs, e, w⟩ => ?_
    obtain ⟨u, S2, f1, e⟩ := bind_ok e
    obtain ⟨e6, e3⟩ := of_ok e
    subst e3
    obtain ⟨l, e4, e5⟩ := Option.map_eq_some_iff.mp e6
    subst e5
    refine ⟨φ, ρ, S, u, S1, re, rs, f1, fun φ1 H1 v1 x1 r1 q1 => ?_⟩
    cases u with
    | lst l' =>
      obtain rfl : enmL 0 l' = l := Option.some.inj e4
      obtain ⟨a1, vs, rfl, g1, t1⟩ := rvlst.mp q1
      exact ⟨a1, vs, rfl, g1.sq, w φ1 H1 _ x1 r1 (wk_enm g1 t1).g⟩
    | _ => cases e4
theorem rev_ok {p : Par} {C : Ctx} {X : Cx} (x : XC p C X) {tg e1 : Expr} {q pos : Pos} {fa : Env → Sto → R D} (h5 : p.bts.contains "reversed" = true) (h3 : isGl X.env.scope "reversed" = true) (h6 : plainE e1 = true)
    (ha : PE X e1 (tE X.K X.mg fa)) : PI X tg (.Call (.Name "reversed" q) [e1] [] pos) (tI X.K X.mg fun ρ S => (fa ρ S).bind fun x S1 => R.of ((revD x).map .fix) S1) := by
  have hm := x.bts "reversed" (mem_of_contains h5)
  refine PI.imp (RT.pi_revA (isGl_ok h3) hm ha (star_cons (plain_noStar h6))) fun σ H Rj ⟨φ, ρ, S, m, S1, re, rs, e, w⟩ => ?_
  obtain ⟨u, S2, f1, e⟩ := bind_ok e
  obtain ⟨e6, e3⟩ := of_ok e
  subst e3
  obtain ⟨l, e4, e5⟩ := Option.map_eq_some_iff.mp e6
  subst e5
  refine ⟨φ, ρ, S, u, S1, re, rs, f1, fun φ1 H1 v1 x1 r1 q1 => ?_⟩
  rcases revD_cases e4 with ⟨a, rfl, rfl⟩ | ⟨a, rfl, rfl⟩
  · obtain ⟨a1, vs, rfl, g1, t1⟩ := rvlst.mp q1
    exact ⟨a1, vs, rfl, .inl ⟨g1.sq, w φ1 H1 _ x1 r1 (wk_rev g1 t1).g⟩⟩
  · obtain ⟨a1, vs, rfl, g1, t1⟩ := rvtup.mp q1
    exact ⟨a1, vs, rfl, .inr ⟨g1, w φ1 H1 _ x1 r1 (wk_revT g1 t1).g⟩⟩
theorem chain_mark {o o2 : CmpOp} {r r2 : Expr} (h : plainE r2 = true) : lastMarks [o, o2] [r, r2] = false := plain_mark h
theorem okE_plain {X : Cx} : True := trivial
/-- a chain of two comparisons -/
theorem chn_read {X : Cx} {σ : L2.St} {H : Hp} {Q : VK} {α : Type} {o o2 : CmpOp} {fa fb fc : Env → Sto → R D} {W : Lo → Sto → Hp → α → Sto → Prop} {g : Bool → α} (hW : ∀ {φ S H φ1 S1 H1 d S2}, W φ S H d S2 → Ext φ S H φ1 S1 H1 → W φ1 S1 H1 d S2)
    (hq : ∀ {φ S H k}, W φ S H (g k) S → RS X.K X.mg φ S H → Q (.bl k) H)
    (h : ∃ φ ρ S d S1, RE X.K φ S H ρ σ ∧ RS X.K X.mg φ S H ∧ ((fa ρ S).bind fun x S1 => (fb ρ S1).bind fun y S2 => (R.of (cmpD S2 o x y) S2).bind fun k S2 =>
      if k = true then (fc ρ S2).bind fun z S3 => R.of ((cmpD S3 o2 y z).map g) S3 else .ok (g false) S2) = .ok d S1 ∧ W φ S H d S1) :
    tChain (r2 X.K X.mg fun S a b => (cmpD S o a b).map .bl) (r2 X.K X.mg fun S a b => (cmpD S o2 a b).map .bl) (tE X.K X.mg fa) (tE X.K X.mg fb) (tE X.K X.mg fc) σ H Q := by
  obtain ⟨φ, ρ, S, d, S1, re, rs, e, w⟩ := h
  obtain ⟨a, S2, e1, e⟩ := bind_ok e
  refine ⟨φ, ρ, S, a, S2, re, rs, e1, fun φ1 H1 v1 x1 r1 q1 => ?_⟩
  obtain ⟨b, S3, e2, e⟩ := bind_ok e
  refine ⟨φ1, ρ, S2, b, S3, re.mono x1, r1, e2, fun φ2 H2 v2 x2 r2 q2 => ?_⟩
  obtain ⟨k, S4, e3, e⟩ := bind_ok e
  obtain ⟨e3, e4⟩ := of_ok e3
  subst e4
  refine ⟨φ2, S4, a, b, .bl k, r2, RV.mono x2 _ _ q1, q2, congrArg (Option.map D.bl) e3, fun φ3 H3 v3 x3 r3 q3 => ?_⟩
  refine ⟨k, rvbl.mp q3, ?_⟩
  have x13 := (x1.trans x2).trans x3
  cases k with
  | false =>
    rw [if_neg Bool.false_ne_true] at e
    cases e
    exact iteF (hq (hW w x13) r3)
  | true =>
    rw [if_pos rfl] at e
    refine iteT ?_
    obtain ⟨c, S5, e5, e⟩ := bind_ok e
    obtain ⟨e6, e7⟩ := of_ok e
    subst e7
    obtain ⟨k2, e8, e9⟩ := Option.map_eq_some_iff.mp e6
    subst e9
    refine ⟨φ3, ρ, S4, c, S1, re.mono x13, r3, e5, fun φ4 H4 v4 x4 r4 q4 => ?_⟩
    exact ⟨φ4, S1, b, c, .bl k2, r4, RV.mono (x3.trans x4) _ _ q2, q4, congrArg (Option.map D.bl) e8, fun φ5 H5 v5 x5 r5 q5 => by rw [rvbl.mp q5]; exact hq (hW (hW w (x13.trans x4)) x5) r5⟩
theorem setD_ok {ρ ρ1 : Env} {S S1 : Sto} {d u u2 : D} (e : setD ρ S d u u2 = .ok ρ1 S1) : (∃ h k l j, u = .ref h ∧ u2 = .int k ∧ S[h]? = some (.lst l) ∧ L2.ixN l.length k = some j ∧ ρ1 = ρ ∧ S1 = S.set h (.lst (l.set j d))) ∨
    ∃ h k kvs, u = .ref h ∧ u2 = .key k ∧ S[h]? = some (.dct kvs) ∧ kvs.length < line ∧ ρ1 = ρ ∧ S1 = S.set h (.dct (putD' kvs k d)) := by
  cases u with
  | ref h =>
    cases u2 with
    | int k =>
      refine .inl ?_
      have e : (match S[h]? with | some (.lst l) => (match L2.ixN l.length k with | some j => R.ok ρ (S.set h (.lst (l.set j d))) | none => .bad) | _ => .bad) = .ok ρ1 S1 := e
      cases e3 : S[h]? with
      | none => rw [e3] at e; cases e
      | some ob =>
        rw [e3] at e
        cases ob <;> first | (cases e; done) | skip
        rename_i l
        have e : (match L2.ixN l.length k with | some j => R.ok ρ (S.set h (.lst (l.set j d))) | none => .bad) = .ok ρ1 S1 := e
        cases e4 : L2.ixN l.length k with
        | none => rw [e4] at e; cases e
        | some j =>
          rw [e4] at e
          cases e
          exact ⟨h, k, l, j, rfl, rfl, e3, e4, rfl, rfl⟩
    | key k =>
      refine .inr ?_
      have e : (match S[h]? with | some (.dct kvs) => if kvs.length < line then R.ok ρ (S.set h (.dct (putD' kvs k d))) else .bad | _ => .bad) = .ok ρ1 S1 := e
      cases e3 : S[h]? with
      | none => rw [e3] at e; cases e
      | some ob =>
        rw [e3] at e
        cases ob <;> first | (cases e; done) | skip
        rename_i kvs
        have e : (if kvs.length < line then R.ok ρ (S.set h (.dct (putD' kvs k d))) else .bad) = .ok ρ1 S1 := e
        by_cases hc : kvs.length < line
        · rw [if_pos hc] at e
          cases e
          exact ⟨h, k, kvs, rfl, rfl, e3, hc, rfl, rfl⟩
        · rw [if_neg hc] at e; cases e
    | _ => cases e
  | _ => cases e
theorem Rassoc {α β γ : Type} {r : R α} {f : α → Sto → R β} {g : β → Sto → R γ} : (r.bind f).bind g = r.bind fun a S => (f a S).bind g := by cases r <;> rfl
/-- o.f = value -/
theorem pg_fld {X : Cx} {o : Expr} {f : Str} {pos : Pos} {to : TE} (ho : PE X o to) : PG X (.Attribute o f pos) (fun v σ H Q => to σ H fun x H1 => ∃ a A dx fs, x = .ref a ∧ H1 a = some (.ins A dx fs) ∧ Cls X.K A ∧ NoAttr X.K A f ∧ fs.length < 1000 ∧ Q σ (upd H1 a (.ins A dx (putF f v fs)))) := by
  refine ⟨fun pins s σ H v u Q I r h => ?_⟩
  rw [PySem.assign_Attribute]
  refine wpAny_bind (wpAny_holding (thn (ho.run pins s σ H _ I h) fun ov s1 ⟨x, H1, I1, rx, a, A, dx, fs, ex, ea, c, n, l, q⟩ => ?_))
  subst ex
  obtain rfl : ov = Value.ref a := rx
  refine wpAny_bind (wpAny_standAt (wpAny_bind (wpAny_holding (setattr_ok I1 ea c n l r fun s3 I3 => ?_))))
  exact wpAny_release ⟨σ, _, I3, q⟩
theorem setF_ok {ρ ρ1 : Env} {S S1 : Sto} {d u : D} {f : String} (e : setF C ρ S d f u = .ok ρ1 S1) : ∃ h c fs I, u = .ref h ∧ S[h]? = some (.ins c fs) ∧ C.cls c = some I ∧ I.flds.contains f = true ∧ fs.length < 1000 ∧ ρ1 = ρ ∧ S1 = S.set h (.ins c (putD f d fs)) := by
  cases u with
  | ref h =>
    unfold setF at e
    cases e3 : S[h]? with
    | none => simp [e3] at e
    | some ob =>
      cases ob with
      | ins c fs =>
        simp only [e3] at e
        cases e4 : C.cls c with
        | none => simp [e4] at e
        | some I =>
          simp only [e4] at e
          by_cases hc : (I.flds.contains f && decide (fs.length < 1000)) = true
          · rw [if_pos hc] at e
            obtain ⟨h1, h2⟩ := band2 hc
            cases e
            exact ⟨h, c, fs, I, rfl, e3, e4, h1, of_decide_eq_true h2, rfl, rfl⟩
          · rw [if_neg hc] at e; cases e
      | _ => simp [e3] at e
  | _ => cases e
theorem rng3_ok {p : Par} {C : Ctx} {X : Cx} (x : XC p C X) {tg x1 x2 x3 : Expr} {q pos : Pos} {fa : Env → Sto → R (List D)} (h7 : p.bts.contains "range" = true) (h3 : isGl X.env.scope "range" = true) (hp : [x1, x2, x3].all noStar = true) (ha : PA X [x1, x2, x3] (tA X.K X.mg fa)) :
    PI X tg (.Call (.Name "range" q) [x1, x2, x3] [] pos) (tI X.K X.mg fun ρ S => (fa ρ S).bind fun l S1 => R.of ((rng3D l).map .fix) S1) := by
  have hm := x.bts "range" (mem_of_contains h7)
  simp only [List.all_cons, Bool.and_eq_true] at hp
  refine PI.imp (pi_range3 (isGl_ok h3) hm ha (star_cons hp.1) (by rw [star_cons hp.2.1, star_cons hp.2.2.1]; rfl)) fun σ H Rj ⟨φ, ρ, S, m, S1, re, rs, e, w⟩ => ?_
  obtain ⟨ds, S2, e1, e2⟩ := bind_ok e
  obtain ⟨e6, e3⟩ := of_ok e2
  subst e3
  obtain ⟨l, e4, e5⟩ := Option.map_eq_some_iff.mp e6
  subst e5
  refine ⟨φ, ρ, S, ds, S1, re, rs, e1, fun φ' H' vs xx r t => ?_⟩
  obtain ⟨i, j, c, rfl, hc, rfl⟩ : ∃ i j c, ds = [.int i, .int j, .int c] ∧ (c ≠ 0 ∧ c.natAbs < 1073741824 ∧ Builtin.Range.small i j c = true ∧ 0 ≤ Builtin.Range.rangeSize i j c) ∧ l = dnL i c (Builtin.Range.rangeSize i j c).toNat := by
    unfold rng3D at e4
    split at e4
    · obtain ⟨hc, e5⟩ := ite_some e4
      exact ⟨_, _, _, rfl, hc, e5.symm⟩
    · cases e4
  obtain ⟨v1, vr, rfl, q1, t1⟩ := t.inv_cons
  obtain ⟨v2, vr, rfl, q2, t2⟩ := t1.inv_cons
  obtain ⟨v3, vr, rfl, q3, t3⟩ := t2.inv_cons
  have := t3.inv_nil
  subst this
  exact ⟨i, j, c, _, by rw [rvint.mp q1, rvint.mp q2, rvint.mp q3], ⟨hc.1, hc.2.1, hc.2.2.1, (Int.toNat_of_nonneg hc.2.2.2).symm⟩, w φ' H' _ xx r wk_rng3.g⟩
theorem vals_rng (i : Int) (n : Nat) (K : PySem.W.Frag) (φ : Lo) (S : Sto) (H : Hp) : RVs K φ S H (rngL i n) ((List.range n).map fun k => V.int (i + (k : Nat))) := by
  unfold rngL
  generalize List.range n = ks
  induction ks with
  | nil => exact .nil
  | cons a r ih => exact .cons rv_int ih
theorem ext_trk {K : PySem.W.Frag} {mg : Str → Option Value} {φ : Lo} {S : Sto} {H : Hp} (rs : RS K mg φ S H) : ∀ l : List (Addr × List V), (∀ q ∈ l, H q.1 = none) → (l.map (·.1)).Nodup → Ext φ S H φ S (trkT H l) ∧ RS K mg φ S (trkT H l)
  | [], _, _ => ⟨Ext.refl, rs⟩
  | q :: r, h, nd => by
    rw [List.map_cons, List.nodup_cons] at nd
    obtain ⟨e, r'⟩ := ext_trk rs r (fun p hp => h p (List.mem_cons_of_mem _ hp)) nd.2
    have hq : trkT H r q.1 = none := (trkT_out nd.1).trans (h q List.mem_cons_self)
    exact ⟨e.trans (Ext.new r' hq), r'.new hq⟩
theorem rvs_prs {K : PySem.W.Frag} {φ : Lo} {S : Sto} {H : Hp} : ∀ (l k : List MI.D) (xs ys : List V) (Ts : List Addr), RVs K φ S H l xs → RVs K φ S H k ys → Ts.length = min xs.length ys.length → (∀ q ∈ prsV Ts xs ys, H q.1 = some (.tup q.2)) → RVs K φ S H (zipL l k) (Ts.map V.ref)
  | [], k, xs, ys, Ts, r1, r2, hl, h => by
    rw [r1.inv_nil] at hl
    have : Ts = [] := List.length_eq_zero_iff.mp (by simpa using hl)
    subst this
    exact .nil
  | d :: l, [], xs, ys, Ts, r1, r2, hl, h => by
    rw [r2.inv_nil] at hl
    have : Ts = [] := List.length_eq_zero_iff.mp (by simpa using hl)
    subst this
    exact .nil
  | d :: l, e :: k, xs, ys, Ts, r1, r2, hl, h => by
    obtain ⟨v, vr, rfl, q1, t1⟩ := r1.inv_cons
    obtain ⟨u, ur, rfl, q2, t2⟩ := r2.inv_cons
    cases Ts with
    | nil => simp at hl
    | cons T Ts =>
      have hT := h (T, [v, u]) List.mem_cons_self
      refine RVs.cons ?_ (rvs_prs l k vr ur Ts t1 t2 (by simp at hl; omega) fun q hq => h q (List.mem_cons_of_mem _ hq))
      exact rvtup.mpr ⟨T, _, rfl, .inl (.inl hT), .cons q1 (.cons q2 .nil)⟩
theorem ofzD_ok {x y : MI.D} {l : List MI.D} (h : ofzD x y = some l) : ∃ a b, x = .lst a ∧ y = .lst b ∧ l = zipL a b := by
  cases x with
  | lst a => cases y with
    | lst b => exact ⟨a, b, rfl, rfl, (Option.some.inj h).symm⟩
    | _ => cases h
  | _ => cases h
theorem ofz_ok {p : Par} {C : Ctx} {X : Cx} (x : XC p C X) (hh : p.hot = false) {q q2 pos pos2 : Pos} {x1 x2 : Expr} {a b : E} (gl : isGl X.env.scope "list" = true) (hl : p.bts.contains "list" = true) (h3 : isGl X.env.scope "zip" = true) (h7 : p.bts.contains "zip" = true) (p1 : plainE x1 = true) (p2 : plainE x2 = true)
    (hA : PE X x1 (tE X.K X.mg (evE C a))) (hB : PE X x2 (tE X.K X.mg (evE C b))) : PE X (.Call (.Name "list" q) [.Call (.Name "zip" q2) [x1, x2] [] pos2] [] pos) (tL X.K X.mg (evL C (.ofz a b))) := by
  have hm := x.bts "zip" (mem_of_contains h7)
  have hml := x.bts "list" (mem_of_contains hl)
  refine PE.imp (pe_listZip (x.calm hh) (isGl_ok gl) hml (isGl_ok h3) hm hA hB (by rw [star_cons (plain_noStar p1)]) (by rw [star_cons (plain_noStar p2)]) (by rw [star_cons (plain_noStar p2)]; rfl)) fun σ H Q h => ?_
  obtain ⟨φ, ρ, S, d, S1, re, rs, e, w⟩ := tL2 (fa := evE C a) (fb := evE C b) (g := fun x y S2 => R.of (ofzD x y) S2) h
  refine ⟨φ, ρ, S, d, S1, re, rs, e, fun φ1 H1 v1 x1 r1 q1 => ?_⟩
  obtain ⟨φ2, ρ2, S2, d2, S3, re2, rs2, e2, w2⟩ := w φ1 H1 v1 x1 r1 q1
  refine ⟨φ2, ρ2, S2, d2, S3, re2, rs2, e2, fun φ3 H3 v3 x3 r3 q3 => ?_⟩
  obtain ⟨φ4, S4, a', b', l, S', r4, qa, qb, e4, w4⟩ := w2 φ3 H3 v3 x3 r3 q3
  obtain ⟨e6, e5⟩ := of_ok e4
  subst e5
  obtain ⟨l1, l2, rfl, rfl, rfl⟩ := ofzD_ok e6
  obtain ⟨a1, vs, rfl, g1, t1⟩ := rvlst.mp qa
  obtain ⟨a2, ws, rfl, g2, t2⟩ := rvlst.mp qb
  refine ⟨a1, a2, vs, ws, rfl, rfl, g1.sq, g2.sq, fun Ts D hT nd hTn hD hDT => ?_⟩
  have hf := prs_fst hT
  obtain ⟨ex, rx⟩ := ext_trk r4 (prsV Ts vs ws) (fun q hq => hTn q.1 (by rw [← hf]; exact List.mem_map.mpr ⟨q, hq, rfl⟩)) (by rw [hf]; exact nd)
  have hDn : trkT H3 (prsV Ts vs ws) D = none := (trkT_out (by rw [hf]; exact hDT)).trans hD
  exact w4 φ4 _ _ D ex rx (rvs_prs l1 l2 vs ws Ts (RVs.mono ex _ _ t1) (RVs.mono ex _ _ t2) hT fun q hq => trkT_in (by rw [hf]; exact nd) hq) hDn
theorem ofr1_ok {p : Par} {C : Ctx} {X : Cx} (x : XC p C X) (hh : p.hot = false) {q q2 pos pos2 : Pos} {a : Expr} {e1 : E} (hl : p.bts.contains "list" = true) (gl : isGl X.env.scope "list" = true) (h7 : p.bts.contains "range" = true) (h3 : isGl X.env.scope "range" = true) (hp : noStar a = true)
    (hE : PE X a (tE X.K X.mg (evE C e1))) : PE X (.Call (.Name "list" q) [.Call (.Name "range" q2) [a] [] pos2] [] pos) (tL X.K X.mg (evL C (.ofr (.cons e1 .nil)))) := by
  have hm := x.bts "range" (mem_of_contains h7)
  have hml := x.bts "list" (mem_of_contains hl)
  refine PE.imp (L2.pe_listRg (x.calm hh) (isGl_ok gl) hml (L2.prg_1 (isGl_ok h3) hm hE (star_cons hp)) rfl) fun σ H Q ⟨φ, ρ, S, d, S1, re, rs, e, w⟩ => ?_
  obtain ⟨l1, S2, f1, f2⟩ := bind_ok (show ((evEs C (.cons e1 .nil) ρ S).bind fun l S1 => R.of (ofrD l) S1) = .ok d S1 from e)
  obtain ⟨u, S3, f3, f4⟩ := bind_ok (show ((evE C e1 ρ S).bind fun x S1 => (R.ok ([] : List MI.D) S1).bind fun l S2 => .ok (x :: l) S2) = .ok l1 S2 from f1)
  cases f4
  obtain ⟨f5, f6⟩ := of_ok f2
  subst f6
  refine ⟨φ, ρ, S, u, S1, re, rs, f3, fun φ1 H1 v1 x1 r1 q1 => ?_⟩
  cases u <;> first | (cases f5; done) | skip
  rename_i j
  obtain ⟨hc, e7⟩ := ite_some (show (if (small62 j && decide (j.toNat ≤ line)) = true then some (rngL 0 j.toNat) else none) = some d from f5)
  subst e7
  obtain ⟨c1, c2⟩ := band2 hc
  have c2 := of_decide_eq_true c2
  have c1 := s62 c1
  refine ⟨j, rvint.mp q1, ⟨by omega, by omega, c1.1, c1.2, by rw [Int.sub_zero]; exact c2⟩, fun p hp => ?_⟩
  have : L2.rgV 0 j = (List.range j.toNat).map fun k => V.int (0 + (k : Nat)) := by unfold L2.rgV; rw [Int.sub_zero]
  rw [this]
  exact w φ1 H1 _ p x1 r1 (vals_rng 0 _ _ _ _ _) hp
theorem ofr2_ok {p : Par} {C : Ctx} {X : Cx} (x : XC p C X) (hh : p.hot = false) {q q2 pos pos2 : Pos} {a b : Expr} {e1 e2 : E} (hl : p.bts.contains "list" = true) (gl : isGl X.env.scope "list" = true) (h7 : p.bts.contains "range" = true) (h3 : isGl X.env.scope "range" = true) (hp : noStar a = true) (hp2 : noStar b = true)
    (hE : PE X a (tE X.K X.mg (evE C e1))) (hE2 : PE X b (tE X.K X.mg (evE C e2))) : PE X (.Call (.Name "list" q) [.Call (.Name "range" q2) [a, b] [] pos2] [] pos) (tL X.K X.mg (evL C (.ofr (.cons e1 (.cons e2 .nil))))) := by
  have hm := x.bts "range" (mem_of_contains h7)
  have hml := x.bts "list" (mem_of_contains hl)
  refine PE.imp (L2.pe_listRg (x.calm hh) (isGl_ok gl) hml (L2.prg_2 (isGl_ok h3) hm hE hE2 (star_cons hp) (star_cons hp2) (by rw [star_cons hp2]; rfl)) rfl) fun σ H Q ⟨φ, ρ, S, d, S1, re, rs, e, w⟩ => ?_
  obtain ⟨l1, S2, f1, f2⟩ := bind_ok (show ((evEs C (.cons e1 (.cons e2 .nil)) ρ S).bind fun l S1 => R.of (ofrD l) S1) = .ok d S1 from e)
  obtain ⟨u, S3, f3, f4⟩ := bind_ok (show ((evE C e1 ρ S).bind fun x S1 => (evEs C (.cons e2 .nil) ρ S1).bind fun l S2 => .ok (x :: l) S2) = .ok l1 S2 from f1)
  obtain ⟨l2, S4, f7, f8⟩ := bind_ok f4
  cases f8
  obtain ⟨u2, S5, f9, f10⟩ := bind_ok (show ((evE C e2 ρ S3).bind fun x S1 => (R.ok ([] : List MI.D) S1).bind fun l S2 => .ok (x :: l) S2) = .ok l2 S2 from f7)
  cases f10
  obtain ⟨f5, f6⟩ := of_ok f2
  subst f6
  refine ⟨φ, ρ, S, u, S3, re, rs, f3, fun φ1 H1 v1 x1 r1 q1 => ⟨φ1, ρ, S3, u2, S1, re.mono x1, r1, f9, fun φ2 H2 v2 x2 r2 q2 => ?_⟩⟩
  cases u <;> first | (cases f5; done) | skip
  rename_i i
  cases u2 <;> first | (cases f5; done) | skip
  rename_i j
  obtain ⟨hc, e7⟩ := ite_some (show (if (small62 i && small62 j && decide ((j - i).toNat ≤ line)) = true then some (rngL i (j - i).toNat) else none) = some d from f5)
  subst e7
  obtain ⟨hc, c3⟩ := band2 hc
  obtain ⟨c1, c2⟩ := band2 hc
  have c3 := of_decide_eq_true c3
  have c1 := s62 c1
  have c2 := s62 c2
  rw [rvint] at q1
  subst q1
  exact ⟨i, j, rfl, rvint.mp q2, ⟨c1.1, c1.2, c2.1, c2.2, c3⟩, fun p hp => w φ2 H2 _ p (x1.trans x2) r2 (vals_rng i _ _ _ _ _) hp⟩
theorem insU_mem {x k : Int} : ∀ {l : List Int}, k ∈ insU x l ↔ k = x ∨ k ∈ l
  | [] => by simp [insU]
  | y :: l => by
    unfold insU
    by_cases h1 : x < y
    · rw [if_pos h1]; simp
    · rw [if_neg h1]
      by_cases h2 : x = y
      · rw [if_pos h2]; subst h2; simp
      · rw [if_neg h2, List.mem_cons, insU_mem (l := l), List.mem_cons]
        constructor
        · rintro (h | h | h) <;> simp [h]
        · rintro (h | h | h) <;> simp [h]
theorem srtU_mem {k : Int} : ∀ {l : List Int}, k ∈ srtU l ↔ k ∈ l
  | [] => Iff.rfl
  | x :: l => by unfold srtU; rw [insU_mem, srtU_mem (l := l), List.mem_cons]
theorem insU_lt {x : Int} : ∀ {l : List Int}, l.Pairwise (· < ·) → (insU x l).Pairwise (· < ·)
  | [], _ => by simp [insU]
  | y :: l, h => by
    obtain ⟨g1, g2⟩ := List.pairwise_cons.mp h
    unfold insU
    by_cases h1 : x < y
    · rw [if_pos h1]
      refine List.pairwise_cons.mpr ⟨fun z hz => ?_, h⟩
      rcases List.mem_cons.mp hz with rfl | hz
      · exact h1
      · have := g1 z hz; omega
    · rw [if_neg h1]
      by_cases h2 : x = y
      · rw [if_pos h2]; exact h
      · rw [if_neg h2]
        refine List.pairwise_cons.mpr ⟨fun z hz => ?_, insU_lt g2⟩
        rcases insU_mem.mp hz with rfl | hz
        · omega
        · exact g1 z hz
theorem srtU_lt : ∀ l : List Int, (srtU l).Pairwise (· < ·)
  | [] => List.Pairwise.nil
  | _ :: l => insU_lt (srtU_lt l)
theorem srt_uniq : ∀ {a b : List Int}, a.Pairwise (· < ·) → b.Pairwise (· < ·) → (∀ k, k ∈ a ↔ k ∈ b) → a = b
  | [], [], _, _, _ => rfl
  | [], y :: _, _, _, h => absurd ((h y).mpr List.mem_cons_self) (List.not_mem_nil)
  | x :: _, [], _, _, h => absurd ((h x).mp List.mem_cons_self) (List.not_mem_nil)
  | x :: a, y :: b, h1, h2, h => by
    obtain ⟨g1, g2⟩ := List.pairwise_cons.mp h1
    obtain ⟨g3, g4⟩ := List.pairwise_cons.mp h2
    have e : x = y := by
      rcases List.mem_cons.mp ((h x).mp List.mem_cons_self) with e | e
      · exact e
      · rcases List.mem_cons.mp ((h y).mpr List.mem_cons_self) with e2 | e2
        · exact e2.symm
        · have := g1 y e2; have := g3 x e; omega
    subst e
    congr 1
    refine srt_uniq g2 g4 fun k => ⟨fun hk => ?_, fun hk => ?_⟩
    · rcases List.mem_cons.mp ((h k).mp (List.mem_cons_of_mem _ hk)) with e | e
      · have := g1 k hk; omega
      · exact e
    · rcases List.mem_cons.mp ((h k).mpr (List.mem_cons_of_mem _ hk)) with e | e
      · have := g3 k hk; omega
      · exact e
theorem sstD_ok {S : Sto} {d : D} {l : List D} (h : sstD S d = some l) : ∃ l0 ns, listOf S d = some l0 ∧ intsOf l0 = some ns ∧ ns.length < 63 ∧ l = (srtU ns).map .int := by
  unfold sstD at h
  cases e1 : listOf S d with
  | none => rw [e1] at h; cases h
  | some l0 =>
    rw [e1] at h
    cases e2 : intsOf l0 with
    | none => have h : (match (intsOf l0) with
        | some ns => if ns.length < 63 then some ((srtU ns).map D.int) else none
        | none => none) = some l := h
              rw [e2] at h; cases h
    | some ns =>
      have h : (match (intsOf l0) with
        | some ns => if ns.length < 63 then some ((srtU ns).map D.int) else none
        | none => none) = some l := h
      rw [e2] at h
      have h : (if ns.length < 63 then some ((srtU ns).map D.int) else none) = some l := h
      by_cases hc : ns.length < 63
      · rw [if_pos hc] at h; cases h; exact ⟨l0, ns, rfl, e2, hc, rfl⟩
      · rw [if_neg hc] at h; cases h
theorem sst_ok {p : Par} {C : Ctx} {X : Cx} {a : E} (x : XC p C X) (hh : p.hot = false) {pa : Expr} {q q2 pos pos2 : Pos} (h2 : isGl X.env.scope ("sorted" : Str) = true) (h3 : p.bts.contains "sorted" = true) (h5 : isGl X.env.scope ("set" : Str) = true) (h6 : p.bts.contains "set" = true) (h7 : plainE pa = true) (ha : PE X pa (tE X.K X.mg (evE C a))) :
    PE X (.Call (.Name ("sorted" : Str) q) [.Call (.Name ("set" : Str) q2) [pa] [] pos2] [] pos) (tL X.K X.mg (evL C (.sst a))) := by
  have hset := pe_callTy (pos := pos2) (p := q2) (cr_setLI (x.calm hh)) (isGl_ok h5) (x.bts "set" (mem_of_contains h6)) (by decide +kernel) (pa_cons ha pa_nil (star_cons (plain_noStar h7))) (by decide) (by decide) (star_cons (plain_noStar h7)) rfl
  refine PE.imp (pe_callB (cr_sortedSet (x.calm hh)) (isGl_ok h2) (x.bts "sorted" (mem_of_contains h3)) (by decide +kernel) (pa_cons hset pa_nil rfl) (by decide) (by decide) rfl rfl) fun σ H Q h => ?_
  obtain ⟨φ, ρ, S, d, S1, re, rs, e, w⟩ := tL1 (fa := evE C a) (g := fun x S1 => R.of (sstD S1 x) S1) h
  refine ⟨φ, ρ, S, d, S1, re, rs, e, fun φ1 H1 v1 x1 r1 q1 => ?_⟩
  obtain ⟨φ4, S4, a', l, S', r4, qa, e4, w4⟩ := w φ1 H1 v1 x1 r1 q1
  obtain ⟨e4, e5⟩ := of_ok e4
  subst e5
  obtain ⟨l0, ns, e6, e7, hl, rfl⟩ := sstD_ok e4
  obtain ⟨b, vs, rfl, g1, t1⟩ := list_at r4 qa e6
  have hvs : vs = ns.map V.int := RVs.ints e7 t1
  subst hvs
  refine ⟨b, ns, rfl, g1, by unfold PySem.scanBound; omega, fun p c hp hc => ?_⟩
  refine ⟨p, _, c, rfl, upd_same, by omega, fun ns' p' hs hm hl' hp' => ?_⟩
  have e8 : ns' = srtU ns := srt_uniq hs (srtU_lt ns) fun k => by rw [hm k, srtU_mem]; simp
  rw [e8]
  exact w4 φ4 _ _ p' (Ext.new r4 hp) (RS.new r4 hp) (RV.of_ints _) hp'
theorem ofr_split {p : Par} {N : List Str} {es : Es} {sc : Scope} {fn : Str → Bool} {pe : Expr} (h : okL p N (.ofr es) sc fn pe = true) : ∃ q q2 l pos pos2, pe = .Call (.Name "list" q) [.Call (.Name "range" q2) l [] pos2] [] pos ∧ isGl sc "list" = true ∧ p.bts.contains "list" = true ∧ isGl sc "range" = true ∧ p.bts.contains "range" = true ∧ okEs p N es sc fn l = true ∧ len12 l = true ∧ p.hot = false := by
  unfold okL at h
  split at h
  · rename_i y q z q2 l pos2 pos
    obtain ⟨h, h8⟩ := band2 h
    obtain ⟨h, h7⟩ := band2 h
    obtain ⟨h, h6⟩ := band2 h
    obtain ⟨h, h5⟩ := band2 h
    obtain ⟨h, h4⟩ := band2 h
    obtain ⟨h, h3⟩ := band2 h
    obtain ⟨h1, h2⟩ := band2 h
    have hz := dec_eq h1
    subst hz
    have hz2 := dec_eq h4
    subst hz2
    obtain ⟨h8, hh⟩ := band2 h8
    exact ⟨_, _, l, _, _, rfl, h2, h3, h5, h6, h7, h8, by simpa using hh⟩
  · cases h
mutual
theorem soundE {p : Par} {C : Ctx} : ∀ (e : E) {X : Cx} (x : XC p C X) (pe : Expr), okE p X.N e X.env.scope X.fn pe = true → PE X pe (tE X.K X.mg (evE C e))
  | .cI i, X, x, pe, h => by
    unfold okE at h
    cases pe <;> first | cases h | skip
    rename_i c k pos
    cases c <;> first | cases h | skip
    rename_i j
    have := dec_eq h
    subst this
    exact PE.imp pe_int fun σ H Q ⟨φ, ρ, S, d, S1, re, rs, e, w⟩ => by cases e; exact w.here rs rv_int
  | .cB b, X, x, pe, h => by
    unfold okE at h
    cases pe <;> first | cases h | skip
    rename_i c k pos
    cases c <;> first | cases h | skip
    rename_i j
    have := beq_true h
    subst this
    exact PE.imp pe_bl fun σ H Q ⟨φ, ρ, S, d, S1, re, rs, e, w⟩ => by cases e; exact w.here rs rv_bl
  | .cN, X, x, pe, h => by
    unfold okE at h
    cases pe <;> first | cases h | skip
    rename_i c k pos
    cases c <;> first | cases h | skip
    exact PE.imp pe_non fun σ H Q ⟨φ, ρ, S, d, S1, re, rs, e, w⟩ => by cases e; exact w.here rs rv_non
  | .cS s, X, x, pe, h => by
    unfold okE at h
    cases pe <;> first | cases h | skip
    rename_i c k pos
    cases c <;> first | cases h | skip
    rename_i j
    have := dec_eq h
    subst this
    exact PE.imp pe_str fun σ H Q ⟨φ, ρ, S, d, S1, re, rs, e, w⟩ => by cases e; exact w.here rs rv_str
  | .v i, X, x, pe, h => by
    unfold okE at h
    cases pe <;> first | cases h | skip
    rename_i y pos
    obtain ⟨h1, h2⟩ := band2 h
    obtain ⟨h1, h3⟩ := band2 h1
    obtain ⟨n1, n2, _⟩ := nameOk_iff h2
    refine PE.imp (pe_var (i := i) (dec_eq h1) (isVis_ok h3) n1 n2) fun σ H Q ⟨φ, ρ, S, d, S1, re, rs, e, w⟩ => ?_
    have e' : (match ρ[i]? with | some (some d) => R.ok d S | _ => .bad) = .ok d S1 := e
    cases e1 : ρ[i]? with
    | none => rw [e1] at e'; cases e'
    | some o =>
      cases o with
      | none => rw [e1] at e'; cases e'
      | some d' =>
        rw [e1] at e'
        cases e'
        obtain ⟨v, e2, r⟩ := re.at_ i _ e1
        exact ⟨v, e2, w.here rs r⟩
  | .g y, X, x, pe, h => by
    unfold okE at h
    cases pe <;> first | cases h | skip
    rename_i z pos
    obtain ⟨h1, h2⟩ := band2 h
    obtain ⟨h1, h3⟩ := band2 h1
    obtain ⟨h1, h4⟩ := band2 h1
    have hz := dec_eq h1
    subst hz
    obtain ⟨d0, u, v, g1, g2, g3, g4⟩ := x.glos y (mem_of_contains h2)
    refine PE.imp (pe_glob (isGl_ok h4) g2 g3 (nameOk_iff h3).1) fun σ H Q ⟨φ, ρ, S, d, S1, re, rs, e, w⟩ => ?_
    obtain ⟨e1, e2⟩ := of_ok (show R.of (C.glo y) S = .ok d S1 from e)
    subst e2
    rw [g1] at e1; cases e1
    exact w.here rs (g4 _ _ _)
  | .bt y, X, x, pe, h => by
    unfold okE at h
    cases pe <;> first | cases h | skip
    rename_i z pos
    obtain ⟨h1, h2⟩ := band2 h
    obtain ⟨h1, h3⟩ := band2 h1
    obtain ⟨h1, h4⟩ := band2 h1
    obtain ⟨h1, h5⟩ := band2 h1
    have hz := dec_eq h1
    subst hz
    have hb : bootBuiltins (Str.ofString y) = some (.type y) := by
      have hy := mem_of_contains h2
      simp only [tys, List.mem_cons, List.mem_nil_iff, or_false] at hy
      rcases hy with rfl | rfl | rfl | rfl | rfl <;> decide +kernel
    refine PE.imp (pe_bltn (v := .ty y) (isGl_ok h5) (x.bts y (mem_of_contains h3)) hb rfl (nameOk_iff h4).2.2 (nameOk_iff h4).1) fun σ H Q ⟨φ, ρ, S, d, S1, re, rs, e, w⟩ => ?_
    cases e
    exact w.here rs (rvty.mpr rfl)
  | .bin o a b, X, x, pe, h => by
    unfold okE at h
    cases pe <;> first | cases h | skip
    obtain ⟨h1, h2⟩ := band2 h
    obtain ⟨h1, h3⟩ := band2 h1
    have := dec_eq h1
    subst this
    refine PE.imp (pe_op bin_ok (soundE a x _ h3) (soundE b x _ h2)) fun σ H Q h => ?_
    obtain ⟨φ, ρ, S, d, S1, re, rs, e, w⟩ := tE2 (g := fun x y S2 => R.of (binD S2 o x y) S2) h
    refine ⟨φ, ρ, S, d, S1, re, rs, e, fun φ1 H1 v1 x1 r1 q1 => ?_⟩
    obtain ⟨φ2, ρ2, S2, d2, S3, re2, rs2, e2, w2⟩ := w φ1 H1 v1 x1 r1 q1
    refine ⟨φ2, ρ2, S2, d2, S3, re2, rs2, e2, fun φ3 H3 v3 x3 r3 q3 => ?_⟩
    obtain ⟨φ4, S4, a', b', d', S', r4, qa, qb, e4, w4⟩ := w2 φ3 H3 v3 x3 r3 q3
    obtain ⟨e4, e5⟩ := of_ok e4
    subst e5
    exact ⟨φ4, S', a', b', d', r4, qa, qb, e4, w4⟩
  | .neg a, X, x, pe, h => by
    unfold okE at h
    cases pe <;> first | cases h | skip
    rename_i o l pos
    cases o <;> first | cases h | skip
    refine PE.imp (pe_un un_neg (soundE a x _ h)) fun σ H Q h => ?_
    obtain ⟨φ, ρ, S, d, S1, re, rs, e, w⟩ := tE1 (g := fun x S1 => match x with | .int i => .ok (.int (-i)) S1 | _ => .bad) h
    refine ⟨φ, ρ, S, d, S1, re, rs, e, fun φ1 H1 v1 x1 r1 q1 => ?_⟩
    obtain ⟨φ4, S4, a', d', S', r4, qa, e4, w4⟩ := w φ1 H1 v1 x1 r1 q1
    cases a' <;> first | cases e4 | skip
    rename_i i
    exact ⟨i, rvint.mp qa, w4.here r4 rv_int⟩
  | .inv a, X, x, pe, h => by
    unfold okE at h
    cases pe <;> first | cases h | skip
    rename_i o l pos
    cases o <;> first | cases h | skip
    refine PE.imp (pe_un un_inv (soundE a x _ h)) fun σ H Q h => ?_
    obtain ⟨φ, ρ, S, d, S1, re, rs, e, w⟩ := tE1 (g := fun x S1 => match x with | .int i => .ok (.int (PySem.Builtin.bitNot i)) S1 | _ => .bad) h
    refine ⟨φ, ρ, S, d, S1, re, rs, e, fun φ1 H1 v1 x1 r1 q1 => ?_⟩
    obtain ⟨φ4, S4, a', d', S', r4, qa, e4, w4⟩ := w φ1 H1 v1 x1 r1 q1
    cases a' <;> first | cases e4 | skip
    rename_i i
    exact ⟨i, rvint.mp qa, w4.here r4 rv_int⟩
  | .cmp o a b, X, x, pe, h => by
    unfold okE at h
    cases pe <;> first | cases h | skip
    rename_i l ops rs pos
    match ops, rs, h with
    | [o'], [r], h =>
      obtain ⟨h1, h2⟩ := band2 h
      obtain ⟨h1, h3⟩ := band2 h1
      obtain ⟨h1, h4⟩ := band2 h1
      have := dec_eq h1
      subst this
      refine PE.imp (pe_cmpR (cmp_ok x.hu) (soundE a x _ h3) (soundE b x _ h2) (plain_mark h4)) fun σ H Q h => ?_
      obtain ⟨φ, ρ, S, d, S1, re, rs, e, w⟩ := tE2 (g := fun x y S2 => R.of ((cmpD S2 o x y).map .bl) S2) h
      refine ⟨φ, ρ, S, d, S1, re, rs, e, fun φ1 H1 v1 x1 r1 q1 => ?_⟩
      obtain ⟨φ2, ρ2, S2, d2, S3, re2, rs2, e2, w2⟩ := w φ1 H1 v1 x1 r1 q1
      refine ⟨φ2, ρ2, S2, d2, S3, re2, rs2, e2, fun φ3 H3 v3 x3 r3 q3 => ?_⟩
      obtain ⟨φ4, S4, a', b', d', S', r4, qa, qb, e4, w4⟩ := w2 φ3 H3 v3 x3 r3 q3
      obtain ⟨e4, e5⟩ := of_ok e4
      subst e5
      exact ⟨φ4, S', a', b', d', r4, qa, qb, e4, w4⟩
    | [], [], h => cases h
    | [], _ :: _, h => cases h
    | [_], [], h => cases h
    | [_], _ :: _ :: _, h => cases h
    | _ :: _ :: _, _, h => cases h
  | .chn o o2 a b c, X, x, pe, h => by
    unfold okE at h
    cases pe <;> first | cases h | skip
    rename_i l ops rs pos
    match ops, rs, h with
    | [o', o2'], [r, r2], h =>
      obtain ⟨h1, h2⟩ := band2 h
      obtain ⟨h1, h3⟩ := band2 h1
      obtain ⟨h1, h4⟩ := band2 h1
      obtain ⟨h1, h5⟩ := band2 h1
      obtain ⟨h1, h6⟩ := band2 h1
      have := dec_eq h1
      subst this
      have := dec_eq h6
      subst this
      refine PE.imp (pe_chain (cmp_ok x.hu) (cmp_ok x.hu) (soundE a x _ h4) (soundE b x _ h3) (soundE c x _ h2) (chain_mark h5)) fun σ H Q h => ?_
      obtain ⟨φ, ρ, S, d, S1, re, rs, e, w⟩ := h
      exact chn_read (fa := evE C a) (fb := evE C b) (fc := evE C c) (W := fun φ S H d S1 => Wt X.K X.mg φ S H d S1 Q) (g := fun k => D.bl k) (fun w x => w.step x) (fun w rs => w.here rs rv_bl) ⟨φ, ρ, S, d, S1, re, rs, e, w⟩
    | [], _, h => cases h
    | [_], _, h => cases h
    | _ :: _ :: _ :: _, _, h => cases h
    | [_, _], [], h => cases h
    | [_, _], [_], h => cases h
    | [_, _], _ :: _ :: _ :: _, h => cases h
  | .band es, X, x, pe, h => by
    unfold okE at h
    cases pe <;> first | cases h | skip
    rename_i o l pos
    cases o <;> first | cases h | skip
    exact soundAnd es x l pos h
  | .bor es, X, x, pe, h => by
    unfold okE at h
    cases pe <;> first | cases h | skip
    rename_i o l pos
    cases o <;> first | cases h | skip
    exact soundOr es x l pos h
  | .not a, X, x, pe, h => by
    unfold okE at h
    cases pe <;> first | cases h | skip
    rename_i o l pos
    cases o <;> first | cases h | skip
    refine PE.imp (pe_not (soundE a x _ h)) fun σ H Q h => ?_
    obtain ⟨φ, ρ, S, d, S1, re, rs, e, w⟩ := tE1 (g := fun x S1 => match x with | .bl b => .ok (.bl (!b)) S1 | _ => .bad) h
    refine ⟨φ, ρ, S, d, S1, re, rs, e, fun φ1 H1 v1 x1 r1 q1 => ?_⟩
    obtain ⟨φ4, S4, a', d', S', r4, qa, e4, w4⟩ := w φ1 H1 v1 x1 r1 q1
    cases a' <;> first | cases e4 | skip
    rename_i i
    exact ⟨i, rvbl.mp qa, w4.here r4 rv_bl⟩
  | .ite c a b, X, x, pe, h => by
    unfold okE at h
    cases pe <;> first | cases h | skip
    obtain ⟨h1, h2⟩ := band2 h
    obtain ⟨h1, h3⟩ := band2 h1
    refine PE.imp (pe_ifExp (soundT c x _ h1) (soundE a x _ h3) (soundE b x _ h2)) fun σ H Q ⟨φ, ρ, S, d, S1, re, rs, e, w⟩ => ?_
    obtain ⟨k, S2, e1, e2⟩ := bind_ok (show ((evT C c ρ S).bind fun k S1 => if k = true then evE C a ρ S1 else evE C b ρ S1) = .ok d S1 from e)
    refine ⟨φ, ρ, S, k, S2, re, rs, e1, fun φ' H' xx r => ?_⟩
    cases k with
    | true => exact iteT ⟨φ', ρ, S2, d, S1, re.mono xx, r, e2, w.step xx⟩
    | false => exact iteF ⟨φ', ρ, S2, d, S1, re.mono xx, r, e2, w.step xx⟩
  | .tup es, X, x, pe, h => by
    unfold okE at h
    cases pe <;> first | cases h | skip
    refine PE.imp (pe_tup (soundEs es x _ h)) fun σ H Q ⟨φ, ρ, S, d, S1, re, rs, e, w⟩ => ?_
    obtain ⟨l, S2, e1, e2⟩ := bind_ok (show ((evEs C es ρ S).bind fun l S1 => if l.length ≤ line then R.ok (.tup l) S1 else .bad) = .ok d S1 from e)
    refine ⟨φ, ρ, S, l, S2, re, rs, e1, fun φ' H' vs xx r t => ?_⟩
    by_cases hc : l.length ≤ line
    · rw [if_pos hc] at e2
      cases e2
      exact ⟨by rw [t.length]; exact hc, fun q hq => (w.step xx).tup r t hq⟩
    · rw [if_neg hc] at e2; cases e2
  | .ktup es, X, x, pe, h => by
    unfold okE at h
    cases pe <;> first | cases h | skip
    refine PE.imp (pe_tup (soundEs es x _ h)) fun σ H Q ⟨φ, ρ, S, d, S1, re, rs, e, w⟩ => ?_
    obtain ⟨l, S2, e1, e2⟩ := bind_ok (show ((evEs C es ρ S).bind fun l S1 => match keyL l with | some k => if l.length ≤ line then R.ok (.key k) S1 else .bad | none => .bad) = .ok d S1 from e)
    refine ⟨φ, ρ, S, l, S2, re, rs, e1, fun φ' H' vs xx r t => ?_⟩
    cases hk : keyL l with
    | none => rw [hk] at e2; cases e2
    | some k =>
      rw [hk] at e2
      by_cases hc : l.length ≤ line
      · rw [show (match some k with | some k => if l.length ≤ line then R.ok (D.key k) S2 else .bad | none => .bad) = R.ok (D.key k) S2 from if_pos hc] at e2
        cases e2
        refine ⟨by rw [t.length]; exact hc, fun q hq => ?_⟩
        rw [keyL_at hk t]
        exact (w.step xx).key r hq
      · rw [show (match some k with | some k => if l.length ≤ line then R.ok (D.key k) S2 else .bad | none => .bad) = R.bad from if_neg hc] at e2
        cases e2
  | .lset a, X, x, pe, h => by
    unfold okE at h
    split at h
    · rename_i y q z q2 x1 pos2 pos
      obtain ⟨h, h8⟩ := band2 h
      obtain ⟨h, h7⟩ := band2 h
      obtain ⟨h, h6⟩ := band2 h
      obtain ⟨h, h5⟩ := band2 h
      obtain ⟨h, h4⟩ := band2 h
      obtain ⟨h, h3⟩ := band2 h
      obtain ⟨h1, h2⟩ := band2 h
      have hz := dec_eq h1
      subst hz
      have hz2 := dec_eq h4
      subst hz2
      obtain ⟨h7, hh⟩ := band2 h7
      refine PE.imp (RZ.pe_lenSetI (isGl_ok h2) (x.bts "len" (mem_of_contains h3)) (isGl_ok h5) (x.bts "set" (mem_of_contains h6)) (soundE a x _ h8) (x.calm (by simpa using hh)) (star_cons (plain_noStar h7))) fun σ H Q h => ?_
      obtain ⟨φ, ρ, S, d, S1, re, rs, e, w⟩ := tE1 (g := fun x S1 => R.of (lstU S1 x) S1) h
      refine ⟨φ, ρ, S, d, S1, re, rs, e, fun φ1 H1 v1 x1 r1 q1 => ?_⟩
      obtain ⟨φ4, S4, a', d', S', r4, qa, e4, w4⟩ := w φ1 H1 v1 x1 r1 q1
      obtain ⟨e4, e5⟩ := of_ok e4
      subst e5
      unfold lstU at e4
      cases e6 : listOf S' a' with
      | none => rw [e6] at e4; cases e4
      | some l0 =>
        rw [e6] at e4
        cases e7 : intsOf l0 with
        | none =>
          have e4 : (match intsOf l0 with | some ns => if (decide ns.Nodup && decide (ns.length ≤ 4000)) = true then some (D.int ns.length) else none | none => none) = some d' := e4
          rw [e7] at e4; cases e4
        | some ns =>
          have e4 : (match intsOf l0 with | some ns => if (decide ns.Nodup && decide (ns.length ≤ 4000)) = true then some (D.int ns.length) else none | none => none) = some d' := e4
          rw [e7] at e4
          obtain ⟨hc, e4⟩ := ite_some (show (if (decide ns.Nodup && decide (ns.length ≤ 4000)) = true then some (D.int ns.length) else none) = some d' from e4)
          subst e4
          obtain ⟨c1, c2⟩ := band2 hc
          obtain ⟨b, vs, rfl, g1, t1⟩ := list_at r4 qa e6
          have hvs : vs = ns.map V.int := RVs.ints e7 t1
          subst hvs
          exact ⟨b, ns, rfl, g1, of_decide_eq_true c1, of_decide_eq_true c2, w4.here r4 rv_int⟩
    · cases h
  | .dnew, X, x, pe, h => by
    unfold okE at h
    split at h
    · refine PE.imp pe_dnewT fun σ H Q ⟨φ, ρ, S, d, S1, re, rs, e, w⟩ => ?_
      cases (show R.ok (D.ref S.length) (S ++ [O.dct []]) = .ok d S1 from e)
      intro q hq
      have xx : Ext φ S H ⟨φ.hs ++ [q], φ.bs⟩ (S ++ [O.dct []]) (upd H q (.dT [])) := Ext.snoc rs hq
      exact w _ _ _ xx (RS.snoc rs hq ⟨[], upd_same, .nil⟩) (rvref.mpr ⟨q, rfl, by rw [← rs.len]; exact get_snoc_r⟩)
    · cases h
  | .frz l, X, x, pe, h => by
    unfold okE at h
    exact PE.imp (soundL l x _ h) fun σ H Q h => frz_of h
  | .box l, X, x, pe, h => by
    unfold okE at h
    exact PE.imp (soundL l x _ h) fun σ H Q h => box_of h
  | .mv i, X, x, pe, h => by
    unfold okE at h
    cases pe <;> first | cases h | skip
    rename_i y pos
    obtain ⟨h1, h2⟩ := band2 h
    obtain ⟨h1, h3⟩ := band2 h1
    obtain ⟨n1, n2, _⟩ := nameOk_iff h2
    refine PE.imp (pe_var (i := i) (dec_eq h1) (isVis_ok h3) n1 n2) fun σ H Q ⟨φ, ρ, S, d, S1, re, rs, e, w⟩ => ?_
    have e' : (match ρ[i]? with | some (some (.ref h)) => (match S[h]? with | some (O.lst l) => R.ok (D.lst l) (S.set h O.dead) | _ => .bad) | _ => .bad) = .ok d S1 := e
    cases e1 : ρ[i]? with
    | none => rw [e1] at e'; cases e'
    | some o =>
      cases o with
      | none => rw [e1] at e'; cases e'
      | some d' =>
        cases d' <;> first | (rw [e1] at e'; cases e'; done) | skip
        rename_i hh
        rw [e1] at e'
        have e' : (match S[hh]? with | some (O.lst l) => R.ok (D.lst l) (S.set hh O.dead) | _ => .bad) = .ok d S1 := e'
        cases e3 : S[hh]? with
        | none => rw [e3] at e'; cases e'
        | some ob =>
          cases ob <;> first | (rw [e3] at e'; cases e'; done) | skip
          rename_i l
          rw [e3] at e'
          cases e'
          obtain ⟨v, e2, r⟩ := re.at_ i _ e1
          obtain ⟨a, rfl, q⟩ := rvref.mp r
          obtain ⟨vs, hv, t⟩ := rs.obj _ _ _ e3 q
          exact ⟨_, e2, w φ H _ Ext.kill rs.kill (rvlst.mpr ⟨a, vs, rfl, .inl ⟨.inl hv, nl_kill rs q⟩, RVs.mono Ext.kill _ _ t⟩)⟩
  | .idx a i, X, x, pe, h => by
    unfold okE at h
    cases pe <;> first | cases h | skip
    obtain ⟨h1, h2⟩ := band2 h
    obtain ⟨h1, h3⟩ := band2 h1
    refine PE.imp (pe_ix (idx_ok (by have := x.hu; omega)) (soundE a x _ h3) (soundE i x _ h2) (plain_ix h1)) fun σ H Q h => ?_
    obtain ⟨φ, ρ, S, d, S1, re, rs, e, w⟩ := tE2 (g := fun x y S2 => R.of (idxD S2 x y) S2) h
    refine ⟨φ, ρ, S, d, S1, re, rs, e, fun φ1 H1 v1 x1 r1 q1 => ?_⟩
    obtain ⟨φ2, ρ2, S2, d2, S3, re2, rs2, e2, w2⟩ := w φ1 H1 v1 x1 r1 q1
    refine ⟨φ2, ρ2, S2, d2, S3, re2, rs2, e2, fun φ3 H3 v3 x3 r3 q3 => ?_⟩
    obtain ⟨φ4, S4, a', b', d', S', r4, qa, qb, e4, w4⟩ := w2 φ3 H3 v3 x3 r3 q3
    obtain ⟨e4, e5⟩ := of_ok e4
    subst e5
    exact ⟨φ4, S', a', b', d', r4, qa, qb, e4, w4⟩
  | .slc a lo hi, X, x, pe, h => by
    unfold okE at h
    cases pe <;> first | cases h | skip
    rename_i y sl pos
    cases sl <;> first | cases h | skip
    rename_i l hh stp p2
    cases stp <;> first | cases h | skip
    obtain ⟨h1, h2⟩ := band2 h
    obtain ⟨h1, h3⟩ := band2 h1
    have pl : PO X l (tP X.K X.mg (partE (isCN lo) (evE C lo))) := by
      refine part_ok ?_
      cases l with
      | none => exact h3
      | some l =>
        obtain ⟨h4, h5⟩ := band2 h3
        exact ⟨by simpa using h4, soundE lo x _ h5⟩
    have ph : PO X hh (tP X.K X.mg (partE (isCN hi) (evE C hi))) := by
      refine part_ok ?_
      cases hh with
      | none => exact h2
      | some hh =>
        obtain ⟨h4, h5⟩ := band2 h2
        exact ⟨by simpa using h4, soundE hi x _ h5⟩
    refine PE.imp (pe_slice slc_ok (soundE a x _ h1) pl ph) fun σ H Q h => ?_
    obtain ⟨φ, ρ, S, d, S1, re, rs, e, w⟩ := tE_slc (g := fun x p q S3 => R.of (slcD S3 x p q) S3) (W := fun φ S H d S1 => Wt X.K X.mg φ S H d S1 Q) (fun w x => w.step x) h
    refine ⟨φ, ρ, S, d, S1, re, rs, e, fun φ1 H1 v1 x1 r1 q1 => ?_⟩
    obtain ⟨φ2, ρ2, S2, d2, S3, re2, rs2, e2, w2⟩ := w φ1 H1 v1 x1 r1 q1
    refine ⟨φ2, ρ2, S2, d2, S3, re2, rs2, e2, fun φ3 H3 x3 r3 => ?_⟩
    obtain ⟨φ5, ρ5, S5, d5, S6, re5, rs5, e5, w5⟩ := w2 φ3 H3 x3 r3
    refine ⟨φ5, ρ5, S5, d5, S6, re5, rs5, e5, fun φ6 H6 x6 r6 => ?_⟩
    obtain ⟨φ4, S4, a', d', S', r4, qa, e4, w4⟩ := w5 φ6 H6 x6 r6
    obtain ⟨e4, e7⟩ := of_ok e4
    subst e7
    exact ⟨φ4, S', a', d', r4, qa, e4, w4⟩
  | .fc f es, X, x, pe, h => by
    unfold okE at h
    cases pe <;> first | cases h | skip
    rename_i fe l kws pos
    cases fe <;> first | cases h | skip
    rename_i y q
    cases kws <;> first | cases h | skip
    obtain ⟨h1, h2⟩ := band2 h
    obtain ⟨h1, h3⟩ := band2 h1
    obtain ⟨h1, h4⟩ := band2 h1
    obtain ⟨h1, h5⟩ := band2 h1
    have hz := dec_eq h1
    subst hz
    exact fc_ok x (mem_of_contains h3) (isGl_ok h5) h4 (okEs_plain h2) (soundEs es x _ h2) fun hn => by subst hn; exact okEs_nil h2
  | .bi b es, X, x, pe, h => by
    unfold okE at h
    cases pe <;> first | cases h | skip
    rename_i fe l kws pos
    cases fe <;> first | cases h | skip
    rename_i y q
    cases kws <;> first | cases h | skip
    obtain ⟨h1, h2⟩ := band2 h
    obtain ⟨h1, h3⟩ := band2 h1
    obtain ⟨h1, h4⟩ := band2 h1
    obtain ⟨h1, h5⟩ := band2 h1
    obtain ⟨h1, h6⟩ := band2 h1
    obtain ⟨h1, h7⟩ := band2 h1
    have hz := dec_eq h1
    subst hz
    exact biE_ok x (mem_of_contains h5) h4 (isGl_ok h7) (okEs_plain h3) (fun hn => by subst hn; cases h2) (soundEs es x _ h3)
  | .kget y ke fe, X, x, pe, h => by
    unfold okE at h
    split at h
    · rename_i z q a apos pk pf cpos
      obtain ⟨h, h9⟩ := band2 h
      obtain ⟨h, h8⟩ := band2 h
      obtain ⟨h, h7⟩ := band2 h
      obtain ⟨h, h6⟩ := band2 h
      obtain ⟨h, h5⟩ := band2 h
      obtain ⟨h, h4⟩ := band2 h
      obtain ⟨h, h3⟩ := band2 h
      obtain ⟨h, h2⟩ := band2 h
      obtain ⟨h1, h0⟩ := band2 h
      have hz := dec_eq h1
      subst hz
      have ha := dec_eq h4
      subst ha
      exact kget_ok x h3 (isGl_ok h0) h2 h5 h6 h7 (soundE ke x pk h8) (soundE fe x pf h9)
    · cases h
  | .wget l ke fe, X, x, pe, h => by
    unfold okE at h
    split at h
    · rename_i ks vs q a apos pk pf cpos
      obtain ⟨h, h9⟩ := band2 h
      obtain ⟨h, h8⟩ := band2 h
      obtain ⟨h, h7⟩ := band2 h
      obtain ⟨h, h6⟩ := band2 h
      obtain ⟨h, h5⟩ := band2 h
      obtain ⟨h, h4⟩ := band2 h
      obtain ⟨h, h3⟩ := band2 h
      obtain ⟨h1, h2⟩ := band2 h
      have ha := dec_eq h4
      subst ha
      exact wget_ok x h1 (by simpa using h2) (of_decide_eq_true h3) h5 h6 h7 (soundE ke x pk h8) (soundE fe x pf h9)
    · cases h
  | .fld o f, X, x, pe, h => by
    unfold okE at h
    cases pe <;> first | cases h | skip
    rename_i po a pos
    obtain ⟨h, h3⟩ := band2 h
    obtain ⟨h1, h2⟩ := band2 h
    have hz := dec_eq h1
    subst hz
    exact fld_ok x h2 (soundE o x po h3)
  | .mth o m es, X, x, pe, h => by
    unfold okE at h
    split at h
    · rename_i po a apos l cpos
      obtain ⟨h, h6⟩ := band2 h
      obtain ⟨h, h5⟩ := band2 h
      obtain ⟨h, h4⟩ := band2 h
      obtain ⟨h, h3⟩ := band2 h
      obtain ⟨h1, h2⟩ := band2 h
      have hz := dec_eq h1
      subst hz
      exact mth_ok x h2 h3 (of_decide_eq_true h4) (okEs_plain h6) (soundE o x po h5) (soundEs es x l h6) fun hn => by subst hn; exact okEs_nil h6
    · cases h
  | .mtd o m f es, X, x, pe, h => by
    unfold okE at h
    split at h
    · rename_i po a apos l cpos
      obtain ⟨h, h8⟩ := band2 h
      obtain ⟨h, h7⟩ := band2 h
      obtain ⟨h, h6⟩ := band2 h
      obtain ⟨h, h5⟩ := band2 h
      obtain ⟨h, h4⟩ := band2 h
      obtain ⟨h, h3⟩ := band2 h
      obtain ⟨h1, h2⟩ := band2 h
      have hz := dec_eq h1
      subst hz
      exact mtd_ok x h2 h3 (of_decide_eq_true h4) (by simpa using h5) (by intro z; subst z; cases h6) (okEs_plain h8) (soundE o x po h7) (soundEs es x l h8) (evEs_len (okEs_len h8))
    · cases h
  | .mk c es, X, x, pe, h => by
    unfold okE at h
    split at h
    · rename_i y q l cpos
      obtain ⟨h, h5⟩ := band2 h
      obtain ⟨h, h4⟩ := band2 h
      obtain ⟨h, h3⟩ := band2 h
      obtain ⟨h1, h2⟩ := band2 h
      have hz := dec_eq h1
      subst hz
      exact mk_ok x h4 (isGl_ok h2) h3 (okEs_plain h5) (soundEs es x l h5) fun hn => by subst hn; exact okEs_nil h5
    · cases h
  | .mkk c f es ks kes, X, x, pe, h => by
    unfold okE at h
    split at h
    · rename_i y q l kws cpos
      obtain ⟨h, h8⟩ := band2 h
      obtain ⟨h, h7⟩ := band2 h
      obtain ⟨h, h6⟩ := band2 h
      obtain ⟨h, h5⟩ := band2 h
      obtain ⟨h, h4⟩ := band2 h
      obtain ⟨h, h3⟩ := band2 h
      obtain ⟨h1, h2⟩ := band2 h
      have hz := dec_eq h1
      subst hz
      exact mkk_ok x h4 (isGl_ok h2) h3 (by simpa using h5) (by intro z; subst z; cases h6) (okEs_plain h7) (soundEs es x l h7) (evEs_len (okEs_len h7)) (soundKw kes x ks kws h8) (evEs_len (okKw_len h8)) (fun pos => okKw_all h8) fun pos => okKw_ks h8
    · cases h
  | .isi o c, X, x, pe, h => by
    unfold okE at h
    split at h
    · rename_i y q po z q2 cpos
      obtain ⟨h, h9⟩ := band2 h
      obtain ⟨h, h8⟩ := band2 h
      obtain ⟨h, h7⟩ := band2 h
      obtain ⟨h, h6⟩ := band2 h
      obtain ⟨h, h5⟩ := band2 h
      obtain ⟨h, h4⟩ := band2 h
      obtain ⟨h, h3⟩ := band2 h
      obtain ⟨h1, h2⟩ := band2 h
      have hz := dec_eq h1
      subst hz
      have hz2 := dec_eq h5
      subst hz2
      exact isi_ok x (mem_of_contains h3) (isGl_ok h2) (isGl_ok h6) h7 (mem_of_contains h8) h4 (soundE o x po h9)
    · cases h
  | .kin neg y ke, X, x, pe, h => by
    unfold okE at h
    split at h
    · rename_i l o z q pos
      obtain ⟨h, h6⟩ := band2 h
      obtain ⟨h, h5⟩ := band2 h
      obtain ⟨h, h4⟩ := band2 h
      obtain ⟨h, h3⟩ := band2 h
      obtain ⟨h1, h2⟩ := band2 h
      have hz := dec_eq h1
      subst hz
      have hz2 := dec_eq h2
      subst hz2
      exact kin_ok x h5 (isGl_ok h3) h4 (soundE ke x l h6)
    · cases h
  | .kix y ke, X, x, pe, h => by
    unfold okE at h
    split at h
    · rename_i z q pk pos
      obtain ⟨h, h6⟩ := band2 h
      obtain ⟨h, h5⟩ := band2 h
      obtain ⟨h, h4⟩ := band2 h
      obtain ⟨h, h3⟩ := band2 h
      obtain ⟨h1, h2⟩ := band2 h
      have hz2 := dec_eq h1
      subst hz2
      exact kix_ok x h4 (isGl_ok h2) h3 h5 (soundE ke x pk h6)
    · cases h
  | .nev, X, x, pe, h => ⟨fun pins s σ H Q I ⟨φ, ρ, S, d, S1, re, rs, e, w⟩ => by cases e⟩
  | .lix a b, X, x, pe, h => by
    unfold okE at h
    split at h
    · rename_i pa n apos pb cpos
      obtain ⟨h, h6⟩ := band2 h
      obtain ⟨h, h5⟩ := band2 h
      obtain ⟨h, h4⟩ := band2 h
      obtain ⟨h, h3⟩ := band2 h
      obtain ⟨h1, h2⟩ := band2 h
      have hz := dec_eq h1
      subst hz
      exact lix_ok x h2 h3 h4 (soundE a x pa h5) (soundE b x pb h6)
    · cases h
  | .wix l ke, X, x, pe, h => by
    unfold okE at h
    split at h
    · rename_i ks vs dpos pk pos
      obtain ⟨h, h5⟩ := band2 h
      obtain ⟨h, h4⟩ := band2 h
      obtain ⟨h, h3⟩ := band2 h
      obtain ⟨h1, h2⟩ := band2 h
      exact wix_ok x h1 (by simpa using h2) (of_decide_eq_true h3) h4 (soundE ke x pk h5)
    · cases h
  | .flc f es id js, X, x, pe, h => by
    unfold okE at h
    cases pe <;> first | cases h | skip
    rename_i fe l kws pos
    cases fe <;> first | cases h | skip
    rename_i y q
    cases kws <;> first | cases h | skip
    obtain ⟨h1, h2⟩ := band2 h
    obtain ⟨h1, hl⟩ := band2 h1
    obtain ⟨h1, h3⟩ := band2 h1
    obtain ⟨h1, h4⟩ := band2 h1
    obtain ⟨h1, h5⟩ := band2 h1
    have hz := dec_eq h1
    subst hz
    obtain ⟨params, body, scope, hlo, hd, hp, hne, ha⟩ := soundEsF es x l id js h2
    cases l with
    | nil => exact absurd rfl hne
    | cons e0 l => exact flc_ok x hl (mem_of_contains h3) (isGl_ok h5) h4 hp hlo fun P ⟨c, hc, TBB⟩ => ha P fun pos => pe_lamF TBB hc hd.1 hd.2
  | .act i es, X, x, pe, h => by
    unfold okE at h
    cases pe <;> first | cases h | skip
    rename_i fe l kws pos
    cases fe <;> first | cases h | skip
    rename_i y q
    cases kws <;> first | cases h | skip
    obtain ⟨a1, a2⟩ := band2 h
    obtain ⟨a3, a4⟩ := band2 a1
    obtain ⟨a5, a6⟩ := band2 a3
    obtain ⟨a7, a8⟩ := band2 a5
    obtain ⟨a9, b1⟩ := band2 a7
    have sE := soundEs es x _ a2
    have sp := okEs_plain a2
    cases l with
    | nil => cases a4
    | cons e0 l => exact act_ok x (by simpa using a6) (dec_eq a9) (isVis_ok b1) a8 sp sE
  | .lam, X, x, pe, h => by
    unfold okE at h
    split at h
    · rename_i params body scope pos
      obtain ⟨h, h4⟩ := band2 h
      obtain ⟨h, h3⟩ := band2 h
      obtain ⟨h1, h2⟩ := band2 h
      refine lam_ok x h1 h2 h3 fun y hy e => ?_
      have z := List.all_eq_true.mp h4 y hy
      rw [e] at z
      simpa using z
    · cases h
  | .xis o c, X, x, pe, h => by
    unfold okE at h
    split at h
    · rename_i y q po z q2 cpos
      obtain ⟨h, h9⟩ := band2 h
      obtain ⟨h, h8⟩ := band2 h
      obtain ⟨h, h7⟩ := band2 h
      obtain ⟨h, h6⟩ := band2 h
      obtain ⟨h, h5⟩ := band2 h
      obtain ⟨h, h4⟩ := band2 h
      obtain ⟨h, h3⟩ := band2 h
      obtain ⟨h1, h2⟩ := band2 h
      have hz := dec_eq h1
      subst hz
      have hz2 := dec_eq h5
      subst hz2
      exact xis_ok x (mem_of_contains h3) (isGl_ok h2) (isGl_ok h6) h7 (mem_of_contains h8) h4 (soundE o x po h9)
    · cases h
  | .hfc f es, X, x, pe, h => by
    unfold okE at h
    cases pe <;> first | cases h | skip
    rename_i fe l kws pos
    cases fe <;> first | cases h | skip
    rename_i y q
    cases kws <;> first | cases h | skip
    obtain ⟨h1, h2⟩ := band2 h
    obtain ⟨h1, h6⟩ := band2 h1
    obtain ⟨h1, h7⟩ := band2 h1
    obtain ⟨h1, h3⟩ := band2 h1
    obtain ⟨h1, h4⟩ := band2 h1
    obtain ⟨h1, h5⟩ := band2 h1
    have hz := dec_eq h1
    subst hz
    cases l with
    | nil => cases h6
    | cons a l => exact hfc_ok x (mem_of_contains h3) (isGl_ok h5) h4 (okEs_plain h2) (soundEs es x _ h2)
  | .sm m a b, X, x, pe, h => by
    unfold okE at h
    split at h
    · rename_i pa n apos pb cpos
      obtain ⟨h, h6⟩ := band2 h
      obtain ⟨h, h5⟩ := band2 h
      obtain ⟨h, h4⟩ := band2 h
      obtain ⟨h, h3⟩ := band2 h
      obtain ⟨h1, h2⟩ := band2 h
      have hz := dec_eq h1
      subst hz
      exact sm_ok x h2 h3 h4 (soundE a x pa h5) (soundE b x pb h6)
    · cases h
  | .pop o i, X, x, pe, h => by
    unfold okE at h
    split at h
    · rename_i pa n apos pb cpos
      obtain ⟨h, h6⟩ := band2 h
      obtain ⟨h, h5⟩ := band2 h
      obtain ⟨h, h4⟩ := band2 h
      obtain ⟨h, h3⟩ := band2 h
      obtain ⟨h1, h2⟩ := band2 h
      have hz := dec_eq h1
      subst hz
      exact pop_ok x h3 h2 h4 (soundE o x pa h5) (soundE i x pb h6)
    · cases h
theorem soundT {p : Par} {C : Ctx} : ∀ (e : E) {X : Cx} (x : XC p C X) (pe : Expr), okE p X.N e X.env.scope X.fn pe = true → PT X pe (tT X.K X.mg (evT C e))
  | .band es, X, x, pe, h => by
    unfold okE at h
    cases pe <;> first | cases h | skip
    rename_i o l pos
    cases o <;> first | cases h | skip
    exact (soundTAnd es x l pos h).pt
  | .bor es, X, x, pe, h => by
    unfold okE at h
    cases pe <;> first | cases h | skip
    rename_i o l pos
    cases o <;> first | cases h | skip
    exact (soundTOr es x l pos h).pt
  | .not a, X, x, pe, h => by
    unfold okE at h
    cases pe <;> first | cases h | skip
    rename_i o l pos
    cases o <;> first | cases h | skip
    refine PT.imp (pt_not (soundT a x _ h)) fun σ H Q ⟨φ, ρ, S, d, S1, re, rs, e, w⟩ => ?_
    obtain ⟨k, S2, e1, e2⟩ := bind_ok (show ((evT C a ρ S).bind fun k S1 => R.ok (!k) S1) = .ok d S1 from e)
    cases e2
    exact ⟨φ, ρ, S, k, S1, re, rs, e1, fun φ' H' xx r => w φ' H' xx r⟩
  | .cmp o a b, X, x, pe, h => by
    unfold okE at h
    cases pe <;> first | cases h | skip
    rename_i l ops rs pos
    match ops, rs, h with
    | [o'], [r], h =>
      obtain ⟨h1, h2⟩ := band2 h
      obtain ⟨h1, h3⟩ := band2 h1
      obtain ⟨h1, h4⟩ := band2 h1
      have := dec_eq h1
      subst this
      refine PT.imp (pt_cmpR (cmp_ok x.hu) (soundE a x _ h3) (soundE b x _ h2) (plain_mark h4)) fun σ H Q ⟨φ, ρ, S, d, S1, re, rs, e, w⟩ => ?_
      obtain ⟨v, S2, e1, e⟩ := bind_ok (show ((evE C a ρ S).bind fun x S1 => (evE C b ρ S1).bind fun y S2 => R.of (cmpD S2 o x y) S2) = .ok d S1 from e)
      refine ⟨φ, ρ, S, v, S2, re, rs, e1, fun φ1 H1 v1 x1 r1 q1 => ?_⟩
      obtain ⟨v', S3, e2, e⟩ := bind_ok e
      refine ⟨φ1, ρ, S2, v', S3, re.mono x1, r1, e2, fun φ2 H2 v2 x2 r2 q2 => ?_⟩
      obtain ⟨e3, e4⟩ := of_ok e
      subst e4
      exact ⟨φ2, S1, v, v', .bl d, r2, RV.mono x2 _ _ q1, q2, congrArg (Option.map D.bl) e3, fun φ3 H3 v3 x3 r3 q3 => ⟨d, rvbl.mp q3, w φ3 H3 ((x1.trans x2).trans x3) r3⟩⟩
    | [], [], h => cases h
    | [], _ :: _, h => cases h
    | [_], [], h => cases h
    | [_], _ :: _ :: _, h => cases h
    | _ :: _ :: _, _, h => cases h
  | .chn o o2 a b c, X, x, pe, h => by
    unfold okE at h
    cases pe <;> first | cases h | skip
    rename_i l ops rs pos
    match ops, rs, h with
    | [o', o2'], [r, r2], h =>
      obtain ⟨h1, h2⟩ := band2 h
      obtain ⟨h1, h3⟩ := band2 h1
      obtain ⟨h1, h4⟩ := band2 h1
      obtain ⟨h1, h5⟩ := band2 h1
      obtain ⟨h1, h6⟩ := band2 h1
      have := dec_eq h1
      subst this
      have := dec_eq h6
      subst this
      refine PT.imp (pt_chain (cmp_ok x.hu) (cmp_ok x.hu) (soundE a x _ h4) (soundE b x _ h3) (soundE c x _ h2) (chain_mark h5)) fun σ H Q h => ?_
      obtain ⟨φ, ρ, S, d, S1, re, rs, e, w⟩ := h
      refine chn_read (fa := evE C a) (fb := evE C b) (fc := evE C c) (W := fun φ S H d S1 => ∀ φ' H', Ext φ S H φ' S1 H' → RS X.K X.mg φ' S1 H' → Q d H') (g := fun k => k) (fun w x φ' H' y r => w φ' H' (x.trans y) r) (fun {φ S H k} w rs => ⟨k, rfl, w φ H Ext.refl rs⟩) ⟨φ, ρ, S, d, S1, re, rs, ?_, w⟩
      have hid : ∀ o : Option Bool, o.map (fun k => k) = o := fun o => by cases o <;> rfl
      simp only [hid]
      exact e
    | [], _, h => cases h
    | [_], _, h => cases h
    | _ :: _ :: _ :: _, _, h => cases h
    | [_, _], [], h => cases h
    | [_, _], [_], h => cases h
    | [_, _], _ :: _ :: _ :: _, h => cases h
  | .cB b, X, x, pe, h => by
    have he := soundE (.cB b) x pe h
    have hp : plainT pe = true := by unfold okE at h; cases pe <;> first | rfl | cases h
    refine PT.imp (pt_of he hp) fun σ H Q ⟨φ, ρ, S, d, S1, re, rs, e, w⟩ => ?_
    cases e
    exact ⟨φ, ρ, S, b, S, re, rs, rfl, w⟩
  | .v i, X, x, pe, h => by
    have he := soundE (.v i) x pe h
    have hp : plainT pe = true := by unfold okE at h; cases pe <;> first | rfl | cases h
    refine PT.imp (pt_of he hp) fun σ H Q ⟨φ, ρ, S, d, S1, re, rs, e, w⟩ => ⟨φ, ρ, S, d, S1, re, rs, ?_, w⟩
    have e' : (match ρ[i]? with | some (some d) => R.of (truD S d) S | _ => .bad) = .ok d S1 := e
    show ((match ρ[i]? with | some (some d) => R.ok d S | _ => .bad).bind fun x S1 => R.of (truD S1 x) S1) = .ok d S1
    cases e1 : ρ[i]? with
    | none => rw [e1] at e'; cases e'
    | some o => cases o with
      | none => rw [e1] at e'; cases e'
      | some d' => rw [e1] at e'; exact e'
  | .fc f es, X, x, pe, h => by
    have he := soundE (.fc f es) x pe h
    have hp : plainT pe = true := by unfold okE at h; cases pe <;> first | rfl | cases h
    refine PT.imp (pt_of he hp) fun σ H Q ⟨φ, ρ, S, d, S1, re, rs, e, w⟩ => ⟨φ, ρ, S, d, S1, re, rs, ?_, w⟩
    rw [← e]; exact bind_assoc3
  | .bi b es, X, x, pe, h => by
    have he := soundE (.bi b es) x pe h
    have hp : plainT pe = true := by unfold okE at h; cases pe <;> first | rfl | cases h
    refine PT.imp (pt_of he hp) fun σ H Q ⟨φ, ρ, S, d, S1, re, rs, e, w⟩ => ⟨φ, ρ, S, d, S1, re, rs, ?_, w⟩
    rw [← e]; exact bind_assoc3
  | .idx a i, X, x, pe, h => by
    have he := soundE (.idx a i) x pe h
    have hp : plainT pe = true := by unfold okE at h; cases pe <;> first | rfl | cases h
    refine PT.imp (pt_of he hp) fun σ H Q ⟨φ, ρ, S, d, S1, re, rs, e, w⟩ => ⟨φ, ρ, S, d, S1, re, rs, ?_, w⟩
    rw [← e]; exact bind_assoc4
  | .bin o a b, X, x, pe, h => by
    have he := soundE (.bin o a b) x pe h
    have hp : plainT pe = true := by unfold okE at h; cases pe <;> first | rfl | cases h
    refine PT.imp (pt_of he hp) fun σ H Q ⟨φ, ρ, S, d, S1, re, rs, e, w⟩ => ⟨φ, ρ, S, d, S1, re, rs, ?_, w⟩
    rw [← e]; exact bind_assoc4
  | .fld o f, X, x, pe, h => by
    have he := soundE (.fld o f) x pe h
    have hp : plainT pe = true := by unfold okE at h; cases pe <;> first | rfl | cases h
    refine PT.imp (pt_of he hp) fun σ H Q ⟨φ, ρ, S, d, S1, re, rs, e, w⟩ => ⟨φ, ρ, S, d, S1, re, rs, ?_, w⟩
    rw [← e]
    show ((evE C o ρ S).bind _).bind _ = (evE C o ρ S).bind _
    rw [Rassoc]
  | .mth o m es, X, x, pe, h => by
    have he := soundE (.mth o m es) x pe h
    have hp : plainT pe = true := by unfold okE at h; cases pe <;> first | rfl | cases h
    refine PT.imp (pt_of he hp) fun σ H Q ⟨φ, ρ, S, d, S1, re, rs, e, w⟩ => ⟨φ, ρ, S, d, S1, re, rs, ?_, w⟩
    rw [← e]
    show ((evE C o ρ S).bind fun x S1 => (R.of (mOf C S1 x m) S1).bind fun f S1 => (evEs C es ρ S1).bind fun l S2 => C.fn f (x :: l) S2).bind _ = (evE C o ρ S).bind fun x S1 => (R.of (mOf C S1 x m) S1).bind fun f S1 => (evEs C es ρ S1).bind fun l S2 => (C.fn f (x :: l) S2).bind _
    simp only [Rassoc]
  | .isi o c, X, x, pe, h => by
    have he := soundE (.isi o c) x pe h
    have hp : plainT pe = true := by unfold okE at h; cases pe <;> first | rfl | cases h
    refine PT.imp (pt_of he hp) fun σ H Q ⟨φ, ρ, S, d, S1, re, rs, e, w⟩ => ⟨φ, ρ, S, d, S1, re, rs, ?_, w⟩
    rw [← e]
    show ((evE C o ρ S).bind fun x S1 => R.of ((isiD C S1 x c).map MI.D.bl) S1).bind _ = (evE C o ρ S).bind fun x S1 => R.of (isiD C S1 x c) S1
    rw [Rassoc]
    congr 1
    funext x S
    cases isiD C S x c <;> rfl
  | .kin neg y ke, X, x, pe, h => by
    unfold okE at h
    split at h
    · rename_i l o z q pos
      obtain ⟨h, h6⟩ := band2 h
      obtain ⟨h, h5⟩ := band2 h
      obtain ⟨h, h4⟩ := band2 h
      obtain ⟨h, h3⟩ := band2 h
      obtain ⟨h1, h2⟩ := band2 h
      have hz := dec_eq h1
      subst hz
      have hz2 := dec_eq h2
      subst hz2
      exact kinT_ok x h5 (isGl_ok h3) h4 (soundE ke x l h6)
    · cases h
  | .xis o c, X, x, pe, h => by
    have he := soundE (.xis o c) x pe h
    have hp : plainT pe = true := by unfold okE at h; cases pe <;> first | rfl | cases h
    refine PT.imp (pt_of he hp) fun σ H Q ⟨φ, ρ, S, d, S1, re, rs, e, w⟩ => ⟨φ, ρ, S, d, S1, re, rs, ?_, w⟩
    rw [← e]
    show ((evE C o ρ S).bind fun x S1 => R.of ((xisD C S1 x c).map MI.D.bl) S1).bind _ = (evE C o ρ S).bind fun x S1 => R.of (xisD C S1 x c) S1
    rw [Rassoc]
    congr 1
    funext x S
    cases xisD C S x c <;> rfl
  | .hfc f es, X, x, pe, h => by
    have he := soundE (.hfc f es) x pe h
    have hp : plainT pe = true := by unfold okE at h; cases pe <;> first | rfl | cases h
    refine PT.imp (pt_of he hp) fun σ H Q ⟨φ, ρ, S, d, S1, re, rs, e, w⟩ => ⟨φ, ρ, S, d, S1, re, rs, ?_, w⟩
    rw [← e]; exact bind_assoc3
  | .sm m a b, X, x, pe, h => by
    have he := soundE (.sm m a b) x pe h
    have hp : plainT pe = true := by unfold okE at h; cases pe <;> first | rfl | cases h
    refine PT.imp (pt_of he hp) fun σ H Q ⟨φ, ρ, S, d, S1, re, rs, e, w⟩ => ⟨φ, ρ, S, d, S1, re, rs, ?_, w⟩
    rw [← e]; exact bind_assoc4
  | .pop o i, X, x, pe, h => by
    have he := soundE (.pop o i) x pe h
    have hp : plainT pe = true := by unfold okE at h; cases pe <;> first | rfl | cases h
    exact PT.imp (pt_of he hp) fun σ H Q ⟨φ, ρ, S, d, S1, re, rs, e, w⟩ => ⟨φ, ρ, S, d, S1, re, rs, e, w⟩
  | .act i es, X, x, pe, h => by
    have he := soundE (.act i es) x pe h
    have hp : plainT pe = true := by unfold okE at h; cases pe <;> first | rfl | cases h
    exact PT.imp (pt_of he hp) fun σ H Q ⟨φ, ρ, S, d, S1, re, rs, e, w⟩ => ⟨φ, ρ, S, d, S1, re, rs, e, w⟩
  | .nev, X, x, pe, h => ⟨fun pins s σ H Q I ⟨φ, ρ, S, d, S1, re, rs, e, w⟩ => by cases e⟩
  | .lix _ _, X, x, pe, h | .wix _ _, X, x, pe, h | .flc _ _ _ _, X, x, pe, h | .kix _ _, X, x, pe, h | .wget _ _ _, X, x, pe, h | .lam, X, x, pe, h | .mk _ _, X, x, pe, h | .mkk _ _ _ _ _, X, x, pe, h | .mtd _ _ _ _, X, x, pe, h | .cI _, X, x, pe, h | .cN, X, x, pe, h | .cS _, X, x, pe, h | .g _, X, x, pe, h | .bt _, X, x, pe, h | .neg _, X, x, pe, h | .inv _, X, x, pe, h | .ite _ _ _, X, x, pe, h | .tup _, X, x, pe, h | .ktup _, X, x, pe, h | .dnew, X, x, pe, h | .lset _, X, x, pe, h | .frz _, X, x, pe, h | .box _, X, x, pe, h | .mv _, X, x, pe, h | .slc _ _ _, X, x, pe, h | .kget _ _ _, X, x, pe, h => by
    exact ⟨fun pins s σ H Q I ⟨φ, ρ, S, d, S1, re, rs, e, w⟩ => by cases e⟩
theorem soundEsF {p : Par} {C : Ctx} : ∀ (es : Es) {X : Cx} (x : XC p C X) (l : List Expr) (id : String) (js : List Nat), okEsF p X.N es id js X.env.scope X.fn l = true → ∃ (params : Arguments) (body : Expr) (scope : Scope), lamOk p X.N id js X.env.scope X.fn params body scope = true ∧
      (defaultsOf params X.env = ([], []) ∧ ∀ y ∈ scope.names, y.2 = .free → X.env.scope.names.lookup y.1 = some .cell ∨ X.env.scope.names.lookup y.1 = some .free) ∧ l.all noStar = true ∧ l ≠ [] ∧
      ∀ (P : Addr), (∀ pos, PE X (.Lambda params body scope pos) (tLamF X P params body scope)) → PA X l (tAF X.K X.mg (tLamF X P params body scope) (evEs C es))
  | .nil, X, x, l, id, js, h => by
    unfold okEsF at h
    split at h
    · rename_i params body scope pos
      refine ⟨params, body, scope, h, ?_, rfl, by simp, fun P hl => ?_⟩
      · unfold lamOk at h
        simp only [Bool.and_eq_true] at h
        obtain ⟨⟨⟨⟨⟨h1, h2⟩, h3⟩, h4⟩, h5⟩, h6⟩ := h
        refine ⟨?_, fun y hy e => ?_⟩
        · obtain ⟨a, b, cc, dd, e, f, g⟩ := params
          have h1 : g.isEmpty = true := h1
          have h2 : e.isEmpty = true := h2
          cases g with
          | cons _ _ => cases h1
          | nil =>
            cases e with
            | cons _ _ => cases h2
            | nil => rfl
        · have z := List.all_eq_true.mp h4 y hy
          rw [e] at z
          simp at z
          exact .inl z.1
      · refine PA.imp (pa_cons (hl pos) pa_nil) fun σ H Q ⟨φ, ρ, S, d, S1, re, rs, e, w⟩ => ?_
        cases e
        exact w φ H [] Ext.refl rs .nil
    · cases h
  | .cons e r, X, x, l, id, js, h => by
    unfold okEsF at h
    cases l with
    | nil => cases h
    | cons y l =>
      obtain ⟨h1, h2⟩ := band2 h
      obtain ⟨h1, h3⟩ := band2 h1
      obtain ⟨params, body, scope, g1, g2, g3, g4, g5⟩ := soundEsF r x l id js h2
      refine ⟨params, body, scope, g1, g2, by rw [List.all_cons, plain_noStar h1, g3]; rfl, by simp, fun P hl => ?_⟩
      refine PA.imp (pa_cons (soundE e x _ h3) (g5 P hl) (star_cons (plain_noStar h1))) fun σ H Q ⟨φ, ρ, S, d, S1, re, rs, e', w⟩ => ?_
      obtain ⟨a, S2, e1, e2⟩ := bind_ok (show ((evE C e ρ S).bind fun x S1 => (evEs C r ρ S1).bind fun l S2 => R.ok (x :: l) S2) = .ok d S1 from e')
      obtain ⟨b, S3, e3, e4⟩ := bind_ok e2
      cases e4
      exact ⟨φ, ρ, S, a, S2, re, rs, e1, fun φ1 H1 v1 x1 r1 q1 => ⟨φ1, ρ, S2, b, S1, re.mono x1, r1, e3, fun φ2 H2 vs x2 r2 t2 => w φ2 H2 (v1 :: vs) (x1.trans x2) r2 (RVs.cons (RV.mono x2 _ _ q1) t2)⟩⟩
theorem soundEs {p : Par} {C : Ctx} : ∀ (es : Es) {X : Cx} (x : XC p C X) (l : List Expr), okEs p X.N es X.env.scope X.fn l = true → PA X l (tA X.K X.mg (evEs C es))
  | .nil, X, x, l, h => by
    cases l with
    | nil => exact PA.imp pa_nil fun σ H Q ⟨φ, ρ, S, d, S1, re, rs, e, w⟩ => by cases e; exact w φ H [] Ext.refl rs .nil
    | cons _ _ => unfold okEs at h; cases h
  | .cons e r, X, x, l, h => by
    cases l with
    | nil => unfold okEs at h; cases h
    | cons y l =>
      unfold okEs at h
      obtain ⟨h1, h2⟩ := band2 h
      obtain ⟨h1, h3⟩ := band2 h1
      refine PA.imp (pa_cons (soundE e x _ h3) (soundEs r x _ h2) (star_cons (plain_noStar h1))) fun σ H Q ⟨φ, ρ, S, d, S1, re, rs, e', w⟩ => ?_
      obtain ⟨a, S2, e1, e2⟩ := bind_ok (show ((evE C e ρ S).bind fun x S1 => (evEs C r ρ S1).bind fun l S2 => R.ok (x :: l) S2) = .ok d S1 from e')
      obtain ⟨b, S3, e3, e4⟩ := bind_ok e2
      cases e4
      exact ⟨φ, ρ, S, a, S2, re, rs, e1, fun φ1 H1 v1 x1 r1 q1 => ⟨φ1, ρ, S2, b, S1, re.mono x1, r1, e3, fun φ2 H2 vs x2 r2 t2 => w φ2 H2 _ (x1.trans x2) r2 (RVs.cons (RV.mono x2 _ _ q1) t2)⟩⟩
theorem soundKw {p : Par} {C : Ctx} : ∀ (es : Es) {X : Cx} (x : XC p C X) (ks : List String) (l : List Keyword), okKw p X.N es X.env.scope X.fn ks l = true → PK X l (tA X.K X.mg (evEs C es))
  | .nil, X, x, ks, l, h => by
    cases l with
    | nil => exact PK.imp pk_nil fun σ H Q ⟨φ, ρ, S, d, S1, re, rs, e, w⟩ => by cases e; exact w φ H [] Ext.refl rs .nil
    | cons _ _ => unfold okKw at h; simp at h
  | .cons e r, X, x, ks, l, h => by
    unfold okKw at h
    split at h
    · rename_i k ks nm y pos l
      obtain ⟨h, h3⟩ := band2 h
      obtain ⟨h, h2⟩ := band2 h
      refine PK.imp (pk_cons (soundE e x _ h2) (soundKw r x _ _ h3)) fun σ H Q ⟨φ, ρ, S, d, S1, re, rs, e', w⟩ => ?_
      obtain ⟨a, S2, e1, e2⟩ := bind_ok (show ((evE C e ρ S).bind fun x S1 => (evEs C r ρ S1).bind fun l S2 => R.ok (x :: l) S2) = .ok d S1 from e')
      obtain ⟨b, S3, e3, e4⟩ := bind_ok e2
      cases e4
      exact ⟨φ, ρ, S, a, S2, re, rs, e1, fun φ1 H1 v1 x1 r1 q1 => ⟨φ1, ρ, S2, b, S1, re.mono x1, r1, e3, fun φ2 H2 vs x2 r2 t2 => w φ2 H2 _ (x1.trans x2) r2 (RVs.cons (RV.mono x2 _ _ q1) t2)⟩⟩
    · cases h
theorem soundAnd {p : Par} {C : Ctx} : ∀ (es : Es) {X : Cx} (x : XC p C X) (l : List Expr) (pos : Pos), okEs p X.N es X.env.scope X.fn l = true → PE X (.BoolOp .And l pos) (tE X.K X.mg (evAnd C es))
  | .nil, X, x, l, pos, h => ⟨fun pins s σ H Q I ⟨φ, ρ, S, d, S1, re, rs, e, w⟩ => by cases e⟩
  | .cons e .nil, X, x, l, pos, h => by
    cases l with
    | nil => unfold okEs at h; cases h
    | cons y l =>
      unfold okEs at h
      obtain ⟨h1, h2⟩ := band2 h
      obtain ⟨h1, h3⟩ := band2 h1
      cases l with
      | cons _ _ => unfold okEs at h2; cases h2
      | nil => exact pe_one (soundE e x _ h3)
  | .cons e (.cons e2 r), X, x, l, pos, h => by
    cases l with
    | nil => unfold okEs at h; cases h
    | cons y l =>
      unfold okEs at h
      obtain ⟨h1, h2⟩ := band2 h
      obtain ⟨h1, h3⟩ := band2 h1
      have hr := soundAnd (.cons e2 r) x l pos h2
      cases l with
      | nil => unfold okEs at h2; cases h2
      | cons y2 l =>
        refine PE.imp (pe_and (soundE e x _ h3) hr) fun σ H Q ⟨φ, ρ, S, d, S1, re, rs, e', w⟩ => ?_
        obtain ⟨a, S2, e1, e3⟩ := bind_ok (show ((evE C e ρ S).bind fun x S1 => match x with | .bl true => evAnd C (.cons e2 r) ρ S1 | .bl false => .ok (.bl false) S1 | _ => .bad) = .ok d S1 from e')
        refine ⟨φ, ρ, S, a, S2, re, rs, e1, fun φ1 H1 v1 x1 r1 q1 => ?_⟩
        cases a <;> first | cases e3 | skip
        rename_i k
        refine ⟨k, rvbl.mp q1, ?_⟩
        cases k with
        | true => exact iteT ⟨φ1, ρ, S2, d, S1, re.mono x1, r1, e3, w.step x1⟩
        | false => cases e3; exact iteF ((w.step x1).here r1 rv_bl)
theorem soundOr {p : Par} {C : Ctx} : ∀ (es : Es) {X : Cx} (x : XC p C X) (l : List Expr) (pos : Pos), okEs p X.N es X.env.scope X.fn l = true → PE X (.BoolOp .Or l pos) (tE X.K X.mg (evOr C es))
  | .nil, X, x, l, pos, h => ⟨fun pins s σ H Q I ⟨φ, ρ, S, d, S1, re, rs, e, w⟩ => by cases e⟩
  | .cons e .nil, X, x, l, pos, h => by
    cases l with
    | nil => unfold okEs at h; cases h
    | cons y l =>
      unfold okEs at h
      obtain ⟨h1, h2⟩ := band2 h
      obtain ⟨h1, h3⟩ := band2 h1
      cases l with
      | cons _ _ => unfold okEs at h2; cases h2
      | nil => exact pe_one (soundE e x _ h3)
  | .cons e (.cons e2 r), X, x, l, pos, h => by
    cases l with
    | nil => unfold okEs at h; cases h
    | cons y l =>
      unfold okEs at h
      obtain ⟨h1, h2⟩ := band2 h
      obtain ⟨h1, h3⟩ := band2 h1
      have hr := soundOr (.cons e2 r) x l pos h2
      cases l with
      | nil => unfold okEs at h2; cases h2
      | cons y2 l =>
        refine PE.imp (pe_or (soundE e x _ h3) hr) fun σ H Q ⟨φ, ρ, S, d, S1, re, rs, e', w⟩ => ?_
        obtain ⟨a, S2, e1, e3⟩ := bind_ok (show ((evE C e ρ S).bind fun x S1 => match x with | .bl false => evOr C (.cons e2 r) ρ S1 | .bl true => .ok (.bl true) S1 | _ => .bad) = .ok d S1 from e')
        refine ⟨φ, ρ, S, a, S2, re, rs, e1, fun φ1 H1 v1 x1 r1 q1 => ?_⟩
        cases a <;> first | cases e3 | skip
        rename_i k
        refine ⟨k, rvbl.mp q1, ?_⟩
        cases k with
        | false => exact iteF ⟨φ1, ρ, S2, d, S1, re.mono x1, r1, e3, w.step x1⟩
        | true => cases e3; exact iteT ((w.step x1).here r1 rv_bl)
theorem soundTAnd {p : Par} {C : Ctx} : ∀ (es : Es) {X : Cx} (x : XC p C X) (l : List Expr) (pos : Pos), okEs p X.N es X.env.scope X.fn l = true → PW X (.BoolOp .And l pos) (tT X.K X.mg (evTAnd C es))
  | .nil, X, x, l, pos, h => by
    cases l with
    | cons _ _ => unfold okEs at h; cases h
    | nil => exact ⟨fun wh pins s σ H Q I ⟨φ, ρ, S, d, S1, re, rs, e, w⟩ => by cases e; exact isTrue_and_nil ⟨H, I, w φ H Ext.refl rs⟩⟩
  | .cons e r, X, x, l, pos, h => by
    cases l with
    | nil => unfold okEs at h; cases h
    | cons y l =>
      unfold okEs at h
      obtain ⟨h1, h2⟩ := band2 h
      obtain ⟨h1, h3⟩ := band2 h1
      have hr := soundTAnd r x l pos h2
      have ha := soundT e x _ h3
      refine ⟨fun wh pins s σ H Q I ⟨φ, ρ, S, d, S1, re, rs, e', w⟩ => ?_⟩
      obtain ⟨k, S2, e1, e3⟩ := bind_ok (show ((evT C e ρ S).bind fun k S1 => if k = true then evTAnd C r ρ S1 else R.ok false S1) = .ok d S1 from e')
      refine isTrue_and (thn (ha.run pins s σ H (fun k' H' => k' = k ∧ ∃ φ', Ext φ S H φ' S2 H' ∧ RS X.K X.mg φ' S2 H') I ⟨φ, ρ, S, k, S2, re, rs, e1, fun φ' H' xx r => ⟨rfl, φ', xx, r⟩⟩) fun c s1 ⟨H1, I1, ec, φ1, x1, r1⟩ => ?_)
      subst ec
      cases c with
      | true => exact hr.run wh pins s1 σ H1 Q I1 ⟨φ1, ρ, S2, d, S1, re.mono x1, r1, e3, fun φ' H' xx r => w φ' H' (x1.trans xx) r⟩
      | false => cases e3; exact ⟨H1, I1, w φ1 H1 x1 r1⟩
theorem soundTOr {p : Par} {C : Ctx} : ∀ (es : Es) {X : Cx} (x : XC p C X) (l : List Expr) (pos : Pos), okEs p X.N es X.env.scope X.fn l = true → PW X (.BoolOp .Or l pos) (tT X.K X.mg (evTOr C es))
  | .nil, X, x, l, pos, h => by
    cases l with
    | cons _ _ => unfold okEs at h; cases h
    | nil => exact ⟨fun wh pins s σ H Q I ⟨φ, ρ, S, d, S1, re, rs, e, w⟩ => by cases e; exact isTrue_or_nil ⟨H, I, w φ H Ext.refl rs⟩⟩
  | .cons e r, X, x, l, pos, h => by
    cases l with
    | nil => unfold okEs at h; cases h
    | cons y l =>
      unfold okEs at h
      obtain ⟨h1, h2⟩ := band2 h
      obtain ⟨h1, h3⟩ := band2 h1
      have hr := soundTOr r x l pos h2
      have ha := soundT e x _ h3
      refine ⟨fun wh pins s σ H Q I ⟨φ, ρ, S, d, S1, re, rs, e', w⟩ => ?_⟩
      obtain ⟨k, S2, e1, e3⟩ := bind_ok (show ((evT C e ρ S).bind fun k S1 => if k = true then R.ok true S1 else evTOr C r ρ S1) = .ok d S1 from e')
      refine isTrue_or (thn (ha.run pins s σ H (fun k' H' => k' = k ∧ ∃ φ', Ext φ S H φ' S2 H' ∧ RS X.K X.mg φ' S2 H') I ⟨φ, ρ, S, k, S2, re, rs, e1, fun φ' H' xx r => ⟨rfl, φ', xx, r⟩⟩) fun c s1 ⟨H1, I1, ec, φ1, x1, r1⟩ => ?_)
      subst ec
      cases c with
      | false => exact hr.run wh pins s1 σ H1 Q I1 ⟨φ1, ρ, S2, d, S1, re.mono x1, r1, e3, fun φ' H' xx r => w φ' H' (x1.trans xx) r⟩
      | true => cases e3; exact ⟨H1, I1, w φ1 H1 x1 r1⟩
theorem soundL {p : Par} {C : Ctx} : ∀ (l : L) {X : Cx} (x : XC p C X) (pe : Expr), okL p X.N l X.env.scope X.fn pe = true → PE X pe (tL X.K X.mg (evL C l))
  | .disp es, X, x, pe, h => by
    unfold okL at h
    cases pe <;> first | cases h | skip
    refine PE.imp (pe_lst (soundEs es x _ h)) fun σ H Q ⟨φ, ρ, S, d, S1, re, rs, e, w⟩ => ?_
    obtain ⟨l, S2, e1, e2⟩ := bind_ok (show ((evEs C es ρ S).bind fun l S1 => if l.length ≤ line then R.ok l S1 else .bad) = .ok d S1 from e)
    refine ⟨φ, ρ, S, l, S2, re, rs, e1, fun φ' H' vs xx r t => ?_⟩
    by_cases hc : l.length ≤ line
    · rw [if_pos hc] at e2
      cases e2
      exact ⟨by rw [t.length]; exact hc, fun q hq => w φ' H' vs q xx r t hq⟩
    · rw [if_neg hc] at e2; cases e2
  | .comp el t it c vs, X, x, pe, h => by
    unfold okL at h
    split at h
    · rename_i elt tg iter ifs scope pos
      obtain ⟨h, h9⟩ := band2 h
      obtain ⟨h, h8⟩ := band2 h
      obtain ⟨h, h7⟩ := band2 h
      obtain ⟨h, h6⟩ := band2 h
      obtain ⟨h, h5⟩ := band2 h
      obtain ⟨h, h4⟩ := band2 h
      obtain ⟨h2, h3⟩ := band2 h
      obtain ⟨h2, hh⟩ := band2 h2
      have hh : p.hot = false := by simpa using hh
      have hown : (ownOf X.N vs).map (·.2) = vs := by unfold ownOf; rw [List.map_map]; exact List.map_id'' (fun _ => rfl) vs
      have key := pe_lc (pos := pos) (tt := tT X.K X.mg (evT C c)) (te := tE X.K X.mg (evE C el)) (g := tG X.K X.mg (tgS t) (asg C t)) (ifs := ifs) (elt := elt) (x.calm hh) x.nd (soundIt it x tg iter h3 h5) (blkOk_by h6)
        (fun s H A cl fp => soundTg t (x.blk s H scope _ fp) tg h7)
        (fun s H A cl fp => by
          cases ifs with
          | nil =>
            have h9 : isTrueC c = true := h9
            have hc : c = .cB true := by
              cases c with
              | cB b => cases b with
                | true => rfl
                | false => cases h9
              | _ => cases h9
            subst hc
            exact PTs.imp pts_nil fun σ H Q ⟨φ, ρ, S, d, S1, re, rs, e, w⟩ => by cases e; exact w φ H Ext.refl rs
          | cons q r =>
            cases r with
            | nil => exact pts_one (soundT c (x.blk s H scope _ fp) q h9)
            | cons _ _ => cases h9)
        (fun s H A cl fp => soundE el (x.blk s H scope _ fp) elt h8) (plain_fold h2)
      rw [hown] at key
      refine PE.imp key fun σ H Q h => lc_read (fun i hi => ?_) h
      have := List.all_eq_true.mp h4 i hi
      simpa using this
    · cases h
  | .ofr .nil, X, x, pe, h => by
    obtain ⟨q, q2, l, pos, pos2, rfl, h1, h2, h3, h4, h5, h6, hh⟩ := ofr_split h
    cases l with
    | nil => cases h6
    | cons _ _ => unfold okEs at h5; cases h5
  | .ofr (.cons e1 .nil), X, x, pe, h => by
    obtain ⟨q, q2, l, pos, pos2, rfl, h1, h2, h3, h4, h5, h6, hh⟩ := ofr_split h
    have hp := okEs_plain h5
    cases l with
    | nil => cases h6
    | cons a l =>
      unfold okEs at h5
      obtain ⟨h5, h7⟩ := band2 h5
      obtain ⟨_, ha⟩ := band2 h5
      cases l with
      | cons _ _ => unfold okEs at h7; cases h7
      | nil =>
        rw [List.all_cons, Bool.and_eq_true] at hp
        exact ofr1_ok x hh h2 h1 h4 h3 hp.1 (soundE e1 x a ha)
  | .ofr (.cons e1 (.cons e2 .nil)), X, x, pe, h => by
    obtain ⟨q, q2, l, pos, pos2, rfl, h1, h2, h3, h4, h5, h6, hh⟩ := ofr_split h
    have hp := okEs_plain h5
    cases l with
    | nil => cases h6
    | cons a l =>
      unfold okEs at h5
      obtain ⟨h5, h7⟩ := band2 h5
      obtain ⟨_, ha⟩ := band2 h5
      cases l with
      | nil => unfold okEs at h7; cases h7
      | cons b l =>
        unfold okEs at h7
        obtain ⟨h7, h8⟩ := band2 h7
        obtain ⟨_, hb⟩ := band2 h7
        cases l with
        | cons _ _ => unfold okEs at h8; cases h8
        | nil =>
          rw [List.all_cons, List.all_cons, Bool.and_eq_true, Bool.and_eq_true] at hp
          exact ofr2_ok x hh h2 h1 h4 h3 hp.1 hp.2.1 (soundE e1 x a ha) (soundE e2 x b hb)
  | .ofr (.cons e1 (.cons e2 (.cons e3 r))), X, x, pe, h => by
    obtain ⟨q, q2, l, pos, pos2, rfl, h1, h2, h3, h4, h5, h6, hh⟩ := ofr_split h
    rcases len12_cases h6 with ⟨a, rfl⟩ | ⟨a, b, rfl⟩
    · unfold okEs at h5; obtain ⟨_, h5⟩ := band2 h5; unfold okEs at h5; cases h5
    · unfold okEs at h5; obtain ⟨_, h5⟩ := band2 h5; unfold okEs at h5; obtain ⟨_, h5⟩ := band2 h5; unfold okEs at h5; cases h5
  | .ofz a b, X, x, pe, h => by
    unfold okL at h
    split at h
    · rename_i y q z q2 x1 x2 pos2 pos
      obtain ⟨h, h10⟩ := band2 h
      obtain ⟨h, h9⟩ := band2 h
      obtain ⟨h, h8⟩ := band2 h
      obtain ⟨h, h7⟩ := band2 h
      obtain ⟨h, h6⟩ := band2 h
      obtain ⟨h, h5⟩ := band2 h
      obtain ⟨h, h4⟩ := band2 h
      obtain ⟨h, h3⟩ := band2 h
      obtain ⟨h1, h2⟩ := band2 h
      have z1 := dec_eq h1
      subst z1
      have z2 := dec_eq h4
      subst z2
      obtain ⟨h8, hh⟩ := band2 h8
      exact ofz_ok x (by simpa using hh) h2 h3 h5 h6 h7 h8 (soundE a x x1 h9) (soundE b x x2 h10)
    · cases h
  | .ofc a, X, x, pe, h => by
    unfold okL at h
    split at h
    · rename_i y q z pos
      obtain ⟨h1, h2⟩ := band2 h
      obtain ⟨h1, h3⟩ := band2 h1
      obtain ⟨h1, h4⟩ := band2 h1
      obtain ⟨h1, h5⟩ := band2 h1
      have hz := dec_eq h1
      subst hz
      have ha := soundE a x _ h2
      refine PE.imp (pe_callTy call_list_of (isGl_ok h5) (x.bts "list" (mem_of_contains h4)) (by decide +kernel) (pa_cons ha pa_nil (star_cons (plain_noStar h3))) (by decide) (by decide) (star_cons (plain_noStar h3)) rfl) fun σ H Q h => ?_
      obtain ⟨φ, ρ, S, d, S1, re, rs, e, w⟩ := tL1 (fa := evE C a) (g := fun x S1 => R.of (itemsOf S1 x) S1) h
      refine ⟨φ, ρ, S, d, S1, re, rs, e, fun φ1 H1 v1 x1 r1 q1 => ?_⟩
      obtain ⟨φ4, S4, a', l, S', r4, qa, e4, w4⟩ := w φ1 H1 v1 x1 r1 q1
      obtain ⟨e4, e5⟩ := of_ok e4
      subst e5
      obtain ⟨p, vs, rfl, q, t⟩ := items_at r4 qa e4
      exact ⟨p, vs, rfl, q, fun l hl => w4 φ4 H1 vs l Ext.refl r4 t hl⟩
    · cases h
  | .slc a lo hi, X, x, pe, h => by
    unfold okL at h
    cases pe <;> first | cases h | skip
    rename_i y sl pos
    cases sl <;> first | cases h | skip
    rename_i l hh stp p2
    cases stp <;> first | cases h | skip
    obtain ⟨h1, h2⟩ := band2 h
    obtain ⟨h1, h3⟩ := band2 h1
    have pl : PO X l (tP X.K X.mg (partE (isCN lo) (evE C lo))) := by
      refine part_ok ?_
      cases l with
      | none => exact h3
      | some l =>
        obtain ⟨h4, h5⟩ := band2 h3
        exact ⟨by simpa using h4, soundE lo x _ h5⟩
    have ph : PO X hh (tP X.K X.mg (partE (isCN hi) (evE C hi))) := by
      refine part_ok ?_
      cases hh with
      | none => exact h2
      | some hh =>
        obtain ⟨h4, h5⟩ := band2 h2
        exact ⟨by simpa using h4, soundE hi x _ h5⟩
    refine PE.imp (pe_slice sl_list (soundE a x _ h1) pl ph) fun σ H Q h => ?_
    obtain ⟨φ, ρ, S, d, S1, re, rs, e, w⟩ := tE_slc (g := fun x p q S3 => (R.of (listOf S3 x) S3).bind fun l S3 => R.ok (cutL l p q) S3) (W := fun φ S H l S1 => ∀ φ' H' vs p, Ext φ S H φ' S1 H' → RS X.K X.mg φ' S1 H' → RVs X.K φ' S1 H' l vs → H' p = none → Q (.ref p) (upd H' p (.lst vs))) (fun w x φ' H' vs p y r t hp => w φ' H' vs p (x.trans y) r t hp) h
    refine ⟨φ, ρ, S, d, S1, re, rs, e, fun φ1 H1 v1 x1 r1 q1 => ?_⟩
    obtain ⟨φ2, ρ2, S2, d2, S3, re2, rs2, e2, w2⟩ := w φ1 H1 v1 x1 r1 q1
    refine ⟨φ2, ρ2, S2, d2, S3, re2, rs2, e2, fun φ3 H3 x3 r3 => ?_⟩
    obtain ⟨φ5, ρ5, S5, d5, S6, re5, rs5, e5, w5⟩ := w2 φ3 H3 x3 r3
    refine ⟨φ5, ρ5, S5, d5, S6, re5, rs5, e5, fun φ6 H6 x6 r6 => ?_⟩
    obtain ⟨φ4, S4, a', l', S', r4, qa, e4, w4⟩ := w5 φ6 H6 x6 r6
    obtain ⟨l'', S7, e8, e9⟩ := bind_ok e4
    obtain ⟨e8, e10⟩ := of_ok e8
    subst e10
    cases e9
    obtain ⟨p, vs, rfl, q, t⟩ := list_at r4 qa e8
    exact ⟨p, vs, rfl, q, fun p hp => w4 φ4 H6 _ p Ext.refl r4 (cut_eq t) hp⟩
  | .cat a b, X, x, pe, h => by
    unfold okL at h
    cases pe <;> first | cases h | skip
    rename_i y o z pos
    cases o <;> first | cases h | skip
    obtain ⟨h1, h2⟩ := band2 h
    refine PE.imp (pe_op op_catR (soundE a x _ h1) (soundE b x _ h2)) fun σ H Q h => ?_
    obtain ⟨φ, ρ, S, d, S1, re, rs, e, w⟩ := tL2 (g := fun x y S2 => match listOf S2 x, listOf S2 y with | some l, some k => if l.length + k.length ≤ line then .ok (l ++ k) S2 else .bad | _, _ => .bad) h
    refine ⟨φ, ρ, S, d, S1, re, rs, e, fun φ1 H1 v1 x1 r1 q1 => ?_⟩
    obtain ⟨φ2, ρ2, S2, d2, S3, re2, rs2, e2, w2⟩ := w φ1 H1 v1 x1 r1 q1
    refine ⟨φ2, ρ2, S2, d2, S3, re2, rs2, e2, fun φ3 H3 v3 x3 r3 q3 => ?_⟩
    obtain ⟨φ4, S4, a', b', l, S', r4, qa, qb, e4, w4⟩ := w2 φ3 H3 v3 x3 r3 q3
    cases f1 : listOf S4 a' with
    | none => rw [f1] at e4; cases e4
    | some l1 =>
      cases f2 : listOf S4 b' with
      | none => rw [f1, f2] at e4; cases e4
      | some l2 =>
        rw [f1, f2] at e4
        have e4 : (if l1.length + l2.length ≤ line then R.ok (l1 ++ l2) S4 else .bad) = .ok l S' := e4
        by_cases hc : l1.length + l2.length ≤ line
        · rw [if_pos hc] at e4
          cases e4
          obtain ⟨p1, vs1, rfl, g1, t1⟩ := list_at r4 qa f1
          obtain ⟨p2, vs2, rfl, g2, t2⟩ := list_at r4 qb f2
          exact ⟨p1, p2, vs1, vs2, rfl, rfl, g1, g2, by rw [t1.length, t2.length]; exact hc, fun p hp => w4 φ4 H3 _ p Ext.refl r4 (t1.append t2) hp⟩
        · rw [if_neg hc] at e4; cases e4
  | .sst a, X, x, pe, h => by
    unfold okL at h
    split at h
    · rename_i y q z q2 x1 pos2 pos
      obtain ⟨h, h8⟩ := band2 h
      obtain ⟨h, h7⟩ := band2 h
      obtain ⟨h, h6⟩ := band2 h
      obtain ⟨h, h5⟩ := band2 h
      obtain ⟨h, h4⟩ := band2 h
      obtain ⟨h, h3⟩ := band2 h
      obtain ⟨h1, h2⟩ := band2 h
      have hz := dec_eq h1
      subst hz
      have hz2 := dec_eq h4
      subst hz2
      obtain ⟨h7, hh⟩ := band2 h7
      exact sst_ok x (by simpa using hh) h2 h3 h5 h6 h7 (soundE a x _ h8)
    · cases h
  | .rep a b, X, x, pe, h => by
    unfold okL at h
    cases pe <;> first | cases h | skip
    rename_i y o z pos
    cases o <;> first | cases h | skip
    obtain ⟨h1, h2⟩ := band2 h
    refine PE.imp (pe_op op_repR (soundE a x _ h1) (soundE b x _ h2)) fun σ H Q h => ?_
    obtain ⟨φ, ρ, S, d, S1, re, rs, e, w⟩ := tL2 (g := fun x y S2 => match listOf S2 x, y with | some l, .int k => if -(2 ^ 63) ≤ k ∧ k < 2 ^ 63 ∧ l.length * k.toNat ≤ line then .ok (List.replicate k.toNat l).flatten S2 else .bad | _, _ => .bad) h
    refine ⟨φ, ρ, S, d, S1, re, rs, e, fun φ1 H1 v1 x1 r1 q1 => ?_⟩
    obtain ⟨φ2, ρ2, S2, d2, S3, re2, rs2, e2, w2⟩ := w φ1 H1 v1 x1 r1 q1
    refine ⟨φ2, ρ2, S2, d2, S3, re2, rs2, e2, fun φ3 H3 v3 x3 r3 q3 => ?_⟩
    obtain ⟨φ4, S4, a', b', l, S', r4, qa, qb, e4, w4⟩ := w2 φ3 H3 v3 x3 r3 q3
    cases f1 : listOf S4 a' with
    | none => rw [f1] at e4; cases e4
    | some l1 =>
      rw [f1] at e4
      cases b' <;> first | cases e4 | skip
      rename_i k
      have e4 : (if -(2 ^ 63) ≤ k ∧ k < 2 ^ 63 ∧ l1.length * k.toNat ≤ line then R.ok (List.replicate k.toNat l1).flatten S4 else .bad) = .ok l S' := e4
      by_cases hc : -(2 ^ 63) ≤ k ∧ k < 2 ^ 63 ∧ l1.length * k.toNat ≤ line
      · rw [if_pos hc] at e4
        cases e4
        obtain ⟨p1, vs1, rfl, g1, t1⟩ := list_at r4 qa f1
        exact ⟨p1, k, vs1, rfl, rvint.mp qb, g1, hc.1, hc.2.1, by rw [t1.length]; exact hc.2.2, fun p hp => w4 φ4 H3 _ p Ext.refl r4 (t1.flatten_rep _) hp⟩
      · rw [if_neg hc] at e4; cases e4
  | .rev a, X, x, pe, h => by
    unfold okL at h
    split at h
    · rename_i y k p1 p2 p3 pos
      refine PE.imp (pe_revL (soundE a x _ h)) fun σ H Q h => ?_
      obtain ⟨φ, ρ, S, d, S1, re, rs, e, w⟩ := tL1 (fa := evE C a) (g := fun x S1 => (R.of (listOf S1 x) S1).bind fun l S2 => R.ok l.reverse S2) h
      refine ⟨φ, ρ, S, d, S1, re, rs, e, fun φ1 H1 v1 x1 r1 q1 => ?_⟩
      obtain ⟨φ4, S4, a', l, S', r4, qa, e4, w4⟩ := w φ1 H1 v1 x1 r1 q1
      obtain ⟨l', S5, e5, e6⟩ := bind_ok e4
      obtain ⟨e5, e7⟩ := of_ok e5
      subst e7
      cases e6
      obtain ⟨p, vs, rfl, q, t⟩ := list_at r4 qa e5
      exact ⟨p, vs, rfl, q, fun l hl => w4 φ4 H1 _ l Ext.refl r4 t.reverse hl⟩
    · cases h
theorem soundIt {p : Par} {C : Ctx} : ∀ (it : It) {X : Cx} (x : XC p C X) (tg pe : Expr), tupTg it tg = true → okIt p X.N it X.env.scope X.fn pe = true → PI X tg pe (tI X.K X.mg (evIt C it))
  | .seq a, X, x, tg, pe, ht, h => by
    unfold okIt at h
    exact seq_ok (soundE a x _ h)
  | .rng3 es, X, x, tg, pe, ht, h => by
    unfold okIt at h
    split at h
    · rename_i y q a b c pos
      obtain ⟨h, h4⟩ := band2 h
      obtain ⟨h, h3⟩ := band2 h
      obtain ⟨h1, h2⟩ := band2 h
      have hz := dec_eq h1
      subst hz
      exact rng3_ok x h3 h2 (okEs_plain h4) (soundEs es x _ h4)
    · cases h
  | .lit l, X, x, tg, pe, ht, h => by
    unfold okIt at h
    refine PI.imp (pi_list (soundL l x _ h)) fun σ H Rj ⟨φ, ρ, S, m, S1, re, rs, e, w⟩ => ?_
    obtain ⟨xs, S2, e1, e2⟩ := bind_ok (show ((evL C l ρ S).bind fun xs S1 => R.ok (Itm.fix xs) S1) = .ok m S1 from e)
    cases e2
    refine ⟨φ, ρ, S, xs, S1, re, rs, e1, fun φ' H' vs p xx r t hp => ⟨p, rfl, ⟨vs, .of upd_same⟩, ?_⟩⟩
    have rl := rv_lst r hp t
    obtain ⟨a, vs', ea, q, t'⟩ := rvlst.mp rl
    cases ea
    exact w φ' _ _ (xx.trans (Ext.new r hp)) (r.new hp) (wk_list q t').g
  | .rng es, X, x, tg, pe, ht, h => by
    unfold okIt at h
    split at h
    · rename_i y q l pos
      obtain ⟨h, h9⟩ := band2 h
      obtain ⟨h, h8⟩ := band2 h
      obtain ⟨h, h7⟩ := band2 h
      obtain ⟨h2, h3⟩ := band2 h
      have hz := dec_eq h2
      subst hz
      exact rng_ok x h7 h3 (okEs_plain h8) (soundEs es x _ h8) (fun e => evEs_len (okEs_len h8) e) h9
    · cases h
  | .zip a b, X, x, tg, pe, ht, h => by
    unfold okIt at h
    split at h
    · rename_i y q e1 e2 pos
      obtain ⟨h, h9⟩ := band2 h
      obtain ⟨h, h8⟩ := band2 h
      obtain ⟨h, h7⟩ := band2 h
      obtain ⟨h, h6⟩ := band2 h
      obtain ⟨h, h5⟩ := band2 h
      obtain ⟨h2, h3⟩ := band2 h
      have hz := dec_eq h2
      subst hz
      exact zip_ok x ht h5 h3 h6 h7 (soundE a x _ h8) (soundE b x _ h9)
    · cases h
  | .enm a, X, x, tg, pe, ht, h => by
    unfold okIt at h
    split at h
    · rename_i y q e1 pos
      obtain ⟨h, h7⟩ := band2 h
      obtain ⟨h, h6⟩ := band2 h
      obtain ⟨h, h5⟩ := band2 h
      obtain ⟨h2, h3⟩ := band2 h
      have hz := dec_eq h2
      subst hz
      exact enm_ok x ht h5 h3 h6 (soundE a x _ h7)
    · cases h
  | .rev a, X, x, tg, pe, ht, h => by
    unfold okIt at h
    split at h
    · rename_i y q e1 pos
      obtain ⟨h, h9⟩ := band2 h
      obtain ⟨h, h8⟩ := band2 h
      obtain ⟨h, h7⟩ := band2 h
      obtain ⟨h2, h3⟩ := band2 h
      have hz := dec_eq h2
      subst hz
      exact rev_ok x h7 h3 h8 (soundE a x _ h9)
    · cases h
theorem soundTg {p : Par} {C : Ctx} : ∀ (t : T) {X : Cx} (x : XC p C X) (pe : Expr), okT p X.N t X.env.scope X.fn pe = true → PG X pe (tG X.K X.mg (tgS t) (asg C t))
  | .nm i, X, x, pe, h => by
    unfold okT at h
    cases pe <;> first | cases h | skip
    rename_i y pos
    obtain ⟨h1, h2⟩ := band2 h
    obtain ⟨l1, l2⟩ := isLoc_ok h2
    refine PG.imp (pg_name (i := i) x.nd (dec_eq h1) l1 l2) fun v σ H Q ⟨φ, ρ, S, d, ρ1, S1, re, rs, rv, e, w⟩ => ?_
    have e' : (if i < ρ.length then R.ok (ρ.set i (some d)) S else .bad) = .ok ρ1 S1 := e
    by_cases hc : i < ρ.length
    · rw [if_pos hc] at e'
      cases e'
      refine w φ H (σ.set i (some v)) Ext.refl rs (re.set rv) (by simp) fun j hj => ?_
      have hne : i ≠ j := fun z => hj (by rw [z]; exact List.mem_singleton.mpr rfl)
      rw [List.getElem?_set_ne hne]
    · rw [if_neg hc] at e'; cases e'
  | .tp ts, X, x, pe, h => by
    unfold okT at h
    cases pe <;> first | cases h | skip
    rename_i l k pos
    obtain ⟨h, hh⟩ := band2 h
    have hh : p.hot = false := by simpa using hh
    refine PG.imp (PG.or (pg_tup (x.calm hh) (soundTgs ts x _ h) rfl (asgEach_star (okTs_star h))) (pg_lst (x.calm hh) (soundTgs ts x _ h) rfl (asgEach_star (okTs_star h)))) fun v σ H Q ⟨φ, ρ, S, d, ρ1, S1, re, rs, rv, e, w⟩ => ?_
    cases d with
    | tup ds =>
      obtain ⟨a, vs, rfl, q, t⟩ := rvtup.mp rv
      have e' : asgs C ts ds ρ S = .ok ρ1 S1 := e
      exact .inl ⟨a, vs, rfl, q, by rw [asgEach_len, t.length, asgs_len h e'], φ, ρ, S, ds, ρ1, S1, re, rs, t, e', w⟩
    | lst ds =>
      obtain ⟨a, vs, rfl, q, t⟩ := rvlst.mp rv
      have e' : asgs C ts ds ρ S = .ok ρ1 S1 := e
      exact .inr ⟨a, vs, rfl, q.sq, by rw [asgEach_len, t.length, asgs_len h e'], φ, ρ, S, ds, ρ1, S1, re, rs, t, e', w⟩
    | ref hh =>
      have e' : (match S[hh]? with
        | some (.lst l) => asgs C ts l ρ S
        | _ => .bad) = .ok ρ1 S1 := e
      cases e3 : S[hh]? with
      | none => rw [e3] at e'; cases e'
      | some ob =>
        rw [e3] at e'
        cases ob with
        | lst ds =>
          have e' : asgs C ts ds ρ S = .ok ρ1 S1 := e'
          obtain ⟨a, vs, rfl, q, t⟩ := list_at (l := ds) rs rv (by show (match S[hh]? with | some (.lst l) => some l | _ => none) = _; rw [e3])
          exact .inr ⟨a, vs, rfl, q, by rw [asgEach_len, t.length, asgs_len h e'], φ, ρ, S, ds, ρ1, S1, re, rs, t, e', w⟩
        | _ => cases e'
    | _ => cases e
  | .sub o i, X, x, pe, h => by
    unfold okT at h
    cases pe <;> first | cases h | skip
    obtain ⟨h1, h2⟩ := band2 h
    obtain ⟨h1, h3⟩ := band2 h1
    refine PG.imp (pg_sub (soundE o x _ h3) (soundE i x _ h2) (PSet.or set_list (set_dict (by have := x.hu; omega))) (plain_asg h1)) fun v σ H Q ⟨φ, ρ, S, d, ρ1, S1, re, rs, rv, e, w⟩ => ?_
    obtain ⟨u, S2, e1, e⟩ := bind_ok (show ((evE C o ρ S).bind fun x S1 => (evE C i ρ S1).bind fun y S2 => setD ρ S2 d x y) = .ok ρ1 S1 from e)
    refine ⟨φ, ρ, S, u, S2, re, rs, e1, fun φ1 H1 v1 x1 r1 q1 => ?_⟩
    obtain ⟨u2, S3, e2, e⟩ := bind_ok e
    refine ⟨φ1, ρ, S2, u2, S3, re.mono x1, r1, e2, fun φ2 H2 v2 x2 r2 q2 => ?_⟩
    rcases setD_ok e with ⟨hh, k, l, j, rfl, rfl, e3, e4, rfl, rfl⟩ | ⟨hh, k, kvs, rfl, rfl, e3, e4, rfl, rfl⟩
    rotate_left
    · obtain ⟨a, rfl, q⟩ := rvref.mp (RV.mono x2 _ _ q1)
      obtain ⟨ws, hv, t⟩ := r2.obj _ _ _ e3 q
      obtain ⟨a', rfl, ha'⟩ := key_at q2
      have nt : ∀ us, ¬ Rd H2 a (.tup us) := by
        intro us z
        rcases z with z | ⟨o, z⟩ <;> rw [hv] at z <;> cases z
      have rv2 := RV.mono (x1.trans x2) _ _ rv
      obtain ⟨ws', ep, tp⟩ := put_at (k := k) rv2 t
      have xw : Ext φ2 S3 H2 φ2 (S3.set hh (.dct (putD' kvs k d))) (upd H2 a (.dT (zipW (putD' kvs k d) ws'))) := Ext.write r2 e3 q (by simp) nt
      have x12 := (x1.trans x2).trans xw
      have hz : (zipW kvs ws).length < sizeLine := by
        have hl : ws.length = kvs.length := by rw [t.length, List.length_map]
        show ((kvs.map (·.1)).zip ws).length < _
        rw [List.length_zip, List.length_map, hl, Nat.min_self]
        exact e4
      refine .inr ⟨a, _, rfl, DPut.t hv ha' hz, ?_⟩
      have ep' : putK ((kvs.map (·.1)).zip ws) k v = zipW (putD' kvs k d) ws' := ep
      rw [ep']
      exact w φ2 _ σ x12 (RS.write r2 e3 q (by simp) nt ⟨ws', upd_same, RVs.mono xw _ _ tp⟩) (re.mono x12) rfl fun _ _ => rfl
    obtain ⟨a, rfl, q⟩ := rvref.mp (RV.mono x2 _ _ q1)
    obtain ⟨vs, hv, t⟩ := r2.obj _ _ _ e3 q
    have nt : ∀ us, ¬ Rd H2 a (.tup us) := by
      intro us z
      rcases z with z | ⟨o, z⟩ <;> rw [hv] at z <;> cases z
    have xw : Ext φ2 S3 H2 φ2 (S3.set hh (.lst (l.set j d))) (upd H2 a (.lst (vs.set j v))) := Ext.write r2 e3 q (by simp) nt
    have rv2 := RV.mono (x1.trans x2) _ _ rv
    refine .inl ⟨a, vs, k, j, rfl, rvint.mp q2, hv, by rw [t.length]; exact e4, ?_⟩
    have x12 := (x1.trans x2).trans xw
    exact w φ2 _ σ x12 (RS.write r2 e3 q (by simp) nt ⟨_, upd_same, RVs.mono xw _ _ (t.set rv2 j)⟩) (re.mono x12) rfl fun _ _ => rfl
  | .fld o f, X, x, pe, h => by
    unfold okT at h
    cases pe <;> first | cases h | skip
    rename_i po a pos
    obtain ⟨h1, h3⟩ := band2 h
    have hz := dec_eq h1
    subst hz
    refine PG.imp (pg_fld (soundE o x po h3)) fun v σ H Q ⟨φ, ρ, S, d, ρ1, S1, re, rs, rv, e, w⟩ => ?_
    obtain ⟨u, S2, e1, e2⟩ := bind_ok (show ((evE C o ρ S).bind fun x S1 => setF C ρ S1 d f x) = .ok ρ1 S1 from e)
    refine ⟨φ, ρ, S, u, S2, re, rs, e1, fun φ1 H1 v1 x1 r1 q1 => ?_⟩
    obtain ⟨hh, c, fs, I, rfl, e3, e4, hf, hl, rfl, rfl⟩ := setF_ok e2
    obtain ⟨h', a, A, dx, vs, g0, eh, qa, rfl, hH, t, k⟩ := ins_at x r1 q1 (show insOf S2 (.ref hh) = some (c, fs) by unfold insOf; simp only [e3]) e4
    cases g0
    have nt : ∀ us, ¬ Rd H1 a (.tup us) := by
      intro us z
      rcases z with z | ⟨o, z⟩ <;> rw [hH] at z <;> cases z
    have rv2 := RV.mono x1 _ _ rv
    obtain ⟨vs', ez, t2⟩ := RVs.putD (f := f) rv2 t
    have xw : Ext φ1 S2 H1 φ1 (S2.set hh (.ins c (putD f d fs))) (upd H1 a (.ins A dx (putF (Str.ofString f) v ((fnm fs).zip vs)))) := Ext.write r1 e3 qa (by simp) nt
    refine ⟨a, A, dx, _, rfl, hH, k.s.cls, k.s.flds f hf, ?_, ?_⟩
    · have h5 := t.length
      rw [List.length_zip]
      simp only [fnm, List.length_map] at h5 ⊢
      omega
    · have x12 := x1.trans xw
      refine w φ1 _ σ x12 (RS.write r1 e3 qa (by simp) nt ⟨A, dx, vs', k.s.at_, ?_, RVs.mono xw _ _ t2⟩) (re.mono x12) rfl fun _ _ => rfl
      rw [upd_same, ez]
theorem soundTgs {p : Par} {C : Ctx} : ∀ (ts : Ts) {X : Cx} (x : XC p C X) (l : List Expr), okTs p X.N ts X.env.scope X.fn l = true → PGs X l (tGs X.K X.mg (tgSs ts) (asgs C ts))
  | .nil, X, x, l, h => by
    cases l with
    | cons _ _ => unfold okTs at h; cases h
    | nil =>
      refine PGs.imp pgs_nil fun vs σ H Q ⟨φ, ρ, S, ds, ρ1, S1, re, rs, rv, e, w⟩ => ?_
      cases ds with
      | cons _ _ => cases e
      | nil =>
        cases e
        exact ⟨rv.inv_nil, w φ H σ Ext.refl rs re rfl fun _ _ => rfl⟩
  | .cons t r, X, x, l, h => by
    cases l with
    | nil => unfold okTs at h; cases h
    | cons y l =>
      unfold okTs at h
      obtain ⟨h1, h2⟩ := band2 h
      obtain ⟨h1, h3⟩ := band2 h1
      refine PGs.imp (pgs_cons (soundTg t x _ h3) (soundTgs r x _ h2) (asgEach_cons (plain_noStar h1))) fun vs σ H Q ⟨φ, ρ, S, ds, ρ1, S1, re, rs, rv, e, w⟩ => ?_
      cases ds with
      | nil => cases e
      | cons d ds =>
        obtain ⟨v, vr, rfl, q, t'⟩ := rv.inv_cons
        obtain ⟨ρ2, S2, e1, e2⟩ := bind_ok (show ((asg C t d ρ S).bind fun ρ1 S1 => asgs C r ds ρ1 S1) = .ok ρ1 S1 from e)
        refine ⟨v, vr, rfl, φ, ρ, S, d, ρ2, S2, re, rs, q, e1, fun φ' H' σ' xx r' re' hl hk => ?_⟩
        refine ⟨φ', ρ2, S2, ds, ρ1, S1, re', r', RVs.mono xx _ _ t', e2, fun φ2 H2 σ2 x2 r2 re2 hl2 hk2 => ?_⟩
        refine w φ2 H2 σ2 (xx.trans x2) r2 re2 (hl2.trans hl) fun i hi => ?_
        have hi' : i ∉ tgS t ∧ i ∉ tgSs r := by
          constructor
          · exact fun z => hi (List.mem_append_left _ z)
          · exact fun z => hi (List.mem_append_right _ z)
        exact (hk2 i hi'.2).trans (hk i hi'.1)
end
end MI

set_option maxHeartbeats 1000000
/-! MIl: statements. -/
namespace MI
open PySem PySem.Spec PyProof.Rows L2
variable [Tabs] [Cels]

/-! ### the check -/
/-- no store is exchanged with another -/
def swNone : Expr → Expr → Bool
  | .Tuple ts _ _, .Tuple vs _ _ => !(ts.length == 2 || ts.length == 3)
  | .List _ _, _ => false
  | _, _ => true
/-- a value that no comprehension gives -/
def noLc : Expr → Bool
  | .ListComp _ _ _ _ => false
  | .SetComp _ _ _ _ => false
  | .DictComp _ _ _ _ _ => false
  | _ => true
def swOk : Expr → Bool
  | .Tuple _ _ _ => true
  | .Subscript _ _ _ => true
  | .Attribute _ _ _ => true
  | _ => false
/-- a name that others capture -/
def swCell (sc : Scope) : Expr → Bool
  | .Name t _ => decide (sc.names.lookup t = some .cell)
  | _ => false
def isComp : E → Bool
  | .frz (.comp _ _ _ _ _) => true
  | .box (.comp _ _ _ _ _) => true
  | _ => false
def noOwn (scope : Scope) (y : Str) : Bool := !(scope.names.any fun (n, k) => n == y && (k == .local || k == .cell))
def okAsg (p : Par) (N : List Str) (t : T) (e : E) (sc : Scope) (fn : Str → Bool) (tg pe : Expr) : Bool :=
  plainE tg && (noLc pe || swOk tg || swCell sc tg) && swNone tg pe && okT p N t sc fn tg && okE p N e sc fn pe
/-- name = [.. for ..] -/
def okAsgC (p : Par) (N : List Str) : T → E → Scope → (Str → Bool) → Expr → Expr → Bool
  | .nm i, e => fun sc fn tg pe => match tg, pe with
    | .Name y py, .ListComp _ _ scope pos => decide (N[i]? = some y) && sc.names.lookup y == some .local && isComp e && (py.line == pos.line) && noOwn scope y && okE p N e sc fn pe
    | _, _ => false
  | _, _ => fun _ _ _ _ => false
mutual
def okS (p : Par) (N : List Str) : S → Scope → (Str → Bool) → Stmt → Bool
  | .ex e => fun sc fn s => match s with
    | .Expr pe _ => noLc pe && okE p N e sc fn pe
    | _ => false
  | .app o e => fun sc fn s => match s with
    | .Expr (.Call (.Attribute po a apos) [pe] [] cpos) _ => decide (a = ("append" : Str)) && (apos.endLine == cpos.line) && plainB po && plainE pe && okE p N o sc fn po && okE p N e sc fn pe
    | _ => false
  | .ext o e => fun sc fn s => match s with
    | .Expr (.Call (.Attribute po a apos) [pe] [] cpos) _ => decide (a = ("extend" : Str)) && (apos.endLine == cpos.line) && plainB po && plainE pe && okE p N o sc fn po && okE p N e sc fn pe
    | _ => false
  | .clr o => fun sc fn s => match s with
    | .Expr (.Call (.Attribute po a apos) [] [] cpos) _ => decide (a = ("clear" : Str)) && (apos.endLine == cpos.line) && plainB po && okE p N o sc fn po
    | _ => false
  | .fag o f e => fun sc fn s => match s with
    | .AugAssign (.Attribute po a _) op pe _ => decide (op = .Add) && decide (a = Str.ofString f) && okE p N o sc fn po && okE p N e sc fn pe
    | _ => false
  | .asg t e => fun sc fn s => match s with
    | .Assign [tg] pe _ => okAsg p N t e sc fn tg pe || okAsgC p N t e sc fn tg pe
    | _ => false
  | .aug i o e => fun sc fn s => match s with
    | .AugAssign (.Name x _) o' pe _ => decide (o = o') && (decide (o = .Add) || decide (o = .Sub)) && decide (N[i]? = some x) && isLoc sc fn x && okE p N e sc fn pe
    | _ => false
  | .ret e => fun sc fn s => match s with
    | .Return (some pe) _ => okE p N e sc fn pe
    | _ => false
  | .retN => fun _ _ s => match s with
    | .Return none _ => true
    | _ => false
  | .ite c a b => fun sc fn s => match s with
    | .If pc pa pb _ => okE p N c sc fn pc && okSs p N a sc fn pa && okSs p N b sc fn pb
    | _ => false
  | .for_ t it body => fun sc fn s => match s with
    | .For tg iter pb [] _ => (plainE iter && !p.hot) && tupTg it tg && okT p N t sc fn tg && okIt p N it sc fn iter && okSs p N body sc fn pb
    | _ => false
  | .whl c body => fun sc fn s => match s with
    | .While pc pb [] _ => (okE p N c sc fn pc && !p.hot) && okSs p N body sc fn pb
    | _ => false
  | .pass => fun _ _ s => match s with
    | .Pass _ => true
    | .Expr (.Constant (.str _) _ _) _ => true
    | _ => false
  | .brk => fun _ _ s => match s with
    | .Break _ => true
    | _ => false
  | .cnt => fun _ _ s => match s with
    | .Continue _ => true
    | _ => false
  | .never => fun _ _ _ => true
  | .rse c => fun sc _ s => match s with
    | .Raise (some (.Call (.Name y _) [.Constant (.str _) _ _] [] _)) none _ => decide (y = Str.ofString c) && isGl sc y && nameOk y && !p.hot
    | _ => false
  | .tri e cn i suite => fun sc fn s => match s with
    | .Try [.Expr pe _] [.ExceptHandler (some (.Name x _)) (some n) (b0 :: sl) _] [] [] _ => decide (x = Str.ofString cn) && isGl sc x && nameOk x && p.xis.contains cn && decide (N[i]? = some n) && (sc.names.lookup n == some .local) && !p.hot && noLc pe && okE p N e sc fn pe && okSs p.hotP N suite sc fn (b0 :: sl)
    | _ => false
def okSs (p : Par) (N : List Str) : Ss → Scope → (Str → Bool) → List Stmt → Bool
  | .nil => fun _ _ l => match l with
    | [] => true
    | _ => false
  | .cons s r => fun sc fn l => match l with
    | [] => false
    | x :: l => okS p N s sc fn x && okSs p N r sc fn l
end

/-! ### the reading -/
/-- what is wanted where the block ends so -/
def tEnd (K : PySem.W.Frag) (φ : Lo) (S : Sto) (H : Hp) (ρ : Env) (n : Nat) (D : Ends) : Fl → Prop
  | .nx => ∀ σ, RE K φ S H ρ σ → D.nx σ H
  | .bk => ∀ σ, RE K φ S H ρ σ → D.bk σ H
  | .ct => ∀ σ, RE K φ S H ρ σ → D.ct σ H
  | .rt d => ∀ v, RV K φ S H d v → D.rt v H
def tS (K : PySem.W.Frag) (mg : Str → Option Value) (f : Env → Sto → R (Fl × Env)) : TS := fun D σ H => ∃ φ ρ S q S1, RE K φ S H ρ σ ∧ RS K mg φ S H ∧ f ρ S = .ok q S1 ∧
  ∀ φ' H', Ext φ S H φ' S1 H' → RS K mg φ' S1 H' → tEnd K φ' S1 H' q.2 σ.length D q.1
structure XS (p : Par) (C : Ctx) (X : Cx) : Prop extends XC p C X where
  own : p.hot = false → PassesOwn (model X.prog X.w) X.A X.env X.xe
  kind : X.env.scope.kind = .function
  stk : X.stack = X.env :: X.outer
  frm : X.env.frame = some X.env.locals
  exn : X.ex = []
section
variable {p : Par} {C : Ctx} {X : Cx} {K : PySem.W.Frag} {mg : Str → Option Value} {σ : L2.St} {H : Hp} {D : Ends}
theorem sw_noLc {e : Expr} {t : Option Expr} {l : Nat} {env : PySem.Env} (h : noLc e = true) : swapsWith e t l env = pure false := by cases e <;> first | rfl | cases h
theorem sw_cell {tg e : Expr} {l : Nat} {env : PySem.Env} (h : swCell env.scope tg = true) : swapsWith e (some tg) l env = pure false := by
  by_cases hn : noLc e = true
  · exact sw_noLc hn
  · cases tg with
    | Name t pos =>
      have hk : env.kindOf t = some .cell := of_decide_eq_true h
      cases e <;> first | (exact absurd rfl hn) | (unfold swapsWith; simp only [hk]; simp; done) | skip
      all_goals (unfold swapsWith; dsimp only [bind, pure]; rw [hk]; simp; done)
    | _ => cases h
theorem sw_any {tg e : Expr} {l : Nat} {env : PySem.Env} (h : (noLc e || swOk tg || swCell env.scope tg) = true) : swapsWith e (some tg) l env = pure false := by
  rcases Bool.or_eq_true_iff.mp h with h | h
  case inr => exact sw_cell h
  rcases Bool.or_eq_true_iff.mp h with h | h
  · exact sw_noLc h
  · cases tg <;> first | (cases h; done) | skip
    all_goals cases e <;> rfl
theorem sw_none {tg e : Expr} {env : PySem.Env} (h : swNone tg e = true) : swappedStores [tg] e env = pure none := by
  cases tg <;> first | rfl | cases h | skip
  cases e <;> first | rfl | skip
  rename_i ts _ _ vs _ _
  have h' : (!(ts.length == 2 || ts.length == 3)) = true := h
  show (if (!(ts.length == 2 || ts.length == 3) || vs.length != ts.length || env.blockKind != .function) = true then pure none else _) = pure none
  rw [h']
  rfl
theorem appD_ok {ρ : Env} {S S1 : Sto} {d u : MI.D} {q : Fl × Env} (e : appD ρ S d u = .ok q S1) : ∃ h l, u = .ref h ∧ S[h]? = some (.lst l) ∧ l.length < line ∧ q = (.nx, ρ) ∧ S1 = S.set h (.lst (l ++ [d])) := by
  cases u with
  | ref h =>
    unfold appD at e
    cases e3 : S[h]? with
    | none => simp [e3] at e
    | some ob =>
      cases ob with
      | lst l =>
        simp only [e3] at e
        by_cases hc : l.length < line
        · rw [if_pos hc] at e
          cases e
          exact ⟨h, l, rfl, e3, hc, rfl, rfl⟩
        · rw [if_neg hc] at e; cases e
      | _ => simp [e3] at e
  | _ => cases e
theorem augD_ok {o : Operator} {x y z : MI.D} (e : augD o x y = some z) : ∃ a b, x = .int a ∧ y = .int b ∧ ((o = .Add ∧ z = .int (a + b)) ∨ (o = .Sub ∧ z = .int (a - b))) := by
  cases x with
  | int a =>
    cases y with
    | int b =>
      unfold augD at e
      cases o <;> first | (cases e; done) | skip
      · cases e; exact ⟨a, b, rfl, rfl, .inl ⟨rfl, rfl⟩⟩
      · cases e; exact ⟨a, b, rfl, rfl, .inr ⟨rfl, rfl⟩⟩
    | _ => cases e
  | _ => cases e
theorem tDrop_read {f : Env → Sto → R MI.D} (h : tS X.K X.mg (fun ρ S => (f ρ S).bind fun _ S1 => .ok (.nx, ρ) S1) D σ H) : tDrop (tE X.K X.mg f) D σ H := by
  obtain ⟨φ, ρ, S, q, S1, re, rs, e, w⟩ := h
  obtain ⟨d, S2, e1, e2⟩ := bind_ok e
  cases e2
  exact ⟨φ, ρ, S, d, S1, re, rs, e1, fun φ' H' v x r _ => w φ' H' x r σ (re.mono x)⟩
theorem tRet_read {f : Env → Sto → R MI.D} (h : tS X.K X.mg (fun ρ S => (f ρ S).bind fun d S1 => .ok (.rt d, ρ) S1) D σ H) : tRet (tE X.K X.mg f) D σ H := by
  obtain ⟨φ, ρ, S, q, S1, re, rs, e, w⟩ := h
  obtain ⟨d, S2, e1, e2⟩ := bind_ok e
  cases e2
  exact ⟨φ, ρ, S, d, S1, re, rs, e1, fun φ' H' v x r q => w φ' H' x r v q⟩
theorem tAsg_read {f : Env → Sto → R MI.D} {sl : List Nat} {g : MI.D → Env → Sto → R Env} (h : tS X.K X.mg (fun ρ S => (f ρ S).bind fun d S1 => (g d ρ S1).bind fun ρ1 S2 => .ok (.nx, ρ1) S2) D σ H) : tAsg (tE X.K X.mg f) (tG X.K X.mg sl g) D σ H := by
  obtain ⟨φ, ρ, S, q, S1, re, rs, e, w⟩ := h
  obtain ⟨d, S2, e1, e2⟩ := bind_ok e
  obtain ⟨ρ1, S3, e3, e4⟩ := bind_ok e2
  cases e4
  exact ⟨φ, ρ, S, d, S2, re, rs, e1, fun φ' H' v x r q => ⟨φ', ρ, S2, d, ρ1, S1, re.mono x, r, q, e3, fun φ2 H2 σ2 x2 r2 re2 _ _ => w φ2 H2 (x.trans x2) r2 σ2 re2⟩⟩
theorem tSeq_read {f g : Env → Sto → R (Fl × Env)} (h : tS X.K X.mg (fun ρ S => (f ρ S).bind fun q S1 => match q.1 with
    | .nx => g q.2 S1
    | f => .ok (f, q.2) S1) D σ H) : tSeq (tS X.K X.mg f) (tS X.K X.mg g) D σ H := by
  obtain ⟨φ, ρ, S, q, S1, re, rs, e, w⟩ := h
  obtain ⟨⟨fl, ρ1⟩, S2, e1, e2⟩ := bind_ok e
  refine ⟨φ, ρ, S, (fl, ρ1), S2, re, rs, e1, fun φ' H' x r => ?_⟩
  cases fl with
  | nx => exact fun σ' re' => ⟨φ', ρ1, S2, q, S1, re', r, e2, fun φ2 H2 x2 r2 => by
      have := w φ2 H2 (x.trans x2) r2
      obtain ⟨fl, ρ2⟩ := q
      cases fl <;> exact this⟩
  | bk => cases e2; exact w φ' H' x r
  | ct => cases e2; exact w φ' H' x r
  | rt d => cases e2; exact w φ' H' x r
theorem tIfS_read {c : Env → Sto → R Bool} {f g : Env → Sto → R (Fl × Env)} (h : tS X.K X.mg (fun ρ S => (c ρ S).bind fun k S1 => if k = true then f ρ S1 else g ρ S1) D σ H) : tIfS (tT X.K X.mg c) (tS X.K X.mg f) (tS X.K X.mg g) D σ H := by
  obtain ⟨φ, ρ, S, q, S1, re, rs, e, w⟩ := h
  obtain ⟨k, S2, e1, e2⟩ := bind_ok e
  refine ⟨φ, ρ, S, k, S2, re, rs, e1, fun φ' H' x r => ?_⟩
  cases k with
  | true => rw [if_pos rfl] at e2; exact iteT ⟨φ', ρ, S2, q, S1, re.mono x, r, e2, fun φ2 H2 x2 r2 => w φ2 H2 (x.trans x2) r2⟩
  | false => rw [if_neg Bool.false_ne_true] at e2; exact iteF ⟨φ', ρ, S2, q, S1, re.mono x, r, e2, fun φ2 H2 x2 r2 => w φ2 H2 (x.trans x2) r2⟩
theorem tWhile_read {c : Env → Sto → R Bool} {f : Env → Sto → R (Fl × Env)} {n : Nat} (h : tS X.K X.mg (fun ρ S => whlL c f n ρ S) D σ H) : tWhile (tT X.K X.mg c) (tS X.K X.mg f) D σ H := by
  obtain ⟨φ, ρ, S, q, S1, re, rs, e, w⟩ := h
  refine ⟨fun m σ' H' => ∃ φ' ρ' S', RE X.K φ' S' H' ρ' σ' ∧ RS X.K X.mg φ' S' H' ∧ Ext φ S H φ' S' H' ∧ whlL c f m ρ' S' = .ok q S1, ⟨n, φ, ρ, S, re, rs, Ext.refl, e⟩, ?_⟩
  rintro m σ1 H1 ⟨φ1, ρ1, S2, re1, rs1, x1, e1⟩
  cases m with
  | zero => cases e1
  | succ m =>
    obtain ⟨b, S3, e2, e3⟩ := bind_ok e1
    refine ⟨φ1, ρ1, S2, b, S3, re1, rs1, e2, fun φ2 H2 x2 r2 => ?_⟩
    have x12 := x1.trans x2
    cases b with
    | false =>
      cases e3
      exact iteF (w φ2 H2 x12 r2 σ1 (re1.mono x2))
    | true =>
      refine iteT ⟨fun σ' H' => ∃ φ' ρ' S', RE X.K φ' S' H' ρ' σ' ∧ RS X.K X.mg φ' S' H' ∧ Ext φ S H φ' S' H' ∧ whlL c f m ρ' S' = .ok q S1, fun σ' H' hn => ⟨m, Nat.lt_succ_self _, hn⟩, ?_⟩
      obtain ⟨⟨fl, ρ3⟩, S4, e4, e5⟩ := bind_ok e3
      refine ⟨φ2, ρ1, S3, (fl, ρ3), S4, re1.mono x2, r2, e4, fun φ3 H3 x3 r3 => ?_⟩
      have x13 := x12.trans x3
      cases fl with
      | nx => exact fun σ' re' => ⟨φ3, ρ3, S4, re', r3, x13, e5⟩
      | ct => exact fun σ' re' => ⟨φ3, ρ3, S4, re', r3, x13, e5⟩
      | bk => cases e5; exact fun σ' re' => w φ3 H3 x13 r3 σ' re'
      | rt d => cases e5; exact fun v rv => w φ3 H3 x13 r3 v rv
theorem tFor_read {it : Env → Sto → R Itm} {g : MI.D → Env → Sto → R Env} {sl : List Nat} {fb : Env → Sto → R (Fl × Env)} (h : tS X.K X.mg (fun ρ S => (it ρ S).bind fun m S1 =>
      let f : MI.D → Env → Sto → R (Fl × Env) := fun x ρ S => (g x ρ S).bind fun ρ1 S1 => fb ρ1 S1
      match m with
      | .fix l => forL f l ρ S1
      | .at_ h => forH f h (atH S1 h) 0 ρ S1) D σ H) : tFor (tI X.K X.mg it) (tG X.K X.mg sl g) (tS X.K X.mg fb) D σ H := by
  obtain ⟨φ, ρ, S, q, S1, re, rs, e, w⟩ := h
  obtain ⟨m, S2, e1, e⟩ := bind_ok e
  refine ⟨φ, ρ, S, m, S2, re, rs, e1, fun φ1 H1 J x1 r1 wk => ?_⟩
  generalize hf : (fun (x : MI.D) (ρ : Env) (S : Sto) => (g x ρ S).bind fun ρ1 S1 => fb ρ1 S1) = f at e
  have e2 : ∃ n, forG f (stI m) n 0 ρ S2 = .ok q S1 := by
    cases m with
    | fix k => exact ⟨_, (forL_g rfl).trans e⟩
    | at_ h => exact ⟨_, forH_g.trans e⟩
  obtain ⟨n, e2⟩ := e2
  clear e
  refine ⟨fun i m' σ' H' => ∃ φ' ρ' S', RE X.K φ' S' H' ρ' σ' ∧ RS X.K X.mg φ' S' H' ∧ Ext φ1 S2 H1 φ' S' H' ∧ forG f (stI m) m' i ρ' S' = .ok q S1, ⟨n, φ1, ρ, S2, re.mono x1, r1, Ext.refl, e2⟩, ?_⟩
  rintro i m' σ2 H2 ⟨φ2, ρ2, S3, re2, rs2, x2, e3⟩
  cases m' with
  | zero => cases e3
  | succ m' =>
    unfold forG at e3
    cases es : stI m i S3 with
    | none => rw [es] at e3; cases e3
    | some o =>
      rw [es] at e3
      cases o with
      | none =>
        cases e3
        exact .inl ⟨wk.stop i φ2 S1 H2 x2.mo rs2 es, w φ2 H2 (x1.trans x2) rs2 σ2 re2⟩
      | some d =>
        obtain ⟨hgo, hy⟩ := wk.go i φ2 S3 H2 d x2.mo rs2 es
        refine .inr ⟨hgo, fun σ' H' => ∃ φ' ρ' S', RE X.K φ' S' H' ρ' σ' ∧ RS X.K X.mg φ' S' H' ∧ Ext φ1 S2 H1 φ' S' H' ∧ forG f (stI m) m' (i + 1) ρ' S' = .ok q S1,
          fun σ' H' hn => ⟨m', Nat.lt_succ_self _, hn⟩, fun xv Hy hyy => ?_⟩
        obtain ⟨xy, ry, qy⟩ := hy xv Hy hyy
        obtain ⟨⟨fl, ρ3⟩, S4, f1, f2⟩ := bind_ok e3
        subst hf
        obtain ⟨ρ4, S5, g1, g2⟩ := bind_ok f1
        refine ⟨φ2, ρ2, S3, d, ρ4, S5, re2.mono xy, ry, qy, g1, fun φ3 H3 σ3 x3 r3 re3 _ _ => ?_⟩
        refine ⟨φ3, ρ4, S5, (fl, ρ3), S4, re3, r3, g2, fun φ4 H4 x4 r4 => ?_⟩
        have xx : Ext φ1 S2 H1 φ4 S4 H4 := ((x2.trans xy).trans x3).trans x4
        cases fl with
        | nx => exact fun σ' re' => ⟨φ4, ρ3, S4, re', r4, xx, f2⟩
        | ct => exact fun σ' re' => ⟨φ4, ρ3, S4, re', r4, xx, f2⟩
        | bk => cases f2; exact fun σ' re' => w φ4 H4 (x1.trans xx) r4 σ' re'
        | rt d => cases f2; exact fun v rv => w φ4 H4 (x1.trans xx) r4 v rv
theorem app_ok {o e : E} (x : XS p C X) {po pe : Expr} {apos cpos pos : Pos} (hl : (apos.endLine == cpos.line) = true) (ho : plainB po = true) (he : plainE pe = true) (h1 : PE X po (tE X.K X.mg (evE C o))) (h2 : PE X pe (tE X.K X.mg (evE C e))) :
    PS X (.Expr (.Call (.Attribute po ("append" : Str) apos) [pe] [] cpos) pos) (tS X.K X.mg (evS C (.app o e))) := by
  have hs : starEach [pe] X.env = [(false, eval pe X.env)] := star_cons (plain_noStar he)
  refine PS.imp (ps_expr (pe_bm PySem.F.plainAttrs_list PySem.F.slot_list_append PySem.F.type_list_append mt_append h1 (pa_cons h2 pa_nil hs) (plainB_base ho) (by rw [hs]; rfl) hl hs rfl)) fun D σ H ⟨φ, ρ, S, q, S1, re, rs, he0, w⟩ => ?_
  obtain ⟨u, S2, e1, e2⟩ := bind_ok (show ((evE C o ρ S).bind fun x S1 => if (listOf S1 x).isSome = true then (evE C e ρ S1).bind fun d S2 => appD ρ S2 d x else .bad) = .ok q S1 from he0)
  by_cases hc : (listOf S2 u).isSome = true
  · rw [if_pos hc] at e2
    obtain ⟨l0, hl0⟩ := Option.isSome_iff_exists.mp hc
    obtain ⟨d, S3, e3, e4⟩ := bind_ok e2
    obtain ⟨h, l, rfl, eh, hz, rfl, rfl⟩ := appD_ok e4
    refine ⟨φ, ρ, S, .ref h, S2, re, rs, e1, fun φ1 H1 v1 x1 r1 q1 => ?_⟩
    obtain ⟨a0, vs0, hv0, hq0, _⟩ := list_at r1 q1 hl0
    obtain ⟨a, rfl, qa⟩ := rvref.mp q1
    have ea : a = a0 := by cases hv0; rfl
    subst ea
    refine ⟨.inl ⟨rfl, vs0, hq0⟩, ?_⟩
    refine ⟨φ1, ρ, S2, d, S3, re.mono x1, r1, e3, fun φ2 H2 v2 x2 r2 q2 => ?_⟩
    have qa2 := x2.mo.pre h a qa
    obtain ⟨vs, hv, t⟩ := r2.obj _ _ _ eh qa2
    have nt : ∀ us, ¬ Rd H2 a (.tup us) := by
      intro us z
      rcases z with z | ⟨o, z⟩ <;> rw [hv] at z <;> cases z
    have xw : Ext φ2 S3 H2 φ2 (S3.set h (.lst (l ++ [d]))) (upd H2 a (.lst (vs ++ [v2]))) := Ext.write r2 eh qa2 (by simp) nt
    refine ⟨a, vs, v2, rfl, rfl, hv, by rw [t.length]; exact hz, ?_⟩
    have x12 := (x1.trans x2).trans xw
    exact w φ2 _ x12 (RS.write r2 eh qa2 (by simp) nt ⟨_, upd_same, RVs.mono xw _ _ (t.append (RVs.cons q2 .nil))⟩) σ (re.mono x12)
  · rw [if_neg hc] at e2; cases e2
theorem fag_ok {o e : E} {f : String} (x : XS p C X) {po pe : Expr} {tpos pos : Pos} (h1 : PE X po (tE X.K X.mg (evE C o))) (h2 : PE X pe (tE X.K X.mg (evE C e))) :
    PS X (.AugAssign (.Attribute po (Str.ofString f) tpos) .Add pe pos) (tS X.K X.mg (evS C (.fag o f e))) := by
  refine PS.imp (ps_fldaug h1 h2 in_add) fun D σ H ⟨φ, ρ, S, q, S1, re, rs, he0, w⟩ => ?_
  obtain ⟨u, Sa, e1, e2⟩ := bind_ok (show ((evE C o ρ S).bind fun x S1 => (R.of (fldD C S1 x f) S1).bind fun v S2 => (evE C e ρ S2).bind fun y S3 => (R.of (iAddD v y) S3).bind fun z S4 => if (insOf S2 x).map (·.1) = (insOf S4 x).map (·.1) then (setF C ρ S4 z f x).bind fun ρ1 S5 => .ok (.nx, ρ1) S5 else .bad) = .ok q S1 from he0)
  obtain ⟨v, S2, e3, e4⟩ := bind_ok e2
  obtain ⟨e3, e5⟩ := of_ok e3
  subst e5
  obtain ⟨y, Sb, e6, e7⟩ := bind_ok e4
  obtain ⟨z, S4, e8, e9⟩ := bind_ok e7
  obtain ⟨e8b, e10⟩ := of_ok e8
  subst e10
  by_cases hc : (insOf S2 u).map (·.1) = (insOf S4 u).map (·.1)
  · rw [if_pos hc] at e9
    obtain ⟨ρ1, S6, e11, e12⟩ := bind_ok e9
    obtain ⟨hh, c, fs, I, rfl, g3, g4, hf, hl, rfl, rfl⟩ := setF_ok e11
    cases e12
    refine ⟨φ, ρ1, S, .ref hh, S2, re, rs, e1, fun φ1 H1 v1 x1 r1 q1 => ?_⟩
    obtain ⟨⟨c0, fs0⟩, k1, k2⟩ := Option.bind_eq_some_iff.mp (show ((insOf S2 (.ref hh)).bind fun q => (C.cls q.1).bind fun I => if I.flds.contains f then q.2.lookup f else none) = some v from e3)
    obtain ⟨I0, k3, k4⟩ := Option.bind_eq_some_iff.mp k2
    have g5 : insOf S4 (.ref hh) = some (c, fs) := by unfold insOf; simp only [g3]
    rw [k1, g5] at hc
    have hcc : c0 = c := Option.some.inj hc
    subst hcc
    have g4' : C.cls c0 = some I0 := k3
    rw [g4] at g4'
    cases g4'
    obtain ⟨h', a, A, dx, vs, g0, eh, qa, rfl, hH, t, k⟩ := ins_at x.toXC r1 q1 k1 g4
    cases g0
    rw [if_pos hf] at k4
    obtain ⟨w0, ev, rv⟩ := RVs.look t k4
    refine ⟨a, A, dx, _, w0, rfl, hH, k.s.cls, k.s.flds f hf, ev, ?_⟩
    refine ⟨φ1, ρ1, S2, y, S4, re.mono x1, r1, e6, fun φ2 H2 v2 x2 r2 q2 => ?_⟩
    have qa2 := x2.mo.pre hh a qa
    obtain ⟨h'', a', A', dx', vs', g0, eh', qa', ea, hH', t', k'⟩ := ins_at x.toXC r2 (rvref.mpr ⟨a, rfl, qa2⟩) g5 g4
    cases g0
    cases ea
    have hAA : A' = A := by
      have h1 := k.s.at_
      have h2 := k'.s.at_
      rw [h1] at h2
      cases h2
      rfl
    subst hAA
    have rv2 := RV.mono x2 _ _ rv
    cases v with
    | int i1 =>
      cases y with
      | int i2 =>
        obtain rfl : MI.D.int (i1 + i2) = z := Option.some.inj e8b
        rw [rvint] at rv2 q2
        subst rv2
        subst q2
        refine ⟨i1, i2, rfl, rfl, dx', _, hH', ?_, ?_⟩
        · have h5 := t'.length
          rw [List.length_zip]
          simp only [fnm, List.length_map] at h5 ⊢
          omega
        · have nt : ∀ us, ¬ Rd H2 a (.tup us) := by
            intro us z
            rcases z with z | ⟨o, z⟩ <;> rw [hH'] at z <;> cases z
          obtain ⟨vs2, ez, t2⟩ := RVs.putD (f := f) (d := .int (i1 + i2)) (v := .int (i1 + i2)) rv_int t'
          have xw : Ext φ2 S4 H2 φ2 (S4.set hh (.ins c0 (putD f (.int (i1 + i2)) fs))) (upd H2 a (.ins A' dx' (putF (Str.ofString f) (.int (i1 + i2)) ((fnm fs).zip vs')))) := Ext.write r2 g3 qa2 (by simp) nt
          have x12 := (x1.trans x2).trans xw
          refine w φ2 _ x12 (RS.write r2 g3 qa2 (by simp) nt ⟨A', dx', vs2, k'.s.at_, ?_, RVs.mono xw _ _ t2⟩) σ (re.mono x12)
          rw [upd_same, ez]
      | _ => cases e8b
    | _ => cases y <;> cases e8b
  · rw [if_neg hc] at e9; cases e9
theorem extD_ok {ρ : Env} {S S1 : Sto} {d u : MI.D} {q : Fl × Env} (e : extD ρ S d u = .ok q S1) : ∃ h l k, u = .ref h ∧ S[h]? = some (.lst l) ∧ listOf S d = some k ∧ l.length + k.length ≤ line ∧ q = (.nx, ρ) ∧ S1 = S.set h (.lst (l ++ k)) := by
  cases u with
  | ref h =>
    unfold extD at e
    cases e3 : S[h]? with
    | none => simp [e3] at e
    | some ob =>
      cases ob with
      | lst l =>
        simp only [e3] at e
        cases e4 : listOf S d with
        | none => simp [e4] at e
        | some k =>
          simp only [e4] at e
          by_cases hc : l.length + k.length ≤ line
          · rw [if_pos hc] at e
            cases e
            exact ⟨h, l, k, rfl, e3, rfl, hc, rfl, rfl⟩
          · rw [if_neg hc] at e; cases e
      | _ => simp [e3] at e
  | _ => cases e
open PyProof.V in
theorem ext_meets (la : Addr) (xs : Array Value) (m : Nat) (lb : Addr) (ys : Array Value) (m2 : Nat) (db : Option Addr) (sl : Array (Option Value)) (c0 : ¬(!xs.isEmpty && Builtin.List.listTooLong (xs.size + ys.size)) = true) (c1 : xs.size ≤ sizeLine) (c2 : xs.size + ys.size ≤ sizeLine + 1) :
    Meets (Builtin.«list.extend» ⟨[.ref la, .ref lb], []⟩) (fun _ R s => s.heap.get? la = some { cls := .type "list", data := .seq xs m } ∧ s.heap.get? lb = some { cls := .type "list", dict := db, data := .seq ys m2, slots := sl } ∧
      R (.ok (.ret Value.none)) { s with heap := s.heap.update la (Obj.mapSeq fun z => z ++ ys), toks := s.toks }) :=
  .of_wp fun prog w A R s h => by
    obtain ⟨hp, g, d, tk, os⟩ := s
    obtain ⟨h1, h2, h3⟩ := h
    have k1 := sub_list_list
    have hz' : (xs ++ ys).size ≤ sizeLine + 1 := by rw [Array.size_append]; exact c2
    wp_walk using (wpAny_updateSeq h1 rfl (hz := c1) (_hz' := hz')), wpAny_loadPart' h1, wpAny_loadPart' h2
    exact ⟨_, rfl, h3⟩
/-- list.extend by any list -/
def rExt2 (K : PySem.W.Frag) : V → List V → Hp → VK → Prop := fun x vs H Q => ∃ l b xs zs, x = .ref l ∧ vs = [.ref b] ∧ H l = some (.lst xs) ∧ SqL K H b zs ∧ xs.length + zs.length ≤ sizeLine ∧ Q .non (upd H l (.lst (xs ++ zs)))
theorem mt_ext2 : MtM X "list.extend" (rExt2 X.K) := by
  intro pins s σ H x vs v us Q I rx rv h
  obtain ⟨l, b, xs, zs, rfl, rfl, hH, hB, hz, q⟩ := h
  cases rx
  obtain ⟨u, rfl, ru⟩ := rv.one
  cases ru
  obtain ⟨z, its, n, r, hl, e⟩ := I.lstM hH
  obtain ⟨its2, r2, ⟨⟨cls, dd, data, sl⟩, n2, e2, hc, hdd, hd⟩, z2⟩ := I.list hB
  simp only at hc hd hdd
  subst hc hd
  have hl2 := r2.length
  have hl1 := r.length
  have hsz : its.toArray.size + its2.toArray.size ≤ sizeLine := by rw [List.size_toArray, List.size_toArray]; omega
  have hlong : ¬ (!its.toArray.isEmpty && Builtin.List.listTooLong (its.toArray.size + its2.toArray.size)) = true := by
    rw [notLongL hsz, Bool.and_false]
    exact Bool.false_ne_true
  refine call_meets PySem.F.slot_list_extend ⟨_, e, rfl⟩ PySem.F.entry_list_extend (PySem.F.args_list_extend_2 _ _)
    (ext_meets l its.toArray n b its2.toArray n2 dd sl hlong (by rw [List.size_toArray]; omega) (by omega)) ⟨e, e2, ?_⟩
  refine ⟨.non, _, I.lset (its' := its ++ its2) hH e (by simp) (r.append r2) ?_, rfl, q⟩
  rw [List.length_append]
  omega
theorem clr_ok {o : E} (x : XS p C X) {po : Expr} {apos cpos pos : Pos} (hl : (apos.endLine == cpos.line) = true) (ho : plainB po = true) (h1 : PE X po (tE X.K X.mg (evE C o))) :
    PS X (.Expr (.Call (.Attribute po ("clear" : Str) apos) [] [] cpos) pos) (tS X.K X.mg (evS C (.clr o))) := by
  refine PS.imp (ps_expr (pe_bm0 PySem.F.plainAttrs_list PySem.F.slot_list_clear PySem.F.type_list_clear mt_clear h1 (plainB_base ho) hl) rfl) fun D σ H ⟨φ, ρ, S, q, S1, re, rs, he0, w⟩ => ?_
  obtain ⟨u, S2, e1, e2⟩ := bind_ok (show ((evE C o ρ S).bind fun x S1 => clrD ρ S1 x) = .ok q S1 from he0)
  cases u with
  | ref h =>
    have e2 : (match S2[h]? with
      | some (.lst _) => R.ok (Fl.nx, ρ) (S2.set h (.lst []))
      | _ => .bad) = .ok q S1 := e2
    cases e3 : S2[h]? with
    | none => rw [e3] at e2; cases e2
    | some ob =>
      rw [e3] at e2
      cases ob with
      | lst l =>
        cases e2
        refine ⟨φ, ρ, S, .ref h, S2, re, rs, e1, fun φ1 H1 v1 x1 r1 q1 => ?_⟩
        obtain ⟨a, rfl, qa⟩ := rvref.mp q1
        obtain ⟨vs, hv, t⟩ := r1.obj _ _ _ e3 qa
        have nt : ∀ us, ¬ Rd H1 a (.tup us) := by
          intro us z
          rcases z with z | ⟨o, z⟩ <;> rw [hv] at z <;> cases z
        have xw : Ext φ1 S2 H1 φ1 (S2.set h (.lst [])) (upd H1 a (.lst [])) := Ext.write r1 e3 qa (by simp) nt
        obtain ⟨a0, vs0, hv0, hq0, _⟩ := list_at (l := l) r1 q1 (by show (match S2[h]? with | some (.lst l) => some l | _ => none) = _; rw [e3])
        have ea : a = a0 := by cases hv0; rfl
        subst ea
        exact ⟨.inl ⟨rfl, vs0, hq0⟩, a, vs, rfl, rfl, hv, w φ1 _ (x1.trans xw) (RS.write r1 e3 qa (by simp) nt ⟨[], upd_same, .nil⟩) σ (re.mono (x1.trans xw))⟩
      | _ => cases e2
  | _ => cases e2
theorem ext_ok {o e : E} (x : XS p C X) {po pe : Expr} {apos cpos pos : Pos} (hl : (apos.endLine == cpos.line) = true) (ho : plainB po = true) (he : plainE pe = true) (h1 : PE X po (tE X.K X.mg (evE C o))) (h2 : PE X pe (tE X.K X.mg (evE C e))) :
    PS X (.Expr (.Call (.Attribute po ("extend" : Str) apos) [pe] [] cpos) pos) (tS X.K X.mg (evS C (.ext o e))) := by
  have hs : starEach [pe] X.env = [(false, eval pe X.env)] := star_cons (plain_noStar he)
  refine PS.imp (ps_expr (pe_bm PySem.F.plainAttrs_list PySem.F.slot_list_extend PySem.F.type_list_extend mt_ext2 h1 (pa_cons h2 pa_nil hs) (plainB_base ho) (by rw [hs]; rfl) hl hs rfl)) fun D σ H ⟨φ, ρ, S, q, S1, re, rs, he0, w⟩ => ?_
  obtain ⟨u, S2, e1, e2⟩ := bind_ok (show ((evE C o ρ S).bind fun x S1 => if (listOf S1 x).isSome = true then (evE C e ρ S1).bind fun d S2 => extD ρ S2 d x else .bad) = .ok q S1 from he0)
  by_cases hc : (listOf S2 u).isSome = true
  · rw [if_pos hc] at e2
    obtain ⟨l0, hl0⟩ := Option.isSome_iff_exists.mp hc
    obtain ⟨d, S3, e3, e4⟩ := bind_ok e2
    obtain ⟨h, l, k, rfl, eh, ek, hz, rfl, rfl⟩ := extD_ok e4
    refine ⟨φ, ρ, S, .ref h, S2, re, rs, e1, fun φ1 H1 v1 x1 r1 q1 => ?_⟩
    obtain ⟨a0, vs0, hv0, hq0, _⟩ := list_at r1 q1 hl0
    obtain ⟨a, rfl, qa⟩ := rvref.mp q1
    have ea : a = a0 := by cases hv0; rfl
    subst ea
    refine ⟨.inl ⟨rfl, vs0, hq0⟩, ?_⟩
    refine ⟨φ1, ρ, S2, d, S3, re.mono x1, r1, e3, fun φ2 H2 v2 x2 r2 q2 => ?_⟩
    have qa2 := x2.mo.pre h a qa
    obtain ⟨vs, hv, t⟩ := r2.obj _ _ _ eh qa2
    obtain ⟨b, ws, rfl, hb, t2⟩ := list_at r2 q2 ek
    have nt : ∀ us, ¬ Rd H2 a (.tup us) := by
      intro us z
      rcases z with z | ⟨o, z⟩ <;> rw [hv] at z <;> cases z
    have xw : Ext φ2 S3 H2 φ2 (S3.set h (.lst (l ++ k))) (upd H2 a (.lst (vs ++ ws))) := Ext.write r2 eh qa2 (by simp) nt
    refine ⟨a, b, vs, ws, rfl, rfl, hv, hb, by rw [t.length, t2.length]; exact hz, ?_⟩
    have x12 := (x1.trans x2).trans xw
    exact w φ2 _ x12 (RS.write r2 eh qa2 (by simp) nt ⟨_, upd_same, RVs.mono xw _ _ (t.append t2)⟩) σ (re.mono x12)
  · rw [if_neg hc] at e2; cases e2
theorem aug_ok {o : Operator} {i : Nat} {e : E} (x : XS p C X) {y : Str} {pe : Expr} {pos pos' : Pos} (ho : o = .Add ∨ o = .Sub) (hi : X.N[i]? = some y) (hl : isLoc X.env.scope X.fn y = true) (h1 : PE X pe (tE X.K X.mg (evE C e))) :
    PS X (.AugAssign (.Name y pos') o pe pos) (tS X.K X.mg (evS C (.aug i o e))) := by
  obtain ⟨l1, l2⟩ := isLoc_ok hl
  have key : ∀ (f : Int → Int → Int), PIp X o (ipI f) → (∀ a b z, augD o (.int a) (.int b) = some z → z = .int (f a b)) → PS X (.AugAssign (.Name y pos') o pe pos) (tS X.K X.mg (evS C (.aug i o e))) := by
    intro f hp hf
    refine PS.imp (ps_aug x.nd hi l1 h1 hp l2) fun D σ H ⟨φ, ρ, S, q, S1, re, rs, he0, w⟩ => ?_
    have he : (match ρ[i]? with
      | some (some x) => (evE C e ρ S).bind fun y S1 => (R.of (augD o x y) S1).bind fun z S2 => R.ok (Fl.nx, ρ.set i (some z)) S2
      | _ => R.bad) = R.ok q S1 := he0
    cases e0 : ρ[i]? with
    | none => rw [e0] at he; cases he
    | some ob =>
      cases ob with
      | none => rw [e0] at he; cases he
      | some u =>
        rw [e0] at he
        obtain ⟨y, S2, e1, e2⟩ := bind_ok he
        obtain ⟨z, S3, e3, e4⟩ := bind_ok e2
        obtain ⟨e5, e6⟩ := of_ok e3
        subst e6
        cases e4
        obtain ⟨a, b, rfl, rfl, _⟩ := augD_ok e5
        have hz := hf a b z e5
        subst hz
        obtain ⟨v, ev, rv⟩ := re.at_ i _ e0
        rw [rvint] at rv
        subst rv
        refine ⟨.int a, ev, φ, ρ, S, .int b, S1, re, rs, e1, fun φ1 H1 v1 x1 r1 q1 => ?_⟩
        rw [rvint] at q1
        subst q1
        exact ⟨a, b, rfl, rfl, w φ1 H1 x1 r1 _ ((re.mono x1).set rv_int)⟩
  rcases ho with rfl | rfl
  · exact key _ ip_add fun a b z e => by cases e; rfl
  · exact key _ ip_sub fun a b z e => by cases e; rfl
/-- name = [.. for ..] on one line -/
theorem asgC_ok {i : Nat} {el : E} {t : T} {it : It} {c : E} {vs : List Nat} (x : XS p C X) {y : Str} {py pos spos : Pos} {elt : Expr} {gs : List Comprehension} {scope : Scope}
    (hi : X.N[i]? = some y) (hy : X.env.scope.names.lookup y = some .local) (hl : (py.line == pos.line) = true) (ho : noOwn scope y = true) (h : okL p X.N (.comp el t it c vs) X.env.scope X.fn (.ListComp elt gs scope pos) = true) :
    PS X (.Assign [.Name y py] (.ListComp elt gs scope pos) spos) (tAsg (tL X.K X.mg (evL C (.comp el t it c vs))) (gName i)) := by
  unfold okL at h
  split at h
  · rename_i elt' tg iter ifs scope' pos' heq
    cases heq
    obtain ⟨h, h9⟩ := band2 h
    obtain ⟨h, h8⟩ := band2 h
    obtain ⟨h, h7⟩ := band2 h
    obtain ⟨h, h6⟩ := band2 h
    obtain ⟨h, h5⟩ := band2 h
    obtain ⟨h, h4⟩ := band2 h
    obtain ⟨h2, h3⟩ := band2 h
    obtain ⟨h2, hh⟩ := band2 h2
    have hh : p.hot = false := by simpa using hh
    have hown : (ownOf X.N vs).map (·.2) = vs := by unfold ownOf; rw [List.map_map]; exact List.map_id'' (fun _ => rfl) vs
    have hsw : swapsWith (.ListComp elt [⟨tg, iter, ifs, 0⟩] scope pos) (some (.Name y py)) spos.line X.env = pure true := sw_true x.kind hy hl (by unfold noOwn at ho; simpa using ho)
    have key := ps_setLc (pos := pos) (spos := spos) (tt := tT X.K X.mg (evT C c)) (te := tE X.K X.mg (evE C el)) (g := tG X.K X.mg (tgS t) (asg C t)) (ifs := ifs) (elt := elt) (x.calm hh) x.nd hi hy hsw (soundIt it x.toXC tg iter h3 h5) (blkOk_by h6)
      (fun s H A cl fp => soundTg t (x.toXC.blk s H scope _ fp) tg h7)
      (fun s H A cl fp => by
        cases ifs with
        | nil =>
          have h9 : isTrueC c = true := h9
          have hc : c = .cB true := by
            cases c with
            | cB b => cases b with
              | true => rfl
              | false => cases h9
            | _ => cases h9
          subst hc
          exact PTs.imp pts_nil fun σ H Q ⟨φ, ρ, S, d, S1, re, rs, e, w⟩ => by cases e; exact w φ H Ext.refl rs
        | cons q r =>
          cases r with
          | nil => exact pts_one (soundT c (x.toXC.blk s H scope _ fp) q h9)
          | cons _ _ => cases h9)
      (fun s H A cl fp => soundE el (x.toXC.blk s H scope _ fp) elt h8) (plain_fold h2)
    rw [hown] at key
    refine PS.imp key fun D σ H hh => lc_read (fun i hi => ?_) hh
    have := List.all_eq_true.mp h4 i hi
    simpa using this
  · cases h
theorem asgC_read {f : Env → Sto → R MI.D} {fl : Env → Sto → R (List MI.D)} {i : Nat} (hf : ∀ {σ H Q}, tE X.K X.mg f σ H Q → tL X.K X.mg fl σ H Q)
    (h : tS X.K X.mg (fun ρ S => (f ρ S).bind fun d S1 => (asg C (.nm i) d ρ S1).bind fun ρ1 S2 => .ok (.nx, ρ1) S2) D σ H) : tAsg (tL X.K X.mg fl) (gName i) D σ H := by
  obtain ⟨φ, ρ, S, q, S1, re, rs, e, w⟩ := h
  obtain ⟨d, S2, e1, e2⟩ := bind_ok e
  obtain ⟨ρ1, S3, e3, e4⟩ := bind_ok e2
  cases e4
  have e' : (if i < ρ.length then R.ok (ρ.set i (some d)) S2 else .bad) = .ok ρ1 S1 := e3
  by_cases hc : i < ρ.length
  · rw [if_pos hc] at e'
    cases e'
    exact hf ⟨φ, ρ, S, d, S1, re, rs, e1, fun φ' H' v x r q => w φ' H' x r _ ((re.mono x).set q)⟩
  · rw [if_neg hc] at e'; cases e'

/-! ### exceptions -/
theorem PS.or {s : Stmt} {t u : TS} (h1 : PS X s t) (h2 : PS X s u) : PS X s (fun D σ H => t D σ H ∨ u D σ H) := ⟨fun pins s σ H D I h => h.elim (h1.run pins s σ H D I) (h2.run pins s σ H D I)⟩
/-- an expression that raises -/
def tXE (K : PySem.W.Frag) (mg : Str → Option Value) (W : WX) (g : Env → Sto → Option (String × Sto)) : TE := fun σ H _ => ∃ φ ρ S c S1, RE K φ S H ρ σ ∧ RS K mg φ S H ∧ g ρ S = some (c, S1) ∧ ∀ φ' H', Ext φ S H φ' S1 H' → RS K mg φ' S1 H' → ∀ A : Addr, mg (Str.ofString c) = some (.ref A) → W (.ref A) none σ H'
/-- a statement that raises -/
def tX (K : PySem.W.Frag) (mg : Str → Option Value) (W : WX) (g : Env → Sto → Option (String × Sto)) : TS := fun _ σ H => ∃ φ ρ S c S1, RE K φ S H ρ σ ∧ RS K mg φ S H ∧ g ρ S = some (c, S1) ∧ ∀ φ' H', Ext φ S H φ' S1 H' → RS K mg φ' S1 H' → ∀ A : Addr, mg (Str.ofString c) = some (.ref A) → ∀ σ', W (.ref A) none σ' H'
theorem tX_E {W : WX} {g : Env → Sto → Option (String × Sto)} {Q : VK} (h : tX K mg W g D σ H) : tXE K mg W g σ H Q := by
  obtain ⟨φ, ρ, S, c, S1, re, rs, e, w⟩ := h
  exact ⟨φ, ρ, S, c, S1, re, rs, e, fun φ' H' x r A m => w φ' H' x r A m σ⟩
theorem pe_noX {e : Expr} {W : WX} {g : Env → Sto → Option (String × Sto)} (h : ∀ ρ S, g ρ S = none) : PE X e (tXE X.K X.mg W g) := ⟨fun pins s σ H Q I ⟨φ, ρ, S, c, S1, re, rs, e, w⟩ => by rw [h] at e; cases e⟩
theorem ps_noX {s : Stmt} {W : WX} {g : Env → Sto → Option (String × Sto)} (h : ∀ ρ S, g ρ S = none) : PS X s (tX X.K X.mg W g) := ⟨fun pins s σ H Q I ⟨φ, ρ, S, c, S1, re, rs, e, w⟩ => by rw [h] at e; cases e⟩
theorem soundXE (x : XC p C X) {W : WX} (tk : L2.Takes X W) : ∀ (e : E) (pe : Expr), okE p X.N e X.env.scope X.fn pe = true → PE X pe (tXE X.K X.mg W (xE C e))
  | .fc f (.cons a r), pe, h => by
    unfold okE at h
    cases pe <;> first | cases h | skip
    rename_i fe l kws pos
    cases fe <;> first | cases h | skip
    rename_i y q
    cases kws <;> first | cases h | skip
    obtain ⟨h1, h2⟩ := band2 h
    obtain ⟨h1, h3⟩ := band2 h1
    obtain ⟨h1, h4⟩ := band2 h1
    obtain ⟨h1, h5⟩ := band2 h1
    have hz := dec_eq h1
    subst hz
    cases l with
    | nil => unfold okEs at h2; cases h2
    | cons e es =>
      have ha := soundEs (.cons a r) x _ h2
      have hp := okEs_plain h2
      obtain ⟨ga, hm, fd, ps, k, n, hk, ⟨hb, _, hlen, F⟩, hr, _⟩ := x.fns f (mem_of_contains h3)
      have hr := hr.mono (Nat.le_succ k)
      rw [List.all_cons, Bool.and_eq_true] at hp
      refine PE.imp (pe_callS (E := WE W) F hr (isGl_ok h5) hm hk hb (fun σ => passAt tk σ) ha (nameOk_iff h4).1 (star_cons hp.1) (plain_star hp.2)) fun σ H Q ⟨φ, ρ, S, c, S1, re, rs, e, w⟩ => ?_
      unfold xE at e
      dsimp only at e
      cases e1 : evEs C (.cons a r) ρ S with
      | ok l S2 =>
        rw [e1] at e
        exact ⟨φ, ρ, S, l, S2, re, rs, e1, fun φ' H' vs xx r t => ⟨φ', S2, l, c, S1, r, t, hlen _ _ _ e, e, fun φ2 H2 x2 r2 A m => w φ2 H2 (xx.trans x2) r2 A m⟩⟩
      | exc _ _ => rw [e1] at e; cases e
      | bad => rw [e1] at e; cases e
  | .mk c (.cons a r), pe, h => by
    unfold okE at h
    split at h
    · rename_i y q l cpos
      obtain ⟨h, h5⟩ := band2 h
      obtain ⟨h, h4⟩ := band2 h
      obtain ⟨h, h3⟩ := band2 h
      obtain ⟨h1, h2⟩ := band2 h
      have hz := dec_eq h1
      subst hz
      cases l with
      | nil => unfold okEs at h5; cases h5
      | cons e es =>
        have ha := soundEs (.cons a r) x _ h5
        have hp := okEs_plain h5
        cases hI : C.cls c with
        | none => exact pe_noX fun ρ S => by unfold xE mkX initOf; dsimp only; rw [hI]; cases evEs C (.cons a r) ρ S <;> rfl
        | some Ic =>
          cases hf : Ic.mths.lookup "__init__" with
          | none =>
            have : initOf C c = none := by unfold initOf; rw [hI]; exact hf
            exact pe_noX fun ρ S => by unfold xE mkX; dsimp only; rw [this]; cases evEs C (.cons a r) ρ S <;> rfl
          | some f =>
            have hi : initOf C c = some f := by unfold initOf; rw [hI]; exact hf
            obtain ⟨A, k⟩ := x.clss c Ic hI
            obtain ⟨ga, M, fd, ps, kk, n, hkp, ⟨hbd, _, hlen, F⟩, hr, _⟩ := k.mths _ f hf
            obtain ⟨m1, m2⟩ := k.s.mks h4
            have mk : Mk X.K A ga := ⟨m1, M.at_, M.fn, m2⟩
            rw [List.all_cons, Bool.and_eq_true] at hp
            refine PE.imp (pe_makeS (E := WE W) mk F hr (isGl_ok h2) k.s.at_ hbd (fun σ => passAt tk σ) ha (nameOk_iff h3).1 (star_cons hp.1) (plain_star hp.2)) fun σ H Q ⟨φ, ρ, S, cc, S1, re, rs, e, w⟩ => ?_
            unfold xE at e
            dsimp only at e
            cases e1 : evEs C (.cons a r) ρ S with
            | ok l S2 =>
              rw [e1] at e
              dsimp only at e
              unfold mkX at e
              rw [hi] at e
              dsimp only at e
              refine ⟨φ, ρ, S, l, S2, re, rs, e1, fun φ1 H1 vs x1 r1 t => fun a' dx ha' hdx hne => ?_⟩
              have ra := r1.new (o := .own a') hdx
              have ha2 : upd H1 dx (.own a') a' = none := by rw [upd_ne (Ne.symm hne)]; exact ha'
              have xs : Ext φ1 S2 (upd H1 dx (.own a')) ⟨φ1.hs ++ [a'], φ1.bs⟩ (S2 ++ [.ins c []]) (upd (upd H1 dx (.own a')) a' (.ins A dx [])) := Ext.snoc ra ha2
              have xx := (Ext.new r1 hdx).trans xs
              have rn : RS X.K X.mg ⟨φ1.hs ++ [a'], φ1.bs⟩ (S2 ++ [.ins c []]) (upd (upd H1 dx (.own a')) a' (.ins A dx [])) := RS.snoc ra ha2 ⟨A, dx, [], k.s.at_, upd_same, .nil⟩
              have hh : (φ1.hs ++ [a'])[S2.length]? = some a' := by rw [← r1.len]; exact get_snoc_r
              exact ⟨_, _, .ref S2.length :: l, cc, S1, rn, .cons (rvref.mpr ⟨a', rfl, hh⟩) (RVs.mono xx _ _ t), hlen _ _ _ e, e, fun φ2 H2 x2 r2 A2 m2 => w φ2 H2 ((x1.trans xx).trans x2) r2 A2 m2⟩
            | exc _ _ => rw [e1] at e; cases e
            | bad => rw [e1] at e; cases e
    · cases h
  | .fc f .nil, pe, h | .mk c .nil, pe, h | .cI _, pe, h | .cB _, pe, h | .cN, pe, h | .cS _, pe, h | .v _, pe, h | .g _, pe, h | .bt _, pe, h | .bin _ _ _, pe, h | .neg _, pe, h | .inv _, pe, h | .cmp _ _ _, pe, h | .chn _ _ _ _ _, pe, h | .band _, pe, h | .bor _, pe, h | .not _, pe, h | .ite _ _ _, pe, h | .tup _, pe, h | .ktup _, pe, h | .dnew, pe, h | .lset _, pe, h | .frz _, pe, h | .box _, pe, h | .mv _, pe, h | .idx _ _, pe, h | .slc _ _ _, pe, h | .mkk _ _ _ _ _, pe, h | .mtd _ _ _ _, pe, h | .bi _ _, pe, h | .kget _ _ _, pe, h | .wget _ _ _, pe, h | .kin _ _ _, pe, h | .kix _ _, pe, h | .lam, pe, h | .lix _ _, pe, h | .wix _ _, pe, h | .flc _ _ _ _, pe, h | .act _ _, pe, h | .nev, pe, h | .fld _ _, pe, h | .mth _ _ _, pe, h | .isi _ _, pe, h | .xis _ _, pe, h | .hfc _ _, pe, h | .sm _ _ _, pe, h | .pop _ _, pe, h => pe_noX fun _ _ => rfl

/-- the suite's context -/
theorem XS.sui (x : XS p C X) (a : Addr) (pn : List (Addr × Obj)) : XS p.hotP (hotC C) (MI.sui X a pn) :=
  ⟨⟨(fun z => absurd (show true = false from z) Bool.noConfusion), x.nd, x.hu, (fun f hf => absurd (show f ∈ ([] : List String) from hf) (List.not_mem_nil)), (fun c I e => absurd (show (none : Option ClsI) = some I from e) (fun z => by cases z)), x.bts, (fun y hy => absurd (show y ∈ ([] : List String) from hy) (List.not_mem_nil)),
    (fun c l e => let ⟨A, F⟩ := x.xcs c l e; ⟨A, ⟨F.at_, F.exc, F.new, F.kp, F.sb, F.ty, F.isc⟩⟩), x.xis, (fun f hf => let ⟨a', fd, ps, k, n, h1, h2, h3, h4, h5, h6⟩ := x.hfns f hf; ⟨a', fd, ps, k, n, h1, h2, h3, ⟨h4.dp, h4.un⟩, h5, h6⟩), (fun z => absurd (show false = true from z) Bool.noConfusion), (fun z => absurd (show true = false from z) Bool.noConfusion), (fun z => absurd (show false = true from z) Bool.noConfusion), (fun z => absurd (show false = true from z) Bool.noConfusion), x.glos⟩,
    (fun z => absurd (show true = false from z) Bool.noConfusion), x.kind, x.stk, x.frm, x.exn⟩
/-- .. of a try's body -/
theorem XC.tr (x : XC p C X) (pn : List (Addr × Obj)) (xe : Value → Shared → Prop) : XC p C (X.tr pn xe) :=
  ⟨x.calm, x.nd, x.hu, x.fns, fun c I e => let ⟨A, k⟩ := x.clss c I e; ⟨A, ⟨k.s, k.mths⟩⟩, x.bts, x.tabs, x.xcs, x.xis, x.hfns, x.lam, x.act, x.clb, x.flc, x.glos⟩
theorem offE_ok {i : Nat} {z : R (Fl × Env)} {q : Fl × Env} {S1 : Sto} (h : offE i z = .ok q S1) : ∃ q', z = .ok q' S1 ∧ ((q'.1 = .nx ∧ q = (.nx, q'.2.set i none)) ∨ ∃ d, q'.1 = .rt d ∧ q = (.rt d, q'.2.set i none)) := by
  unfold offE at h
  obtain ⟨q', S2, e1, e2⟩ := bind_ok h
  obtain ⟨fl, ρ⟩ := q'
  cases fl with
  | nx => cases e2; exact ⟨_, e1, .inl ⟨rfl, rfl⟩⟩
  | rt d => cases e2; exact ⟨_, e1, .inr ⟨d, rfl, rfl⟩⟩
  | bk => cases e2
  | ct => cases e2
theorem RE.off {φ : Lo} {S : Sto} {ρ : Env} {i : Nat} (r : RE K φ S H ρ σ) : RE K φ S H (ρ.set i none) (σ.set i none) := by
  refine ⟨by simp [r.len], fun j d e => ?_⟩
  by_cases ij : i = j
  · subst ij
    by_cases hl : i < ρ.length
    · rw [List.getElem?_set_self hl] at e; cases e
    · rw [List.getElem?_eq_none (by simpa using hl)] at e; cases e
  · rw [List.getElem?_set_ne ij] at e
    obtain ⟨v, e1, q⟩ := r.at_ j d e
    exact ⟨v, by rw [List.getElem?_set_ne ij]; exact e1, q⟩
theorem tri_ok {e : E} {cn : String} {i : Nat} {suite : Ss} (x : XS p C X) {pe : Expr} {n : Str} {b0 : Stmt} {sl : List Stmt} {epos np pos' pos : Pos} (hg : isGl X.env.scope (Str.ofString cn) = true) (hn : nameOk (Str.ofString cn) = true) (hc : cn ∈ p.xis) (hi : X.N[i]? = some n) (hln : X.env.scope.names.lookup n = some .local) (hno : noLc pe = true)
    (he : okE p X.N e X.env.scope X.fn pe = true) (hsu : ∀ (a : Addr) (pn : List (Addr × Obj)), PSs (MI.sui X a pn) (b0 :: sl) (tS X.K X.mg (evSs (hotC C) suite))) :
    PS X (.Try [.Expr pe epos] [.ExceptHandler (some (.Name (Str.ofString cn) np)) (some n) (b0 :: sl) pos'] [] [] pos) (tS X.K X.mg (evS C (.tri e cn i suite))) := by
  obtain ⟨v, cv, hv, hnm⟩ := x.xis cn hc
  obtain ⟨n1, n2, n3⟩ := nameOk_iff hn
  have hNames : Names X (Str.ofString cn) cv := ⟨isGl_ok hg, n1, hnm.elim .inl fun q => .inr ⟨q.1, q.2, n3⟩⟩
  refine PS.imp (ps_try_hold (tb := fun W D σ H => tDrop (tE X.K X.mg (evE C e)) D σ H ∨ tDrop (tXE X.K X.mg W (xE C e)) D σ H) (ts := tS X.K X.mg (evSs (hotC C) suite)) (i := i) x.stk x.frm x.exn x.nd hi hln hNames (fun W pn xe tk _ => ?_) hsu) fun D σ H h => ?_
  · have x' := x.toXC.tr pn xe
    refine PSs.imp (pss_cons (PS.or (ps_expr (soundE e x' pe he) (sw_noLc hno)) (ps_expr (soundXE x' tk e pe he) (sw_noLc hno))) pss_nil) fun D σ H h => ?_
    exact h
  · obtain ⟨φ, ρ, S, q, S1, re, rs, ee, w⟩ := h
    unfold evS at ee
    have key : (∃ c S2 l, xE C e ρ S = some (c, S2) ∧ C.xcl c = some l ∧ l.contains cn = true ∧ offE i (evSs (hotC C) suite (ρ.set i (some (.ref S2.length))) (S2 ++ [.exn c])) = .ok q S1) ∨ ∃ d, evE C e ρ S = .ok d S1 ∧ q = (.nx, ρ) := by
      cases e1 : evE C e ρ S with
      | ok d S2 => rw [e1] at ee; cases ee; exact .inr ⟨d, rfl, rfl⟩
      | exc _ _ =>
        rw [e1] at ee
        dsimp only at ee
        cases e2 : xE C e ρ S with
        | none => rw [e2] at ee; cases ee
        | some z =>
          obtain ⟨c, S2⟩ := z
          rw [e2] at ee
          dsimp only at ee
          cases e3 : C.xcl c with
          | none => rw [e3] at ee; cases ee
          | some l =>
            rw [e3] at ee
            dsimp only at ee
            by_cases hl : l.contains cn = true
            · rw [if_pos hl] at ee; exact .inl ⟨c, S2, l, rfl, e3, hl, ee⟩
            · rw [if_neg hl] at ee; cases ee
      | bad =>
        rw [e1] at ee
        dsimp only at ee
        cases e2 : xE C e ρ S with
        | none => rw [e2] at ee; cases ee
        | some z =>
          obtain ⟨c, S2⟩ := z
          rw [e2] at ee
          dsimp only at ee
          cases e3 : C.xcl c with
          | none => rw [e3] at ee; cases ee
          | some l =>
            rw [e3] at ee
            dsimp only at ee
            by_cases hl : l.contains cn = true
            · rw [if_pos hl] at ee; exact .inl ⟨c, S2, l, rfl, e3, hl, ee⟩
            · rw [if_neg hl] at ee; cases ee
    rcases key with ⟨c, S2, l, e2, e3, hl, e4⟩ | ⟨d, e1, rfl⟩
    · refine .inr ⟨φ, ρ, S, c, S2, re, rs, e2, fun φ1 H1 x1 r1 A m => ?_⟩
      obtain ⟨A', F⟩ := x.xcs c l e3
      have hA : A' = A := by have z := F.at_; rw [m] at z; cases z; rfl
      subst hA
      obtain ⟨cv', n', _, ex⟩ := F.isc cn hc
      have ec : cv' = cv := n'.eq hnm
      subst ec
      rw [hl] at ex
      refine ⟨A', rfl, rfl, ex, fun a ha => ?_⟩
      obtain ⟨q', e5, hq⟩ := offE_ok e4
      have xs : Ext φ1 S2 H1 ⟨φ1.hs ++ [a], φ1.bs⟩ (S2 ++ [.exn c]) (upd H1 a (exT a A')) := Ext.snoc r1 ha
      have rn : RS X.K X.mg ⟨φ1.hs ++ [a], φ1.bs⟩ (S2 ++ [.exn c]) (upd H1 a (exT a A')) := RS.snoc r1 ha ⟨A', m, upd_same⟩
      have hh : (φ1.hs ++ [a])[S2.length]? = some a := by rw [← r1.len]; exact get_snoc_r
      refine ⟨_, _, _, q', S1, ((re.mono x1).mono xs).set (rvref.mpr ⟨a, rfl, hh⟩), rn, e5, fun φ2 H2 x2 r2 => ?_⟩
      have wt := w φ2 H2 ((x1.trans xs).trans x2) r2
      rcases hq with ⟨hq1, rfl⟩ | ⟨d, hq1, rfl⟩
      · rw [hq1]
        intro σ' re'
        have wt : ∀ σ, RE X.K φ2 S1 H2 (q'.2.set i none) σ → D.nx σ H2 := wt
        exact wt _ (RE.off re')
      · rw [hq1]
        have wt : ∀ v, RV X.K φ2 S1 H2 d v → D.rt v H2 := wt
        exact wt
    · refine .inl ⟨φ, ρ, S, d, S1, re, rs, e1, fun φ1 H1 v1 x1 r1 q1 => ?_⟩
      have wt : ∀ σ, RE X.K φ1 S1 H1 ρ σ → D.nx σ H1 := w φ1 H1 x1 r1
      exact wt _ (re.mono x1)
theorem rse_ok {c : String} (x : XC p C X) {W : WX} (tk : L2.Takes X W) {m : Str} {j : Nat} {q q2 cpos pos : Pos} (hh : p.hot = false) (hg : isGl X.env.scope (Str.ofString c) = true) (hn : nameOk (Str.ofString c) = true) :
    PS X (.Raise (some (.Call (.Name (Str.ofString c) q) [.Constant (.str m) j q2] [] cpos)) none pos) (tX X.K X.mg W (xS C (.rse c))) := by
  cases hx : C.xcl c with
  | none => exact ps_noX fun ρ S => by unfold xS; rw [hx]
  | some l =>
    obtain ⟨A, F⟩ := x.xcs c l hx
    refine PS.imp (ps_raise (x.calm hh) tk (pmk_own PySem.F.excBase_ValueError F.new F.at_ F.kp (raises_own F.sb F.ty) (isGl_ok hg) (nameOk_iff hn).1)) fun D σ H ⟨φ, ρ, S, c', S1, re, rs, e, w⟩ => ?_
    unfold xS at e
    rw [hx] at e
    cases e
    exact w φ H Ext.refl rs A F.at_ σ
mutual
theorem soundS {p : Par} {C : Ctx} : ∀ (st : MI.S) {X : Cx} (x : XS p C X) (ps : Stmt), okS p X.N st X.env.scope X.fn ps = true → PS X ps (tS X.K X.mg (evS C st))
  | .ex e, X, x, ps, h => by
    unfold okS at h
    split at h
    · rename_i pe pos
      obtain ⟨h1, h2⟩ := band2 h
      exact PS.imp (ps_expr (soundE e x.toXC pe h2) (sw_noLc h1)) fun D σ H q => tDrop_read q
    · cases h
  | .app o e, X, x, ps, h => by
    unfold okS at h
    split at h
    · rename_i po a apos pe cpos pos
      obtain ⟨h, h6⟩ := band2 h
      obtain ⟨h, h5⟩ := band2 h
      obtain ⟨h, h4⟩ := band2 h
      obtain ⟨h, h3⟩ := band2 h
      obtain ⟨h1, h2⟩ := band2 h
      have hz := dec_eq h1
      subst hz
      exact app_ok x h2 h3 h4 (soundE o x.toXC po h5) (soundE e x.toXC pe h6)
    · cases h
  | .ext o e, X, x, ps, h => by
    unfold okS at h
    split at h
    · rename_i po a apos pe cpos pos
      obtain ⟨h, h6⟩ := band2 h
      obtain ⟨h, h5⟩ := band2 h
      obtain ⟨h, h4⟩ := band2 h
      obtain ⟨h, h3⟩ := band2 h
      obtain ⟨h1, h2⟩ := band2 h
      have hz := dec_eq h1
      subst hz
      exact ext_ok x h2 h3 h4 (soundE o x.toXC po h5) (soundE e x.toXC pe h6)
    · cases h
  | .clr o, X, x, ps, h => by
    unfold okS at h
    split at h
    · rename_i po a apos cpos pos
      obtain ⟨h, h4⟩ := band2 h
      obtain ⟨h, h3⟩ := band2 h
      obtain ⟨h1, h2⟩ := band2 h
      have hz := dec_eq h1
      subst hz
      exact clr_ok x h2 h3 (soundE o x.toXC po h4)
    · cases h
  | .fag o f e, X, x, ps, h => by
    unfold okS at h
    split at h
    · rename_i po a tp op pe pos
      obtain ⟨h, h4⟩ := band2 h
      obtain ⟨h, h3⟩ := band2 h
      obtain ⟨h1, h2⟩ := band2 h
      have hz := of_decide_eq_true h1
      subst hz
      have hz2 := of_decide_eq_true h2
      subst hz2
      exact fag_ok x (soundE o x.toXC po h3) (soundE e x.toXC pe h4)
    · cases h
  | .asg t e, X, x, ps, h => by
    unfold okS at h
    split at h
    · rename_i tg pe pos
      rcases Bool.or_eq_true_iff.mp h with h | h
      · unfold okAsg at h
        obtain ⟨h, h5⟩ := band2 h
        obtain ⟨h, h4⟩ := band2 h
        obtain ⟨h, h3⟩ := band2 h
        obtain ⟨h1, h2⟩ := band2 h
        exact PS.imp (ps_asg (soundE e x.toXC pe h5) (soundTg t x.toXC tg h4) (sw_any h2) (sw_none h3) (asgEach_cons (plain_noStar h1))) fun D σ H q => tAsg_read q
      · cases t with
        | nm i =>
          cases tg <;> first | (cases h; done) | skip
          cases pe <;> first | (cases h; done) | skip
          rename_i y py elt gs scope pos' hor
          have h : (decide (X.N[i]? = some y) && X.env.scope.names.lookup y == some NameKind.local && isComp e && (py.line == pos'.line) && noOwn scope y && okE p X.N e X.env.scope X.fn (.ListComp elt gs scope pos')) = true := h
          obtain ⟨h, h6⟩ := band2 h
          obtain ⟨h, h5⟩ := band2 h
          obtain ⟨h, h4⟩ := band2 h
          obtain ⟨h, h3⟩ := band2 h
          obtain ⟨h1, h2⟩ := band2 h
          cases e with
          | frz l =>
            cases l with
            | comp el t it c vs => exact PS.imp (asgC_ok x (dec_eq h1) (by simpa using h2) h4 h5 h6) fun D σ H q => asgC_read (fun z => frz_of z) q
            | _ => cases h3
          | box l =>
            cases l with
            | comp el t it c vs => exact PS.imp (asgC_ok x (dec_eq h1) (by simpa using h2) h4 h5 h6) fun D σ H q => asgC_read (fun z => box_of z) q
            | _ => cases h3
          | _ => cases h3
        | _ => cases h
    · cases h
  | .aug i o e, X, x, ps, h => by
    unfold okS at h
    split at h
    · rename_i y pos' o' pe pos
      obtain ⟨h, h5⟩ := band2 h
      obtain ⟨h, h4⟩ := band2 h
      obtain ⟨h, h3⟩ := band2 h
      obtain ⟨h1, h2⟩ := band2 h
      have hz := dec_eq h1
      subst hz
      exact aug_ok x ((Bool.or_eq_true_iff.mp h2).elim (fun q => .inl (dec_eq q)) fun q => .inr (dec_eq q)) (dec_eq h3) h4 (soundE e x.toXC pe h5)
    · cases h
  | .ret e, X, x, ps, h => by
    unfold okS at h
    split at h
    · exact PS.imp (ps_ret (soundE e x.toXC _ h)) fun D σ H q => tRet_read q
    · cases h
  | .retN, X, x, ps, h => by
    unfold okS at h
    split at h
    · exact PS.imp ps_retN fun D σ H ⟨φ, ρ, S, q, S1, re, rs, e, w⟩ => by cases e; exact w φ H Ext.refl rs _ rv_non
    · cases h
  | .ite c a b, X, x, ps, h => by
    unfold okS at h
    split at h
    · obtain ⟨h, h3⟩ := band2 h
      obtain ⟨h1, h2⟩ := band2 h
      exact PS.imp (ps_if (soundT c x.toXC _ h1) (soundSs a x _ h2) (soundSs b x _ h3)) fun D σ H q => tIfS_read q
    · cases h
  | .for_ t it body, X, x, ps, h => by
    unfold okS at h
    split at h
    · obtain ⟨h, h5⟩ := band2 h
      obtain ⟨h, h4⟩ := band2 h
      obtain ⟨h, h3⟩ := band2 h
      obtain ⟨h1, h2⟩ := band2 h
      obtain ⟨h1, hh⟩ := band2 h1
      have hh : p.hot = false := by simpa using hh
      exact PS.imp (ps_for (x.own hh) (x.calm hh) (soundIt it x.toXC _ _ h2 h4) (soundTg t x.toXC _ h3) (soundSs body x _ h5) (plain_fold h1)) fun D σ H q => tFor_read q
    · cases h
  | .whl c body, X, x, ps, h => by
    unfold okS at h
    split at h
    · obtain ⟨h1, h2⟩ := band2 h
      obtain ⟨h1, hh⟩ := band2 h1
      have hh : p.hot = false := by simpa using hh
      exact PS.imp (ps_while (x.own hh) (soundT c x.toXC _ h1) (soundSs body x _ h2)) fun D σ H q => tWhile_read q
    · cases h
  | .pass, X, x, ps, h => by
    unfold okS at h
    split at h
    · exact PS.imp ps_pass fun D σ H ⟨φ, ρ, S, q, S1, re, rs, e, w⟩ => by cases e; exact w φ H Ext.refl rs σ re
    · exact PS.imp ps_doc fun D σ H ⟨φ, ρ, S, q, S1, re, rs, e, w⟩ => by cases e; exact w φ H Ext.refl rs σ re
    · cases h
  | .brk, X, x, ps, h => by
    unfold okS at h
    split at h
    · exact PS.imp ps_break fun D σ H ⟨φ, ρ, S, q, S1, re, rs, e, w⟩ => by cases e; exact w φ H Ext.refl rs σ re
    · cases h
  | .cnt, X, x, ps, h => by
    unfold okS at h
    split at h
    · exact PS.imp ps_continue fun D σ H ⟨φ, ρ, S, q, S1, re, rs, e, w⟩ => by cases e; exact w φ H Ext.refl rs σ re
    · cases h
  | .never, X, x, ps, h => PS.imp ps_never fun D σ H ⟨φ, ρ, S, q, S1, re, rs, e, w⟩ => by cases e
  | .rse c, X, x, ps, h => PS.imp ps_never fun D σ H ⟨φ, ρ, S, q, S1, re, rs, e, w⟩ => by cases e
  | .tri e cn i suite, X, x, ps, h => by
    unfold okS at h
    split at h
    · rename_i pe epos y np n b0 sl pos' pos
      obtain ⟨h, h10⟩ := band2 h
      obtain ⟨h, h9⟩ := band2 h
      obtain ⟨h, h8⟩ := band2 h
      obtain ⟨h, h7⟩ := band2 h
      obtain ⟨h, h6⟩ := band2 h
      obtain ⟨h, h5⟩ := band2 h
      obtain ⟨h, h4⟩ := band2 h
      obtain ⟨h, h3⟩ := band2 h
      obtain ⟨h1, h2⟩ := band2 h
      have hz := dec_eq h1
      subst hz
      exact tri_ok x h2 h3 (mem_of_contains h4) (dec_eq h5) (by simpa using h6) h8 h9 fun a pn => soundSs suite (x.sui a pn) (b0 :: sl) h10
    · cases h
theorem soundSs {p : Par} {C : Ctx} : ∀ (ss : Ss) {X : Cx} (x : XS p C X) (l : List Stmt), okSs p X.N ss X.env.scope X.fn l = true → PSs X l (tS X.K X.mg (evSs C ss))
  | .nil, X, x, l, h => by
    cases l with
    | cons _ _ => unfold okSs at h; cases h
    | nil => exact PSs.imp pss_nil fun D σ H ⟨φ, ρ, S, q, S1, re, rs, e, w⟩ => by cases e; exact w φ H Ext.refl rs σ re
  | .cons s r, X, x, l, h => by
    cases l with
    | nil => unfold okSs at h; cases h
    | cons y l =>
      unfold okSs at h
      obtain ⟨h1, h2⟩ := band2 h
      exact PSs.imp (pss_cons (soundS s x _ h1) (soundSs r x _ h2)) fun D σ H q => tSeq_read q
end
mutual
theorem soundX {p : Par} {C : Ctx} {X : Cx} (x : XS p C X) {W : WX} (tk : L2.Takes X W) : ∀ (st : MI.S) (ps : Stmt), okS p X.N st X.env.scope X.fn ps = true → PS X ps (tX X.K X.mg W (xS C st))
  | .ex e, ps, h => by
    unfold okS at h
    split at h
    · obtain ⟨h1, h2⟩ := band2 h
      exact PS.imp (ps_expr (soundXE x.toXC tk e _ h2) (sw_noLc h1)) fun D σ H q => tX_E q
    · cases h
  | .ret e, ps, h => by
    unfold okS at h
    split at h
    · exact PS.imp (ps_ret (soundXE x.toXC tk e _ h)) fun D σ H q => tX_E q
    · cases h
  | .ite c a b, ps, h => by
    unfold okS at h
    split at h
    · obtain ⟨h, h3⟩ := band2 h
      obtain ⟨h1, h2⟩ := band2 h
      refine PS.imp (ps_if (soundT c x.toXC _ h1) (soundXs x tk a _ h2) (soundXs x tk b _ h3)) fun D σ H ⟨φ, ρ, S, cc, S1, re, rs, e, w⟩ => ?_
      unfold xS at e
      cases e1 : evT C c ρ S with
      | ok k S2 =>
        rw [e1] at e
        dsimp only at e
        refine ⟨φ, ρ, S, k, S2, re, rs, e1, fun φ1 H1 x1 r1 => ?_⟩
        cases k with
        | true =>
          rw [if_pos rfl] at e
          exact ⟨φ1, ρ, S2, cc, S1, re.mono x1, r1, e, fun φ2 H2 x2 r2 A m => w φ2 H2 (x1.trans x2) r2 A m⟩
        | false =>
          rw [if_neg (by simp)] at e
          exact ⟨φ1, ρ, S2, cc, S1, re.mono x1, r1, e, fun φ2 H2 x2 r2 A m => w φ2 H2 (x1.trans x2) r2 A m⟩
      | exc _ _ => rw [e1] at e; cases e
      | bad => rw [e1] at e; cases e
    · cases h
  | .rse c, ps, h => by
    unfold okS at h
    split at h
    · obtain ⟨h, h4⟩ := band2 h
      obtain ⟨h, h3⟩ := band2 h
      obtain ⟨h1, h2⟩ := band2 h
      have hz := dec_eq h1
      subst hz
      exact rse_ok x.toXC tk (by simpa using h4) h2 h3
    · cases h
  | .app _ _, ps, h | .ext _ _, ps, h | .clr _, ps, h | .fag _ _ _, ps, h | .asg _ _, ps, h | .aug _ _ _, ps, h | .retN, ps, h | .for_ _ _ _, ps, h | .whl _ _, ps, h | .pass, ps, h | .brk, ps, h | .cnt, ps, h | .never, ps, h | .tri _ _ _ _, ps, h => ps_noX fun _ _ => rfl
theorem soundXs {p : Par} {C : Ctx} {X : Cx} (x : XS p C X) {W : WX} (tk : L2.Takes X W) : ∀ (ss : Ss) (l : List Stmt), okSs p X.N ss X.env.scope X.fn l = true → PSs X l (tX X.K X.mg W (xSs C ss))
  | .nil, l, h => ⟨fun pins s σ H Q I ⟨φ, ρ, S, c, S1, re, rs, e, w⟩ => by cases e⟩
  | .cons s r, l, h => by
    cases l with
    | nil => unfold okSs at h; cases h
    | cons y l =>
      unfold okSs at h
      obtain ⟨h1, h2⟩ := band2 h
      refine PSs.imp (pss_cons (PS.or (soundX x tk s _ h1) (soundS s x _ h1)) (soundXs x tk r _ h2)) fun D σ H ⟨φ, ρ, S, c, S1, re, rs, e, w⟩ => ?_
      unfold xSs at e
      cases e1 : xS C s ρ S with
      | some z =>
        rw [e1] at e
        cases e
        exact .inl ⟨φ, ρ, S, c, S1, re, rs, e1, w⟩
      | none =>
        rw [e1] at e
        dsimp only at e
        cases e2 : evS C s ρ S with
        | ok q S2 =>
          obtain ⟨fl, ρ1⟩ := q
          rw [e2] at e
          cases fl with
          | nx => exact .inr ⟨φ, ρ, S, (.nx, ρ1), S2, re, rs, e2, fun φ1 H1 x1 r1 σ' re' => ⟨φ1, ρ1, S2, c, S1, re', r1, e, fun φ2 H2 x2 r2 A m => w φ2 H2 (x1.trans x2) r2 A m⟩⟩
          | _ => cases e
        | exc _ _ => rw [e2] at e; cases e
        | bad => rw [e2] at e; cases e
end
end
end MI

set_option maxHeartbeats 1000000
/-! MIm: calls; the module; a law's end. -/
namespace MI
open PySem PySem.Spec PyProof.Rows L2
variable [Tabs] [Cels]
section
variable {K : PySem.W.Frag} {mg : Str → Option Value} {φ φ' φ2 : Lo} {S S1 S2 : Sto} {H H' : Hp}
theorem start_re {N : List Str} {ns : Nat} {ds : List MI.D} {vs : List V} (hN : N.length = ns) (t : RVs K φ S H ds vs) : RE K φ S H (startE ns ds) (L2.start N vs) := by
  have hl := t.length
  refine ⟨by unfold L2.start startE; simp [hl, hN], fun i d e => ?_⟩
  unfold startE at e
  unfold L2.start
  by_cases hi : i < ds.length
  · rw [List.getElem?_append_left (by simpa using hi), List.getElem?_map] at e
    rw [List.getElem?_append_left (by simp [hl, hi]), List.getElem?_map]
    cases e2 : ds[i]? with
    | none => rw [e2] at e; cases e
    | some d' =>
      rw [e2] at e
      cases e
      obtain ⟨v, e3, r⟩ := t.get e2
      exact ⟨v, by rw [e3]; rfl, r⟩
  · rw [List.getElem?_append_right (by simpa using hi), List.getElem?_replicate] at e
    split at e <;> cases e
mutual
theorem rv_below {n : Nat} (hn : φ.hs.length = n) : ∀ (d : MI.D) (v : V), RV K φ S H d v → below n d = true
  | .ref h, v, r => by
    obtain ⟨a, _, e⟩ := rvref.mp r
    unfold below
    exact decide_eq_true (by rw [← hn]; exact (List.getElem?_eq_some_iff.mp e).1)
  | .tup l, v, r => by
    obtain ⟨a, vs, _, _, t⟩ := rvtup.mp r
    unfold below
    exact rvs_below hn l vs t
  | .lst l, v, r => by
    obtain ⟨a, vs, _, _, t⟩ := rvlst.mp r
    unfold below
    exact rvs_below hn l vs t
  | .non, _, _ | .bl _, _, _ | .int _, _, _ | .str _, _, _ | .ty _, _, _ | .key _, _, _ => rfl
theorem rvs_below {n : Nat} (hn : φ.hs.length = n) : ∀ (l : List MI.D) (vs : List V), RVs K φ S H l vs → belows n l = true
  | [], _, _ => rfl
  | d :: r, vs, t => by
    obtain ⟨v, vr, _, q, t'⟩ := t.inv_cons
    unfold belows
    rw [rv_below hn d v q, rvs_below hn r vr t']; rfl
end
/-- the handles above a mark are forgotten -/
def cut (φ : Lo) (n : Nat) : Lo := ⟨φ.hs.take n, φ.bs⟩
theorem cut_at {n h : Nat} {a : Addr} (e : (cut φ n).hs[h]? = some a) : φ.hs[h]? = some a ∧ h < n := by
  have e : (φ.hs.take n)[h]? = some a := e
  rw [List.getElem?_take] at e
  split at e
  · exact ⟨e, by assumption⟩
  · cases e
theorem cut_nl {n : Nat} {a : Addr} (h : NL φ S a) : NL (cut φ n) (S.take n) a := by
  refine ⟨h.1, fun i o e1 e2 => ?_⟩
  obtain ⟨e1, hi⟩ := cut_at e1
  rw [List.getElem?_take_of_lt hi] at e2
  exact h.2 i o e1 e2
mutual
theorem rv_cut {n : Nat} : ∀ (d : MI.D) (v : V), below n d = true → RV K φ S H d v → RV K (cut φ n) (S.take n) H d v
  | .ref h, v, b, r => by
    obtain ⟨a, e1, e⟩ := rvref.mp r
    unfold below at b
    refine rvref.mpr ⟨a, e1, ?_⟩
    show (φ.hs.take n)[h]? = some a
    rw [List.getElem?_take_of_lt (of_decide_eq_true b)]; exact e
  | .tup l, v, b, r => by
    obtain ⟨a, vs, e1, q, t⟩ := rvtup.mp r
    unfold below at b
    exact rvtup.mpr ⟨a, vs, e1, q, rvs_cut l vs b t⟩
  | .lst l, v, b, r => by
    obtain ⟨a, vs, e1, q, t⟩ := rvlst.mp r
    unfold below at b
    exact rvlst.mpr ⟨a, vs, e1, q.elim (fun z => .inl ⟨z.1, cut_nl z.2⟩) .inr, rvs_cut l vs b t⟩
  | .non, _, _, r => rvnon.mpr (rvnon.mp r)
  | .bl _, _, _, r => rvbl.mpr (rvbl.mp r)
  | .int _, _, _, r => rvint.mpr (rvint.mp r)
  | .str _, _, _, r => rvstr.mpr (rvstr.mp r)
  | .ty _, _, _, r => rvty.mpr (rvty.mp r)
  | .key _, _, _, r => by unfold RV at *; exact r
theorem rvs_cut {n : Nat} : ∀ (l : List MI.D) (vs : List V), belows n l = true → RVs K φ S H l vs → RVs K (cut φ n) (S.take n) H l vs
  | [], vs, _, t => by rw [t.inv_nil]; exact .nil
  | d :: r, vs, b, t => by
    obtain ⟨v, vr, rfl, q, t'⟩ := t.inv_cons
    unfold belows at b
    obtain ⟨b1, b2⟩ := band2 b
    exact .cons (rv_cut d v b1 q) (rvs_cut r vr b2 t')
end
theorem of_belows {n : Nat} : ∀ {fs : List (String × MI.D)}, belows n (fs.map (·.2)) = true → (fs.all fun q => below n q.2) = true
  | [], _ => rfl
  | f :: fs, h => by
    have h : (below n f.2 && belows n (fs.map (·.2))) = true := h
    obtain ⟨q1, q2⟩ := band2 h
    rw [List.all_cons, q1, of_belows q2]; rfl
theorem of_belowsK {n : Nat} : ∀ {fs : List (List (Int ⊕ Str) × MI.D)}, belows n (fs.map (·.2)) = true → (fs.all fun q => below n q.2) = true
  | [], _ => rfl
  | f :: fs, h => by
    have h : (below n f.2 && belows n (fs.map (·.2))) = true := h
    obtain ⟨q1, q2⟩ := band2 h
    rw [List.all_cons, q1, of_belowsK q2]; rfl
theorem belows_ofK {n : Nat} : ∀ {fs : List (List (Int ⊕ Str) × MI.D)}, (fs.all fun q => below n q.2) = true → belows n (fs.map (·.2)) = true
  | [], _ => rfl
  | f :: fs, h => by
    rw [List.all_cons, Bool.and_eq_true] at h
    show (below n f.2 && belows n (fs.map (·.2))) = true
    rw [h.1, belows_ofK h.2]; rfl
theorem ro_below {n : Nat} {o : O} {a : Addr} (hn : φ.hs.length = n) (h : RO K mg φ S H o a) : belowO n o = true := by
  cases o with
  | lst l =>
    obtain ⟨vs, _, t⟩ := h
    exact rvs_below hn l vs t
  | exn _ => rfl
  | clo _ l =>
    obtain ⟨q, _, _, _, _, t⟩ := h
    exact rvs_below hn l _ t
  | dct kvs =>
    obtain ⟨ws, _, t⟩ := h
    exact of_belowsK (rvs_below hn _ _ t)
  | dead => rfl
  | ins c fs =>
    obtain ⟨C, dx, vs, _, _, t⟩ := h
    have q := rvs_below hn _ _ t
    exact of_belows q
theorem belows_of {n : Nat} : ∀ {fs : List (String × MI.D)}, (fs.all fun q => below n q.2) = true → belows n (fs.map (·.2)) = true
  | [], _ => rfl
  | f :: fs, h => by
    rw [List.all_cons, Bool.and_eq_true] at h
    show (below n f.2 && belows n (fs.map (·.2))) = true
    rw [h.1, belows_of h.2]; rfl
theorem ro_cut {n : Nat} {o : O} {a : Addr} (b : belowO n o = true) (h : RO K mg φ S H o a) : RO K mg (cut φ n) (S.take n) H o a := by
  cases o with
  | lst l =>
    obtain ⟨vs, e, t⟩ := h
    exact ⟨vs, e, rvs_cut l vs b t⟩
  | exn c => exact h
  | clo id l =>
    obtain ⟨q, h1, h2, h3, h4, t⟩ := h
    exact ⟨q, h1, h2, h3, h4, rvs_cut l _ b t⟩
  | dct kvs =>
    obtain ⟨ws, e1, t⟩ := h
    exact ⟨ws, e1, rvs_cut _ ws (belows_ofK b) t⟩
  | dead => trivial
  | ins c fs =>
    obtain ⟨C, dx, vs, e1, e2, t⟩ := h
    exact ⟨C, dx, vs, e1, e2, rvs_cut _ vs (belows_of b) t⟩
/-- what a call hands back -/
theorem done_read {p : Bool} {d d1 : MI.D} {v : V} {Q : VK} (rs : RS K mg φ S H) (e : done p S d S2 = .ok d1 S1) (w : Wt K mg φ S H d1 S1 Q) (x : Ext φ S H φ' S2 H') (r : RS K mg φ' S2 H') (q : RV K φ' S2 H' d v) : Q v H' := by
  cases p with
  | false => cases e; exact w φ' H' v x r q
  | true =>
    have e : (if (below S.length d && (beqS (S2.take S.length) S || (S2.take S.length).all (belowO S.length))) = true then R.ok d (S2.take S.length) else .bad) = .ok d1 S1 := e
    by_cases hc : (below S.length d && (beqS (S2.take S.length) S || (S2.take S.length).all (belowO S.length))) = true
    · rw [if_pos hc] at e
      cases e
      obtain ⟨h1, h2⟩ := band2 hc
      have hall : ∀ o ∈ S2.take S.length, belowO S.length o = true := by
        rcases Bool.or_eq_true_iff.mp h2 with h2 | h2
        · rw [beqS_eq _ _ h2]
          intro o ho
          obtain ⟨i, hi⟩ := List.mem_iff_getElem?.mp ho
          obtain ⟨a, _, ro⟩ := rs.at hi
          exact ro_below rs.len ro
        · exact List.all_eq_true.mp h2
      have hle : S.length ≤ S2.length := by
        rw [← rs.len, ← r.len]
        cases hz : φ.hs.length with
        | zero => exact Nat.zero_le _
        | succ m =>
          obtain ⟨a, ea⟩ : ∃ a, φ.hs[m]? = some a := ⟨φ.hs[m]'(by omega), List.getElem?_eq_getElem _⟩
          exact (List.getElem?_eq_some_iff.mp (x.mo.pre m a ea)).1
      refine w (cut φ' S.length) H' v ⟨⟨x.mo.tp, fun h a e => ?_, x.mo.tup, fun a vs q n => ?_⟩, x.bs, x.kb⟩ ⟨?_, ?_, ?_, r.btrk, ?_, ?_, r.tb.sub (fun a m => List.mem_of_mem_take m) fun a m => m⟩ (rv_cut d v h1 q)
      · have hh : h < S.length := by rw [← rs.len]; exact (List.getElem?_eq_some_iff.mp e).1
        show (φ'.hs.take S.length)[h]? = some a
        rw [List.getElem?_take_of_lt hh]
        exact x.mo.pre h a e
      · obtain ⟨q1, n1⟩ := x.mo.lst a vs q n
        exact ⟨q1, cut_nl n1⟩
      · show (φ'.hs.take S.length).length = (S2.take S.length).length
        rw [List.length_take, List.length_take, r.len]
      · exact r.nd.sublist (List.take_sublist _ _)
      · exact fun a ha => r.trk a (List.mem_of_mem_take ha)
      · exact fun b hb ha => r.ap b hb (List.mem_of_mem_take ha)
      · intro h o a e1 e2
        obtain ⟨e2, hh⟩ := cut_at e2
        have hm := hall o (List.mem_of_getElem? e1)
        rw [List.getElem?_take_of_lt hh] at e1
        exact ro_cut hm (r.obj h o a e1 e2)
    · rw [if_neg hc] at e; cases e
end

/-! ### calls with keywords -/
theorem fm_rel {α β γ : Type} {P : List β → List γ → Prop} {R : β → γ → Prop} (nil : P [] []) (cons : ∀ x y l k, R x y → P l k → P (x :: l) (y :: k)) {f : α → Option β} {g : α → Option γ} (h : ∀ i, (f i = none ∧ g i = none) ∨ ∃ x y, f i = some x ∧ g i = some y ∧ R x y) : ∀ l : List α, P (l.filterMap f) (l.filterMap g)
  | [] => nil
  | a :: l => by
    rcases h a with ⟨h1, h2⟩ | ⟨x, y, h1, h2, r⟩
    · rw [List.filterMap_cons_none h1, List.filterMap_cons_none h2]; exact fm_rel nil cons h l
    · rw [List.filterMap_cons_some h1, List.filterMap_cons_some h2]; exact cons x y _ _ r (fm_rel nil cons h l)
theorem paired_at {α β : Type} {R : α → β → Prop} : ∀ {l : List α} {k : List β} (_ : Paired R l k) (i : Nat), (l[i]? = none ∧ k[i]? = none) ∨ ∃ x y, l[i]? = some x ∧ k[i]? = some y ∧ R x y
  | _, _, .nil, i => .inl ⟨by simp, by simp⟩
  | _, _, .cons r _, 0 => .inr ⟨_, _, rfl, rfl, r⟩
  | _, _, .cons _ t, i + 1 => by simpa using paired_at t i
theorem rvs_at {K : PySem.W.Frag} {φ : Lo} {S : Sto} {H : Hp} : ∀ {l : List MI.D} {vs : List V} (_ : RVs K φ S H l vs) (i : Nat), (l[i]? = none ∧ vs[i]? = none) ∨ ∃ x y, l[i]? = some x ∧ vs[i]? = some y ∧ RV K φ S H x y
  | [], vs, h, i => by rw [h.inv_nil]; exact .inl ⟨by simp, by simp⟩
  | d :: l, vs, h, 0 => by
    obtain ⟨v, vr, rfl, q, t⟩ := h.inv_cons
    exact .inr ⟨d, v, rfl, rfl, q⟩
  | d :: l, vs, h, i + 1 => by
    obtain ⟨v, vr, rfl, q, t⟩ := h.inv_cons
    simpa using rvs_at t i
theorem arr_rel {pn : List String} {nd n : Nat} {ks : List String} {vs ds zs : List V} {us its ws : List Value} (r1 : Vals vs us) (r2 : Vals ds its) (r3 : Vals zs ws) : Vals (arrG pn nd n ks vs ds zs) (arrG pn nd n ks us its ws) := by
  unfold arrG
  refine fm_rel (P := Vals) (R := L2.RelV) .nil (fun x y l k r t => .cons r t) (fun i => ?_) _
  by_cases hi : i < n
  · simp only [hi, if_true]; exact paired_at r1 i
  · simp only [hi, if_false]
    cases ks.idxOf? (pn.getD i "") with
    | none => exact paired_at r2 _
    | some j => exact paired_at r3 j
theorem arr_rvs {K : PySem.W.Frag} {φ : Lo} {S : Sto} {H : Hp} {pn : List String} {nd n : Nat} {ks : List String} {l dv z : List MI.D} {vs ds zs : List V} (r1 : RVs K φ S H l vs) (r2 : RVs K φ S H dv ds) (r3 : RVs K φ S H z zs) : RVs K φ S H (arrG pn nd n ks l dv z) (arrG pn nd n ks vs ds zs) := by
  unfold arrG
  refine fm_rel (P := RVs K φ S H) (R := RV K φ S H) .nil (fun x y l k r t => .cons r t) (fun i => ?_) _
  by_cases hi : i < n
  · simp only [hi, if_true]; exact rvs_at r1 i
  · simp only [hi, if_false]
    cases ks.idxOf? (pn.getD i "") with
    | none => exact rvs_at r2 _
    | some j => exact rvs_at r3 j
theorem shp_of {P : Prog} {K : PySem.W.Frag} {x qual : Str} {params : Arguments} {body : List Stmt} {scope : Scope} {dvs : List V} {kws : List (Str × V)} {a : Addr} {fd : FuncData} {ps : List Str} {f : String} {Fd : Fn} (n : Nat) (ks : List String) (F : FunD K x qual params body scope dvs kws a fd) (hf : P.fns f = some Fd) (hd : dvs ≠ [])
    (hdv : ∀ φ S H, RVs K φ S H Fd.dv dvs)
    (h : ∀ (T : Addr) (kV doc pm : Value) (an : Option Addr) (cdv ct : Value) (us its ws : List Value), us.length = n → its.length = dvs.length → ws.length = (ks.map Str.ofString).length →
      ∃ k, bindArgs (PySem.W.fnOf x qual params body scope (.ref T) kV doc pm an cdv ct) ⟨us, (ks.map Str.ofString).zip ws⟩ = seqItems? (.ref T) >>= k ∧ k (some its.toArray) = pure (ps.zip (arrG Fd.pn Fd.dv.length n ks us its ws))) : Shp K (arrP P) fd ps f n ks := by
  obtain ⟨its, kb⟩ := F.kbindsD (ps := ps) n (ks.map Str.ofString) (fun {α} us its ws => arrG Fd.pn Fd.dv.length n ks us its ws) hd (fun r1 r2 r3 => arr_rel r1 r2 r3) h
  refine ⟨_, _, kb, fun l z ds e hl hz φ S H vs zs r1 r2 => ?_⟩
  unfold arrP at e
  rw [hf] at e
  have e : (if z.length = ks.length then some (arrG Fd.pn Fd.dv.length l.length ks l Fd.dv z) else none) = some ds := e
  rw [if_pos hz, hl] at e
  cases e
  exact arr_rvs r1 (hdv φ S H) r2

theorem shs_by {Q : Nat → List String → Prop} {f : String} {k : List (Nat × List String)} {l : List (String × Nat × List String)} (h : (l.filter fun q => q.1 == f).map (·.2) = k) (hk : ∀ q ∈ k, Q q.1 q.2) : ∀ q ∈ l, q.1 = f → Q q.2.1 q.2.2 := fun q hq e => by
  refine hk q.2 ?_
  rw [← h]
  exact List.mem_map.mpr ⟨q, List.mem_filter.mpr ⟨hq, by simpa using e⟩, rfl⟩

/-! ### the module -/
/-- a def of the text, told -/
theorem binds_of {K : PySem.W.Frag} {fd : FuncData} {ps : List Str} (h : ∀ (s : Shared) (us : List Value), us.length = ps.length → BindsTo s fd ⟨us, []⟩ (ps.zip us)) : Binds K fd ps [] := fun s us _ hl => by
  rw [List.append_nil] at hl ⊢
  exact h s us hl
/-- the def f at a is the text's -/
structure DA (P : Prog) (K : PySem.W.Frag) (p : Par) (f : String) (a : Addr) : Prop where
  ex : ∃ (F : Fn) (fd : FuncData) (x qual : Str) (N ps : List Str) (params : Arguments) (body : List Stmt) (scope : Scope) (dvs : List V) (kws : List (Str × V)), P.fns f = some F ∧ FunD K x qual params body scope dvs kws a fd ∧ FnScope N ps scope ∧
    ps.length = F.np ∧ N.length = F.ns ∧ okSs (p.at f) N F.body scope (fun _ => true) body = true ∧ ps = F.pn.map Str.ofString ∧ (Binds K fd ps [] ∧ ∀ q ∈ p.shs, q.1 = f → Shp K (arrP P) fd ps f q.2.1 q.2.2) ∧ (f = "law" → ∀ (s : Shared) (us : List Value), us.length = ps.length → BindsTo s fd ⟨us, []⟩ (ps.zip us))
  lam : p.lfs.contains f = true → ∀ (x qual : Str) (params : Arguments) (body : List Stmt) (scope : Scope) (dvs : List V) (kws : List (Str × V)) (fd : FuncData), FunD K x qual params body scope dvs kws a fd → ∃ c T : Addr, fd.code = .ref c ∧ (c, T) ∈ Tabs.cs ∧ (T, (qual ++ ".<locals>.") ++ "<lambda>") ∈ Tabs.ts ∧ ∀ t ∈ Tabs.ts, t.1 = T → t.2 = (qual ++ ".<locals>.") ++ "<lambda>"
/-- .. the module's f -/
def DI (P : Prog) (K : PySem.W.Frag) (mg : Str → Option Value) (p : Par) (f : String) : Prop := ∃ a, mg (Str.ofString f) = some (.ref a) ∧ DA P K p f a
structure DC (P : Prog) (K : PySem.W.Frag) (mg : Str → Option Value) (p : Par) (c : String) (I : ClsI) (A : Addr) : Prop where
  s : ClsS K mg p c I A
  mths : ∀ m f, I.mths.lookup m = some f → ∃ a, Meth K A (Str.ofString m) a ∧ DA P K p f a
/-- a def that may be called where an exception is handled -/
def HD (P : Prog) (K : PySem.W.Frag) (mg : Str → Option Value) (p : Par) (f : String) : Prop := ∃ (a : Addr) (F : Fn) (fd : FuncData) (x qual : Str) (N ps : List Str) (params : Arguments) (body : List Stmt) (scope : Scope) (dvs : List V) (kws : List (Str × V)), mg (Str.ofString f) = some (.ref a) ∧ P.fns f = some F ∧ FunD K x qual params body scope dvs kws a fd ∧ FnScope N ps scope ∧
    ps.length = F.np ∧ N.length = F.ns ∧ okSs p.leafP N F.body scope (fun _ => true) body = true ∧ Binds K fd ps []
/-- a lambda's words, checked -/
def LamS (P : Prog) (p : Par) (id : String) (fr : List Str) (params : Arguments) (body : Expr) (scope : Scope) : Prop := ∃ (F : Fn) (N ps : List Str) (eb : E), P.fns id = some F ∧ F.body = .cons (.ret eb) .nil ∧ NdefX.NScope N ps fr scope ∧ F.np = ps.length + fr.length ∧ N.length = F.ns ∧ okE p.noLo N eb scope (fun _ => false) body = true ∧
  ∀ (q : Str) (cl : List (Str × Addr)) (pm cv ctv : Value) (us : List Value), us.length = ps.length → bindArgs (PySem.W.kla_fn "<lambda>" q params body scope cl pm cv ctv) ⟨us, []⟩ = pure (ps.zip us)
structure Mods (P : Prog) (K : PySem.W.Frag) (w : World) (mg : Str → Option Value) (p : Par) : Prop where
  fns : ∀ f ∈ p.fns, DI P K mg p f
  clss : ∀ c I, P.cls c = some I → ∃ A, DC P K mg p c I A
  bts : ∀ b ∈ p.bts, mg (Str.ofString b) = none
  tabs : ∀ x ∈ p.tabs, TabOk K w mg P.glo x
  glos : ∀ x ∈ p.glos, ∃ d u v, P.glo x = some d ∧ mg (Str.ofString x) = some u ∧ L2.RelV v u ∧ ∀ φ S H, RV K φ S H d v
  xcs : ∀ c l, P.xcl c = some l → ∃ A, XcOk K mg p c l A
  xis : ∀ c ∈ p.xis, ∃ v cv, CV v cv ∧ Nm mg (Str.ofString c) cv
  hfns : ∀ f ∈ p.hfns, HD P K mg p f
  lam0 : p.lam = false
  los : ∀ id fr params body scope, p.lo id fr params body scope = true → LamS P p id fr params body scope
theorem call_len {P : Prog} {k : Nat} {f : String} {F : Fn} {ds : List MI.D} {S S1 : Sto} {d : MI.D} (hF : P.fns f = some F) (e : call P k f ds S = .ok d S1) : ds.length = F.np := by
  cases k with
  | zero => cases e
  | succ k =>
    rw [call_succ, hF] at e
    have e : (if ds.length = F.np then _ else R.bad) = R.ok d S1 := e
    by_cases hc : ds.length = F.np
    · exact hc
    · rw [if_neg hc] at e; cases e
theorem callX_len {P : Prog} {k : Nat} {f : String} {F : Fn} {ds : List MI.D} {S : Sto} {z : String × Sto} (hF : P.fns f = some F) (e : callX P k f ds S = some z) : ds.length = F.np := by
  cases k with
  | zero => cases e
  | succ k =>
    rw [callX_succ, hF] at e
    have e : (if ds.length = F.np then _ else none) = some z := e
    by_cases hc : ds.length = F.np
    · exact hc
    · rw [if_neg hc] at e; cases e
/-- what a caller wants of the def f at a -/
def Cal (prog : Program) (w : World) (P : Prog) (K : PySem.W.Frag) (mg : Str → Option Value) (p : Par) (base : Heap) (k : Nat) (f : String) (a : Addr) : Prop := ∃ (fd : FuncData) (ps : List Str) (n : Nat),
  PySem.W.keepIn K (.ref a) = true ∧ (Binds K fd ps [] ∧ (∀ q ∈ p.shs, q.1 = f → Shp K (arrP P) fd ps f q.2.1 q.2.2) ∧ (∀ ds S z, (ctx P k).fx f ds S = some z → ds.length = n) ∧ FnOk prog w K mg base (L2.CX prog w) (2 * k) a fd ps (spX (ctx P k) K mg n f)) ∧
  (∀ ds S d S1, (ctx P k).fn f ds S = .ok d S1 → ds.length = n) ∧ FnOk prog w K mg base CX0 (2 * k) a fd ps (spC (ctx P k) K mg n f)
/-- .. of a lambda that is handed on -/
def CloC (prog : Program) (w : World) (P : Prog) (K : PySem.W.Frag) (mg : Str → Option Value) (base : Heap) (k : Nat) (q : Clo) : Prop := ∀ (A : Around) (outer : List PySem.Env) (s : Shared) (H : Hp) (us : List Value) (vs : List V) (Q : VK), Room (2 * k) A → Env0 prog w K mg base A outer s H → Vals vs us → spA (ctx P k) K mg q vs H Q E0 →
  codeAny (model prog w) A (.call (.ref q.f) ⟨us, []⟩) (CR CX0 outer prog w H s Q E0) s
def leafC (P : Prog) : Ctx := ⟨fun _ => none, P.glo, fun _ _ _ => .bad, fun _ _ _ _ => none, fun _ _ _ => none, P.xcl, fun _ _ _ => .bad⟩
theorem hot_ok {prog : Program} {w : World} {P : Prog} {K : PySem.W.Frag} {mg : Str → Option Value} {p : Par} (m : Mods P K w mg p) (base : Heap) {F : Fn} {a : Addr} {fd : FuncData} {x qual : Str} {params : Arguments} {body : List Stmt} {scope : Scope} {dvs : List V} {kws : List (Str × V)}
    (k : Nat) (f : String) (N ps : List Str) (hF : P.fns f = some F) (FD : FunD K x qual params body scope dvs kws a fd) (sc : FnScope N ps scope) (hps : ps.length = F.np) (hN : N.length = F.ns) (hok : okSs p.leafP N F.body scope (fun _ => true) body = true) :
      FnW prog w K mg base 1 a fd ps (spH (ctx P k) K mg F.np f) := by
  have hlen : ∀ vs H Q E, spH (ctx P k) K mg F.np f vs H Q E → vs.length = ps.length := by
    rintro vs H Q E ⟨φ, S, ds, d, S1, rs, t, hl, _, _⟩
    rw [t.length, hl, hps]
  obtain ⟨oc, od, dV, kV, doc, pm, an, cdv, ct, osl, rfl, lk, hcd, _, _⟩ := FD.ex
  refine fn_ofW lk hcd sc hlen fun A outer s H vs Q E hr ⟨φ, S, ds, d, S1, rs, t, hl, e, wt⟩ => ?_
  refine ⟨tS K mg (evSs (leafC P) F.body), soundSs (X := cxW prog w K mg base N qual scope a cdv A outer s H E) (p := p.leafP) (C := leafC P) F.body ⟨⟨(fun z => absurd (show true = false from z) Bool.noConfusion), sc.nd, (by have := hr.un; show (A.deeper _).units + 64 < cLine; omega), (fun f hf => absurd (show f ∈ ([] : List String) from hf) (List.not_mem_nil)), (fun c I e => absurd (show (none : Option ClsI) = some I from e) (fun z => by cases z)), m.bts, (fun y hy => absurd (show y ∈ ([] : List String) from hy) (List.not_mem_nil)),
    (fun c l e => let ⟨A, G⟩ := m.xcs c l e; ⟨A, ⟨G.at_, G.exc, G.new, G.kp, G.sb, G.ty, G.isc⟩⟩), m.xis, (fun f hf => absurd (show f ∈ ([] : List String) from hf) (List.not_mem_nil)), (fun z => absurd (show false = true from z) Bool.noConfusion), (fun z => absurd (show true = false from z) Bool.noConfusion), (fun z => absurd (show false = true from z) Bool.noConfusion), (fun z => absurd (show false = true from z) Bool.noConfusion), m.glos⟩, (fun z => absurd (show true = false from z) Bool.noConfusion), sc.kind, rfl, rfl, rfl⟩ body hok, ?_⟩
  have e : callH P f ds S = .ok d S1 := e
  unfold callH at e
  rw [hF] at e
  have e : (if ds.length = F.np then (evSs (leafC P) F.body (startE F.ns ds) S).bind fun q S1 => match endOf q with
    | some d => done F.pure S d S1
    | none => .bad
    else .bad) = .ok d S1 := e
  rw [if_pos hl] at e
  obtain ⟨⟨fl, ρ1⟩, S2, e1, e2⟩ := bind_ok e
  refine ⟨φ, _, S, (fl, ρ1), S2, start_re hN t, rs, e1, fun φ' H' x r => ?_⟩
  cases fl with
  | nx => exact fun σ re => done_read rs (show done F.pure S .non S2 = .ok d S1 from e2) wt x r rv_non
  | rt d' => exact fun v q => done_read rs (show done F.pure S d' S2 = .ok d S1 from e2) wt x r q
  | bk => cases e2
  | ct => cases e2
theorem xs_of {prog : Program} {w : World} {P : Prog} {K : PySem.W.Frag} {mg : Str → Option Value} {p : Par} (m : Mods P K w mg p) (base : Heap) {CX : CXT} {a : Addr} {qual : Str} {scope : Scope} {k : Nat} {N ps : List Str} {cdv : Value} {A : Around} {outer : List PySem.Env} {s : Shared} {H : Hp} {E : XK} (sc : FnScope N ps scope)
    (hr : Room (2 * k + 1) (A.deeper (envOfC qual scope s.heap.objs.size a cdv))) (hcal : ∀ g b, DA P K p g b → Cal prog w P K mg p base k g b) (hclo : ∀ q ∈ Cels.cs, CloC prog w P K mg base k q) : XS p (ctx P k) (cxOf CX prog w K mg base N qual scope a cdv A outer s H E) := by
  have hfa : ∀ g b, DA P K p g b → FnA p (ctx P k) (cxOf CX prog w K mg base N qual scope a cdv A outer s H E) g b := fun g b hg => by
    obtain ⟨fd', ps', n, g2, g3, g4, g5⟩ := hcal g b hg
    exact ⟨fd', ps', 2 * k, n, g2, g3, hr, g4, g5⟩
  refine ⟨⟨fun _ => rfl, sc.nd, hr.units, fun g hg => ?_, fun c I hc => ?_, m.bts, m.tabs, m.xcs, m.xis, fun f hf => ?_, (fun z => absurd (m.lam0.symm.trans z) Bool.noConfusion), (fun _ q hq => ⟨2 * k, hr, hclo q hq⟩), (fun z => absurd (m.lam0.symm.trans z) Bool.noConfusion), (fun z => absurd (m.lam0.symm.trans z) Bool.noConfusion), m.glos⟩, fun _ => passes_of rfl, sc.kind, rfl, rfl, rfl⟩
  · obtain ⟨b, g1, g2⟩ := m.fns g hg
    exact ⟨b, g1, hfa g b g2⟩
  · obtain ⟨A, c⟩ := m.clss c I hc
    exact ⟨A, c.s, fun mm ff e => let ⟨b, h1, h2⟩ := c.mths mm ff e; ⟨b, h1, hfa ff b h2⟩⟩
  · obtain ⟨b, F, fd, x, qual', N', ps', params, body, scope', dvs, kws, h1, h2, h3, h4, h5, h6, h7, h8⟩ := m.hfns f hf
    refine ⟨b, fd, ps', 1, F.np, h1, h3.kp, h8, (L2H.roomH_of hr).mono (by omega), fun ds S d S1 e => ?_, hot_ok m base k f N' ps' h2 h3 h4 h5 h6 h7⟩
    have e : callH P f ds S = .ok d S1 := e
    unfold callH at e
    rw [h2] at e
    have e : (if ds.length = F.np then _ else R.bad) = R.ok d S1 := e
    by_cases hc : ds.length = F.np
    · exact hc
    · rw [if_neg hc] at e; cases e
theorem XS.at (p : Par) (f : String) {C : Ctx} {X : Cx} (x : XS p C X) (h : p.lfs.contains f = true → LamC X) (hb : ∀ q ∈ Cels.cs, CloB p X.base q)
    (hf : ∀ (base : Heap) (cs : List Clo), (∀ b o, X.base.get? b = some o → base.get? b = some o) → (∀ q ∈ cs, CloB p base q) → ∀ f ∈ p.fns, @FnH _ ⟨cs⟩ p C { X with base := base } f) : XS (p.at f) C X := by
  unfold Par.at
  by_cases hc : p.lfs.contains f = true
  · rw [if_pos hc]
    exact ⟨⟨x.calm, x.nd, x.hu, x.fns, fun c I e => let ⟨A, k⟩ := x.clss c I e; ⟨A, ⟨k.s.par rfl rfl, k.mths⟩⟩, x.bts, x.tabs, fun c l e => let ⟨A, k⟩ := x.xcs c l e; ⟨A, k.par rfl⟩, x.xis, x.hfns, fun _ => h hc, x.act, fun _ => hb, fun _ => hf, x.glos⟩, x.own, x.kind, x.stk, x.frm, x.exn⟩
  · rw [if_neg hc]; exact x
theorem flc_of {prog : Program} {w : World} {P : Prog} {K : PySem.W.Frag} {mg : Str → Option Value} {p : Par} (m : Mods P K w mg p) {base : Heap} {CX : CXT} {a : Addr} {qual : Str} {scope : Scope} {k : Nat} {N : List Str} {cdv : Value} {A : Around} {outer : List PySem.Env} {s : Shared} {H : Hp} {E : XK}
    (hr : Room (2 * k + 1) (A.deeper (envOfC qual scope s.heap.objs.size a cdv)))
    (h : ∀ (base' : Heap) (cs : List Clo), (∀ b o, base.get? b = some o → base'.get? b = some o) → (∀ q ∈ cs, CloB p base' q) → ∀ g b, DA P K p g b → @Cal _ ⟨cs⟩ prog w P K mg p base' k g b) :
    ∀ (base' : Heap) (cs : List Clo), (∀ b o, (cxOf CX prog w K mg base N qual scope a cdv A outer s H E).base.get? b = some o → base'.get? b = some o) → (∀ q ∈ cs, CloB p base' q) → ∀ f ∈ p.fns, @FnH _ ⟨cs⟩ p (ctx P k) { (cxOf CX prog w K mg base N qual scope a cdv A outer s H E) with base := base' } f := fun base' cs hb hq f hf => by
  obtain ⟨b, g1, g2⟩ := m.fns f hf
  obtain ⟨fd', ps', n, g3, g4, g5, g6⟩ := h base' cs hb hq f b g2
  exact ⟨b, g1, fd', ps', 2 * k, n, g3, g4, hr, g5, g6⟩
/-- what a lambda's body leans on -/
theorem xc_clo {prog : Program} {w : World} {P : Prog} {K : PySem.W.Frag} {mg : Str → Option Value} {p : Par} (m : Mods P K w mg p) (base : Heap) {CX : CXT} {f : Addr} {F : NdefX.NF} {k : Nat} {N ps fr : List Str} {A : Around} {outer : List PySem.Env} {s : Shared} {H : Hp} {E : XK} (sc : NdefX.NScope N ps fr F.scope)
    (hr : Room (2 * k + 1) (A.deeper (NdefX.envF F f s.heap.objs.size))) (hcal : ∀ g b, DA P K p g b → Cal prog w P K mg p base k g b) (hclo : ∀ q ∈ Cels.cs, CloC prog w P K mg base k q) : XC p.noLo (ctx P k) (NdefX.ncx CX prog w K mg base N F f A outer s H E) := by
  have hfa : ∀ g b, DA P K p g b → FnA p (ctx P k) (NdefX.ncx CX prog w K mg base N F f A outer s H E) g b := fun g b hg => by
    obtain ⟨fd', ps', n, g2, g3, g4, g5⟩ := hcal g b hg
    exact ⟨fd', ps', 2 * k, n, g2, g3, hr, g4, g5⟩
  refine ⟨fun _ => rfl, sc.nd, hr.units, fun g hg => ?_, fun c I hc => ?_, m.bts, m.tabs, fun c l e => ?_, m.xis, fun f hf => ?_, (fun z => absurd (show false = true from z) Bool.noConfusion), (fun _ q hq => ⟨2 * k, hr, hclo q hq⟩), (fun z => absurd (show false = true from z) Bool.noConfusion), (fun z => absurd (show false = true from z) Bool.noConfusion), m.glos⟩
  · obtain ⟨b, g1, g2⟩ := m.fns g hg
    exact ⟨b, g1, hfa g b g2⟩
  · obtain ⟨A, c⟩ := m.clss c I hc
    exact ⟨A, c.s.par rfl rfl, fun mm ff e => let ⟨b, h1, h2⟩ := c.mths mm ff e; ⟨b, h1, hfa ff b h2⟩⟩
  · obtain ⟨A, c⟩ := m.xcs c l e
    exact ⟨A, c.par rfl⟩
  · obtain ⟨b, F', fd, x, qual', N', ps', params, body, scope', dvs, kws, h1, h2, h3, h4, h5, h6, h7, h8⟩ := m.hfns f hf
    refine ⟨b, fd, ps', 1, F'.np, h1, h3.kp, h8, (L2H.roomH_of hr).mono (by omega), fun ds S d S1 e => ?_, hot_ok m base k f N' ps' h2 h3 h4 h5 h6 h7⟩
    have e : callH P f ds S = .ok d S1 := e
    unfold callH at e
    rw [h2] at e
    have e : (if ds.length = F'.np then _ else R.bad) = R.ok d S1 := e
    by_cases hc : ds.length = F'.np
    · exact hc
    · rw [if_neg hc] at e; cases e
theorem startF_eq {N : List Str} {vs ws : List V} : NdefX.startF N vs (ws.map some) = L2.start N (vs ++ ws) := by
  unfold NdefX.startF L2.start
  rw [List.map_append, List.append_assoc, List.length_append, List.length_map, Nat.sub_sub]
/-- a lambda that is handed on keeps its promise -/
theorem clo_ok {prog : Program} {w : World} {P : Prog} {K : PySem.W.Frag} {mg : Str → Option Value} {p : Par} (m : Mods P K w mg p) (base : Heap) (k : Nat) (q : Clo) (hq : q ∈ Cels.cs) (hb : CloB p base q) (hcal : ∀ j, k = j + 1 → ∀ g b, DA P K p g b → Cal prog w P K mg p base j g b) (hclo : ∀ j, k = j + 1 → ∀ q ∈ Cels.cs, CloC prog w P K mg base j q) :
    CloC prog w P K mg base k q := by
  intro A outer s H us vs Q hr e0 r ⟨hf, φ, S, ds, caps, d, S1, rs, t, tc, e, wt⟩
  cases k with
  | zero => cases e
  | succ k =>
    obtain ⟨fr, hcells, hlo⟩ := hb
    obtain ⟨F, N, ps, eb, h1, h2, h3, h4, h5, h6, h7⟩ := m.los _ _ _ _ _ hlo
    have e : call P (k + 1) q.id (ds ++ caps) S = .ok d S1 := e
    rw [call_succ, h1] at e
    have e : (if (ds ++ caps).length = F.np then (evSs (ctx P k) F.body (startE F.ns (ds ++ caps)) S).bind fun q S1 => match endOf q with
      | some d => done F.pure S d S1
      | none => .bad
      else .bad) = .ok d S1 := e
    have hlen : (ds ++ caps).length = F.np := by
      by_cases hc : (ds ++ caps).length = F.np
      · exact hc
      · rw [if_neg hc] at e; cases e
    rw [if_pos hlen, h2] at e
    obtain ⟨⟨fl, ρ1⟩, S2, e1, e2⟩ := bind_ok e
    obtain ⟨⟨fl2, ρ2⟩, S3, e3, e4⟩ := bind_ok (show ((evS (ctx P k) (.ret eb) (startE F.ns (ds ++ caps)) S).bind fun q S1 => match q.1 with | .nx => evSs (ctx P k) .nil q.2 S1 | f => .ok (f, q.2) S1) = .ok (fl, ρ1) S2 from e1)
    obtain ⟨d', S4, e5, e6⟩ := bind_ok (show ((evE (ctx P k) eb (startE F.ns (ds ++ caps)) S).bind fun d S1 => R.ok (Fl.rt d, startE F.ns (ds ++ caps)) S1) = .ok (fl2, ρ2) S3 from e3)
    cases e6
    cases e4
    have hl1 : ds.length = ps.length := by
      have z1 := tc.length
      have z2 := hcells.len
      rw [List.length_map] at z2
      rw [List.length_append] at hlen
      omega
    have hcl := cells_of_base (s := s) (H := H) hcells e0.bs
    refine lam_run (CX := CX0) (t := tE K mg (evE (ctx P k) eb)) (k := 2 * k + 1) h3 (fun pm ctv us hl => h7 _ _ _ _ _ _ hl) hr e0 hf (rs.tb.2 q hq).1 hcl r (by rw [t.length]; exact hl1) (fun hr2 => soundE (X := NdefX.ncx CX0 prog w K mg base N q.F q.f A outer s H E0) eb (xc_clo m base h3 hr2 (hcal k rfl) (hclo k rfl)) _ h6) ?_
    rw [startF_eq]
    exact ⟨φ, _, S, d', S2, start_re h5 (t.append tc), rs, e5, fun φ' H' v x r q => done_read rs (show done F.pure S d' S2 = .ok d S1 from e2) wt x r q⟩
/-- the rule for a def, its code object told -/
theorem funD_ok {P : Program} {w : World} {K : PySem.W.Frag} {mg : Str → Option Value} {base : Heap} {x qual : Str} {params : Arguments} {body : List Stmt} {scope : Scope} {dvs : List V} {kws : List (Str × V)} {f : Addr} {fd : FuncData} {CX : CXT} {N ps : List Str} {k : Nat} {sp : Sp} (F : FunD K x qual params body scope dvs kws f fd) (S : FnScope N ps scope) (len : ∀ vs H Q E, sp vs H Q E → vs.length = ps.length)
    (hbody : ∀ (A : Around) (outer : List PySem.Env) (s : Shared) (H : Hp) (vs : List V) (Q : VK) (E : XK), Room k (A.deeper (envOfC qual scope s.heap.objs.size f fd.code)) → sp vs H Q E →
      ∃ t, PSs (cxOf CX P w K mg base N qual scope f fd.code A outer s H E) body t ∧ t { nx := fun _ H' => Q .non H', rt := Q } (L2.start N vs) H) : FnOk P w K mg base CX (k + 1) f fd ps sp := by
  obtain ⟨oc, od, dV, kV, doc, pm, an, cdv, ct, osl, rfl, lk, hcd, _, _⟩ := F.ex
  exact fn_of lk hcd S len fun A outer s H vs Q E hr hsp => hbody A outer s H vs Q E hr hsp
def TabM (base : Heap) (mg : Str → Option Value) : Prop := ∀ q ∈ Tabs.cs, LamX.TabB base mg q.1 q.2
theorem tabM_mono {base base' : Heap} {mg : Str → Option Value} (tm : TabM base mg) (h : ∀ b o, base.get? b = some o → base'.get? b = some o) : TabM base' mg := fun q hq => ⟨(tm q hq).code.keeps h, (tm q hq).bm.keeps h, (tm q hq).gP⟩
theorem lamC_of {prog : Program} {w : World} {P : Prog} {K : PySem.W.Frag} {mg : Str → Option Value} {p : Par} {base : Heap} {CX : CXT} {f : String} {a : Addr} {x qual : Str} {params : Arguments} {body : List Stmt} {scope : Scope} {dvs : List V} {kws : List (Str × V)} {fd : FuncData} {N : List Str} {A : Around} {outer : List PySem.Env} {s : Shared} {H : Hp} {E : XK} (tm : TabM base mg) (d : DA P K p f a) (FD : FunD K x qual params body scope dvs kws a fd) (h : p.lfs.contains f = true) :
    LamC (cxOf CX prog w K mg base N qual scope a fd.code A outer s H E) := by
  obtain ⟨c, T, e1, e2, e3, e4⟩ := d.lam h _ _ _ _ _ _ _ _ FD
  exact ⟨c, T, e1, tm _ e2, e3, e4⟩
theorem fn_ok {prog : Program} {w : World} {P : Prog} {K : PySem.W.Frag} {mg : Str → Option Value} {p : Par} (m : Mods P K w mg p) (base : Heap) (tm : TabM base mg) {F : Fn} {a : Addr} {fd : FuncData} {x qual : Str} {params : Arguments} {body : List Stmt} {scope : Scope} {dvs : List V} {kws : List (Str × V)} :
    ∀ (k : Nat) (f : String) (N ps : List Str), DA P K p f a → P.fns f = some F → FunD K x qual params body scope dvs kws a fd → FnScope N ps scope → ps.length = F.np → N.length = F.ns → okSs (p.at f) N F.body scope (fun _ => true) body = true →
      (∀ j, k = j + 1 → ∀ g b, DA P K p g b → Cal prog w P K mg p base j g b) →
      (∀ j, k = j + 1 → ∀ q ∈ Cels.cs, CloC prog w P K mg base j q) → (∀ q ∈ Cels.cs, CloB p base q) →
      (∀ j, k = j + 1 → ∀ (base' : Heap) (cs : List Clo), (∀ b o, base.get? b = some o → base'.get? b = some o) → (∀ q ∈ cs, CloB p base' q) → ∀ g b, DA P K p g b → @Cal _ ⟨cs⟩ prog w P K mg p base' j g b) →
      FnOk prog w K mg base CX0 (2 * k) a fd ps (spC (ctx P k) K mg F.np f) := by
  intro k f N ps hda hF FD sc hps hN hok hcal hclo hclb hflc
  have hlen : ∀ vs H Q E, spC (ctx P k) K mg F.np f vs H Q E → vs.length = ps.length := by
    rintro vs H Q E ⟨φ, S, ds, d, S1, rs, t, hl, _, _⟩
    rw [t.length, hl, hps]
  cases k with
  | zero => exact ⟨hlen, fun A outer s H args us vs Q E hr e0 hb hv ⟨φ, S, ds, d, S1, rs, t, hl, e, w⟩ => by cases e⟩
  | succ k =>
    refine funD_ok (k := 2 * k + 1) FD sc hlen fun A outer s H vs Q E hr ⟨φ, S, ds, d, S1, rs, t, hl, e, wt⟩ => ?_
    refine ⟨tS K mg (evSs (ctx P k) F.body), soundSs (X := cxOf CX0 prog w K mg base N qual scope a fd.code A outer s H E) (p := p.at f) (C := ctx P k) F.body (XS.at p f (xs_of m base sc hr (hcal k rfl) (hclo k rfl)) (fun h => lamC_of tm hda FD h) hclb (flc_of m hr (hflc k rfl))) body hok, ?_⟩
    have e : call P (k + 1) f ds S = .ok d S1 := e
    rw [call_succ, hF] at e
    have e : (if ds.length = F.np then (evSs (ctx P k) F.body (startE F.ns ds) S).bind fun q S1 => match endOf q with
      | some d => done F.pure S d S1
      | none => .bad
      else .bad) = .ok d S1 := e
    rw [if_pos hl] at e
    obtain ⟨⟨fl, ρ1⟩, S2, e1, e2⟩ := bind_ok e
    refine ⟨φ, _, S, (fl, ρ1), S2, start_re hN t, rs, e1, fun φ' H' x r => ?_⟩
    cases fl with
    | nx => exact fun σ re => done_read rs (show done F.pure S .non S2 = .ok d S1 from e2) wt x r rv_non
    | rt d' => exact fun v q => done_read rs (show done F.pure S d' S2 = .ok d S1 from e2) wt x r q
    | bk => cases e2
    | ct => cases e2
/-- .. where it raises -/
theorem fnX_ok {prog : Program} {w : World} {P : Prog} {K : PySem.W.Frag} {mg : Str → Option Value} {p : Par} (m : Mods P K w mg p) (base : Heap) (tm : TabM base mg) {F : Fn} {a : Addr} {fd : FuncData} {x qual : Str} {params : Arguments} {body : List Stmt} {scope : Scope} {dvs : List V} {kws : List (Str × V)} :
    ∀ (k : Nat) (f : String) (N ps : List Str), DA P K p f a → P.fns f = some F → FunD K x qual params body scope dvs kws a fd → FnScope N ps scope → ps.length = F.np → N.length = F.ns → okSs (p.at f) N F.body scope (fun _ => true) body = true →
      (∀ j, k = j + 1 → ∀ g b, DA P K p g b → Cal prog w P K mg p base j g b) →
      (∀ j, k = j + 1 → ∀ q ∈ Cels.cs, CloC prog w P K mg base j q) → (∀ q ∈ Cels.cs, CloB p base q) →
      (∀ j, k = j + 1 → ∀ (base' : Heap) (cs : List Clo), (∀ b o, base.get? b = some o → base'.get? b = some o) → (∀ q ∈ cs, CloB p base' q) → ∀ g b, DA P K p g b → @Cal _ ⟨cs⟩ prog w P K mg p base' j g b) →
      FnOk prog w K mg base (L2.CX prog w) (2 * k) a fd ps (spX (ctx P k) K mg F.np f) := by
  intro k f N ps hda hF FD sc hps hN hok hcal hclo hclb hflc
  have hlen : ∀ vs H Q E, spX (ctx P k) K mg F.np f vs H Q E → vs.length = ps.length := by
    rintro vs H Q E ⟨φ, S, ds, c, S1, rs, t, hl, _, _⟩
    rw [t.length, hl, hps]
  cases k with
  | zero => exact ⟨hlen, fun A outer s H args us vs Q E hr e0 hb hv ⟨φ, S, ds, c, S1, rs, t, hl, e, w⟩ => by cases e⟩
  | succ k =>
    refine funD_ok (k := 2 * k + 1) FD sc hlen fun A outer s H vs Q E hr ⟨φ, S, ds, c, S1, rs, t, hl, e, wt⟩ => ?_
    refine ⟨tX K mg (fun cls d _ H => E cls d H) (xSs (ctx P k) F.body), soundXs (X := cxOf (L2.CX prog w) prog w K mg base N qual scope a fd.code A outer s H E) (p := p.at f) (C := ctx P k) (XS.at p f (xs_of m base sc hr (hcal k rfl) (hclo k rfl)) (fun h => lamC_of tm hda FD h) hclb (flc_of m hr (hflc k rfl))) (L2.takes_of (E := E) rfl rfl rfl rfl) F.body body hok, ?_⟩
    have e : callX P (k + 1) f ds S = some (c, S1) := e
    rw [callX_succ, hF] at e
    have e : (if ds.length = F.np then xSs (ctx P k) F.body (startE F.ns ds) S else none) = some (c, S1) := e
    rw [if_pos hl] at e
    exact ⟨φ, _, S, c, S1, start_re hN t, rs, e, fun φ' H' x r A m _ => wt φ' H' x r A m⟩
omit [Cels] in
theorem fns_ok {prog : Program} {w : World} {P : Prog} {K : PySem.W.Frag} {mg : Str → Option Value} {p : Par} (m : Mods P K w mg p) : ∀ (k : Nat) (base : Heap) (cs : List Clo), TabM base mg → (∀ q ∈ cs, CloB p base q) → (∀ g b, DA P K p g b → @Cal _ ⟨cs⟩ prog w P K mg p base k g b) ∧ ∀ q ∈ cs, @CloC _ ⟨cs⟩ prog w P K mg base k q
  | k, base, cs, tm, hb => by
    letI : Cels := ⟨cs⟩
    have ih : ∀ j, k = j + 1 → ∀ (base' : Heap) (cs' : List Clo), (∀ b o, base.get? b = some o → base'.get? b = some o) → (∀ q ∈ cs', CloB p base' q) → (∀ g b, DA P K p g b → @Cal _ ⟨cs'⟩ prog w P K mg p base' j g b) ∧ ∀ q ∈ cs', @CloC _ ⟨cs'⟩ prog w P K mg base' j q := fun j hj base' cs' hs hb' => by
      have hlt : j < k := by omega
      exact fns_ok m j base' cs' (tabM_mono tm hs) hb'
    have hcal : ∀ j, k = j + 1 → ∀ g b, DA P K p g b → Cal prog w P K mg p base j g b := fun j hj => (ih j hj base cs (fun _ _ e => e) hb).1
    have hclo : ∀ j, k = j + 1 → ∀ q ∈ Cels.cs, CloC prog w P K mg base j q := fun j hj => (ih j hj base cs (fun _ _ e => e) hb).2
    refine ⟨fun g b hg => ?_, fun q hq => clo_ok m base k q hq (hb q hq) hcal hclo⟩
    obtain ⟨F, fd, x, qual, N, ps, params, body, scope, dvs, kws, h1, h2, h3, h5, h6, h7, h9, h8, _⟩ := hg.ex
    exact ⟨fd, ps, F.np, h2.kp, ⟨h8.1, h8.2, fun ds S z e => callX_len h1 e, fnX_ok m base tm k g N ps hg h1 h2 h3 h5 h6 h7 hcal hclo hb fun j hj base' cs' hs hb' => (ih j hj base' cs' hs hb').1⟩, fun ds S d S1 e => call_len h1 e, fn_ok m base tm k g N ps hg h1 h2 h3 h5 h6 h7 hcal hclo hb fun j hj base' cs' hs hb' => (ih j hj base' cs' hs hb').1⟩
  termination_by k => k
omit [Cels] in
/-- the law's def, at the script: what the interpreter says is what the run gives -/
theorem law_end {prog : Program} {w : World} {P : Prog} {K : PySem.W.Frag} {h : Heap} {mg : Str → Option Value} {p : Par} (h0 : Tabs.ts = []) (h0' : Tabs.cs = []) (KX : K.In h) (m : Mods P K w mg p) {f : String} {fa : Addr} (hflaw : f = "law") (hf : p.fns.contains f = true) (hfa : mg (Str.ofString f) = some (.ref fa)) (k n : Nat) (x : String)
    (h1 : ∃ F, P.fns f = some F ∧ F.np = 1 ∧ F.pn = [x])
    (hlaw : ∀ ns : List Int, ns.length ≤ n → ∃ S1, call P k f [.lst (ns.map .int)] [] = .ok (.bl true) S1) :
    ∃ (K : PySem.W.Frag) (fd : FuncData) (sp : Sp), K.In h ∧ (∀ (s : Shared) (u : Value), BindsTo s fd ⟨[u], []⟩ [(Str.ofString x, u)]) ∧
        (∀ (H : Hp) (a : Addr) (ns : List Int), ns.length ≤ n → Only H → SqL K H a (ns.map V.int) → sp [.ref a] H (fun v _ => v = .bl true) fun _ _ _ => False) ∧
        ∀ base : Heap, K.In base → base.Ns mainGlobals mg → FnOk prog w K mg base CX0 (2 * k) fa fd [Str.ofString x] sp := by
  letI : Cels := ⟨[]⟩
  have noC : ∀ q ∈ Cels.cs, False := fun q hq => absurd (show q ∈ ([] : List Clo) from hq) List.not_mem_nil
  obtain ⟨a, g4, hg⟩ := m.fns f (mem_of_contains hf)
  obtain ⟨F, fd, y, qual, N, ps, params, body, scope, dvs, kws, g1, g2, g3, g5, g6, g7, g9, _, g8⟩ := hg.ex
  rw [hfa] at g4
  cases g4
  obtain ⟨F', f1, f2, f3⟩ := h1
  rw [g1] at f1
  cases f1
  rw [f3] at g9
  have g9 : ps = [Str.ofString x] := g9
  subst g9
  have tm : ∀ base : Heap, TabM base mg := fun base q hq => by rw [h0'] at hq; cases hq
  refine ⟨K, fd, spC (ctx P k) K mg F.np f, KX, fun s u => g8 hflaw s [u] rfl, fun H a ns hl _ hR => ?_, fun base _ _ => fn_ok m base (tm base) k f N _ hg g1 g2 g3 g5 g6 g7 (fun j hj => (fns_ok m j base [] (tm base) (fun q hq => absurd hq List.not_mem_nil)).1) (fun j hj q hq => (noC q hq).elim) (fun q hq => (noC q hq).elim) fun j hj base' cs hs hb => (fns_ok m j base' cs (tabM_mono (tm base) hs) hb).1⟩
  obtain ⟨S1, e⟩ := hlaw ns hl
  refine ⟨⟨[], []⟩, [], [.lst (ns.map .int)], .bl true, S1, ⟨rfl, List.nodup_nil, fun a h => absurd h (by simp), fun a h => absurd h (by simp), fun a h => absurd h (by simp), fun h o a e => by simp at e, ⟨fun t ht => (by rw [h0] at ht; cases ht), fun q hq => (noC q hq).elim⟩⟩, .cons (rvlst.mpr ⟨a, _, rfl, hR.elim (fun z => .inl ⟨z, by simp, fun h o e => by simp at e⟩) .inr, RV.of_ints ns⟩) .nil, f2.symm, e, fun φ' H' v x r q => rvbl.mp q⟩
omit [Cels] in
/-- .. with tables of code objects -/
theorem law_endT {prog : Program} {w : World} {P : Prog} {K : PySem.W.Frag} {h : Heap} {mg : Str → Option Value} {p : Par} (hts : ∀ t ∈ Tabs.ts, ∃ c, (c, t.1) ∈ Tabs.cs) (hT : ∀ q ∈ Tabs.cs, h.get? q.2 = some { cls := .none, data := .fields #[] }) (nT : ∀ q ∈ Tabs.cs, K.lookup q.2 = none) (hC : ∀ q ∈ Tabs.cs, PySem.W.CodeHd h q.1 q.2)
    (m : Mods P K w mg p) {f : String} {fa : Addr} (hflaw : f = "law") (hf : p.fns.contains f = true) (hfa : mg (Str.ofString f) = some (.ref fa)) (k n : Nat) (x : String)
    (h1 : ∃ F, P.fns f = some F ∧ F.np = 1 ∧ F.pn = [x])
    (hlaw : ∀ ns : List Int, ns.length ≤ n → ∃ S1, call P k f [.lst (ns.map .int)] [] = .ok (.bl true) S1) :
    ∃ (fd : FuncData) (cs : List (Addr × Addr)) (sp : Sp), (∀ q ∈ cs, h.get? q.2 = some { cls := .none, data := .fields #[] }) ∧ (∀ q ∈ cs, K.lookup q.2 = none) ∧ (∀ q ∈ cs, PySem.W.CodeHd h q.1 q.2) ∧ (∀ (s : Shared) (u : Value), BindsTo s fd ⟨[u], []⟩ [(Str.ofString x, u)]) ∧
        (∀ (H : Hp) (a : Addr) (ns : List Int), ns.length ≤ n → (∀ z ∈ ns, Builtin.Int.intBits z ≤ 1048576) → (∀ q ∈ cs, H q.2 = some (.tbl #[])) → SqL K H a (ns.map V.int) → sp [.ref a] H (fun v _ => v = .bl true) fun _ _ _ => False) ∧
        ∀ base : Heap, K.In base → base.Ns mainGlobals mg → (∀ q ∈ cs, LamX.TabB base mg q.1 q.2) → FnOk prog w K mg base CX0 (2 * k) fa fd [Str.ofString x] sp := by
  letI : Cels := ⟨[]⟩
  have noC : ∀ q ∈ Cels.cs, False := fun q hq => absurd (show q ∈ ([] : List Clo) from hq) List.not_mem_nil
  obtain ⟨a, g4, hg⟩ := m.fns f (mem_of_contains hf)
  obtain ⟨F, fd, y, qual, N, ps, params, body, scope, dvs, kws, g1, g2, g3, g5, g6, g7, g9, _, g8⟩ := hg.ex
  rw [hfa] at g4
  cases g4
  obtain ⟨F', f1, f2, f3⟩ := h1
  rw [g1] at f1
  cases f1
  rw [f3] at g9
  have g9 : ps = [Str.ofString x] := g9
  subst g9
  refine ⟨fd, Tabs.cs, spC (ctx P k) K mg F.np f, hT, nT, hC, fun s u => g8 hflaw s [u] rfl, fun H a ns hl _ hH hR => ?_, fun base _ _ tm => fn_ok m base tm k f N _ hg g1 g2 g3 g5 g6 g7 (fun j hj => (fns_ok m j base [] tm (fun q hq => absurd hq List.not_mem_nil)).1) (fun j hj q hq => (noC q hq).elim) (fun q hq => (noC q hq).elim) fun j hj base' cs hs hb => (fns_ok m j base' cs (tabM_mono (tm) hs) hb).1⟩
  obtain ⟨S1, e⟩ := hlaw ns hl
  refine ⟨⟨[], []⟩, [], [.lst (ns.map .int)], .bl true, S1, ⟨rfl, List.nodup_nil, fun a h => absurd h (by simp), fun a h => absurd h (by simp), fun a h => absurd h (by simp), fun h o a e => by simp at e, ⟨fun t ht => ?_, fun q hq => (noC q hq).elim⟩⟩, .cons (rvlst.mpr ⟨a, _, rfl, hR.elim (fun z => .inl ⟨z, by simp, fun h o e => by simp at e⟩) .inr, RV.of_ints ns⟩) .nil, f2.symm, e, fun φ' H' v x r q => rvbl.mp q⟩
  obtain ⟨c, hc⟩ := hts t ht
  refine ⟨by simp, by simp, #[], hH _ hc, True.intro, fun pos cv z => ?_⟩
  have z : codeAmong pos [] = some cv := z
  simp [codeAmong] at z
end MI

/-! MIn: the module's constants, checked. -/
namespace MI
open PySem PySem.Spec PyProof.Rows L2
variable [Tabs] [Cels]
mutual
theorem valB_ok {K : PySem.W.Frag} : ∀ (d : MI.D) (u : Value), valB K d u = true → ∃ v, L2.RelV v u ∧ ∀ φ S H, RV K φ S H d v
  | .non, u, h => by unfold valB at h; exact ⟨.non, He.relB_ok h, fun _ _ _ => rv_non⟩
  | .bl b, u, h => by unfold valB at h; exact ⟨.bl b, He.relB_ok h, fun _ _ _ => rv_bl⟩
  | .int b, u, h => by unfold valB at h; exact ⟨.int b, He.relB_ok h, fun _ _ _ => rv_int⟩
  | .str b, u, h => by unfold valB at h; exact ⟨.str b, He.relB_ok h, fun _ _ _ => rv_str⟩
  | .ref _, u, h => by unfold valB at h; cases h
  | .ty _, u, h => by unfold valB at h; cases h
  | .key _, u, h => by unfold valB at h; cases h
  | .tup l, u, h => by
    unfold valB at h
    cases u <;> first | (cases h; done) | skip
    rename_i a
    cases q : K.lookup a with
    | none => simp [q] at h
    | some o =>
      obtain ⟨oc, od, dt, osl⟩ := o
      cases oc <;> first | (simp [q] at h; done) | skip
      rename_i c
      cases dt <;> first | (simp [q] at h; done) | skip
      rename_i its n
      simp only [q] at h
      obtain ⟨h, h3⟩ := band2 h
      obtain ⟨h1, h2⟩ := band2 h
      obtain ⟨vs, r, t⟩ := valsB_ok l its.toList h3
      exact ⟨.ref a, rfl, fun φ S H => rvtup.mpr ⟨a, vs, rfl, .inr ⟨_, its, n, q, congrArg Value.type (of_decide_eq_true h1), rfl, of_decide_eq_true h2, r⟩, t φ S H⟩⟩
  | .lst l, u, h => by
    unfold valB at h
    cases u <;> first | (cases h; done) | skip
    rename_i a
    cases q : K.lookup a with
    | none => simp [q] at h
    | some o =>
      obtain ⟨oc, od, dt, osl⟩ := o
      cases oc <;> first | (simp [q] at h; done) | skip
      rename_i c
      cases od <;> first | (simp [q] at h; done) | skip
      cases dt <;> first | (simp [q] at h; done) | skip
      rename_i its n
      simp only [q] at h
      obtain ⟨h, h3⟩ := band2 h
      obtain ⟨h1, h2⟩ := band2 h
      obtain ⟨vs, r, t⟩ := valsB_ok l its.toList h3
      exact ⟨.ref a, rfl, fun φ S H => rvlst.mpr ⟨a, vs, rfl, .inr ⟨_, its, n, q, congrArg Value.type (of_decide_eq_true h1), rfl, rfl, of_decide_eq_true h2, r⟩, t φ S H⟩⟩
theorem valsB_ok {K : PySem.W.Frag} : ∀ (l : List MI.D) (us : List Value), valsB K l us = true → ∃ vs, Vals vs us ∧ ∀ φ S H, RVs K φ S H l vs
  | [], us, h => by
    unfold valsB at h
    cases us with
    | nil => exact ⟨[], .nil, fun _ _ _ => .nil⟩
    | cons _ _ => cases h
  | d :: r, us, h => by
    unfold valsB at h
    cases us with
    | nil => cases h
    | cons u us =>
      obtain ⟨h1, h2⟩ := band2 h
      obtain ⟨v, r1, q1⟩ := valB_ok d u h1
      obtain ⟨vs, r2, q2⟩ := valsB_ok r us h2
      exact ⟨v :: vs, .cons r1 r2, fun φ S H => .cons (q1 φ S H) (q2 φ S H)⟩
end
theorem gloB_ok {K : PySem.W.Frag} {h : Heap} {mg : Str → Option Value} (X : K.In h) (G : h.Ns mainGlobals mg) {x : String} {d : MI.D} (c : gloB K x d = true) : ∃ u v, mg (Str.ofString x) = some u ∧ L2.RelV v u ∧ ∀ φ S H, RV K φ S H d v := by
  unfold gloB at c
  cases e : PySem.W.nsIn K mainGlobals (Str.ofString x) with
  | none => simp [e] at c
  | some o =>
    cases o with
    | none => simp [e] at c
    | some u =>
      simp only [e] at c
      obtain ⟨v, r, q⟩ := valB_ok d u c
      exact ⟨u, v, PySem.W.mg_of X G e, r, q⟩
theorem rowsB_ok {K : PySem.W.Frag} {a : Addr} : ∀ {l : List MI.D}, rowsB K a l = true → ∀ s r, rowD l s = some r → RowOk K a s r
  | [], _, s, r, e => by unfold rowD at e; cases e
  | .tup [.str k, v] :: l, h, s, r, e => by
    have e : (if k = s then some (some v) else rowD l s) = some r := by unfold rowD at e; exact e
    unfold rowsB at h
    obtain ⟨h1, h2⟩ := band2 h
    by_cases hk : k = s
    · rw [if_pos hk] at e
      cases e
      subst hk
      cases q : PySem.W.nsIn K a k with
      | none => simp [q] at h1
      | some o =>
        cases o with
        | none => simp [q] at h1
        | some u =>
          simp only [q] at h1
          obtain ⟨v', r1, q1⟩ := valB_ok v u h1
          exact ⟨u, v', q, r1, q1⟩
    · rw [if_neg hk] at e
      exact rowsB_ok h2 s r e
  | .tup [.str k] :: l, h, s, r, e => by
    have e : (if k = s then some none else rowD l s) = some r := by unfold rowD at e; exact e
    unfold rowsB at h
    obtain ⟨h1, h2⟩ := band2 h
    by_cases hk : k = s
    · rw [if_pos hk] at e
      cases e
      subst hk
      exact He.eqO_ok h1
    · rw [if_neg hk] at e
      exact rowsB_ok h2 s r e
  | .non :: _, h, _, _, _ | .bl _ :: _, h, _, _, _ | .int _ :: _, h, _, _, _ | .str _ :: _, h, _, _, _ | .lst _ :: _, h, _, _, _ | .ref _ :: _, h, _, _, _ | .ty _ :: _, h, _, _, _ => by simp [rowsB] at h
  | .tup [] :: _, h, _, _, _ => by simp [rowsB] at h
  | .tup (.non :: _) :: _, h, _, _, _ | .tup (.bl _ :: _) :: _, h, _, _, _ | .tup (.int _ :: _) :: _, h, _, _, _ | .tup (.tup _ :: _) :: _, h, _, _, _ | .tup (.lst _ :: _) :: _, h, _, _, _ | .tup (.ref _ :: _) :: _, h, _, _, _ | .tup (.ty _ :: _) :: _, h, _, _, _ => by simp [rowsB] at h
  | .tup (.str _ :: _ :: _ :: _) :: _, h, _, _, _ => by simp [rowsB] at h
theorem allAt {α : Type} {l : List α} {p : α → Bool} (h : l.all p = true) (i : Nat) {a : α} (e : l[i]? = some a) : p a = true := List.all_eq_true.mp h a (List.mem_of_getElem? e)
/-! ### classes -/
theorem look_mem {α : Type} {k : String} {v : α} : ∀ {l : List (String × α)}, l.lookup k = some v → (k, v) ∈ l
  | [], h => by cases h
  | (b, u) :: r, h => by
    by_cases e : k = b
    · subst e
      simp [List.lookup_cons] at h
      subst h
      exact List.mem_cons_self
    · have hk : (k == b) = false := by simpa using e
      simp only [List.lookup_cons, hk] at h
      exact List.mem_cons_of_mem _ (look_mem h)
theorem clsB_ok {P : Prog} {K : PySem.W.Frag} {h : Heap} {mg : Str → Option Value} {p : Par} {at_ : AtT} {c : String} {I : ClsI} (X : K.In h) (G : h.Ns mainGlobals mg) (hb : clsB K p.isc p.mks at_ (c, I) = true)
    (hd : ∀ q ∈ I.mths, DA P K p q.2 (He.fAd K (at_ q.2))) : ∃ A, DC P K mg p c I A := by
  unfold clsB at hb
  obtain ⟨g0, hb⟩ := He.ba hb
  obtain ⟨g1, hb⟩ := He.ba hb
  obtain ⟨g2, hb⟩ := He.ba hb
  obtain ⟨g3, hb⟩ := He.ba hb
  obtain ⟨g4, hb⟩ := He.ba hb
  obtain ⟨g5, hb⟩ := He.ba hb
  obtain ⟨g6, hb⟩ := He.ba hb
  obtain ⟨g7, hb⟩ := He.ba hb
  obtain ⟨g8, g9⟩ := He.ba hb
  have f1 : PySem.W.plainGet K (He.ga K (Str.ofString c)) Str.empty && (PySem.W.hasDictIn K (He.ga K (Str.ofString c)) && (PySem.W.plainOver K (He.ga K (Str.ofString c)) && He.eqO (PySem.W.findIn K (.ref (He.ga K (Str.ofString c))) "__setattr__") (some (some (.builtin "object.__setattr__"))))) := g1
  obtain ⟨f2, f3⟩ := He.ba f1
  obtain ⟨f3, f4⟩ := He.ba f3
  obtain ⟨f4, f5⟩ := He.ba f4
  refine ⟨He.ga K (Str.ofString c), ⟨PySem.W.mg_of X G (He.eqO_ok g0), ⟨f2, f3, f4, He.eqO_ok f5⟩, He.eqO_ok g2, He.eqO_ok g3, of_decide_eq_true g4, of_decide_eq_true g5, fun f hf => ?_, fun hm => ?_, fun c' hc => ?_⟩, fun m f e => ?_⟩
  · exact He.eqO_ok (List.all_eq_true.mp g7 f (by simpa using hf))
  · rcases Bool.or_eq_true_iff.mp g8 with z | z
    · have hm : p.mks.contains c = true := hm
      rw [hm] at z; cases z
    · exact He.ba z
  · obtain ⟨h1, h2⟩ := He.ba (List.all_eq_true.mp g9 c' hc)
    exact ⟨_, PySem.W.mg_of X G (He.eqO_ok h1), of_decide_eq_true h2⟩
  · have hm := look_mem e
    obtain ⟨h1, h2⟩ := He.ba (List.all_eq_true.mp g6 _ hm)
    obtain ⟨h2, h3⟩ := He.ba h2
    exact ⟨_, ⟨He.eqO_ok h1, h2, h3⟩, hd _ hm⟩
/-! ### exceptions -/
theorem nmV_ok {K : PySem.W.Frag} {h : Heap} {mg : Str → Option Value} (X : K.In h) (G : h.Ns mainGlobals mg) {c : String} {cv : Value} (e : nmV K c = some cv) : Nm mg (Str.ofString c) cv ∧ ∃ v, CV v cv := by
  unfold nmV at e
  cases e1 : PySem.W.nsIn K mainGlobals (Str.ofString c) with
  | none => rw [e1] at e; cases e
  | some o =>
    rw [e1] at e
    cases o with
    | none =>
      dsimp only at e
      cases e2 : bootBuiltins (Str.ofString c) with
      | none => rw [e2] at e; cases e
      | some u =>
        rw [e2] at e
        cases u <;> first | (cases e; done) | skip
        cases e
        exact ⟨.inr ⟨PySem.W.mg_none_of X G e1, e2⟩, _, .inr ⟨_, rfl, rfl⟩⟩
    | some u =>
      cases u <;> first | (cases e; done) | skip
      cases e
      exact ⟨.inl (PySem.W.mg_of X G e1), _, .inl ⟨_, rfl, rfl⟩⟩
theorem xcB_ok {K : PySem.W.Frag} {h : Heap} {mg : Str → Option Value} {p : Par} {c : String} {l : List String} (X : K.In h) (G : h.Ns mainGlobals mg) (hb : xcB K p.xis (c, l) = true) : ∃ A, XcOk K mg p c l A := by
  unfold xcB at hb
  obtain ⟨g0, hb⟩ := He.ba hb
  obtain ⟨g1, hb⟩ := He.ba hb
  obtain ⟨g2, hb⟩ := He.ba hb
  obtain ⟨g3, hb⟩ := He.ba hb
  obtain ⟨g4, hb⟩ := He.ba hb
  obtain ⟨g5, hb⟩ := He.ba hb
  obtain ⟨g6, hb⟩ := He.ba hb
  obtain ⟨g7, hb⟩ := He.ba hb
  obtain ⟨g8, g9⟩ := He.ba hb
  obtain ⟨f1, f2, f3, f4⟩ := He.exc_ok g1
  refine ⟨He.ga K (Str.ofString c), ⟨PySem.W.mg_of X G (He.eqO_ok g0), ⟨He.eqO_ok g2, He.eqO_ok g3, f3, g4, He.eqO_ok g5, He.eqO_ok g6, of_decide_eq_true g7, of_decide_eq_true g8⟩, f1, f2, f3, f4, fun c' hc => ?_⟩⟩
  have z := List.all_eq_true.mp g9 c' hc
  unfold isB at z
  cases e : nmV K c' with
  | none => rw [e] at z; cases z
  | some cv =>
    rw [e] at z
    obtain ⟨z1, z2⟩ := He.ba z
    exact ⟨cv, (nmV_ok X G e).1, of_decide_eq_true z1, of_decide_eq_true z2⟩
theorem xis_okB {K : PySem.W.Frag} {h : Heap} {mg : Str → Option Value} {c : String} (X : K.In h) (G : h.Ns mainGlobals mg) (hb : (nmV K c).isSome = true) : ∃ v cv, CV v cv ∧ Nm mg (Str.ofString c) cv := by
  obtain ⟨cv, e⟩ := Option.isSome_iff_exists.mp hb
  obtain ⟨n, v, q⟩ := nmV_ok X G e
  exact ⟨v, cv, q, n⟩
end MI

/-! MIy: what the head tells of the module's objects: found layer by layer, those seen held as bits of a number. -/
namespace MI
open PySem PySem.Spec PyProof.Rows L2 He
theorem nodB_inj {α : Type} {f : α → Nat} : ∀ {l : List α}, nodB (l.map f) = true → ∀ a ∈ l, ∀ b ∈ l, f a = f b → a = b
  | [], _, a, h, _, _, _ => absurd h (List.not_mem_nil)
  | x :: r, hn, a, ha, b, hb, e => by
    obtain ⟨h1, h2⟩ := ba hn
    have key : ∀ c ∈ r, f x ≠ f c := fun c hc q => by
      have h3 := List.all_eq_true.mp h1 (f c) (List.mem_map.mpr ⟨c, hc, rfl⟩)
      rw [q, Nat.beq_refl] at h3
      cases h3
    rcases List.mem_cons.mp ha with ea | ha1
    · rcases List.mem_cons.mp hb with eb | hb1
      · rw [ea, eb]
      · rw [ea] at e; exact absurd e (key b hb1)
    · rcases List.mem_cons.mp hb with eb | hb1
      · rw [eb] at e; exact absurd e.symm (key a ha1)
      · exact nodB_inj h2 a ha1 b hb1 e
structure TabsK [Tabs] (lf : LfD) (K : PySem.W.Frag) : Prop where
  cs : Tabs.cs = csOf lf K
  ts : Tabs.ts = tsOf lf K
  nd : tabNod lf K = true
theorem lam_by [Tabs] {lf : LfD} {K : PySem.W.Frag} (T : TabsK lf K) {p : Defn} {x0 q0 : Str} {params0 : Arguments} {body0 : List Stmt} {scope0 : Scope} {dvs0 : List V} {kws0 : List (Str × V)} {fd0 : FuncData} (hp : (p, q0) ∈ lf) (F0 : FunD K x0 q0 params0 body0 scope0 dvs0 kws0 (fAd K p) fd0) :
    ∀ (x qual : Str) (params : Arguments) (body : List Stmt) (scope : Scope) (dvs : List V) (kws : List (Str × V)) (fd : FuncData), FunD K x qual params body scope dvs kws (fAd K p) fd → ∃ c T : Addr, fd.code = .ref c ∧ (c, T) ∈ Tabs.cs ∧ (T, (qual ++ ".<locals>.") ++ "<lambda>") ∈ Tabs.ts ∧ ∀ t ∈ Tabs.ts, t.1 = T → t.2 = (qual ++ ".<locals>.") ++ "<lambda>" := by
  intro x qual params body scope dvs kws fd F
  obtain ⟨oc, od, dV, kV, doc, pm, an, cdv, ct, osl, e1, lk, hcd, _, _⟩ := F.ex
  obtain ⟨oc', od', dV', kV', doc', pm', an', cdv', ct', osl', e2, lk', _, _, _⟩ := F0.ex
  have e3 : fd = fd0 := by
    rw [lk] at lk'
    have e := Option.some.inj lk'
    injection e with _ _ e _
    injection e
  have eq : qual = q0 := by
    rw [e1, e2] at e3
    injection e3
  subst eq
  obtain ⟨c, hc⟩ := codeIn_ref hcd
  have hc : fd.code = .ref c := by rw [e1]; exact hc
  have ec : codeOf K p = c := codeOf_eq lk hc
  refine ⟨c, (cT K p).2, hc, ?_, ?_, fun t ht h => ?_⟩
  · rw [T.cs]
    exact List.mem_map.mpr ⟨p, List.mem_map.mpr ⟨(p, qual), hp, rfl⟩, by rw [← ec] <;> rfl⟩
  · rw [T.ts]
    exact List.mem_map.mpr ⟨(p, qual), hp, rfl⟩
  · rw [T.ts] at ht
    obtain ⟨q, hq, rfl⟩ := List.mem_map.mp ht
    have := nodB_inj T.nd q hq (p, qual) hp h
    rw [this]
theorem tsOf_cs {lf : LfD} {K : PySem.W.Frag} : ∀ t ∈ tsOf lf K, ∃ c, (c, t.1) ∈ csOf lf K := fun t ht => by
  obtain ⟨q, hq, rfl⟩ := List.mem_map.mp ht
  exact ⟨(cT K q.1).1, List.mem_map.mpr ⟨q.1, List.mem_map.mpr ⟨q, hq, rfl⟩, rfl⟩⟩
theorem says_tabs {fa : List Fa} {fn : List DefD} {ts : List Tab} {lf : LfD} {ex : PySem.W.Frag → Bool} {w : World} {h : Heap} {K : PySem.W.Frag} (c : SaysZ fa fn ts (tfOf lf) ex w h K) (X : K.In h) :
    (∀ q ∈ csOf lf K, h.get? q.2 = some { cls := .none, data := .fields #[] }) ∧ (∀ q ∈ csOf lf K, K.lookup q.2 = none) ∧ ∀ q ∈ csOf lf K, PySem.W.CodeHd h q.1 q.2 := by
  refine ⟨fun q hq => ?_, fun q hq => ?_, fun q hq => ?_⟩ <;> obtain ⟨p, hp, rfl⟩ := List.mem_map.mp hq
  · exact c.empty p hp
  · exact c.out p hp
  · exact PySem.W.codeHd_of_K X (c.hd p hp)
/-- one plain parameter -/
def lamP1 (x : Str) (params : Arguments) : Bool := match params with
  | ⟨[], [⟨y, _, _⟩], none, [], [], none, []⟩ => decide (y = x)
  | _ => false
theorem lamP1_of {x : Str} {params : Arguments} (h : lamP1 x params = true) : ∃ a b, params = ⟨[], [⟨x, a, b⟩], none, [], [], none, []⟩ := by
  unfold lamP1 at h
  split at h
  · exact ⟨_, _, by rw [of_decide_eq_true h]⟩
  · cases h
end MI

set_option maxHeartbeats 2000000
/-! MIp: running the interpreter by simp. -/
namespace MI
theorem call_fn {P : Prog} {k : Nat} {f : String} {ds : List D} {S : Sto} {F : Fn} (h : P.fns f = some F) (hl : ds.length = F.np) :
    call P (k + 1) f ds S = (evSs ⟨P.cls, P.glo, call P k, arrP P, callX P k, P.xcl, callH P⟩ F.body (startE F.ns ds) S).bind fun q S1 => match endOf q with
      | some d => done F.pure S d S1
      | none => .bad := by
  rw [call_succ, h]
  show (if ds.length = F.np then _ else R.bad) = _
  rw [if_pos hl] <;> rfl
theorem callX_fn {P : Prog} {k : Nat} {f : String} {ds : List D} {S : Sto} {F : Fn} (h : P.fns f = some F) (hl : ds.length = F.np) :
    callX P (k + 1) f ds S = xSs ⟨P.cls, P.glo, call P k, arrP P, callX P k, P.xcl, callH P⟩ F.body (startE F.ns ds) S := by
  rw [callX_succ, h]
  show (if ds.length = F.np then _ else none) = _
  rw [if_pos hl] <;> rfl
theorem callH_fn {P : Prog} {f : String} {ds : List D} {S : Sto} {F : Fn} (h : P.fns f = some F) (hl : ds.length = F.np) :
    callH P f ds S = (evSs ⟨fun _ => none, P.glo, fun _ _ _ => .bad, fun _ _ _ _ => none, fun _ _ _ => none, P.xcl, fun _ _ _ => .bad⟩ F.body (startE F.ns ds) S).bind fun q S1 => match endOf q with
      | some d => done F.pure S d S1
      | none => .bad := by
  unfold callH
  rw [h]
  show (if ds.length = F.np then _ else R.bad) = _
  rw [if_pos hl] <;> rfl
theorem done_same {p : Bool} {S : Sto} {d : D} (h : below S.length d = true) : done p S d S = .ok d S := by
  cases p with
  | false => rfl
  | true => simp [done, h]
@[simp] theorem below_non {n : Nat} : below n .non = true := rfl
@[simp] theorem below_bl {n : Nat} {b : Bool} : below n (.bl b) = true := rfl
@[simp] theorem below_int {n : Nat} {b : Int} : below n (.int b) = true := rfl
@[simp] theorem below_str {n : Nat} {b : PySem.Str} : below n (.str b) = true := rfl
@[simp] theorem below_tup {n : Nat} {l : List D} : below n (.tup l) = belows n l := by rw [below]
@[simp] theorem below_lst {n : Nat} {l : List D} : below n (.lst l) = belows n l := by rw [below]
@[simp] theorem belows_nil {n : Nat} : belows n [] = true := rfl
@[simp] theorem belows_cons {n : Nat} {d : D} {l : List D} : belows n (d :: l) = (below n d && belows n l) := by rw [belows]
@[simp] theorem belows_ints {n : Nat} : ∀ {l : List Int}, belows n (l.map .int) = true
  | [] => rfl
  | i :: l => by rw [List.map_cons, belows_cons, belows_ints]; rfl
@[simp] theorem done_int {p : Bool} {S : Sto} {i : Int} : done p S (.int i) S = .ok (.int i) S := done_same rfl
@[simp] theorem done_bl {p : Bool} {S : Sto} {i : Bool} : done p S (.bl i) S = .ok (.bl i) S := done_same rfl
@[simp] theorem done_non {p : Bool} {S : Sto} : done p S .non S = .ok .non S := done_same rfl
@[simp] theorem done_str {p : Bool} {S : Sto} {i : PySem.Str} : done p S (.str i) S = .ok (.str i) S := done_same rfl
@[simp] theorem done_lst {p : Bool} {S : Sto} {i : List Int} : done p S (.lst (i.map .int)) S = .ok (.lst (i.map .int)) S := done_same (by simp)
/-! ### plain facts -/
theorem fmod_pos {i j : Int} (h : 0 ≤ j) : i.fmod j = i % j := Int.fmod_eq_emod_of_nonneg i h
theorem fdiv_pos {i j : Int} (h : 0 ≤ j) : i.fdiv j = i / j := Int.fdiv_eq_ediv_of_nonneg i h
theorem atI_nat {α : Type} (xs : List α) (k : Nat) : L2.atI xs (k : Int) = xs[k]? := by
  unfold L2.atI L2.ixN
  rw [if_pos (Int.natCast_nonneg k)]
  by_cases h : k < xs.length
  · rw [if_pos (by omega)]; rfl
  · rw [if_neg (by omega)]
    simp only [Option.bind_none]
    exact (List.getElem?_eq_none (by omega)).symm
theorem mem_cutL {α : Type} {xs : List α} {lo hi : Option Int} {x : α} (h : x ∈ cutL xs lo hi) : x ∈ xs := List.mem_of_mem_drop (List.mem_of_mem_take h)
theorem cutL_map {α β : Type} (f : α → β) (xs : List α) (lo hi : Option Int) : cutL (xs.map f) lo hi = (cutL xs lo hi).map f := by simp [cutL]
theorem mem_ints {l : List Int} {x : D} (h : x ∈ l.map D.int) : ∃ i, x = .int i := by
  obtain ⟨i, _, rfl⟩ := List.mem_map.mp h
  exact ⟨i, rfl⟩
theorem cutL_len {α : Type} (xs : List α) (lo hi : Option Int) : (cutL xs lo hi).length ≤ xs.length := by
  unfold cutL
  rw [List.length_take, List.length_drop]
  omega
/-- a loop that ends no turn early -/
theorem forL_inv {f : D → Env → Sto → R (Fl × Env)} {S : Sto} {I : Env → Prop} : ∀ {l : List D}, (∀ x ∈ l, ∀ ρ, I ρ → ∃ ρ', f x ρ S = .ok (.nx, ρ') S ∧ I ρ') → ∀ ρ, I ρ → ∃ ρ', forL f l ρ S = .ok (.nx, ρ') S ∧ I ρ'
  | [], _, ρ, i => ⟨ρ, rfl, i⟩
  | x :: l, h, ρ, i => by
    obtain ⟨ρ1, e1, i1⟩ := h x List.mem_cons_self ρ i
    obtain ⟨ρ2, e2, i2⟩ := forL_inv (fun y hy => h y (List.mem_cons_of_mem _ hy)) ρ1 i1
    refine ⟨ρ2, ?_, i2⟩
    show (f x ρ S).bind _ = _
    rw [e1]
    exact e2
/-- .. the store may change, too -/
theorem forL_invS {f : D → Env → Sto → R (Fl × Env)} {I : Env → Sto → Prop} : ∀ {l : List D}, (∀ x ∈ l, ∀ ρ S, I ρ S → ∃ ρ' S', f x ρ S = .ok (.nx, ρ') S' ∧ I ρ' S') → ∀ ρ S, I ρ S → ∃ ρ' S', forL f l ρ S = .ok (.nx, ρ') S' ∧ I ρ' S'
  | [], _, ρ, S, i => ⟨ρ, S, rfl, i⟩
  | x :: l, h, ρ, S, i => by
    obtain ⟨ρ1, S1, e1, i1⟩ := h x List.mem_cons_self ρ S i
    obtain ⟨ρ2, S2, e2, i2⟩ := forL_invS (fun y hy => h y (List.mem_cons_of_mem _ hy)) ρ1 S1 i1
    refine ⟨ρ2, S2, ?_, i2⟩
    show (f x ρ S).bind _ = _
    rw [e1]
    exact e2
/-- a comprehension over a list at a handle that its turns leave -/
theorem cmpH_stay {f : D → Sto → R (Option D)} {h : Nat} {S : Sto} {l : List D} (hS : S[h]? = some (.lst l)) (hf : ∀ x ∈ l, ∃ o, f x S = .ok o S) : ∀ (m i : Nat), l.length + 1 = m + i → 1 ≤ m → cmpH f h m i S = cmpL f (l.drop i) S
  | 0, _, _, h1 => absurd h1 (by decide)
  | m + 1, i, hm, _ => by
    show (match S[h]? with
      | some (.lst l) => (match l[i]? with
        | none => R.ok [] S
        | some x => (f x S).bind fun o S1 => (cmpH f h m (i + 1) S1).bind fun l S2 => match o with
          | some d => .ok (d :: l) S2
          | none => .ok l S2)
      | _ => .bad) = _
    rw [hS]
    show (match l[i]? with
        | none => R.ok [] S
        | some x => (f x S).bind fun o S1 => (cmpH f h m (i + 1) S1).bind fun l S2 => match o with
          | some d => .ok (d :: l) S2
          | none => .ok l S2) = _
    by_cases hi : i < l.length
    · rw [List.getElem?_eq_getElem hi, List.drop_eq_getElem_cons hi]
      show ((f l[i] S).bind _) = ((f l[i] S).bind _)
      obtain ⟨o, ho⟩ := hf l[i] (List.getElem_mem hi)
      rw [ho]
      show (cmpH f h m (i + 1) S).bind _ = (cmpL f (l.drop (i + 1)) S).bind _
      rw [cmpH_stay hS hf m (i + 1) (by omega) (by omega)] <;> rfl
    · rw [List.getElem?_eq_none (by omega), List.drop_eq_nil_of_le (by omega)] <;> rfl
theorem cmpH_all {f : D → Sto → R (Option D)} {h : Nat} {S : Sto} {l : List D} (hS : S[h]? = some (.lst l)) (hf : ∀ x ∈ l, ∃ o, f x S = .ok o S) : cmpH f h (atH S h) 0 S = cmpL f l S := by
  have : atH S h = l.length + 1 := by unfold atH; rw [hS]
  rw [this, cmpH_stay hS hf (l.length + 1) 0 rfl (by omega)] <;> rfl
@[simp] theorem sto_last {S : Sto} {o : O} : (S ++ [o])[S.length]? = some o := by simp
@[simp] theorem sto_set {S : Sto} {o u : O} : (S ++ [o]).set S.length u = S ++ [u] := by simp
@[simp] theorem done_nil {b : Bool} {S1 : Sto} : done true [] (.bl b) S1 = .ok (.bl b) [] := by simp [done, beqS]
def cell (ns : List Int) (k : Nat) : Int := ns.getD k 0
theorem idx_cell {ns : List Int} {k : Nat} (h : k < ns.length) : L2.atI (ns.map D.int) (k : Int) = some (.int (cell ns k)) := by
  rw [atI_nat, List.getElem?_map, cell, List.getD_eq_getElem?_getD, List.getElem?_eq_getElem h]; rfl
theorem cell_out {ns : List Int} {k : Nat} (h : ¬ k < ns.length) : cell ns k = 0 := by
  rw [cell, List.getD_eq_getElem?_getD, List.getElem?_eq_none (by omega)]; rfl
theorem atI_in {ns : List Int} {i : Int} (h0 : -(ns.length : Int) ≤ i) (h1 : i < ns.length) : ∃ x, L2.atI (ns.map D.int) i = some (.int x) := by
  by_cases h : 0 ≤ i
  · obtain ⟨n, rfl⟩ : ∃ n : Nat, i = n := ⟨i.toNat, by omega⟩
    exact ⟨_, idx_cell (by omega)⟩
  · unfold L2.atI L2.ixN
    rw [if_neg h, List.length_map, if_pos h0]
    show ∃ x, (ns.map D.int)[(i + ns.length).toNat]? = _
    rw [List.getElem?_map, List.getElem?_eq_getElem (by omega)]
    exact ⟨_, rfl⟩
theorem setD_ref {ρ : Env} {S : Sto} {d : D} {h : Nat} {l : List D} {k : Int} {j : Nat} (e1 : S[h]? = some (.lst l)) (e2 : L2.ixN l.length k = some j) : setD ρ S d (.ref h) (.int k) = .ok ρ (S.set h (.lst (l.set j d))) := by
  unfold setD
  simp only [e1, e2]
theorem idx_ref {S : Sto} {h : Nat} {l : List D} (e : S[h]? = some (.lst l)) (j : Int) : idxD S (.ref h) (.int j) = L2.atI l j := by
  show (itemsOf S (.ref h)).bind _ = _
  have : itemsOf S (.ref h) = some l := by
    show (match S[h]? with | some (.lst l) => some l | _ => none) = _
    rw [e]
  rw [this] <;> rfl
theorem itm_ref {S : Sto} {h : Nat} {l : List D} (e : S[h]? = some (.lst l)) : itmD S (.ref h) = some (.at_ h) := by
  show (match S[h]? with | some (.lst _) => some (Itm.at_ h) | _ => none) = _
  rw [e]
theorem lo_ref {S : Sto} {h : Nat} {l : List D} (e : S[h]? = some (.lst l)) : listOf S (.ref h) = some l := by
  show (match S[h]? with | some (.lst l) => some l | _ => none) = _
  rw [e]
/-- a loop over range(n), the invariant by the turn -/
theorem forL_idx {f : D → Env → Sto → R (Fl × Env)} {I : Nat → Env → Sto → Prop} {n : Nat} (h : ∀ i, i < n → ∀ ρ S, I i ρ S → ∃ ρ' S', f (.int i) ρ S = .ok (.nx, ρ') S' ∧ I (i + 1) ρ' S') :
    ∀ ρ S, I 0 ρ S → ∃ ρ' S', forL f (rngL 0 n) ρ S = .ok (.nx, ρ') S' ∧ I n ρ' S' := by
  have key : ∀ (m i : Nat), i + m = n → ∀ ρ S, I i ρ S → ∃ ρ' S', forL f ((List.range' i m).map fun (i : Nat) => D.int (0 + i)) ρ S = .ok (.nx, ρ') S' ∧ I n ρ' S' := by
    intro m
    induction m with
    | zero => intro i hi ρ S h0; rw [show n = i by omega]; exact ⟨ρ, S, rfl, h0⟩
    | succ m ih =>
      intro i hi ρ S h0
      obtain ⟨ρ1, S1, e1, h1⟩ := h i (by omega) ρ S h0
      obtain ⟨ρ2, S2, e2, h2⟩ := ih (i + 1) (by omega) ρ1 S1 h1
      refine ⟨ρ2, S2, ?_, h2⟩
      rw [List.range'_succ, List.map_cons]
      show (f (.int (0 + i)) ρ S).bind _ = _
      rw [Int.zero_add, e1]
      exact e2
  intro ρ S h0
  have := key n 0 (by omega) ρ S h0
  rw [← List.range_eq_range'] at this
  exact this
/-- the sum of the first i parts by their places -/
def sm (pk : Nat → Int) (l : List Int) : Nat → Int
  | 0 => 0
  | i + 1 => sm pk l i + cell l i * pk i
theorem sm_range (pk : Nat → Int) (l : List Int) : ∀ n : Nat, ((List.range n).map fun (i : Nat) => cell l i * pk i).sum = sm pk l n
  | 0 => rfl
  | n + 1 => by
    rw [List.range_succ, List.map_append, List.sum_append, sm_range pk l n]
    simp [sm]
theorem ints_of : ∀ l : List Int, intsOf (l.map D.int) = some l
  | [] => rfl
  | i :: l => by
    show (intsOf (l.map D.int)).map (i :: ·) = _
    rw [ints_of l]; rfl
/-- a loop over numbers, the invariant by the turn -/
theorem forL_at {f : D → Env → Sto → R (Fl × Env)} {l : List Int} {I : Nat → Env → Sto → Prop} (h : ∀ i, i < l.length → ∀ ρ S, I i ρ S → ∃ ρ' S', f (.int (cell l i)) ρ S = .ok (.nx, ρ') S' ∧ I (i + 1) ρ' S') :
    ∀ ρ S, I 0 ρ S → ∃ ρ' S', forL f (l.map .int) ρ S = .ok (.nx, ρ') S' ∧ I l.length ρ' S' := by
  have key : ∀ (m i : Nat), i + m = l.length → ∀ ρ S, I i ρ S → ∃ ρ' S', forL f ((l.drop i).map .int) ρ S = .ok (.nx, ρ') S' ∧ I l.length ρ' S' := by
    intro m
    induction m with
    | zero =>
      intro i hi ρ S h0
      have hi : i = l.length := by omega
      subst hi
      rw [List.drop_length]
      exact ⟨ρ, S, rfl, h0⟩
    | succ m ih =>
      intro i hi ρ S h0
      have hlt : i < l.length := by omega
      obtain ⟨ρ1, S1, e1, h1⟩ := h i hlt ρ S h0
      obtain ⟨ρ2, S2, e2, h2⟩ := ih (i + 1) (by omega) ρ1 S1 h1
      refine ⟨ρ2, S2, ?_, h2⟩
      have hc : cell l i = l[i] := by rw [cell, List.getD_eq_getElem?_getD, List.getElem?_eq_getElem hlt]; rfl
      rw [List.drop_eq_getElem_cons hlt, List.map_cons, ← hc]
      show (f (.int (cell l i)) ρ S).bind _ = _
      rw [e1]
      exact e2
  intro ρ S h0
  have := key l.length 0 (by omega) ρ S h0
  rw [List.drop_zero] at this
  exact this
theorem cell_app {l : List Int} {y : Int} {i : Nat} (h : i < l.length) : cell (l ++ [y]) i = cell l i := by
  simp [cell, List.getD_eq_getElem?_getD, List.getElem?_append_left h]
theorem cell_last {l : List Int} {y : Int} : cell (l ++ [y]) l.length = y := by
  simp [cell, List.getD_eq_getElem?_getD]
theorem sm_app (pk : Nat → Int) (l : List Int) (y : Int) : ∀ i : Nat, i ≤ l.length → sm pk (l ++ [y]) i = sm pk l i
  | 0, _ => rfl
  | i + 1, h => by
    show sm pk (l ++ [y]) i + cell (l ++ [y]) i * pk i = sm pk l i + cell l i * pk i
    rw [sm_app pk l y i (by omega), cell_app (by omega)]
theorem appD_ref {ρ : Env} {S : Sto} {d : D} {h : Nat} {l : List D} (e1 : S[h]? = some (.lst l)) (e2 : l.length < 16777216) : appD ρ S d (.ref h) = .ok (.nx, ρ) (S.set h (.lst (l ++ [d]))) := by
  unfold appD line
  simp only [e1, e2, if_true]
end MI

/-! MIq: the interpreter, run step by step (what follows a step is told as data, so simp doesn't look into it). -/
namespace MI
@[simp] theorem e_cI {C : Ctx} {ρ : Env} {S : Sto} {i : Int} : evE C (.cI i) ρ S = .ok (.int i) S := by rw [evE]
@[simp] theorem e_cB {C : Ctx} {ρ : Env} {S : Sto} {i : Bool} : evE C (.cB i) ρ S = .ok (.bl i) S := by rw [evE]
@[simp] theorem e_cN {C : Ctx} {ρ : Env} {S : Sto} : evE C .cN ρ S = .ok .non S := by rw [evE]
@[simp] theorem e_cS {C : Ctx} {ρ : Env} {S : Sto} {s : String} : evE C (.cS s) ρ S = .ok (.str (PySem.Str.ofString s)) S := by rw [evE]
def vK (o : Option (Option D)) (S : Sto) : R D := match o with
  | some (some d) => .ok d S
  | _ => .bad
@[simp] theorem vK_ok {d : D} {S : Sto} : vK (some (some d)) S = .ok d S := (rfl)
@[simp] theorem e_v {C : Ctx} {ρ : Env} {S : Sto} {i : Nat} : evE C (.v i) ρ S = vK ρ[i]? S := by rw [evE]; rfl
def vT (o : Option (Option D)) (S : Sto) : R Bool := match o with
  | some (some d) => R.of (truD S d) S
  | _ => .bad
@[simp] theorem vT_ok {d : D} {S : Sto} : vT (some (some d)) S = R.of (truD S d) S := (rfl)
@[simp] theorem t_v {C : Ctx} {ρ : Env} {S : Sto} {i : Nat} : evT C (.v i) ρ S = vT ρ[i]? S := by rw [evT]; rfl
@[simp] theorem e_g {C : Ctx} {ρ : Env} {S : Sto} {x : String} : evE C (.g x) ρ S = R.of (C.glo x) S := by rw [evE]
@[simp] theorem e_bt {C : Ctx} {ρ : Env} {S : Sto} {x : String} : evE C (.bt x) ρ S = .ok (.ty x) S := by rw [evE]
def e_binB (o : PySem.Operator ) (a0 : D) (z : R D) : R D := z.bind fun y S2 => R.of (binD S2 o a0 y) S2
def e_binA (C : Ctx) (ρ : Env) (o : PySem.Operator ) (b : E) (z : R D) : R D := z.bind fun x S1 => e_binB o x (evE C b ρ S1)
@[simp] theorem e_binB_ok {o : PySem.Operator} {a0 y : D} {S2 : Sto} : e_binB o a0 (.ok y S2) = R.of (binD S2 o a0 y) S2 := (rfl)
@[simp] theorem e_binA_ok {C : Ctx} {ρ : Env} {o : PySem.Operator} {b : E} {x : D} {S1 : Sto} : e_binA C ρ o b (.ok x S1) = e_binB o x (evE C b ρ S1) := (rfl)
@[simp] theorem e_bin {C : Ctx} {ρ : Env} {S : Sto} {o : PySem.Operator} {a b : E} : evE C (.bin o a b) ρ S = e_binA C ρ o b (evE C a ρ S) := by rw [evE] <;> rfl
def e_cmpB (o : PySem.CmpOp ) (a0 : D) (z : R D) : R D := z.bind fun y S2 => R.of ((cmpD S2 o a0 y).map .bl) S2
def e_cmpA (C : Ctx) (ρ : Env) (o : PySem.CmpOp ) (b : E) (z : R D) : R D := z.bind fun x S1 => e_cmpB o x (evE C b ρ S1)
@[simp] theorem e_cmpB_ok {o : PySem.CmpOp} {a0 y : D} {S2 : Sto} : e_cmpB o a0 (.ok y S2) = R.of ((cmpD S2 o a0 y).map .bl) S2 := (rfl)
@[simp] theorem e_cmpA_ok {C : Ctx} {ρ : Env} {o : PySem.CmpOp} {b : E} {x : D} {S1 : Sto} : e_cmpA C ρ o b (.ok x S1) = e_cmpB o x (evE C b ρ S1) := (rfl)
@[simp] theorem e_cmp {C : Ctx} {ρ : Env} {S : Sto} {o : PySem.CmpOp} {a b : E} : evE C (.cmp o a b) ρ S = e_cmpA C ρ o b (evE C a ρ S) := by rw [evE] <;> rfl
def t_cmpB (o : PySem.CmpOp ) (a0 : D) (z : R D) : R Bool := z.bind fun y S2 => R.of (cmpD S2 o a0 y) S2
def t_cmpA (C : Ctx) (ρ : Env) (o : PySem.CmpOp ) (b : E) (z : R D) : R Bool := z.bind fun x S1 => t_cmpB o x (evE C b ρ S1)
@[simp] theorem t_cmpB_ok {o : PySem.CmpOp} {a0 y : D} {S2 : Sto} : t_cmpB o a0 (.ok y S2) = R.of (cmpD S2 o a0 y) S2 := (rfl)
@[simp] theorem t_cmpA_ok {C : Ctx} {ρ : Env} {o : PySem.CmpOp} {b : E} {x : D} {S1 : Sto} : t_cmpA C ρ o b (.ok x S1) = t_cmpB o x (evE C b ρ S1) := (rfl)
@[simp] theorem t_cmp {C : Ctx} {ρ : Env} {S : Sto} {o : PySem.CmpOp} {a b : E} : evT C (.cmp o a b) ρ S = t_cmpA C ρ o b (evE C a ρ S) := by rw [evT] <;> rfl
def e_idxB (a0 : D) (z : R D) : R D := z.bind fun y S2 => R.of (idxD S2 a0 y) S2
def e_idxA (C : Ctx) (ρ : Env) (b : E) (z : R D) : R D := z.bind fun x S1 => e_idxB x (evE C b ρ S1)
@[simp] theorem e_idxB_ok {a0 y : D} {S2 : Sto} : e_idxB a0 (.ok y S2) = R.of (idxD S2 a0 y) S2 := (rfl)
@[simp] theorem e_idxA_ok {C : Ctx} {ρ : Env} {b : E} {x : D} {S1 : Sto} : e_idxA C ρ b (.ok x S1) = e_idxB x (evE C b ρ S1) := (rfl)
@[simp] theorem e_idx {C : Ctx} {ρ : Env} {S : Sto} {a b : E} : evE C (.idx a b) ρ S = e_idxA C ρ b (evE C a ρ S) := by rw [evE] <;> rfl
def l_repB (a0 : D) (z : R D) : R (List D) := z.bind fun y S2 => (match listOf S2 a0, y with | some l, .int k => if -(2 ^ 63) ≤ k ∧ k < 2 ^ 63 ∧ l.length * k.toNat ≤ line then .ok (List.replicate k.toNat l).flatten S2 else .bad | _, _ => .bad)
def l_repA (C : Ctx) (ρ : Env) (b : E) (z : R D) : R (List D) := z.bind fun x S1 => l_repB x (evE C b ρ S1)
@[simp] theorem l_repB_ok {a0 y : D} {S2 : Sto} : l_repB a0 (.ok y S2) = (match listOf S2 a0, y with | some l, .int k => if -(2 ^ 63) ≤ k ∧ k < 2 ^ 63 ∧ l.length * k.toNat ≤ line then .ok (List.replicate k.toNat l).flatten S2 else .bad | _, _ => .bad) := (rfl)
@[simp] theorem l_repA_ok {C : Ctx} {ρ : Env} {b : E} {x : D} {S1 : Sto} : l_repA C ρ b (.ok x S1) = l_repB x (evE C b ρ S1) := (rfl)
@[simp] theorem l_rep {C : Ctx} {ρ : Env} {S : Sto} {a b : E} : evL C (.rep a b) ρ S = l_repA C ρ b (evE C a ρ S) := by rw [evL] <;> rfl
def l_catB (a0 : D) (z : R D) : R (List D) := z.bind fun y S2 => (match listOf S2 a0, listOf S2 y with | some l, some k => if l.length + k.length ≤ line then .ok (l ++ k) S2 else .bad | _, _ => .bad)
def l_catA (C : Ctx) (ρ : Env) (b : E) (z : R D) : R (List D) := z.bind fun x S1 => l_catB x (evE C b ρ S1)
@[simp] theorem l_catB_ok {a0 y : D} {S2 : Sto} : l_catB a0 (.ok y S2) = (match listOf S2 a0, listOf S2 y with | some l, some k => if l.length + k.length ≤ line then .ok (l ++ k) S2 else .bad | _, _ => .bad) := (rfl)
@[simp] theorem l_catA_ok {C : Ctx} {ρ : Env} {b : E} {x : D} {S1 : Sto} : l_catA C ρ b (.ok x S1) = l_catB x (evE C b ρ S1) := (rfl)
@[simp] theorem l_cat {C : Ctx} {ρ : Env} {S : Sto} {a b : E} : evL C (.cat a b) ρ S = l_catA C ρ b (evE C a ρ S) := by rw [evL] <;> rfl
def l_ofzB (a0 : D) (z : R D) : R (List D) := z.bind fun y S2 => R.of (ofzD a0 y) S2
def l_ofzA (C : Ctx) (ρ : Env) (b : E) (z : R D) : R (List D) := z.bind fun x S1 => l_ofzB x (evE C b ρ S1)
@[simp] theorem l_ofzB_ok {a0 y : D} {S2 : Sto} : l_ofzB a0 (.ok y S2) = R.of (ofzD a0 y) S2 := (rfl)
@[simp] theorem l_ofzA_ok {C : Ctx} {ρ : Env} {b : E} {x : D} {S1 : Sto} : l_ofzA C ρ b (.ok x S1) = l_ofzB x (evE C b ρ S1) := (rfl)
@[simp] theorem l_ofz {C : Ctx} {ρ : Env} {S : Sto} {a b : E} : evL C (.ofz a b) ρ S = l_ofzA C ρ b (evE C a ρ S) := by rw [evL] <;> rfl
def i_zipB (a0 : D) (z : R D) : R Itm := z.bind fun y S2 => R.of ((zipD a0 y).map .fix) S2
def i_zipA (C : Ctx) (ρ : Env) (b : E) (z : R D) : R Itm := z.bind fun x S1 => i_zipB x (evE C b ρ S1)
@[simp] theorem i_zipB_ok {a0 y : D} {S2 : Sto} : i_zipB a0 (.ok y S2) = R.of ((zipD a0 y).map .fix) S2 := (rfl)
@[simp] theorem i_zipA_ok {C : Ctx} {ρ : Env} {b : E} {x : D} {S1 : Sto} : i_zipA C ρ b (.ok x S1) = i_zipB x (evE C b ρ S1) := (rfl)
@[simp] theorem i_zip {C : Ctx} {ρ : Env} {S : Sto} {a b : E} : evIt C (.zip a b) ρ S = i_zipA C ρ b (evE C a ρ S) := by rw [evIt] <;> rfl
def e_negA (z : R D) : R D := z.bind fun x S1 => (match x with | .int i => .ok (.int (-i)) S1 | _ => .bad)
@[simp] theorem e_negA_ok {x : D} {S1 : Sto} : e_negA (.ok x S1) = (match x with | .int i => .ok (.int (-i)) S1 | _ => .bad) := (rfl)
@[simp] theorem e_neg {C : Ctx} {ρ : Env} {S : Sto} {a : E} : evE C (.neg a) ρ S = e_negA (evE C a ρ S) := by rw [evE] <;> rfl
def e_invA (z : R D) : R D := z.bind fun x S1 => (match x with | .int i => .ok (.int (PySem.Builtin.bitNot i)) S1 | _ => .bad)
@[simp] theorem e_invA_ok {x : D} {S1 : Sto} : e_invA (.ok x S1) = (match x with | .int i => .ok (.int (PySem.Builtin.bitNot i)) S1 | _ => .bad) := (rfl)
@[simp] theorem e_inv {C : Ctx} {ρ : Env} {S : Sto} {a : E} : evE C (.inv a) ρ S = e_invA (evE C a ρ S) := by rw [evE] <;> rfl
def e_notA (z : R D) : R D := z.bind fun x S1 => (match x with | .bl i => .ok (.bl (!i)) S1 | _ => .bad)
@[simp] theorem e_notA_ok {x : D} {S1 : Sto} : e_notA (.ok x S1) = (match x with | .bl i => .ok (.bl (!i)) S1 | _ => .bad) := (rfl)
@[simp] theorem e_not {C : Ctx} {ρ : Env} {S : Sto} {a : E} : evE C (.not a) ρ S = e_notA (evE C a ρ S) := by rw [evE] <;> rfl
def e_tupA (z : R (List D)) : R D := z.bind fun x S1 => (if x.length ≤ line then .ok (.tup x) S1 else .bad)
@[simp] theorem e_tupA_ok {x : (List D)} {S1 : Sto} : e_tupA (.ok x S1) = (if x.length ≤ line then .ok (.tup x) S1 else .bad) := (rfl)
@[simp] theorem e_tup {C : Ctx} {ρ : Env} {S : Sto} {a : Es} : evE C (.tup a) ρ S = e_tupA (evEs C a ρ S) := by rw [evE] <;> rfl
def e_frzA (z : R (List D)) : R D := z.bind fun x S1 => .ok (.lst x) S1
@[simp] theorem e_frzA_ok {x : (List D)} {S1 : Sto} : e_frzA (.ok x S1) = .ok (.lst x) S1 := (rfl)
@[simp] theorem e_frz {C : Ctx} {ρ : Env} {S : Sto} {a : L} : evE C (.frz a) ρ S = e_frzA (evL C a ρ S) := by rw [evE] <;> rfl
def e_boxA (z : R (List D)) : R D := z.bind fun x S1 => .ok (.ref S1.length) (S1 ++ [.lst x])
@[simp] theorem e_boxA_ok {x : (List D)} {S1 : Sto} : e_boxA (.ok x S1) = .ok (.ref S1.length) (S1 ++ [.lst x]) := (rfl)
@[simp] theorem e_box {C : Ctx} {ρ : Env} {S : Sto} {a : L} : evE C (.box a) ρ S = e_boxA (evL C a ρ S) := by rw [evE] <;> rfl
def t_notA (z : R Bool) : R Bool := z.bind fun x S1 => .ok (!x) S1
@[simp] theorem t_notA_ok {x : Bool} {S1 : Sto} : t_notA (.ok x S1) = .ok (!x) S1 := (rfl)
@[simp] theorem t_not {C : Ctx} {ρ : Env} {S : Sto} {a : E} : evT C (.not a) ρ S = t_notA (evT C a ρ S) := by rw [evT] <;> rfl
def l_dispA (z : R (List D)) : R (List D) := z.bind fun x S1 => (if x.length ≤ line then .ok x S1 else .bad)
@[simp] theorem l_dispA_ok {x : (List D)} {S1 : Sto} : l_dispA (.ok x S1) = (if x.length ≤ line then .ok x S1 else .bad) := (rfl)
@[simp] theorem l_disp {C : Ctx} {ρ : Env} {S : Sto} {a : Es} : evL C (.disp a) ρ S = l_dispA (evEs C a ρ S) := by rw [evL] <;> rfl
def l_ofcA (z : R D) : R (List D) := z.bind fun x S1 => R.of (itemsOf S1 x) S1
@[simp] theorem l_ofcA_ok {x : D} {S1 : Sto} : l_ofcA (.ok x S1) = R.of (itemsOf S1 x) S1 := (rfl)
@[simp] theorem l_ofc {C : Ctx} {ρ : Env} {S : Sto} {a : E} : evL C (.ofc a) ρ S = l_ofcA (evE C a ρ S) := by rw [evL] <;> rfl
def i_seqA (z : R D) : R Itm := z.bind fun x S1 => R.of (itmD S1 x) S1
@[simp] theorem i_seqA_ok {x : D} {S1 : Sto} : i_seqA (.ok x S1) = R.of (itmD S1 x) S1 := (rfl)
@[simp] theorem i_seq {C : Ctx} {ρ : Env} {S : Sto} {a : E} : evIt C (.seq a) ρ S = i_seqA (evE C a ρ S) := by rw [evIt] <;> rfl
def i_litA (z : R (List D)) : R Itm := z.bind fun x S1 => .ok (.fix x) S1
@[simp] theorem i_litA_ok {x : (List D)} {S1 : Sto} : i_litA (.ok x S1) = .ok (.fix x) S1 := (rfl)
@[simp] theorem i_lit {C : Ctx} {ρ : Env} {S : Sto} {a : L} : evIt C (.lit a) ρ S = i_litA (evL C a ρ S) := by rw [evIt] <;> rfl
def i_rngA (z : R (List D)) : R Itm := z.bind fun x S1 => R.of ((rngD x).map .fix) S1
@[simp] theorem i_rngA_ok {x : (List D)} {S1 : Sto} : i_rngA (.ok x S1) = R.of ((rngD x).map .fix) S1 := (rfl)
@[simp] theorem i_rng {C : Ctx} {ρ : Env} {S : Sto} {a : Es} : evIt C (.rng a) ρ S = i_rngA (evEs C a ρ S) := by rw [evIt] <;> rfl
def i_rng3A (z : R (List D)) : R Itm := z.bind fun x S1 => R.of ((rng3D x).map .fix) S1
@[simp] theorem i_rng3A_ok {x : (List D)} {S1 : Sto} : i_rng3A (.ok x S1) = R.of ((rng3D x).map .fix) S1 := (rfl)
@[simp] theorem i_rng3 {C : Ctx} {ρ : Env} {S : Sto} {a : Es} : evIt C (.rng3 a) ρ S = i_rng3A (evEs C a ρ S) := by rw [evIt] <;> rfl
def i_enmA (z : R D) : R Itm := z.bind fun x S1 => R.of ((enmD x).map .fix) S1
@[simp] theorem i_enmA_ok {x : D} {S1 : Sto} : i_enmA (.ok x S1) = R.of ((enmD x).map .fix) S1 := (rfl)
@[simp] theorem i_enm {C : Ctx} {ρ : Env} {S : Sto} {a : E} : evIt C (.enm a) ρ S = i_enmA (evE C a ρ S) := by rw [evIt] <;> rfl
def l_sstA (z : R D) : R (List D) := z.bind fun x S1 => R.of (sstD S1 x) S1
@[simp] theorem l_sstA_ok {x : D} {S1 : Sto} : l_sstA (.ok x S1) = R.of (sstD S1 x) S1 := (rfl)
@[simp] theorem l_sst {C : Ctx} {ρ : Env} {S : Sto} {a : E} : evL C (.sst a) ρ S = l_sstA (evE C a ρ S) := by rw [evL] <;> rfl
def l_ofrA (z : R (List D)) : R (List D) := z.bind fun x S1 => R.of (ofrD x) S1
@[simp] theorem l_ofrA_ok {x : (List D)} {S1 : Sto} : l_ofrA (.ok x S1) = R.of (ofrD x) S1 := (rfl)
@[simp] theorem l_ofr {C : Ctx} {ρ : Env} {S : Sto} {a : Es} : evL C (.ofr a) ρ S = l_ofrA (evEs C a ρ S) := by rw [evL] <;> rfl
def i_revA (z : R D) : R Itm := z.bind fun x S1 => R.of ((revD x).map .fix) S1
@[simp] theorem i_revA_ok {x : D} {S1 : Sto} : i_revA (.ok x S1) = R.of ((revD x).map .fix) S1 := (rfl)
@[simp] theorem i_rev {C : Ctx} {ρ : Env} {S : Sto} {a : E} : evIt C (.rev a) ρ S = i_revA (evE C a ρ S) := by rw [evIt] <;> rfl
def l_revA (z : R D) : R (List D) := z.bind fun x S1 => (R.of (listOf S1 x) S1).bind fun l S2 => .ok l.reverse S2
@[simp] theorem l_revA_ok {x : D} {S1 : Sto} : l_revA (.ok x S1) = R.of ((listOf S1 x).map List.reverse) S1 := by unfold l_revA; simp only [R.bind_ok]; cases listOf S1 x <;> rfl
@[simp] theorem l_rev {C : Ctx} {ρ : Env} {S : Sto} {a : E} : evL C (.rev a) ρ S = l_revA (evE C a ρ S) := by rw [evL] <;> rfl
def kgB (o : Option D) (y : D) (z : R D) : R D := z.bind fun z S2 => R.of (kgetD o y z) S2
@[simp] theorem kgB_ok {o : Option D} {y z : D} {S : Sto} : kgB o y (.ok z S) = R.of (kgetD o y z) S := (rfl)
def kgA (C : Ctx) (ρ : Env) (x : String) (f : E) (z : R D) : R D := z.bind fun y S1 => kgB (C.glo x) y (evE C f ρ S1)
@[simp] theorem kgA_ok {C : Ctx} {ρ : Env} {x : String} {f : E} {y : D} {S : Sto} : kgA C ρ x f (.ok y S) = kgB (C.glo x) y (evE C f ρ S) := (rfl)
@[simp] theorem e_kget {C : Ctx} {ρ : Env} {S : Sto} {x : String} {k f : E} : evE C (.kget x k f) ρ S = kgA C ρ x f (evE C k ρ S) := by rw [evE] <;> rfl
def wgB (l : List (String × String)) (y : D) (z : R D) : R D := z.bind fun z S2 => R.of (wgetD l y z) S2
@[simp] theorem wgB_ok {l : List (String × String)} {y z : D} {S : Sto} : wgB l y (.ok z S) = R.of (wgetD l y z) S := (rfl)
def wgA (C : Ctx) (ρ : Env) (l : List (String × String)) (f : E) (z : R D) : R D := z.bind fun y S1 => wgB l y (evE C f ρ S1)
@[simp] theorem wgA_ok {C : Ctx} {ρ : Env} {l : List (String × String)} {f : E} {y : D} {S : Sto} : wgA C ρ l f (.ok y S) = wgB l y (evE C f ρ S) := (rfl)
@[simp] theorem e_wget {C : Ctx} {ρ : Env} {S : Sto} {l : List (String × String)} {k f : E} : evE C (.wget l k f) ρ S = wgA C ρ l f (evE C k ρ S) := by rw [evE] <;> rfl
def fcA (C : Ctx) (f : String) (z : R (List D)) : R D := z.bind fun l S1 => C.fn f l S1
@[simp] theorem fcA_ok {C : Ctx} {f : String} {l : List D} {S1 : Sto} : fcA C f (.ok l S1) = C.fn f l S1 := (rfl)
@[simp] theorem e_fc {C : Ctx} {ρ : Env} {S : Sto} {f : String} {es : Es} : evE C (.fc f es) ρ S = fcA C f (evEs C es ρ S) := by rw [evE] <;> rfl
def biA (b : String) (z : R (List D)) : R D := z.bind fun l S1 => R.of (biD S1 b l) S1
@[simp] theorem biA_ok {b : String} {l : List D} {S1 : Sto} : biA b (.ok l S1) = R.of (biD S1 b l) S1 := (rfl)
@[simp] theorem e_bi {C : Ctx} {ρ : Env} {S : Sto} {f : String} {es : Es} : evE C (.bi f es) ρ S = biA f (evEs C es ρ S) := by rw [evE] <;> rfl
def truR (z : R D) : R Bool := z.bind fun x S2 => R.of (truD S2 x) S2
@[simp] theorem truR_ok {x : D} {S : Sto} : truR (.ok x S) = R.of (truD S x) S := (rfl)
@[simp] theorem truR_exc {x : X} {S : Sto} : truR (.exc x S) = .exc x S := (rfl)
theorem R.assoc {α β γ : Type} {r : R α} {f : α → Sto → R β} {g : β → Sto → R γ} : (r.bind f).bind g = r.bind fun a S => (f a S).bind g := by cases r <;> rfl
@[simp] theorem t_fc {C : Ctx} {ρ : Env} {S : Sto} {f : String} {es : Es} : evT C (.fc f es) ρ S = truR (fcA C f (evEs C es ρ S)) := by rw [evT]; unfold truR fcA; rw [R.assoc]
@[simp] theorem t_bi {C : Ctx} {ρ : Env} {S : Sto} {f : String} {es : Es} : evT C (.bi f es) ρ S = truR (biA f (evEs C es ρ S)) := by rw [evT]; unfold truR biA; rw [R.assoc]
@[simp] theorem t_idx {C : Ctx} {ρ : Env} {S : Sto} {a b : E} : evT C (.idx a b) ρ S = truR (e_idxA C ρ b (evE C a ρ S)) := by rw [evT]; unfold truR e_idxA e_idxB; simp only [R.assoc]
@[simp] theorem t_bin {C : Ctx} {ρ : Env} {S : Sto} {o : PySem.Operator} {a b : E} : evT C (.bin o a b) ρ S = truR (e_binA C ρ o b (evE C a ρ S)) := by rw [evT]; unfold truR e_binA e_binB; simp only [R.assoc]
@[simp] theorem t_cB {C : Ctx} {ρ : Env} {S : Sto} {b : Bool} : evT C (.cB b) ρ S = .ok b S := by rw [evT]
def chnC (x2 : Bool) (o2 : PySem.CmpOp) (y : D) (z : R D) : R D := z.bind fun z S3 => R.of ((cmpD S3 o2 y z).map .bl) S3
@[simp] theorem chnC_ok {x2 : Bool} {o2 : PySem.CmpOp} {y z : D} {S : Sto} : chnC x2 o2 y (.ok z S) = R.of ((cmpD S o2 y z).map .bl) S := (rfl)
def chnB (C : Ctx) (ρ : Env) (o o2 : PySem.CmpOp) (c : E) (x : D) (z : R D) : R D := z.bind fun y S2 => (R.of (cmpD S2 o x y) S2).bind fun k S2 => if k = true then chnC true o2 y (evE C c ρ S2) else .ok (.bl false) S2
def chnK (C : Ctx) (ρ : Env) (o2 : PySem.CmpOp) (c : E) (y : D) (k : Option Bool) (S : Sto) : R D := match k with
  | some true => chnC true o2 y (evE C c ρ S)
  | some false => .ok (.bl false) S
  | none => .bad
@[simp] theorem chnK_t {C : Ctx} {ρ : Env} {o2 : PySem.CmpOp} {c : E} {y : D} {S : Sto} : chnK C ρ o2 c y (some true) S = chnC true o2 y (evE C c ρ S) := (rfl)
@[simp] theorem chnK_f {C : Ctx} {ρ : Env} {o2 : PySem.CmpOp} {c : E} {y : D} {S : Sto} : chnK C ρ o2 c y (some false) S = .ok (.bl false) S := (rfl)
@[simp] theorem chnB_ok {C : Ctx} {ρ : Env} {o o2 : PySem.CmpOp} {c : E} {x y : D} {S2 : Sto} : chnB C ρ o o2 c x (.ok y S2) = chnK C ρ o2 c y (cmpD S2 o x y) S2 := by
  unfold chnB
  simp only [R.bind_ok]
  cases cmpD S2 o x y with
  | none => rfl
  | some k => cases k <;> rfl
def chnA (C : Ctx) (ρ : Env) (o o2 : PySem.CmpOp) (b c : E) (z : R D) : R D := z.bind fun x S1 => chnB C ρ o o2 c x (evE C b ρ S1)
@[simp] theorem chnA_ok {C : Ctx} {ρ : Env} {o o2 : PySem.CmpOp} {b c : E} {x : D} {S1 : Sto} : chnA C ρ o o2 b c (.ok x S1) = chnB C ρ o o2 c x (evE C b ρ S1) := (rfl)
@[simp] theorem e_chn {C : Ctx} {ρ : Env} {S : Sto} {o o2 : PySem.CmpOp} {a b c : E} : evE C (.chn o o2 a b c) ρ S = chnA C ρ o o2 b c (evE C a ρ S) := by rw [evE] <;> rfl
def tchnC (o2 : PySem.CmpOp) (y : D) (z : R D) : R Bool := z.bind fun z S3 => R.of (cmpD S3 o2 y z) S3
@[simp] theorem tchnC_ok {o2 : PySem.CmpOp} {y z : D} {S : Sto} : tchnC o2 y (.ok z S) = R.of (cmpD S o2 y z) S := (rfl)
def tchnK (C : Ctx) (ρ : Env) (o2 : PySem.CmpOp) (c : E) (y : D) (k : Option Bool) (S : Sto) : R Bool := match k with
  | some true => tchnC o2 y (evE C c ρ S)
  | some false => .ok false S
  | none => .bad
@[simp] theorem tchnK_t {C : Ctx} {ρ : Env} {o2 : PySem.CmpOp} {c : E} {y : D} {S : Sto} : tchnK C ρ o2 c y (some true) S = tchnC o2 y (evE C c ρ S) := (rfl)
@[simp] theorem tchnK_f {C : Ctx} {ρ : Env} {o2 : PySem.CmpOp} {c : E} {y : D} {S : Sto} : tchnK C ρ o2 c y (some false) S = .ok false S := (rfl)
def tchnB (C : Ctx) (ρ : Env) (o o2 : PySem.CmpOp) (c : E) (x : D) (z : R D) : R Bool := z.bind fun y S2 => (R.of (cmpD S2 o x y) S2).bind fun k S2 => if k = true then tchnC o2 y (evE C c ρ S2) else .ok false S2
@[simp] theorem tchnB_ok {C : Ctx} {ρ : Env} {o o2 : PySem.CmpOp} {c : E} {x y : D} {S2 : Sto} : tchnB C ρ o o2 c x (.ok y S2) = tchnK C ρ o2 c y (cmpD S2 o x y) S2 := by
  unfold tchnB
  simp only [R.bind_ok]
  cases cmpD S2 o x y with
  | none => rfl
  | some k => cases k <;> rfl
def tchnA (C : Ctx) (ρ : Env) (o o2 : PySem.CmpOp) (b c : E) (z : R D) : R Bool := z.bind fun x S1 => tchnB C ρ o o2 c x (evE C b ρ S1)
@[simp] theorem tchnA_ok {C : Ctx} {ρ : Env} {o o2 : PySem.CmpOp} {b c : E} {x : D} {S1 : Sto} : tchnA C ρ o o2 b c (.ok x S1) = tchnB C ρ o o2 c x (evE C b ρ S1) := (rfl)
@[simp] theorem t_chn {C : Ctx} {ρ : Env} {S : Sto} {o o2 : PySem.CmpOp} {a b c : E} : evT C (.chn o o2 a b c) ρ S = tchnA C ρ o o2 b c (evE C a ρ S) := by rw [evT] <;> rfl
/-! and, or -/
def tAndA (C : Ctx) (ρ : Env) (r : Es) (z : R Bool) : R Bool := z.bind fun k S1 => if k = true then evTAnd C r ρ S1 else .ok false S1
@[simp] theorem tAndA_t {C : Ctx} {ρ : Env} {r : Es} {S : Sto} : tAndA C ρ r (.ok true S) = evTAnd C r ρ S := (rfl)
@[simp] theorem tAndA_f {C : Ctx} {ρ : Env} {r : Es} {S : Sto} : tAndA C ρ r (.ok false S) = .ok false S := (rfl)
@[simp] theorem tAnd_nil {C : Ctx} {ρ : Env} {S : Sto} : evTAnd C .nil ρ S = .ok true S := by rw [evTAnd]
@[simp] theorem tAnd_cons {C : Ctx} {ρ : Env} {S : Sto} {e : E} {r : Es} : evTAnd C (.cons e r) ρ S = tAndA C ρ r (evT C e ρ S) := by rw [evTAnd]; rfl
@[simp] theorem t_band {C : Ctx} {ρ : Env} {S : Sto} {es : Es} : evT C (.band es) ρ S = evTAnd C es ρ S := by rw [evT]
def tOrA (C : Ctx) (ρ : Env) (r : Es) (z : R Bool) : R Bool := z.bind fun k S1 => if k = true then .ok true S1 else evTOr C r ρ S1
@[simp] theorem tOrA_t {C : Ctx} {ρ : Env} {r : Es} {S : Sto} : tOrA C ρ r (.ok true S) = .ok true S := (rfl)
@[simp] theorem tOrA_f {C : Ctx} {ρ : Env} {r : Es} {S : Sto} : tOrA C ρ r (.ok false S) = evTOr C r ρ S := (rfl)
@[simp] theorem tOr_nil {C : Ctx} {ρ : Env} {S : Sto} : evTOr C .nil ρ S = .ok false S := by rw [evTOr]
@[simp] theorem tOr_cons {C : Ctx} {ρ : Env} {S : Sto} {e : E} {r : Es} : evTOr C (.cons e r) ρ S = tOrA C ρ r (evT C e ρ S) := by rw [evTOr]; rfl
@[simp] theorem t_bor {C : Ctx} {ρ : Env} {S : Sto} {es : Es} : evT C (.bor es) ρ S = evTOr C es ρ S := by rw [evT]
def eAndA (C : Ctx) (ρ : Env) (r : Es) (z : R D) : R D := z.bind fun x S1 => match x with
  | .bl true => evAnd C r ρ S1
  | .bl false => .ok (.bl false) S1
  | _ => .bad
@[simp] theorem eAndA_t {C : Ctx} {ρ : Env} {r : Es} {S : Sto} : eAndA C ρ r (.ok (.bl true) S) = evAnd C r ρ S := (rfl)
@[simp] theorem eAndA_f {C : Ctx} {ρ : Env} {r : Es} {S : Sto} : eAndA C ρ r (.ok (.bl false) S) = .ok (.bl false) S := (rfl)
@[simp] theorem eAnd_one {C : Ctx} {ρ : Env} {S : Sto} {e : E} : evAnd C (.cons e .nil) ρ S = evE C e ρ S := by rw [evAnd]
@[simp] theorem eAnd_cons {C : Ctx} {ρ : Env} {S : Sto} {e e2 : E} {r : Es} : evAnd C (.cons e (.cons e2 r)) ρ S = eAndA C ρ (.cons e2 r) (evE C e ρ S) := by rw [evAnd]; rfl
@[simp] theorem e_band {C : Ctx} {ρ : Env} {S : Sto} {es : Es} : evE C (.band es) ρ S = evAnd C es ρ S := by rw [evE]
def eOrA (C : Ctx) (ρ : Env) (r : Es) (z : R D) : R D := z.bind fun x S1 => match x with
  | .bl false => evOr C r ρ S1
  | .bl true => .ok (.bl true) S1
  | _ => .bad
@[simp] theorem eOrA_t {C : Ctx} {ρ : Env} {r : Es} {S : Sto} : eOrA C ρ r (.ok (.bl true) S) = .ok (.bl true) S := (rfl)
@[simp] theorem eOrA_f {C : Ctx} {ρ : Env} {r : Es} {S : Sto} : eOrA C ρ r (.ok (.bl false) S) = evOr C r ρ S := (rfl)
@[simp] theorem eOr_one {C : Ctx} {ρ : Env} {S : Sto} {e : E} : evOr C (.cons e .nil) ρ S = evE C e ρ S := by rw [evOr]
@[simp] theorem eOr_cons {C : Ctx} {ρ : Env} {S : Sto} {e e2 : E} {r : Es} : evOr C (.cons e (.cons e2 r)) ρ S = eOrA C ρ (.cons e2 r) (evE C e ρ S) := by rw [evOr]; rfl
@[simp] theorem e_bor {C : Ctx} {ρ : Env} {S : Sto} {es : Es} : evE C (.bor es) ρ S = evOr C es ρ S := by rw [evE]
def iteA (C : Ctx) (ρ : Env) (a b : E) (z : R Bool) : R D := z.bind fun k S1 => if k = true then evE C a ρ S1 else evE C b ρ S1
@[simp] theorem iteA_t {C : Ctx} {ρ : Env} {a b : E} {S : Sto} : iteA C ρ a b (.ok true S) = evE C a ρ S := (rfl)
@[simp] theorem iteA_f {C : Ctx} {ρ : Env} {a b : E} {S : Sto} : iteA C ρ a b (.ok false S) = evE C b ρ S := (rfl)
@[simp] theorem e_ite {C : Ctx} {ρ : Env} {S : Sto} {c a b : E} : evE C (.ite c a b) ρ S = iteA C ρ a b (evT C c ρ S) := by rw [evE]; rfl
/-! lists of expressions -/
def esB (x : D) (z : R (List D)) : R (List D) := z.bind fun l S2 => .ok (x :: l) S2
@[simp] theorem esB_ok {x : D} {l : List D} {S : Sto} : esB x (.ok l S) = .ok (x :: l) S := (rfl)
def esA (C : Ctx) (ρ : Env) (r : Es) (z : R D) : R (List D) := z.bind fun x S1 => esB x (evEs C r ρ S1)
@[simp] theorem esA_ok {C : Ctx} {ρ : Env} {r : Es} {x : D} {S : Sto} : esA C ρ r (.ok x S) = esB x (evEs C r ρ S) := (rfl)
@[simp] theorem es_nil {C : Ctx} {ρ : Env} {S : Sto} : evEs C .nil ρ S = .ok [] S := by rw [evEs]
@[simp] theorem es_cons {C : Ctx} {ρ : Env} {S : Sto} {e : E} {r : Es} : evEs C (.cons e r) ρ S = esA C ρ r (evE C e ρ S) := by rw [evEs]; rfl
/-! slices -/
def pNat (p : Bool) (z : R D) : R (Option Int) := if p = true then .ok none (match z with | .ok _ S => S | .exc _ S => S | .bad => []) else z.bind fun x S => match x with | .int i => .ok (some i) S | _ => .bad
def partK (C : Ctx) (ρ : Env) (e : E) (S : Sto) : R (Option Int) := partE (isCN e) (evE C e) ρ S
@[simp] theorem partK_N {C : Ctx} {ρ : Env} {S : Sto} : partK C ρ .cN S = .ok none S := (rfl)
def partI (z : R D) : R (Option Int) := z.bind fun x S => match x with | .int i => .ok (some i) S | _ => .bad
@[simp] theorem partI_ok {i : Int} {S : Sto} : partI (.ok (.int i) S) = .ok (some i) S := (rfl)
theorem partK_e {C : Ctx} {ρ : Env} {S : Sto} {e : E} (h : isCN e = false) : partK C ρ e S = partI (evE C e ρ S) := by unfold partK partI; rw [h]; rfl
@[simp] theorem partK_cI {C : Ctx} {ρ : Env} {S : Sto} {i : Int} : partK C ρ (.cI i) S = .ok (some i) S := by rw [partK_e rfl, e_cI, partI_ok]
@[simp] theorem partK_v {C : Ctx} {ρ : Env} {S : Sto} {i : Nat} : partK C ρ (.v i) S = partI (vK ρ[i]? S) := by rw [partK_e rfl, e_v]
@[simp] theorem partK_bin {C : Ctx} {ρ : Env} {S : Sto} {o : PySem.Operator} {a b : E} : partK C ρ (.bin o a b) S = partI (e_binA C ρ o b (evE C a ρ S)) := by rw [partK_e rfl, e_bin]
@[simp] theorem partK_neg {C : Ctx} {ρ : Env} {S : Sto} {a : E} : partK C ρ (.neg a) S = partI (e_negA (evE C a ρ S)) := by rw [partK_e rfl, e_neg]
@[simp] theorem partK_fc {C : Ctx} {ρ : Env} {S : Sto} {f : String} {a : Es} : partK C ρ (.fc f a) S = partI (fcA C f (evEs C a ρ S)) := by rw [partK_e rfl, e_fc]
@[simp] theorem partK_bi {C : Ctx} {ρ : Env} {S : Sto} {f : String} {a : Es} : partK C ρ (.bi f a) S = partI (biA f (evEs C a ρ S)) := by rw [partK_e rfl, e_bi]
@[simp] theorem partK_idx {C : Ctx} {ρ : Env} {S : Sto} {a b : E} : partK C ρ (.idx a b) S = partI (e_idxA C ρ b (evE C a ρ S)) := by rw [partK_e rfl, e_idx]
@[simp] theorem partK_g {C : Ctx} {ρ : Env} {S : Sto} {x : String} : partK C ρ (.g x) S = partI (R.of (C.glo x) S) := by rw [partK_e rfl, e_g]
def slC (x : D) (p : Option Int) (z : R (Option Int)) : R D := z.bind fun q S3 => R.of (slcD S3 x p q) S3
@[simp] theorem slC_ok {x : D} {p q : Option Int} {S : Sto} : slC x p (.ok q S) = R.of (slcD S x p q) S := (rfl)
def slB (C : Ctx) (ρ : Env) (hi : E) (x : D) (z : R (Option Int)) : R D := z.bind fun p S2 => slC x p (partK C ρ hi S2)
@[simp] theorem slB_ok {C : Ctx} {ρ : Env} {hi : E} {x : D} {p : Option Int} {S : Sto} : slB C ρ hi x (.ok p S) = slC x p (partK C ρ hi S) := (rfl)
def slA (C : Ctx) (ρ : Env) (lo hi : E) (z : R D) : R D := z.bind fun x S1 => slB C ρ hi x (partK C ρ lo S1)
@[simp] theorem slA_ok {C : Ctx} {ρ : Env} {lo hi : E} {x : D} {S : Sto} : slA C ρ lo hi (.ok x S) = slB C ρ hi x (partK C ρ lo S) := (rfl)
@[simp] theorem e_slc {C : Ctx} {ρ : Env} {S : Sto} {a lo hi : E} : evE C (.slc a lo hi) ρ S = slA C ρ lo hi (evE C a ρ S) := by rw [evE]; rfl
def lslD (p q : Option Int) (x : Option (List D)) (S : Sto) : R (List D) := match x with
  | some l => .ok (cutL l p q) S
  | none => .bad
@[simp] theorem lslD_ok {p q : Option Int} {l : List D} {S : Sto} : lslD p q (some l) S = .ok (cutL l p q) S := (rfl)
def lslC (x : D) (p : Option Int) (z : R (Option Int)) : R (List D) := z.bind fun q S3 => (R.of (listOf S3 x) S3).bind fun l S3 => .ok (cutL l p q) S3
@[simp] theorem lslC_ok {x : D} {p q : Option Int} {S : Sto} : lslC x p (.ok q S) = lslD p q (listOf S x) S := by
  unfold lslC lslD
  rw [R.bind_ok]
  cases listOf S x <;> rfl
def lslB (C : Ctx) (ρ : Env) (hi : E) (x : D) (z : R (Option Int)) : R (List D) := z.bind fun p S2 => lslC x p (partK C ρ hi S2)
@[simp] theorem lslB_ok {C : Ctx} {ρ : Env} {hi : E} {x : D} {p : Option Int} {S : Sto} : lslB C ρ hi x (.ok p S) = lslC x p (partK C ρ hi S) := (rfl)
def lslA (C : Ctx) (ρ : Env) (lo hi : E) (z : R D) : R (List D) := z.bind fun x S1 => lslB C ρ hi x (partK C ρ lo S1)
@[simp] theorem lslA_ok {C : Ctx} {ρ : Env} {lo hi : E} {x : D} {S : Sto} : lslA C ρ lo hi (.ok x S) = lslB C ρ hi x (partK C ρ lo S) := (rfl)
@[simp] theorem l_slc {C : Ctx} {ρ : Env} {S : Sto} {a lo hi : E} : evL C (.slc a lo hi) ρ S = lslA C ρ lo hi (evE C a ρ S) := by rw [evL]; rfl
@[simp] theorem e_mv {C : Ctx} {ρ : Env} {S : Sto} {i : Nat} : evE C (.mv i) ρ S = match ρ[i]? with
    | some (some (.ref h)) => (match S[h]? with
      | some (.lst l) => .ok (.lst l) (S.set h .dead)
      | _ => .bad)
    | _ => .bad := by rw [evE] <;> rfl
/-! targets -/
@[simp] theorem a_nm {C : Ctx} {ρ : Env} {S : Sto} {i : Nat} {d : D} : asg C (.nm i) d ρ S = if i < ρ.length then .ok (ρ.set i (some d)) S else .bad := by rw [asg]
@[simp] theorem a_tp {C : Ctx} {ρ : Env} {S : Sto} {ts : Ts} {l : List D} : asg C (.tp ts) (.tup l) ρ S = asgs C ts l ρ S := by rw [asg]
def tprA (C : Ctx) (ts : Ts) (ρ : Env) (S : Sto) (o : Option O) : R Env := match o with
  | some (.lst l) => asgs C ts l ρ S
  | _ => .bad
@[simp] theorem tprA_ok {C : Ctx} {ts : Ts} {ρ : Env} {S : Sto} {l : List D} : tprA C ts ρ S (some (.lst l)) = asgs C ts l ρ S := (rfl)
@[simp] theorem a_tpr {C : Ctx} {ρ : Env} {S : Sto} {ts : Ts} {h : Nat} : asg C (.tp ts) (.ref h) ρ S = tprA C ts ρ S S[h]? := by
  rw [asg]
  dsimp only
  unfold tprA
  cases e : S[h]? with
  | none => simp only [e]
  | some o => cases o <;> simp only [e]
@[simp] theorem a_tpl {C : Ctx} {ρ : Env} {S : Sto} {ts : Ts} {l : List D} : asg C (.tp ts) (.lst l) ρ S = asgs C ts l ρ S := by rw [asg]
def asA (C : Ctx) (r : Ts) (l : List D) (z : R Env) : R Env := z.bind fun ρ1 S1 => asgs C r l ρ1 S1
@[simp] theorem asA_ok {C : Ctx} {r : Ts} {l : List D} {ρ : Env} {S : Sto} : asA C r l (.ok ρ S) = asgs C r l ρ S := (rfl)
@[simp] theorem as_nil {C : Ctx} {ρ : Env} {S : Sto} : asgs C .nil [] ρ S = .ok ρ S := by rw [asgs]
@[simp] theorem as_cons {C : Ctx} {ρ : Env} {S : Sto} {t : T} {r : Ts} {d : D} {l : List D} : asgs C (.cons t r) (d :: l) ρ S = asA C r l (asg C t d ρ S) := by rw [asgs]; rfl
def subB (ρ : Env) (d x : D) (z : R D) : R Env := z.bind fun y S2 => setD ρ S2 d x y
@[simp] theorem subB_ok {ρ : Env} {d x y : D} {S : Sto} : subB ρ d x (.ok y S) = setD ρ S d x y := (rfl)
def subA (C : Ctx) (ρ : Env) (i : E) (d : D) (z : R D) : R Env := z.bind fun x S1 => subB ρ d x (evE C i ρ S1)
@[simp] theorem subA_ok {C : Ctx} {ρ : Env} {i : E} {d x : D} {S : Sto} : subA C ρ i d (.ok x S) = subB ρ d x (evE C i ρ S) := (rfl)
@[simp] theorem a_sub {C : Ctx} {ρ : Env} {S : Sto} {o i : E} {d : D} : asg C (.sub o i) d ρ S = subA C ρ i d (evE C o ρ S) := by rw [asg]; rfl
/-! statements -/
def nxA (z : R Env) : R (Fl × Env) := z.bind fun ρ1 S2 => .ok (.nx, ρ1) S2
@[simp] theorem nxA_ok {ρ : Env} {S : Sto} : nxA (.ok ρ S) = .ok (.nx, ρ) S := (rfl)
def setA (C : Ctx) (t : T) (ρ : Env) (z : R D) : R (Fl × Env) := z.bind fun d S1 => nxA (asg C t d ρ S1)
@[simp] theorem setA_ok {C : Ctx} {t : T} {ρ : Env} {d : D} {S : Sto} : setA C t ρ (.ok d S) = nxA (asg C t d ρ S) := (rfl)
@[simp] theorem s_asg {C : Ctx} {ρ : Env} {S : Sto} {t : T} {e : E} : evS C (.asg t e) ρ S = setA C t ρ (evE C e ρ S) := by rw [evS]; rfl
def exA (ρ : Env) (z : R D) : R (Fl × Env) := z.bind fun _ S1 => .ok (.nx, ρ) S1
@[simp] theorem exA_ok {ρ : Env} {d : D} {S : Sto} : exA ρ (.ok d S) = .ok (.nx, ρ) S := (rfl)
@[simp] theorem s_ex {C : Ctx} {ρ : Env} {S : Sto} {e : E} : evS C (.ex e) ρ S = exA ρ (evE C e ρ S) := by rw [evS]; rfl
def retA (ρ : Env) (z : R D) : R (Fl × Env) := z.bind fun d S1 => .ok (.rt d, ρ) S1
@[simp] theorem retA_ok {ρ : Env} {d : D} {S : Sto} : retA ρ (.ok d S) = .ok (.rt d, ρ) S := (rfl)
@[simp] theorem s_ret {C : Ctx} {ρ : Env} {S : Sto} {e : E} : evS C (.ret e) ρ S = retA ρ (evE C e ρ S) := by rw [evS]; rfl
@[simp] theorem s_retN {C : Ctx} {ρ : Env} {S : Sto} : evS C .retN ρ S = .ok (.rt .non, ρ) S := by rw [evS]
@[simp] theorem s_pass {C : Ctx} {ρ : Env} {S : Sto} : evS C .pass ρ S = .ok (.nx, ρ) S := by rw [evS]
@[simp] theorem s_brk {C : Ctx} {ρ : Env} {S : Sto} : evS C .brk ρ S = .ok (.bk, ρ) S := by rw [evS]
@[simp] theorem s_cnt {C : Ctx} {ρ : Env} {S : Sto} : evS C .cnt ρ S = .ok (.ct, ρ) S := by rw [evS]
def ifA (C : Ctx) (ρ : Env) (a b : Ss) (z : R Bool) : R (Fl × Env) := z.bind fun k S1 => if k = true then evSs C a ρ S1 else evSs C b ρ S1
@[simp] theorem ifA_t {C : Ctx} {ρ : Env} {a b : Ss} {S : Sto} : ifA C ρ a b (.ok true S) = evSs C a ρ S := (rfl)
@[simp] theorem ifA_f {C : Ctx} {ρ : Env} {a b : Ss} {S : Sto} : ifA C ρ a b (.ok false S) = evSs C b ρ S := (rfl)
@[simp] theorem s_ite {C : Ctx} {ρ : Env} {S : Sto} {c : E} {a b : Ss} : evS C (.ite c a b) ρ S = ifA C ρ a b (evT C c ρ S) := by rw [evS]; rfl
def ssA (C : Ctx) (r : Ss) (z : R (Fl × Env)) : R (Fl × Env) := z.bind fun q S1 => match q.1 with
  | .nx => evSs C r q.2 S1
  | f => .ok (f, q.2) S1
@[simp] theorem ssA_nx {C : Ctx} {r : Ss} {ρ : Env} {S : Sto} : ssA C r (.ok (.nx, ρ) S) = evSs C r ρ S := (rfl)
@[simp] theorem ssA_rt {C : Ctx} {r : Ss} {ρ : Env} {d : D} {S : Sto} : ssA C r (.ok (.rt d, ρ) S) = .ok (.rt d, ρ) S := (rfl)
@[simp] theorem ssA_bk {C : Ctx} {r : Ss} {ρ : Env} {S : Sto} : ssA C r (.ok (.bk, ρ) S) = .ok (.bk, ρ) S := (rfl)
@[simp] theorem ssA_ct {C : Ctx} {r : Ss} {ρ : Env} {S : Sto} : ssA C r (.ok (.ct, ρ) S) = .ok (.ct, ρ) S := (rfl)
@[simp] theorem ss_nil {C : Ctx} {ρ : Env} {S : Sto} : evSs C .nil ρ S = .ok (.nx, ρ) S := by rw [evSs]
@[simp] theorem ss_cons {C : Ctx} {ρ : Env} {S : Sto} {s : MI.S} {r : Ss} : evSs C (.cons s r) ρ S = ssA C r (evS C s ρ S) := by rw [evSs]; rfl
def appB (ρ : Env) (x : D) (z : R D) : R (Fl × Env) := z.bind fun d S2 => appD ρ S2 d x
@[simp] theorem appB_ok {ρ : Env} {x d : D} {S : Sto} : appB ρ x (.ok d S) = appD ρ S d x := (rfl)
def appA (C : Ctx) (ρ : Env) (e : E) (z : R D) : R (Fl × Env) := z.bind fun x S1 => if (listOf S1 x).isSome = true then appB ρ x (evE C e ρ S1) else .bad
def appK (C : Ctx) (ρ : Env) (e : E) (x : D) (S : Sto) (b : Bool) : R (Fl × Env) := if b = true then appB ρ x (evE C e ρ S) else .bad
@[simp] theorem appK_t {C : Ctx} {ρ : Env} {e : E} {x : D} {S : Sto} : appK C ρ e x S true = appB ρ x (evE C e ρ S) := (rfl)
@[simp] theorem appA_ok {C : Ctx} {ρ : Env} {e : E} {x : D} {S : Sto} : appA C ρ e (.ok x S) = appK C ρ e x S (listOf S x).isSome := (rfl)
@[simp] theorem s_app {C : Ctx} {ρ : Env} {S : Sto} {o e : E} : evS C (.app o e) ρ S = appA C ρ e (evE C o ρ S) := by rw [evS]; rfl
def augA (i : Nat) (o : PySem.Operator) (ρ : Env) (x : D) (z : R D) : R (Fl × Env) := z.bind fun y S1 => (R.of (augD o x y) S1).bind fun z S2 => .ok (.nx, ρ.set i (some z)) S2
@[simp] theorem augA_add {i : Nat} {ρ : Env} {a b : Int} {S : Sto} : augA i .Add ρ (.int a) (.ok (.int b) S) = .ok (.nx, ρ.set i (some (.int (a + b)))) S := (rfl)
@[simp] theorem augA_sub {i : Nat} {ρ : Env} {a b : Int} {S : Sto} : augA i .Sub ρ (.int a) (.ok (.int b) S) = .ok (.nx, ρ.set i (some (.int (a - b)))) S := (rfl)
def augK (C : Ctx) (i : Nat) (o : PySem.Operator) (e : E) (ρ : Env) (S : Sto) (x : Option (Option D)) : R (Fl × Env) := match x with
  | some (some x) => augA i o ρ x (evE C e ρ S)
  | _ => .bad
@[simp] theorem augK_ok {C : Ctx} {i : Nat} {o : PySem.Operator} {e : E} {ρ : Env} {S : Sto} {x : D} : augK C i o e ρ S (some (some x)) = augA i o ρ x (evE C e ρ S) := (rfl)
@[simp] theorem s_aug {C : Ctx} {ρ : Env} {S : Sto} {i : Nat} {o : PySem.Operator} {e : E} : evS C (.aug i o e) ρ S = augK C i o e ρ S ρ[i]? := by rw [evS]; rfl
/-- a loop's turn -/
def forF (C : Ctx) (t : T) (body : Ss) : D → Env → Sto → R (Fl × Env) := fun x ρ S => (asg C t x ρ S).bind fun ρ1 S1 => evSs C body ρ1 S1
def bodyA (C : Ctx) (body : Ss) (z : R Env) : R (Fl × Env) := z.bind fun ρ1 S1 => evSs C body ρ1 S1
@[simp] theorem bodyA_ok {C : Ctx} {body : Ss} {ρ : Env} {S : Sto} : bodyA C body (.ok ρ S) = evSs C body ρ S := (rfl)
theorem forF_eq {C : Ctx} {t : T} {body : Ss} {x : D} {ρ : Env} {S : Sto} : forF C t body x ρ S = bodyA C body (asg C t x ρ S) := (rfl)
def forA (C : Ctx) (t : T) (body : Ss) (ρ : Env) (z : R Itm) : R (Fl × Env) := z.bind fun m S1 => match m with
  | .fix l => forL (forF C t body) l ρ S1
  | .at_ h => forH (forF C t body) h (atH S1 h) 0 ρ S1
@[simp] theorem forA_fix {C : Ctx} {t : T} {body : Ss} {ρ : Env} {l : List D} {S : Sto} : forA C t body ρ (.ok (.fix l) S) = forL (forF C t body) l ρ S := (rfl)
@[simp] theorem forA_at {C : Ctx} {t : T} {body : Ss} {ρ : Env} {h : Nat} {S : Sto} : forA C t body ρ (.ok (.at_ h) S) = forH (forF C t body) h (atH S h) 0 ρ S := (rfl)
@[simp] theorem s_for {C : Ctx} {ρ : Env} {S : Sto} {t : T} {it : It} {body : Ss} : evS C (.for_ t it body) ρ S = forA C t body ρ (evIt C it ρ S) := by rw [evS]; rfl
def whlF (C : Ctx) (c : E) (body : Ss) (n : Nat) (ρ : Env) (S : Sto) : R (Fl × Env) := whlL (evT C c) (evSs C body) n ρ S
@[simp] theorem s_whl {C : Ctx} {ρ : Env} {S : Sto} {c : E} {body : Ss} : evS C (.whl c body) ρ S = whlF C c body fuel ρ S := by rw [evS]; rfl
def whlB (C : Ctx) (c : E) (body : Ss) (n : Nat) (z : R (Fl × Env)) : R (Fl × Env) := z.bind fun q S2 => match q.1 with
  | .nx => whlF C c body n q.2 S2
  | .ct => whlF C c body n q.2 S2
  | .bk => .ok (.nx, q.2) S2
  | .rt d => .ok (.rt d, q.2) S2
@[simp] theorem whlB_nx {C : Ctx} {c : E} {body : Ss} {n : Nat} {ρ : Env} {S : Sto} : whlB C c body n (.ok (.nx, ρ) S) = whlF C c body n ρ S := (rfl)
@[simp] theorem whlB_ct {C : Ctx} {c : E} {body : Ss} {n : Nat} {ρ : Env} {S : Sto} : whlB C c body n (.ok (.ct, ρ) S) = whlF C c body n ρ S := (rfl)
@[simp] theorem whlB_bk {C : Ctx} {c : E} {body : Ss} {n : Nat} {ρ : Env} {S : Sto} : whlB C c body n (.ok (.bk, ρ) S) = .ok (.nx, ρ) S := (rfl)
@[simp] theorem whlB_rt {C : Ctx} {c : E} {body : Ss} {n : Nat} {ρ : Env} {d : D} {S : Sto} : whlB C c body n (.ok (.rt d, ρ) S) = .ok (.rt d, ρ) S := (rfl)
def whlA (C : Ctx) (c : E) (body : Ss) (n : Nat) (ρ : Env) (z : R Bool) : R (Fl × Env) := z.bind fun b S1 => match b with
  | false => .ok (.nx, ρ) S1
  | true => whlB C c body n (evSs C body ρ S1)
@[simp] theorem whlA_t {C : Ctx} {c : E} {body : Ss} {n : Nat} {ρ : Env} {S : Sto} : whlA C c body n ρ (.ok true S) = whlB C c body n (evSs C body ρ S) := (rfl)
@[simp] theorem whlA_f {C : Ctx} {c : E} {body : Ss} {n : Nat} {ρ : Env} {S : Sto} : whlA C c body n ρ (.ok false S) = .ok (.nx, ρ) S := (rfl)
theorem whlF_succ {C : Ctx} {c : E} {body : Ss} {n : Nat} {ρ : Env} {S : Sto} : whlF C c body (n + 1) ρ S = whlA C c body n ρ (evT C c ρ S) := (rfl)
/-! comprehensions -/
def cmB (z : R D) : R (Option D) := z.bind fun d S3 => .ok (some d) S3
@[simp] theorem cmB_ok {d : D} {S : Sto} : cmB (.ok d S) = .ok (some d) S := (rfl)
def cmK (C : Ctx) (el : E) (ρ : Env) (z : R Bool) : R (Option D) := z.bind fun k S2 => if k = true then cmB (evE C el ρ S2) else .ok none S2
@[simp] theorem cmK_t {C : Ctx} {el : E} {ρ : Env} {S : Sto} : cmK C el ρ (.ok true S) = cmB (evE C el ρ S) := (rfl)
@[simp] theorem cmK_f {C : Ctx} {el : E} {ρ : Env} {S : Sto} : cmK C el ρ (.ok false S) = .ok none S := (rfl)
def cmA (C : Ctx) (el c : E) (z : R Env) : R (Option D) := z.bind fun ρ1 S1 => cmK C el ρ1 (evT C c ρ1 S1)
@[simp] theorem cmA_ok {C : Ctx} {el c : E} {ρ : Env} {S : Sto} : cmA C el c (.ok ρ S) = cmK C el ρ (evT C c ρ S) := (rfl)
def cmF (C : Ctx) (el : E) (t : T) (c : E) (vs : List Nat) (ρ : Env) : D → Sto → R (Option D) := fun x S => cmA C el c (asg C t x (wipeE ρ vs) S)
theorem cmF_eq {C : Ctx} {el : E} {t : T} {c : E} {vs : List Nat} {ρ : Env} {x : D} {S : Sto} : cmF C el t c vs ρ x S = cmA C el c (asg C t x (wipeE ρ vs) S) := (rfl)
def lenA (z : R (List D)) : R (List D) := z.bind fun l S2 => if l.length ≤ line then .ok l S2 else .bad
@[simp] theorem lenA_if {l : List D} {S : Sto} : lenA (.ok l S) = if l.length ≤ line then .ok l S else .bad := (rfl)
theorem lenA_ok {l : List D} {S : Sto} (h : l.length ≤ line) : lenA (.ok l S) = .ok l S := if_pos h
def compA (C : Ctx) (el : E) (t : T) (c : E) (vs : List Nat) (ρ : Env) (z : R Itm) : R (List D) := z.bind fun m S1 => lenA (match m with
  | .fix l => cmpL (cmF C el t c vs ρ) l S1
  | .at_ h => cmpH (cmF C el t c vs ρ) h (atH S1 h) 0 S1)
@[simp] theorem compA_fix {C : Ctx} {el : E} {t : T} {c : E} {vs : List Nat} {ρ : Env} {l : List D} {S : Sto} : compA C el t c vs ρ (.ok (.fix l) S) = lenA (cmpL (cmF C el t c vs ρ) l S) := (rfl)
@[simp] theorem compA_at {C : Ctx} {el : E} {t : T} {c : E} {vs : List Nat} {ρ : Env} {h : Nat} {S : Sto} : compA C el t c vs ρ (.ok (.at_ h) S) = lenA (cmpH (cmF C el t c vs ρ) h (atH S h) 0 S) := (rfl)
@[simp] theorem l_comp {C : Ctx} {ρ : Env} {S : Sto} {el : E} {t : T} {it : It} {c : E} {vs : List Nat} : evL C (.comp el t it c vs) ρ S = compA C el t c vs ρ (evIt C it ρ S) := by rw [evL]; rfl
/-- a comprehension whose turns all give an item and leave the store -/
theorem cmpL_map {f : D → Sto → R (Option D)} {S : Sto} {g : D → D} : ∀ {l : List D}, (∀ x ∈ l, f x S = .ok (some (g x)) S) → cmpL f l S = .ok (l.map g) S
  | [], _ => rfl
  | x :: l, h => by
    show (f x S).bind _ = _
    rw [h x List.mem_cons_self]
    show (cmpL f l S).bind _ = _
    rw [cmpL_map fun y hy => h y (List.mem_cons_of_mem _ hy)]
    rfl
/-- .. some of them -/
theorem cmpL_filter {f : D → Sto → R (Option D)} {S : Sto} {g : D → Option D} : ∀ {l : List D}, (∀ x ∈ l, f x S = .ok (g x) S) → cmpL f l S = .ok (l.filterMap g) S
  | [], _ => rfl
  | x :: l, h => by
    show (f x S).bind _ = _
    rw [h x List.mem_cons_self]
    show (cmpL f l S).bind _ = _
    rw [cmpL_filter fun y hy => h y (List.mem_cons_of_mem _ hy)]
    show (match g x with | some d => R.ok (d :: _) S | none => R.ok _ S) = _
    rw [List.filterMap_cons]
    cases g x <;> rfl
/-! a call's end -/
def endA (p : Bool) (S : Sto) (z : R (Fl × Env)) : R D := z.bind fun q S1 => match endOf q with
  | some d => done p S d S1
  | none => .bad
@[simp] theorem endA_rt {p : Bool} {S S1 : Sto} {d : D} {ρ : Env} : endA p S (.ok (.rt d, ρ) S1) = done p S d S1 := (rfl)
@[simp] theorem endA_nx {p : Bool} {S S1 : Sto} {ρ : Env} : endA p S (.ok (.nx, ρ) S1) = done p S .non S1 := (rfl)
theorem call_run {P : Prog} {k : Nat} {f : String} {ds : List D} {S : Sto} {F : Fn} (h : P.fns f = some F) (hl : ds.length = F.np) :
    call P (k + 1) f ds S = endA F.pure S (evSs ⟨P.cls, P.glo, call P k, arrP P, callX P k, P.xcl, callH P⟩ F.body (startE F.ns ds) S) := call_fn h hl
@[simp] theorem ofS_eq {s t : String} : (PySem.Str.ofString s = PySem.Str.ofString t) ↔ s = t := ⟨ofS_inj, congrArg _⟩
@[simp] theorem at_0 {α : Type} {a0 : α} {l : List α} : L2.atI (a0 :: l) 0 = some a0 := (atI_nat (a0 :: l) 0).trans rfl
@[simp] theorem at_1 {α : Type} {a0 a1 : α} {l : List α} : L2.atI (a0 :: a1 :: l) 1 = some a1 := (atI_nat (a0 :: a1 :: l) 1).trans rfl
@[simp] theorem at_2 {α : Type} {a0 a1 a2 : α} {l : List α} : L2.atI (a0 :: a1 :: a2 :: l) 2 = some a2 := (atI_nat (a0 :: a1 :: a2 :: l) 2).trans rfl
@[simp] theorem at_3 {α : Type} {a0 a1 a2 a3 : α} {l : List α} : L2.atI (a0 :: a1 :: a2 :: a3 :: l) 3 = some a3 := (atI_nat (a0 :: a1 :: a2 :: a3 :: l) 3).trans rfl
@[simp] theorem at_4 {α : Type} {a0 a1 a2 a3 a4 : α} {l : List α} : L2.atI (a0 :: a1 :: a2 :: a3 :: a4 :: l) 4 = some a4 := (atI_nat (a0 :: a1 :: a2 :: a3 :: a4 :: l) 4).trans rfl
@[simp] theorem at_5 {α : Type} {a0 a1 a2 a3 a4 a5 : α} {l : List α} : L2.atI (a0 :: a1 :: a2 :: a3 :: a4 :: a5 :: l) 5 = some a5 := (atI_nat (a0 :: a1 :: a2 :: a3 :: a4 :: a5 :: l) 5).trans rfl
@[simp] theorem at_6 {α : Type} {a0 a1 a2 a3 a4 a5 a6 : α} {l : List α} : L2.atI (a0 :: a1 :: a2 :: a3 :: a4 :: a5 :: a6 :: l) 6 = some a6 := (atI_nat (a0 :: a1 :: a2 :: a3 :: a4 :: a5 :: a6 :: l) 6).trans rfl
@[simp] theorem at_7 {α : Type} {a0 a1 a2 a3 a4 a5 a6 a7 : α} {l : List α} : L2.atI (a0 :: a1 :: a2 :: a3 :: a4 :: a5 :: a6 :: a7 :: l) 7 = some a7 := (atI_nat (a0 :: a1 :: a2 :: a3 :: a4 :: a5 :: a6 :: a7 :: l) 7).trans rfl
/-! objects of the store -/
def lstO (o : Option O) : Option (List D) := match o with
  | some (.lst l) => some l
  | _ => none
@[simp] theorem lstO_lst {l : List D} : lstO (some (.lst l)) = some l := (rfl)
def setN (ρ : Env) (S : Sto) (h : Nat) (l : List D) (d : D) (j : Option Nat) : R Env := match j with
  | some j => .ok ρ (S.set h (.lst (l.set j d)))
  | none => .bad
@[simp] theorem setN_ok {ρ : Env} {S : Sto} {h : Nat} {l : List D} {d : D} {j : Nat} : setN ρ S h l d (some j) = .ok ρ (S.set h (.lst (l.set j d))) := (rfl)
def setO (ρ : Env) (S : Sto) (h : Nat) (d : D) (k : Int) (o : Option O) : R Env := match o with
  | some (.lst l) => setN ρ S h l d (L2.ixN l.length k)
  | _ => .bad
@[simp] theorem setO_lst {ρ : Env} {S : Sto} {h : Nat} {l : List D} {d : D} {k : Int} : setO ρ S h d k (some (.lst l)) = setN ρ S h l d (L2.ixN l.length k) := (rfl)
@[simp] theorem setD_int {ρ : Env} {S : Sto} {h : Nat} {d : D} {k : Int} : setD ρ S d (.ref h) (.int k) = setO ρ S h d k S[h]? := by
  unfold setD setO
  cases e : S[h]? with
  | none => simp only [e]
  | some o =>
    cases o with
    | lst l =>
      simp only [e, setN] <;> (cases L2.ixN l.length k <;> rfl)
    | _ => simp only [e]
@[simp] theorem lo_r {S : Sto} {h : Nat} : listOf S (.ref h) = lstO S[h]? := (rfl)
@[simp] theorem io_r {S : Sto} {h : Nat} : itemsOf S (.ref h) = lstO S[h]? := (rfl)
@[simp] theorem idx_r {S : Sto} {h : Nat} {k : Int} : idxD S (.ref h) (.int k) = (lstO S[h]?).bind fun l => L2.atI l k := (rfl)
def itmO (h : Nat) (o : Option O) : Option Itm := match o with
  | some (.lst _) => some (.at_ h)
  | _ => none
@[simp] theorem itmO_lst {h : Nat} {l : List D} : itmO h (some (.lst l)) = some (.at_ h) := (rfl)
@[simp] theorem itm_r {S : Sto} {h : Nat} : itmD S (.ref h) = itmO h S[h]? := (rfl)
def appO (ρ : Env) (S : Sto) (h : Nat) (d : D) (o : Option O) : R (Fl × Env) := match o with
  | some (.lst l) => if l.length < 16777216 then .ok (.nx, ρ) (S.set h (.lst (l ++ [d]))) else .bad
  | _ => .bad
@[simp] theorem appO_lst {ρ : Env} {S : Sto} {h : Nat} {l : List D} {d : D} : appO ρ S h d (some (.lst l)) = if l.length < 16777216 then .ok (.nx, ρ) (S.set h (.lst (l ++ [d]))) else .bad := (rfl)
@[simp] theorem appD_r {ρ : Env} {S : Sto} {h : Nat} {d : D} : appD ρ S d (.ref h) = appO ρ S h d S[h]? := (rfl)
@[simp] theorem done_app {S T : Sto} {d : D} : done true S d (S ++ T) = if below S.length d = true then .ok d S else .bad := by
  unfold done
  simp only [List.take_left', beqS_refl, Bool.true_or, Bool.and_true]
@[simp] theorem len_r {S : Sto} {h : Nat} : biD S "len" [.ref h] = (lstO S[h]?).map fun l => .int l.length := (rfl)
@[simp] theorem ty_r {S : Sto} {h : Nat} : tyOf S (.ref h) = (lstO S[h]?).map fun _ => "list" := (rfl)
@[simp] theorem done_f {S S1 : Sto} {d : D} : done false S d S1 = .ok d S1 := (rfl)
@[simp] theorem divmod_ok2 {S : Sto} {i j : Int} : biD S "divmod" [.int i, .int j] = if 0 < j ∧ j < 1073741824 then some (.tup [.int (i / j), .int (i % j)]) else none := (rfl)
@[simp] theorem isN_non : isN .non = true := (rfl)
@[simp] theorem isN_int {i : Int} : isN (.int i) = false := (rfl)
@[simp] theorem isN_bl {i : Bool} : isN (.bl i) = false := (rfl)
@[simp] theorem isN_str {i : PySem.Str} : isN (.str i) = false := (rfl)
@[simp] theorem isN_lst {l : List D} : isN (.lst l) = false := (rfl)
@[simp] theorem isN_tup {l : List D} : isN (.tup l) = false := (rfl)
@[simp] theorem isN_ref {h : Nat} : isN (.ref h) = false := (rfl)
/-! in -/
def inL (l : List D) (a : D) : Option Bool := if l.all flatD = true then some (l.any fun y => eqF y a) else none
@[simp] theorem inD_it {S : Sto} {i : Int} {l : List D} : inD S (.int i) (.tup l) = inL l (.int i) := (rfl)
@[simp] theorem inD_il {S : Sto} {i : Int} {l : List D} : inD S (.int i) (.lst l) = inL l (.int i) := (rfl)
@[simp] theorem inD_st {S : Sto} {i : PySem.Str} {l : List D} : inD S (.str i) (.tup l) = inL l (.str i) := (rfl)
@[simp] theorem inD_sl {S : Sto} {i : PySem.Str} {l : List D} : inD S (.str i) (.lst l) = inL l (.str i) := (rfl)
@[simp] theorem flat_non : flatD .non = true := (rfl)
@[simp] theorem flat_bl {b : Bool} : flatD (.bl b) = true := (rfl)
@[simp] theorem flat_int {b : Int} : flatD (.int b) = true := (rfl)
@[simp] theorem flat_str {b : PySem.Str} : flatD (.str b) = true := (rfl)
@[simp] theorem eqF_int {a b : Int} : eqF (.int a) (.int b) = (a == b) := (rfl)
@[simp] theorem eqF_str {a b : PySem.Str} : eqF (.str a) (.str b) = (a == b) := (rfl)
@[simp] theorem eqF_ii {a : Int} {b : PySem.Str} : eqF (.int a) (.str b) = false := (rfl)
@[simp] theorem eqF_ss {a : Int} {b : PySem.Str} : eqF (.str b) (.int a) = false := (rfl)
@[simp] theorem eqF_ni {a : Int} : eqF (.non) (.int a) = false := (rfl)
@[simp] theorem eqF_in {a : Int} : eqF (.int a) .non = false := (rfl)
@[simp] theorem eqF_nn : eqF .non .non = true := (rfl)
/-! instances -/
def insO (o : Option O) : Option (String × List (String × D)) := match o with
  | some (.ins c fs) => some (c, fs)
  | _ => none
@[simp] theorem insO_ins {c : String} {fs : List (String × D)} : insO (some (.ins c fs)) = some (c, fs) := (rfl)
@[simp] theorem insOf_r {S : Sto} {h : Nat} : insOf S (.ref h) = insO S[h]? := (rfl)
def fldI (f : String) (fs : List (String × D)) (I : Option ClsI) : Option D := match I with
  | some I => if I.flds.contains f then fs.lookup f else none
  | none => none
@[simp] theorem fldI_ok {f : String} {fs : List (String × D)} {I : ClsI} : fldI f fs (some I) = if I.flds.contains f then fs.lookup f else none := (rfl)
def fldO (C : Ctx) (f : String) (o : Option (String × List (String × D))) : Option D := match o with
  | some (c, fs) => fldI f fs (C.cls c)
  | none => none
@[simp] theorem fldO_ok {C : Ctx} {f c : String} {fs : List (String × D)} : fldO C f (some (c, fs)) = fldI f fs (C.cls c) := (rfl)
@[simp] theorem fldD_eq {C : Ctx} {S : Sto} {x : D} {f : String} : fldD C S x f = fldO C f (insOf S x) := by
  unfold fldD fldO
  cases insOf S x with
  | none => rfl
  | some q => obtain ⟨c, fs⟩ := q; show ((C.cls c).bind _) = fldI f fs (C.cls c); cases C.cls c <;> rfl
def fldA (C : Ctx) (f : String) (z : R D) : R D := z.bind fun x S1 => R.of (fldD C S1 x f) S1
@[simp] theorem fldA_ok {C : Ctx} {f : String} {x : D} {S : Sto} : fldA C f (.ok x S) = R.of (fldD C S x f) S := (rfl)
@[simp] theorem e_fld {C : Ctx} {ρ : Env} {S : Sto} {o : E} {f : String} : evE C (.fld o f) ρ S = fldA C f (evE C o ρ S) := by rw [evE] <;> rfl
@[simp] theorem t_fld {C : Ctx} {ρ : Env} {S : Sto} {o : E} {f : String} : evT C (.fld o f) ρ S = truR (fldA C f (evE C o ρ S)) := by rw [evT]; unfold truR fldA; rw [R.assoc]
def mI (m : String) (I : Option ClsI) : Option String := match I with
  | some I => I.mths.lookup m
  | none => none
@[simp] theorem mI_ok {m : String} {I : ClsI} : mI m (some I) = I.mths.lookup m := (rfl)
def mO (C : Ctx) (m : String) (o : Option (String × List (String × D))) : Option String := match o with
  | some (c, fs) => if (fs.lookup m).isNone then mI m (C.cls c) else none
  | none => none
@[simp] theorem mO_ok {C : Ctx} {m c : String} {fs : List (String × D)} : mO C m (some (c, fs)) = if (fs.lookup m).isNone then mI m (C.cls c) else none := (rfl)
@[simp] theorem mOf_eq {C : Ctx} {S : Sto} {x : D} {m : String} : mOf C S x m = mO C m (insOf S x) := by
  unfold mOf mO
  cases insOf S x with
  | none => rfl
  | some q => obtain ⟨c, fs⟩ := q; show (if _ then (C.cls c).bind _ else _) = if _ then mI m (C.cls c) else _; cases C.cls c <;> rfl
def mcA (C : Ctx) (f : String) (x : D) (z : R (List D)) : R D := z.bind fun l S2 => C.fn f (x :: l) S2
@[simp] theorem mcA_ok {C : Ctx} {f : String} {x : D} {l : List D} {S : Sto} : mcA C f x (.ok l S) = C.fn f (x :: l) S := (rfl)
def mcB (C : Ctx) (ρ : Env) (es : Es) (x : D) (S : Sto) (m : Option String) : R D := match m with
  | some f => mcA C f x (evEs C es ρ S)
  | none => .bad
@[simp] theorem mcB_ok {C : Ctx} {ρ : Env} {es : Es} {x : D} {S : Sto} {f : String} : mcB C ρ es x S (some f) = mcA C f x (evEs C es ρ S) := (rfl)
def mthA (C : Ctx) (ρ : Env) (m : String) (es : Es) (z : R D) : R D := z.bind fun x S1 => (R.of (mOf C S1 x m) S1).bind fun f S1 => mcA C f x (evEs C es ρ S1)
@[simp] theorem mthA_ok {C : Ctx} {ρ : Env} {m : String} {es : Es} {x : D} {S : Sto} : mthA C ρ m es (.ok x S) = mcB C ρ es x S (mOf C S x m) := by
  unfold mthA mcB
  rw [R.bind_ok]
  cases mOf C S x m <;> rfl
@[simp] theorem e_mth {C : Ctx} {ρ : Env} {S : Sto} {o : E} {m : String} {es : Es} : evE C (.mth o m es) ρ S = mthA C ρ m es (evE C o ρ S) := by rw [evE] <;> rfl
@[simp] theorem t_mth {C : Ctx} {ρ : Env} {S : Sto} {o : E} {m : String} {es : Es} : evT C (.mth o m es) ρ S = truR (mthA C ρ m es (evE C o ρ S)) := by rw [evT]; unfold truR mthA mcA; simp only [R.assoc]
def mkC (h : Nat) (z : R D) : R D := z.bind fun d S2 => if isN d = true then .ok (.ref h) S2 else .bad
@[simp] theorem mkC_ok {h : Nat} {S : Sto} : mkC h (.ok .non S) = .ok (.ref h) S := (rfl)
def mkB (C : Ctx) (c : String) (l : List D) (S : Sto) (f : Option String) : R D := match f with
  | some f => mkC S.length (C.fn f (.ref S.length :: l) (S ++ [.ins c []]))
  | none => .bad
@[simp] theorem mkB_ok {C : Ctx} {c : String} {l : List D} {S : Sto} {f : String} : mkB C c l S (some f) = mkC S.length (C.fn f (.ref S.length :: l) (S ++ [.ins c []])) := (rfl)
@[simp] theorem mkA_eq {C : Ctx} {c : String} {l : List D} {S : Sto} : mkA C c l S = mkB C c l S (mI "__init__" (C.cls c)) := by
  unfold mkA mkB initOf
  cases C.cls c with
  | none => rfl
  | some I => show (match I.mths.lookup "__init__" with | none => _ | some f => _) = (match I.mths.lookup "__init__" with | some f => _ | none => _); cases I.mths.lookup "__init__" <;> rfl
def mkE (C : Ctx) (c : String) (z : R (List D)) : R D := z.bind fun l S1 => mkA C c l S1
@[simp] theorem mkE_ok {C : Ctx} {c : String} {l : List D} {S : Sto} : mkE C c (.ok l S) = mkA C c l S := (rfl)
@[simp] theorem e_mk {C : Ctx} {ρ : Env} {S : Sto} {c : String} {es : Es} : evE C (.mk c es) ρ S = mkE C c (evEs C es ρ S) := by rw [evE] <;> rfl
def kkN (C : Ctx) (c f : String) (S : Sto) (a : Option (List D)) : R D := match a with
  | some a => mkC S.length (C.fn f a (S ++ [.ins c []]))
  | none => .bad
@[simp] theorem kkN_ok {C : Ctx} {c f : String} {S : Sto} {a : List D} : kkN C c f S (some a) = mkC S.length (C.fn f a (S ++ [.ins c []])) := (rfl)
def kkI (C : Ctx) (c f : String) (ks : List String) (l z : List D) (S : Sto) (i : Option String) : R D := match i with
  | some g => if g = f then kkN C c f S (C.arr f ks (.ref S.length :: l) z) else .bad
  | none => .bad
@[simp] theorem kkI_ok {C : Ctx} {c f g : String} {ks : List String} {l z : List D} {S : Sto} : kkI C c f ks l z S (some g) = if g = f then kkN C c f S (C.arr f ks (.ref S.length :: l) z) else .bad := (rfl)
@[simp] theorem mkkA_eq {C : Ctx} {c f : String} {ks : List String} {l z : List D} {S : Sto} : mkkA C c f ks l z S = kkI C c f ks l z S (mI "__init__" (C.cls c)) := by
  unfold mkkA kkI initOf
  cases C.cls c with
  | none => rfl
  | some I =>
    show (if I.mths.lookup "__init__" = some f then _ else R.bad) = (match I.mths.lookup "__init__" with | some g => _ | none => _)
    cases I.mths.lookup "__init__" with
    | none => rfl
    | some g =>
      by_cases hg : g = f
      · subst hg
        rw [if_pos rfl]
        show _ = if g = g then _ else _
        rw [if_pos rfl]
        unfold kkN mkC
        cases C.arr g ks (.ref S.length :: l) z <;> rfl
      · rw [if_neg (fun e => hg (Option.some.inj e))]
        show _ = if g = f then _ else _
        rw [if_neg hg]
def mkkE2 (C : Ctx) (c f : String) (ks : List String) (l : List D) (z : R (List D)) : R D := z.bind fun z S2 => mkkA C c f ks l z S2
@[simp] theorem mkkE2_ok {C : Ctx} {c f : String} {ks : List String} {l z : List D} {S : Sto} : mkkE2 C c f ks l (.ok z S) = mkkA C c f ks l z S := (rfl)
def mkkE (C : Ctx) (ρ : Env) (c f : String) (ks : List String) (kes : Es) (z : R (List D)) : R D := z.bind fun l S1 => mkkE2 C c f ks l (evEs C kes ρ S1)
@[simp] theorem mkkE_ok {C : Ctx} {ρ : Env} {c f : String} {ks : List String} {kes : Es} {l : List D} {S : Sto} : mkkE C ρ c f ks kes (.ok l S) = mkkE2 C c f ks l (evEs C kes ρ S) := (rfl)
def mtI (C : Ctx) (f : String) (o : Option (List D)) (S : Sto) : R D := match o with
  | none => .bad
  | some a => C.fn f a S
@[simp] theorem mtI_some {C : Ctx} {f : String} {a : List D} {S : Sto} : mtI C f (some a) S = C.fn f a S := (rfl)
theorem mtdA_eq {C : Ctx} {f : String} {l : List D} {S : Sto} : mtdA C f l S = mtI C f (C.arr f [] l []) S := (rfl)
def mtC (C : Ctx) (f : String) (x : D) (z : R (List D)) : R D := z.bind fun l S2 => mtdA C f (x :: l) S2
@[simp] theorem mtC_ok {C : Ctx} {f : String} {x : D} {l : List D} {S : Sto} : mtC C f x (.ok l S) = mtI C f (C.arr f [] (x :: l) []) S := (rfl)
def mtB (C : Ctx) (ρ : Env) (f : String) (es : Es) (x : D) (S : Sto) (m : Option String) : R D := match m with
  | some g => if g = f then mtC C f x (evEs C es ρ S) else .bad
  | none => .bad
@[simp] theorem mtB_ok {C : Ctx} {ρ : Env} {es : Es} {x : D} {S : Sto} {f g : String} : mtB C ρ f es x S (some g) = if g = f then mtC C f x (evEs C es ρ S) else .bad := (rfl)
def mtdE (C : Ctx) (ρ : Env) (m f : String) (es : Es) (z : R D) : R D := z.bind fun x S1 => (R.of (mOf C S1 x m) S1).bind fun g S1 => if g = f then mtC C f x (evEs C es ρ S1) else .bad
@[simp] theorem mtdE_ok {C : Ctx} {ρ : Env} {m f : String} {es : Es} {x : D} {S : Sto} : mtdE C ρ m f es (.ok x S) = mtB C ρ f es x S (mOf C S x m) := by
  unfold mtdE mtB
  rw [R.bind_ok]
  cases mOf C S x m <;> rfl
@[simp] theorem e_mtd {C : Ctx} {ρ : Env} {S : Sto} {o : E} {m f : String} {es : Es} : evE C (.mtd o m f es) ρ S = mtdE C ρ m f es (evE C o ρ S) := by rw [evE] <;> rfl
@[simp] theorem e_mkk {C : Ctx} {ρ : Env} {S : Sto} {c f : String} {es kes : Es} {ks : List String} : evE C (.mkk c f es ks kes) ρ S = mkkE C ρ c f ks kes (evEs C es ρ S) := by rw [evE] <;> rfl
def isI (c : String) (I : Option ClsI) : Option Bool := match I with
  | some I => some (I.sups.contains c)
  | none => none
@[simp] theorem isI_ok {c : String} {I : ClsI} : isI c (some I) = some (I.sups.contains c) := (rfl)
def isO (C : Ctx) (c : String) (o : Option (String × List (String × D))) : Option Bool := match o with
  | some (c', _) => isI c (C.cls c')
  | none => none
@[simp] theorem isO_ok {C : Ctx} {c c' : String} {fs : List (String × D)} : isO C c (some (c', fs)) = isI c (C.cls c') := (rfl)
@[simp] theorem isiD_eq {C : Ctx} {S : Sto} {x : D} {c : String} : isiD C S x c = isO C c (insOf S x) := by
  unfold isiD isO
  cases insOf S x with
  | none => rfl
  | some q => obtain ⟨c', fs⟩ := q; show ((C.cls c').map _) = isI c (C.cls c'); cases C.cls c' <;> rfl
def isiA (C : Ctx) (c : String) (z : R D) : R D := z.bind fun x S1 => R.of ((isiD C S1 x c).map .bl) S1
@[simp] theorem isiA_ok {C : Ctx} {c : String} {x : D} {S : Sto} : isiA C c (.ok x S) = R.of ((isiD C S x c).map .bl) S := (rfl)
@[simp] theorem e_isi {C : Ctx} {ρ : Env} {S : Sto} {o : E} {c : String} : evE C (.isi o c) ρ S = isiA C c (evE C o ρ S) := by rw [evE] <;> rfl
def isiT (C : Ctx) (c : String) (z : R D) : R Bool := z.bind fun x S1 => R.of (isiD C S1 x c) S1
@[simp] theorem isiT_ok {C : Ctx} {c : String} {x : D} {S : Sto} : isiT C c (.ok x S) = R.of (isiD C S x c) S := (rfl)
@[simp] theorem t_isi {C : Ctx} {ρ : Env} {S : Sto} {o : E} {c : String} : evT C (.isi o c) ρ S = isiT C c (evE C o ρ S) := by rw [evT] <;> rfl
/-! texts -/
def smB (m : String) (x : D) (z : R D) : R D := z.bind fun y S2 => R.of (smD S2 m x y) S2
@[simp] theorem smB_ok {m : String} {x y : D} {S : Sto} : smB m x (.ok y S) = R.of (smD S m x y) S := (rfl)
def smA (C : Ctx) (ρ : Env) (m : String) (b : E) (z : R D) : R D := z.bind fun x S1 => smB m x (evE C b ρ S1)
@[simp] theorem smA_ok {C : Ctx} {ρ : Env} {m : String} {b : E} {x : D} {S : Sto} : smA C ρ m b (.ok x S) = smB m x (evE C b ρ S) := (rfl)
@[simp] theorem e_sm {C : Ctx} {ρ : Env} {S : Sto} {m : String} {a b : E} : evE C (.sm m a b) ρ S = smA C ρ m b (evE C a ρ S) := by rw [evE] <;> rfl
@[simp] theorem t_sm {C : Ctx} {ρ : Env} {S : Sto} {m : String} {a b : E} : evT C (.sm m a b) ρ S = truR (smA C ρ m b (evE C a ρ S)) := by rw [evT]; unfold truR smA smB; simp only [R.assoc]
theorem strs_of : ∀ l : List PySem.Str, strsOf (l.map D.str) = some l
  | [] => rfl
  | i :: l => by
    show (strsOf (l.map D.str)).map (i :: ·) = _
    rw [strs_of l] <;> rfl
@[simp] theorem sm_split {S : Sto} {a b : PySem.Str} : smD S "split" (.str a) (.str b) = if (b.length == 0) = false ∧ a.length + 2 ≤ 16777216 then some (.lst ((PySem.Txt.split a b).map .str)) else none := (rfl)
@[simp] theorem sm_starts {S : Sto} {a b : PySem.Str} : smD S "startswith" (.str a) (.str b) = some (.bl (PySem.Txt.startswith a b)) := (rfl)
theorem sm_join {S : Sto} {a : PySem.Str} {l : List PySem.Str} (h : (l.map (·.length)).sum + l.length * a.length ≤ 16777216) : smD S "join" (.str a) (.lst (l.map .str)) = some (.str (PySem.Txt.join a l)) := by
  show ((listOf S (.lst (l.map .str))).bind fun l => (strsOf l).bind fun ys => if (ys.map (·.length)).sum + ys.length * a.length ≤ line then some (D.str (PySem.Txt.join a ys)) else none) = _
  show ((strsOf (l.map .str)).bind fun ys => if (ys.map (·.length)).sum + ys.length * a.length ≤ line then some (D.str (PySem.Txt.join a ys)) else none) = _
  rw [strs_of]
  exact if_pos h
@[simp] theorem str_int {S : Sto} {i : Int} : biD S "str" [.int i] = if i.natAbs.log2 < 1920 then some (.str (toString i)) else none := (rfl)
/-! fields are set, lists made longer -/
def setFI (ρ : Env) (S : Sto) (h : Nat) (d : D) (f c : String) (fs : List (String × D)) (I : Option ClsI) : R Env := match I with
  | some I => if I.flds.contains f && decide (fs.length < 1000) then .ok ρ (S.set h (.ins c (putD f d fs))) else .bad
  | none => .bad
@[simp] theorem setFI_ok {ρ : Env} {S : Sto} {h : Nat} {d : D} {f c : String} {fs : List (String × D)} {I : ClsI} : setFI ρ S h d f c fs (some I) = if I.flds.contains f && decide (fs.length < 1000) then .ok ρ (S.set h (.ins c (putD f d fs))) else .bad := (rfl)
def setFO (C : Ctx) (ρ : Env) (S : Sto) (h : Nat) (d : D) (f : String) (o : Option O) : R Env := match o with
  | some (.ins c fs) => setFI ρ S h d f c fs (C.cls c)
  | _ => .bad
@[simp] theorem setFO_ok {C : Ctx} {ρ : Env} {S : Sto} {h : Nat} {d : D} {f c : String} {fs : List (String × D)} : setFO C ρ S h d f (some (.ins c fs)) = setFI ρ S h d f c fs (C.cls c) := (rfl)
@[simp] theorem setF_r {C : Ctx} {ρ : Env} {S : Sto} {d : D} {f : String} {h : Nat} : setF C ρ S d f (.ref h) = setFO C ρ S h d f S[h]? := by
  unfold setF setFO
  cases e : S[h]? with
  | none => simp only [e]
  | some o =>
    cases o with
    | ins c fs => simp only [e, setFI] <;> (cases C.cls c <;> rfl)
    | _ => simp only [e]
def asgF (C : Ctx) (ρ : Env) (d : D) (f : String) (z : R D) : R Env := z.bind fun x S1 => setF C ρ S1 d f x
@[simp] theorem asgF_ok {C : Ctx} {ρ : Env} {d : D} {f : String} {x : D} {S : Sto} : asgF C ρ d f (.ok x S) = setF C ρ S d f x := (rfl)
@[simp] theorem a_fld {C : Ctx} {ρ : Env} {S : Sto} {o : E} {f : String} {d : D} : asg C (.fld o f) d ρ S = asgF C ρ d f (evE C o ρ S) := by rw [asg] <;> rfl
@[simp] theorem putD_nil {f : String} {d : D} : putD f d [] = [(f, d)] := (rfl)
@[simp] theorem putD_cons {f k : String} {d x : D} {r : List (String × D)} : putD f d ((k, x) :: r) = if k = f then (k, d) :: r else (k, x) :: putD f d r := (rfl)
def extN (ρ : Env) (S : Sto) (h : Nat) (l : List D) (k : Option (List D)) : R (Fl × Env) := match k with
  | some k => if l.length + k.length ≤ 16777216 then .ok (.nx, ρ) (S.set h (.lst (l ++ k))) else .bad
  | none => .bad
@[simp] theorem extN_ok {ρ : Env} {S : Sto} {h : Nat} {l k : List D} : extN ρ S h l (some k) = if l.length + k.length ≤ 16777216 then .ok (.nx, ρ) (S.set h (.lst (l ++ k))) else .bad := (rfl)
def extO (ρ : Env) (S : Sto) (h : Nat) (d : D) (o : Option O) : R (Fl × Env) := match o with
  | some (.lst l) => extN ρ S h l (listOf S d)
  | _ => .bad
@[simp] theorem extO_ok {ρ : Env} {S : Sto} {h : Nat} {d : D} {l : List D} : extO ρ S h d (some (.lst l)) = extN ρ S h l (listOf S d) := (rfl)
@[simp] theorem extD_r {ρ : Env} {S : Sto} {d : D} {h : Nat} : extD ρ S d (.ref h) = extO ρ S h d S[h]? := by
  unfold extD extO
  cases e : S[h]? with
  | none => simp only [e]
  | some o =>
    cases o with
    | lst l => simp only [e, extN] <;> (cases listOf S d <;> rfl)
    | _ => simp only [e]
def extB (ρ : Env) (x : D) (z : R D) : R (Fl × Env) := z.bind fun d S2 => extD ρ S2 d x
@[simp] theorem extB_ok {ρ : Env} {x d : D} {S : Sto} : extB ρ x (.ok d S) = extD ρ S d x := (rfl)
def clrO (ρ : Env) (S : Sto) (h : Nat) (o : Option O) : R (Fl × Env) := match o with
  | some (.lst _) => .ok (.nx, ρ) (S.set h (.lst []))
  | _ => .bad
@[simp] theorem clrO_lst {ρ : Env} {S : Sto} {h : Nat} {l : List D} : clrO ρ S h (some (.lst l)) = .ok (.nx, ρ) (S.set h (.lst [])) := (rfl)
@[simp] theorem clrD_r {ρ : Env} {S : Sto} {h : Nat} : clrD ρ S (.ref h) = clrO ρ S h S[h]? := (rfl)
def clrA (ρ : Env) (z : R D) : R (Fl × Env) := z.bind fun x S1 => clrD ρ S1 x
@[simp] theorem clrA_ok {ρ : Env} {x : D} {S : Sto} : clrA ρ (.ok x S) = clrD ρ S x := (rfl)
@[simp] theorem s_clr {C : Ctx} {ρ : Env} {S : Sto} {o : E} : evS C (.clr o) ρ S = clrA ρ (evE C o ρ S) := by rw [evS]; rfl
def extA (C : Ctx) (ρ : Env) (e : E) (z : R D) : R (Fl × Env) := z.bind fun x S1 => if (listOf S1 x).isSome = true then extB ρ x (evE C e ρ S1) else .bad
def extK (C : Ctx) (ρ : Env) (e : E) (x : D) (S : Sto) (b : Bool) : R (Fl × Env) := if b = true then extB ρ x (evE C e ρ S) else .bad
@[simp] theorem extK_t {C : Ctx} {ρ : Env} {e : E} {x : D} {S : Sto} : extK C ρ e x S true = extB ρ x (evE C e ρ S) := (rfl)
@[simp] theorem extA_ok {C : Ctx} {ρ : Env} {e : E} {x : D} {S : Sto} : extA C ρ e (.ok x S) = extK C ρ e x S (listOf S x).isSome := (rfl)
@[simp] theorem s_ext {C : Ctx} {ρ : Env} {S : Sto} {o e : E} : evS C (.ext o e) ρ S = extA C ρ e (evE C o ρ S) := by rw [evS]; rfl
/-! an item taken out; a field counted on -/
def popC (x : D) (z : R D) : R D := z.bind fun k S2 => popD S2 k x
@[simp] theorem popC_ok {x k : D} {S : Sto} : popC x (.ok k S) = popD S k x := (rfl)
def popK (C : Ctx) (ρ : Env) (i : E) (x : D) (S : Sto) : Bool → R D
  | true => popC x (evE C i ρ S)
  | false => .bad
@[simp] theorem popK_t {C : Ctx} {ρ : Env} {i : E} {x : D} {S : Sto} : popK C ρ i x S true = popC x (evE C i ρ S) := (rfl)
def popA (C : Ctx) (ρ : Env) (i : E) (z : R D) : R D := z.bind fun x S1 => popK C ρ i x S1 (listOf S1 x).isSome
@[simp] theorem popA_ok {C : Ctx} {ρ : Env} {i : E} {x : D} {S : Sto} : popA C ρ i (.ok x S) = popK C ρ i x S (listOf S x).isSome := (rfl)
@[simp] theorem e_pop {C : Ctx} {ρ : Env} {S : Sto} {o i : E} : evE C (.pop o i) ρ S = popA C ρ i (evE C o ρ S) := by
  rw [evE]; unfold popA; show (evE C o ρ S).bind _ = _; congr 1; funext x S1; cases (listOf S1 x).isSome <;> rfl
def fagE (C : Ctx) (ρ : Env) (f : String) (x z : D) (S4 : Sto) : Bool → R (Fl × Env)
  | true => (setF C ρ S4 z f x).bind fun ρ1 S5 => .ok (.nx, ρ1) S5
  | false => .bad
@[simp] theorem fagE_t {C : Ctx} {ρ : Env} {f : String} {x z : D} {S : Sto} : fagE C ρ f x z S true = nxA (setF C ρ S z f x) := (rfl)
def fagD (C : Ctx) (ρ : Env) (f : String) (x v : D) (S2 : Sto) (z : R D) : R (Fl × Env) := z.bind fun y S3 => (R.of (iAddD v y) S3).bind fun z S4 => fagE C ρ f x z S4 (decide ((insOf S2 x).map (·.1) = (insOf S4 x).map (·.1)))
@[simp] theorem fagD_ok {C : Ctx} {ρ : Env} {f : String} {x : D} {i j : Int} {S2 S3 : Sto} : fagD C ρ f x (.int i) S2 (.ok (.int j) S3) = fagE C ρ f x (.int (i + j)) S3 (decide ((insOf S2 x).map (·.1) = (insOf S3 x).map (·.1))) := (rfl)
def fagB (C : Ctx) (ρ : Env) (f : String) (e : E) (x : D) (z : R D) : R (Fl × Env) := z.bind fun v S2 => fagD C ρ f x v S2 (evE C e ρ S2)
@[simp] theorem fagB_ok {C : Ctx} {ρ : Env} {f : String} {e : E} {x v : D} {S : Sto} : fagB C ρ f e x (.ok v S) = fagD C ρ f x v S (evE C e ρ S) := (rfl)
def fagA (C : Ctx) (ρ : Env) (f : String) (e : E) (z : R D) : R (Fl × Env) := z.bind fun x S1 => fagB C ρ f e x (R.of (fldD C S1 x f) S1)
@[simp] theorem fagA_ok {C : Ctx} {ρ : Env} {f : String} {e : E} {x : D} {S : Sto} : fagA C ρ f e (.ok x S) = fagB C ρ f e x (R.of (fldD C S x f) S) := (rfl)
@[simp] theorem s_fag {C : Ctx} {ρ : Env} {S : Sto} {o e : E} {f : String} : evS C (.fag o f e) ρ S = fagA C ρ f e (evE C o ρ S) := by
  rw [evS]; unfold fagA fagB fagD; show (evE C o ρ S).bind _ = _
  congr 1; funext x S1; congr 1; funext v S2; congr 1; funext y S3; congr 1; funext z S4
  by_cases h : (insOf S2 x).map (·.1) = (insOf S4 x).map (·.1)
  · rw [if_pos h, decide_eq_true h]; rfl
  · rw [if_neg h, decide_eq_false h]; rfl
@[simp] theorem set_app {S T : Sto} {j : Nat} {o : O} : (S ++ T).set (S.length + j) o = S ++ T.set j o := by
  rw [List.set_append_right _ _ (Nat.le_add_right _ _), Nat.add_sub_cancel_left]
@[simp] theorem set_app0 {S T : Sto} {o : O} : (S ++ T).set S.length o = S ++ T.set 0 o := by
  have := set_app (S := S) (T := T) (j := 0) (o := o)
  simpa using this
@[simp] theorem get_app {S T : Sto} {j : Nat} : (S ++ T)[S.length + j]? = T[j]? := by
  rw [List.getElem?_append_right (Nat.le_add_right _ _), Nat.add_sub_cancel_left]
@[simp] theorem get_app0 {S T : Sto} : (S ++ T)[S.length]? = T[0]? := by
  have := get_app (S := S) (T := T) (j := 0)
  simpa using this
/-! operations -/
@[simp] theorem binD_int {S : Sto} {o : PySem.Operator} {i j : Int} : binD S o (.int i) (.int j) = (binI o i j).map .int := (rfl)
@[simp] theorem binD_str {S : Sto} {o : PySem.Operator} {i j : PySem.Str} : binD S o (.str i) (.str j) = addS o i j := (rfl)
@[simp] theorem binD_tup {S : Sto} {o : PySem.Operator} {i j : List D} : binD S o (.tup i) (.tup j) = addT o i j := (rfl)
@[simp] theorem binI_add {i j : Int} : binI .Add i j = some (i + j) := (rfl)
@[simp] theorem binI_sub {i j : Int} : binI .Sub i j = some (i - j) := (rfl)
@[simp] theorem binI_mul {i j : Int} : binI .Mult i j = if mulOk i j then some (i * j) else none := (rfl)
@[simp] theorem binI_fdiv {i j : Int} : binI .FloorDiv i j = if j ≠ 0 ∧ j.natAbs < 2 ^ 250 then some (i.fdiv j) else none := (rfl)
@[simp] theorem binI_mod {i j : Int} : binI .Mod i j = if j ≠ 0 then some (i.fmod j) else none := (rfl)
@[simp] theorem binI_shl {i j : Int} : binI .LShift i j = if 0 ≤ j ∧ j ≤ 1000000 ∧ i.natAbs < 2 ^ 64 then some (i * 2 ^ j.toNat) else none := (rfl)
@[simp] theorem binI_pow {i j : Int} : binI .Pow i j = if 0 ≤ j ∧ j ≤ 1000000 ∧ i.natAbs < 2 ^ 64 then some (i ^ j.toNat) else none := (rfl)
@[simp] theorem binI_shr {i j : Int} : binI .RShift i j = if 0 ≤ j then some (i / 2 ^ j.toNat) else none := (rfl)
@[simp] theorem binI_and {i j : Int} : binI .BitAnd i j = some (PySem.Builtin.bitAnd i j) := (rfl)
@[simp] theorem binI_or {i j : Int} : binI .BitOr i j = some (PySem.Builtin.bitOr i j) := (rfl)
@[simp] theorem binI_xor {i j : Int} : binI .BitXor i j = some (PySem.Builtin.bitXor i j) := (rfl)
@[simp] theorem cmp_eq {S : Sto} {a b : D} : cmpD S .Eq a b = eqD S a b := (rfl)
@[simp] theorem cmp_ne {S : Sto} {a b : D} : cmpD S .NotEq a b = (eqD S a b).map not := (rfl)
@[simp] theorem cmp_lt {S : Sto} {i j : Int} : cmpD S .Lt (.int i) (.int j) = some (decide (i < j)) := (rfl)
@[simp] theorem cmp_le {S : Sto} {i j : Int} : cmpD S .LtE (.int i) (.int j) = some (decide (i ≤ j)) := (rfl)
@[simp] theorem cmp_gt {S : Sto} {i j : Int} : cmpD S .Gt (.int i) (.int j) = some (decide (j < i)) := (rfl)
@[simp] theorem cmp_ge {S : Sto} {i j : Int} : cmpD S .GtE (.int i) (.int j) = some (decide (j ≤ i)) := (rfl)
@[simp] theorem cmp_in {S : Sto} {a b : D} : cmpD S .In a b = inD S a b := (rfl)
@[simp] theorem cmp_nin {S : Sto} {a b : D} : cmpD S .NotIn a b = (inD S a b).map not := (rfl)
@[simp] theorem cmp_is {S : Sto} {a : D} : cmpD S .Is a .non = some (isN a == true) := (rfl)
@[simp] theorem cmp_isn {S : Sto} {a : D} : cmpD S .IsNot a .non = some (isN a == false) := (rfl)
@[simp] theorem eq_int {S : Sto} {i j : Int} : eqD S (.int i) (.int j) = some (decide (i = j)) := (rfl)
@[simp] theorem eq_str {S : Sto} {i j : PySem.Str} : eqD S (.str i) (.str j) = some (decide (i = j)) := (rfl)
@[simp] theorem eq_bl {S : Sto} {i j : Bool} : eqD S (.bl i) (.bl j) = some (decide (i = j)) := (rfl)
@[simp] theorem tru_bl {S : Sto} {b : Bool} : truD S (.bl b) = some b := (rfl)
@[simp] theorem tru_int {S : Sto} {b : Int} : truD S (.int b) = some (b != 0) := (rfl)
@[simp] theorem tru_non {S : Sto} : truD S .non = some false := (rfl)
@[simp] theorem tru_lst {S : Sto} {l : List D} : truD S (.lst l) = some (!l.isEmpty) := (rfl)
@[simp] theorem tru_tup {S : Sto} {l : List D} : truD S (.tup l) = some (!l.isEmpty) := (rfl)
@[simp] theorem idx_lst {S : Sto} {l : List D} {k : Int} : idxD S (.lst l) (.int k) = L2.atI l k := (rfl)
@[simp] theorem idx_tup {S : Sto} {l : List D} {k : Int} : idxD S (.tup l) (.int k) = L2.atI l k := (rfl)
@[simp] theorem slc_lst {S : Sto} {l : List D} {p q : Option Int} : slcD S (.lst l) p q = some (.lst (cutL l p q)) := (rfl)
@[simp] theorem slc_tup {S : Sto} {l : List D} {p q : Option Int} : slcD S (.tup l) p q = some (.tup (cutL l p q)) := (rfl)
@[simp] theorem lo_lst {S : Sto} {l : List D} : listOf S (.lst l) = some l := (rfl)
@[simp] theorem io_lst {S : Sto} {l : List D} : itemsOf S (.lst l) = some l := (rfl)
@[simp] theorem io_tup {S : Sto} {l : List D} : itemsOf S (.tup l) = some l := (rfl)
@[simp] theorem itm_lst {S : Sto} {l : List D} : itmD S (.lst l) = some (.fix l) := (rfl)
@[simp] theorem itm_tup {S : Sto} {l : List D} : itmD S (.tup l) = some (.fix l) := (rfl)
@[simp] theorem len_lst {S : Sto} {l : List D} : biD S "len" [.lst l] = some (.int l.length) := (rfl)
@[simp] theorem len_tup {S : Sto} {l : List D} : biD S "len" [.tup l] = some (.int l.length) := (rfl)
@[simp] theorem inst_ok {S : Sto} {d t : D} : biD S "isinstance" [d, t] = isInst S d t := (rfl)
@[simp] theorem int_ok2 {S : Sto} {i : Int} : biD S "int" [.int i] = some (.int i) := (rfl)
@[simp] theorem int_ok3 {S : Sto} {i : Bool} : biD S "int" [.bl i] = some (.int (if i then 1 else 0)) := (rfl)
theorem int_okS {S : Sto} {z : PySem.Str} {n : Int} (h : PySem.intText? z = some n) (hl : z.length ≤ 640) : biD S "int" [.str z] = some (.int n) := by
  show (if z.length ≤ 640 then (PySem.intText? z).map D.int else none) = _
  rw [if_pos hl, h] <;> rfl
@[simp] theorem max_ok2 {S : Sto} {i j : Int} : biD S "max" [.int i, .int j] = some (.int (if j > i then j else i)) := (rfl)
@[simp] theorem min_ok2 {S : Sto} {i j : Int} : biD S "min" [.int i, .int j] = some (.int (if j < i then j else i)) := (rfl)
@[simp] theorem sum_ok2 {S : Sto} {l : List D} : biD S "sum" [.lst l] = (intsOf l).map fun ns => .int ns.sum := (rfl)
@[simp] theorem all_ok2 {S : Sto} {l : List D} : biD S "all" [.lst l] = (blsOf l).map fun ns => .bl (ns.all id) := (rfl)
@[simp] theorem any_ok2 {S : Sto} {l : List D} : biD S "any" [.lst l] = (blsOf l).map fun ns => .bl (ns.any id) := (rfl)
@[simp] theorem tuple_ok2 {S : Sto} {l : List D} : biD S "tuple" [.lst l] = some (.tup l) := (rfl)
theorem rng_nat {n : Nat} (h : n ≤ 16777216) : rngD [.int (n : Int)] = some (rngL 0 n) := by
  show (if small62 (n : Int) = true then some (rngL 0 (n : Int).toNat) else none) = _
  have : small62 (n : Int) = true := by unfold small62; exact decide_eq_true (by omega)
  rw [if_pos this, Int.toNat_natCast]
theorem rng_int {i : Int} (h0 : 0 ≤ i) (h : i ≤ 16777216) : rngD [.int i] = some (rngL 0 i.toNat) := by
  obtain ⟨n, rfl⟩ : ∃ n : Nat, i = n := ⟨i.toNat, by omega⟩
  rw [rng_nat (by omega), Int.toNat_natCast]
theorem rng_two {i j : Int} (h1 : -16777216 ≤ i ∧ i ≤ 16777216) (h2 : -16777216 ≤ j ∧ j ≤ 16777216) : rngD [.int i, .int j] = some (rngL i (j - i).toNat) := by
  show (if (small62 i && small62 j) = true then some (rngL i (j - i).toNat) else none) = _
  have a : small62 i = true := by unfold small62; exact decide_eq_true (by omega)
  have b : small62 j = true := by unfold small62; exact decide_eq_true (by omega)
  rw [a, b]; rfl
theorem mulOk_l {i j : Int} (h : -(2 ^ 64) < i ∧ i < 2 ^ 64) : mulOk i j = true := by unfold mulOk; rw [decide_eq_true h]; rfl
theorem mulOk_r {i j : Int} (h : -(2 ^ 64) < j ∧ j < 2 ^ 64) : mulOk i j = true := by unfold mulOk; rw [decide_eq_true h, Bool.or_true]
/-! tables, lambdas -/
def kinA (C : Ctx) (neg : Bool) (x : String) (z : R D) : R D := z.bind fun y S1 => R.of ((kinD (C.glo x) y).map fun b => .bl (b != neg)) S1
@[simp] theorem kinA_ok {C : Ctx} {neg : Bool} {x : String} {y : D} {S : Sto} : kinA C neg x (.ok y S) = R.of ((kinD (C.glo x) y).map fun b => .bl (b != neg)) S := (rfl)
@[simp] theorem e_kin {C : Ctx} {ρ : Env} {S : Sto} {neg : Bool} {x : String} {k : E} : evE C (.kin neg x k) ρ S = kinA C neg x (evE C k ρ S) := by rw [evE] <;> rfl
def kinT (C : Ctx) (neg : Bool) (x : String) (z : R D) : R Bool := z.bind fun y S1 => R.of ((kinD (C.glo x) y).map fun b => b != neg) S1
@[simp] theorem kinT_okq {C : Ctx} {neg : Bool} {x : String} {y : D} {S : Sto} : kinT C neg x (.ok y S) = R.of ((kinD (C.glo x) y).map fun b => b != neg) S := (rfl)
@[simp] theorem t_kin {C : Ctx} {ρ : Env} {S : Sto} {neg : Bool} {x : String} {k : E} : evT C (.kin neg x k) ρ S = kinT C neg x (evE C k ρ S) := by rw [evT] <;> rfl
def kixA (C : Ctx) (x : String) (z : R D) : R D := z.bind fun y S1 => R.of (kixD (C.glo x) y) S1
@[simp] theorem kixA_ok {C : Ctx} {x : String} {y : D} {S : Sto} : kixA C x (.ok y S) = R.of (kixD (C.glo x) y) S := (rfl)
@[simp] theorem e_kix {C : Ctx} {ρ : Env} {S : Sto} {x : String} {k : E} : evE C (.kix x k) ρ S = kixA C x (evE C k ρ S) := by rw [evE] <;> rfl
@[simp] theorem e_lam {C : Ctx} {ρ : Env} {S : Sto} : evE C .lam ρ S = .ok (.ref S.length) (S ++ [.dead]) := by rw [evE] <;> rfl
@[simp] theorem e_nev {C : Ctx} {ρ : Env} {S : Sto} : evE C .nev ρ S = .bad := by rw [evE] <;> rfl
/-! written dicts, lists' index, lambdas that are called -/
def lixB (x : D) (z : R D) : R D := z.bind fun y S2 => R.of (lixD x y) S2
@[simp] theorem lixB_ok {x y : D} {S : Sto} : lixB x (.ok y S) = R.of (lixD x y) S := (rfl)
def lixA (C : Ctx) (ρ : Env) (b : E) (z : R D) : R D := z.bind fun x S1 => lixB x (evE C b ρ S1)
@[simp] theorem lixA_ok {C : Ctx} {ρ : Env} {b : E} {x : D} {S : Sto} : lixA C ρ b (.ok x S) = lixB x (evE C b ρ S) := (rfl)
@[simp] theorem e_lix {C : Ctx} {ρ : Env} {S : Sto} {a b : E} : evE C (.lix a b) ρ S = lixA C ρ b (evE C a ρ S) := by rw [evE] <;> rfl
def wixA (l : List (String × Int)) (z : R D) : R D := z.bind fun y S1 => R.of (wixD l y) S1
@[simp] theorem wixA_ok {l : List (String × Int)} {y : D} {S : Sto} : wixA l (.ok y S) = R.of (wixD l y) S := (rfl)
@[simp] theorem e_wix {C : Ctx} {ρ : Env} {S : Sto} {l : List (String × Int)} {k : E} : evE C (.wix l k) ρ S = wixA l (evE C k ρ S) := by rw [evE] <;> rfl
def cloO (o : Option O) : Option (String × List D) := match o with
  | some (.clo f l) => some (f, l)
  | _ => none
@[simp] theorem cloO_ok {f : String} {l : List D} : cloO (some (.clo f l)) = some (f, l) := (rfl)
@[simp] theorem cloOf_r {S : Sto} {h : Nat} : cloOf S (.ref h) = cloO S[h]? := by
  unfold cloOf cloO
  cases e : S[h]? with
  | none => simp only [e]
  | some o => cases o <;> simp only [e]
def actB (C : Ctx) (l : List D) (S : Sto) (o : Option (String × List D)) : R D := match o with
  | some (f, cs) => C.fn f (l ++ cs) S
  | none => .bad
@[simp] theorem actB_ok {C : Ctx} {f : String} {cs l : List D} {S : Sto} : actB C l S (some (f, cs)) = C.fn f (l ++ cs) S := (rfl)
def actR (C : Ctx) (x : D) (z : R (List D)) : R D := z.bind fun l S1 => actB C l S1 (cloOf S1 x)
@[simp] theorem actR_ok {C : Ctx} {x : D} {l : List D} {S : Sto} : actR C x (.ok l S) = actB C l S (cloOf S x) := (rfl)
def actV (C : Ctx) (S : Sto) (z : R (List D)) (o : Option (Option D)) : R D := match o with
  | some (some x) => if (cloOf S x).isSome = true then actR C x z else .bad
  | _ => .bad
@[simp] theorem actV_ok {C : Ctx} {S : Sto} {z : R (List D)} {x : D} : actV C S z (some (some x)) = if (cloOf S x).isSome = true then actR C x z else .bad := (rfl)
@[simp] theorem e_act {C : Ctx} {ρ : Env} {S : Sto} {i : Nat} {es : Es} : evE C (.act i es) ρ S = actV C S (evEs C es ρ S) ρ[i]? := by
  rw [evE]
  dsimp only
  unfold actV
  cases ρ[i]? with
  | none => rfl
  | some o => cases o <;> rfl
@[simp] theorem t_act {C : Ctx} {ρ : Env} {S : Sto} {i : Nat} {es : Es} : evT C (.act i es) ρ S = truR (evE C (.act i es) ρ S) := by rw [evT, evE] <;> rfl
def killA (n : Nat) (z : R D) : R D := z.bind fun d S2 => .ok d (S2.set n .dead)
@[simp] theorem killA_ok {n : Nat} {d : D} {S : Sto} : killA n (.ok d S) = .ok d (S.set n .dead) := (rfl)
def flcR (C : Ctx) (f id : String) (cs : List D) (z : R (List D)) : R D := z.bind fun l S1 => flcA C f l id cs S1
@[simp] theorem flcR_ok {C : Ctx} {f id : String} {cs l : List D} {S : Sto} : flcR C f id cs (.ok l S) = killA S.length (C.fn f (l ++ [.ref S.length]) (S ++ [.clo id cs])) := (rfl)
def flcV (C : Ctx) (f id : String) (z : R (List D)) (o : Option (List D)) : R D := match o with
  | some cs => flcR C f id cs z
  | none => .bad
@[simp] theorem flcV_ok {C : Ctx} {f id : String} {cs : List D} {z : R (List D)} : flcV C f id z (some cs) = flcR C f id cs z := (rfl)
@[simp] theorem e_flc {C : Ctx} {ρ : Env} {S : Sto} {f id : String} {es : Es} {js : List Nat} : evE C (.flc f es id js) ρ S = flcV C f id (evEs C es ρ S) (capD ρ js) := by
  rw [evE]
  dsimp only
  unfold flcV
  cases capD ρ js <;> rfl
def capC (o : Option (Option D)) (z : Option (List D)) : Option (List D) := match o, z with
  | some (some d), some l => some (d :: l)
  | _, _ => none
@[simp] theorem capC_ok {d : D} {l : List D} : capC (some (some d)) (some l) = some (d :: l) := (rfl)
@[simp] theorem capD_nil {ρ : Env} : capD ρ [] = some [] := (rfl)
@[simp] theorem capD_cons {ρ : Env} {j : Nat} {r : List Nat} : capD ρ (j :: r) = capC ρ[j]? (capD ρ r) := by
  rw [capD]
  unfold capC
  rfl
/-! exceptions -/
def xisO (C : Ctx) (c : String) (o : Option O) : Option Bool := match o with
  | some (.exn k) => (C.xcl k).map fun l => l.contains c
  | _ => none
@[simp] theorem xisO_ok {C : Ctx} {c k : String} : xisO C c (some (.exn k)) = (C.xcl k).map fun l => l.contains c := (rfl)
@[simp] theorem xisD_r {C : Ctx} {S : Sto} {h : Nat} {c : String} : xisD C S (.ref h) c = xisO C c S[h]? := by
  unfold xisD xisO
  cases e : S[h]? with
  | none => simp only [e]
  | some o => cases o <;> simp only [e]
def xisA (C : Ctx) (c : String) (z : R D) : R D := z.bind fun x S1 => R.of ((xisD C S1 x c).map .bl) S1
@[simp] theorem xisA_ok {C : Ctx} {c : String} {x : D} {S : Sto} : xisA C c (.ok x S) = R.of ((xisD C S x c).map .bl) S := (rfl)
@[simp] theorem e_xis {C : Ctx} {ρ : Env} {S : Sto} {o : E} {c : String} : evE C (.xis o c) ρ S = xisA C c (evE C o ρ S) := by rw [evE] <;> rfl
def xisT (C : Ctx) (c : String) (z : R D) : R Bool := z.bind fun x S1 => R.of (xisD C S1 x c) S1
@[simp] theorem xisT_ok {C : Ctx} {c : String} {x : D} {S : Sto} : xisT C c (.ok x S) = R.of (xisD C S x c) S := (rfl)
@[simp] theorem t_xis {C : Ctx} {ρ : Env} {S : Sto} {o : E} {c : String} : evT C (.xis o c) ρ S = xisT C c (evE C o ρ S) := by rw [evT] <;> rfl
def hfA (C : Ctx) (f : String) (z : R (List D)) : R D := z.bind fun l S1 => C.hf f l S1
@[simp] theorem hfA_ok {C : Ctx} {f : String} {l : List D} {S : Sto} : hfA C f (.ok l S) = C.hf f l S := (rfl)
@[simp] theorem e_hfc {C : Ctx} {ρ : Env} {S : Sto} {f : String} {es : Es} : evE C (.hfc f es) ρ S = hfA C f (evEs C es ρ S) := by rw [evE] <;> rfl
@[simp] theorem t_hfc {C : Ctx} {ρ : Env} {S : Sto} {f : String} {es : Es} : evT C (.hfc f es) ρ S = truR (hfA C f (evEs C es ρ S)) := by rw [evT]; unfold truR hfA; rw [R.assoc]
def triX (C : Ctx) (cn : String) (i : Nat) (suite : Ss) (ρ : Env) (z : Option (String × Sto)) : R (Fl × Env) := match z with
  | some (k, S1) => match C.xcl k with
    | some l => if l.contains cn = true then offE i (evSs (hotC C) suite (ρ.set i (some (.ref S1.length))) (S1 ++ [.exn k])) else .bad
    | none => .bad
  | none => .bad
def triA (C : Ctx) (e : E) (cn : String) (i : Nat) (suite : Ss) (ρ : Env) (S : Sto) (z : R D) : R (Fl × Env) := match z with
  | .ok _ S1 => .ok (.nx, ρ) S1
  | _ => triX C cn i suite ρ (xE C e ρ S)
@[simp] theorem triA_ok {C : Ctx} {e : E} {cn : String} {i : Nat} {suite : Ss} {ρ : Env} {S S1 : Sto} {d : D} : triA C e cn i suite ρ S (.ok d S1) = .ok (.nx, ρ) S1 := (rfl)
@[simp] theorem triA_bad {C : Ctx} {e : E} {cn : String} {i : Nat} {suite : Ss} {ρ : Env} {S : Sto} : triA C e cn i suite ρ S .bad = triX C cn i suite ρ (xE C e ρ S) := (rfl)
theorem s_tri {C : Ctx} {ρ : Env} {S : Sto} {e : E} {cn : String} {i : Nat} {suite : Ss} : evS C (.tri e cn i suite) ρ S = triA C e cn i suite ρ S (evE C e ρ S) := by
  rw [evS]
  dsimp only
  unfold triA triX
  cases evE C e ρ S <;> rfl
@[simp] theorem s_rse {C : Ctx} {ρ : Env} {S : Sto} {c : String} : evS C (.rse c) ρ S = .bad := by rw [evS] <;> rfl
def xfA (C : Ctx) (f : String) (z : R (List D)) : Option (String × Sto) := match z with
  | .ok l S1 => C.fx f l S1
  | _ => none
@[simp] theorem xfA_ok {C : Ctx} {f : String} {l : List D} {S : Sto} : xfA C f (.ok l S) = C.fx f l S := (rfl)
@[simp] theorem xE_fc {C : Ctx} {ρ : Env} {S : Sto} {f : String} {a : E} {r : Es} : xE C (.fc f (.cons a r)) ρ S = xfA C f (evEs C (.cons a r) ρ S) := (rfl)
def xmA (C : Ctx) (c : String) (z : R (List D)) : Option (String × Sto) := match z with
  | .ok l S1 => mkX C c l S1
  | _ => none
@[simp] theorem xmA_ok {C : Ctx} {c : String} {l : List D} {S : Sto} : xmA C c (.ok l S) = mkX C c l S := (rfl)
@[simp] theorem xE_mk {C : Ctx} {ρ : Env} {S : Sto} {c : String} {a : E} {r : Es} : xE C (.mk c (.cons a r)) ρ S = xmA C c (evEs C (.cons a r) ρ S) := (rfl)
@[simp] theorem x_ex {C : Ctx} {ρ : Env} {S : Sto} {e : E} : xS C (.ex e) ρ S = xE C e ρ S := by rw [xS]
@[simp] theorem x_ret {C : Ctx} {ρ : Env} {S : Sto} {e : E} : xS C (.ret e) ρ S = xE C e ρ S := by rw [xS]
def xrA (c : String) (S : Sto) (o : Option (List String)) : Option (String × Sto) := match o with
  | some _ => some (c, S)
  | none => none
@[simp] theorem xrA_ok {c : String} {S : Sto} {l : List String} : xrA c S (some l) = some (c, S) := (rfl)
@[simp] theorem x_rse {C : Ctx} {ρ : Env} {S : Sto} {c : String} : xS C (.rse c) ρ S = xrA c S (C.xcl c) := by rw [xS] <;> rfl
def xiA (C : Ctx) (a b : Ss) (ρ : Env) (z : R Bool) : Option (String × Sto) := match z with
  | .ok k S1 => if k = true then xSs C a ρ S1 else xSs C b ρ S1
  | _ => none
@[simp] theorem xiA_t {C : Ctx} {a b : Ss} {ρ : Env} {S : Sto} : xiA C a b ρ (.ok true S) = xSs C a ρ S := (rfl)
@[simp] theorem xiA_f {C : Ctx} {a b : Ss} {ρ : Env} {S : Sto} : xiA C a b ρ (.ok false S) = xSs C b ρ S := (rfl)
@[simp] theorem x_ite {C : Ctx} {ρ : Env} {S : Sto} {c : E} {a b : Ss} : xS C (.ite c a b) ρ S = xiA C a b ρ (evT C c ρ S) := by rw [xS] <;> rfl
@[simp] theorem x_asg {C : Ctx} {ρ : Env} {S : Sto} {t : T} {e : E} : xS C (.asg t e) ρ S = none := (rfl)
@[simp] theorem x_pass {C : Ctx} {ρ : Env} {S : Sto} : xS C .pass ρ S = none := (rfl)
@[simp] theorem xs_nil {C : Ctx} {ρ : Env} {S : Sto} : xSs C .nil ρ S = none := by rw [xSs] <;> rfl
def xnA (C : Ctx) (r : Ss) (z : R (Fl × Env)) : Option (String × Sto) := match z with
  | .ok (.nx, ρ1) S1 => xSs C r ρ1 S1
  | _ => none
@[simp] theorem xnA_ok {C : Ctx} {r : Ss} {ρ : Env} {S : Sto} : xnA C r (.ok (.nx, ρ) S) = xSs C r ρ S := (rfl)
def xcA (C : Ctx) (s : MI.S) (r : Ss) (ρ : Env) (S : Sto) (z : Option (String × Sto)) : Option (String × Sto) := match z with
  | some x => some x
  | none => xnA C r (evS C s ρ S)
@[simp] theorem xcA_some {C : Ctx} {s : MI.S} {r : Ss} {ρ : Env} {S : Sto} {x : String × Sto} : xcA C s r ρ S (some x) = some x := (rfl)
@[simp] theorem xcA_none {C : Ctx} {s : MI.S} {r : Ss} {ρ : Env} {S : Sto} : xcA C s r ρ S none = xnA C r (evS C s ρ S) := (rfl)
@[simp] theorem xs_cons {C : Ctx} {ρ : Env} {S : Sto} {s : MI.S} {r : Ss} : xSs C (.cons s r) ρ S = xcA C s r ρ S (xS C s ρ S) := by rw [xSs] <;> rfl
theorem callX_run {P : Prog} {k : Nat} {f : String} {ds : List D} {S : Sto} {F : Fn} (h : P.fns f = some F) (hl : ds.length = F.np) :
    callX P (k + 1) f ds S = xSs ⟨P.cls, P.glo, call P k, arrP P, callX P k, P.xcl, callH P⟩ F.body (startE F.ns ds) S := callX_fn h hl
theorem callH_run {P : Prog} {f : String} {ds : List D} {S : Sto} {F : Fn} (h : P.fns f = some F) (hl : ds.length = F.np) :
    callH P f ds S = endA F.pure S (evSs ⟨fun _ => none, P.glo, fun _ _ _ => .bad, fun _ _ _ _ => none, fun _ _ _ => none, P.xcl, fun _ _ _ => .bad⟩ F.body (startE F.ns ds) S) := callH_fn h hl
/-! dicts with keys -/
@[simp] theorem e_dnew {C : Ctx} {ρ : Env} {S : Sto} : evE C .dnew ρ S = .ok (.ref S.length) (S ++ [.dct []]) := by rw [evE] <;> rfl
@[simp] theorem keyL_nil : keyL [] = some [] := (rfl)
@[simp] theorem keyL_int {i : Int} {r : List D} : keyL (.int i :: r) = (keyL r).map fun l => .inl i :: l := (rfl)
@[simp] theorem keyL_str {s : PySem.Str} {r : List D} : keyL (.str s :: r) = (keyL r).map fun l => .inr s :: l := (rfl)
def ktupB (l : List D) (S : Sto) (o : Option (List (Int ⊕ PySem.Str))) : R D := match o with
  | some k => if l.length ≤ line then .ok (.key k) S else .bad
  | none => .bad
@[simp] theorem ktupB_ok {l : List D} {S : Sto} {k : List (Int ⊕ PySem.Str)} : ktupB l S (some k) = if l.length ≤ line then .ok (.key k) S else .bad := (rfl)
def ktupA (z : R (List D)) : R D := z.bind fun l S1 => ktupB l S1 (keyL l)
@[simp] theorem ktupA_ok {l : List D} {S : Sto} : ktupA (.ok l S) = ktupB l S (keyL l) := (rfl)
@[simp] theorem e_ktup {C : Ctx} {ρ : Env} {S : Sto} {es : Es} : evE C (.ktup es) ρ S = ktupA (evEs C es ρ S) := by rw [evE] <;> rfl
def lstUA (z : R D) : R D := z.bind fun x S1 => R.of (lstU S1 x) S1
@[simp] theorem lstUA_ok {x : D} {S : Sto} : lstUA (.ok x S) = R.of (lstU S x) S := (rfl)
@[simp] theorem e_lset {C : Ctx} {ρ : Env} {S : Sto} {a : E} : evE C (.lset a) ρ S = lstUA (evE C a ρ S) := by rw [evE] <;> rfl
def dctO (o : Option O) : Option (List (List (Int ⊕ PySem.Str) × D)) := match o with
  | some (.dct kvs) => some kvs
  | _ => none
@[simp] theorem dctO_ok {kvs : List (List (Int ⊕ PySem.Str) × D)} : dctO (some (.dct kvs)) = some kvs := (rfl)
@[simp] theorem inD_key {S : Sto} {h : Nat} {k : List (Int ⊕ PySem.Str)} : inD S (.key k) (.ref h) = (dctO S[h]?).map fun kvs => kvs.any fun q => decide (q.1 = k) := by
  show (dctOf S (.ref h)).map _ = _
  unfold dctOf dctO
  cases e : S[h]? with
  | none => simp only [e]
  | some o => cases o <;> simp only [e]
@[simp] theorem idxD_key {S : Sto} {h : Nat} {k : List (Int ⊕ PySem.Str)} : idxD S (.ref h) (.key k) = (dctO S[h]?).bind fun kvs => valK kvs k := by
  show (dctOf S (.ref h)).bind _ = _
  unfold dctOf dctO
  cases e : S[h]? with
  | none => simp only [e]
  | some o => cases o <;> simp only [e]
def setK (ρ : Env) (S : Sto) (h : Nat) (d : D) (k : List (Int ⊕ PySem.Str)) (o : Option O) : R Env := match o with
  | some (.dct kvs) => if kvs.length < line then .ok ρ (S.set h (.dct (putD' kvs k d))) else .bad
  | _ => .bad
@[simp] theorem setK_ok {ρ : Env} {S : Sto} {h : Nat} {d : D} {k : List (Int ⊕ PySem.Str)} {kvs : List (List (Int ⊕ PySem.Str) × D)} : setK ρ S h d k (some (.dct kvs)) = if kvs.length < line then .ok ρ (S.set h (.dct (putD' kvs k d))) else .bad := (rfl)
@[simp] theorem setD_key {ρ : Env} {S : Sto} {h : Nat} {d : D} {k : List (Int ⊕ PySem.Str)} : setD ρ S d (.ref h) (.key k) = setK ρ S h d k S[h]? := by
  unfold setD setK
  cases e : S[h]? with
  | none => simp only [e]
  | some o => cases o <;> simp only [e]
@[simp] theorem items_key {S : Sto} {k : List (Int ⊕ PySem.Str)} : itemsOf S (.key k) = some (k.map kD) := (rfl)
@[simp] theorem kD_inl {i : Int} : kD (.inl i) = .int i := (rfl)
@[simp] theorem kD_inr {s : PySem.Str} : kD (.inr s) = .str s := (rfl)
@[simp] theorem idx_keyI {S : Sto} {k : List (Int ⊕ PySem.Str)} {i : Int} : idxD S (.key k) (.int i) = L2.atI (k.map kD) i := (rfl)
@[simp] theorem slc_key {S : Sto} {k : List (Int ⊕ PySem.Str)} {p q : Option Int} : slcD S (.key k) p q = some (.key (cutL k p q)) := (rfl)
@[simp] theorem below_key {n : Nat} {k : List (Int ⊕ PySem.Str)} : below n (.key k) = true := (rfl)
end MI

/-! MIr: plain facts: equality of data, lists by handle or written. -/
namespace MI
open PySem PyProof.Rows
theorem eqv_self {x : PyData} (hs : SeqAt.shaped x = true) : PyData.eqv x x = true := SeqAt.eqv_refl_plain _ (PyData.plain_of_canLay0 _ (SeqAt.canLay_of_shaped hs))
/-- a list: written, or by a handle -/
def Is (S : Sto) (d : D) (l : List D) : Prop := d = .lst l ∨ ∃ h, d = .ref h ∧ S[h]? = some (.lst l)
theorem Is.app {S T : Sto} {d : D} {l : List D} (i : Is S d l) : Is (S ++ T) d l := by
  rcases i with rfl | ⟨h, rfl, e⟩
  · exact .inl rfl
  · exact .inr ⟨h, rfl, by rw [List.getElem?_append_left (List.getElem?_eq_some_iff.mp e).1]; exact e⟩
theorem Is.pd {S : Sto} {d : D} {l : List D} {x : List PyData} (i : Is S d l) (e : pds0 l = some x) : pdOf S d = some (.list x) := by
  rcases i with rfl | ⟨h, rfl, e1⟩
  · show (pds0 l).map PyData.list = _
    rw [e] <;> rfl
  · show (match S[h]? with | some (.lst l) => (pds0 l).map PyData.list | _ => none) = _
    rw [e1]
    show (pds0 l).map PyData.list = _
    rw [e] <;> rfl
theorem Is.io {S : Sto} {d : D} {l : List D} (i : Is S d l) : itemsOf S d = some l := by
  rcases i with rfl | ⟨h, rfl, e1⟩
  · rfl
  · show (match S[h]? with | some (.lst l) => some l | _ => none) = _
    rw [e1]
theorem Is.lo {S : Sto} {d : D} {l : List D} (i : Is S d l) : listOf S d = some l := by
  rcases i with rfl | ⟨h, rfl, e1⟩
  · rfl
  · show (match S[h]? with | some (.lst l) => some l | _ => none) = _
    rw [e1]
theorem Is.idx {S : Sto} {d : D} {l : List D} (i : Is S d l) (k : Int) : idxD S d (.int k) = L2.atI l k := by
  rcases i with rfl | ⟨h, rfl, e1⟩
  · rfl
  · show (itemsOf S (.ref h)).bind _ = _
    have i : Is S (.ref h) l := .inr ⟨h, rfl, e1⟩
    rw [i.io] <;> rfl
theorem Is.ty {S : Sto} {d : D} {l : List D} (i : Is S d l) : tyOf S d = some "list" := by
  rcases i with rfl | ⟨h, rfl, e1⟩
  · rfl
  · show (listOf S (.ref h)).map _ = _
    have i : Is S (.ref h) l := .inr ⟨h, rfl, e1⟩
    rw [i.lo] <;> rfl
theorem Is.inst {S : Sto} {d : D} {l : List D} (i : Is S d l) : isInst S d (.ty "list") = some (.bl true) := by
  show (if "list" ∈ tys then (tyOf S d).map (fun u => D.bl (isTyB u "list")) else none) = _
  rw [if_pos (by decide), i.ty] <;> rfl
/-- a comprehension over it whose turns leave the store -/
theorem Is.comp {S : Sto} {d : D} {l : List D} {C : Ctx} {el : E} {t : T} {c : E} {vs : List Nat} {ρ : Env} (i : Is S d l) (hf : ∀ x ∈ l, ∃ o, cmF C el t c vs ρ x S = .ok o S) : compA C el t c vs ρ (R.of (itmD S d) S) = lenA (cmpL (cmF C el t c vs ρ) l S) := by
  rcases i with rfl | ⟨h, rfl, e1⟩
  · rfl
  · rw [itm_ref e1]
    show lenA (cmpH _ h (atH S h) 0 S) = _
    rw [cmpH_all e1 hf]
theorem pdE_of {S : Sto} {d : D} {x : PyData} (h : pdOf S d = some x) : pdE S d = some x := by unfold pdE; rw [h]
/-- == of data, whatever they are -/
theorem eqG_val {S : Sto} {a b : D} {x y : PyData} (ha : pdE S a = some x) (hb : pdE S b = some y) (hx : SeqAt.shaped x = true) (hy : SeqAt.shaped y = true) : eqG S a b = some (PyData.eqv x y) := by
  unfold eqG
  rw [ha, hb]
  simp only [hx, hy] <;> rfl
theorem eqE_data {S : Sto} {a b : D} {x : PyData} (ha : pdE S a = some x) (hb : pdE S b = some x) (hs : SeqAt.shaped x = true) (h : eqD S a b = eqG S a b) : eqD S a b = some true := by
  rw [h, eqG_val ha hb hs hs, eqv_self hs]
theorem eqD_data {S : Sto} {a b : D} {x : PyData} (ha : pdOf S a = some x) (hb : pdOf S b = some x) (hs : SeqAt.shaped x = true) (h : eqD S a b = eqG S a b) : eqD S a b = some true :=
  eqE_data (pdE_of ha) (pdE_of hb) hs h
theorem Is.eq {S : Sto} {a b : D} {l : List D} {x : List PyData} (i : Is S a l) (j : Is S b l) (e : pds0 l = some x) (hs : SeqAt.shaped (.list x) = true) : eqD S a b = some true := by
  refine eqD_data (i.pd e) (j.pd e) hs ?_
  rcases i with rfl | ⟨h, rfl, e1⟩ <;> rcases j with rfl | ⟨h', rfl, e2⟩ <;> rfl
theorem pds_ints : ∀ l : List Int, pds0 (l.map .int) = some (l.map .int)
  | [] => rfl
  | i :: l => by
    show (match pd0 (.int i), pds0 (l.map .int) with
      | some x, some xs => some (x :: xs)
      | _, _ => none) = _
    rw [pds_ints l] <;> rfl
theorem pds_bls : ∀ l : List Bool, pds0 (l.map .bl) = some (l.map .bool)
  | [] => rfl
  | i :: l => by
    show (match pd0 (.bl i), pds0 (l.map .bl) with
      | some x, some xs => some (x :: xs)
      | _, _ => none) = _
    rw [pds_bls l] <;> rfl
theorem lay_flat {α : Type} {f : α → PyData} (h1 : ∀ a, (f a).canLay0 = true) (h2 : ∀ a, (f a).depth = 0) : ∀ l : List α, PyData.canLayAll0 (l.map f) = true ∧ PyData.depthAll (l.map f) = 0
  | [] => ⟨rfl, rfl⟩
  | a :: l => by
    obtain ⟨g1, g2⟩ := lay_flat h1 h2 l
    constructor
    · show ((f a).canLay0 && PyData.canLayAll0 (l.map f)) = true
      rw [h1, g1] <;> rfl
    · show max (f a).depth (PyData.depthAll (l.map f)) = 0
      rw [h2, g2] <;> rfl
theorem shaped_flat {α : Type} {f : α → PyData} (h1 : ∀ a, (f a).canLay0 = true) (h2 : ∀ a, (f a).depth = 0) (l : List α) : SeqAt.shaped (.list (l.map f)) = true := by
  obtain ⟨g1, g2⟩ := lay_flat h1 h2 l
  show (PyData.canLayAll0 (l.map f) && decide (PyData.depthAll (l.map f) + 1 ≤ 64)) = true
  rw [g1, g2] <;> rfl
theorem shaped_ints (l : List Int) : SeqAt.shaped (.list (l.map .int)) = true := shaped_flat (fun _ => rfl) (fun _ => rfl) l
theorem shaped_bls (l : List Bool) : SeqAt.shaped (.list (l.map .bool)) = true := shaped_flat (fun _ => rfl) (fun _ => rfl) l
theorem Is.eqI {S : Sto} {a b : D} {l : List Int} (i : Is S a (l.map .int)) (j : Is S b (l.map .int)) : eqD S a b = some true := i.eq j (pds_ints l) (shaped_ints l)
theorem Is.eqB {S : Sto} {a b : D} {l : List Bool} (i : Is S a (l.map .bl)) (j : Is S b (l.map .bl)) : eqD S a b = some true := i.eq j (pds_bls l) (shaped_bls l)
theorem is_lst {S : Sto} {l : List D} : Is S (.lst l) l := .inl rfl
theorem is_last {S : Sto} {l : List D} : Is (S ++ [.lst l]) (.ref S.length) l := .inr ⟨_, rfl, sto_last⟩
theorem tup_refl {S : Sto} {l : List D} {x : List PyData} (h : pds0 l = some x) (hs : SeqAt.shaped (.tuple x) = true) : eqD S (.tup l) (.tup l) = some true :=
  eqD_data (x := .tuple x) (show (pds0 l).map PyData.tuple = _ by rw [h] <;> rfl) (show (pds0 l).map PyData.tuple = _ by rw [h] <;> rfl) hs rfl
theorem str_fits {i : Int} (h : i.natAbs.log2 < 1920) : (PySem.Str.ofString (toString i)).length ≤ 1921 := int_text_len_1921 h
theorem log2_small {i : Int} (h : i.natAbs < 2 ^ 64) : i.natAbs.log2 < 1920 := by
  by_cases h0 : i.natAbs = 0
  · rw [h0]; decide
  · exact Nat.lt_trans ((Nat.log2_lt h0).mpr h) (by decide)
/-! a width -/
structure Wd (w p h : Int) : Prop where
  w1 : 1 ≤ w
  w2 : w ≤ 1000
  hp : 2 ^ w.toNat = p
  hh : 2 ^ (w.toNat - 1) = h
  h0 : 0 < h
  ph : p = 2 * h
  p64 : p < 2 ^ 64
  h8 : 128 ≤ h
  msk : ∀ x, Builtin.bitAnd x (p - 1) = x % p
  mulp : -(2 ^ 64) < p
  w8 : w = 8 ∨ w = 16 ∨ w = 32
theorem wd8 : Wd 8 256 128 := ⟨by decide, by decide, by decide, by decide, by decide, by decide, by decide, by decide, bitAnd_m8, by decide, .inl rfl⟩
theorem wd16 : Wd 16 65536 32768 := ⟨by decide, by decide, by decide, by decide, by decide, by decide, by decide, by decide, bitAnd_m16, by decide, .inr (.inl rfl)⟩
theorem wd32 : Wd 32 4294967296 2147483648 := ⟨by decide, by decide, by decide, by decide, by decide, by decide, by decide, by decide, bitAnd_m32, by decide, .inr (.inr rfl)⟩
theorem Wd.w3 {w p h : Int} (W : Wd w p h) : 0 ≤ w ∧ w ≤ 1000000 ∧ w - 1 ≤ 1000000 ∧ 0 ≤ p ∧ p ≠ 0 := by have := W.w1; have := W.w2; have := W.h0; have := W.ph; omega
theorem md {w p h : Int} (W : Wd w p h) (x : Int) : 0 ≤ x % p ∧ x % p < p := by
  obtain ⟨g1, g2, g3, g4, g5⟩ := W.w3
  exact ⟨Int.emod_nonneg _ g5, Int.emod_lt_of_pos _ (by omega)⟩
theorem at2i {a b : Int} {j : Int} (h : 0 ≤ j ∧ j < 2) : ∃ x, L2.atI [D.int a, .int b] j = some (.int x) := by
  obtain ⟨n, rfl⟩ : ∃ n : Nat, j = n := ⟨j.toNat, by omega⟩
  rw [atI_nat]
  have hn : n < 2 := by omega
  match n, hn with
  | 0, _ => exact ⟨_, rfl⟩
  | 1, _ => exact ⟨_, rfl⟩
theorem at3i {a b c : Int} {j : Int} (h : 0 ≤ j ∧ j < 3) : ∃ x, L2.atI [D.int a, .int b, .int c] j = some (.int x) := by
  obtain ⟨n, rfl⟩ : ∃ n : Nat, j = n := ⟨j.toNat, by omega⟩
  rw [atI_nat]
  have hn : n < 3 := by omega
  match n, hn with
  | 0, _ => exact ⟨_, rfl⟩
  | 1, _ => exact ⟨_, rfl⟩
  | 2, _ => exact ⟨_, rfl⟩
/-- an item of written numbers -/
theorem atIs {l : List Int} {j : Int} (h : 0 ≤ j ∧ j < l.length) : ∃ x ∈ l, L2.atI (l.map D.int) j = some (.int x) := by
  obtain ⟨n, rfl⟩ : ∃ n : Nat, j = n := ⟨j.toNat, by omega⟩
  have hn : n < l.length := by omega
  refine ⟨l[n], List.getElem_mem hn, ?_⟩
  rw [atI_nat, List.getElem?_map, List.getElem?_eq_getElem hn]; rfl
end MI

/-! MIs: plain facts for the laws: loops, cuts, lists of ints, texts. -/
namespace MI
open PySem PyProof.Rows
section
variable {S : Sto} {h : Nat} {fl : List Int}
theorem is_slc {S : Sto} {d : D} {l : List D} {lo hi : Option Int} (i : Is S d l) : slcD S d lo hi = some (.lst (cutL l lo hi)) := by
  have e := i.lo
  rcases i with rfl | ⟨h, rfl, e1⟩
  · rfl
  · show (listOf S (.ref h)).map _ = _
    rw [e] <;> rfl
theorem is_len {d : D} {l : List D} (i : Is S d l) : biD S "len" [d] = some (.int l.length) := by
  have e := i.io
  rcases i with rfl | ⟨h, rfl, e2⟩
  · rfl
  · show (itemsOf S (.ref h)).map _ = _
    rw [e] <;> rfl
theorem cmpL_ex {f : D → Sto → R (Option D)} {S : Sto} {Q : D → Prop} : ∀ {l : List D}, (∀ x ∈ l, ∃ y, Q y ∧ f x S = .ok (some y) S) → ∃ ys, ys.length = l.length ∧ (∀ y ∈ ys, Q y) ∧ cmpL f l S = .ok ys S
  | [], _ => ⟨[], rfl, fun _ h => absurd h (List.not_mem_nil), rfl⟩
  | x :: l, h => by
    obtain ⟨y, hy, e⟩ := h x List.mem_cons_self
    obtain ⟨ys, e1, e2, e3⟩ := cmpL_ex fun y hy => h y (List.mem_cons_of_mem _ hy)
    refine ⟨y :: ys, by simp [e1], ?_, ?_⟩
    · intro z hz
      rcases List.mem_cons.mp hz with rfl | hz
      · exact hy
      · exact e2 z hz
    · show (f x S).bind _ = _
      rw [e]
      show (cmpL f l S).bind _ = _
      rw [e3] <;> rfl
theorem intsQ_of {Q : Int → Prop} : ∀ {ys : List D}, (∀ y ∈ ys, ∃ i, y = .int i ∧ Q i) → ∃ l : List Int, ys = l.map .int ∧ ∀ i ∈ l, Q i
  | [], _ => ⟨[], rfl, fun _ h => absurd h (List.not_mem_nil)⟩
  | y :: ys, h => by
    obtain ⟨i, rfl, hi⟩ := h y List.mem_cons_self
    obtain ⟨l, rfl, hl⟩ := intsQ_of fun z hz => h z (List.mem_cons_of_mem _ hz)
    refine ⟨i :: l, rfl, fun z hz => ?_⟩
    rcases List.mem_cons.mp hz with rfl | hz
    · exact hi
    · exact hl z hz
/-- a loop over a held list whose turns leave the store -/
theorem forH_stay {f : D → Env → Sto → R (Fl × Env)} {I : Env → Prop} {l : List D} (hS : S[h]? = some (.lst l)) (hf : ∀ x ∈ l, ∀ ρ, I ρ → ∃ ρ', f x ρ S = .ok (.nx, ρ') S ∧ I ρ') : ∀ m i ρ, i ≤ l.length → l.length < m + i → I ρ → ∃ ρ', forH f h m i ρ S = .ok (.nx, ρ') S ∧ I ρ'
  | 0, i, ρ, hi, hm, ii => by omega
  | m + 1, i, ρ, hi, hm, ii => by
    unfold forH
    rw [hS]
    by_cases hc : i < l.length
    · obtain ⟨ρ1, e1, i1⟩ := hf l[i] (List.getElem_mem hc) ρ ii
      obtain ⟨ρ2, e2, i2⟩ := forH_stay hS hf m (i + 1) ρ1 (by omega) (by omega) i1
      refine ⟨ρ2, ?_, i2⟩
      simp only [List.getElem?_eq_getElem hc, e1]
      exact e2
    · refine ⟨ρ, ?_, ii⟩
      simp only [List.getElem?_eq_none (Nat.le_of_not_lt hc)]
/-- a loop that counts down -/
theorem forL_invD {f : D → Env → Sto → R (Fl × Env)} {I : Nat → Env → Sto → Prop} {m : Nat} : ∀ {l : List D}, (∀ x ∈ l, ∀ n ρ S, I (n + 1) ρ S → ∃ ρ' S', f x ρ S = .ok (.nx, ρ') S' ∧ I n ρ' S') → ∀ ρ S, I (l.length + m) ρ S → ∃ ρ' S', forL f l ρ S = .ok (.nx, ρ') S' ∧ I m ρ' S'
  | [], _, ρ, S, i => ⟨ρ, S, rfl, by simpa using i⟩
  | x :: l, h, ρ, S, i => by
    obtain ⟨ρ1, S1, e1, i1⟩ := h x List.mem_cons_self (l.length + m) ρ S (by rw [show l.length + m + 1 = (x :: l).length + m by simp; omega]; exact i)
    obtain ⟨ρ2, S2, e2, i2⟩ := forL_invD (fun y hy => h y (List.mem_cons_of_mem _ hy)) ρ1 S1 i1
    refine ⟨ρ2, S2, ?_, i2⟩
    show (f x ρ S).bind _ = _
    rw [e1]
    exact e2
/-- a loop over a held list that stays where it is -/
theorem forH_inv {f : D → Env → Sto → R (Fl × Env)} {I : Nat → Env → Sto → Prop} {l : List D} (hS : ∀ i ρ S, I i ρ S → S[h]? = some (.lst l)) (t : ∀ i (hi : i < l.length) ρ S, I i ρ S → ∃ ρ' S', f l[i] ρ S = .ok (.nx, ρ') S' ∧ I (i + 1) ρ' S') :
    ∀ m i ρ S, i ≤ l.length → l.length < m + i → I i ρ S → ∃ ρ' S', forH f h m i ρ S = .ok (.nx, ρ') S' ∧ I l.length ρ' S'
  | 0, i, ρ, S, hi, hm, ii => by omega
  | m + 1, i, ρ, S, hi, hm, ii => by
    unfold forH
    rw [hS i ρ S ii]
    by_cases hc : i < l.length
    · obtain ⟨ρ1, S1, e1, i1⟩ := t i hc ρ S ii
      obtain ⟨ρ2, S2, e2, i2⟩ := forH_inv hS t m (i + 1) ρ1 S1 (by omega) (by omega) i1
      refine ⟨ρ2, S2, ?_, i2⟩
      simp only [List.getElem?_eq_getElem hc, e1]
      exact e2
    · refine ⟨ρ, S, ?_, by rw [show l.length = i by omega]; exact ii⟩
      simp only [List.getElem?_eq_none (Nat.le_of_not_lt hc)]
/-- a loop that ends: each turn brings the measure down -/
theorem whlF_inv {C : Ctx} {c : E} {body : Ss} {I : Nat → Env → Sto → Prop} (t : ∀ m ρ S, I m ρ S → (m = 0 ∧ evT C c ρ S = .ok false S) ∨ (evT C c ρ S = .ok true S ∧ ∃ m' ρ' S', m' < m ∧ evSs C body ρ S = .ok (.nx, ρ') S' ∧ I m' ρ' S')) :
    ∀ n m ρ S, m < n → I m ρ S → ∃ ρ' S', whlF C c body n ρ S = .ok (.nx, ρ') S' ∧ I 0 ρ' S'
  | 0, _, _, _, h, _ => absurd h (Nat.not_lt_zero _)
  | n + 1, m, ρ, S, h, i => by
    rw [whlF_succ]
    rcases t m ρ S i with ⟨rfl, e⟩ | ⟨e, m', ρ', S', hm, e2, i2⟩
    · rw [e]; exact ⟨ρ, S, rfl, i⟩
    · rw [e, whlA_t, e2, whlB_nx]
      exact whlF_inv t n m' ρ' S' (by omega) i2
theorem forL_until {f : D → Env → Sto → R (Fl × Env)} {I : Env → Sto → Prop} {x : D} {l2 : List D} {J : R (Fl × Env) → Prop} (hx : ∀ ρ S, I ρ S → ∃ d ρ' S', f x ρ S = .ok (.rt d, ρ') S' ∧ J (.ok (.rt d, ρ') S')) : ∀ {l1 : List D}, (∀ y ∈ l1, ∀ ρ S, I ρ S → ∃ ρ' S', f y ρ S = .ok (.nx, ρ') S' ∧ I ρ' S') → ∀ ρ S, I ρ S → ∃ d ρ' S', forL f (l1 ++ x :: l2) ρ S = .ok (.rt d, ρ') S' ∧ J (.ok (.rt d, ρ') S')
  | [], _, ρ, S, i => by
    obtain ⟨d, ρ', S', e, j⟩ := hx ρ S i
    refine ⟨d, ρ', S', ?_, j⟩
    show (f x ρ S).bind _ = _
    rw [e] <;> rfl
  | y :: l1, h, ρ, S, i => by
    obtain ⟨ρ1, S1, e1, i1⟩ := h y List.mem_cons_self ρ S i
    obtain ⟨d, ρ2, S2, e2, j⟩ := forL_until hx (l1 := l1) (fun z hz => h z (List.mem_cons_of_mem _ hz)) ρ1 S1 i1
    refine ⟨d, ρ2, S2, ?_, j⟩
    show (f y ρ S).bind _ = _
    rw [e1]
    exact e2
theorem eqv_ints : ∀ {l l' : List Int}, PyData.eqvAll (l.map .int) (l'.map .int) = decide (l = l')
  | [], [] => rfl
  | [], _ :: _ => rfl
  | _ :: _, [] => rfl
  | x :: l, y :: l' => by
    show ((x == y) && PyData.eqvAll (l.map .int) (l'.map .int)) = _
    rw [eqv_ints]
    by_cases h : x = y
    · subst h; simp
    · simp [h]
theorem eq_ints {l l' : List Int} : eqD S (.lst (l.map .int)) (.lst (l'.map .int)) = some (decide (l = l')) := by
  show eqG S _ _ = _
  have e1 : pdOf S (.lst (l.map .int)) = some (.list (l.map .int)) := is_lst.pd (pds_ints l)
  have e2 : pdOf S (.lst (l'.map .int)) = some (.list (l'.map .int)) := is_lst.pd (pds_ints l')
  rw [eqG_val (pdE_of e1) (pdE_of e2) (shaped_ints l) (shaped_ints l')]
  show some (PyData.eqvAll (l.map .int) (l'.map .int)) = _
  rw [eqv_ints]
theorem sIx_in {n : Nat} {d : Nat} {a : Int} (h0 : 0 ≤ a) (h1 : a ≤ n) : HT.sIx n d (some a) = a.toNat := by
  unfold HT.sIx
  simp only
  split <;> omega
theorem cut_pre {l : List Int} {a : Nat} (h : a ≤ l.length) : cutL (l.map D.int) none (some (a : Int)) = (l.take a).map D.int := by
  unfold cutL
  have h0 : HT.sIx l.length 0 none = 0 := rfl
  rw [List.length_map, sIx_in (by omega) (by omega), h0, List.map_take]
  simp
theorem cut_post {l : List Int} {a : Nat} (h : a ≤ l.length) : cutL (l.map D.int) (some (a : Int)) none = (l.drop a).map D.int := by
  unfold cutL
  have h0 : HT.sIx l.length l.length none = l.length := rfl
  rw [List.length_map, sIx_in (by omega) (by omega), h0, List.map_drop]
  simp only [Int.toNat_natCast]
  exact List.take_of_length_le (by simp)
theorem cut_last {l : List Int} (h : 1 ≤ l.length) : cutL (l.map D.int) none (some (-1)) = (l.take (l.length - 1)).map D.int := by
  unfold cutL
  have h0 : HT.sIx l.length 0 none = 0 := rfl
  have h1 : HT.sIx l.length l.length (some (-1)) = l.length - 1 := by unfold HT.sIx; simp only; split <;> omega
  rw [List.length_map, h1, h0, List.map_take]
  simp
theorem cut_take {l : List Int} {a : Nat} : cutL (l.map D.int) none (some (a : Int)) = (l.take a).map D.int := by
  by_cases h : a ≤ l.length
  · exact cut_pre h
  · unfold cutL
    have h0 : HT.sIx l.length 0 none = 0 := rfl
    have h1 : HT.sIx l.length l.length (some (a : Int)) = l.length := by unfold HT.sIx; simp only; split <;> omega
    rw [List.length_map, h1, h0, List.map_take]
    simp
    omega
theorem ok_str (s : String) : PyData.strOk (Str.ofString s) = true := by
  rw [Str.ofString_eq_toList]
  unfold PyData.strOk
  simp only [List.all_toArray, List.all_eq_true, List.mem_map, forall_exists_index, and_imp]
  rintro _ c _ rfl
  have := c.valid
  simp only [UInt32.isValidChar, Nat.isValidChar] at this
  have e : c.toNat = c.val.toNat := rfl
  simp only [decide_eq_true_eq]
  omega
theorem ok_app {x y : Str} (hx : PyData.strOk x = true) (hy : PyData.strOk y = true) : PyData.strOk (x ++ y) = true := by
  unfold PyData.strOk at *
  show (x.cps ++ y.cps).all _ = true
  rw [Array.all_append, hx, hy] <;> rfl
theorem ok_joinS {sep : Str} (hs : PyData.strOk sep = true) : ∀ {l : List Str}, (∀ x ∈ l, PyData.strOk x = true) → PyData.strOk (Str.join sep l) = true
  | [], _ => ok_str ""
  | [x], h => h x List.mem_cons_self
  | x :: y :: r, h => by
    have e : Str.join sep (x :: y :: r) = x ++ sep ++ Str.join sep (y :: r) := rfl
    rw [e]
    exact ok_app (ok_app (h x List.mem_cons_self) hs) (ok_joinS hs fun z hz => h z (List.mem_cons_of_mem _ hz))
theorem ok_join {sep : Str} {l : List Str} (hs : PyData.strOk sep = true) (h : ∀ x ∈ l, PyData.strOk x = true) : PyData.strOk (Txt.join sep l) = true := by
  unfold Txt.join
  rw [StrLaws.glued_eq_join]
  exact ok_joinS hs h
theorem pds_map {α : Type} {g : α → D} {f : α → PyData} (h : ∀ a, pd0 (g a) = some (f a)) : ∀ l : List α, pds0 (l.map g) = some (l.map f)
  | [] => rfl
  | a :: l => by
    show (match pd0 (g a), pds0 (l.map g) with
      | some x, some xs => some (x :: xs)
      | _, _ => none) = _
    rw [h a, pds_map h l] <;> rfl
theorem lay_deep {α : Type} {f : α → PyData} : ∀ {l : List α}, (∀ a ∈ l, (f a).canLay0 = true) → (∀ a ∈ l, (f a).depth ≤ 8) → PyData.canLayAll0 (l.map f) = true ∧ PyData.depthAll (l.map f) ≤ 8
  | [], _, _ => ⟨rfl, Nat.zero_le _⟩
  | a :: l, h1, h2 => by
    obtain ⟨g1, g2⟩ := lay_deep (l := l) (fun x hx => h1 x (List.mem_cons_of_mem _ hx)) (fun x hx => h2 x (List.mem_cons_of_mem _ hx))
    constructor
    · show ((f a).canLay0 && PyData.canLayAll0 (l.map f)) = true
      rw [h1 a List.mem_cons_self, g1] <;> rfl
    · show max (f a).depth (PyData.depthAll (l.map f)) ≤ 8
      exact Nat.max_le.mpr ⟨h2 a List.mem_cons_self, g2⟩
theorem shaped_deep {α : Type} {f : α → PyData} {l : List α} (h1 : ∀ a ∈ l, (f a).canLay0 = true) (h2 : ∀ a ∈ l, (f a).depth ≤ 8) : SeqAt.shaped (.list (l.map f)) = true := by
  obtain ⟨g1, g2⟩ := lay_deep h1 h2
  show (PyData.canLayAll0 (l.map f) && decide (PyData.depthAll (l.map f) + 1 ≤ 64)) = true
  rw [g1, decide_eq_true (by omega)] <;> rfl
theorem is_eqM {α : Type} {g : α → D} {f : α → PyData} (hp : ∀ a, pd0 (g a) = some (f a)) {l : List α} (h1 : ∀ a ∈ l, (f a).canLay0 = true) (h2 : ∀ a ∈ l, (f a).depth ≤ 8) {x y : D} (i : Is S x (l.map g)) (j : Is S y (l.map g)) : eqD S x y = some true :=
  i.eq j (pds_map hp l) (shaped_deep h1 h2)
theorem sapp {x y z : Str} : x ++ y ++ z = x ++ (y ++ z) := by
  apply TL.ext_tl
  rw [TL.tl_append, TL.tl_append, TL.tl_append, TL.tl_append, List.append_assoc]
theorem slen {x y : Str} : (x ++ y).length = x.length + y.length := by
  rw [TL.len_tl, TL.len_tl, TL.len_tl, TL.tl_append, List.length_append]
theorem bin_ll {x y : List D} : binD S .Add (.lst x) (.lst y) = if x.length + y.length ≤ 16777216 then some (.lst (x ++ y)) else none := rfl
theorem ints_are : ∀ l : List Int, intsOf (l.map .int) = some l
  | [] => rfl
  | x :: l => by
    show (intsOf (l.map .int)).map (x :: ·) = _
    rw [ints_are l] <;> rfl
end
end MI

set_option maxHeartbeats 0
/-! the text and the own syntax -/
namespace MI.Law
open PySem PySem.Spec PyProof.Rows L2 MI
instance celsLaw : MI.Cels := ⟨[]⟩
def par0 : Par := ⟨["fit", "reckoned", "_law_cell_at", "_law_is_row", "_law_mixed", "_law_number", "_law_term", "_law_nothing_done", "_law_nought", "_law_numbers", "law"], ["COMMUTING", "MOST_KNOTS"], ["range", "len", "set"], [], [], ["Terms"], [("Terms.make", 3, [])], [], [], false, false, [], fun _ _ _ _ _ => false⟩
def loD (id : String) (fr : List Str) (params : Arguments) (body : Expr) (scope : Scope) : Bool := false
def par : Par := { par0 with lo := loD }
def Nf_fit : List Str := ["width", "number"]
theorem sf_fit : FnScope Nf_fit ["width", "number"] (defScope (top 5)) := ⟨rfl, rfl, rfl, by decide +kernel, rfl, by decide +kernel, by decide +kernel⟩
theorem okf_fit : okSs (par.at "fit") Nf_fit f_fit.body (defScope (top 5)) (fun _ => true) (defBody (top 5)) = true := by decide +kernel
def Nf_reckoned : List Str := ["width", "word", "one", "other"]
theorem sf_reckoned : FnScope Nf_reckoned ["width", "word", "one", "other"] (defScope (top 6)) := ⟨rfl, rfl, rfl, by decide +kernel, rfl, by decide +kernel, by decide +kernel⟩
theorem okf_reckoned : okSs (par.at "reckoned") Nf_reckoned f_reckoned.body (defScope (top 6)) (fun _ => true) (defBody (top 6)) = true := by decide +kernel
def Nf_Terms_o__init : List Str := ["self", "width"]
theorem sf_Terms_o__init : FnScope Nf_Terms_o__init ["self", "width"] (defScope (mem 10 0)) := ⟨rfl, rfl, rfl, by decide +kernel, rfl, by decide +kernel, by decide +kernel⟩
theorem okf_Terms_o__init : okSs (par.at "Terms.__init__") Nf_Terms_o__init f_Terms_o__init.body (defScope (mem 10 0)) (fun _ => true) (defBody (mem 10 0)) = true := by decide +kernel
def Nf_Terms_o_knot : List Str := ["self", "told"]
theorem sf_Terms_o_knot : FnScope Nf_Terms_o_knot ["self", "told"] (defScope (mem 10 1)) := ⟨rfl, rfl, rfl, by decide +kernel, rfl, by decide +kernel, by decide +kernel⟩
theorem okf_Terms_o_knot : okSs (par.at "Terms.knot") Nf_Terms_o_knot f_Terms_o_knot.body (defScope (mem 10 1)) (fun _ => true) (defBody (mem 10 1)) = true := by decide +kernel
def Nf_Terms_o_number : List Str := ["self", "whole"]
theorem sf_Terms_o_number : FnScope Nf_Terms_o_number ["self", "whole"] (defScope (mem 10 2)) := ⟨rfl, rfl, rfl, by decide +kernel, rfl, by decide +kernel, by decide +kernel⟩
theorem okf_Terms_o_number : okSs (par.at "Terms.number") Nf_Terms_o_number f_Terms_o_number.body (defScope (mem 10 2)) (fun _ => true) (defBody (mem 10 2)) = true := by decide +kernel
def Nf_Terms_o_unknown : List Str := ["self", "name", "which"]
theorem sf_Terms_o_unknown : FnScope Nf_Terms_o_unknown ["self", "name", "which"] (defScope (mem 10 3)) := ⟨rfl, rfl, rfl, by decide +kernel, rfl, by decide +kernel, by decide +kernel⟩
theorem okf_Terms_o_unknown : okSs (par.at "Terms.unknown") Nf_Terms_o_unknown f_Terms_o_unknown.body (defScope (mem 10 3)) (fun _ => true) (defBody (mem 10 3)) = true := by decide +kernel
def Nf_Terms_o_known : List Str := ["self", "one", "told"]
theorem sf_Terms_o_known : FnScope Nf_Terms_o_known ["self", "one"] (defScope (mem 10 4)) := ⟨rfl, rfl, rfl, by decide +kernel, rfl, by decide +kernel, by decide +kernel⟩
theorem okf_Terms_o_known : okSs (par.at "Terms.known") Nf_Terms_o_known f_Terms_o_known.body (defScope (mem 10 4)) (fun _ => true) (defBody (mem 10 4)) = true := by decide +kernel
def Nf_Terms_o_make : List Str := ["self", "word", "one", "other"]
theorem sf_Terms_o_make : FnScope Nf_Terms_o_make ["self", "word", "one", "other"] (defScope (mem 10 5)) := ⟨rfl, rfl, rfl, by decide +kernel, rfl, by decide +kernel, by decide +kernel⟩
theorem okf_Terms_o_make : okSs (par.at "Terms.make") Nf_Terms_o_make f_Terms_o_make.body (defScope (mem 10 5)) (fun _ => true) (defBody (mem 10 5)) = true := by decide +kernel
def Nf_Terms_o_make_one : List Str := ["self", "word", "one", "whole"]
theorem sf_Terms_o_make_one : FnScope Nf_Terms_o_make_one ["self", "word", "one"] (defScope (mem 10 6)) := ⟨rfl, rfl, rfl, by decide +kernel, rfl, by decide +kernel, by decide +kernel⟩
theorem okf_Terms_o_make_one : okSs (par.at "Terms.make_one") Nf_Terms_o_make_one f_Terms_o_make_one.body (defScope (mem 10 6)) (fun _ => true) (defBody (mem 10 6)) = true := by decide +kernel
def Nf_Terms_o_make_two : List Str := ["self", "word", "one", "other", "first", "second"]
theorem sf_Terms_o_make_two : FnScope Nf_Terms_o_make_two ["self", "word", "one", "other"] (defScope (mem 10 7)) := ⟨rfl, rfl, rfl, by decide +kernel, rfl, by decide +kernel, by decide +kernel⟩
theorem okf_Terms_o_make_two : okSs (par.at "Terms.make_two") Nf_Terms_o_make_two f_Terms_o_make_two.body (defScope (mem 10 7)) (fun _ => true) (defBody (mem 10 7)) = true := by decide +kernel
def Nf_Terms_o_make_sorted : List Str := ["self", "word", "one", "other", "whole", "told", "more"]
theorem sf_Terms_o_make_sorted : FnScope Nf_Terms_o_make_sorted ["self", "word", "one", "other"] (defScope (mem 10 8)) := ⟨rfl, rfl, rfl, by decide +kernel, rfl, by decide +kernel, by decide +kernel⟩
theorem okf_Terms_o_make_sorted : okSs (par.at "Terms.make_sorted") Nf_Terms_o_make_sorted f_Terms_o_make_sorted.body (defScope (mem 10 8)) (fun _ => true) (defBody (mem 10 8)) = true := by decide +kernel
def Ng_law_cell_at : List Str := ["_law_script", "_law_k"]
theorem sg_law_cell_at : FnScope Ng_law_cell_at ["_law_script", "_law_k"] (defScope (top 12)) := ⟨rfl, rfl, rfl, by decide +kernel, rfl, by decide +kernel, by decide +kernel⟩
theorem okg_law_cell_at : okSs (par.at "_law_cell_at") Ng_law_cell_at g_law_cell_at.body (defScope (top 12)) (fun _ => true) (defBody (top 12)) = true := by decide +kernel
def Ng_law_is_row : List Str := ["_law_cell"]
theorem sg_law_is_row : FnScope Ng_law_is_row ["_law_cell"] (defScope (top 13)) := ⟨rfl, rfl, rfl, by decide +kernel, rfl, by decide +kernel, by decide +kernel⟩
theorem okg_law_is_row : okSs (par.at "_law_is_row") Ng_law_is_row g_law_is_row.body (defScope (top 13)) (fun _ => true) (defBody (top 13)) = true := by decide +kernel
def Ng_law_mixed : List Str := ["_law_cell", "_law_k", "_law_number_here"]
theorem sg_law_mixed : FnScope Ng_law_mixed ["_law_cell", "_law_k"] (defScope (top 14)) := ⟨rfl, rfl, rfl, by decide +kernel, rfl, by decide +kernel, by decide +kernel⟩
theorem okg_law_mixed : okSs (par.at "_law_mixed") Ng_law_mixed g_law_mixed.body (defScope (top 14)) (fun _ => true) (defBody (top 14)) = true := by decide +kernel
def Ng_law_number : List Str := ["_law_cell", "_law_k", "_law_width", "_law_number_here", "_law_large"]
theorem sg_law_number : FnScope Ng_law_number ["_law_cell", "_law_k", "_law_width"] (defScope (top 15)) := ⟨rfl, rfl, rfl, by decide +kernel, rfl, by decide +kernel, by decide +kernel⟩
theorem okg_law_number : okSs (par.at "_law_number") Ng_law_number g_law_number.body (defScope (top 15)) (fun _ => true) (defBody (top 15)) = true := by decide +kernel
def Ng_law_term : List Str := ["_law_terms", "_law_cell", "_law_width", "_law_number_here", "_law_one", "_law_other"]
theorem sg_law_term : FnScope Ng_law_term ["_law_terms", "_law_cell", "_law_width"] (defScope (top 16)) := ⟨rfl, rfl, rfl, by decide +kernel, rfl, by decide +kernel, by decide +kernel⟩
theorem okg_law_term : okSs (par.at "_law_term") Ng_law_term g_law_term.body (defScope (top 16)) (fun _ => true) (defBody (top 16)) = true := by decide +kernel
def Ng_law_nothing_done : List Str := ["_law_terms", "_law_x", "_law_zero", "_law_found", "_law_word"]
theorem sg_law_nothing_done : FnScope Ng_law_nothing_done ["_law_terms", "_law_x"] (defScope (top 17)) := ⟨rfl, rfl, rfl, by decide +kernel, rfl, by decide +kernel, by decide +kernel⟩
theorem okg_law_nothing_done : okSs (par.at "_law_nothing_done") Ng_law_nothing_done g_law_nothing_done.body (defScope (top 17)) (fun _ => true) (defBody (top 17)) = true := by decide +kernel
def Ng_law_nought : List Str := ["_law_terms", "_law_x", "_law_zero", "_law_found"]
theorem sg_law_nought : FnScope Ng_law_nought ["_law_terms", "_law_x"] (defScope (top 18)) := ⟨rfl, rfl, rfl, by decide +kernel, rfl, by decide +kernel, by decide +kernel⟩
theorem okg_law_nought : okSs (par.at "_law_nought") Ng_law_nought g_law_nought.body (defScope (top 18)) (fun _ => true) (defBody (top 18)) = true := by decide +kernel
def Ng_law_numbers : List Str := ["_law_terms", "_law_x", "_law_first", "_law_second", "_law_width", "_law_most", "_law_one", "_law_other", "_law_both", "_law_found", "_law_due"]
theorem sg_law_numbers : FnScope Ng_law_numbers ["_law_terms", "_law_x", "_law_first", "_law_second", "_law_width"] (defScope (top 19)) := ⟨rfl, rfl, rfl, by decide +kernel, rfl, by decide +kernel, by decide +kernel⟩
theorem okg_law_numbers : okSs (par.at "_law_numbers") Ng_law_numbers g_law_numbers.body (defScope (top 19)) (fun _ => true) (defBody (top 19)) = true := by decide +kernel
def Nf_law : List Str := ["_law_script", "_law_width", "_law_terms", "_law_x", "_law_y", "_law_word", "_law_first", "_law_second", "_law_unknown", "_law_k"]
theorem sf_law : FnScope Nf_law ["_law_script"] (defScope (top 20)) := ⟨rfl, rfl, rfl, by decide +kernel, rfl, by decide +kernel, by decide +kernel⟩
theorem okf_law : okSs (par.at "law") Nf_law f_law.body (defScope (top 20)) (fun _ => true) (defBody (top 20)) = true := by decide +kernel
theorem run (w : World) : HandSHeadRun.RunEq Rr (PySem.W.view Rr.prog [20]) hk ob 20000 names w := PySem.W.byRow2 "special-get-raises" (P := fun w => HandSHeadRun.RunEq Rr (PySem.W.view Rr.prog [20]) hk ob 20000 names w) runF runT w
theorem daf_fit [Tabs] {K : PySem.W.Frag} (c : He.SaysD faD fnD K) : DA P K par "fit" (He.fAd K df_fit.at_) := by
  obtain ⟨fd, F⟩ := c.def_ 0 (d := df_fit) rfl
  exact ⟨⟨_, fd, _, _, Nf_fit, _, _, _, _, _, _, fnf_fit, F, sf_fit, rfl, rfl, okf_fit, rfl, ⟨F.bindsN fun _ _ _ _ _ _ us hl => match us, hl with | [_, _], _ => rfl, shs_by (k := []) (by rfl) (fun q hq => by cases hq)⟩, fun h => absurd h (by decide)⟩, fun h => absurd h (by decide)⟩
theorem daf_reckoned [Tabs] {K : PySem.W.Frag} (c : He.SaysD faD fnD K) : DA P K par "reckoned" (He.fAd K df_reckoned.at_) := by
  obtain ⟨fd, F⟩ := c.def_ 1 (d := df_reckoned) rfl
  exact ⟨⟨_, fd, _, _, Nf_reckoned, _, _, _, _, _, _, fnf_reckoned, F, sf_reckoned, rfl, rfl, okf_reckoned, rfl, ⟨F.bindsN fun _ _ _ _ _ _ us hl => match us, hl with | [_, _, _, _], _ => rfl, shs_by (k := []) (by rfl) (fun q hq => by cases hq)⟩, fun h => absurd h (by decide)⟩, fun h => absurd h (by decide)⟩
theorem daf_Terms_o__init [Tabs] {K : PySem.W.Frag} (c : He.SaysD faD fnD K) : DA P K par "Terms.__init__" (He.fAd K df_Terms_o__init.at_) := by
  obtain ⟨fd, F⟩ := c.def_ 2 (d := df_Terms_o__init) rfl
  exact ⟨⟨_, fd, _, _, Nf_Terms_o__init, _, _, _, _, _, _, fnf_Terms_o__init, F, sf_Terms_o__init, rfl, rfl, okf_Terms_o__init, rfl, ⟨F.bindsN fun _ _ _ _ _ _ us hl => match us, hl with | [_, _], _ => rfl, shs_by (k := []) (by rfl) (fun q hq => by cases hq)⟩, fun h => absurd h (by decide)⟩, fun h => absurd h (by decide)⟩
theorem daf_Terms_o_knot [Tabs] {K : PySem.W.Frag} (c : He.SaysD faD fnD K) : DA P K par "Terms.knot" (He.fAd K df_Terms_o_knot.at_) := by
  obtain ⟨fd, F⟩ := c.def_ 3 (d := df_Terms_o_knot) rfl
  exact ⟨⟨_, fd, _, _, Nf_Terms_o_knot, _, _, _, _, _, _, fnf_Terms_o_knot, F, sf_Terms_o_knot, rfl, rfl, okf_Terms_o_knot, rfl, ⟨F.bindsN fun _ _ _ _ _ _ us hl => match us, hl with | [_, _], _ => rfl, shs_by (k := []) (by rfl) (fun q hq => by cases hq)⟩, fun h => absurd h (by decide)⟩, fun h => absurd h (by decide)⟩
theorem daf_Terms_o_number [Tabs] {K : PySem.W.Frag} (c : He.SaysD faD fnD K) : DA P K par "Terms.number" (He.fAd K df_Terms_o_number.at_) := by
  obtain ⟨fd, F⟩ := c.def_ 4 (d := df_Terms_o_number) rfl
  exact ⟨⟨_, fd, _, _, Nf_Terms_o_number, _, _, _, _, _, _, fnf_Terms_o_number, F, sf_Terms_o_number, rfl, rfl, okf_Terms_o_number, rfl, ⟨F.bindsN fun _ _ _ _ _ _ us hl => match us, hl with | [_, _], _ => rfl, shs_by (k := []) (by rfl) (fun q hq => by cases hq)⟩, fun h => absurd h (by decide)⟩, fun h => absurd h (by decide)⟩
theorem daf_Terms_o_unknown [Tabs] {K : PySem.W.Frag} (c : He.SaysD faD fnD K) : DA P K par "Terms.unknown" (He.fAd K df_Terms_o_unknown.at_) := by
  obtain ⟨fd, F⟩ := c.def_ 5 (d := df_Terms_o_unknown) rfl
  exact ⟨⟨_, fd, _, _, Nf_Terms_o_unknown, _, _, _, _, _, _, fnf_Terms_o_unknown, F, sf_Terms_o_unknown, rfl, rfl, okf_Terms_o_unknown, rfl, ⟨F.bindsN fun _ _ _ _ _ _ us hl => match us, hl with | [_, _, _], _ => rfl, shs_by (k := []) (by rfl) (fun q hq => by cases hq)⟩, fun h => absurd h (by decide)⟩, fun h => absurd h (by decide)⟩
theorem daf_Terms_o_known [Tabs] {K : PySem.W.Frag} (c : He.SaysD faD fnD K) : DA P K par "Terms.known" (He.fAd K df_Terms_o_known.at_) := by
  obtain ⟨fd, F⟩ := c.def_ 6 (d := df_Terms_o_known) rfl
  exact ⟨⟨_, fd, _, _, Nf_Terms_o_known, _, _, _, _, _, _, fnf_Terms_o_known, F, sf_Terms_o_known, rfl, rfl, okf_Terms_o_known, rfl, ⟨F.bindsN fun _ _ _ _ _ _ us hl => match us, hl with | [_, _], _ => rfl, shs_by (k := []) (by rfl) (fun q hq => by cases hq)⟩, fun h => absurd h (by decide)⟩, fun h => absurd h (by decide)⟩
theorem daf_Terms_o_make [Tabs] {K : PySem.W.Frag} (c : He.SaysD faD fnD K) : DA P K par "Terms.make" (He.fAd K df_Terms_o_make.at_) := by
  obtain ⟨fd, F⟩ := c.def_ 7 (d := df_Terms_o_make) rfl
  obtain ⟨ds, hv, hb⟩ := F.binds1 (ps := ["self", "word", "one", "other"]) 4 1 (List.cons_ne_nil _ _) rfl (fun _ _ _ _ _ _ _ us its hl hi => match us, its, hl, hi with | [_, _, _, _], [_], _, _ => ⟨_, rfl, rfl⟩)
  have hd : ds = [] := L2.Vals.zero hv
  subst hd
  exact ⟨⟨_, fd, _, _, Nf_Terms_o_make, _, _, _, _, _, _, fnf_Terms_o_make, F, sf_Terms_o_make, rfl, rfl, okf_Terms_o_make, rfl, ⟨hb, shs_by (k := [(3, [])]) (by rfl) (fun q hq => by
    simp only [List.mem_cons, List.not_mem_nil, or_false] at hq
    rcases hq with rfl
    · exact shp_of 3 [] F fnf_Terms_o_make (List.cons_ne_nil _ _) (fun _ _ _ => (.cons rv_non .nil)) (fun _ _ _ _ _ _ _ us its ws h1 h2 h3 => match us, its, ws, h1, h2, h3 with | [_, _, _], [_], [], _, _, _ => ⟨_, rfl, rfl⟩)
    )⟩, fun h => absurd h (by decide)⟩, fun h => absurd h (by decide)⟩
theorem daf_Terms_o_make_one [Tabs] {K : PySem.W.Frag} (c : He.SaysD faD fnD K) : DA P K par "Terms.make_one" (He.fAd K df_Terms_o_make_one.at_) := by
  obtain ⟨fd, F⟩ := c.def_ 8 (d := df_Terms_o_make_one) rfl
  exact ⟨⟨_, fd, _, _, Nf_Terms_o_make_one, _, _, _, _, _, _, fnf_Terms_o_make_one, F, sf_Terms_o_make_one, rfl, rfl, okf_Terms_o_make_one, rfl, ⟨F.bindsN fun _ _ _ _ _ _ us hl => match us, hl with | [_, _, _], _ => rfl, shs_by (k := []) (by rfl) (fun q hq => by cases hq)⟩, fun h => absurd h (by decide)⟩, fun h => absurd h (by decide)⟩
theorem daf_Terms_o_make_two [Tabs] {K : PySem.W.Frag} (c : He.SaysD faD fnD K) : DA P K par "Terms.make_two" (He.fAd K df_Terms_o_make_two.at_) := by
  obtain ⟨fd, F⟩ := c.def_ 9 (d := df_Terms_o_make_two) rfl
  exact ⟨⟨_, fd, _, _, Nf_Terms_o_make_two, _, _, _, _, _, _, fnf_Terms_o_make_two, F, sf_Terms_o_make_two, rfl, rfl, okf_Terms_o_make_two, rfl, ⟨F.bindsN fun _ _ _ _ _ _ us hl => match us, hl with | [_, _, _, _], _ => rfl, shs_by (k := []) (by rfl) (fun q hq => by cases hq)⟩, fun h => absurd h (by decide)⟩, fun h => absurd h (by decide)⟩
theorem daf_Terms_o_make_sorted [Tabs] {K : PySem.W.Frag} (c : He.SaysD faD fnD K) : DA P K par "Terms.make_sorted" (He.fAd K df_Terms_o_make_sorted.at_) := by
  obtain ⟨fd, F⟩ := c.def_ 10 (d := df_Terms_o_make_sorted) rfl
  exact ⟨⟨_, fd, _, _, Nf_Terms_o_make_sorted, _, _, _, _, _, _, fnf_Terms_o_make_sorted, F, sf_Terms_o_make_sorted, rfl, rfl, okf_Terms_o_make_sorted, rfl, ⟨F.bindsN fun _ _ _ _ _ _ us hl => match us, hl with | [_, _, _, _], _ => rfl, shs_by (k := []) (by rfl) (fun q hq => by cases hq)⟩, fun h => absurd h (by decide)⟩, fun h => absurd h (by decide)⟩
theorem dag_law_cell_at [Tabs] {K : PySem.W.Frag} (c : He.SaysD faD fnD K) : DA P K par "_law_cell_at" (He.fAd K dg_law_cell_at.at_) := by
  obtain ⟨fd, F⟩ := c.def_ 11 (d := dg_law_cell_at) rfl
  exact ⟨⟨_, fd, _, _, Ng_law_cell_at, _, _, _, _, _, _, fng_law_cell_at, F, sg_law_cell_at, rfl, rfl, okg_law_cell_at, rfl, ⟨F.bindsN fun _ _ _ _ _ _ us hl => match us, hl with | [_, _], _ => rfl, shs_by (k := []) (by rfl) (fun q hq => by cases hq)⟩, fun h => absurd h (by decide)⟩, fun h => absurd h (by decide)⟩
theorem dag_law_is_row [Tabs] {K : PySem.W.Frag} (c : He.SaysD faD fnD K) : DA P K par "_law_is_row" (He.fAd K dg_law_is_row.at_) := by
  obtain ⟨fd, F⟩ := c.def_ 12 (d := dg_law_is_row) rfl
  exact ⟨⟨_, fd, _, _, Ng_law_is_row, _, _, _, _, _, _, fng_law_is_row, F, sg_law_is_row, rfl, rfl, okg_law_is_row, rfl, ⟨F.bindsN fun _ _ _ _ _ _ us hl => match us, hl with | [_], _ => rfl, shs_by (k := []) (by rfl) (fun q hq => by cases hq)⟩, fun h => absurd h (by decide)⟩, fun h => absurd h (by decide)⟩
theorem dag_law_mixed [Tabs] {K : PySem.W.Frag} (c : He.SaysD faD fnD K) : DA P K par "_law_mixed" (He.fAd K dg_law_mixed.at_) := by
  obtain ⟨fd, F⟩ := c.def_ 13 (d := dg_law_mixed) rfl
  exact ⟨⟨_, fd, _, _, Ng_law_mixed, _, _, _, _, _, _, fng_law_mixed, F, sg_law_mixed, rfl, rfl, okg_law_mixed, rfl, ⟨F.bindsN fun _ _ _ _ _ _ us hl => match us, hl with | [_, _], _ => rfl, shs_by (k := []) (by rfl) (fun q hq => by cases hq)⟩, fun h => absurd h (by decide)⟩, fun h => absurd h (by decide)⟩
theorem dag_law_number [Tabs] {K : PySem.W.Frag} (c : He.SaysD faD fnD K) : DA P K par "_law_number" (He.fAd K dg_law_number.at_) := by
  obtain ⟨fd, F⟩ := c.def_ 14 (d := dg_law_number) rfl
  exact ⟨⟨_, fd, _, _, Ng_law_number, _, _, _, _, _, _, fng_law_number, F, sg_law_number, rfl, rfl, okg_law_number, rfl, ⟨F.bindsN fun _ _ _ _ _ _ us hl => match us, hl with | [_, _, _], _ => rfl, shs_by (k := []) (by rfl) (fun q hq => by cases hq)⟩, fun h => absurd h (by decide)⟩, fun h => absurd h (by decide)⟩
theorem dag_law_term [Tabs] {K : PySem.W.Frag} (c : He.SaysD faD fnD K) : DA P K par "_law_term" (He.fAd K dg_law_term.at_) := by
  obtain ⟨fd, F⟩ := c.def_ 15 (d := dg_law_term) rfl
  exact ⟨⟨_, fd, _, _, Ng_law_term, _, _, _, _, _, _, fng_law_term, F, sg_law_term, rfl, rfl, okg_law_term, rfl, ⟨F.bindsN fun _ _ _ _ _ _ us hl => match us, hl with | [_, _, _], _ => rfl, shs_by (k := []) (by rfl) (fun q hq => by cases hq)⟩, fun h => absurd h (by decide)⟩, fun h => absurd h (by decide)⟩
theorem dag_law_nothing_done [Tabs] {K : PySem.W.Frag} (c : He.SaysD faD fnD K) : DA P K par "_law_nothing_done" (He.fAd K dg_law_nothing_done.at_) := by
  obtain ⟨fd, F⟩ := c.def_ 16 (d := dg_law_nothing_done) rfl
  exact ⟨⟨_, fd, _, _, Ng_law_nothing_done, _, _, _, _, _, _, fng_law_nothing_done, F, sg_law_nothing_done, rfl, rfl, okg_law_nothing_done, rfl, ⟨F.bindsN fun _ _ _ _ _ _ us hl => match us, hl with | [_, _], _ => rfl, shs_by (k := []) (by rfl) (fun q hq => by cases hq)⟩, fun h => absurd h (by decide)⟩, fun h => absurd h (by decide)⟩
theorem dag_law_nought [Tabs] {K : PySem.W.Frag} (c : He.SaysD faD fnD K) : DA P K par "_law_nought" (He.fAd K dg_law_nought.at_) := by
  obtain ⟨fd, F⟩ := c.def_ 17 (d := dg_law_nought) rfl
  exact ⟨⟨_, fd, _, _, Ng_law_nought, _, _, _, _, _, _, fng_law_nought, F, sg_law_nought, rfl, rfl, okg_law_nought, rfl, ⟨F.bindsN fun _ _ _ _ _ _ us hl => match us, hl with | [_, _], _ => rfl, shs_by (k := []) (by rfl) (fun q hq => by cases hq)⟩, fun h => absurd h (by decide)⟩, fun h => absurd h (by decide)⟩
theorem dag_law_numbers [Tabs] {K : PySem.W.Frag} (c : He.SaysD faD fnD K) : DA P K par "_law_numbers" (He.fAd K dg_law_numbers.at_) := by
  obtain ⟨fd, F⟩ := c.def_ 18 (d := dg_law_numbers) rfl
  exact ⟨⟨_, fd, _, _, Ng_law_numbers, _, _, _, _, _, _, fng_law_numbers, F, sg_law_numbers, rfl, rfl, okg_law_numbers, rfl, ⟨F.bindsN fun _ _ _ _ _ _ us hl => match us, hl with | [_, _, _, _, _], _ => rfl, shs_by (k := []) (by rfl) (fun q hq => by cases hq)⟩, fun h => absurd h (by decide)⟩, fun h => absurd h (by decide)⟩
theorem daf_law [Tabs] {K : PySem.W.Frag} (c : He.SaysD faD fnD K) : DA P K par "law" (He.fAd K df_law.at_) := by
  obtain ⟨fd, F⟩ := c.def_ 19 (d := df_law) rfl
  exact ⟨⟨_, fd, _, _, Nf_law, _, _, _, _, _, _, fnf_law, F, sf_law, rfl, rfl, okf_law, rfl, ⟨F.bindsN fun _ _ _ _ _ _ us hl => match us, hl with | [_], _ => rfl, shs_by (k := []) (by rfl) (fun q hq => by cases hq)⟩, fun _ => F.bindsA fun _ _ _ _ _ _ us hl => match us, hl with | [_], _ => rfl⟩, fun h => absurd h (by decide)⟩
theorem dasA [Tabs] {K : PySem.W.Frag} (c : He.SaysD faD fnD K) : ∀ q ∈ atL, DA P K par q.1 (He.fAd K q.2) := by
  intro q hq
  simp only [atL, List.mem_cons, List.not_mem_nil, or_false] at hq
  rcases hq with rfl | rfl | rfl | rfl | rfl | rfl | rfl | rfl | rfl | rfl | rfl | rfl | rfl | rfl | rfl | rfl | rfl | rfl | rfl | rfl
  · exact daf_fit c
  · exact daf_reckoned c
  · exact daf_Terms_o__init c
  · exact daf_Terms_o_knot c
  · exact daf_Terms_o_number c
  · exact daf_Terms_o_unknown c
  · exact daf_Terms_o_known c
  · exact daf_Terms_o_make c
  · exact daf_Terms_o_make_one c
  · exact daf_Terms_o_make_two c
  · exact daf_Terms_o_make_sorted c
  · exact dag_law_cell_at c
  · exact dag_law_is_row c
  · exact dag_law_mixed c
  · exact dag_law_number c
  · exact dag_law_term c
  · exact dag_law_nothing_done c
  · exact dag_law_nought c
  · exact dag_law_numbers c
  · exact daf_law c
theorem hdA : clsL.all (fun r => r.2.mths.all fun q => (atL.lookup q.2).isSome) = true := by decide +kernel
theorem losD [Tabs] : ∀ (id : String) (fr : List Str) (params : Arguments) (body : Expr) (scope : Scope), par.lo id fr params body scope = true → MI.LamS P par id fr params body scope := by
  intro id fr params body scope h
  exact absurd (show false = true from h) Bool.noConfusion
theorem mods [Tabs] {w : World} {K : PySem.W.Frag} {h : Heap} {mg : Str → Option Value} (X : K.In h) (G : h.Ns mainGlobals mg) (c0 : MI.SaysY faD fnD tsD exD w K) : Mods P K w mg par := by
  have c := c0.t.d
  obtain ⟨cG, cTC⟩ := He.ba c0.more
  obtain ⟨cT, cCX⟩ := He.ba cTC
  obtain ⟨cC, cXY⟩ := He.ba cCX
  obtain ⟨cX, cY⟩ := He.ba cXY
  refine ⟨fun f hf => ?_, fun cn I e => ?_, fun b hb => ?_, fun x hx => ?_, fun x hx => ?_, fun cn l e => ?_, fun cn hc => ?_, fun f hf => ?_, rfl, losD⟩
  · have hf : f ∈ ["fit", "reckoned", "_law_cell_at", "_law_is_row", "_law_mixed", "_law_number", "_law_term", "_law_nothing_done", "_law_nought", "_law_numbers", "law"] := hf
    simp only [List.mem_cons, List.not_mem_nil, or_false] at hf
    rcases hf with rfl | rfl | rfl | rfl | rfl | rfl | rfl | rfl | rfl | rfl | rfl
    · exact ⟨_, He.glo_ok X G (c.fact 0 (f := .glo "fit") rfl), daf_fit c⟩
    · exact ⟨_, He.glo_ok X G (c.fact 1 (f := .glo "reckoned") rfl), daf_reckoned c⟩
    · exact ⟨_, He.glo_ok X G (c.fact 2 (f := .glo "_law_cell_at") rfl), dag_law_cell_at c⟩
    · exact ⟨_, He.glo_ok X G (c.fact 3 (f := .glo "_law_is_row") rfl), dag_law_is_row c⟩
    · exact ⟨_, He.glo_ok X G (c.fact 4 (f := .glo "_law_mixed") rfl), dag_law_mixed c⟩
    · exact ⟨_, He.glo_ok X G (c.fact 5 (f := .glo "_law_number") rfl), dag_law_number c⟩
    · exact ⟨_, He.glo_ok X G (c.fact 6 (f := .glo "_law_term") rfl), dag_law_term c⟩
    · exact ⟨_, He.glo_ok X G (c.fact 7 (f := .glo "_law_nothing_done") rfl), dag_law_nothing_done c⟩
    · exact ⟨_, He.glo_ok X G (c.fact 8 (f := .glo "_law_nought") rfl), dag_law_nought c⟩
    · exact ⟨_, He.glo_ok X G (c.fact 9 (f := .glo "_law_numbers") rfl), dag_law_numbers c⟩
    · exact ⟨_, He.glo_ok X G (c.fact 10 (f := .glo "law") rfl), daf_law c⟩
  · have hm := look_mem (show clsL.lookup cn = some I from e)
    refine clsB_ok X G (List.all_eq_true.mp cC (cn, I) hm) fun q hq => ?_
    have h1 := List.all_eq_true.mp (List.all_eq_true.mp hdA (cn, I) hm) q hq
    obtain ⟨v, hv⟩ := Option.isSome_iff_exists.mp h1
    have e2 : atT q.2 = v := by unfold atT; rw [hv] <;> rfl
    rw [e2]
    exact dasA c (q.2, v) (look_mem hv)
  · have hb : b ∈ ["range", "len", "set"] := hb
    simp only [List.mem_cons, List.not_mem_nil, or_false] at hb
    rcases hb with rfl | rfl | rfl
    · exact He.free_ok X G (c.fact 11 (f := .free "range") rfl)
    · exact He.free_ok X G (c.fact 12 (f := .free "len") rfl)
    · exact He.free_ok X G (c.fact 13 (f := .free "set") rfl)
  · cases hx
  · have hx : x ∈ ["COMMUTING", "MOST_KNOTS"] := hx
    simp only [List.mem_cons, List.not_mem_nil, or_false] at hx
    rcases hx with rfl | rfl
    · obtain ⟨u, v, e, r, q⟩ := gloB_ok X G (allAt cG 0 rfl)
      exact ⟨_, u, v, glo_COMMUTING, e, r, q⟩
    · obtain ⟨u, v, e, r, q⟩ := gloB_ok X G (allAt cG 1 rfl)
      exact ⟨_, u, v, glo_MOST_KNOTS, e, r, q⟩
  · have hm := look_mem (show xcL.lookup cn = some l from e)
    exact xcB_ok (p := par) X G (List.all_eq_true.mp cX (cn, l) hm)
  · exact xis_okB X G (List.all_eq_true.mp cY cn hc)
  · cases hf
end MI.Law

set_option maxHeartbeats 2000000
namespace MI.Law
open MI PySem PyProof.Rows
abbrev cc (k : Nat) : Ctx := ⟨P.cls, P.glo, call P k, arrP P, callX P k, P.xcl, callH P⟩
abbrev Ky := List (Int ⊕ PySem.Str)
/-! the table of terms, in the store -/
def snN (T : List Ky) (n : Nat) : List (Ky × D) := (T.zipIdx n).map fun q => (q.1, .int (q.2 : Nat))
/-- where a term stands in the table -/
def pl (T : List Ky) (t : Ky) : Nat := T.findIdx fun x => decide (x = t)
def tF (w : Int) (kn se : Nat) : List (String × D) := [("width", .int w), ("knots", .ref kn), ("seen", .ref se)]
@[simp] theorem lk_width {w : Int} {kn se : Nat} : List.lookup "width" (tF w kn se) = some (.int w) := rfl
@[simp] theorem lk_knots {w : Int} {kn se : Nat} : List.lookup "knots" (tF w kn se) = some (.ref kn) := rfl
@[simp] theorem lk_seen {w : Int} {kn se : Nat} : List.lookup "seen" (tF w kn se) = some (.ref se) := rfl
structure Tat (S : Sto) (w : Int) (h kn se : Nat) (T : List Ky) : Prop where
  at_ : S[h]? = some (.ins "Terms" (tF w kn se))
  ks : S[kn]? = some (.lst (T.map .key))
  sns : S[se]? = some (.dct (snN T 0))
  d : kn ≠ se
  nd : T.Nodup
  few : T.length < 400
section
variable {S : Sto} {w : Int} {h kn se k : Nat} {t : Ky}
theorem sn_any : ∀ (T : List Ky) (n : Nat), (snN T n).any (fun q => decide (q.1 = t)) = T.any fun x => decide (x = t)
  | [], n => by simp [snN]
  | x :: T, n => by
    have ih := sn_any T (n + 1)
    unfold snN at ih ⊢
    rw [List.zipIdx_cons, List.map_cons, List.any_cons, ih, List.any_cons]
theorem any_mem {T : List Ky} : (T.any fun x => decide (x = t)) = true ↔ t ∈ T := by simp
theorem sn_val : ∀ (T : List Ky) (n : Nat), t ∈ T → valK (snN T n) t = some (.int ((n + pl T t : Nat) : Int))
  | [], n, h => by cases h
  | x :: T, n, h => by
    have e0 : snN (x :: T) n = (x, .int (n : Nat)) :: snN T (n + 1) := by unfold snN; rw [List.zipIdx_cons, List.map_cons]
    rw [e0]
    by_cases e : x = t
    · have e2 : valK ((x, D.int (n : Nat)) :: snN T (n + 1)) t = some (.int (n : Nat)) := by simp [valK, List.find?_cons, e]
      rw [e2]
      have : pl (x :: T) t = 0 := by unfold pl; rw [List.findIdx_cons]; simp [e]
      rw [this] <;> rfl
    · have hm : t ∈ T := (List.mem_cons.mp h).resolve_left fun z => e z.symm
      have e2 : valK ((x, D.int (n : Nat)) :: snN T (n + 1)) t = valK (snN T (n + 1)) t := by simp [valK, List.find?_cons, e]
      rw [e2, sn_val T (n + 1) hm]
      have : pl (x :: T) t = pl T t + 1 := by unfold pl; rw [List.findIdx_cons]; simp [e]
      rw [this]
      congr 3
      omega
end
end MI.Law

namespace MI.Law
open MI PySem PyProof.Rows
section
variable {S : Sto} {w : Int} {h kn se k : Nat} {T : List Ky} {t : Ky}
/-- a term that is there -/
theorem r_knotI (A : Tat S w h kn se T) (ht : t ∈ T) : call P (k + 1) "Terms.knot" [.ref h, .key t] S = .ok (.int (pl T t)) S := by
  have a0 := A.at_
  have a1 := A.sns
  have e1 := sn_any (t := t) T 0
  rw [any_mem.mpr ht] at e1
  have e2 := sn_val T 0 ht
  rw [Nat.zero_add] at e2
  generalize snN T 0 = kvs at a1 e1 e2
  rw [call_run fnf_Terms_o_knot rfl]
  simp [f_Terms_o_knot, startE, a0, a1, e2, cls_Terms, I_Terms]
  rw [e1]
  simp [a0, a1, e2, cls_Terms, I_Terms]
theorem not_any (ht : ¬ t ∈ T) : (T.any fun x => decide (x = t)) = false := by
  cases e : T.any fun x => decide (x = t) with
  | false => rfl
  | true => exact absurd (any_mem.mp e) ht
theorem sn_snoc : snN (T ++ [t]) 0 = snN T 0 ++ [(t, .int (T.length : Nat))] := by
  unfold snN
  rw [List.zipIdx_append, List.map_append]
  simp
theorem sn_put (ht : ¬ t ∈ T) : putD' (snN T 0) t (.int (T.length : Nat)) = snN (T ++ [t]) 0 := by
  unfold putD'
  rw [sn_any, not_any ht, if_neg (by decide), sn_snoc]
theorem pl_last (ht : ¬ t ∈ T) : pl (T ++ [t]) t = T.length := by
  unfold pl
  rw [List.findIdx_append]
  have e : T.findIdx (fun x => decide (x = t)) = T.length := List.findIdx_eq_length.mpr fun x hx => decide_eq_false fun z => ht (z ▸ hx)
  rw [e]
  simp
/-- the store behind a new term -/
def newS (S : Sto) (kn se : Nat) (T : List Ky) : Sto := (S.set se (.dct (snN T 0))).set kn (.lst (T.map .key))
theorem new_tat (A : Tat S w h kn se T) (ht : ¬ t ∈ T) (hl : T.length < 399) : Tat (newS S kn se (T ++ [t])) w h kn se (T ++ [t]) := by
  have lt1 := (List.getElem?_eq_some_iff.mp A.ks).1
  have lt2 := (List.getElem?_eq_some_iff.mp A.sns).1
  have n1 : h ≠ kn := fun e => by have a := A.at_; rw [e, A.ks] at a; cases a
  have n2 : h ≠ se := fun e => by have a := A.at_; rw [e, A.sns] at a; cases a
  refine ⟨?_, ?_, ?_, A.d, ?_, by simp; omega⟩
  · unfold newS
    rw [List.getElem?_set_ne (Ne.symm n1), List.getElem?_set_ne (Ne.symm n2)]
    exact A.at_
  · unfold newS
    exact List.getElem?_set_self (by simpa using lt1)
  · unfold newS
    rw [List.getElem?_set_ne A.d]
    exact List.getElem?_set_self lt2
  · rw [List.nodup_append]
    exact ⟨A.nd, by simp, fun x hx y hy e => ht (by rw [← List.mem_singleton.mp hy, ← e]; exact hx)⟩
theorem r_knotN (A : Tat S w h kn se T) (ht : ¬ t ∈ T) (hl : T.length < 399) : call P (k + 1) "Terms.knot" [.ref h, .key t] S = .ok (.int (T.length : Nat)) (newS S kn se (T ++ [t])) := by
  have B := new_tat A ht hl
  have a0 := A.at_
  have a1 := A.sns
  have a2 := A.ks
  have n1 : h ≠ kn := fun e => by have a := A.at_; rw [e, A.ks] at a; cases a
  have n2 : h ≠ se := fun e => by have a := A.at_; rw [e, A.sns] at a; cases a
  have e1 := sn_any (t := t) T 0
  rw [not_any ht] at e1
  have ep := sn_put ht
  have ev := sn_val (t := t) (T ++ [t]) 0 (by simp)
  rw [Nat.zero_add, pl_last ht] at ev
  have hk : (snN T 0).length < 16777216 := by unfold snN; simp; omega
  have hm : (T.map D.key).length < 16777216 := by simp; omega
  have h4 : ¬ (T.length : Int) = 400 := by omega
  have h5 : T.length < 16777216 := by omega
  have g1 : ∀ o, (S.set se o)[h]? = some (.ins "Terms" (tF w kn se)) := fun o => by rw [List.getElem?_set_ne (Ne.symm n2)]; exact a0
  have g2 : ∀ o, (S.set se o)[kn]? = some (.lst (T.map .key)) := fun o => by rw [List.getElem?_set_ne (Ne.symm A.d)]; exact a2
  have hs : (T ++ [t]).map D.key = T.map .key ++ [.key t] := by simp
  have b0 := B.at_
  have b1 := B.sns
  unfold newS at b0 b1 ⊢
  rw [hs] at b0 b1 ⊢
  have lk : (T.map D.key).length = T.length := List.length_map ..
  generalize hx : snN (T ++ [t]) 0 = kvs2 at ep ev b0 b1 ⊢
  generalize snN T 0 = kvs at a1 e1 ep hk
  generalize T.map D.key = KS at a2 hm g2 b0 b1 lk ⊢
  rw [call_run fnf_Terms_o_knot rfl]
  simp [f_Terms_o_knot, startE, a0, a1, a2, cls_Terms, I_Terms, glo_MOST_KNOTS]
  rw [e1]
  simp [a0, a1, a2, cls_Terms, I_Terms, glo_MOST_KNOTS, lk, h4, h5, hk, line, ep, g1, g2, hm, b0, b1, ev]
end
end MI.Law

namespace MI.Law
open MI PySem PyProof.Rows
section
variable {S : Sto} {w p hw : Int} {h kn se k : Nat} {T : List Ky} {t : Ky}
/-- knot, told once: the place, the table behind it -/
def kP (T : List Ky) (t : Ky) : Nat := if (T.any fun x => decide (x = t)) = true then pl T t else T.length
def kT (T : List Ky) (t : Ky) : List Ky := if (T.any fun x => decide (x = t)) = true then T else T ++ [t]
theorem r_knot (A : Tat S w h kn se T) (hl : T.length < 399) : ∃ S', (∀ k, call P (k + 1) "Terms.knot" [.ref h, .key t] S = .ok (.int (kP T t : Nat)) S') ∧ Tat S' w h kn se (kT T t) := by
  unfold kP kT
  by_cases ht : t ∈ T
  · rw [if_pos (any_mem.mpr ht), if_pos (any_mem.mpr ht)]
    exact ⟨S, fun k => r_knotI A ht, A⟩
  · rw [if_neg (by rw [not_any ht]; decide), if_neg (by rw [not_any ht]; decide)]
    exact ⟨_, fun k => r_knotN A ht hl, new_tat A ht hl⟩
theorem kT_len : (kT T t).length ≤ T.length + 1 := by
  unfold kT
  split
  · omega
  · simp
theorem kT_pre : T <+: kT T t := by
  unfold kT
  split
  · exact List.prefix_refl T
  · exact List.prefix_append T [t]
theorem kT_mem : t ∈ kT T t := by
  unfold kT
  by_cases ht : t ∈ T
  · rw [if_pos (any_mem.mpr ht)]; exact ht
  · rw [if_neg (by rw [not_any ht]; decide)]; simp
theorem pl_pre {X Y : List Ky} (ht : t ∈ X) : pl (X ++ Y) t = pl X t := by
  unfold pl
  rw [List.findIdx_append]
  have e : X.findIdx (fun x => decide (x = t)) < X.length := List.findIdx_lt_length.mpr ⟨t, ht, by simp⟩
  rw [if_pos e]
theorem kP_pl : kP T t = pl (kT T t) t := by
  unfold kP kT
  by_cases ht : t ∈ T
  · rw [if_pos (any_mem.mpr ht), if_pos (any_mem.mpr ht)]
  · rw [if_neg (by rw [not_any ht]; decide), if_neg (by rw [not_any ht]; decide), pl_last ht]
/-- asked again, in a table that went on from there -/
theorem k_again {T' : List Ky} (hp : kT T t <+: T') : kP T' t = kP T t ∧ kT T' t = T' := by
  obtain ⟨Y, rfl⟩ := hp
  have hm : t ∈ kT T t ++ Y := List.mem_append.mpr (.inl kT_mem)
  have e : kT (kT T t ++ Y) t = kT T t ++ Y := by
    show (if _ then _ else _) = _
    rw [if_pos (any_mem.mpr hm)]
  refine ⟨?_, e⟩
  rw [kP_pl, e, pl_pre kT_mem, ← kP_pl]
end
end MI.Law

namespace MI.Law
open MI PySem PyProof.Rows
section
variable {S : Sto} {w p hf : Int} {h kn se k : Nat} {T : List Ky} {t : Ky} {x : Int}
theorem r_fit (W : Wd w p hf) {x : Int} : call P (k + 1) "fit" [.int w, .int x] S = .ok (.int (x % p)) S := by
  obtain ⟨g1, g2, g3, g4, g5⟩ := W.w3
  rw [call_run fnf_fit rfl]
  simp [f_fit, startE, W.hp, W.msk, g1, g2]
def nK (v : Int) : Ky := [.inr (PySem.Str.ofString "number"), .inl v]
@[simp] theorem lk_knotN {w : Int} {kn se : Nat} : List.lookup "knot" (tF w kn se) = none := rfl
@[simp] theorem lk_numberN {w : Int} {kn se : Nat} : List.lookup "number" (tF w kn se) = none := rfl
@[simp] theorem lk_knownN {w : Int} {kn se : Nat} : List.lookup "known" (tF w kn se) = none := rfl
@[simp] theorem lk_unknownN {w : Int} {kn se : Nat} : List.lookup "unknown" (tF w kn se) = none := rfl
@[simp] theorem lk_makeN {w : Int} {kn se : Nat} : List.lookup "make" (tF w kn se) = none := rfl
@[simp] theorem lk_make_oneN {w : Int} {kn se : Nat} : List.lookup "make_one" (tF w kn se) = none := rfl
@[simp] theorem lk_make_twoN {w : Int} {kn se : Nat} : List.lookup "make_two" (tF w kn se) = none := rfl
@[simp] theorem lk_make_sortedN {w : Int} {kn se : Nat} : List.lookup "make_sorted" (tF w kn se) = none := rfl
theorem mt {x : String} (e : List.lookup x I_Terms.mths = some ("Terms." ++ x)) : List.lookup x I_Terms.mths = some ("Terms." ++ x) := e
theorem mt_knot : List.lookup "knot" I_Terms.mths = some "Terms.knot" := rfl
theorem mt_number : List.lookup "number" I_Terms.mths = some "Terms.number" := rfl
theorem mt_known : List.lookup "known" I_Terms.mths = some "Terms.known" := rfl
theorem fd_Terms {x : String} (e : x ∈ ["width", "knots", "seen"]) : x ∈ I_Terms.flds := e
theorem r_number (W : Wd w p hf) (A : Tat S w h kn se T) (hl : T.length < 399) : ∃ S', (∀ k, call P (k + 2) "Terms.number" [.ref h, .int x] S = .ok (.int (kP T (nK (x % p)) : Nat)) S') ∧ Tat S' w h kn se (kT T (nK (x % p))) := by
  obtain ⟨S', e, B⟩ := r_knot (t := nK (x % p)) A hl
  refine ⟨S', fun k => ?_, B⟩
  have a0 := A.at_
  have f := r_fit (k := k) (S := S) (x := x) W
  have e := e k
  unfold nK at e
  rw [call_run fnf_Terms_o_number rfl]
  have w1 : "width" ∈ I_Terms.flds := by decide
  simp [f_Terms_o_number, startE, a0, cls_Terms, mt_knot, w1, f, line, e, nK]
end
end MI.Law

namespace MI.Law
open MI PySem PyProof.Rows
section
variable {S : Sto} {w p hf : Int} {h kn se k i : Nat} {T : List Ky} {t : Ky} {x : Int} {nm s : PySem.Str}
def uK (nm : PySem.Str) (v : Int) : Ky := [.inr (PySem.Str.ofString "unknown"), .inr nm, .inl v]
def oK (s : PySem.Str) (a : Nat) : Ky := [.inr s, .inl (a : Nat)]
def bK (s : PySem.Str) (a b : Nat) : Ky := [.inr s, .inl (a : Nat), .inl (b : Nat)]
theorem mt_unknown : List.lookup "unknown" I_Terms.mths = some "Terms.unknown" := rfl
theorem mt_make : List.lookup "make" I_Terms.mths = some "Terms.make" := rfl
theorem mt_make_one : List.lookup "make_one" I_Terms.mths = some "Terms.make_one" := rfl
theorem mt_make_two : List.lookup "make_two" I_Terms.mths = some "Terms.make_two" := rfl
theorem mt_make_sorted : List.lookup "make_sorted" I_Terms.mths = some "Terms.make_sorted" := rfl
theorem fw : "width" ∈ I_Terms.flds := by decide
theorem fk : "knots" ∈ I_Terms.flds := by decide
theorem r_unknown (A : Tat S w h kn se T) (hl : T.length < 399) : ∃ S', (∀ k, call P (k + 2) "Terms.unknown" [.ref h, .str nm, .int x] S = .ok (.int (kP T (uK nm x) : Nat)) S') ∧ Tat S' w h kn se (kT T (uK nm x)) := by
  obtain ⟨S', e, B⟩ := r_knot (t := uK nm x) A hl
  refine ⟨S', fun k => ?_, B⟩
  have a0 := A.at_
  have e := e k
  unfold uK at e
  rw [call_run fnf_Terms_o_unknown rfl]
  simp [f_Terms_o_unknown, startE, a0, cls_Terms, mt_knot, fw, line, e, uK]
theorem r_knownN (A : Tat S w h kn se T) {v : Int} (hi : T[i]? = some (nK v)) : call P (k + 1) "Terms.known" [.ref h, .int (i : Nat)] S = .ok (.int v) S := by
  have a0 := A.at_
  have a2 := A.ks
  have e : (T.map D.key)[i]? = some (.key (nK v)) := by rw [List.getElem?_map, hi]; rfl
  rw [call_run fnf_Terms_o_known rfl]
  generalize T.map D.key = KS at a2 e
  simp [f_Terms_o_known, startE, a0, a2, cls_Terms, fk, idx_ref a2, atI_nat, e, nK]
theorem r_knownO (A : Tat S w h kn se T) {r : Ky} (hi : T[i]? = some (.inr s :: r)) (hs : s ≠ PySem.Str.ofString "number") : call P (k + 1) "Terms.known" [.ref h, .int (i : Nat)] S = .ok .non S := by
  have a0 := A.at_
  have a2 := A.ks
  have e : (T.map D.key)[i]? = some (.key (.inr s :: r)) := by rw [List.getElem?_map, hi]; rfl
  rw [call_run fnf_Terms_o_known rfl]
  generalize T.map D.key = KS at a2 e
  simp [f_Terms_o_known, startE, a0, a2, cls_Terms, fk, idx_ref a2, atI_nat, e, hs]
end
end MI.Law

namespace MI.Law
open MI PySem PyProof.Rows
inductive W2 | add | sub | and | or | xor
def W2.s : W2 → String
  | .add => "add"
  | .sub => "sub"
  | .and => "and"
  | .or => "or"
  | .xor => "xor"
def W2.d (o : W2) : D := .str (PySem.Str.ofString o.s)
def aW : PySem.Str := PySem.Str.ofString "add"
/-- a call of a method of the table: what it gives, and the table behind it -/
def Ran (S : Sto) (w : Int) (h kn se : Nat) (T : List Ky) (c n : Nat) (f : String) (ds : List D) (Q : Sto → List Ky → Nat → Prop) : Prop :=
  ∃ S' T' R, (∀ k, call P (k + c) f (.ref h :: ds) S = .ok (.int (R : Nat)) S') ∧ Tat S' w h kn se T' ∧ T <+: T' ∧ T'.length ≤ T.length + n ∧ Q S' T' R
section
variable {S : Sto} {w p hf : Int} {h kn se k i a b c e n : Nat} {T : List Ky} {t : Ky} {x m : Int} {nm s : PySem.Str} {r : Ky} {Q Q' : Sto → List Ky → Nat → Prop} {f : String} {ds : List D}
def NN (T : List Ky) (i : Nat) : Prop := ∃ s r, T[i]? = some (.inr s :: r) ∧ s ≠ PySem.Str.ofString "number"
theorem Ran.mono (r : Ran S w h kn se T c n f ds Q) (hq : ∀ S' T' R, Q S' T' R → Q' S' T' R) : Ran S w h kn se T c n f ds Q' := by
  obtain ⟨S', T', R, h1, h2, h3, h4, h5⟩ := r
  exact ⟨S', T', R, h1, h2, h3, h4, hq _ _ _ h5⟩
theorem Ran.up {d : Nat} (r : Ran S w h kn se T c n f ds Q) : Ran S w h kn se T (c + d) (n + e) f ds Q := by
  obtain ⟨S', T', R, h1, h2, h3, h4, h5⟩ := r
  exact ⟨S', T', R, fun k => by rw [show k + (c + d) = k + d + c by omega]; exact h1 _, h2, h3, by omega, h5⟩
theorem kP_at : (kT T t)[kP T t]? = some t := by
  rw [kP_pl]
  have m := kT_mem (T := T) (t := t)
  generalize kT T t = X at m ⊢
  unfold pl
  have e : X.findIdx (fun x => decide (x = t)) < X.length := List.findIdx_lt_length.mpr ⟨t, m, by simp⟩
  have g := List.findIdx_getElem (w := e)
  rw [List.getElem?_eq_getElem e]
  simpa using g
theorem n_knot (A : Tat S w h kn se T) (hl : T.length < 399) : Ran S w h kn se T 1 1 "Terms.knot" [.key t] fun _ T' R => T'[R]? = some t := by
  obtain ⟨S', e, B⟩ := r_knot (t := t) A hl
  exact ⟨S', _, _, e, B, kT_pre, kT_len, kP_at⟩
theorem n_number (W : Wd w p hf) (A : Tat S w h kn se T) (hl : T.length < 399) : Ran S w h kn se T 2 1 "Terms.number" [.int x] fun _ T' R => T'[R]? = some (nK (x % p)) := by
  obtain ⟨S', e, B⟩ := r_number (x := x) W A hl
  exact ⟨S', _, _, e, B, kT_pre, kT_len, kP_at⟩
theorem n_unknown (A : Tat S w h kn se T) (hl : T.length < 399) : Ran S w h kn se T 2 1 "Terms.unknown" [.str nm, .int x] fun _ T' R => T'[R]? = some (uK nm x) := by
  obtain ⟨S', e, B⟩ := r_unknown (nm := nm) (x := x) A hl
  exact ⟨S', _, _, e, B, kT_pre, kT_len, kP_at⟩
theorem at_kn (A : Tat S w h kn se T) (hi : T[i]? = some t) (S' : Sto) (hS : S' = S) : idxD S' (.ref kn) (.int (i : Nat)) = some (.key t) := by
  subst hS
  rw [idx_ref A.ks, atI_nat, List.getElem?_map, hi]
  rfl
@[simp] theorem eq_n0 {S : Sto} : eqD S .non (.int 0) = some false := rfl
/-- one and other alike -/
theorem s_same (A : Tat S w h kn se T) (o : W2) (ho : o = .and ∨ o = .or) : Ran S w h kn se T 1 0 "Terms.make_sorted" [o.d, .int (a : Nat), .int (a : Nat)] fun S' T' R => S' = S ∧ T' = T ∧ R = a := by
  refine ⟨S, T, a, fun k => ?_, A, List.prefix_refl T, by omega, rfl, rfl, rfl⟩
  rw [call_run fnf_Terms_o_make_sorted rfl]
  rcases ho with rfl | rfl <;> simp [f_Terms_o_make_sorted, startE, W2.d, W2.s]
theorem s_zero (W : Wd w p hf) (A : Tat S w h kn se T) (hl : T.length < 399) (o : W2) (ho : o = .sub ∨ o = .xor) : Ran S w h kn se T 3 1 "Terms.make_sorted" [o.d, .int (a : Nat), .int (a : Nat)] fun _ T' R => T'[R]? = some (nK 0) := by
  obtain ⟨S', T', R, h1, h2, h3, h4, h5⟩ := n_number (x := 0) W A hl
  refine ⟨S', T', R, fun k => ?_, h2, h3, h4, by simpa using h5⟩
  have a0 := A.at_
  have e := h1 k
  rw [call_run fnf_Terms_o_make_sorted rfl]
  rcases ho with rfl | rfl <;> simp [f_Terms_o_make_sorted, startE, W2.d, W2.s, a0, cls_Terms, mt_number, line, e]
theorem s_key (A : Tat S w h kn se T) (hl : T.length < 399) (o : W2) (hab : o = .add ∨ a ≠ b) (ha : T[a]? = some t) (hb : NN T b) : Ran S w h kn se T 2 1 "Terms.make_sorted" [o.d, .int (a : Nat), .int (b : Nat)] fun _ T' R => T'[R]? = some (bK (PySem.Str.ofString o.s) a b) := by
  obtain ⟨S', T', R, h1, h2, h3, h4, h5⟩ := n_knot (t := bK (PySem.Str.ofString o.s) a b) A hl
  refine ⟨S', T', R, fun k => ?_, h2, h3, h4, h5⟩
  have a0 := A.at_
  have a2 := A.ks
  have e := h1 k
  unfold bK at e
  obtain ⟨s, r, q, qn⟩ := hb
  have f := r_knownO (k := k) A q qn
  have g : (T.map D.key)[a]? = some (.key t) := by rw [List.getElem?_map, ha]; rfl
  rw [call_run fnf_Terms_o_make_sorted rfl]
  generalize T.map D.key = KS at a2 g
  by_cases hc : a = b
  · have ho := hab.resolve_right fun z => z hc
    subst ho
    subst hc
    simp [f_Terms_o_make_sorted, startE, W2.d, W2.s, a0, a2, cls_Terms, mt_known, mt_knot, line, f, fk, g, idx_ref a2, atI_nat] at e ⊢
    simp [e]
  · have hc : ¬ ((a : Int) = (b : Int)) := by omega
    cases o <;> simp [f_Terms_o_make_sorted, startE, W2.d, W2.s, a0, a2, cls_Terms, mt_known, mt_knot, line, f, fk, g, idx_ref a2, atI_nat, hc] at e ⊢ <;> simp [e]
/-- nought behind -/
theorem s_nought (A : Tat S w h kn se T) (o : W2) (hab : a ≠ b) (hb : T[b]? = some (nK 0)) : Ran S w h kn se T 2 0 "Terms.make_sorted" [o.d, .int (a : Nat), .int (b : Nat)] fun S' T' R => S' = S ∧ T' = T ∧ R = match o with | .and => b | _ => a := by
  refine ⟨S, T, _, fun k => ?_, A, List.prefix_refl T, by omega, rfl, rfl, rfl⟩
  have a0 := A.at_
  have f := r_knownN (k := k) A hb
  have hc : ¬ ((a : Int) = (b : Int)) := by omega
  rw [call_run fnf_Terms_o_make_sorted rfl]
  cases o <;> simp [f_Terms_o_make_sorted, startE, W2.d, W2.s, a0, cls_Terms, mt_known, line, f, hc]
/-- a number behind, no sum ahead -/
theorem s_num (A : Tat S w h kn se T) (hl : T.length < 399) (o : W2) (hab : a ≠ b) (ha : T[a]? = some (.inr s :: r)) (hs : o ≠ .add ∨ s ≠ aW) (hb : T[b]? = some (nK m)) (hm : m ≠ 0) : Ran S w h kn se T 2 1 "Terms.make_sorted" [o.d, .int (a : Nat), .int (b : Nat)] fun _ T' R => T'[R]? = some (bK (PySem.Str.ofString o.s) a b) := by
  obtain ⟨S', T', R, h1, h2, h3, h4, h5⟩ := n_knot (t := bK (PySem.Str.ofString o.s) a b) A hl
  refine ⟨S', T', R, fun k => ?_, h2, h3, h4, h5⟩
  have a0 := A.at_
  have a2 := A.ks
  have e := h1 k
  unfold bK at e
  have f := r_knownN (k := k) A hb
  have g : (T.map D.key)[a]? = some (.key (.inr s :: r)) := by rw [List.getElem?_map, ha]; rfl
  rw [call_run fnf_Terms_o_make_sorted rfl]
  generalize T.map D.key = KS at a2 g
  have hc : ¬ ((a : Int) = (b : Int)) := by omega
  rcases hs with hs | hs
  · cases o <;> simp [f_Terms_o_make_sorted, startE, W2.d, W2.s, a0, a2, cls_Terms, mt_known, mt_knot, line, f, fk, g, idx_ref a2, atI_nat, hc, hm] at e hs ⊢ <;> simp [e]
  · unfold aW at hs
    cases o <;> simp [f_Terms_o_make_sorted, startE, W2.d, W2.s, a0, a2, cls_Terms, mt_known, mt_knot, line, f, fk, g, idx_ref a2, atI_nat, hc, hm, hs] at e ⊢ <;> simp [e]
/-- a number behind, a sum ahead whose second is none -/
theorem s_add (A : Tat S w h kn se T) (hl : T.length < 399) (hab : a ≠ b) (ha : T[a]? = some (bK aW c e)) (he : NN T e) (hb : T[b]? = some (nK m)) (hm : m ≠ 0) : Ran S w h kn se T 2 1 "Terms.make_sorted" [W2.add.d, .int (a : Nat), .int (b : Nat)] fun _ T' R => T'[R]? = some (bK aW a b) := by
  obtain ⟨S', T', R, h1, h2, h3, h4, h5⟩ := n_knot (t := bK aW a b) A hl
  refine ⟨S', T', R, fun k => ?_, h2, h3, h4, h5⟩
  have a0 := A.at_
  have a2 := A.ks
  have e1 := h1 k
  unfold bK aW at e1
  have f := r_knownN (k := k) A hb
  obtain ⟨s2, r2, q, qn⟩ := he
  have f2 := r_knownO (k := k) A q qn
  have g : (T.map D.key)[a]? = some (.key (bK aW c e)) := by rw [List.getElem?_map, ha]; rfl
  unfold bK aW at g
  rw [call_run fnf_Terms_o_make_sorted rfl]
  generalize T.map D.key = KS at a2 g
  have hc : ¬ ((a : Int) = (b : Int)) := by omega
  simp [f_Terms_o_make_sorted, startE, W2.d, W2.s, a0, a2, cls_Terms, mt_known, mt_knot, line, f, f2, fk, g, idx_ref a2, atI_nat, hc, hm] at e1 ⊢
  simp [e1]
/-- a number behind, a sum with a number ahead -/
theorem s_more (A : Tat S w h kn se T) {S1 S2 : Sto} {R1 R2 d : Nat} (hab : a ≠ b) (ha : T[a]? = some (bK aW c e)) (he : T[e]? = some (nK x)) (hb : T[b]? = some (nK m)) (hm : m ≠ 0)
    (h1 : ∀ k, call P (k + 2) "Terms.number" [.ref h, .int (x + m)] S = .ok (.int (R1 : Nat)) S1) (A1 : S1[h]? = some (.ins "Terms" (tF w kn se)))
    (h2 : ∀ k, call P (k + d) "Terms.make_two" [.ref h, W2.add.d, .int (c : Nat), .int (R1 : Nat)] S1 = .ok (.int (R2 : Nat)) S2) :
    call P (k + (d + 3)) "Terms.make_sorted" [.ref h, W2.add.d, .int (a : Nat), .int (b : Nat)] S = .ok (.int (R2 : Nat)) S2 := by
  have a0 := A.at_
  have a2 := A.ks
  have e1 := h1 (k + d)
  have e2 := h2 (k + 2)
  rw [show k + 2 + d = k + d + 2 by omega] at e2
  have f := r_knownN (k := k + d + 1) A hb
  have f2 := r_knownN (k := k + d + 1) A he
  have g : (T.map D.key)[a]? = some (.key (bK aW c e)) := by rw [List.getElem?_map, ha]; rfl
  unfold bK aW at g
  rw [show k + (d + 3) = k + d + 2 + 1 by omega, call_run fnf_Terms_o_make_sorted rfl]
  generalize T.map D.key = KS at a2 g
  have hc : ¬ ((a : Int) = (b : Int)) := by omega
  simp [f_Terms_o_make_sorted, startE, W2.d, W2.s, a0, a2, cls_Terms, mt_known, mt_number, mt_make_two, A1, line, f, f2, fk, g, idx_ref a2, atI_nat, hc, hm, e1] at e2 ⊢
  simp [e2]
end
end MI.Law

namespace MI.Law
open MI PySem PyProof.Rows
def W2.rk (p : Int) : W2 → Int → Int → Int
  | .add, x, y => (x + y) % p
  | .sub, x, y => (x - y) % p
  | .and, x, y => Builtin.bitAnd x y
  | .or, x, y => Builtin.bitOr x y
  | .xor, x, y => Builtin.bitXor x y
def comL : List D := [.str (PySem.Str.ofString "add"), .str (PySem.Str.ofString "and"), .str (PySem.Str.ofString "or"), .str (PySem.Str.ofString "xor")]
@[simp] theorem in_add : inL [.str (PySem.Str.ofString "add"), .str (PySem.Str.ofString "and"), .str (PySem.Str.ofString "or"), .str (PySem.Str.ofString "xor")] (.str (PySem.Str.ofString "add")) = some true := rfl
@[simp] theorem in_sub : inL [.str (PySem.Str.ofString "add"), .str (PySem.Str.ofString "and"), .str (PySem.Str.ofString "or"), .str (PySem.Str.ofString "xor")] (.str (PySem.Str.ofString "sub")) = some false := rfl
@[simp] theorem in_and : inL [.str (PySem.Str.ofString "add"), .str (PySem.Str.ofString "and"), .str (PySem.Str.ofString "or"), .str (PySem.Str.ofString "xor")] (.str (PySem.Str.ofString "and")) = some true := rfl
@[simp] theorem in_or : inL [.str (PySem.Str.ofString "add"), .str (PySem.Str.ofString "and"), .str (PySem.Str.ofString "or"), .str (PySem.Str.ofString "xor")] (.str (PySem.Str.ofString "or")) = some true := rfl
@[simp] theorem in_xor : inL [.str (PySem.Str.ofString "add"), .str (PySem.Str.ofString "and"), .str (PySem.Str.ofString "or"), .str (PySem.Str.ofString "xor")] (.str (PySem.Str.ofString "xor")) = some true := rfl
section
variable {S : Sto} {w p hf : Int} {h kn se k i a b c e n : Nat} {T : List Ky} {t : Ky} {x y m : Int} {nm s : PySem.Str} {r : Ky} {Q Q' : Sto → List Ky → Nat → Prop} {f : String} {ds : List D}
theorem r_rk (W : Wd w p hf) (o : W2) : call P (k + 2) "reckoned" [.int w, o.d, .int x, .int y] S = .ok (.int (o.rk p x y)) S := by
  have e1 := r_fit (k := k) (S := S) (x := x + y) W
  have e2 := r_fit (k := k) (S := S) (x := x - y) W
  rw [call_run fnf_reckoned rfl]
  cases o <;> simp [f_reckoned, startE, W2.d, W2.s, W2.rk, e1, e2]
theorem t_nums (W : Wd w p hf) (A : Tat S w h kn se T) (hl : T.length < 399) (o : W2) (ha : T[a]? = some (nK x)) (hb : T[b]? = some (nK y)) : Ran S w h kn se T 3 1 "Terms.make_two" [o.d, .int (a : Nat), .int (b : Nat)] fun _ T' R => T'[R]? = some (nK (o.rk p x y % p)) := by
  obtain ⟨S', T', R, h1, h2, h3, h4, h5⟩ := n_number (x := o.rk p x y) W A hl
  refine ⟨S', T', R, fun k => ?_, h2, h3, h4, h5⟩
  have a0 := A.at_
  have e := h1 k
  have f1 := r_knownN (k := k + 1) A ha
  have f2 := r_knownN (k := k + 1) A hb
  have f3 := r_rk (k := k) (S := S) (x := x) (y := y) W o
  rw [call_run fnf_Terms_o_make_two rfl]
  simp [f_Terms_o_make_two, startE, a0, cls_Terms, mt_number, mt_known, fw, line, f1, f2, f3, e]
theorem t_sub (A : Tat S w h kn se T) {S1 S2 : Sto} {R1 R2 d : Nat} (ha : NN T a) (hb : T[b]? = some (nK m))
    (h1 : ∀ k, call P (k + 2) "Terms.number" [.ref h, .int (0 - m)] S = .ok (.int (R1 : Nat)) S1) (A1 : S1[h]? = some (.ins "Terms" (tF w kn se)))
    (h2 : ∀ k, call P (k + d) "Terms.make_two" [.ref h, W2.add.d, .int (a : Nat), .int (R1 : Nat)] S1 = .ok (.int (R2 : Nat)) S2) :
    call P (k + (d + 3)) "Terms.make_two" [.ref h, W2.sub.d, .int (a : Nat), .int (b : Nat)] S = .ok (.int (R2 : Nat)) S2 := by
  have a0 := A.at_
  have e1 := h1 (k + d)
  have e2 := h2 (k + 2)
  rw [show k + 2 + d = k + d + 2 by omega] at e2
  obtain ⟨s, r, q, qn⟩ := ha
  have f := r_knownO (k := k + d + 1) A q qn
  have f2 := r_knownN (k := k + d + 1) A hb
  rw [show k + (d + 3) = k + d + 2 + 1 by omega, call_run fnf_Terms_o_make_two rfl]
  have z : (0 : Int) - m = -m := by omega
  rw [z] at e1
  simp [f_Terms_o_make_two, startE, W2.d, W2.s, a0, cls_Terms, mt_known, mt_number, mt_make_two, A1, line, f, f2, e1] at e2 ⊢
  simp [e2]
/-- which pair make_two hands on -/
theorem t_on (A : Tat S w h kn se T) (o : W2) {a' b' : Nat} (hn : NN T a ∨ NN T b) (ha : NN T a ∨ ∃ x, T[a]? = some (nK x)) (hb : NN T b ∨ ∃ x, T[b]? = some (nK x))
    (hs : o = .sub → NN T b)
    (hab : (a' = b ∧ b' = a ∧ o ≠ .sub ∧ ((∃ x, T[a]? = some (nK x)) ∨ (NN T a ∧ NN T b ∧ b < a))) ∨ (a' = a ∧ b' = b ∧ (o = .sub ∨ (NN T a ∧ ((∃ x, T[b]? = some (nK x)) ∨ ¬ b < a)))))
    (r : Ran S w h kn se T c n "Terms.make_sorted" [o.d, .int (a' : Nat), .int (b' : Nat)] Q) : Ran S w h kn se T (c + 2) n "Terms.make_two" [o.d, .int (a : Nat), .int (b : Nat)] Q := by
  obtain ⟨S', T', R, h1, h2, h3, h4, h5⟩ := r
  refine ⟨S', T', R, fun k => ?_, h2, h3, h4, h5⟩
  have a0 := A.at_
  have e := h1 (k + 1)
  rw [show k + 1 + c = k + c + 1 by omega] at e
  have ka : (∃ x, T[a]? = some (nK x) ∧ call P (k + c + 1) "Terms.known" [.ref h, .int (a : Nat)] S = .ok (.int x) S) ∨ (NN T a ∧ call P (k + c + 1) "Terms.known" [.ref h, .int (a : Nat)] S = .ok .non S) := by
    rcases ha with ha | ⟨x, ha⟩
    · obtain ⟨s, r, q, qn⟩ := ha
      exact .inr ⟨⟨s, r, q, qn⟩, r_knownO A q qn⟩
    · exact .inl ⟨x, ha, r_knownN A ha⟩
  have kb : (∃ x, T[b]? = some (nK x) ∧ call P (k + c + 1) "Terms.known" [.ref h, .int (b : Nat)] S = .ok (.int x) S) ∨ (NN T b ∧ call P (k + c + 1) "Terms.known" [.ref h, .int (b : Nat)] S = .ok .non S) := by
    rcases hb with hb | ⟨x, hb⟩
    · obtain ⟨s, r, q, qn⟩ := hb
      exact .inr ⟨⟨s, r, q, qn⟩, r_knownO A q qn⟩
    · exact .inl ⟨x, hb, r_knownN A hb⟩
  have no : ∀ {i x}, NN T i → T[i]? = some (nK x) → False := fun ⟨s, r, q, qn⟩ z => by
    rw [q] at z
    unfold nK at z
    simp at z
    exact qn z.1
  rw [show k + (c + 2) = k + c + 1 + 1 by omega, call_run fnf_Terms_o_make_two rfl]
  rcases hab with ⟨rfl, rfl, no1, hx⟩ | ⟨rfl, rfl, hx⟩
  · rcases hx with ⟨x, hx⟩ | ⟨h6, h7, h8⟩
    · have hb' : NN T a' := hn.resolve_left fun z => no z hx
      obtain ⟨x', q1, q2⟩ := ka.resolve_right fun z => no z.1 hx
      obtain ⟨q3, q4⟩ := kb.resolve_left fun ⟨y, z, _⟩ => no hb' z
      cases o <;> first | exact absurd rfl no1 | (simp [f_Terms_o_make_two, startE, W2.d, W2.s, a0, cls_Terms, mt_known, mt_make_sorted, line, q2, q4, glo_COMMUTING] at e ⊢ <;> simp [e])
    · obtain ⟨q1, q2⟩ := ka.resolve_left fun ⟨y, z, _⟩ => no h6 z
      obtain ⟨q3, q4⟩ := kb.resolve_left fun ⟨y, z, _⟩ => no h7 z
      cases o <;> first | exact absurd rfl no1 | (simp [f_Terms_o_make_two, startE, W2.d, W2.s, a0, cls_Terms, mt_known, mt_make_sorted, line, q2, q4, h8, glo_COMMUTING] at e ⊢ <;> simp [e])
  · rcases hx with rfl | ⟨h6, h7⟩
    · obtain ⟨q3, q4⟩ := kb.resolve_left fun ⟨y, z, _⟩ => no (hs rfl) z
      rcases ka with ⟨x, q1, q2⟩ | ⟨q1, q2⟩ <;> (simp [f_Terms_o_make_two, startE, W2.d, W2.s, a0, cls_Terms, mt_known, mt_make_sorted, line, q2, q4, glo_COMMUTING] at e ⊢ <;> simp [e])
    · obtain ⟨q1, q2⟩ := ka.resolve_left fun ⟨y, z, _⟩ => no h6 z
      rcases h7 with ⟨x, hx⟩ | h7
      · obtain ⟨x', q3, q4⟩ := kb.resolve_right fun z => no z.1 hx
        have os : o ≠ .sub := fun z => no (hs z) hx
        cases o <;> first | exact absurd rfl os | (simp [f_Terms_o_make_two, startE, W2.d, W2.s, a0, cls_Terms, mt_known, mt_make_sorted, line, q2, q4, glo_COMMUTING] at e ⊢ <;> simp [e])
      · rcases kb with ⟨x', q3, q4⟩ | ⟨q3, q4⟩
        · have os : o ≠ .sub := fun z => no (hs z) q3
          cases o <;> first | exact absurd rfl os | (simp [f_Terms_o_make_two, startE, W2.d, W2.s, a0, cls_Terms, mt_known, mt_make_sorted, line, q2, q4, glo_COMMUTING] at e ⊢ <;> simp [e])
        · cases o <;> (simp [f_Terms_o_make_two, startE, W2.d, W2.s, a0, cls_Terms, mt_known, mt_make_sorted, line, q2, q4, h7, glo_COMMUTING] at e ⊢ <;> simp [e])
end
end MI.Law

namespace MI.Law
open MI PySem PyProof.Rows
inductive W1 | not | left | right
def W1.s : W1 → String
  | .not => "not"
  | .left => "left"
  | .right => "right"
def W1.d (o : W1) : D := .str (PySem.Str.ofString o.s)
def W1.rk (p : Int) : W1 → Int → Int
  | .not, x => Builtin.bitNot x % p
  | .left, x => (x + x) % p
  | .right, x => x / 2
def notW : PySem.Str := PySem.Str.ofString "not"
section
variable {S : Sto} {w p hf : Int} {h kn se k i a b c e n : Nat} {T : List Ky} {t : Ky} {x y m : Int} {nm s : PySem.Str} {r : Ky} {Q Q' : Sto → List Ky → Nat → Prop} {f : String} {ds : List D}
theorem r_rk1 (W : Wd w p hf) (o : W1) : call P (k + 2) "reckoned" [.int w, o.d, .int x, .int y] S = .ok (.int (o.rk p x)) S := by
  have e1 := r_fit (k := k) (S := S) (x := x + x) W
  have e2 := r_fit (k := k) (S := S) (x := Builtin.bitNot x) W
  rw [call_run fnf_reckoned rfl]
  cases o <;> simp [f_reckoned, startE, W1.d, W1.s, W1.rk, e1, e2]
theorem o_num (W : Wd w p hf) (A : Tat S w h kn se T) (hl : T.length < 399) (o : W1) (ha : T[a]? = some (nK x)) : Ran S w h kn se T 3 1 "Terms.make_one" [o.d, .int (a : Nat)] fun _ T' R => T'[R]? = some (nK (o.rk p x % p)) := by
  obtain ⟨S', T', R, h1, h2, h3, h4, h5⟩ := n_number (x := o.rk p x) W A hl
  refine ⟨S', T', R, fun k => ?_, h2, h3, h4, h5⟩
  have a0 := A.at_
  have e := h1 k
  have f1 := r_knownN (k := k + 1) A ha
  have f3 := r_rk1 (k := k) (S := S) (x := x) (y := 0) W o
  rw [call_run fnf_Terms_o_make_one rfl]
  simp [f_Terms_o_make_one, startE, a0, cls_Terms, mt_number, mt_known, fw, line, f1, f3, e]
theorem o_back (A : Tat S w h kn se T) (ha : T[a]? = some (oK notW c)) : Ran S w h kn se T 2 0 "Terms.make_one" [W1.not.d, .int (a : Nat)] fun S' T' R => S' = S ∧ T' = T ∧ R = c := by
  refine ⟨S, T, c, fun k => ?_, A, List.prefix_refl T, by omega, rfl, rfl, rfl⟩
  have a0 := A.at_
  have a2 := A.ks
  have f1 := r_knownO (k := k) A ha (by unfold notW; decide)
  have g : (T.map D.key)[a]? = some (.key (oK notW c)) := by rw [List.getElem?_map, ha]; rfl
  unfold oK notW at g
  rw [call_run fnf_Terms_o_make_one rfl]
  generalize T.map D.key = KS at a2 g
  simp [f_Terms_o_make_one, startE, W1.d, W1.s, a0, a2, cls_Terms, mt_known, fk, idx_ref a2, atI_nat, g, line, f1]
theorem o_key (A : Tat S w h kn se T) (hl : T.length < 399) (ha : T[a]? = some (.inr s :: r)) (h1 : s ≠ PySem.Str.ofString "number") (h2 : s ≠ notW) : Ran S w h kn se T 2 1 "Terms.make_one" [W1.not.d, .int (a : Nat)] fun _ T' R => T'[R]? = some (oK notW a) := by
  obtain ⟨S', T', R, g1, g2, g3, g4, g5⟩ := n_knot (t := oK notW a) A hl
  refine ⟨S', T', R, fun k => ?_, g2, g3, g4, g5⟩
  have a0 := A.at_
  have a2 := A.ks
  have e := g1 k
  unfold oK notW at e
  unfold notW at h2
  have f1 := r_knownO (k := k) A ha h1
  have g : (T.map D.key)[a]? = some (.key (.inr s :: r)) := by rw [List.getElem?_map, ha]; rfl
  rw [call_run fnf_Terms_o_make_one rfl]
  generalize T.map D.key = KS at a2 g
  simp [f_Terms_o_make_one, startE, W1.d, W1.s, a0, a2, cls_Terms, mt_known, mt_knot, fk, idx_ref a2, atI_nat, g, line, f1, h2, e]
theorem mk_two (A : Tat S w h kn se T) {o : W2} (r : Ran S w h kn se T c n "Terms.make_two" [o.d, .int (a : Nat), .int (b : Nat)] Q) : Ran S w h kn se T (c + 1) n "Terms.make" [o.d, .int (a : Nat), .int (b : Nat)] Q := by
  obtain ⟨S', T', R, h1, h2, h3, h4, h5⟩ := r
  refine ⟨S', T', R, fun k => ?_, h2, h3, h4, h5⟩
  have a0 := A.at_
  have e := h1 k
  rw [show k + (c + 1) = k + c + 1 by omega, call_run fnf_Terms_o_make rfl]
  simp [f_Terms_o_make, startE, a0, cls_Terms, mt_make_two, line, e, W2.d] at e ⊢
theorem mk_one (A : Tat S w h kn se T) {o : W1} (r : Ran S w h kn se T c n "Terms.make_one" [o.d, .int (a : Nat)] Q) : Ran S w h kn se T (c + 1) n "Terms.make" [o.d, .int (a : Nat), .non] Q := by
  obtain ⟨S', T', R, h1, h2, h3, h4, h5⟩ := r
  refine ⟨S', T', R, fun k => ?_, h2, h3, h4, h5⟩
  have a0 := A.at_
  have e := h1 k
  rw [show k + (c + 1) = k + c + 1 by omega, call_run fnf_Terms_o_make rfl]
  simp [f_Terms_o_make, startE, a0, cls_Terms, mt_make_one, line, e, W1.d] at e ⊢
end
end MI.Law

namespace MI.Law
open MI PySem PyProof.Rows
def Bs (T : List Ky) (b : Nat) : Prop := (∃ nm i, T[b]? = some (uK nm i)) ∨ ∃ o : W2, ∃ c e, T[b]? = some (bK (PySem.Str.ofString o.s) c e) ∧ (o = .add → NN T e)
/-- a term told as a base and a number that is added -/
def Rep (T : List Ky) (b : Nat) (m : Int) (R : Nat) : Prop := (m = 0 ∧ R = b) ∨ (m ≠ 0 ∧ ∃ j, T[R]? = some (bK aW b j) ∧ T[j]? = some (nK m))
inductive Kd | num (v : Int) | non (z : Nat) (o : Int)
def KdAt (p : Int) (T : List Ky) (x : Nat) : Kd → Prop
  | .num v => T[x]? = some (nK v) ∧ 0 ≤ v ∧ v < p
  | .non z o => Bs T z ∧ 0 ≤ o ∧ o < p ∧ Rep T z o x
def C1 (p : Int) (T : List Ky) (y z : Nat) (o' : Int) (x : Nat) (m : Int) (R : Nat) : W2 → Prop
  | .add => Rep T z ((o' + m) % p) R
  | .sub => Rep T z ((o' + (0 - m) % p) % p) R
  | .and => if m = 0 then R = x else T[R]? = some (bK (PySem.Str.ofString "and") y x)
  | .or => if m = 0 then R = y else T[R]? = some (bK (PySem.Str.ofString "or") y x)
  | .xor => if m = 0 then R = y else T[R]? = some (bK (PySem.Str.ofString "xor") y x)
def C2 (T : List Ky) (a b R : Nat) : W2 → Prop
  | .add => T[R]? = some (bK aW a b)
  | .sub => if a = b then T[R]? = some (nK 0) else T[R]? = some (bK (PySem.Str.ofString "sub") a b)
  | .and => if a = b then R = a else T[R]? = some (bK (PySem.Str.ofString "and") a b)
  | .or => if a = b then R = a else T[R]? = some (bK (PySem.Str.ofString "or") a b)
  | .xor => if a = b then T[R]? = some (nK 0) else T[R]? = some (bK (PySem.Str.ofString "xor") a b)
/-- what two terms come to -/
def MR (p : Int) (T : List Ky) (o : W2) (x : Nat) (kx : Kd) (y : Nat) (ky : Kd) (R : Nat) : Prop := match kx, ky with
  | .num u, .num v => T[R]? = some (nK (o.rk p u v % p))
  | .non z o', .num m => C1 p T x z o' y m R o
  | .num m, .non z o' => match o with
    | .sub => T[R]? = some (bK (PySem.Str.ofString "sub") x y)
    | o => C1 p T y z o' x m R o
  | .non _ _, .non _ _ => match o with
    | .sub => C2 T x y R .sub
    | o => if y < x then C2 T y x R o else C2 T x y R o
section
variable {S : Sto} {w p hf : Int} {h kn se k i a b c e n x y z z' R R' j : Nat} {T T' : List Ky} {t : Ky} {u v m o' : Int} {nm s : PySem.Str} {r : Ky} {o : W2} {kx ky : Kd}
theorem pre_at (hp : T <+: T') (e : T[i]? = some t) : T'[i]? = some t := by
  obtain ⟨Y, rfl⟩ := hp
  have l := (List.getElem?_eq_some_iff.mp e).1
  rw [List.getElem?_append_left l]
  exact e
theorem NN.mono (g : NN T i) (hp : T <+: T') : NN T' i := by
  obtain ⟨s, r, q, qn⟩ := g
  exact ⟨s, r, pre_at hp q, qn⟩
theorem Bs.mono (g : Bs T b) (hp : T <+: T') : Bs T' b := by
  rcases g with ⟨nm, i, q⟩ | ⟨o, c, e, q, qn⟩
  · exact .inl ⟨nm, i, pre_at hp q⟩
  · exact .inr ⟨o, c, e, pre_at hp q, fun z => (qn z).mono hp⟩
theorem Rep.mono (g : Rep T b m R) (hp : T <+: T') : Rep T' b m R := by
  rcases g with g | ⟨g, j, q1, q2⟩
  · exact .inl g
  · exact .inr ⟨g, j, pre_at hp q1, pre_at hp q2⟩
theorem KdAt.mono (g : KdAt p T x kx) (hp : T <+: T') : KdAt p T' x kx := by
  cases kx with
  | num v => exact ⟨pre_at hp g.1, g.2⟩
  | non z o => exact ⟨g.1.mono hp, g.2.1, g.2.2.1, g.2.2.2.mono hp⟩
theorem C1.mono (p : Int) (z : Nat) (o' : Int) (g : C1 p T y z o' x m R o) (hp : T <+: T') : C1 p T' y z o' x m R o := by
  cases o
  · exact Rep.mono g hp
  · exact Rep.mono g hp
  all_goals
    simp only [C1] at g ⊢
    split
    · rename_i h; rw [if_pos h] at g; exact g
    · rename_i h; rw [if_neg h] at g; exact pre_at hp g
theorem C2.mono (g : C2 T a b R o) (hp : T <+: T') : C2 T' a b R o := by
  cases o
  · exact pre_at hp g
  all_goals
    simp only [C2] at g ⊢
    split
    · rename_i h; rw [if_pos h] at g; first | exact pre_at hp g | exact g
    · rename_i h; rw [if_neg h] at g; exact pre_at hp g
theorem MR.mono (g : MR p T o x kx y ky R) (hp : T <+: T') : MR p T' o x kx y ky R := by
  rcases kx with u | ⟨z, o'⟩ <;> rcases ky with v | ⟨z2, o2⟩
  · exact pre_at hp g
  · cases o
    · exact C1.mono (o := .add) (y := y) (x := x) p z2 o2 g hp
    · exact pre_at hp g
    · exact C1.mono (o := .and) (y := y) (x := x) p z2 o2 g hp
    · exact C1.mono (o := .or) (y := y) (x := x) p z2 o2 g hp
    · exact C1.mono (o := .xor) (y := y) (x := x) p z2 o2 g hp
  · exact C1.mono (o := o) p _ _ g hp
  · cases o
    case sub => exact C2.mono (o := .sub) g hp
    all_goals
      simp only [MR] at g ⊢
      split
      · rename_i h; rw [if_pos h] at g; exact C2.mono g hp
      · rename_i h; rw [if_neg h] at g; exact C2.mono g hp
theorem at_det (nd : T.Nodup) (e1 : T[R]? = some t) (e2 : T[R']? = some t) : R = R' := by
  have l1 := (List.getElem?_eq_some_iff.mp e1).1
  exact (List.getElem?_inj l1 nd).mp (by rw [e1, e2])
theorem Rep.det (nd : T.Nodup) (g : Rep T b m R) (g' : Rep T b m R') : R = R' := by
  rcases g with ⟨h, rfl⟩ | ⟨h, j, q1, q2⟩ <;> rcases g' with ⟨h', rfl⟩ | ⟨h', j', q1', q2'⟩
  · rfl
  · exact absurd h h'
  · exact absurd h' h
  · have := at_det nd q2 q2'
    subst this
    exact at_det nd q1 q1'
theorem C1.det (p : Int) (z : Nat) (o' : Int) (nd : T.Nodup) (g : C1 p T y z o' x m R o) (g' : C1 p T y z o' x m R' o) : R = R' := by
  cases o
  · exact Rep.det nd g g'
  · exact Rep.det nd g g'
  all_goals
    simp only [C1] at g g'
    split at g
    · rename_i h; rw [if_pos h] at g'; rw [g, g']
    · rename_i h; rw [if_neg h] at g'; exact at_det nd g g'
theorem C2.det (nd : T.Nodup) (g : C2 T a b R o) (g' : C2 T a b R' o) : R = R' := by
  cases o
  · exact at_det nd g g'
  all_goals
    simp only [C2] at g g'
    split at g
    · rename_i h; rw [if_pos h] at g'; first | exact at_det nd g g' | rw [g, g']
    · rename_i h; rw [if_neg h] at g'; exact at_det nd g g'
theorem MR.det (nd : T.Nodup) (g : MR p T o x kx y ky R) (g' : MR p T o x kx y ky R') : R = R' := by
  rcases kx with u | ⟨z, o'⟩ <;> rcases ky with v | ⟨z2, o2⟩
  · exact at_det nd g g'
  · cases o
    · exact C1.det (o := .add) (y := y) (x := x) p z2 o2 nd g g'
    · exact at_det nd g g'
    · exact C1.det (o := .and) (y := y) (x := x) p z2 o2 nd g g'
    · exact C1.det (o := .or) (y := y) (x := x) p z2 o2 nd g g'
    · exact C1.det (o := .xor) (y := y) (x := x) p z2 o2 nd g g'
  · exact C1.det (o := o) p _ _ nd g g'
  · cases o
    case sub => exact C2.det (o := .sub) nd g g'
    all_goals
      simp only [MR] at g g'
      split at g
      · rename_i h; rw [if_pos h] at g'; exact C2.det nd g g'
      · rename_i h; rw [if_neg h] at g'; exact C2.det nd g g'
theorem MR.comm (hc : ∀ u v, o.rk p u v = o.rk p v u) (ho : o ≠ .sub) (g : MR p T o x kx y ky R) : MR p T o y ky x kx R := by
  rcases kx with u | ⟨z, o'⟩ <;> rcases ky with v | ⟨z2, o2⟩
  · simp only [MR] at g ⊢
    rw [hc]
    exact g
  · cases o <;> first | exact absurd rfl ho | exact g
  · cases o <;> first | exact absurd rfl ho | exact g
  · cases o <;> first | exact absurd rfl ho | (
      simp only [MR] at g ⊢
      by_cases h : x < y
      · rw [if_pos h]
        rw [if_neg (by omega)] at g
        exact g
      · by_cases h2 : y < x
        · rw [if_neg h]
          rw [if_pos h2] at g
          exact g
        · have : x = y := by omega
          subst this
          exact g)
end
end MI.Law

namespace MI.Law
open MI PySem PyProof.Rows
section
variable {S : Sto} {w p hf : Int} {h kn se k i a b c e n x y z z' R R' j : Nat} {T T' : List Ky} {t : Ky} {u v m o' : Int} {nm s : PySem.Str} {r : Ky} {o : W2} {kx ky : Kd}
theorem mdG' (W : Wd w p hf) (x : Int) : 0 ≤ x % p ∧ x % p < p := by
  obtain ⟨g1, g2, g3, g4, g5⟩ := W.w3
  exact ⟨Int.emod_nonneg _ g5, Int.emod_lt_of_pos _ (by omega)⟩
theorem ran_at (A : Tat S w h kn se T) : S[h]? = some (.ins "Terms" (tF w kn se)) := A.at_
theorem nn_num (g : NN T i) (e : T[i]? = some (nK v)) : False := by
  obtain ⟨s, r, q, qn⟩ := g
  rw [q] at e
  unfold nK at e
  simp at e
  exact qn e.1
theorem ws_num : PySem.Str.ofString o.s ≠ PySem.Str.ofString "number" := by cases o <;> decide
theorem ws_not : PySem.Str.ofString o.s ≠ notW := by cases o <;> decide
theorem ws_add (h : o ≠ .add) : PySem.Str.ofString o.s ≠ aW := by cases o <;> first | exact absurd rfl h | decide
/-- a base's head -/
theorem Bs.hd (g : Bs T b) : ∃ s r, T[b]? = some (.inr s :: r) ∧ s ≠ PySem.Str.ofString "number" ∧ s ≠ notW := by
  rcases g with ⟨nm, i, q⟩ | ⟨o, c, e, q, qn⟩
  · exact ⟨_, _, q, by decide, by decide⟩
  · exact ⟨_, _, q, ws_num, ws_not⟩
theorem Rep.hd (g : Bs T z) (q : Rep T z o' x) : ∃ s r, T[x]? = some (.inr s :: r) ∧ s ≠ PySem.Str.ofString "number" ∧ s ≠ notW := by
  rcases q with ⟨_, rfl⟩ | ⟨_, j, q, _⟩
  · exact g.hd
  · exact ⟨_, _, q, by unfold aW; decide, by unfold aW; decide⟩
theorem Rep.nn (g : Bs T z) (q : Rep T z o' x) : NN T x := by
  obtain ⟨s, r, q1, q2, _⟩ := q.hd g
  exact ⟨s, r, q1, q2⟩
theorem Bs.nn (g : Bs T b) : NN T b := by
  obtain ⟨s, r, q1, q2, _⟩ := g.hd
  exact ⟨s, r, q1, q2⟩
theorem ne_of (g : NN T i) (e : T[j]? = some (nK v)) : i ≠ j := fun q => nn_num (q ▸ g) e
/-- a number put to a base -/
theorem so_base (A : Tat S w h kn se T) (hl : T.length < 399) (g : Bs T b) (hy : T[y]? = some (nK m)) : Ran S w h kn se T 2 1 "Terms.make_sorted" [W2.add.d, .int (b : Nat), .int (y : Nat)] fun _ T' R => Rep T' b m R := by
  have ne := ne_of g.nn hy
  by_cases hm : m = 0
  · subst hm
    exact ((s_nought A .add ne hy).up (d := 0) (e := 1)).mono fun S' T' R ⟨_, _, e⟩ => .inl ⟨rfl, e⟩
  · have key : Ran S w h kn se T 2 1 "Terms.make_sorted" [W2.add.d, .int (b : Nat), .int (y : Nat)] fun _ T' R => T'[R]? = some (bK aW b y) := by
      rcases g with ⟨nm, i, q⟩ | ⟨o, c, e, q, qn⟩
      · exact s_num A hl .add ne q (.inr (by decide)) hy hm
      · by_cases ho : o = .add
        · subst ho
          exact s_add A hl ne q (qn rfl) hy hm
        · exact s_num A hl .add ne q (.inr (ws_add ho)) hy hm
    obtain ⟨S', T', R, h1, h2, h3, h4, h5⟩ := key
    exact ⟨S', T', R, h1, h2, h3, h4, .inr ⟨hm, y, h5, pre_at h3 hy⟩⟩
theorem tw_base (A : Tat S w h kn se T) (hl : T.length < 399) (g : Bs T b) (hy : T[y]? = some (nK m)) : Ran S w h kn se T 4 1 "Terms.make_two" [W2.add.d, .int (b : Nat), .int (y : Nat)] fun _ T' R => Rep T' b m R :=
  t_on A .add (.inl g.nn) (.inl g.nn) (.inr ⟨m, hy⟩) (fun h => by cases h) (.inr ⟨rfl, rfl, .inr ⟨g.nn, .inl ⟨m, hy⟩⟩⟩) (so_base A hl g hy)
/-- a number put to a term that may be a sum with a number -/
theorem so_add (W : Wd w p hf) (A : Tat S w h kn se T) (hl : T.length < 390) (g : Bs T z) (l0 : 0 ≤ o') (l1 : o' < p) (q : Rep T z o' x) (hy : T[y]? = some (nK m)) (m0 : 0 ≤ m) (m1 : m < p) : Ran S w h kn se T 7 2 "Terms.make_sorted" [W2.add.d, .int (x : Nat), .int (y : Nat)] fun _ T' R => Rep T' z ((o' + m) % p) R := by
  have ne := ne_of (q.nn g) hy
  have q0 := q
  rcases q with ⟨rfl, rfl⟩ | ⟨hne, j, q1, q2⟩
  · refine ((so_base A (by omega) g hy).up (d := 5) (e := 1)).mono fun S' T' R e => ?_
    rw [show (0 + m) % p = m by rw [Int.zero_add]; exact Int.emod_eq_of_lt m0 m1]
    exact e
  · by_cases hm : m = 0
    · subst hm
      refine ((s_nought A .add ne hy).up (d := 5) (e := 2)).mono fun S' T' R ⟨_, e1, e2⟩ => ?_
      rw [show (o' + 0) % p = o' by rw [Int.add_zero]; exact Int.emod_eq_of_lt l0 l1]
      subst e1
      have e2 : R = x := e2
      subst e2
      exact q0
    · obtain ⟨S1, T1, R1, h1, h2, h3, h4, h5⟩ := n_number (x := o' + m) W A (by omega)
      obtain ⟨S2, T2, R2, g1, g2, g3, g4, g5⟩ := tw_base h2 (by omega) (g.mono h3) h5
      exact ⟨S2, T2, R2, fun k => s_more A ne q1 q2 hy hm h1 h2.at_ g1, g2, h3.trans g3, by omega, g5⟩
/-- a number behind another word -/
theorem so_num (A : Tat S w h kn se T) (hl : T.length < 390) (g : NN T y) (hx : T[x]? = some (nK m)) (h1 : o ≠ .add) (h2 : o ≠ .sub) : Ran S w h kn se T 2 1 "Terms.make_sorted" [o.d, .int (y : Nat), .int (x : Nat)] fun _ T' R => C1 p T' y z o' x m R o := by
  have ne := ne_of g hx
  by_cases hm : m = 0
  · subst hm
    refine ((s_nought A o ne hx).up (d := 0) (e := 1)).mono fun S' T' R ⟨_, _, e⟩ => ?_
    cases o <;> first | exact absurd rfl h1 | exact absurd rfl h2 | (simp only [C1]; rw [if_pos trivial]; exact e)
  · obtain ⟨s, r, q, qn⟩ := g
    refine (s_num A (by omega) o ne q (.inl h1) hx hm).mono fun S' T' R e => ?_
    cases o <;> first | exact absurd rfl h1 | exact absurd rfl h2 | (simp only [C1]; rw [if_neg hm]; exact e)
theorem so_non (W : Wd w p hf) (A : Tat S w h kn se T) (hl : T.length < 390) (ga : NN T a) (gb : NN T b) : Ran S w h kn se T 3 1 "Terms.make_sorted" [o.d, .int (a : Nat), .int (b : Nat)] fun _ T' R => C2 T' a b R o := by
  obtain ⟨s, r, q, qn⟩ := ga
  by_cases e : a = b
  · subst e
    cases o
    · exact ((s_key A (by omega) .add (.inl rfl) q gb).up (d := 1) (e := 0)).mono fun S' T' R e => e
    · exact ((s_zero W A (by omega) .sub (.inl rfl)).up (d := 0) (e := 0)).mono fun S' T' R e => by simp only [C2]; rw [if_pos trivial]; exact e
    · exact ((s_same A .and (.inl rfl)).up (d := 2) (e := 1)).mono fun S' T' R ⟨_, _, e⟩ => by simp only [C2]; rw [if_pos trivial]; exact e
    · exact ((s_same A .or (.inr rfl)).up (d := 2) (e := 1)).mono fun S' T' R ⟨_, _, e⟩ => by simp only [C2]; rw [if_pos trivial]; exact e
    · exact ((s_zero W A (by omega) .xor (.inr rfl)).up (d := 0) (e := 0)).mono fun S' T' R e => by simp only [C2]; rw [if_pos trivial]; exact e
  · refine ((s_key A (by omega) o (.inr e) q gb).up (d := 1) (e := 0)).mono fun S' T' R h => ?_
    cases o
    · exact h
    all_goals
      simp only [C2]
      rw [if_neg e]
      exact h
/-- make_two, told once -/
theorem n_two (W : Wd w p hf) (A : Tat S w h kn se T) (hl : T.length < 380) (hx : KdAt p T x kx) (hy : KdAt p T y ky) : Ran S w h kn se T 12 3 "Terms.make_two" [o.d, .int (x : Nat), .int (y : Nat)] fun _ T' R => MR p T' o x kx y ky R := by
  rcases kx with u | ⟨z, o1⟩ <;> rcases ky with v | ⟨z2, o2⟩
  · exact ((t_nums W A (by omega) o hx.1 hy.1).up (d := 9) (e := 2)).mono fun S' T' R e => e
  · have nx := hx.1
    have ny := hy.2.2.2.nn hy.1
    by_cases os : o = .sub
    · subst os
      have r := s_key A (by omega) .sub (.inr (Ne.symm (ne_of ny nx))) nx ny
      exact ((t_on A .sub (.inr ny) (.inr ⟨u, nx⟩) (.inl ny) (fun _ => ny) (.inr ⟨rfl, rfl, .inl rfl⟩) r).up (d := 8) (e := 2)).mono fun S' T' R e => e
    · by_cases oa : o = .add
      · subst oa
        have r := so_add W A (by omega) hy.1 hy.2.1 hy.2.2.1 hy.2.2.2 nx hx.2.1 hx.2.2
        exact ((t_on A .add (.inr ny) (.inr ⟨u, nx⟩) (.inl ny) (fun h => by cases h) (.inl ⟨rfl, rfl, os, .inl ⟨u, nx⟩⟩) r).up (d := 3) (e := 1)).mono fun S' T' R e => e
      · have r := so_num (p := p) (z := z2) (o' := o2) A (by omega) ny nx oa os
        refine ((t_on A o (.inr ny) (.inr ⟨u, nx⟩) (.inl ny) (fun h => absurd h os) (.inl ⟨rfl, rfl, os, .inl ⟨u, nx⟩⟩) r).up (d := 8) (e := 2)).mono fun S' T' R e => ?_
        cases o <;> first | exact absurd rfl oa | exact absurd rfl os | exact e
  · have nx := hx.2.2.2.nn hx.1
    have ny := hy.1
    by_cases os : o = .sub
    · subst os
      obtain ⟨S1, T1, R1, h1, h2, h3, h4, h5⟩ := n_number (x := 0 - v) W A (by omega)
      have hm := mdG' W (0 - v)
      have hx' : KdAt p T1 x (.non z o1) := hx.mono h3
      have nx' := nx.mono h3
      have r := so_add W h2 (by omega) hx'.1 hx'.2.1 hx'.2.2.1 hx'.2.2.2 h5 hm.1 hm.2
      obtain ⟨S2, T2, R2, g1, g2, g3, g4, g5⟩ := t_on h2 .add (.inl nx') (.inl nx') (.inr ⟨_, h5⟩) (fun h => by cases h) (.inr ⟨rfl, rfl, .inr ⟨nx', .inl ⟨_, h5⟩⟩⟩) r
      exact ⟨S2, T2, R2, fun k => t_sub A nx ny h1 h2.at_ g1, g2, h3.trans g3, by omega, g5⟩
    · by_cases oa : o = .add
      · subst oa
        have r := so_add W A (by omega) hx.1 hx.2.1 hx.2.2.1 hx.2.2.2 ny hy.2.1 hy.2.2
        exact ((t_on A .add (.inl nx) (.inl nx) (.inr ⟨v, ny⟩) (fun h => by cases h) (.inr ⟨rfl, rfl, .inr ⟨nx, .inl ⟨v, ny⟩⟩⟩) r).up (d := 3) (e := 1)).mono fun S' T' R e => e
      · have r := so_num (p := p) (z := z) (o' := o1) A (by omega) nx ny oa os
        exact ((t_on A o (.inl nx) (.inl nx) (.inr ⟨v, ny⟩) (fun h => absurd h os) (.inr ⟨rfl, rfl, .inr ⟨nx, .inl ⟨v, ny⟩⟩⟩) r).up (d := 8) (e := 2)).mono fun S' T' R e => e
  · have nx := hx.2.2.2.nn hx.1
    have ny := hy.2.2.2.nn hy.1
    by_cases os : o = .sub
    · subst os
      exact ((t_on A .sub (.inl nx) (.inl nx) (.inl ny) (fun _ => ny) (.inr ⟨rfl, rfl, .inl rfl⟩) (so_non W A (by omega) nx ny)).up (d := 7) (e := 2)).mono fun S' T' R e => e
    · by_cases l : y < x
      · refine ((t_on A o (.inl nx) (.inl nx) (.inl ny) (fun h => absurd h os) (.inl ⟨rfl, rfl, os, .inr ⟨nx, ny, l⟩⟩) (so_non W A (by omega) ny nx)).up (d := 7) (e := 2)).mono fun S' T' R e => ?_
        cases o <;> first | exact absurd rfl os | (simp only [MR]; rw [if_pos l]; exact e)
      · refine ((t_on A o (.inl nx) (.inl nx) (.inl ny) (fun h => absurd h os) (.inr ⟨rfl, rfl, .inr ⟨nx, .inr l⟩⟩) (so_non W A (by omega) nx ny)).up (d := 7) (e := 2)).mono fun S' T' R e => ?_
        cases o <;> first | exact absurd rfl os | (simp only [MR]; rw [if_neg l]; exact e)
end
end MI.Law

namespace MI.Law
open MI PySem PyProof.Rows
section
variable {S : Sto} {w p hf : Int} {h kn se k i a b c e n x y z z' R R' j z0 : Nat} {T T' : List Ky} {t : Ky} {u v m o' : Int} {nm s : PySem.Str} {r : Ky} {o : W2} {kx ky : Kd}
theorem rk_comm (ho : o ≠ .sub) (u v : Int) : o.rk p u v = o.rk p v u := by
  cases o
  · simp only [W2.rk]; rw [Int.add_comm]
  · exact absurd rfl ho
  · exact bitAnd_comm u v
  · exact bitOr_comm u v
  · simp only [W2.rk]
    have h1 := bitXor_and u v
    have h2 := bitXor_and v u
    rw [bitAnd_comm v u] at h2
    omega
theorem MR.comm' (ho : o ≠ .sub) (g : MR p T o x kx y ky R) : MR p T o y ky x kx R := MR.comm (rk_comm ho) ho g
theorem or_zero (h : 0 ≤ u) : Builtin.bitOr u 0 = u := by
  rw [Bits.bitOr_pp h (by decide)]
  simp
  omega
theorem or_self (h : 0 ≤ u) : Builtin.bitOr u u = u := by
  rw [Bits.bitOr_pp h h]
  simp
  omega
/-- nought behind: nothing is done -/
theorem MR.nothing (nd : T.Nodup) (ho : o ≠ .and) (hx : KdAt p T x kx) (g : MR p T o x kx z0 (.num 0) R) : R = x := by
  rcases kx with u | ⟨z, o1⟩
  · have e : o.rk p u 0 % p = u := by
      have e0 := Int.emod_eq_of_lt hx.2.1 hx.2.2
      cases o
      · simp only [W2.rk]; rw [Int.add_zero, e0, e0]
      · simp only [W2.rk]; rw [Int.sub_zero, e0, e0]
      · exact absurd rfl ho
      · simp only [W2.rk]; rw [or_zero hx.2.1, e0]
      · simp only [W2.rk]; rw [bitXor_zero, e0]
    unfold MR at g
    simp only at g
    rw [e] at g
    exact at_det nd g hx.1
  · have e0 := Int.emod_eq_of_lt hx.2.1 hx.2.2.1
    cases o
    · have g : Rep T z ((o1 + 0) % p) R := g
      rw [Int.add_zero, e0] at g
      exact g.det nd hx.2.2.2
    · have g : Rep T z ((o1 + (0 - 0) % p) % p) R := g
      rw [show (0 - 0 : Int) % p = 0 by simp, Int.add_zero, e0] at g
      exact g.det nd hx.2.2.2
    · exact absurd rfl ho
    · simp only [MR, C1] at g; rw [if_pos trivial] at g; exact g
    · simp only [MR, C1] at g; rw [if_pos trivial] at g; exact g
theorem MR.same (nd : T.Nodup) (ho : o = .and ∨ o = .or) (hx : KdAt p T x kx) (g : MR p T o x kx x kx R) : R = x := by
  rcases kx with u | ⟨z, o1⟩
  · have e : o.rk p u u % p = u := by
      have e0 := Int.emod_eq_of_lt hx.2.1 hx.2.2
      rcases ho with rfl | rfl
      · simp only [W2.rk]; rw [bitAnd_self, e0]
      · simp only [W2.rk]; rw [or_self hx.2.1, e0]
    unfold MR at g
    simp only at g
    rw [e] at g
    exact at_det nd g hx.1
  · rcases ho with rfl | rfl
    · simp only [MR, C2] at g; rw [if_neg (by omega), if_pos trivial] at g; exact g
    · simp only [MR, C2] at g; rw [if_neg (by omega), if_pos trivial] at g; exact g
theorem MR.off (ho : o = .sub ∨ o = .xor) (g : MR p T o x kx x kx R) : T[R]? = some (nK 0) := by
  rcases kx with u | ⟨z, o1⟩
  · have e : o.rk p u u % p = 0 := by
      rcases ho with rfl | rfl
      · simp only [W2.rk]; rw [Int.sub_self]; simp
      · simp only [W2.rk]; rw [bitXor_self]; simp
    unfold MR at g
    simp only at g
    rw [e] at g
    exact g
  · rcases ho with rfl | rfl
    · simp only [MR, C2] at g; rw [if_pos trivial] at g; exact g
    · simp only [MR, C2] at g; rw [if_neg (by omega), if_pos trivial] at g; exact g
theorem MR.and0 (h0 : T[z0]? = some (nK 0)) (g : MR p T .and x kx z0 (.num 0) R) : T[R]? = some (nK 0) := by
  rcases kx with u | ⟨z, o1⟩
  · have e : W2.and.rk p u 0 % p = 0 := by simp only [W2.rk]; rw [bitAnd_zero]; simp
    unfold MR at g
    simp only at g
    rw [e] at g
    exact g
  · simp only [MR, C1] at g
    rw [if_pos trivial] at g
    rw [g]
    exact h0
def addK (p m : Int) : Kd → Kd
  | .num u => .num ((u + m) % p)
  | .non z o => .non z ((o + m) % p)
/-- a number added: of which kind -/
theorem MR.added (W : Wd w p hf) (hx : KdAt p T x kx) (hp : T <+: T') (g : MR p T' .add x kx y (.num m) R) : KdAt p T' R (addK p m kx) := by
  rcases kx with u | ⟨z, o1⟩
  · have hm := mdG' W (u + m)
    have g : T'[R]? = some (nK ((u + m) % p % p)) := g
    rw [Int.emod_emod] at g
    exact ⟨g, hm.1, hm.2⟩
  · have hm := mdG' W (o1 + m)
    exact ⟨hx.1.mono hp, hm.1, hm.2, g⟩
/-- told as of one kind: the same -/
theorem Kd.det (nd : T.Nodup) (g : KdAt p T R kx) (g' : KdAt p T R' kx) : R = R' := by
  rcases kx with u | ⟨z, o1⟩
  · exact at_det nd g.1 g'.1
  · exact g.2.2.2.det nd g'.2.2.2
theorem addK_two (m n : Int) : addK p n (addK p m kx) = addK p ((m + n) % p) kx := by
  rcases kx with u | ⟨z, o1⟩
  · show Kd.num _ = Kd.num _
    congr 1
    rw [Int.add_emod_emod, Int.emod_add_emod, Int.add_assoc]
  · show Kd.non _ _ = Kd.non _ _
    congr 1
    rw [Int.add_emod_emod, Int.emod_add_emod, Int.add_assoc]
/-- a number taken away -/
theorem MR.taken (W : Wd w p hf) (hx : KdAt p T x kx) (hp : T <+: T') (g : MR p T' .sub x kx y (.num m) R) : KdAt p T' R (addK p ((0 - m) % p) kx) := by
  rcases kx with u | ⟨z, o1⟩
  · have hm := mdG' W (u - m)
    have g : T'[R]? = some (nK ((u - m) % p % p)) := g
    rw [Int.emod_emod] at g
    have e : (u + (0 - m) % p) % p = (u - m) % p := by rw [Int.add_emod_emod]; congr 1; omega
    show T'[R]? = some (nK ((u + (0 - m) % p) % p)) ∧ 0 ≤ (u + (0 - m) % p) % p ∧ (u + (0 - m) % p) % p < p
    rw [e]
    exact ⟨g, hm.1, hm.2⟩
  · have hm := mdG' W (o1 + (0 - m) % p)
    exact ⟨hx.1.mono hp, hm.1, hm.2, g⟩
theorem Kd.base (g : Bs T b) (W : Wd w p hf) : KdAt p T b (.non b 0) := by
  obtain ⟨g1, g2, g3, g4, g5⟩ := W.w3
  exact ⟨g, by omega, by omega, .inl ⟨rfl, rfl⟩⟩
theorem Kd.zero (W : Wd w p hf) (g : T[b]? = some (nK 0)) : KdAt p T b (.num 0) := by
  obtain ⟨g1, g2, g3, g4, g5⟩ := W.w3
  exact ⟨g, by omega, by omega⟩
/-- of two terms without a number: of which kind -/
theorem MR.non (W : Wd w p hf) (hx : KdAt p T x (.non z o')) (hy : KdAt p T y (.non z' m)) (hp : T <+: T') (g : MR p T' o x (.non z o') y (.non z' m) R) : ∃ k, KdAt p T' R k := by
  have nx := (hx.2.2.2.nn hx.1).mono hp
  have ny := (hy.2.2.2.nn hy.1).mono hp
  have key : ∀ {a b : Nat}, (∃ k, KdAt p T' a k) → NN T' b → C2 T' a b R o → ∃ k, KdAt p T' R k := by
    intro a b ka nb g
    have bs : ∀ o : W2, T'[R]? = some (bK (PySem.Str.ofString o.s) a b) → ∃ k, KdAt p T' R k := fun o g => ⟨_, Kd.base (.inr ⟨o, a, b, g, fun _ => nb⟩) W⟩
    cases o
    · exact bs .add g
    · simp only [C2] at g
      split at g
      · exact ⟨_, Kd.zero W g⟩
      · exact bs .sub g
    · simp only [C2] at g
      split at g
      · rw [g]; exact ka
      · exact bs .and g
    · simp only [C2] at g
      split at g
      · rw [g]; exact ka
      · exact bs .or g
    · simp only [C2] at g
      split at g
      · exact ⟨_, Kd.zero W g⟩
      · exact bs .xor g
  have kx : ∃ k, KdAt p T' x k := ⟨_, hx.mono hp⟩
  have ky : ∃ k, KdAt p T' y k := ⟨_, hy.mono hp⟩
  cases o
  case sub => exact key kx ny g
  all_goals
    simp only [MR] at g
    split at g
    · exact key ky nx g
    · exact key kx ny g
end
end MI.Law

namespace MI.Law
open MI PySem PyProof.Rows
section
variable {k : Nat} {S : Sto} {w p h : Int} {c j : Int}
theorem r_cell {ns : List Int} {j : Nat} : call P (k + 1) "_law_cell_at" [.lst (ns.map .int), .int j] S = .ok (.int (cell ns j)) S := by
  rw [call_run fng_law_cell_at rfl]
  by_cases hc : j < ns.length
  · simp [g_law_cell_at, startE, idx_cell hc, hc]
  · simp [g_law_cell_at, startE, hc, cell_out hc]
theorem r_row : call P (k + 1) "_law_is_row" [.int c] S = .ok (.bl (decide (1237940039285380274899124224 ≤ c) && decide (c % 2 = 1))) S := by
  rw [call_run fng_law_is_row rfl]
  by_cases h1 : 1237940039285380274899124224 ≤ c
  · by_cases h2 : c % 2 = 1 <;> simp [g_law_is_row, startE, fmod_pos, h1, h2]
  · simp [g_law_is_row, startE, fmod_pos, h1]
theorem mixed_2 : ∃ m, 0 ≤ m ∧ m < 2147483648 ∧ ∀ (x : Int), x = ((c + 7919 * j + 1) * 48271 % 2147483647) * (((c + 7919 * j + 1) * 48271 % 2147483647) / 1009 + 69621) % 2147483647 → m = x * (x / 2003 + 39373 + j) % 2147483629 := by
  refine ⟨_, ?_, ?_, fun x hx => by subst hx; rfl⟩ <;> omega
theorem r_mixed (h0 : 0 ≤ j) (hj : j ≤ 1000) : ∃ m, 0 ≤ m ∧ m < 2147483648 ∧ ∀ k S, call P (k + 2) "_law_mixed" [.int c, .int j] S = .ok (.int m) S := by
  have a4 : 0 ≤ 1 + 31 * j := by omega
  obtain ⟨m, hm0, hm1, hm⟩ := mixed_2 (c := c) (j := j)
  have b1 : -18446744073709551616 < (c + 7919 * j + 1) * 48271 % 2147483647 := by omega
  have b2 : (c + 7919 * j + 1) * 48271 % 2147483647 < 18446744073709551616 := by omega
  have hm := hm _ rfl
  generalize hx : ((c + 7919 * j + 1) * 48271 % 2147483647) * (((c + 7919 * j + 1) * 48271 % 2147483647) / 1009 + 69621) % 2147483647 = x at hm
  have b3 : -18446744073709551616 < x := by omega
  have b4 : x < 18446744073709551616 := by omega
  have er := fun k S => r_row (k := k) (S := S) (c := c)
  by_cases h1 : 1237940039285380274899124224 ≤ c
  · by_cases h2 : c % 2 = 1
    · by_cases h3 : 0 < c / 2 ^ (1 + 31 * j).toNat
      · refine ⟨c / 2 ^ (1 + 31 * j).toNat % 2147483648, by omega, by omega, fun k S => ?_⟩
        have er := er k S
        rw [call_run fng_law_mixed rfl]
        simp [g_law_mixed, startE, mulOk, fmod_pos, h1, h2, h3, a4] at er ⊢
        simp [er, h3, a4, fmod_pos, mulOk]
      · refine ⟨m, hm0, hm1, fun k S => ?_⟩
        have er := er k S
        rw [call_run fng_law_mixed rfl]
        simp [g_law_mixed, startE, mulOk, fmod_pos, fdiv_pos, h1, h2, h3, a4, b1, b2, b3, b4, hx, hm] at er ⊢
        simp [er, h3, a4, mulOk, fmod_pos, fdiv_pos, b1, b2, b3, b4, hx, hm]
    · refine ⟨m, hm0, hm1, fun k S => ?_⟩
      have er := er k S
      rw [call_run fng_law_mixed rfl]
      simp [g_law_mixed, startE, mulOk, fmod_pos, fdiv_pos, h1, h2, a4, b1, b2, b3, b4, hx, hm] at er ⊢
      simp [er, a4, mulOk, fmod_pos, fdiv_pos, b1, b2, b3, b4, hx, hm]
  · refine ⟨m, hm0, hm1, fun k S => ?_⟩
    have er := er k S
    rw [call_run fng_law_mixed rfl]
    simp [g_law_mixed, startE, mulOk, fmod_pos, fdiv_pos, h1, a4, b1, b2, b3, b4, hx, hm] at er ⊢
    simp [er, a4, mulOk, fmod_pos, fdiv_pos, b1, b2, b3, b4, hx, hm]
theorem pG (W : Wd w p h) : (w = 8 ∧ p = 256) ∨ (w = 16 ∧ p = 65536) ∨ (w = 32 ∧ p = 4294967296) := by
  have := W.hp
  rcases W.w8 with rfl | rfl | rfl <;> simp at this <;> omega
theorem r_num (W : Wd w p h) (h0 : 0 ≤ j) (hj : j ≤ 300) : ∃ m, 0 ≤ m ∧ m < p ∧ ∀ k S, call P (k + 3) "_law_number" [.int c, .int j, .int w] S = .ok (.int m) S := by
  obtain ⟨g1, g2, g3, g4, g5⟩ := W.w3
  obtain ⟨m1, p1, q1, e1⟩ := r_mixed (c := c) (j := j) (by omega) (by omega)
  obtain ⟨m2, p2, q2, e2⟩ := r_mixed (c := c) (j := 200 + 2 * j) (by omega) (by omega)
  obtain ⟨m3, p3, q3, e3⟩ := r_mixed (c := c) (j := 201 + 2 * j) (by omega) (by omega)
  have pp := pG W
  have p256 : 256 ≤ p := by rcases pp with ⟨_, h⟩ | ⟨_, h⟩ | ⟨_, h⟩ <;> omega
  have er := fun k S => r_row (k := k) (S := S) (c := c)
  generalize (decide (1237940039285380274899124224 ≤ c) && decide (c % 2 = 1)) = rw_ at er
  have mu1 : mulOk (m1 / 4) 48271 = true := mulOk_r (by decide)
  have mu2 : mulOk (m1 / 4 * 48271) 69621 = true := mulOk_r (by decide)
  have key : ∀ L : Int, 0 ≤ L → L < p → ∃ x, 0 ≤ x ∧ x < p ∧ L2.atI [D.int (m1 / 8 % 301 % p), .int (p - 1 - m1 / 8 % 3), .int L, .int 0] (m1 % 4) = some (.int x) := by
    intro L l0 l1
    obtain ⟨x, hx, eX⟩ := atIs (l := [m1 / 8 % 301 % p, p - 1 - m1 / 8 % 3, L, 0]) (j := m1 % 4) (by simp; omega)
    refine ⟨x, ?_⟩
    have r1 := mdG' W (m1 / 8 % 301)
    simp only [List.mem_cons, List.not_mem_nil, or_false] at hx
    refine (fun z : 0 ≤ x ∧ x < p => ⟨z.1, z.2, eX⟩) ?_
    rcases hx with rfl | rfl | rfl | rfl
    · exact r1
    · omega
    · omega
    · omega
  cases rw_ with
  | true =>
    have r2 := mdG' W (m2 + m3 * 2147483648)
    obtain ⟨x, x0, x1, eX⟩ := key _ r2.1 r2.2
    refine ⟨x, x0, x1, fun k S => ?_⟩
    have e1 := e1 k S
    have e2 := e2 k S
    have e3 := e3 k S
    have er := er (k + 1) S
    have na : m3.natAbs < 18446744073709551616 := by omega
    rw [call_run fng_law_number rfl]
    simp [g_law_number, startE, W.hp, g1, g2, g3, g5, fmod_pos, fdiv_pos, g4, e1, e2, e3, na, er, eX, mu1, mu2, mulOk_l, mulOk, line]
  | false =>
    have r2 := mdG' W (m1 / 4 * 48271 * 69621)
    obtain ⟨x, x0, x1, eX⟩ := key _ r2.1 r2.2
    refine ⟨x, x0, x1, fun k S => ?_⟩
    have e1 := e1 k S
    have er := er (k + 1) S
    rw [call_run fng_law_number rfl]
    simp [g_law_number, startE, W.hp, g1, g2, g3, g5, fmod_pos, fdiv_pos, g4, e1, er, eX, mu1, mu2, mulOk_l, mulOk, line]
end
end MI.Law

namespace MI.Law
open MI PySem PyProof.Rows
section
variable {k : Nat} {S : Sto} {w p hf : Int} {h kn se : Nat} {T : List Ky} {c j : Int}
theorem word6 {x : Int} (h0 : 0 ≤ x) (h1 : x < 6) : ∃ o : W2, L2.atI [D.str (Str.ofString "add"), .str (Str.ofString "sub"), .str (Str.ofString "and"), .str (Str.ofString "or"), .str (Str.ofString "xor"), .str (Str.ofString "sub")] x = some o.d := by
  have : x = 0 ∨ x = 1 ∨ x = 2 ∨ x = 3 ∨ x = 4 ∨ x = 5 := by omega
  rcases this with rfl | rfl | rfl | rfl | rfl | rfl
  · exact ⟨.add, rfl⟩
  · exact ⟨.sub, rfl⟩
  · exact ⟨.and, rfl⟩
  · exact ⟨.or, rfl⟩
  · exact ⟨.xor, rfl⟩
  · exact ⟨.sub, rfl⟩
theorem name3 {x : Int} (h0 : 0 ≤ x) (h1 : x < 3) : ∃ nm : Str, L2.atI [D.str (Str.ofString "box"), .str (Str.ofString "got"), .str (Str.ofString "bits")] x = some (.str nm) := by
  have : x = 0 ∨ x = 1 ∨ x = 2 := by omega
  rcases this with rfl | rfl | rfl <;> exact ⟨_, rfl⟩
def gotW : Str := Str.ofString "got"
def bitsW : Str := Str.ofString "bits"
def boxW : Str := Str.ofString "box"
/-- a drawn term: told by the cell alone -/
theorem n_term (W : Wd w p hf) (c : Int) : ∃ Q : List Ky → Nat → Prop, (∀ T T' R, T <+: T' → Q T R → Q T' R) ∧ (∀ T R R', T.Nodup → Q T R → Q T R' → R = R') ∧
    ∀ S h kn se T, Tat S w h kn se T → T.length < 370 → Ran S w h kn se T 14 5 "_law_term" [.int c, .int w] fun _ T' R => Q T' R ∧ ∃ k, KdAt p T' R k := by
  obtain ⟨m, m0, m1, em⟩ := r_mixed (c := c) (j := 1) (by omega) (by omega)
  obtain ⟨v, v0, v1, ev⟩ := r_num (c := c) (j := 2) W (by omega) (by omega)
  obtain ⟨v', v0', v1', ev'⟩ := r_num (c := c) (j := 3) W (by omega) (by omega)
  obtain ⟨nm, en⟩ := name3 (x := m / 5 % 3) (by omega) (by omega)
  obtain ⟨o, eo⟩ := word6 (x := m / 960 % 6) (by omega) (by omega)
  have hv : v % p = v := Int.emod_eq_of_lt v0 v1
  have hv' : v' % p = v' := Int.emod_eq_of_lt v0' v1'
  by_cases c0 : m % 5 = 0
  · refine ⟨fun T R => T[R]? = some (nK v), fun T T' R hp e => pre_at hp e, fun T R R' nd e e' => at_det nd e e', fun S h kn se T A hl => ?_⟩
    obtain ⟨S1, T1, R1, h1, h2, h3, h4, h5⟩ := n_number (x := v) W A (by omega)
    rw [hv] at h5
    refine ⟨S1, T1, R1, fun k => ?_, h2, h3, by omega, h5, .num v, h5, v0, v1⟩
    have em : call P (k + 13) "_law_mixed" [.int c, .int 1] S = .ok (.int m) S := em (k + 11) S
    have ev : call P (k + 13) "_law_number" [.int c, .int 2, .int w] S = .ok (.int v) S := ev (k + 10) S
    have h1 : call P (k + 13) "Terms.number" [.ref h, .int v] S = .ok (.int (R1 : Nat)) S1 := h1 (k + 11)
    have a0 := A.at_
    rw [call_run fng_law_term rfl]
    simp [g_law_term, startE, em, ev, c0, fmod_pos, fdiv_pos, a0, cls_Terms, mt_number, line, h1]
  · by_cases c2 : m % 5 = 2
    · refine ⟨fun T R => T[R]? = some (uK nm (m / 15 % 8)), fun T T' R hp e => pre_at hp e, fun T R R' nd e e' => at_det nd e e', fun S h kn se T A hl => ?_⟩
      obtain ⟨S1, T1, R1, h1, h2, h3, h4, h5⟩ := n_unknown (nm := nm) (x := m / 15 % 8) A (by omega)
      refine ⟨S1, T1, R1, fun k => ?_, h2, h3, by omega, h5, .non R1 0, Kd.base (.inl ⟨_, _, h5⟩) W⟩
      have em : call P (k + 13) "_law_mixed" [.int c, .int 1] S = .ok (.int m) S := em (k + 11) S
      have h1 : call P (k + 13) "Terms.unknown" [.ref h, .str nm, .int (m / 15 % 8)] S = .ok (.int (R1 : Nat)) S1 := h1 (k + 11)
      have a0 := A.at_
      rw [call_run fng_law_term rfl]
      simp [g_law_term, startE, em, c0, c2, fmod_pos, fdiv_pos, a0, cls_Terms, mt_unknown, en, line, h1]
    · by_cases c1 : m % 5 = 1
      · refine ⟨fun T R => ∃ u j, T[u]? = some (uK nm (m / 15 % 8)) ∧ T[j]? = some (nK v') ∧ MR p T .add u (.non u 0) j (.num v') R, ?_, ?_, fun S h kn se T A hl => ?_⟩
        · rintro T T' R hp ⟨u, j, e1, e2, e3⟩
          exact ⟨u, j, pre_at hp e1, pre_at hp e2, e3.mono hp⟩
        · rintro T R R' nd ⟨u, j, e1, e2, e3⟩ ⟨u', j', e1', e2', e3'⟩
          have := at_det nd e1 e1'
          subst this
          have := at_det nd e2 e2'
          subst this
          exact e3.det nd e3'
        · obtain ⟨S1, T1, R1, h1, h2, h3, h4, h5⟩ := n_unknown (nm := nm) (x := m / 15 % 8) A (by omega)
          obtain ⟨S2, T2, R2, g1, g2, g3, g4, g5⟩ := n_number (x := v') W h2 (by omega)
          rw [hv'] at g5
          have h5' := pre_at g3 h5
          have kx : KdAt p T2 R1 (.non R1 0) := Kd.base (.inl ⟨_, _, h5'⟩) W
          obtain ⟨S3, T3, R3, f1, f2, f3, f4, f5⟩ := mk_two g2 (n_two (o := .add) W g2 (by omega) kx (ky := .num v') ⟨g5, v0', v1'⟩)
          refine ⟨S3, T3, R3, fun k => ?_, f2, (h3.trans g3).trans f3, by omega, ⟨R1, R2, pre_at f3 h5', pre_at f3 g5, f5⟩, _, MR.added W kx f3 f5⟩
          have em : call P (k + 13) "_law_mixed" [.int c, .int 1] S = .ok (.int m) S := em (k + 11) S
          have ev : call P (k + 13) "_law_number" [.int c, .int 3, .int w] S1 = .ok (.int v') S1 := ev' (k + 10) S1
          have h1 : call P (k + 13) "Terms.unknown" [.ref h, .str nm, .int (m / 15 % 8)] S = .ok (.int (R1 : Nat)) S1 := h1 (k + 11)
          have g1 : call P (k + 13) "Terms.number" [.ref h, .int v'] S1 = .ok (.int (R2 : Nat)) S2 := g1 (k + 11)
          have f1 := f1 k
          have a0 := A.at_
          have a1 := h2.at_
          have a2 := g2.at_
          simp only [W2.d, W2.s] at f1
          rw [call_run fng_law_term rfl]
          simp [g_law_term, startE, em, ev, c0, c1, fmod_pos, fdiv_pos, a0, a1, a2, cls_Terms, mt_unknown, mt_number, mt_make, en, line, h1, g1, f1]
      · refine ⟨fun T R => ∃ u j, T[u]? = some (uK nm (m / 15 % 8)) ∧ T[j]? = some (uK boxW (m / 120 % 8)) ∧ MR p T o u (.non u 0) j (.non j 0) R, ?_, ?_, fun S h kn se T A hl => ?_⟩
        · rintro T T' R hp ⟨u, j, e1, e2, e3⟩
          exact ⟨u, j, pre_at hp e1, pre_at hp e2, e3.mono hp⟩
        · rintro T R R' nd ⟨u, j, e1, e2, e3⟩ ⟨u', j', e1', e2', e3'⟩
          have := at_det nd e1 e1'
          subst this
          have := at_det nd e2 e2'
          subst this
          exact e3.det nd e3'
        · obtain ⟨S1, T1, R1, h1, h2, h3, h4, h5⟩ := n_unknown (nm := nm) (x := m / 15 % 8) A (by omega)
          obtain ⟨S2, T2, R2, g1, g2, g3, g4, g5⟩ := n_unknown (nm := boxW) (x := m / 120 % 8) h2 (by omega)
          have h5' := pre_at g3 h5
          have kx : KdAt p T2 R1 (.non R1 0) := Kd.base (.inl ⟨_, _, h5'⟩) W
          have ky : KdAt p T2 R2 (.non R2 0) := Kd.base (.inl ⟨_, _, g5⟩) W
          obtain ⟨S3, T3, R3, f1, f2, f3, f4, f5⟩ := mk_two g2 (n_two (o := o) W g2 (by omega) kx ky)
          refine ⟨S3, T3, R3, fun k => ?_, f2, (h3.trans g3).trans f3, by omega, ⟨R1, R2, pre_at f3 h5', pre_at f3 g5, f5⟩, MR.non W kx ky f3 f5⟩
          have em : call P (k + 13) "_law_mixed" [.int c, .int 1] S = .ok (.int m) S := em (k + 11) S
          have h1 : call P (k + 13) "Terms.unknown" [.ref h, .str nm, .int (m / 15 % 8)] S = .ok (.int (R1 : Nat)) S1 := h1 (k + 11)
          have g1 : call P (k + 13) "Terms.unknown" [.ref h, .str (Str.ofString "box"), .int (m / 120 % 8)] S1 = .ok (.int (R2 : Nat)) S2 := g1 (k + 11)
          have f1 := f1 k
          have a0 := A.at_
          have a1 := h2.at_
          have a2 := g2.at_
          rw [call_run fng_law_term rfl]
          simp [g_law_term, startE, em, c0, c1, c2, fmod_pos, fdiv_pos, a0, a1, a2, cls_Terms, mt_unknown, mt_number, mt_make, en, eo, line, h1, g1, f1]
end
end MI.Law

namespace MI.Law
open MI PySem PyProof.Rows
section
variable {k : Nat} {S : Sto} {w p hf : Int} {h kn se x y z : Nat} {T : List Ky} {c j : Int} {kx ky : Kd} {o : W2}
theorem n_mk (o : W2) (W : Wd w p hf) (A : Tat S w h kn se T) (hl : T.length < 380) (hx : KdAt p T x kx) (hy : KdAt p T y ky) : Ran S w h kn se T 13 3 "Terms.make" [o.d, .int (x : Nat), .int (y : Nat)] fun _ T' R => MR p T' o x kx y ky R :=
  mk_two A (n_two W A hl hx hy)
/-- the same, where what comes of it is told -/
theorem n_is {Q : List Ky → Nat → Prop} {S' : Sto} {x' y' : D} (r : Ran S w h kn se T 13 3 "Terms.make" [o.d, x', y'] fun _ T' R => Q T' R) (hq : ∀ T' R, T <+: T' → T'.Nodup → Q T' R → R = z) :
    ∃ S' T', (∀ k, call P (k + 13) "Terms.make" [.ref h, .str (Str.ofString o.s), x', y'] S = .ok (.int (z : Nat)) S') ∧ Tat S' w h kn se T' ∧ T <+: T' ∧ T'.length ≤ T.length + 3 := by
  obtain ⟨S', T', R, h1, h2, h3, h4, h5⟩ := r
  have := hq T' R h3 h2.nd h5
  subst this
  exact ⟨S', T', h1, h2, h3, h4⟩
theorem q_nothing (o : W2) (W : Wd w p hf) (A : Tat S w h kn se T) (hl : T.length < 380) (ho : o ≠ .and) (hx : KdAt p T x kx) (hz : T[z]? = some (nK 0)) :
    ∃ S' T', (∀ k, call P (k + 13) "Terms.make" [.ref h, .str (Str.ofString o.s), .int (x : Nat), .int (z : Nat)] S = .ok (.int (x : Nat)) S') ∧ Tat S' w h kn se T' ∧ T <+: T' ∧ T'.length ≤ T.length + 3 :=
  n_is (S' := S) (n_mk o W A hl hx (Kd.zero W hz)) fun T' R hp nd g => MR.nothing nd ho (hx.mono hp) g
theorem q_nothing' (o : W2) (W : Wd w p hf) (A : Tat S w h kn se T) (hl : T.length < 380) (ho : o ≠ .and) (hs : o ≠ .sub) (hx : KdAt p T x kx) (hz : T[z]? = some (nK 0)) :
    ∃ S' T', (∀ k, call P (k + 13) "Terms.make" [.ref h, .str (Str.ofString o.s), .int (z : Nat), .int (x : Nat)] S = .ok (.int (x : Nat)) S') ∧ Tat S' w h kn se T' ∧ T <+: T' ∧ T'.length ≤ T.length + 3 :=
  n_is (S' := S) (n_mk o W A hl (Kd.zero W hz) hx) fun T' R hp nd g => MR.nothing nd ho (hx.mono hp) (MR.comm' hs g)
theorem q_same (o : W2) (W : Wd w p hf) (A : Tat S w h kn se T) (hl : T.length < 380) (ho : o = .and ∨ o = .or) (hx : KdAt p T x kx) :
    ∃ S' T', (∀ k, call P (k + 13) "Terms.make" [.ref h, .str (Str.ofString o.s), .int (x : Nat), .int (x : Nat)] S = .ok (.int (x : Nat)) S') ∧ Tat S' w h kn se T' ∧ T <+: T' ∧ T'.length ≤ T.length + 3 :=
  n_is (S' := S) (n_mk o W A hl hx hx) fun T' R hp nd g => MR.same nd ho (hx.mono hp) g
theorem q_off (o : W2) (W : Wd w p hf) (A : Tat S w h kn se T) (hl : T.length < 380) (ho : o = .sub ∨ o = .xor) (hx : KdAt p T x kx) (hz : T[z]? = some (nK 0)) :
    ∃ S' T', (∀ k, call P (k + 13) "Terms.make" [.ref h, .str (Str.ofString o.s), .int (x : Nat), .int (x : Nat)] S = .ok (.int (z : Nat)) S') ∧ Tat S' w h kn se T' ∧ T <+: T' ∧ T'.length ≤ T.length + 3 :=
  n_is (S' := S) (n_mk o W A hl hx hx) fun T' R hp nd g => at_det nd (MR.off ho g) (pre_at hp hz)
theorem q_and0 (W : Wd w p hf) (A : Tat S w h kn se T) (hl : T.length < 380) (hx : KdAt p T x kx) (hz : T[z]? = some (nK 0)) :
    ∃ S' T', (∀ k, call P (k + 13) "Terms.make" [.ref h, .str (Str.ofString W2.and.s), .int (x : Nat), .int (z : Nat)] S = .ok (.int (z : Nat)) S') ∧ Tat S' w h kn se T' ∧ T <+: T' ∧ T'.length ≤ T.length + 3 :=
  n_is (S' := S) (n_mk .and W A hl hx (Kd.zero W hz)) fun T' R hp nd g => at_det nd (MR.and0 (pre_at hp hz) g) (pre_at hp hz)
theorem q_0and (W : Wd w p hf) (A : Tat S w h kn se T) (hl : T.length < 380) (hx : KdAt p T x kx) (hz : T[z]? = some (nK 0)) :
    ∃ S' T', (∀ k, call P (k + 13) "Terms.make" [.ref h, .str (Str.ofString W2.and.s), .int (z : Nat), .int (x : Nat)] S = .ok (.int (z : Nat)) S') ∧ Tat S' w h kn se T' ∧ T <+: T' ∧ T'.length ≤ T.length + 3 :=
  n_is (S' := S) (n_mk .and W A hl (Kd.zero W hz) hx) fun T' R hp nd g => at_det nd (MR.and0 (pre_at hp hz) (MR.comm' (by simp) g)) (pre_at hp hz)
theorem not_not {u : Int} (h0 : 0 ≤ u) (h1 : u < p) : Builtin.bitNot (Builtin.bitNot u % p % p) % p % p = u := by
  have e1 : Builtin.bitNot u % p % p = p - 1 - u := by
    rw [Int.emod_emod]
    show (-u - 1) % p = p - 1 - u
    rw [← Int.add_emod_right]
    rw [show -u - 1 + p = p - 1 - u by omega]
    exact Int.emod_eq_of_lt (by omega) (by omega)
  rw [e1, Int.emod_emod]
  show (-(p - 1 - u) - 1) % p = u
  rw [← Int.add_emod_right, show -(p - 1 - u) - 1 + p = u by omega]
  exact Int.emod_eq_of_lt (by omega) (by omega)
theorem q_notnot (W : Wd w p hf) (A : Tat S w h kn se T) (hl : T.length < 380) (hx : KdAt p T x kx) :
    ∃ S1 R1 S2 T2, (∀ k, call P (k + 4) "Terms.make" [.ref h, .str (Str.ofString "not"), .int (x : Nat), .non] S = .ok (.int (R1 : Nat)) S1) ∧ S1[h]? = some (.ins "Terms" (tF w kn se)) ∧
      (∀ k, call P (k + 4) "Terms.make" [.ref h, .str (Str.ofString "not"), .int (R1 : Nat), .non] S1 = .ok (.int (x : Nat)) S2) ∧ Tat S2 w h kn se T2 ∧ T <+: T2 ∧ T2.length ≤ T.length + 2 := by
  rcases kx with u | ⟨z, o1⟩
  · obtain ⟨S1, T1, R1, h1, h2, h3, h4, h5⟩ := mk_one A (o_num W A (by omega) .not hx.1)
    obtain ⟨S2, T2, R2, g1, g2, g3, g4, g5⟩ := mk_one h2 (o_num W h2 (by omega) .not h5)
    simp only [W1.rk] at g5
    rw [not_not hx.2.1 hx.2.2] at g5
    have := at_det g2.nd g5 (pre_at (h3.trans g3) hx.1)
    subst this
    exact ⟨S1, R1, S2, T2, h1, h2.at_, g1, g2, h3.trans g3, by omega⟩
  · obtain ⟨s, r, q1, q2, q3⟩ := hx.2.2.2.hd hx.1
    obtain ⟨S1, T1, R1, h1, h2, h3, h4, h5⟩ := mk_one A (o_key A (by omega) q1 q2 q3)
    obtain ⟨S2, T2, R2, g1, g2, g3, g4, g5⟩ := mk_one h2 (o_back h2 h5)
    obtain ⟨_, _, rfl⟩ := g5
    exact ⟨S1, R1, S2, T2, fun k => h1 (k + 1), h2.at_, fun k => g1 (k + 1), g2, h3.trans g3, by omega⟩
end
end MI.Law

namespace MI.Law
open MI PySem PyProof.Rows
theorem arr_make {a b c : D} : arrP P "Terms.make" [] [a, b, c] [] = some [a, b, c, .non] := rfl
section
variable {k : Nat} {S : Sto} {w p hf : Int} {h kn se x y z : Nat} {T : List Ky} {c j : Int} {kx ky : Kd} {o : W2}
theorem r_nothing (W : Wd w p hf) (A : Tat S w h kn se T) (hl : T.length < 300) (hx : KdAt p T x kx) :
    ∃ S' T', (∀ k, call P (k + 14) "_law_nothing_done" [.ref h, .int (x : Nat)] S = .ok (.bl true) S') ∧ Tat S' w h kn se T' ∧ T <+: T' ∧ T'.length ≤ T.length + 40 := by
  obtain ⟨S0, T0, z, e0, A0, p0, l0, h0⟩ := n_number (x := 0) W A (by omega)
  have h0 : T0[z]? = some (nK 0) := by simpa using h0
  have x0 := hx.mono p0
  obtain ⟨S1, T1, e1, A1, p1, l1⟩ := q_nothing .add W A0 (by omega) (by simp) x0 h0
  have x1 := x0.mono p1
  have h1 := pre_at p1 h0
  obtain ⟨S2, T2, e2, A2, p2, l2⟩ := q_nothing .sub W A1 (by omega) (by simp) x1 h1
  have x2 := x1.mono p2
  have h2 := pre_at p2 h1
  obtain ⟨S3, T3, e3, A3, p3, l3⟩ := q_nothing .or W A2 (by omega) (by simp) x2 h2
  have x3 := x2.mono p3
  have h3 := pre_at p3 h2
  obtain ⟨S4, T4, e4, A4, p4, l4⟩ := q_nothing .xor W A3 (by omega) (by simp) x3 h3
  have x4 := x3.mono p4
  have h4 := pre_at p4 h3
  obtain ⟨S5, T5, e5, A5, p5, l5⟩ := q_nothing' .add W A4 (by omega) (by simp) (by simp) x4 h4
  have x5 := x4.mono p5
  have h5 := pre_at p5 h4
  obtain ⟨S6, T6, e6, A6, p6, l6⟩ := q_nothing' .or W A5 (by omega) (by simp) (by simp) x5 h5
  have x6 := x5.mono p6
  have h6 := pre_at p6 h5
  obtain ⟨S7, T7, e7, A7, p7, l7⟩ := q_nothing' .xor W A6 (by omega) (by simp) (by simp) x6 h6
  have x7 := x6.mono p7
  obtain ⟨S8, T8, e8, A8, p8, l8⟩ := q_same .and W A7 (by omega) (.inl rfl) x7
  have x8 := x7.mono p8
  obtain ⟨S9, T9, e9, A9, p9, l9⟩ := q_same .or W A8 (by omega) (.inr rfl) x8
  have x9 := x8.mono p9
  obtain ⟨Sa, Ra, Sb, Tb, ea, Aa, eb, Ab, pb, lb⟩ := q_notnot W A9 (by omega) x9
  refine ⟨Sb, Tb, fun k => ?_, Ab, p0.trans <| p1.trans <| p2.trans <| p3.trans <| p4.trans <| p5.trans <| p6.trans <| p7.trans <| p8.trans <| p9.trans pb, by omega⟩
  have a := A.at_
  have a0 := A0.at_
  have a1 := A1.at_
  have a2 := A2.at_
  have a3 := A3.at_
  have a4 := A4.at_
  have a5 := A5.at_
  have a6 := A6.at_
  have a7 := A7.at_
  have a8 := A8.at_
  have a9 := A9.at_
  have e0 : call P (k + 13) "Terms.number" [.ref h, .int 0] S = .ok (.int (z : Nat)) S0 := e0 (k + 11)
  have e1 := e1 k
  have e2 := e2 k
  have e3 := e3 k
  have e4 := e4 k
  have e5 := e5 k
  have e6 := e6 k
  have e7 := e7 k
  have e8 := e8 k
  have e9 := e9 k
  have ea : call P (k + 13) "Terms.make" [.ref h, .str (Str.ofString "not"), .int (x : Nat), .non] S9 = .ok (.int (Ra : Nat)) Sa := ea (k + 9)
  have eb : call P (k + 13) "Terms.make" [.ref h, .str (Str.ofString "not"), .int (Ra : Nat), .non] Sa = .ok (.int (x : Nat)) Sb := eb (k + 9)
  simp only [W2.s] at e1 e2 e3 e4 e5 e6 e7 e8 e9
  have q : ∀ S l, (l : List Int) = l → eqD S (.lst (l.map .int)) (.lst (l.map .int)) = some true := fun S l _ => is_lst.eqI is_lst
  have q := q Sb [(x : Int), x, x, x, x, x, x, x, x, x] rfl
  simp only [List.map_cons, List.map_nil] at q
  rw [call_run fng_law_nothing_done rfl]
  simp [g_law_nothing_done, startE, a, a0, a1, a2, a3, a4, a5, a6, a7, a8, a9, Aa, cls_Terms, mt_number, mt_make, line, e0, e1, e2, e3, e4, e5, e6, e7, e8, e9, ea, eb, q, cmpL, cmF_eq, wipeE, R.bind, arr_make]
theorem r_nought (W : Wd w p hf) (A : Tat S w h kn se T) (hl : T.length < 300) (hx : KdAt p T x kx) :
    ∃ S' T', (∀ k, call P (k + 14) "_law_nought" [.ref h, .int (x : Nat)] S = .ok (.bl true) S') ∧ Tat S' w h kn se T' ∧ T <+: T' ∧ T'.length ≤ T.length + 20 := by
  obtain ⟨S0, T0, z, e0, A0, p0, l0, h0⟩ := n_number (x := 0) W A (by omega)
  have h0 : T0[z]? = some (nK 0) := by simpa using h0
  have x0 := hx.mono p0
  obtain ⟨S1, T1, e1, A1, p1, l1⟩ := q_off .sub W A0 (by omega) (.inl rfl) x0 h0
  have x1 := x0.mono p1
  have h1 := pre_at p1 h0
  obtain ⟨S2, T2, e2, A2, p2, l2⟩ := q_off .xor W A1 (by omega) (.inr rfl) x1 h1
  have x2 := x1.mono p2
  have h2 := pre_at p2 h1
  obtain ⟨S3, T3, e3, A3, p3, l3⟩ := q_and0 W A2 (by omega) x2 h2
  have x3 := x2.mono p3
  have h3 := pre_at p3 h2
  obtain ⟨S4, T4, e4, A4, p4, l4⟩ := q_0and W A3 (by omega) x3 h3
  refine ⟨S4, T4, fun k => ?_, A4, p0.trans <| p1.trans <| p2.trans <| p3.trans p4, by omega⟩
  have a := A.at_
  have a0 := A0.at_
  have a1 := A1.at_
  have a2 := A2.at_
  have a3 := A3.at_
  have e0 : call P (k + 13) "Terms.number" [.ref h, .int 0] S = .ok (.int (z : Nat)) S0 := e0 (k + 11)
  have e1 := e1 k
  have e2 := e2 k
  have e3 := e3 k
  have e4 := e4 k
  simp only [W2.s] at e1 e2 e3 e4
  have q : ∀ S l, (l : List Int) = l → eqD S (.lst (l.map .int)) (.lst (l.map .int)) = some true := fun S l _ => is_lst.eqI is_lst
  have q := q S4 [(z : Int), z, z, z] rfl
  simp only [List.map_cons, List.map_nil] at q
  rw [call_run fng_law_nought rfl]
  simp [g_law_nought, startE, a, a0, a1, a2, a3, cls_Terms, mt_number, mt_make, line, e0, e1, e2, e3, e4, q]
end
end MI.Law

namespace MI.Law
open MI PySem PyProof.Rows
section
variable {k : Nat} {S : Sto} {w p hf : Int} {h kn se x y z i j a b : Nat} {T : List Ky} {f s v u : Int} {kx ky : Kd} {o : W2}
theorem n_two2 (o : W2) (W : Wd w p hf) (A : Tat S w h kn se T) (hl : T.length < 380) (ha : T[a]? = some (nK u)) (hb : T[b]? = some (nK v)) : Ran S w h kn se T 13 3 "Terms.make" [.str (Str.ofString o.s), .int (a : Nat), .int (b : Nat)] fun _ T' R => T'[R]? = some (nK (o.rk p u v % p)) :=
  mk_two A ((t_nums W A (by omega) o ha hb).up (d := 9) (e := 2))
theorem n_one1 (o : W1) (W : Wd w p hf) (A : Tat S w h kn se T) (hl : T.length < 380) (ha : T[a]? = some (nK u)) : Ran S w h kn se T 4 1 "Terms.make" [.str (Str.ofString o.s), .int (a : Nat), .non] fun _ T' R => T'[R]? = some (nK (o.rk p u % p)) :=
  mk_one A (o_num W A (by omega) o ha)
theorem not_eq (W : Wd w p hf) : Builtin.bitNot f % p % p = (p - 1 - f) % p := by
  rw [Int.emod_emod]
  show (-f - 1) % p = _
  rw [← Int.add_emod_right, show -f - 1 + p = p - 1 - f by omega]
theorem off_eq : (f - 3 * p) % p = f % p := by
  rw [Int.sub_emod, Int.mul_emod_left, Int.sub_zero, Int.emod_emod]
theorem r_numbers (W : Wd w p hf) (A : Tat S w h kn se T) (hl : T.length < 250) (hx : KdAt p T x kx) (f0 : 0 ≤ f) (f1 : f < p) (s0 : 0 ≤ s) (s1 : s < p) :
    ∃ S' T', (∀ k, call P (k + 14) "_law_numbers" [.ref h, .int (x : Nat), .int f, .int s, .int w] S = .ok (.bl true) S') ∧ Tat S' w h kn se T' ∧ T <+: T' ∧ T'.length ≤ T.length + 60 := by
  obtain ⟨g1, g2, g3, g4, g5⟩ := W.w3
  have hf_ : f % p = f := Int.emod_eq_of_lt f0 f1
  have hs_ : s % p = s := Int.emod_eq_of_lt s0 s1
  obtain ⟨S0, T0, R0, e0, A0, p0, l0, q0⟩ := n_number (x := f) W A (by omega)
  have hx_0 := hx.mono p0
  rw [hf_] at q0
  obtain ⟨S1, T1, R1, e1, A1, p1, l1, q1⟩ := n_number (x := s) W A0 (by omega)
  have hx_1 := hx_0.mono p1
  have hi_1 := pre_at p1 q0
  rw [hs_] at q1
  obtain ⟨S2, T2, R2, e2, A2, p2, l2, q2⟩ := n_number (x := f + p) W A1 (by omega)
  have hx_2 := hx_1.mono p2
  have hi_2 := pre_at p2 hi_1
  have hj_2 := pre_at p2 q1
  rw [Int.add_emod_right, hf_] at q2
  have r2 : R2 = R0 := at_det A2.nd q2 hi_2
  obtain ⟨S3, T3, R3, e3, A3, p3, l3, q3⟩ := n_number (x := f - 3 * p) W A2 (by omega)
  have hx_3 := hx_2.mono p3
  have hi_3 := pre_at p3 hi_2
  have hj_3 := pre_at p3 hj_2
  rw [off_eq, hf_] at q3
  have r3 : R3 = R0 := at_det A3.nd q3 hi_3
  obtain ⟨S4, T4, R4, e4, A4, p4, l4, q4⟩ := n_mk (kx := kx) (ky := .num f) .sub W A3 (by omega) hx_3 ⟨hi_3, f0, f1⟩
  have hx_4 := hx_3.mono p4
  have hi_4 := pre_at p4 hi_3
  have hj_4 := pre_at p4 hj_3
  have d4 := MR.taken W hx_3 p4 q4
  obtain ⟨S5, T5, R5, e5, A5, p5, l5, q5⟩ := n_number (x := 0 - f) W A4 (by omega)
  have hx_5 := hx_4.mono p5
  have hi_5 := pre_at p5 hi_4
  have hj_5 := pre_at p5 hj_4
  have hsub_5 := d4.mono p5
  have b5 := mdG' W (0 - f)
  obtain ⟨S6, T6, R6, e6, A6, p6, l6, q6⟩ := n_mk (kx := kx) (ky := .num ((0 - f) % p)) .add W A5 (by omega) hx_5 ⟨q5, b5.1, b5.2⟩
  have hx_6 := hx_5.mono p6
  have hi_6 := pre_at p6 hi_5
  have hj_6 := pre_at p6 hj_5
  have hsub_6 := hsub_5.mono p6
  have d6 := MR.added W hx_5 p6 q6
  have r6 : R4 = R6 := Kd.det A6.nd hsub_6 d6
  obtain ⟨S7, T7, R7, e7, A7, p7, l7, q7⟩ := n_number (x := f + s) W A6 (by omega)
  have hx_7 := hx_6.mono p7
  have hi_7 := pre_at p7 hi_6
  have hj_7 := pre_at p7 hj_6
  have b7 := mdG' W (f + s)
  obtain ⟨S8, T8, R8, e8, A8, p8, l8, q8⟩ := n_mk (kx := kx) (ky := .num ((f + s) % p)) .add W A7 (by omega) hx_7 ⟨q7, b7.1, b7.2⟩
  have hx_8 := hx_7.mono p8
  have hi_8 := pre_at p8 hi_7
  have hj_8 := pre_at p8 hj_7
  have d8 := MR.added W hx_7 p8 q8
  obtain ⟨S9, T9, R9, e9, A9, p9, l9, q9⟩ := n_mk (kx := kx) (ky := .num f) .add W A8 (by omega) hx_8 ⟨hi_8, f0, f1⟩
  have hx_9 := hx_8.mono p9
  have hi_9 := pre_at p9 hi_8
  have hj_9 := pre_at p9 hj_8
  have hboth_9 := d8.mono p9
  have d9 := MR.added W hx_8 p9 q9
  obtain ⟨S10, T10, R10, e10, A10, p10, l10, q10⟩ := n_mk (kx := addK p f kx) (ky := .num s) .add W A9 (by omega) d9 ⟨hj_9, s0, s1⟩
  have hx_10 := hx_9.mono p10
  have hi_10 := pre_at p10 hi_9
  have hj_10 := pre_at p10 hj_9
  have hboth_10 := hboth_9.mono p10
  have d10 := MR.added W d9 p10 q10
  rw [addK_two] at d10
  have r10 : R10 = R8 := Kd.det A10.nd d10 hboth_10
  obtain ⟨S11, T11, R11, e11, A11, p11, l11, q11⟩ := n_two2 .add W A10 (by omega) hi_10 hj_10
  have hi_11 := pre_at p11 hi_10
  have hj_11 := pre_at p11 hj_10
  obtain ⟨S12, T12, R12, e12, A12, p12, l12, q12⟩ := n_two2 .sub W A11 (by omega) hi_11 hj_11
  have hi_12 := pre_at p12 hi_11
  have hj_12 := pre_at p12 hj_11
  have f11_12 := pre_at p12 q11
  obtain ⟨S13, T13, R13, e13, A13, p13, l13, q13⟩ := n_two2 .and W A12 (by omega) hi_12 hj_12
  have hi_13 := pre_at p13 hi_12
  have hj_13 := pre_at p13 hj_12
  have f11_13 := pre_at p13 f11_12
  have f12_13 := pre_at p13 q12
  obtain ⟨S14, T14, R14, e14, A14, p14, l14, q14⟩ := n_number (x := f + s) W A13 (by omega)
  have hi_14 := pre_at p14 hi_13
  have hj_14 := pre_at p14 hj_13
  have f11_14 := pre_at p14 f11_13
  have f12_14 := pre_at p14 f12_13
  have f13_14 := pre_at p14 q13
  have r14 : R11 = R14 := by
    have g := f11_14
    simp only [W2.rk, Int.emod_emod] at g
    exact at_det A14.nd g q14
  obtain ⟨S15, T15, R15, e15, A15, p15, l15, q15⟩ := n_number (x := f - s) W A14 (by omega)
  have hi_15 := pre_at p15 hi_14
  have hj_15 := pre_at p15 hj_14
  have f12_15 := pre_at p15 f12_14
  have f13_15 := pre_at p15 f13_14
  have r15 : R12 = R15 := by
    have g := f12_15
    simp only [W2.rk, Int.emod_emod] at g
    exact at_det A15.nd g q15
  obtain ⟨S16, T16, R16, e16, A16, p16, l16, q16⟩ := n_number (x := Builtin.bitAnd f s) W A15 (by omega)
  have hi_16 := pre_at p16 hi_15
  have hj_16 := pre_at p16 hj_15
  have f13_16 := pre_at p16 f13_15
  have r16 : R13 = R16 := by
    have g := f13_16
    simp only [W2.rk] at g
    exact at_det A16.nd g q16
  obtain ⟨S17, T17, R17, e17, A17, p17, l17, q17⟩ := n_two2 .or W A16 (by omega) hi_16 hj_16
  have hi_17 := pre_at p17 hi_16
  have hj_17 := pre_at p17 hj_16
  obtain ⟨S18, T18, R18, e18, A18, p18, l18, q18⟩ := n_two2 .xor W A17 (by omega) hi_17 hj_17
  have hi_18 := pre_at p18 hi_17
  have hj_18 := pre_at p18 hj_17
  have f17_18 := pre_at p18 q17
  obtain ⟨S19, T19, R19, e19, A19, p19, l19, q19⟩ := n_one1 .not W A18 (by omega) hi_18
  have hi_19 := pre_at p19 hi_18
  have hj_19 := pre_at p19 hj_18
  have f17_19 := pre_at p19 f17_18
  have f18_19 := pre_at p19 q18
  obtain ⟨S20, T20, R20, e20, A20, p20, l20, q20⟩ := n_number (x := Builtin.bitOr f s) W A19 (by omega)
  have hi_20 := pre_at p20 hi_19
  have hj_20 := pre_at p20 hj_19
  have f17_20 := pre_at p20 f17_19
  have f18_20 := pre_at p20 f18_19
  have f19_20 := pre_at p20 q19
  have r20 : R17 = R20 := by
    have g := f17_20
    simp only [W2.rk] at g
    exact at_det A20.nd g q20
  obtain ⟨S21, T21, R21, e21, A21, p21, l21, q21⟩ := n_number (x := Builtin.bitXor f s) W A20 (by omega)
  have hi_21 := pre_at p21 hi_20
  have hj_21 := pre_at p21 hj_20
  have f18_21 := pre_at p21 f18_20
  have f19_21 := pre_at p21 f19_20
  have r21 : R18 = R21 := by
    have g := f18_21
    simp only [W2.rk] at g
    exact at_det A21.nd g q21
  obtain ⟨S22, T22, R22, e22, A22, p22, l22, q22⟩ := n_number (x := p - 1 - f) W A21 (by omega)
  have hi_22 := pre_at p22 hi_21
  have hj_22 := pre_at p22 hj_21
  have f19_22 := pre_at p22 f19_21
  have r22 : R19 = R22 := by
    have g := f19_22
    simp only [W1.rk] at g; rw [not_eq W] at g
    exact at_det A22.nd g q22
  obtain ⟨S23, T23, R23, e23, A23, p23, l23, q23⟩ := n_one1 .left W A22 (by omega) hi_22
  have hi_23 := pre_at p23 hi_22
  have hj_23 := pre_at p23 hj_22
  obtain ⟨S24, T24, R24, e24, A24, p24, l24, q24⟩ := n_one1 .right W A23 (by omega) hi_23
  have hi_24 := pre_at p24 hi_23
  have hj_24 := pre_at p24 hj_23
  have f23_24 := pre_at p24 q23
  obtain ⟨S25, T25, R25, e25, A25, p25, l25, q25⟩ := n_number (x := 2 * f) W A24 (by omega)
  have hi_25 := pre_at p25 hi_24
  have hj_25 := pre_at p25 hj_24
  have f23_25 := pre_at p25 f23_24
  have f24_25 := pre_at p25 q24
  have r25 : R23 = R25 := by
    have g := f23_25
    simp only [W1.rk, Int.emod_emod] at g; rw [show f + f = 2 * f by omega] at g
    exact at_det A25.nd g q25
  obtain ⟨S26, T26, R26, e26, A26, p26, l26, q26⟩ := n_number (x := f / 2) W A25 (by omega)
  have hi_26 := pre_at p26 hi_25
  have hj_26 := pre_at p26 hj_25
  have f24_26 := pre_at p26 f24_25
  have r26 : R24 = R26 := by
    have g := f24_26
    simp only [W1.rk] at g
    exact at_det A26.nd g q26
  refine ⟨S26, T26, fun k => ?_, A26, p0.trans (p1.trans (p2.trans (p3.trans (p4.trans (p5.trans (p6.trans (p7.trans (p8.trans (p9.trans (p10.trans (p11.trans (p12.trans (p13.trans (p14.trans (p15.trans (p16.trans (p17.trans (p18.trans (p19.trans (p20.trans (p21.trans (p22.trans (p23.trans (p24.trans (p25.trans (p26)))))))))))))))))))))))))), by omega⟩
  have a := A.at_
  have a0 := A0.at_
  have a1 := A1.at_
  have a2 := A2.at_
  have a3 := A3.at_
  have a4 := A4.at_
  have a5 := A5.at_
  have a6 := A6.at_
  have a7 := A7.at_
  have a8 := A8.at_
  have a9 := A9.at_
  have a10 := A10.at_
  have a11 := A11.at_
  have a12 := A12.at_
  have a13 := A13.at_
  have a14 := A14.at_
  have a15 := A15.at_
  have a16 := A16.at_
  have a17 := A17.at_
  have a18 := A18.at_
  have a19 := A19.at_
  have a20 := A20.at_
  have a21 := A21.at_
  have a22 := A22.at_
  have a23 := A23.at_
  have a24 := A24.at_
  have a25 := A25.at_
  have a26 := A26.at_
  have m2 : mulOk 2 f = true := mulOk_l (by decide)
  have m3 : mulOk 3 p = true := mulOk_l (by decide)
  have e0 := e0 (k + 11)
  have e1 := e1 (k + 11)
  have e2 := e2 (k + 11)
  have e3 := e3 (k + 11)
  have e4 := e4 k
  have e5 := e5 (k + 11)
  have e6 := e6 k
  have e7 := e7 (k + 11)
  have e8 := e8 k
  have e9 := e9 k
  have e10 := e10 k
  have e11 := e11 k
  have e12 := e12 k
  have e13 := e13 k
  have e14 := e14 (k + 11)
  have e15 := e15 (k + 11)
  have e16 := e16 (k + 11)
  have e17 := e17 k
  have e18 := e18 k
  have e19 := e19 (k + 9)
  have e20 := e20 (k + 11)
  have e21 := e21 (k + 11)
  have e22 := e22 (k + 11)
  have e23 := e23 (k + 9)
  have e24 := e24 (k + 9)
  have e25 := e25 (k + 11)
  have e26 := e26 (k + 11)
  simp only [W2.s, W2.d, W1.s, Int.zero_sub, Nat.add_assoc, Nat.reduceAdd] at e0 e1 e2 e3 e4 e5 e6 e7 e8 e9 e10 e11 e12 e13 e14 e15 e16 e17 e18 e19 e20 e21 e22 e23 e24 e25 e26
  have q : ∀ S l, (l : List Int) = l → eqD S (.lst (l.map .int)) (.lst (l.map .int)) = some true := fun S l _ => is_lst.eqI is_lst
  have q := q S26 [(R14 : Int), R15, R16, R20, R21, R22, R25, R26] rfl
  simp only [List.map_cons, List.map_nil] at q
  have ij : (R0 = R1) ↔ (f = s) := by
    constructor
    · intro e
      rw [e] at hi_1
      rw [q1] at hi_1
      have := Option.some.inj hi_1
      unfold nK at this
      simp at this
      exact this.symm
    · intro e
      subst e
      exact at_det A1.nd hi_1 q1
  rw [call_run fng_law_numbers rfl]
  rw [r2] at e2
  rw [r3] at e3
  rw [r6] at e4
  rw [r10] at e10
  rw [r14] at e11
  rw [r15] at e12
  rw [r16] at e13
  rw [r20] at e17
  rw [r21] at e18
  rw [r22] at e19
  rw [r25] at e23
  rw [r26] at e24
  by_cases fs : f = s
  · have ij2 := ij.mpr fs
    have fs2 : (f = s) = True := eq_true fs
    simp only [ij2] at e0 e1 e2 e3 e4 e5 e6 e7 e8 e9 e10 e11 e12 e13 e14 e15 e16 e17 e18 e19 e20 e21 e22 e23 e24 e25 e26
    simp [g_law_numbers, startE, W.hp, g1, g2, g3, g4, a, a0, a1, a2, a3, a4, a5, a6, a7, a8, a9, a10, a11, a12, a13, a14, a15, a16, a17, a18, a19, a20, a21, a22, a23, a24, a25, a26, cls_Terms, mt_number, mt_make, line, arr_make, e0, e1, e2, e3, e4, e5, e6, e7, e8, e9, e10, e11, e12, e13, e14, e15, e16, e17, e18, e19, e20, e21, e22, e23, e24, e25, e26, q, m2, m3, fdiv_pos, fs2]
  · have ij : ¬ ((R0 : Int) = (R1 : Int)) := fun e => fs (ij.mp (by omega))
    simp [g_law_numbers, startE, W.hp, g1, g2, g3, g4, a, a0, a1, a2, a3, a4, a5, a6, a7, a8, a9, a10, a11, a12, a13, a14, a15, a16, a17, a18, a19, a20, a21, a22, a23, a24, a25, a26, cls_Terms, mt_number, mt_make, line, arr_make, e0, e1, e2, e3, e4, e5, e6, e7, e8, e9, e10, e11, e12, e13, e14, e15, e16, e17, e18, e19, e20, e21, e22, e23, e24, e25, e26, fs, ij, q, m2, m3, fdiv_pos]
end
end MI.Law

namespace MI.Law
open MI PySem PyProof.Rows
section
variable {k : Nat} {S : Sto} {w p hf : Int} {h kn se x y z i j a b : Nat} {T : List Ky} {f s v u : Int} {kx ky : Kd} {o : W2} {nm nm' : Str}
theorem r_new : call P (k + 1) "Terms.__init__" [.ref 0, .int w] [.ins "Terms" []] = .ok .non [.ins "Terms" (tF w 1 2), .lst [], .dct []] := by
  rw [call_run fnf_Terms_o__init rfl]
  have w1 : "width" ∈ I_Terms.flds := by decide
  have w2 : "knots" ∈ I_Terms.flds := by decide
  have w3 : "seen" ∈ I_Terms.flds := by decide
  simp [f_Terms_o__init, startE, cls_Terms, w1, w2, w3, tF]
theorem new_at : Tat [.ins "Terms" (tF w 1 2), .lst [], .dct []] w 0 1 2 [] := ⟨rfl, rfl, rfl, by decide, List.nodup_nil, by decide⟩
theorem q_comm (o : W2) (W : Wd w p hf) (A : Tat S w h kn se T) (hl : T.length < 370) (ho : o ≠ .sub) (hx : KdAt p T x kx) (hy : KdAt p T y ky) :
    ∃ S1 R S2 T2, (∀ k, call P (k + 13) "Terms.make" [.ref h, .str (Str.ofString o.s), .int (x : Nat), .int (y : Nat)] S = .ok (.int (R : Nat)) S1) ∧ S1[h]? = some (.ins "Terms" (tF w kn se)) ∧
      (∀ k, call P (k + 13) "Terms.make" [.ref h, .str (Str.ofString o.s), .int (y : Nat), .int (x : Nat)] S1 = .ok (.int (R : Nat)) S2) ∧ Tat S2 w h kn se T2 ∧ T <+: T2 ∧ T2.length ≤ T.length + 6 := by
  obtain ⟨S1, T1, R1, h1, h2, h3, h4, h5⟩ := n_mk o W A (by omega) hx hy
  obtain ⟨S2, T2, R2, g1, g2, g3, g4, g5⟩ := n_mk o W h2 (by omega) (hy.mono h3) (hx.mono h3)
  have : R2 = R1 := MR.det g2.nd (MR.comm' ho g5) (h5.mono g3)
  subst this
  exact ⟨S1, R2, S2, T2, h1, h2.at_, g1, g2, h3.trans g3, by omega⟩
theorem un_ne (ha : T[a]? = some (uK nm u)) (hb : T[b]? = some (uK nm' v)) (h : nm ≠ nm' ∨ u ≠ v) : ¬ ((a : Int) = (b : Int)) := by
  intro e
  have e : a = b := by omega
  subst e
  rw [ha] at hb
  have := Option.some.inj hb
  unfold uK at this
  simp at this
  rcases h with h | h
  · exact h this.1
  · exact h this.2
end
end MI.Law

namespace MI.Law
open MI PySem PyProof.Rows
section
variable {k : Nat} {S : Sto} {w p hf : Int} {h kn se x y z i j a b : Nat} {T : List Ky} {f s v u : Int} {kx ky : Kd} {o : W2} {nm nm' : Str}
theorem lst_unlike {l : List Int} (hd : l.Nodup) (hl : l.length ≤ 4000) : lstU S (.lst (l.map .int)) = some (.int l.length) := by
  unfold lstU
  rw [show (listOf S (.lst (l.map D.int))).bind intsOf = some l from ints_are l]
  simp [hd, hl]
theorem mt_init : List.lookup "__init__" I_Terms.mths = some "Terms.__init__" := rfl
theorem g8 : rngD [.int 8] = some [.int 0, .int 1, .int 2, .int 3, .int 4, .int 5, .int 6, .int 7] := (rng_int (i := 8) (by decide) (by decide)).trans rfl
theorem law_true (ns : List Int) (hl : ns.length ≤ 63) : ∃ S1, call P 56 "law" [.lst (ns.map .int)] [] = .ok (.bl true) S1 := by
  obtain ⟨w, p, hf, W, eW⟩ : ∃ w p hf, Wd w p hf ∧ L2.atI [D.int 8, .int 16, .int 32] (cell ns 0 % 3) = some (.int w) := by
    have : cell ns 0 % 3 = 0 ∨ cell ns 0 % 3 = 1 ∨ cell ns 0 % 3 = 2 := by omega
    rcases this with e | e | e <;> rw [e]
    · exact ⟨_, _, _, wd8, rfl⟩
    · exact ⟨_, _, _, wd16, rfl⟩
    · exact ⟨_, _, _, wd32, rfl⟩
  obtain ⟨g1, g2, g3, g4, g5⟩ := W.w3
  have ec : ∀ (j : Nat) S, call P 55 "_law_cell_at" [.lst (ns.map .int), .int j] S = .ok (.int (cell ns j)) S := fun j S => r_cell (k := 54)
  have ec0 : ∀ S, call P 55 "_law_cell_at" [.lst (ns.map .int), .int 0] S = .ok (.int (cell ns 0)) S := fun S => ec 0 S
  have ec1 : ∀ S, call P 55 "_law_cell_at" [.lst (ns.map .int), .int 1] S = .ok (.int (cell ns 1)) S := fun S => ec 1 S
  have ec2 : ∀ S, call P 55 "_law_cell_at" [.lst (ns.map .int), .int 2] S = .ok (.int (cell ns 2)) S := fun S => ec 2 S
  have ec3 : ∀ S, call P 55 "_law_cell_at" [.lst (ns.map .int), .int 3] S = .ok (.int (cell ns 3)) S := fun S => ec 3 S
  have ec4 : ∀ S, call P 55 "_law_cell_at" [.lst (ns.map .int), .int 4] S = .ok (.int (cell ns 4)) S := fun S => ec 4 S
  have ec5 : ∀ S, call P 55 "_law_cell_at" [.lst (ns.map .int), .int 5] S = .ok (.int (cell ns 5)) S := fun S => ec 5 S
  obtain ⟨Q1, m1, d1, t1⟩ := n_term W (cell ns 1)
  obtain ⟨Q2, m2, d2, t2⟩ := n_term W (cell ns 2)
  obtain ⟨f, f0, f1, ef⟩ := r_num (c := cell ns 3) (j := 3) W (by omega) (by omega)
  obtain ⟨s, s0, s1, es⟩ := r_num (c := cell ns 4) (j := 4) W (by omega) (by omega)
  obtain ⟨s', hs'⟩ : ∃ s', s' = if cell ns 5 % 8 = 3 then (0 - f) % p else s := ⟨_, rfl⟩
  have bs : 0 ≤ s' ∧ s' < p := by
    rw [hs']
    split
    · exact mdG' W (0 - f)
    · exact ⟨s0, s1⟩
  have e0 := r_new (k := 54) (w := w)
  have A0 := new_at (w := w)
  obtain ⟨Sx, Tx, x, ex, Ax, px, lx, qx, kx, hx⟩ := t1 _ _ _ _ _ A0 (by simp)
  simp only [List.length_nil] at lx
  obtain ⟨Sy, Ty, y, ey, Ay, py, ly, qy, ky, hy⟩ := t2 _ _ _ _ _ Ax (by omega)
  obtain ⟨Sz, Tz, z, ez, Az, pz, lz, qz, _⟩ := t1 _ _ _ _ _ Ay (by omega)
  have : z = x := d1 _ _ _ Az.nd qz (m1 _ _ _ (py.trans pz) qx)
  subst this
  have hx := hx.mono (py.trans pz)
  have hy := hy.mono pz
  generalize hSz : Sz = S0 at *
  clear hSz
  have x0 := hx
  have y0 := hy
  obtain ⟨U1, R1, S1, T1, ea1, aa1, eb1, A1, p1, l1⟩ := q_comm .add W Az (by omega) (by simp) x0 y0
  have x1 := x0.mono p1
  have y1 := y0.mono p1
  obtain ⟨U2, R2, S2, T2, ea2, aa2, eb2, A2, p2, l2⟩ := q_comm .and W A1 (by omega) (by simp) x1 y1
  have x2 := x1.mono p2
  have y2 := y1.mono p2
  obtain ⟨U3, R3, S3, T3, ea3, aa3, eb3, A3, p3, l3⟩ := q_comm .or W A2 (by omega) (by simp) x2 y2
  have x3 := x2.mono p3
  have y3 := y2.mono p3
  obtain ⟨U4, R4, S4, T4, ea4, aa4, eb4, A4, p4, l4⟩ := q_comm .xor W A3 (by omega) (by simp) x3 y3
  have x4 := x3.mono p4
  have y4 := y3.mono p4
  obtain ⟨S5, T5, e5, A5, p5, l5⟩ := r_nothing W A4 (by omega) x4
  have x5 := x4.mono p5
  have y5 := y4.mono p5
  obtain ⟨S6, T6, e6, A6, p6, l6⟩ := r_nought W A5 (by omega) y5
  have x6 := x5.mono p6
  obtain ⟨S7, T7, e7, A7, p7, l7⟩ := r_numbers W A6 (by omega) x6 f0 f1 bs.1 bs.2
  obtain ⟨V0, N0, k0, u0, B0, b0, c0, v0⟩ := n_unknown (nm := boxW) (x := 0) A7 (by omega)
  obtain ⟨V1, N1, k1, u1, B1, b1, c1, v1⟩ := n_unknown (nm := boxW) (x := 1) B0 (by omega)
  have v0 := pre_at b1 v0
  obtain ⟨V2, N2, k2, u2, B2, b2, c2, v2⟩ := n_unknown (nm := boxW) (x := 2) B1 (by omega)
  have v0 := pre_at b2 v0
  have v1 := pre_at b2 v1
  obtain ⟨V3, N3, k3, u3, B3, b3, c3, v3⟩ := n_unknown (nm := boxW) (x := 3) B2 (by omega)
  have v0 := pre_at b3 v0
  have v1 := pre_at b3 v1
  have v2 := pre_at b3 v2
  obtain ⟨V4, N4, k4, u4, B4, b4, c4, v4⟩ := n_unknown (nm := boxW) (x := 4) B3 (by omega)
  have v0 := pre_at b4 v0
  have v1 := pre_at b4 v1
  have v2 := pre_at b4 v2
  have v3 := pre_at b4 v3
  obtain ⟨V5, N5, k5, u5, B5, b5, c5, v5⟩ := n_unknown (nm := boxW) (x := 5) B4 (by omega)
  have v0 := pre_at b5 v0
  have v1 := pre_at b5 v1
  have v2 := pre_at b5 v2
  have v3 := pre_at b5 v3
  have v4 := pre_at b5 v4
  obtain ⟨V6, N6, k6, u6, B6, b6, c6, v6⟩ := n_unknown (nm := boxW) (x := 6) B5 (by omega)
  have v0 := pre_at b6 v0
  have v1 := pre_at b6 v1
  have v2 := pre_at b6 v2
  have v3 := pre_at b6 v3
  have v4 := pre_at b6 v4
  have v5 := pre_at b6 v5
  obtain ⟨V7, N7, k7, u7, B7, b7, c7, v7⟩ := n_unknown (nm := boxW) (x := 7) B6 (by omega)
  have v0 := pre_at b7 v0
  have v1 := pre_at b7 v1
  have v2 := pre_at b7 v2
  have v3 := pre_at b7 v3
  have v4 := pre_at b7 v4
  have v5 := pre_at b7 v5
  have v6 := pre_at b7 v6
  obtain ⟨V8, N8, k8, u8, B8, b8, c8, v8⟩ := n_unknown (nm := gotW) (x := 0) B7 (by omega)
  have v0 := pre_at b8 v0
  have v1 := pre_at b8 v1
  have v2 := pre_at b8 v2
  have v3 := pre_at b8 v3
  have v4 := pre_at b8 v4
  have v5 := pre_at b8 v5
  have v6 := pre_at b8 v6
  have v7 := pre_at b8 v7
  obtain ⟨V9, N9, k9, u9, B9, b9, c9, v9⟩ := n_unknown (nm := bitsW) (x := 0) B8 (by omega)
  have v0 := pre_at b9 v0
  have v1 := pre_at b9 v1
  have v2 := pre_at b9 v2
  have v3 := pre_at b9 v3
  have v4 := pre_at b9 v4
  have v5 := pre_at b9 v5
  have v6 := pre_at b9 v6
  have v7 := pre_at b9 v7
  have v8 := pre_at b9 v8
  obtain ⟨V10, N10, k10, u10, B10, b10, c10, v10⟩ := n_unknown (nm := boxW) (x := 3) B9 (by omega)
  have : k10 = k3 := at_det B10.nd v10 (pre_at b10 v3)
  subst this
  have nd : ([(k0 : Int), k1, k2, k10, k4, k5, k6, k7, k8, k9] : List Int).Nodup := by
    simp only [List.nodup_cons, List.mem_cons, List.not_mem_nil, or_false, not_or, not_false_iff, List.nodup_nil, and_true]
    exact ⟨⟨un_ne v0 v1 (.inr (by decide)), un_ne v0 v2 (.inr (by decide)), un_ne v0 v3 (.inr (by decide)), un_ne v0 v4 (.inr (by decide)), un_ne v0 v5 (.inr (by decide)), un_ne v0 v6 (.inr (by decide)), un_ne v0 v7 (.inr (by decide)), un_ne v0 v8 (.inl (by decide)), un_ne v0 v9 (.inl (by decide))⟩,
      ⟨un_ne v1 v2 (.inr (by decide)), un_ne v1 v3 (.inr (by decide)), un_ne v1 v4 (.inr (by decide)), un_ne v1 v5 (.inr (by decide)), un_ne v1 v6 (.inr (by decide)), un_ne v1 v7 (.inr (by decide)), un_ne v1 v8 (.inl (by decide)), un_ne v1 v9 (.inl (by decide))⟩,
      ⟨un_ne v2 v3 (.inr (by decide)), un_ne v2 v4 (.inr (by decide)), un_ne v2 v5 (.inr (by decide)), un_ne v2 v6 (.inr (by decide)), un_ne v2 v7 (.inr (by decide)), un_ne v2 v8 (.inl (by decide)), un_ne v2 v9 (.inl (by decide))⟩,
      ⟨un_ne v3 v4 (.inr (by decide)), un_ne v3 v5 (.inr (by decide)), un_ne v3 v6 (.inr (by decide)), un_ne v3 v7 (.inr (by decide)), un_ne v3 v8 (.inl (by decide)), un_ne v3 v9 (.inl (by decide))⟩,
      ⟨un_ne v4 v5 (.inr (by decide)), un_ne v4 v6 (.inr (by decide)), un_ne v4 v7 (.inr (by decide)), un_ne v4 v8 (.inl (by decide)), un_ne v4 v9 (.inl (by decide))⟩,
      ⟨un_ne v5 v6 (.inr (by decide)), un_ne v5 v7 (.inr (by decide)), un_ne v5 v8 (.inl (by decide)), un_ne v5 v9 (.inl (by decide))⟩,
      ⟨un_ne v6 v7 (.inr (by decide)), un_ne v6 v8 (.inl (by decide)), un_ne v6 v9 (.inl (by decide))⟩,
      ⟨un_ne v7 v8 (.inl (by decide)), un_ne v7 v9 (.inl (by decide))⟩,
      un_ne v8 v9 (.inl (by decide))⟩
  have lu := fun S => lst_unlike (S := S) nd (by simp)
  simp only [List.map_cons, List.map_nil, List.length_cons, List.length_nil, Nat.zero_add, Nat.reduceAdd] at lu
  have a0 : ([.ins "Terms" (tF w 1 2), .lst [], .dct []] : Sto)[0]? = some (.ins "Terms" (tF w 1 2)) := rfl
  have ax := Ax.at_
  have ay := Ay.at_
  have az := Az.at_
  have a1 := A1.at_
  have a2 := A2.at_
  have a3 := A3.at_
  have a4 := A4.at_
  have a5 := A5.at_
  have a6 := A6.at_
  have a7 := A7.at_
  have w0 := B0.at_
  have w1 := B1.at_
  have w2 := B2.at_
  have w3 := B3.at_
  have w4 := B4.at_
  have w5 := B5.at_
  have w6 := B6.at_
  have w7 := B7.at_
  have w8 := B8.at_
  have w9 := B9.at_
  have w10 := B10.at_
  have ex : call P 55 "_law_term" [.ref 0, .int (cell ns 1), .int w] _ = _ := ex 41
  have ey : call P 55 "_law_term" [.ref 0, .int (cell ns 2), .int w] _ = _ := ey 41
  have ez : call P 55 "_law_term" [.ref 0, .int (cell ns 1), .int w] _ = _ := ez 41
  have ea1 : call P 55 "Terms.make" [.ref 0, .str (Str.ofString "add"), .int (z : Nat), .int (y : Nat)] _ = _ := ea1 42
  have eb1 : call P 55 "Terms.make" [.ref 0, .str (Str.ofString "add"), .int (y : Nat), .int (z : Nat)] _ = _ := eb1 42
  have ea2 : call P 55 "Terms.make" [.ref 0, .str (Str.ofString "and"), .int (z : Nat), .int (y : Nat)] _ = _ := ea2 42
  have eb2 : call P 55 "Terms.make" [.ref 0, .str (Str.ofString "and"), .int (y : Nat), .int (z : Nat)] _ = _ := eb2 42
  have ea3 : call P 55 "Terms.make" [.ref 0, .str (Str.ofString "or"), .int (z : Nat), .int (y : Nat)] _ = _ := ea3 42
  have eb3 : call P 55 "Terms.make" [.ref 0, .str (Str.ofString "or"), .int (y : Nat), .int (z : Nat)] _ = _ := eb3 42
  have ea4 : call P 55 "Terms.make" [.ref 0, .str (Str.ofString "xor"), .int (z : Nat), .int (y : Nat)] _ = _ := ea4 42
  have eb4 : call P 55 "Terms.make" [.ref 0, .str (Str.ofString "xor"), .int (y : Nat), .int (z : Nat)] _ = _ := eb4 42
  have e5 : call P 55 "_law_nothing_done" _ _ = _ := e5 41
  have e6 : call P 55 "_law_nought" _ _ = _ := e6 41
  have e7 : call P 55 "_law_numbers" _ _ = _ := e7 41
  have ef : ∀ S, call P 55 "_law_number" [.int (cell ns 3), .int 3, .int w] S = .ok (.int f) S := fun S => ef 52 S
  have es : ∀ S, call P 55 "_law_number" [.int (cell ns 4), .int 4, .int w] S = .ok (.int s) S := fun S => es 52 S
  have u0 : call P 55 "Terms.unknown" [.ref 0, .str (Str.ofString "box"), .int 0] _ = _ := u0 53
  have u1 : call P 55 "Terms.unknown" [.ref 0, .str (Str.ofString "box"), .int 1] _ = _ := u1 53
  have u2 : call P 55 "Terms.unknown" [.ref 0, .str (Str.ofString "box"), .int 2] _ = _ := u2 53
  have u3 : call P 55 "Terms.unknown" [.ref 0, .str (Str.ofString "box"), .int 3] _ = _ := u3 53
  have u4 : call P 55 "Terms.unknown" [.ref 0, .str (Str.ofString "box"), .int 4] _ = _ := u4 53
  have u5 : call P 55 "Terms.unknown" [.ref 0, .str (Str.ofString "box"), .int 5] _ = _ := u5 53
  have u6 : call P 55 "Terms.unknown" [.ref 0, .str (Str.ofString "box"), .int 6] _ = _ := u6 53
  have u7 : call P 55 "Terms.unknown" [.ref 0, .str (Str.ofString "box"), .int 7] _ = _ := u7 53
  have u8 : call P 55 "Terms.unknown" [.ref 0, .str (Str.ofString "got"), .int 0] _ = _ := u8 53
  have u9 : call P 55 "Terms.unknown" [.ref 0, .str (Str.ofString "bits"), .int 0] _ = _ := u9 53
  have u10 : call P 55 "Terms.unknown" [.ref 0, .str (Str.ofString "box"), .int 3] _ = _ := u10 53
  rw [call_run fnf_law rfl]
  refine ⟨[], ?_⟩
  by_cases c5 : cell ns 5 % 8 = 3
  · rw [if_pos c5] at hs'
    subst hs'
    simp only [Int.zero_sub] at e7
    simp [f_law, f_law_b1, startE, ec0, ec1, ec2, ec3, ec4, ec5, eW, fmod_pos, cls_Terms, mt_init, mt_make, mt_unknown, e0, ex, ey, ez, a0, a1, a2, a3, a4, a5, a6, a7, ax, ay, az, ea1, aa1, eb1, ea2, aa2, eb2, ea3, aa3, eb3, ea4, aa4, eb4, e5, e6, e7, ef, es, c5, W.hp, g1, g2, g4, g5, u0, u1, u2, u3, u4, u5, u6, u7, u8, u9, u10, w0, w1, w2, w3, w4, w5, w6, w7, w8, w9, w10, cmpL, cmF_eq, wipeE, R.bind, forL, forF_eq, line, g8, lu]
  · rw [if_neg c5] at hs'
    subst hs'
    simp [f_law, f_law_b1, startE, ec0, ec1, ec2, ec3, ec4, ec5, eW, fmod_pos, cls_Terms, mt_init, mt_make, mt_unknown, e0, ex, ey, ez, a0, a1, a2, a3, a4, a5, a6, a7, ax, ay, az, ea1, aa1, eb1, ea2, aa2, eb2, ea3, aa3, eb3, ea4, aa4, eb4, e5, e6, e7, ef, es, c5, W.hp, g1, g2, g4, g5, u0, u1, u2, u3, u4, u5, u6, u7, u8, u9, u10, w0, w1, w2, w3, w4, w5, w6, w7, w8, w9, w10, cmpL, cmF_eq, wipeE, R.bind, forL, forF_eq, line, g8, lu]
end
end MI.Law

set_option maxHeartbeats 0
open PySem PySem.W PySem.Calls PyProof.Rows
theorem PySem.Challenge.cw_hostturn_k42_like_terms_holds : PySem.Challenge.rw_hostturn_k42_like_terms.Holds := by
  w_on; o_law
  refine HandSHeadRun.head_any (r := OpenLaw.row PySem.Challenge.rw_hostturn_k42_like_terms) (q := view (OpenLaw.row PySem.Challenge.rw_hostturn_k42_like_terms).prog [20]) (H := MI.Law.hk) (ob := MI.Law.ob) (M := 20000) (loose := MI.Law.names) (d := HandSHeadRun.topDef (OpenLaw.row PySem.Challenge.rw_hostturn_k42_like_terms).prog 20) (kwd := []) MI.Law.ob_eq
    (by kernel_rfl) (fun s => by kernel_rfl) MI.Law.run (by kernel_rfl) (by kernel_rfl) (by kernel_rfl) (by rfl) (by first | assumption | decide +kernel) (by decide +kernel) ⟨rfl, rfl, rfl, rfl, rfl, by decide +kernel⟩ ?hw ?hc
  case hw => w_witness2
  case hc =>
    refine L2.walk_ofE (l := PySem.Challenge.rw_hostturn_k42_like_terms) (n := 63) (k := 112) (x := "_law_script") (CX := L2.CX0) rfl (by decide) (by kernel_rfl) ⟨rfl, by decide, by decide⟩ ?F (fun _ _ _ _ z => z)
    intro w mg fa h Y G hmg0
    obtain ⟨K, KX, c⟩ := Y
    have hmg : mg ("law" : PySem.Str) = some (.ref fa) := by
      have e : (HandSHeadRun.topDef (OpenLaw.row PySem.Challenge.rw_hostturn_k42_like_terms).prog 20).name = ("law" : PySem.Str) := by kernel_rfl
      rw [← e]
      exact hmg0
    letI : MI.Tabs := ⟨[], []⟩
    exact MI.law_end rfl rfl (p := MI.Law.par) (prog := (PySem.Challenge.rw_hostturn_k42_like_terms).prog) (w := w) KX (MI.Law.mods KX G c) (f := "law") rfl (by decide) hmg 56 63 "_law_script" ⟨_, MI.Law.fnf_law, rfl, rfl⟩ MI.Law.law_true

