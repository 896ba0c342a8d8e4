import PyProof.Rows.All
import Wide.All
import OpenK.AllK
import Wide.FinOn
import HandS.ForMost
import KE.SortData
import KE.DataMinMax
import KE.DataAny
import KE.DataIsa
import KE.DataEq
import KE.DataFind
import HandS.Flow
import HandS.TupAny
import HandS.TupMul
import HandS.Conv
import HandS.Style
import HandS.DictComp
import HandS.Zip
import HandS.Iter
import HandS.ListItems
import HandS.DictTup
import HandS.IsInst
import HandS.Deep
import HandS.Codes
import KE.KDictKeyed
import HandS.RaiseMore
import HandS.Text
import HandS.Ends
import PySem.Challenge.RW_layersheld_k85_whole_order_and_spans
set_option Elab.async false
/-! Ly, the pure part: data D, a store of lists and dicts that change, what each operation answers, and the evaluator of the text (ev, exec, callF). No program and no heap in sight. -/
set_option autoImplicit false
set_option linter.all false
namespace Ly
open PySem

/-- data: values that never change; ref: a list or dict of the store, that may change; fn: a def of the text -/
inductive D where
  | non | bl (b : Bool) | int (i : Int) | str (x : Str)
  | tup (xs : List D) | lst (xs : List D) | dct (kvs : List (D × D)) | set (xs : List D)
  | ref (n : Nat) | fn (x : Str)
  deriving Inhabited
/-- what stands in the store -/
inductive MO where
  | lst (xs : List D) | dct (kvs : List (D × D)) | lck (kvs : List (D × D))
abbrev Sto := List MO
inductive Out (α : Type) where
  | ok (a : α) (S : Sto) | exc (x : Str) (p : D) (S : Sto) | no
abbrev M (α : Type) := Sto → Out α
def ret {α : Type} (a : α) : M α := fun S => .ok a S
def bnd {α β : Type} (m : M α) (f : α → M β) : M β := fun S => match m S with
  | .ok a S' => f a S'
  | .exc x p S' => .exc x p S'
  | .no => .no
def stuck {α : Type} : M α := fun _ => .no
def ofOp {α : Type} : Option α → M α
  | some a => ret a
  | none => stuck
/-- what a value shows: the content of a list or dict of the store -/
def view (S : Sto) : D → D
  | .ref n => match S[n]? with
    | some (.lst xs) => .lst xs
    | some (.dct kvs) => .dct kvs
    | some (.lck kvs) => .dct kvs
    | none => .ref n
  | d => d
/-- with what two values show -/
def viewed {α : Type} (d : D) (f : D → M α) : M α := fun S => f (view S d) S
/-- a new thing: data, or (mut) an object of the store -/
def fresh (m : Bool) (d : D) : M D := fun S => if m then (match d with
    | .lst xs => .ok (.ref S.length) (S ++ [.lst xs])
    | .dct kvs => .ok (.ref S.length) (S ++ [.dct kvs])
    | _ => .no) else .ok d S

/-! ### as the library's data -/
mutual
def D.py : D → Option PyData
  | .non => some .none
  | .bl b => some (.bool b)
  | .int i => some (.int i)
  | .str x => some (.str x)
  | .tup xs => (pyAll xs).map .tuple
  | .lst xs => (pyAll xs).map .list
  | .dct _ => none
  | .set _ => none
  | .ref _ => none
  | .fn _ => none
def pyAll : List D → Option (List PyData)
  | [] => some []
  | x :: xs => match x.py, pyAll xs with
    | some d, some ds => some (d :: ds)
    | _, _ => none
end
/-- a bound that the library's rules ask of data -/
def deepOk (d : PyData) : Bool := decide (d.depth ≤ 64)

/-! ### == and < -/
def eqD (a b : D) : Option Bool := match a.py, b.py with
  | some x, some y => if deepOk x && deepOk y then some (PyData.eqv x y) else none
  | _, _ => none
def isNonPy : PyData → Bool
  | .none => true
  | _ => false
def ltD (a b : D) : Option Bool := match a.py, b.py with
  | some x, some y => if deepOk x && deepOk y && PySem.W.alike x y && !isNonPy x then some (PySem.W.dataLt x y) else none
  | _, _ => none
/-- a list's items that can be compared with each other -/
def allAlike (ds : List PyData) : Bool := ds.all fun x => ds.all fun y => PySem.W.alike x y
def sortableB (ds : List PyData) : Bool :=
  (ds.all fun d => match d with
    | .tuple (_ :: _) => true
    | _ => false) || (ds.all fun d => match d with
    | .none => false
    | .tuple _ => false
    | _ => true)
def ltPy (a b : D) : Bool := match a.py, b.py with
  | some x, some y => PySem.W.dataLt x y
  | _, _ => false
/-- sorted(xs) -/
def sortD (xs : List D) : Option (List D) := match pyAll xs with
  | some ds => if allAlike ds && sortableB ds && (ds.all deepOk) then some (xs.mergeSort fun a b => !ltPy b a) else none
  | none => none
def minL (x : D) (xs : List D) : D := xs.foldl (fun a y => if ltPy y a then y else a) x
def maxL (x : D) (xs : List D) : D := xs.foldl (fun a y => if ltPy a y then y else a) x
def isList : D → Bool
  | .lst _ => true
  | _ => false
def pickD (mx : Bool) : List D → Option D
  | [] => none
  | x :: xs => match pyAll (x :: xs) with
    | some ds => if allAlike ds && (ds.all fun d => !isNonPy d) && (ds.all deepOk) && ((x :: xs).all fun d => !isList d) then some (if mx then maxL x xs else minL x xs) else none
    | none => none

/-! ### operations on values (already viewed) -/
def line : Nat := 16777216
def truD : D → Option Bool
  | .non => some false
  | .bl b => some b
  | .int i => some (i != 0)
  | .str x => if x.length ≤ line then some (x.length != 0) else none
  | .tup xs => some (!xs.isEmpty)
  | .lst xs => some (!xs.isEmpty)
  | _ => none
def smallB (i : Int) : Bool := decide (-(2 ^ 64) < i) && decide (i < 2 ^ 64)
/-- an operator; lists are new objects: see binM -/
def binD : Operator → D → D → Option D
  | .Add, .int i, .int j => some (.int (i + j))
  | .Add, .str x, .str y => if x.length + y.length ≤ line then some (.str (x ++ y)) else none
  | .Add, .tup xs, .tup ys => if xs.length + ys.length ≤ line then some (.tup (xs ++ ys)) else none
  | .Add, .lst xs, .lst ys => if xs.length + ys.length ≤ line then some (.lst (xs ++ ys)) else none
  | .Sub, .int i, .int j => some (.int (i - j))
  | .Mult, .int i, .int j => if smallB i || smallB j then some (.int (i * j)) else none
  | .Mult, .tup xs, .int k => if !xs.isEmpty && decide (2 ≤ k) && decide (k ≤ 1000) && decide (xs.length ≤ 1000) then some (.tup (List.replicate k.toNat xs).flatten) else none
  | .Mult, .lst xs, .int k => if decide (0 ≤ k) && decide (k ≤ 1000) && decide (xs.length ≤ 1000) then some (.lst (List.replicate k.toNat xs).flatten) else none
  | .FloorDiv, .int i, .int j => if decide (0 < j) && decide (j < 1073741824) then some (.int (i / j)) else none
  | .Mod, .int i, .int j => if decide (0 < j) then some (.int (i % j)) else none
  | .Pow, .int i, .int j => if decide (0 ≤ j) && decide (j ≤ 1000000) && smallB i then some (.int (i ^ j.toNat)) else none
  | _, _, _ => none
/-! the keys of dicts: ints, texts, tuples of them -/
def keyOk : D → Bool
  | .int _ => true
  | .str _ => true
  | _ => false
def seq (a b : Str) : Bool := a.cps.toList == b.cps.toList
mutual
def keyEq : D → D → Bool
  | .int i, .int j => i == j
  | .str x, .str y => seq x y
  | .tup xs, .tup ys => keysEq xs ys
  | _, _ => false
def keysEq : List D → List D → Bool
  | [], [] => true
  | x :: xs, y :: ys => keyEq x y && keysEq xs ys
  | _, _ => false
end
def getK (kvs : List (D × D)) (k : D) : Option D := (kvs.find? fun kv => keyEq kv.1 k).map (·.2)
def putK (kvs : List (D × D)) (k v : D) : List (D × D) :=
  if kvs.any fun kv => keyEq kv.1 k then kvs.map fun kv => if keyEq kv.1 k then (kv.1, v) else kv else kvs ++ [(k, v)]
def putAll (kvs more : List (D × D)) : List (D × D) := more.foldl (fun acc kv => putK acc kv.1 kv.2) kvs
def dropK (kvs : List (D × D)) (k : D) : List (D × D) := kvs.filter fun kv => !keyEq kv.1 k
def inSeq (x : D) (xs : List D) : Option Bool := match x.py, pyAll xs with
  | some d, some ds => if deepOk d && (ds.all deepOk) then some (ds.any fun y => PyData.eqv y d) else none
  | _, _ => none
/-- x in y -/
def inD (x : D) : D → Option Bool
  | .lst xs => inSeq x xs
  | .tup xs => inSeq x xs
  | .str z => match x with
    | .str y => some (!(Builtin.Str.occurrences z y 0 z.length 1).isEmpty)
    | _ => none
  | .dct kvs => if keyOk x then some (getK kvs x).isSome else none
  | _ => none
def isD (x : D) : D → Option Bool
  | .non => some (match x with
    | .non => true
    | _ => false)
  | .bl b => match x with
    | .bl c => some (c == b)
    | _ => none
  | _ => none
def cmpD : CmpOp → D → D → Option Bool
  | .Eq, x, y => eqD x y
  | .NotEq, x, y => (eqD x y).map (!·)
  | .Lt, x, y => ltD x y
  | .Gt, x, y => ltD y x
  | .LtE, x, y => (ltD y x).map (!·)
  | .GtE, x, y => (ltD x y).map (!·)
  | .In, x, y => inD x y
  | .NotIn, x, y => (inD x y).map (!·)
  | .Is, x, y => isD x y
  | .IsNot, x, y => (isD x y).map (!·)
/-- xs[i] -/
def itemD : D → D → Option D
  | .tup xs, .int i => L2.atI xs i
  | .lst xs, .int i => L2.atI xs i
  | .str z, .int i => if z.length ≤ line then (L2.atI z.cps.toList i).map fun c => .str ⟨#[c]⟩ else none
  | .dct kvs, k => if keyOk k then getK kvs k else none
  | _, _ => none
def cutL {α : Type} (xs : List α) (lo hi : Option Int) : List α :=
  (xs.drop (HT.sIx xs.length 0 lo)).take (HT.sIx xs.length xs.length hi - HT.sIx xs.length 0 lo)
def cutD (lo hi : Option Int) : D → Option D
  | .tup xs => some (.tup (cutL xs lo hi))
  | .lst xs => some (.lst (cutL xs lo hi))
  | .str z => if z.length ≤ line then some (.str ⟨(cutL z.cps.toList lo hi).toArray⟩) else none
  | _ => none
def revD : D → Option D
  | .lst xs => some (.lst xs.reverse)
  | _ => none
def lenD : D → Option Int
  | .str x => if x.length ≤ line then some x.length else none
  | .tup xs => some xs.length
  | .lst xs => some xs.length
  | _ => none
def isaD (t : Str) (d : D) : Option Bool := match d.py with
  | none => none
  | some p => if seq t "int" then some p.isInt
    else if seq t "bool" then some p.isBool
    else if seq t "str" then some p.isStr
    else if seq t "tuple" then some p.isTuple
    else none
/-- the items of a list or tuple -/
def itemsD : D → Option (List D)
  | .tup xs => some xs
  | .lst xs => some xs
  | _ => none
def intsD : List D → Option (List Int)
  | [] => some []
  | .int i :: r => (intsD r).map (i :: ·)
  | _ :: _ => none
def boolsD : List D → Option (List Bool)
  | [] => some []
  | .bl b :: r => (boolsD r).map (b :: ·)
  | _ :: _ => none
def strsD : List D → Option (List Str)
  | [] => some []
  | .str b :: r => (strsD r).map (b :: ·)
  | _ :: _ => none
def pairsD : List D → Option (List (D × D))
  | [] => some []
  | .tup [k, v] :: r => if keyOk k then (pairsD r).map ((k, v) :: ·) else none
  | _ :: _ => none
/-- signs of a text, one by one -/
def signs (x : Str) : List D := x.cps.toList.map fun c => .str ⟨#[c]⟩
/-- built-in functions -/
inductive BK where
  | len | int | str | abs | sum | all | any | max | min | tuple | list | sorted
def BK.name : BK → Str
  | .len => "len" | .int => "int" | .str => "str" | .abs => "abs" | .sum => "sum" | .all => "all" | .any => "any" | .max => "max" | .min => "min" | .tuple => "tuple" | .list => "list" | .sorted => "sorted"
def bkOf (f : Str) : Option BK := [BK.len, .int, .str, .abs, .sum, .all, .any, .max, .min, .tuple, .list, .sorted].find? fun b => seq f b.name
def bi1 : BK → D → Option D
  | .len, x => (lenD x).map .int
  | .int, .int i => some (.int i)
  | .int, .bl b => some (.int (if b then 1 else 0))
  | .int, .str z => if z.length ≤ 640 then (PySem.intText? z).map .int else none
  | .str, .int i => if i.natAbs.log2 < 1920 then some (.str (toString i)) else none
  | .str, .str z => some (.str z)
  | .abs, .int i => some (.int (if i < 0 then -i else i))
  | .sum, .lst xs => (intsD xs).map fun ns => .int ns.sum
  | .all, .lst xs => (boolsD xs).map fun bs => .bl (bs.all id)
  | .any, .lst xs => (boolsD xs).map fun bs => .bl (bs.any id)
  | .max, .lst xs => pickD true xs
  | .min, .lst xs => pickD false xs
  | .tuple, .lst xs => some (.tup xs)
  | .tuple, .tup xs => some (.tup xs)
  | .list, .lst xs => some (.lst xs)
  | .list, .tup xs => some (.lst xs)
  | .list, .set xs => some (.lst xs)
  | .sorted, .lst xs => (sortD xs).map .lst
  | _, _ => none
def biD (f : Str) (ds : List D) : Option D := match bkOf f, ds with
  | some k, [x] => bi1 k x
  | some .max, [x, y] => pickD true [x, y]
  | some .min, [x, y] => pickD false [x, y]
  | _, _ => none

/-! ### the text's defs and constants -/
structure Fd where
  ps : List Str
  N : List Str
  body : List Stmt
  sc : Scope
structure Gl where
  cst : List (Str × D)
  fns : List (Str × Fd)
  blts : List Str
  muts : List Pos
def Gl.isMut (G : Gl) (p : Pos) : Bool := G.muts.any fun q => decide (q = p)
def Gl.blt (G : Gl) (x : Str) : Bool := G.blts.any fun y => seq y x
abbrev Env := List (Option D)
structure Cfg where
  G : Gl
  cal : Bool → Str → List D → M D
  N : List Str
  base : Nat
  fuel : Nat
/-- is x a name of the def, by its scope -/
def vis (sc : Scope) (x : Str) : Bool := match sc.names.lookup x with
  | some .local => true
  | some .cell => true
  | some .free => true
  | _ => false
def glo (sc : Scope) (x : Str) : Bool := match sc.names.lookup x with
  | some .globalImplicit => !(x == ("__debug__" : Str))
  | _ => false
def slot (N : List Str) (x : Str) : Option Nat := N.findIdx? fun y => seq y x
def getv (ρ : Env) (i : Nat) : M D := match ρ[i]? with
  | some (some d) => ret d
  | _ => stuck
def plainName (x : Str) : Bool := !(x == ("__debug__" : Str)) && !(x == ("__classdict__" : Str))
def evName (c : Cfg) (sc : Scope) (ρ : Env) (x : Str) : M D :=
  if vis sc x then (if plainName x then (match slot c.N x with
    | some i => getv ρ i
    | none => stuck) else stuck)
  else if glo sc x then (match c.G.cst.lookup x with
    | some d => ret d
    | none => match c.G.fns.lookup x with
      | some _ => ret (.fn x)
      | none => stuck)
  else stuck
def evList (f : Expr → M D) : List Expr → M (List D)
  | [] => ret []
  | e :: es => bnd (f e) fun x => bnd (evList f es) fun xs => ret (x :: xs)
def truM (d : D) : M Bool := viewed d fun d => ofOp (truD d)
/-- and, or: what is settled by the first, what is left to the others -/
def boolK {α : Type} (op : BoolOp) (t : Bool) (a b : α) : α := match op with
  | .And => cond t b a
  | .Or => cond t a b
/-- and, or as values -/
def evBool (op : BoolOp) (f : Expr → M D) : List Expr → M D
  | [] => stuck
  | [e] => f e
  | e :: es => bnd (f e) fun v => bnd (truM v) fun t => boolK op t (ret v) (evBool op f es)
/-- and, or as tests -/
def teBool (op : BoolOp) (f : Expr → M Bool) : List Expr → M Bool
  | [] => stuck
  | [e] => f e
  | e :: es => bnd (f e) fun t => boolK op t (ret t) (teBool op f es)
def binM (G : Gl) (op : Operator) (p : Pos) (x y : D) : M D := viewed x fun x' => viewed y fun y' => match binD op x' y' with
  | some d => if isList d then fresh (G.isMut p) d else ret d
  | none => stuck
def cmpM (op : CmpOp) (x y : D) : M Bool := viewed x fun x' => viewed y fun y' => ofOp (cmpD op x' y')
def isSetE : Expr → Bool
  | .Set _ _ _ => true
  | _ => false
def isStar : Expr → Bool
  | .Starred _ _ => true
  | _ => false
def isSlice : Expr → Bool
  | .Slice _ _ _ _ => true
  | _ => false
/-- a chain of comparisons -/
def evCmp (f : Expr → M D) (x : D) : List CmpOp → List Expr → M Bool
  | [op], [e] => if isSetE e then stuck else bnd (f e) fun y => cmpM op x y
  | [op, op'], [e, e'] => if isSetE e || isSetE e' then stuck else bnd (f e) fun y => bnd (cmpM op x y) fun b => if b then bnd (f e') fun z => cmpM op' y z else ret false
  | _, _ => stuck
def negM : D → M D
  | .int i => ret (.int (-i))
  | _ => stuck
def itemM (x y : D) : M D := viewed x fun x' => ofOp (itemD x' y)
def partM (f : Expr → M D) : Option Expr → M (Option Int)
  | none => ret none
  | some e => bnd (f e) fun d => match d with
    | .int i => ret (some i)
    | _ => stuck
def newM (G : Gl) (p : Pos) (o : Option D) : M D := match o with
  | some d => if isList d then fresh (G.isMut p) d else ret d
  | none => stuck
def isDct : D → Bool
  | .dct _ => true
  | _ => false
def biM (G : Gl) (p : Pos) (f : Str) (args : List D) : M D := fun S => match args.map (view S) with
  | ds => (match biD f ds with
    | some d => if isList d || isDct d then fresh (G.isMut p) d S else .ok d S
    | none => .no)
/-- a target, by slots -/
inductive Tg where
  | ix (i : Nat) | tp (ts : List Tg) | bad
def tgC (N : List Str) (sc : Scope) : Nat → Expr → Tg
  | 0, _ => .bad
  | n + 1, .Name x _ => (match sc.names.lookup x with
    | some .local => (match slot N x with
      | some i => .ix i
      | none => .bad)
    | some .cell => (match slot N x with
      | some i => .ix i
      | none => .bad)
    | _ => .bad)
  | n + 1, .Tuple ts _ _ => if ts.any isStar then .bad else .tp (ts.map (tgC N sc n))
  | _ + 1, _ => .bad
/-- a target takes a value -/
def bindTs {τ : Type} (f : τ → D → Env → Option Env) : List τ → List D → Env → Option Env
  | t :: ts, d :: ds, ρ => (f t d ρ).bind fun ρ' => bindTs f ts ds ρ'
  | [], [], ρ => some ρ
  | _, _, _ => none
def bindG : Nat → Tg → D → Env → Option Env
  | 0, _, _, _ => none
  | n + 1, .ix i, d, ρ => some (ρ.set i (some d))
  | n + 1, .tp ts, .tup ds, ρ => if ts.length == ds.length then bindTs (bindG n) ts ds ρ else none
  | _ + 1, _, _, _ => none
def bindT (N : List Str) (sc : Scope) (n : Nat) (e : Expr) (d : D) (ρ : Env) : Option Env := bindG n (tgC N sc n e) d ρ
/-- behind a target's taking -/
def onB {α : Type} (o : Option Env) (k : Env → M α) : M α := match o with
  | some ρ => k ρ
  | none => stuck
/-- the slots that a target sets -/
def tgIx (N : List Str) : Nat → Expr → List Nat
  | n + 1, .Name x _ => (match slot N x with
    | some i => [i]
    | none => [])
  | n + 1, .Tuple ts _ _ => ts.flatMap (tgIx N n)
  | _, _ => []

/-! ### what a loop goes through -/
mutual
def sameD : D → D → Bool
  | .non, .non => true
  | .bl a, .bl b => a == b
  | .int i, .int j => i == j
  | .str x, .str y => seq x y
  | .tup xs, .tup ys => sameL xs ys
  | .lst xs, .lst ys => sameL xs ys
  | .dct xs, .dct ys => sameK xs ys
  | .set xs, .set ys => sameL xs ys
  | .ref m, .ref n => m == n
  | .fn x, .fn y => seq x y
  | _, _ => false
def sameL : List D → List D → Bool
  | [], [] => true
  | x :: xs, y :: ys => sameD x y && sameL xs ys
  | _, _ => false
def sameK : List (D × D) → List (D × D) → Bool
  | [], [] => true
  | (a, b) :: xs, (c, d) :: ys => sameD a c && sameD b d && sameK xs ys
  | _, _ => false
end
structure Src where
  items : List D
  refs : List (Nat × List D)
def guardM (r : List (Nat × List D)) : M Unit := fun S => if r.all fun q => match S[q.1]? with
    | some (.lst ys) => sameL ys q.2
    | _ => false
  then .ok () S else .no
def itemsOf (d : D) : M Src := fun S => match d with
  | .tup xs => .ok ⟨xs, []⟩ S
  | .lst xs => .ok ⟨xs, []⟩ S
  | .str z => if z.length ≤ line then .ok ⟨signs z, []⟩ S else .no
  | .ref n => (match S[n]? with
    | some (.lst xs) => .ok ⟨xs, [(n, xs)]⟩ S
    | _ => .no)
  | _ => .no
def big (i : Int) : Bool := decide (-(2 ^ 62) ≤ i) && decide (i < 2 ^ 62)
def upTo (lo : Int) (n : Nat) : List D := (List.range n).map fun i => .int (lo + (i : Nat))
def downFrom (hi : Int) (n : Nat) : List D := (List.range n).map fun i => .int (hi - (i : Nat))
def rangeD : List D → Option (List D)
  | [.int j] => if big j && decide (j.toNat ≤ line) then some (upTo 0 j.toNat) else none
  | [.int i, .int j] => if big i && big j && decide ((j - i).toNat ≤ line) then some (upTo i (j - i).toNat) else none
  | [.int i, .int j, .int k] => if big i && big j && k == -1 && decide ((i - j).toNat ≤ line) then some (downFrom i (i - j).toNat) else none
  | _ => none
def zipD (xs ys : List D) : List D := List.zipWith (fun x y => .tup [x, y]) xs ys
def enumD (xs : List D) : List D := List.zipWith (fun (i : Nat) x => .tup [.int (i : Nat), x]) (List.range xs.length) xs
def isTupT : Expr → Bool
  | .Tuple _ _ _ => true
  | _ => false
def iterM (c : Cfg) (sc : Scope) (f : Expr → M D) (tg : Expr) : Expr → M Src
  | .Call (.Name g p) args [] q =>
    if glo sc g && c.G.blt g && seq g "range" then (if args.any isStar then stuck else bnd (evList f args) fun ds => match rangeD ds with
      | some xs => ret ⟨xs, []⟩
      | none => stuck)
    else bnd (f (.Call (.Name g p) args [] q)) itemsOf
  | e => bnd (f e) itemsOf

/-! ### comprehensions -/
def wipe (ρ : Env) : List Nat → Env
  | [] => ρ
  | v :: vs => (wipe ρ vs).set v none
def ownOf (N : List Str) (scope : Scope) : List (Str × Nat) := scope.names.filterMap fun y => match y.2 with
  | .local => (slot N y.1).map fun i => (y.1, i)
  | .cell => (slot N y.1).map fun i => (y.1, i)
  | _ => none
def compLoop {β : Type} (g : M Unit) (body : D → M (List β)) : List D → M (List β)
  | [] => bnd g fun _ => ret []
  | x :: xs => bnd g fun _ => bnd (body x) fun ys => bnd (compLoop g body xs) fun zs => ret (ys ++ zs)
def ifsM (f : Expr → M Bool) : List Expr → M Bool
  | [] => ret true
  | [e] => f e
  | _ => stuck

/-! ### methods -/
mutual
def closedD : D → Bool
  | .ref _ => false
  | .tup xs => closedL xs
  | .lst xs => closedL xs
  | .set xs => closedL xs
  | .dct kvs => closedK kvs
  | _ => true
def closedL : List D → Bool
  | [] => true
  | x :: xs => closedD x && closedL xs
def closedK : List (D × D) → Bool
  | [] => true
  | (a, b) :: xs => closedD a && closedD b && closedK xs
end
/-- may a value be stored in the object n -/
def mayHold (base n : Nat) (d : D) : Bool := decide (base ≤ n) || closedD d
def setIx (xs : List D) (i : Int) (d : D) : Option (List D) := (L2.ixN xs.length i).map fun j => xs.set j d
def putM (base : Nat) (o i v : D) : M Unit := fun S => match o with
  | .ref n => (match S[n]? with
    | some (.lst xs) => (match i with
      | .int j => (match setIx xs j v with
        | some ys => if mayHold base n v then .ok () (S.set n (.lst ys)) else .no
        | none => .no)
      | _ => .no)
    | some (.dct kvs) => if keyOk i && mayHold base n v && decide (kvs.length < line) then .ok () (S.set n (.dct (putK kvs i v))) else .no
    | _ => .no)
  | _ => .no
def appM (base : Nat) (o v : D) : M D := fun S => match o with
  | .ref n => (match S[n]? with
    | some (.lst xs) => if mayHold base n v && decide (xs.length < line) then .ok .non (S.set n (.lst (xs ++ [v]))) else .no
    | _ => .no)
  | _ => .no
def extM (base : Nat) (o v : D) : M D := fun S => match o with
  | .ref n => (match S[n]?, v with
    | some (.lst xs), .lst ys => if closedL ys && decide (xs.length + ys.length ≤ line) then .ok o (S.set n (.lst (xs ++ ys))) else .no
    | _, _ => .no)
  | _ => .no
def popM (o : D) : M D := fun S => match o with
  | .ref n => (match S[n]? with
    | some (.lst xs) => (match xs[xs.length - 1]? with
      | some x => .ok x (S.set n (.lst xs.dropLast))
      | none => .no)
    | _ => .no)
  | _ => .no
def meD (m : Str) : D → List D → Option D
  | .dct kvs, [k] => if seq m "get" && keyOk k then some ((getK kvs k).getD .non) else none
  | .dct kvs, [k, x] => if seq m "get" && keyOk k then some ((getK kvs k).getD x) else none
  | _, _ => none
/-- what a method wants of its object, ahead of the arguments -/
def lstM (d : D) : M Unit := fun S => match d with
  | .ref n => (match S[n]? with
    | some (.lst _) => .ok () S
    | _ => .no)
  | _ => .no
def dctM (d : D) : M Unit := fun S => match view S d with
  | .dct _ => .ok () S
  | _ => .no
def preM (m : Str) (n : Nat) (d : D) : M Unit :=
  if seq m "append" && n == 1 || seq m "pop" && n == 0 then lstM d
  else if seq m "get" && (n == 1 || n == 2) then dctM d
  else stuck
def getM (d : D) (args : List D) : M D := viewed d fun d => ofOp (meD "get" d args)
def meM (c : Cfg) (m : Str) (d : D) (args : List D) : M D :=
  if seq m "append" then (match args with
    | [x] => appM c.base d x
    | _ => stuck)
  else if seq m "pop" then (match args with
    | [] => popM d
    | _ => stuck)
  else if seq m "get" then getM d args
  else stuck

/-! ### expressions -/
def compOk (N : List Str) (sc scope : Scope) (gens : List Comprehension) : Bool :=
  L2.blkC N sc scope (ownOf N scope) && gens.all fun g => decide (g.is_async = 0) && !isSetE g.iter && (tgIx N 4 g.target).all fun i => decide (i ∈ (ownOf N scope).map (·.2))
/-- one clause, its items gone through -/
def clauseM {β : Type} (c : Cfg) (T : Env → Expr → M Bool) (blk : Scope) (g : Comprehension) (s : Src) (ρ : Env) (k : Env → M (List β)) : M (List β) :=
  compLoop (guardM s.refs) (fun x => onB (bindT c.N blk 4 g.target x ρ) fun ρ' => bnd (ifsM (T ρ') g.ifs) fun b => if b then k ρ' else ret []) s.items
def compM {β : Type} (c : Cfg) (E : Scope → Env → Expr → M D) (T : Scope → Env → Expr → M Bool) (sc : Scope) (ρ : Env) (scope : Scope) (gens : List Comprehension) (elt : Scope → Env → M β) : M (List β) :=
  if compOk c.N sc scope gens then (match gens with
    | [g] => bnd (iterM c sc (E sc ρ) g.target g.iter) fun s =>
        clauseM c (T (L2.relS scope sc)) scope g s (wipe ρ ((ownOf c.N scope).map (·.2))) fun ρ' => bnd (elt (L2.relS scope sc) ρ') fun y => ret [y]
    | [g, h] => bnd (iterM c sc (E sc ρ) g.target g.iter) fun s =>
        clauseM c (T (L2.relS scope sc)) scope g s (wipe ρ ((ownOf c.N scope).map (·.2))) fun ρ' =>
          bnd (iterM c (L2.relS scope sc) (E (L2.relS scope sc) ρ') h.target h.iter) fun s2 =>
            clauseM c (T (L2.relS scope sc)) scope h s2 (wipe ρ' (tgIx c.N 4 h.target)) fun ρ2 => bnd (elt (L2.relS scope sc) ρ2) fun y => ret [y]
    | _ => stuck)
  else stuck
def isNoCall : Expr → Bool
  | .Call _ [] [] _ => false
  | _ => true
def evPairs (f : Expr → M D) : List (Option Expr) → List Expr → M (List (D × D))
  | [], [] => ret []
  | some k :: ks, v :: vs => bnd (f k) fun x => bnd (f v) fun y => bnd (evPairs f ks vs) fun r => ret ((x, y) :: r)
  | _, _ => stuck
def evCall (c : Cfg) (E : Expr → M D) (sc : Scope) (ρ : Env) (f : Str) (args : List Expr) (q : Pos) : M D :=
  if args.any isStar then stuck
  else if glo sc f then
    (match c.G.fns.lookup f with
    | some _ => bnd (evList E args) (c.cal (c.G.isMut q) f)
    | none => if c.G.blt f then
      (if seq f "isinstance" then (match args with
        | [a, .Name t _] => if glo sc t && c.G.blt t then bnd (E a) fun d => viewed d fun d => ofOp ((isaD t d).map .bl) else stuck
        | _ => stuck)
      else bnd (evList E args) (biM c.G q f))
      else stuck)
  else stuck
mutual
def ev (c : Cfg) : Nat → Scope → Env → Expr → M D
  | 0, _, _, _ => stuck
  | n + 1, sc, ρ, e => match e with
    | .Constant (.int i) _ _ => ret (.int i)
    | .Constant (.str x) _ _ => ret (.str x)
    | .Constant (.bool b) _ _ => ret (.bl b)
    | .Constant .none _ _ => ret .non
    | .Name x _ => evName c sc ρ x
    | .BoolOp op es _ => evBool op (ev c n sc ρ) es
    | .BinOp a op b p => bnd (ev c n sc ρ a) fun x => bnd (ev c n sc ρ b) fun y => binM c.G op p x y
    | .UnaryOp .USub a _ => bnd (ev c n sc ρ a) negM
    | .UnaryOp .Not a _ => bnd (ev c n sc ρ a) fun d => bnd (truM d) fun b => ret (.bl !b)
    | .IfExp t a b _ => bnd (evT c n sc ρ t) fun k => if k then ev c n sc ρ a else ev c n sc ρ b
    | .Dict ks vs p => if ks.length == vs.length && decide (ks.length ≤ 15) && ks.all (·.isSome) then bnd (evPairs (ev c n sc ρ) ks vs) fun ps => if ps.all fun kv => keyOk kv.1 then fresh (c.G.isMut p) (.dct (putAll [] ps)) else stuck else stuck
    | .List es p => if decide (es.length ≤ 1000) && !es.any isStar then bnd (evList (ev c n sc ρ) es) fun xs => fresh (c.G.isMut p) (.lst xs) else stuck
    | .Tuple es _ _ => if decide (es.length ≤ 1000) && !es.any isStar then bnd (evList (ev c n sc ρ) es) fun xs => ret (.tup xs) else stuck
    | .ListComp elt gens scope p => bnd (compM c (ev c n) (evT c n) sc ρ scope gens fun blk ρ' => ev c n blk ρ' elt) fun xs =>
        if xs.length ≤ line then fresh (c.G.isMut p) (.lst xs) else stuck
    | .Compare a ops es _ => bnd (ev c n sc ρ a) fun x => bnd (evCmp (ev c n sc ρ) x ops es) fun b => ret (.bl b)
    | .Call (.Name f _) args [] q => evCall c (ev c n sc ρ) sc ρ f args q
    | .Call (.Attribute o m ap) args [] q =>
      if ap.endLine == q.line && isNoCall o && decide (args.length < 5) && !args.any isStar then bnd (ev c n sc ρ o) fun d => bnd (preM m args.length d) fun _ => bnd (evList (ev c n sc ρ) args) fun xs => meM c m d xs else stuck
    | .Subscript a (.Slice none none (some (.UnaryOp .USub (.Constant (.int 1) _ _) _)) _) p => bnd (ev c n sc ρ a) fun x => viewed x fun x => newM c.G p (revD x)
    | .Subscript a (.Slice lo hi none _) p => bnd (ev c n sc ρ a) fun x => bnd (partM (ev c n sc ρ) lo) fun l => bnd (partM (ev c n sc ρ) hi) fun h => viewed x fun x => newM c.G p (cutD l h x)
    | .Subscript a i _ => if isSlice i then stuck else bnd (ev c n sc ρ a) fun x => bnd (ev c n sc ρ i) fun y => itemM x y
    | _ => stuck
def evT (c : Cfg) : Nat → Scope → Env → Expr → M Bool
  | 0, _, _, _ => stuck
  | n + 1, sc, ρ, e => match e with
    | .BoolOp op es _ => teBool op (evT c n sc ρ) es
    | .UnaryOp .Not a _ => bnd (evT c n sc ρ a) fun b => ret !b
    | .IfExp _ _ _ _ => stuck
    | .Compare a ops es _ => bnd (ev c n sc ρ a) fun x => evCmp (ev c n sc ρ) x ops es
    | e => bnd (ev c n sc ρ e) truM
end

/-! ### statements -/
inductive Fl where
  | nx (ρ : Env) | rt (d : D)
def execs (f : Stmt → Env → M Fl) : List Stmt → Env → M Fl
  | [], ρ => ret (.nx ρ)
  | s :: ss, ρ => bnd (f s ρ) fun o => match o with
    | .nx ρ' => execs f ss ρ'
    | .rt d => ret (.rt d)
def forLoop (g : M Unit) (body : D → Env → M Fl) : List D → Env → M Fl
  | [], ρ => bnd g fun _ => ret (.nx ρ)
  | x :: xs, ρ => bnd g fun _ => bnd (body x ρ) fun o => match o with
    | .nx ρ' => forLoop g body xs ρ'
    | .rt d => ret (.rt d)
def whileLoop (t : Env → M Bool) (body : Env → M Fl) : Nat → Env → M Fl
  | 0, _ => stuck
  | n + 1, ρ => bnd (t ρ) fun b => if b then (bnd (body ρ) fun o => match o with
    | .nx ρ' => whileLoop t body n ρ'
    | .rt d => ret (.rt d)) else ret (.nx ρ)
/-- the stores of a, b = x, y: what the model asks of them -/
def swapped (sc : Scope) (ts vs : List Expr) : Option (Option (List Str)) :=
  if !(ts.length == 2 || ts.length == 3) || vs.length != ts.length then some none
  else if vs.any fun | .Starred .. => true | _ => false then some none
  else if (ts.filterMap fun
      | .Name id pos => if sc.names.lookup id == some .local && pos.line == (ts.head?.map (·.pos.line)).getD 0 then some id else none
      | _ => none).length != ts.length || (ts.filterMap fun
      | .Name id pos => if sc.names.lookup id == some .local && pos.line == (ts.head?.map (·.pos.line)).getD 0 then some id else none
      | _ => none).eraseDups.length != (ts.filterMap fun
      | .Name id pos => if sc.names.lookup id == some .local && pos.line == (ts.head?.map (·.pos.line)).getD 0 then some id else none
      | _ => none).length then some none
  else if vs.all (foldedForSure 8) then some none
  else if vs.all (constantsAlone 8) then none
  else some (some (ts.filterMap fun
      | .Name id pos => if sc.names.lookup id == some .local && pos.line == (ts.head?.map (·.pos.line)).getD 0 then some id else none
      | _ => none))
/-- two or three names that take values from the right -/
def parOk (N : List Str) (sc : Scope) (ts vs : List Expr) (names : List Str) : Bool := match ts, vs, names with
  | [.Name x _, .Name y _], [_, _], [x', y'] => seq x x' && seq y y' && decide (sc.names.lookup x = some .local) && decide (sc.names.lookup y = some .local) && (slot N x).isSome && (slot N y).isSome && decide (slot N x ≠ slot N y)
  | [.Name x _, .Name y _, .Name z _], [_, _, _], [x', y', z'] => seq x x' && seq y y' && seq z z' && decide (sc.names.lookup x = some .local) && decide (sc.names.lookup y = some .local) && decide (sc.names.lookup z = some .local) && (slot N x).isSome && (slot N y).isSome && (slot N z).isSome && decide (slot N x ≠ slot N y) && decide (slot N x ≠ slot N z) && decide (slot N y ≠ slot N z)
  | _, _, _ => false
def isComp : Expr → Bool
  | .ListComp .. | .SetComp .. | .DictComp .. => true
  | _ => false
def assignM (N : List Str) (sc : Scope) (tg : Expr) (d : D) (ρ : Env) : M Fl := match bindT N sc 4 tg d ρ with
  | some ρ' => ret (.nx ρ')
  | none => stuck
def augM (c : Cfg) (op : Operator) (old v : D) : M D := match op, old, v with
  | .Add, .int i, .int j => ret (.int (i + j))
  | .Sub, .int i, .int j => ret (.int (i - j))
  | .Add, .ref n, v => viewed v fun v => extM c.base (.ref n) v
  | _, _, _ => stuck
/-- a name's one comprehension on its line: its store comes ahead of the block's end -/
def swaps (sc : Scope) (x : Str) (p : Pos) : Expr → Bool
  | .ListComp _ _ scope pos => sc.names.lookup x == some .local && p.line == pos.line && !(scope.names.any fun (n, k) => n == x && (k == .local || k == .cell))
  | _ => false
def isListComp : Expr → Bool
  | .ListComp .. => true
  | _ => false
def exec (c : Cfg) : Nat → Scope → Stmt → Env → M Fl
  | 0, _, _, _ => stuck
  | n + 1, sc, st, ρ => match st with
    | .Expr e _ => if isComp e then stuck else bnd (ev c n sc ρ e) fun _ => ret (.nx ρ)
    | .Return (some e) _ => bnd (ev c n sc ρ e) fun d => ret (.rt d)
    | .Return none _ => ret (.rt .non)
    | .Pass _ => ret (.nx ρ)
    | .If t a b _ => bnd (evT c n sc ρ t) fun k => if k then execs (exec c n sc) a ρ else execs (exec c n sc) b ρ
    | .Assign [.Name x p] e _ => if isComp e && !isListComp e then stuck else bnd (ev c n sc ρ e) fun d => assignM c.N sc (.Name x p) d ρ
    | .Assign [.Tuple ts k p] (.Tuple vs k2 p2) _ => (match swapped sc ts vs with
      | none => stuck
      | some none => bnd (ev c n sc ρ (.Tuple vs k2 p2)) fun d => assignM c.N sc (.Tuple ts k p) d ρ
      | some (some names) => if parOk c.N sc ts vs names && !vs.any isStar then bnd (evList (ev c n sc ρ) vs) fun ds => assignM c.N sc (.Tuple ts k p) (.tup ds) ρ else stuck)
    | .Assign [.Tuple ts k p] e _ => if isComp e then stuck else bnd (ev c n sc ρ e) fun d => assignM c.N sc (.Tuple ts k p) d ρ
    | .Assign [.Subscript o i _] e _ => if isComp e || isSlice i then stuck else bnd (ev c n sc ρ e) fun v => bnd (ev c n sc ρ o) fun x => bnd (ev c n sc ρ i) fun y => bnd (putM c.base x y v) fun _ => ret (.nx ρ)
    | .AugAssign (.Name x p) op e _ => (match slot c.N x, sc.names.lookup x with
      | some i, some .local => bnd (getv ρ i) fun old => bnd (ev c n sc ρ e) fun v => bnd (augM c op old v) fun d => ret (.nx (ρ.set i (some d)))
      | some i, some .cell => bnd (getv ρ i) fun old => bnd (ev c n sc ρ e) fun v => bnd (augM c op old v) fun d => ret (.nx (ρ.set i (some d)))
      | _, _ => stuck)
    | .For tg it body [] _ => if isSetE it then stuck else bnd (iterM c sc (ev c n sc ρ) tg it) fun s =>
        forLoop (guardM s.refs) (fun x ρ1 => onB (bindT c.N sc 4 tg x ρ1) fun ρ2 => execs (exec c n sc) body ρ2) s.items ρ
    | .While t body [] _ => whileLoop (fun ρ1 => evT c n sc ρ1 t) (fun ρ1 => execs (exec c n sc) body ρ1) c.fuel ρ
    | _ => stuck

/-! ### defs -/
mutual
def frzD (S : Sto) (m : Nat) : D → Option D
  | .ref n => if n < m then some (.ref n) else (match S[n]? with
    | some (.lst xs) => if closedL xs then some (.lst xs) else none
    | some (.dct kvs) => if closedK kvs then some (.dct kvs) else none
    | _ => none)
  | .tup xs => (frzL S m xs).map .tup
  | .lst xs => (frzL S m xs).map .lst
  | .dct kvs => if closedK kvs then some (.dct kvs) else none
  | .set xs => if closedL xs then some (.set xs) else none
  | .non => some .non
  | .bl b => some (.bl b)
  | .int i => some (.int i)
  | .str x => some (.str x)
  | .fn x => some (.fn x)
def frzL (S : Sto) (m : Nat) : List D → Option (List D)
  | [] => some []
  | x :: xs => match frzD S m x, frzL S m xs with
    | some y, some ys => some (y :: ys)
    | _, _ => none
end
/-- a def's end: what it made stays as data, or (keep) the one object that it hands back stays an object -/
def leave (keep : Bool) (m : Nat) (d : D) : M D := fun S => if keep then (match d with
    | .ref n => if n < m then .no else (match S[n]? with
      | some (.lst xs) => if closedL xs then .ok (.ref m) (S.take m ++ [.lst xs]) else .no
      | some (.dct kvs) => if closedK kvs then .ok (.ref m) (S.take m ++ [.dct kvs]) else .no
      | _ => .no)
    | _ => .no)
  else match frzD S m d with
  | some d' => .ok d' (S.take m)
  | none => .no
def start (N : List Str) (ds : List D) : Env := ds.map some ++ List.replicate (N.length - ds.length) none
def callF (G : Gl) (fuel : Nat) : Nat → Bool → Str → List D → M D
  | 0, _, _, _ => stuck
  | k + 1, keep, f, ds => match G.fns.lookup f with
    | none => stuck
    | some fd => if ds.length == fd.ps.length then fun S =>
        bnd (execs (exec ⟨G, callF G fuel k, fd.N, S.length, fuel⟩ 40 fd.sc) fd.body (start fd.N ds)) (fun o => match o with
          | .nx _ => leave keep S.length .non
          | .rt d => leave keep S.length d) S
      else stuck
end Ly

/-! Ly: what a value of the heap says of data (Rep), the world (what is data for good, where the store's objects stand), what stands at all times (Wok). -/
set_option autoImplicit false
set_option linter.all false
set_option maxRecDepth 100000
namespace Ly
open PySem PySem.Spec PyProof.Rows L2

/-- the entries of the dict at a, as an abstract heap tells them: keys and values; hs: the hashes told -/
inductive DicAt (w : World) (a : Addr) : HO → List (V × V) → List D → Prop
  | flat {kvs : List (Key × V)} {ks : List D} : ks = kvs.map (fun kv => match kv.1 with
      | .inl i => D.int i
      | .inr x => D.str x) → DicAt w a (.dK kvs) (kvs.map fun kv => (kV kv.1, kv.2)) ks

/-- F: what is data for good; ρ: where the store's objects stand; P: what is being built -/
structure Wd where
  F : Hp
  ρ : List Addr
  P : List (Addr × HO)
structure LeF (W W' : Wd) : Prop where
  F : ∀ a o, W.F a = some o → W'.F a = some o
  ρ : ∃ more, W'.ρ = W.ρ ++ more
structure Le (W W' : Wd) : Prop where
  toF : LeF W W'
  P : W'.P = W.P
theorem LeF.trans {W W1 W2 : Wd} (a : LeF W W1) (b : LeF W1 W2) : LeF W W2 := ⟨fun x o h => b.F x o (a.F x o h), by
  obtain ⟨m, e⟩ := a.ρ
  obtain ⟨m', e'⟩ := b.ρ
  exact ⟨m ++ m', by rw [e', e, List.append_assoc]⟩⟩
theorem Le.refl (W : Wd) : Le W W := ⟨⟨fun _ _ h => h, [], by simp⟩, rfl⟩
theorem Le.trans {W W1 W2 : Wd} (a : Le W W1) (b : Le W1 W2) : Le W W2 := ⟨a.toF.trans b.toF, b.P.trans a.P⟩
theorem LeF.at {W W' : Wd} (l : LeF W W') {n : Nat} {a : Addr} (h : W.ρ[n]? = some a) : W'.ρ[n]? = some a := by
  obtain ⟨m, e⟩ := l.ρ
  rw [e, List.getElem?_append_left (List.getElem?_eq_some_iff.mp h).1]
  exact h

/-- module facts that data lean on -/
structure Md where
  w : World
  K : PySem.W.Frag
  mg : Str → Option Value

mutual
inductive Rep (μ : Md) (W : Wd) : V → D → Prop
  | non : Rep μ W .non .non
  | bl (b : Bool) : Rep μ W (.bl b) (.bl b)
  | int (i : Int) : Rep μ W (.int i) (.int i)
  | str (x : Str) : Rep μ W (.str x) (.str x)
  | tup {a : Addr} {vs : List V} {ds : List D} : SqT μ.K W.F a vs → RepL μ W vs ds → Rep μ W (.ref a) (.tup ds)
  | lst {a : Addr} {vs : List V} {ds : List D} : W.F a = some (.lst vs) → RepL μ W vs ds → Rep μ W (.ref a) (.lst ds)
  | dct {a : Addr} {o : HO} {ps : List (V × V)} {kvs : List (D × D)} : W.F a = some o → DicAt μ.w a o ps (kvs.map (·.1)) → RepK μ W ps kvs → Rep μ W (.ref a) (.dct kvs)
  | ref {n : Nat} {a : Addr} : W.ρ[n]? = some a → Rep μ W (.ref a) (.ref n)
  | fn {x : Str} {f : Addr} : μ.mg x = some (.ref f) → Rep μ W (.ref f) (.fn x)
  /-- the law's script -/
  | scr {a : Addr} {vs : List V} {ds : List D} : SqL μ.K W.F a vs → RepL μ W vs ds → Rep μ W (.ref a) (.set ds)
inductive RepL (μ : Md) (W : Wd) : List V → List D → Prop
  | nil : RepL μ W [] []
  | cons {v : V} {vs : List V} {d : D} {ds : List D} : Rep μ W v d → RepL μ W vs ds → RepL μ W (v :: vs) (d :: ds)
inductive RepK (μ : Md) (W : Wd) : List (V × V) → List (D × D) → Prop
  | nil : RepK μ W [] []
  | cons {v u : V} {ps : List (V × V)} {d e : D} {kvs : List (D × D)} : Rep μ W v d → Rep μ W u e → RepK μ W ps kvs → RepK μ W ((v, u) :: ps) ((d, e) :: kvs)
end

theorem sqT_le {K : PySem.W.Frag} {W W' : Wd} (l : LeF W W') {a : Addr} {xs : List V} (h : SqT K W.F a xs) : SqT K W'.F a xs := by
  rcases h with (h | ⟨o, h⟩) | h
  · exact .inl (.inl (l.F _ _ h))
  · exact .inl (.inr ⟨o, l.F _ _ h⟩)
  · exact .inr h
theorem sqL_le {K : PySem.W.Frag} {W W' : Wd} (l : LeF W W') {a : Addr} {xs : List V} (h : SqL K W.F a xs) : SqL K W'.F a xs := by
  rcases h with (h | ⟨o, h⟩) | h
  · exact .inl (.inl (l.F _ _ h))
  · exact .inl (.inr ⟨o, l.F _ _ h⟩)
  · exact .inr h

mutual
theorem Rep.le {μ : Md} {W W' : Wd} (l : LeF W W') : ∀ {v : V} {d : D}, Rep μ W v d → Rep μ W' v d
  | _, _, .non => .non
  | _, _, .bl b => .bl b
  | _, _, .int i => .int i
  | _, _, .str x => .str x
  | _, _, .tup h r => .tup (sqT_le l h) (RepL.le l r)
  | _, _, .lst h r => .lst (l.F _ _ h) (RepL.le l r)
  | _, _, .dct h q r => .dct (l.F _ _ h) q (RepK.le l r)
  | _, _, .ref h => .ref (l.at h)
  | _, _, .fn h => .fn h
  | _, _, .scr h r => .scr (sqL_le l h) (RepL.le l r)
theorem RepL.le {μ : Md} {W W' : Wd} (l : LeF W W') : ∀ {vs : List V} {ds : List D}, RepL μ W vs ds → RepL μ W' vs ds
  | _, _, .nil => .nil
  | _, _, .cons h r => .cons (Rep.le l h) (RepL.le l r)
theorem RepK.le {μ : Md} {W W' : Wd} (l : LeF W W') : ∀ {ps : List (V × V)} {kvs : List (D × D)}, RepK μ W ps kvs → RepK μ W' ps kvs
  | _, _, .nil => .nil
  | _, _, .cons h g r => .cons (Rep.le l h) (Rep.le l g) (RepK.le l r)
end
theorem RepL.length {μ : Md} {W : Wd} : ∀ {vs : List V} {ds : List D}, RepL μ W vs ds → vs.length = ds.length
  | _, _, .nil => rfl
  | _, _, .cons _ r => by rw [List.length_cons, List.length_cons, RepL.length r]
theorem RepL.append {μ : Md} {W : Wd} : ∀ {vs us : List V} {ds es : List D}, RepL μ W vs ds → RepL μ W us es → RepL μ W (vs ++ us) (ds ++ es)
  | _, _, _, _, .nil, h => h
  | _, _, _, _, .cons h r, g => .cons h (RepL.append r g)
theorem RepL.get {μ : Md} {W : Wd} : ∀ {vs : List V} {ds : List D} {i : Nat} {d : D}, RepL μ W vs ds → ds[i]? = some d → ∃ v, vs[i]? = some v ∧ Rep μ W v d
  | _, _, _, _, .nil, h => by simp at h
  | _, _, 0, _, .cons h _, e => by
    simp only [List.getElem?_cons_zero, Option.some.injEq] at e
    subst e
    exact ⟨_, rfl, h⟩
  | _, _, i + 1, d, .cons _ r, e => by
    simp only [List.getElem?_cons_succ] at e
    obtain ⟨v, h1, h2⟩ := RepL.get r e
    exact ⟨v, by simpa using h1, h2⟩
theorem RepL.getV {μ : Md} {W : Wd} : ∀ {vs : List V} {ds : List D} {i : Nat} {v : V}, RepL μ W vs ds → vs[i]? = some v → ∃ d, ds[i]? = some d ∧ Rep μ W v d
  | _, _, _, _, .nil, h => by simp at h
  | _, _, 0, _, .cons h _, e => by
    simp only [List.getElem?_cons_zero, Option.some.injEq] at e
    subst e
    exact ⟨_, rfl, h⟩
  | _, _, i + 1, d, .cons _ r, e => by
    simp only [List.getElem?_cons_succ] at e
    obtain ⟨v, h1, h2⟩ := RepL.getV r e
    exact ⟨v, by simpa using h1, h2⟩
theorem RepL.take {μ : Md} {W : Wd} : ∀ {vs : List V} {ds : List D} (n : Nat), RepL μ W vs ds → RepL μ W (vs.take n) (ds.take n)
  | _, _, 0, _ => .nil
  | _, _, _ + 1, .nil => .nil
  | _, _, n + 1, .cons h r => .cons h (RepL.take n r)
theorem RepL.drop {μ : Md} {W : Wd} : ∀ {vs : List V} {ds : List D} (n : Nat), RepL μ W vs ds → RepL μ W (vs.drop n) (ds.drop n)
  | _, _, 0, h => h
  | _, _, _ + 1, .nil => .nil
  | _, _, n + 1, .cons _ r => RepL.drop n r
theorem RepL.reverse {μ : Md} {W : Wd} : ∀ {vs : List V} {ds : List D}, RepL μ W vs ds → RepL μ W vs.reverse ds.reverse
  | _, _, .nil => .nil
  | _, _, .cons h r => by
    rw [List.reverse_cons, List.reverse_cons]
    exact RepL.append (RepL.reverse r) (.cons h .nil)
theorem RepL.set {μ : Md} {W : Wd} {v : V} {d : D} (h : Rep μ W v d) : ∀ {vs : List V} {ds : List D} (i : Nat), RepL μ W vs ds → RepL μ W (vs.set i v) (ds.set i d)
  | _, _, _, .nil => .nil
  | _, _, 0, .cons _ r => .cons h r
  | _, _, i + 1, .cons g r => .cons g (RepL.set h i r)
theorem RepL.flatten {μ : Md} {W : Wd} {vs : List V} {ds : List D} (h : RepL μ W vs ds) : ∀ n : Nat, RepL μ W (List.replicate n vs).flatten (List.replicate n ds).flatten
  | 0 => .nil
  | n + 1 => by
    rw [List.replicate_succ, List.replicate_succ, List.flatten_cons, List.flatten_cons]
    exact RepL.append h (RepL.flatten h n)
theorem RepL.ofInts {μ : Md} {W : Wd} : ∀ {vs : List V} {ds : List D} {ns : List Int}, RepL μ W vs ds → intsD ds = some ns → vs = ns.map V.int
  | _, _, ns, .nil, e => by
    have e : some [] = some ns := e
    cases e
    rfl
  | _, _, ns, .cons (d := d) (ds := ds) h r, e => by
    cases h with
    | int i =>
      unfold intsD at e
      cases q : intsD ds with
      | none => rw [q] at e; cases e
      | some ms =>
        rw [q] at e
        cases e
        rw [List.map_cons, RepL.ofInts r q]
    | _ => cases e
theorem RepL.ofBools {μ : Md} {W : Wd} : ∀ {vs : List V} {ds : List D} {ns : List Bool}, RepL μ W vs ds → boolsD ds = some ns → vs = ns.map V.bl
  | _, _, ns, .nil, e => by
    have e : some [] = some ns := e
    cases e
    rfl
  | _, _, ns, .cons (d := d) (ds := ds) h r, e => by
    cases h with
    | bl i =>
      unfold boolsD at e
      cases q : boolsD ds with
      | none => rw [q] at e; cases e
      | some ms =>
        rw [q] at e
        cases e
        rw [List.map_cons, RepL.ofBools r q]
    | _ => cases e
theorem RepK.length {μ : Md} {W : Wd} : ∀ {ps : List (V × V)} {kvs : List (D × D)}, RepK μ W ps kvs → ps.length = kvs.length
  | _, _, .nil => rfl
  | _, _, .cons _ _ r => by rw [List.length_cons, List.length_cons, RepK.length r]
end Ly

/-! Ly: what stands at all times: the abstract heap and the store; new things; the reading of an expression by the evaluator (TD). -/
set_option autoImplicit false
set_option linter.all false
set_option maxRecDepth 100000
namespace Ly
open PySem PySem.Spec PyProof.Rows L2

/-! refs of a value lie below m -/
mutual
def belowD (m : Nat) : D → Prop
  | .ref n => n < m
  | .tup xs => belowL m xs
  | .lst xs => belowL m xs
  | .set xs => belowL m xs
  | .dct kvs => belowK m kvs
  | .non => True
  | .bl _ => True
  | .int _ => True
  | .str _ => True
  | .fn _ => True
def belowL (m : Nat) : List D → Prop
  | [] => True
  | x :: xs => belowD m x ∧ belowL m xs
def belowK (m : Nat) : List (D × D) → Prop
  | [] => True
  | (a, b) :: xs => belowD m a ∧ belowD m b ∧ belowK m xs
end
def belowM (m : Nat) : MO → Prop
  | .lst xs => belowL m xs
  | .dct kvs => belowK m kvs
  | .lck kvs => belowK m kvs

/-- the entries of a dict that stands as o -/
def DicM (μ : Md) (W : Wd) (a : Addr) (o : HO) (kvs : List (D × D)) : Prop := ∃ ps, DicAt μ.w a o ps (kvs.map (·.1)) ∧ RepK μ W ps kvs
def MRep (μ : Md) (W : Wd) (H : Hp) (a : Addr) : MO → Prop
  | .lst xs => ∃ vs, H a = some (.lst vs) ∧ RepL μ W vs xs
  | .dct kvs => ∃ o, H a = some o ∧ DicM μ W a o kvs
  | .lck kvs => ∃ ob o, H a = some (.frz ob o) ∧ DicM μ W a o kvs
structure Wok (μ : Md) (B : List Nat) (W : Wd) (H : Hp) (S : Sto) : Prop where
  frz : ∀ a o, W.F a = some o → Rd H a o
  nofrz : ∀ a ob o, W.F a ≠ some (.frz ob o)
  len : W.ρ.length = S.length
  obj : ∀ (n : Nat) (a : Addr) (mo : MO), W.ρ[n]? = some a → S[n]? = some mo → MRep μ W H a mo
  apart : ∀ (n : Nat) (a : Addr), W.ρ[n]? = some a → W.F a = none
  inj : W.ρ.Nodup
  pend : ∀ p o, (p, o) ∈ W.P → H p = some o ∧ W.F p = none ∧ p ∉ W.ρ
  pnd : (W.P.map (·.1)).Nodup
  below : ∀ m ∈ B, m ≤ S.length ∧ ∀ (i : Nat) (mo : MO), i < m → S[i]? = some mo → belowM m mo

/-- the frame's names -/
structure EnvR (μ : Md) (W : Wd) (σ : L2.St) (ρ : Env) : Prop where
  len : ρ.length = σ.length
  at' : ∀ (i : Nat) (d : D), ρ[i]? = some (some d) → ∃ v, σ[i]? = some (some v) ∧ Rep μ W v d
theorem EnvR.le {μ : Md} {W W' : Wd} {σ : L2.St} {ρ : Env} (h : EnvR μ W σ ρ) (l : LeF W W') : EnvR μ W' σ ρ := ⟨h.len, fun i d e => by
  obtain ⟨v, h1, h2⟩ := h.at' i d e
  exact ⟨v, h1, h2.le l⟩⟩
theorem EnvR.set {μ : Md} {W : Wd} {σ : L2.St} {ρ : Env} {v : V} {d : D} (h : EnvR μ W σ ρ) (r : Rep μ W v d) (i : Nat) : EnvR μ W (σ.set i (some v)) (ρ.set i (some d)) := by
  refine ⟨by rw [List.length_set, List.length_set, h.len], fun j e hj => ?_⟩
  by_cases hij : i = j
  · subst hij
    by_cases hl : i < ρ.length
    · rw [List.getElem?_set_self hl] at hj
      cases hj
      exact ⟨v, by rw [List.getElem?_set_self (by rw [← h.len]; exact hl)], r⟩
    · rw [List.getElem?_eq_none (by rw [List.length_set]; omega)] at hj
      cases hj
  · rw [List.getElem?_set_ne hij] at hj
    obtain ⟨u, h1, h2⟩ := h.at' j e hj
    exact ⟨u, by rw [List.getElem?_set_ne hij]; exact h1, h2⟩
theorem wipe_at {ρ : Env} {i : Nat} {d : D} : ∀ {vs : List Nat}, (Ly.wipe ρ vs)[i]? = some (some d) → ρ[i]? = some (some d) ∧ i ∉ vs
  | [], h => ⟨h, by simp⟩
  | v :: vs, h => by
    unfold Ly.wipe at h
    by_cases hi : v = i
    · subst hi
      by_cases hv : v < (Ly.wipe ρ vs).length
      · rw [List.getElem?_set_self hv] at h; cases h
      · rw [List.getElem?_eq_none (by simpa using hv)] at h; cases h
    · rw [List.getElem?_set_ne hi] at h
      obtain ⟨h1, h2⟩ := wipe_at h
      exact ⟨h1, by simp only [List.mem_cons, not_or]; exact ⟨fun e => hi e.symm, h2⟩⟩
theorem wipe_len (ρ : Env) : ∀ vs : List Nat, (Ly.wipe ρ vs).length = ρ.length
  | [] => rfl
  | v :: vs => by unfold Ly.wipe; rw [List.length_set, wipe_len ρ vs]
theorem wipe_keep {σ : L2.St} {i : Nat} {x : Option V} : ∀ {vs : List Nat}, i ∉ vs → (L2.wipe σ vs)[i]? = σ[i]?
  | [], _ => rfl
  | v :: vs, h => by
    unfold L2.wipe
    rw [List.getElem?_set_ne (fun e => h (by rw [e]; exact List.mem_cons_self)), wipe_keep (x := x) fun z => h (List.mem_cons_of_mem _ z)]
theorem EnvR.wipe {μ : Md} {W : Wd} {σ : L2.St} {ρ : Env} (h : EnvR μ W σ ρ) (vs : List Nat) : EnvR μ W (L2.wipe σ vs) (Ly.wipe ρ vs) := by
  refine ⟨by rw [wipe_len, L2.wipe_length, h.len], fun i d e => ?_⟩
  obtain ⟨e1, e2⟩ := wipe_at e
  obtain ⟨v, h1, h2⟩ := h.at' i d e1
  exact ⟨v, by rw [wipe_keep (x := none) e2]; exact h1, h2⟩

section
variable {μ : Md} {B : List Nat} {W W' : Wd} {H H' : Hp} {S : Sto} {a p : Addr} {o : HO}
theorem rd_upd (h : Rd H a o) {u : HO} (n : H p = none) : Rd (upd H p u) a o := by
  rcases h with h | ⟨ob, h⟩
  · exact .inl (by rw [upd_ne (ne_of_none h n)]; exact h)
  · exact .inr ⟨ob, by rw [upd_ne (ne_of_none h n)]; exact h⟩
theorem Wok.newF (k : Wok μ B W H S) (n : H p = none) : W.F p = none := by
  cases q : W.F p with
  | none => rfl
  | some u =>
    rcases k.frz p u q with h | ⟨_, h⟩ <;> rw [n] at h <;> cases h
theorem MRep.at {mo : MO} (h : MRep μ W H a mo) : ∃ o, H a = some o := by
  cases mo with
  | lst xs => obtain ⟨vs, h, _⟩ := h; exact ⟨_, h⟩
  | dct kvs => obtain ⟨o, h, _⟩ := h; exact ⟨_, h⟩
  | lck kvs => obtain ⟨_, _, h, _⟩ := h; exact ⟨_, h⟩
theorem Wok.there (k : Wok μ B W H S) {n : Nat} (h : W.ρ[n]? = some a) : ∃ mo, S[n]? = some mo ∧ MRep μ W H a mo := by
  have hl : n < S.length := by rw [← k.len]; exact (List.getElem?_eq_some_iff.mp h).1
  exact ⟨S[n], List.getElem?_eq_getElem hl, k.obj n a _ h (List.getElem?_eq_getElem hl)⟩
theorem Wok.newρ (k : Wok μ B W H S) (n : H p = none) : ∀ i : Nat, W.ρ[i]? ≠ some p := fun i e => by
  obtain ⟨mo, _, m⟩ := k.there e
  obtain ⟨o, h⟩ := m.at
  rw [n] at h
  cases h
theorem DicM.le {kvs : List (D × D)} (h : DicM μ W a o kvs) (l : LeF W W') : DicM μ W' a o kvs := by
  obtain ⟨ps, h1, h2⟩ := h
  exact ⟨ps, h1, h2.le l⟩
theorem MRep.le {mo : MO} (h : MRep μ W H a mo) (l : LeF W W') (e : H' a = H a) : MRep μ W' H' a mo := by
  cases mo with
  | lst xs => obtain ⟨vs, h, r⟩ := h; exact ⟨vs, by rw [e]; exact h, r.le l⟩
  | dct kvs => obtain ⟨o, h, r⟩ := h; exact ⟨o, by rw [e]; exact h, r.le l⟩
  | lck kvs => obtain ⟨ob, o, h, r⟩ := h; exact ⟨ob, o, by rw [e]; exact h, r.le l⟩
/-- something new for good -/
def Wd.plus (W : Wd) (p : Addr) (o : HO) : Wd := ⟨upd W.F p o, W.ρ, W.P⟩
theorem Le.plus (n : W.F p = none) : Le W (W.plus p o) := ⟨⟨fun a u h => by
  show upd W.F p o a = some u
  rw [upd_ne (ne_of_none h n)]
  exact h, [], by simp [Wd.plus]⟩, rfl⟩
theorem Wok.plus (k : Wok μ B W H S) (n : H p = none) (nf : ∀ ob u, o ≠ .frz ob u := by intro _ _ h; cases h) : Wok μ B (W.plus p o) (upd H p o) S := by
  have nF := k.newF n
  refine ⟨fun a u h => ?_, fun a ob u h => ?_, k.len, fun i a mo h1 h2 => ?_, fun i a h => ?_, k.inj, fun q u h => ?_, k.pnd, k.below⟩
  · have h : upd W.F p o a = some u := h
    by_cases e : a = p
    · subst e
      rw [upd_same] at h
      cases h
      exact .inl upd_same
    · rw [upd_ne e] at h
      exact rd_upd (k.frz a u h) n
  · have h : upd W.F p o a = some (.frz ob u) := h
    by_cases e : a = p
    · subst e
      rw [upd_same] at h
      exact nf _ _ (Option.some.inj h)
    · rw [upd_ne e] at h
      exact k.nofrz _ _ _ h
  · have m := k.obj i a mo h1 h2
    have ne : a ≠ p := fun e => k.newρ n i (by rw [← e]; exact h1)
    exact m.le (Le.plus nF).toF (upd_ne ne)
  · show upd W.F p o a = none
    rw [upd_ne (fun e => k.newρ n i (by rw [← e]; exact h))]
    exact k.apart i a h
  · obtain ⟨h1, h2, h3⟩ := k.pend q u h
    have ne : q ≠ p := ne_of_none h1 n
    exact ⟨by rw [upd_ne ne]; exact h1, by show upd W.F p o q = none; rw [upd_ne ne]; exact h2, h3⟩
/-- a new object of the store -/
def Wd.more (W : Wd) (p : Addr) : Wd := ⟨W.F, W.ρ ++ [p], W.P⟩
theorem Le.more : Le W (W.more p) := ⟨⟨fun _ _ h => h, [p], rfl⟩, rfl⟩
theorem Wok.more {mo : MO} (k : Wok μ B W H S) (n : H p = none) (m : MRep μ (W.more p) (upd H p o) p mo) : Wok μ B (W.more p) (upd H p o) (S ++ [mo]) := by
  refine ⟨fun a u h => rd_upd (k.frz a u h) n, k.nofrz, ?_, fun i a mo' h1 h2 => ?_, fun i a h => ?_, ?_, fun q u h => ?_, k.pnd, fun b hb => ?_⟩
  · show (W.ρ ++ [p]).length = _
    rw [List.length_append, List.length_append, k.len]
    rfl
  · have h1 : (W.ρ ++ [p])[i]? = some a := h1
    by_cases hi : i < W.ρ.length
    · rw [List.getElem?_append_left hi] at h1
      rw [List.getElem?_append_left (by rw [← k.len]; exact hi)] at h2
      have ne : a ≠ p := fun e => k.newρ n i (by rw [← e]; exact h1)
      exact (k.obj i a mo' h1 h2).le Le.more.toF (upd_ne ne)
    · have e : i = W.ρ.length := by
        have := (List.getElem?_eq_some_iff.mp h1).1
        rw [List.length_append] at this
        simp at this
        omega
      subst e
      rw [List.getElem?_append_right (Nat.le_refl _), Nat.sub_self] at h1
      rw [k.len, List.getElem?_append_right (Nat.le_refl _), Nat.sub_self] at h2
      cases h1
      cases h2
      exact m
  · have h : (W.ρ ++ [p])[i]? = some a := h
    by_cases hi : i < W.ρ.length
    · rw [List.getElem?_append_left hi] at h
      exact k.apart i a h
    · have e : i = W.ρ.length := by
        have := (List.getElem?_eq_some_iff.mp h).1
        rw [List.length_append] at this
        simp at this
        omega
      subst e
      rw [List.getElem?_append_right (Nat.le_refl _), Nat.sub_self] at h
      cases h
      exact k.newF n
  · show (W.ρ ++ [p]).Nodup
    refine List.nodup_append.mpr ⟨k.inj, List.nodup_cons.mpr ⟨by simp, List.nodup_nil⟩, fun x hx y hy => ?_⟩
    have : y = p := by simpa using hy
    subst this
    intro e
    subst e
    obtain ⟨i, hi⟩ := List.getElem?_of_mem hx
    exact k.newρ n i hi
  · obtain ⟨h1, h2, h3⟩ := k.pend q u h
    have ne : q ≠ p := ne_of_none h1 n
    exact ⟨by rw [upd_ne ne]; exact h1, h2, fun hm => (List.mem_append.mp hm).elim h3 fun hm => ne (List.mem_singleton.mp hm)⟩
  · obtain ⟨h1, h2⟩ := k.below b hb
    refine ⟨by rw [List.length_append]; omega, fun i mo' hi h => h2 i mo' hi ?_⟩
    rw [List.getElem?_append_left (by omega)] at h
    exact h
/-! what is being built -/
def Wd.hold (W : Wd) (p : Addr) (o : HO) : Wd := ⟨W.F, W.ρ, (p, o) :: W.P⟩
theorem LeF.hold : LeF W (W.hold p o) := ⟨fun _ _ h => h, [], by simp [Wd.hold]⟩
theorem Wok.hold (k : Wok μ B W H S) (n : H p = none) : Wok μ B (W.hold p o) (upd H p o) S := by
  have nF := k.newF n
  refine ⟨fun a u h => rd_upd (k.frz a u h) n, k.nofrz, k.len, fun i a mo h1 h2 => ?_, k.apart, k.inj, fun q u h => ?_, ?_, k.below⟩
  · have ne : a ≠ p := fun e => k.newρ n i (by rw [← e]; exact h1)
    exact (k.obj i a mo h1 h2).le LeF.hold (upd_ne ne)
  · have h : (q, u) ∈ (p, o) :: W.P := h
    rcases List.mem_cons.mp h with h | h
    · cases h
      exact ⟨upd_same, nF, fun hm => by obtain ⟨i, hi⟩ := List.getElem?_of_mem hm; exact k.newρ n i hi⟩
    · obtain ⟨h1, h2, h3⟩ := k.pend q u h
      exact ⟨by rw [upd_ne (ne_of_none h1 n)]; exact h1, h2, h3⟩
  · show (p :: W.P.map (·.1)).Nodup
    refine List.nodup_cons.mpr ⟨fun hm => ?_, k.pnd⟩
    obtain ⟨x, hx, e⟩ := List.mem_map.mp hm
    obtain ⟨q, u⟩ := x
    cases e
    obtain ⟨h1, _, _⟩ := k.pend _ _ hx
    rw [n] at h1
    cases h1
/-- the thing on top, as it stands -/
theorem Wok.top {P : List (Addr × HO)} (k : Wok μ B W H S) (e : W.P = (p, o) :: P) : H p = some o ∧ W.F p = none ∧ p ∉ W.ρ ∧ ∀ q u, (q, u) ∈ P → q ≠ p := by
  obtain ⟨h1, h2, h3⟩ := k.pend p o (by rw [e]; exact List.mem_cons_self)
  refine ⟨h1, h2, h3, fun q u h z => ?_⟩
  have := k.pnd
  rw [e] at this
  exact (List.nodup_cons.mp this).1 (List.mem_map.mpr ⟨(q, u), h, z⟩)
/-- ρ, F as they are, P another -/
def Wd.re (W : Wd) (P : List (Addr × HO)) : Wd := ⟨W.F, W.ρ, P⟩
theorem LeF.re {P : List (Addr × HO)} : LeF W (W.re P) := ⟨fun _ _ h => h, [], by simp [Wd.re]⟩
theorem Wok.grow {P : List (Addr × HO)} {u : HO} (k : Wok μ B W H S) (e : W.P = (p, o) :: P) : Wok μ B (W.re ((p, u) :: P)) (upd H p u) S := by
  obtain ⟨t1, t2, t3, t4⟩ := k.top e
  refine ⟨fun a w h => ?_, k.nofrz, k.len, fun i a mo h1 h2 => ?_, k.apart, k.inj, fun q w h => ?_, ?_, k.below⟩
  · have ne : a ≠ p := fun z => by subst z; rw [show W.F a = some w from h] at t2; cases t2
    rcases k.frz a w h with h | ⟨ob, h⟩
    · exact .inl (by rw [upd_ne ne]; exact h)
    · exact .inr ⟨ob, by rw [upd_ne ne]; exact h⟩
  · have ne : a ≠ p := fun z => t3 (by rw [← z]; exact List.mem_of_getElem? h1)
    exact (k.obj i a mo h1 h2).le LeF.re (upd_ne ne)
  · have h : (q, w) ∈ (p, u) :: P := h
    rcases List.mem_cons.mp h with h | h
    · cases h
      exact ⟨upd_same, t2, t3⟩
    · obtain ⟨h1, h2, h3⟩ := k.pend q w (by rw [e]; exact List.mem_cons_of_mem _ h)
      exact ⟨by rw [upd_ne (t4 q w h)]; exact h1, h2, h3⟩
  · have := k.pnd
    rw [e] at this
    exact this
/-- the thing on top let go, not yet anything -/
theorem Wok.drop {P : List (Addr × HO)} (k : Wok μ B W H S) (e : W.P = (p, o) :: P) : Wok μ B (W.re P) H S :=
  ⟨k.frz, k.nofrz, k.len, fun i a mo h1 h2 => (k.obj i a mo h1 h2).le LeF.re rfl, k.apart, k.inj, fun q w h => k.pend q w (by rw [e]; exact List.mem_cons_of_mem _ h), by
    have := k.pnd
    rw [e] at this
    exact (List.nodup_cons.mp this).2, k.below⟩
/-- data for good that stood there -/
theorem Wok.keepF (k : Wok μ B W H S) (h : H p = some o) (nF : W.F p = none) (nρ : p ∉ W.ρ) (nP : ∀ q u, (q, u) ∈ W.P → q ≠ p) (nf : ∀ ob u, o ≠ .frz ob u) : Wok μ B (W.plus p o) H S := by
  refine ⟨fun a u ha => ?_, fun a ob u ha => ?_, k.len, fun i a mo h1 h2 => (k.obj i a mo h1 h2).le (Le.plus nF).toF rfl, fun i a ha => ?_, k.inj, fun q u hq => ?_, k.pnd, k.below⟩
  · have ha : upd W.F p o a = some u := ha
    by_cases e : a = p
    · subst e
      rw [upd_same] at ha
      cases ha
      exact .inl h
    · rw [upd_ne e] at ha
      exact k.frz a u ha
  · have ha : upd W.F p o a = some (.frz ob u) := ha
    by_cases e : a = p
    · subst e
      rw [upd_same] at ha
      exact nf _ _ (Option.some.inj ha)
    · rw [upd_ne e] at ha
      exact k.nofrz _ _ _ ha
  · show upd W.F p o a = none
    have ne : a ≠ p := fun z => nρ (by rw [← z]; exact List.mem_of_getElem? ha)
    rw [upd_ne ne]
    exact k.apart i a ha
  · obtain ⟨h1, h2, h3⟩ := k.pend q u hq
    exact ⟨h1, by show upd W.F p o q = none; rw [upd_ne (nP q u hq)]; exact h2, h3⟩
/-- an object of the store that stood there -/
theorem Wok.keepS {mo : MO} (k : Wok μ B W H S) (m : MRep μ (W.more p) H p mo) (nF : W.F p = none) (nρ : p ∉ W.ρ) (nP : ∀ q u, (q, u) ∈ W.P → q ≠ p) : Wok μ B (W.more p) H (S ++ [mo]) := by
  refine ⟨k.frz, k.nofrz, ?_, fun i a mo' h1 h2 => ?_, fun i a h => ?_, ?_, fun q u hq => ?_, k.pnd, fun b hb => ?_⟩
  · show (W.ρ ++ [p]).length = _
    rw [List.length_append, List.length_append, k.len]
    rfl
  · have h1 : (W.ρ ++ [p])[i]? = some a := h1
    by_cases hi : i < W.ρ.length
    · rw [List.getElem?_append_left hi] at h1
      rw [List.getElem?_append_left (by rw [← k.len]; exact hi)] at h2
      exact (k.obj i a mo' h1 h2).le Le.more.toF rfl
    · have e : i = W.ρ.length := by
        have := (List.getElem?_eq_some_iff.mp h1).1
        rw [List.length_append] at this
        simp at this
        omega
      subst e
      rw [List.getElem?_append_right (Nat.le_refl _), Nat.sub_self] at h1
      rw [k.len, List.getElem?_append_right (Nat.le_refl _), Nat.sub_self] at h2
      cases h1
      cases h2
      exact m
  · have h : (W.ρ ++ [p])[i]? = some a := h
    by_cases hi : i < W.ρ.length
    · rw [List.getElem?_append_left hi] at h
      exact k.apart i a h
    · have e : i = W.ρ.length := by
        have := (List.getElem?_eq_some_iff.mp h).1
        rw [List.length_append] at this
        simp at this
        omega
      subst e
      rw [List.getElem?_append_right (Nat.le_refl _), Nat.sub_self] at h
      cases h
      exact nF
  · show (W.ρ ++ [p]).Nodup
    refine List.nodup_append.mpr ⟨k.inj, List.nodup_cons.mpr ⟨by simp, List.nodup_nil⟩, fun x hx y hy => ?_⟩
    have : y = p := by simpa using hy
    subst this
    intro e
    subst e
    exact nρ hx
  · obtain ⟨h1, h2, h3⟩ := k.pend q u hq
    exact ⟨h1, h2, fun hm => (List.mem_append.mp hm).elim h3 fun hm => nP q u hq (List.mem_singleton.mp hm)⟩
  · obtain ⟨h1, h2⟩ := k.below b hb
    refine ⟨by rw [List.length_append]; omega, fun i mo' hi h => h2 i mo' hi ?_⟩
    rw [List.getElem?_append_left (by omega)] at h
    exact h
/-- an object of the store changes -/
theorem Wok.put {n : Nat} {mo : MO} (k : Wok μ B W H S) (e : W.ρ[n]? = some p) (m : MRep μ W (upd H p o) p mo) (hb : ∀ b ∈ B, n < b → belowM b mo) : Wok μ B W (upd H p o) (S.set n mo) := by
  have nF := k.apart n p e
  refine ⟨fun a u h => ?_, k.nofrz, by rw [List.length_set]; exact k.len, fun i a mo' h1 h2 => ?_, k.apart, k.inj, fun q u h => ?_, k.pnd, fun b hb' => ?_⟩
  · have ne : a ≠ p := fun z => by subst z; rw [h] at nF; cases nF
    rcases k.frz a u h with h | ⟨ob, h⟩
    · exact .inl (by rw [upd_ne ne]; exact h)
    · exact .inr ⟨ob, by rw [upd_ne ne]; exact h⟩
  · by_cases hi : i = n
    · subst hi
      rw [h1] at e
      cases e
      have hl : i < S.length := by rw [← k.len]; exact (List.getElem?_eq_some_iff.mp h1).1
      rw [List.getElem?_set_self hl] at h2
      cases h2
      exact m
    · rw [List.getElem?_set_ne (fun z => hi z.symm)] at h2
      have ne : a ≠ p := fun z => by
        subst z
        obtain ⟨l1, g1⟩ := List.getElem?_eq_some_iff.mp h1
        obtain ⟨l2, g2⟩ := List.getElem?_eq_some_iff.mp e
        exact hi ((List.getElem_inj k.inj).mp (g1.trans g2.symm))
      exact (k.obj i a mo' h1 h2).le (Le.refl W).toF (upd_ne ne)
  · obtain ⟨h1, h2, h3⟩ := k.pend q u h
    have ne : q ≠ p := fun z => h3 (by rw [z]; exact List.mem_of_getElem? e)
    exact ⟨by rw [upd_ne ne]; exact h1, h2, h3⟩
  · obtain ⟨h1, h2⟩ := k.below b hb'
    refine ⟨by rw [List.length_set]; exact h1, fun i mo' hi h => ?_⟩
    by_cases hin : i = n
    · subst hin
      rw [List.getElem?_set_self (by omega)] at h
      cases h
      exact hb b hb' hi
    · rw [List.getElem?_set_ne (fun z => hin z.symm)] at h
      exact h2 i mo' hi h
/-- all that is data for good may be read -/
theorem Wok.sqT (k : Wok μ B W H S) {K : PySem.W.Frag} {xs : List V} (h : SqT K W.F a xs) : SqT K H a xs := by
  rcases h with (h | ⟨ob, h⟩) | h
  · exact .inl (k.frz _ _ h)
  · exact absurd h (k.nofrz _ _ _)
  · exact .inr h
theorem Wok.sqL (k : Wok μ B W H S) {K : PySem.W.Frag} {xs : List V} (h : SqL K W.F a xs) : SqL K H a xs := by
  rcases h with (h | ⟨ob, h⟩) | h
  · exact .inl (k.frz _ _ h)
  · exact absurd h (k.nofrz _ _ _)
  · exact .inr h
end

/-! ### what a value shows, in the heap as it stands -/
inductive Shows (μ : Md) (W : Wd) (H : Hp) : V → D → Prop
  | of {v : V} {d : D} : Rep μ W v d → (∀ xs, d ≠ .tup xs) → (∀ xs, d ≠ .lst xs) → (∀ xs, d ≠ .dct xs) → Shows μ W H v d
  | tup {a : Addr} {vs : List V} {ds : List D} : SqT μ.K H a vs → RepL μ W vs ds → Rep μ W (.ref a) (.tup ds) → Shows μ W H (.ref a) (.tup ds)
  | lst {a : Addr} {vs : List V} {ds : List D} : Rd H a (.lst vs) → RepL μ W vs ds → Shows μ W H (.ref a) (.lst ds)
  | dct {a : Addr} {o : HO} {kvs : List (D × D)} : Rd H a o → DicM μ W a o kvs → Shows μ W H (.ref a) (.dct kvs)
section
variable {μ : Md} {B : List Nat} {W W' : Wd} {H H' : Hp} {S : Sto} {v : V} {d : D}
theorem Rep.shows (k : Wok μ B W H S) (r : Rep μ W v d) (hn : ∀ n, d ≠ .ref n) : Shows μ W H v d := by
  cases r with
  | tup h l => exact .tup (k.sqT h) l (.tup h l)
  | lst h l => exact .lst (k.frz _ _ h) l
  | dct h q l => exact .dct (k.frz _ _ h) ⟨_, q, l⟩
  | ref h => exact absurd rfl (hn _)
  | non => exact .of .non (fun _ e => nomatch e) (fun _ e => nomatch e) fun _ e => nomatch e
  | bl b => exact .of (.bl b) (fun _ e => nomatch e) (fun _ e => nomatch e) fun _ e => nomatch e
  | int i => exact .of (.int i) (fun _ e => nomatch e) (fun _ e => nomatch e) fun _ e => nomatch e
  | str x => exact .of (.str x) (fun _ e => nomatch e) (fun _ e => nomatch e) fun _ e => nomatch e
  | fn h => exact .of (.fn h) (fun _ e => nomatch e) (fun _ e => nomatch e) fun _ e => nomatch e
  | scr h l => exact .of (.scr h l) (fun _ e => nomatch e) (fun _ e => nomatch e) fun _ e => nomatch e
theorem Rep.view (k : Wok μ B W H S) (r : Rep μ W v d) : Shows μ W H v (view S d) := by
  cases r with
  | ref h =>
    rename_i n a
    obtain ⟨mo, h1, m⟩ := k.there h
    show Shows μ W H _ (match S[n]? with
      | some (.lst xs) => .lst xs
      | some (.dct kvs) => .dct kvs
      | some (.lck kvs) => .dct kvs
      | none => .ref n)
    rw [h1]
    cases mo with
    | lst xs =>
      obtain ⟨vs, h2, l⟩ := m
      exact .lst (.inl h2) l
    | dct kvs =>
      obtain ⟨o, h2, l⟩ := m
      exact .dct (.inl h2) l
    | lck kvs =>
      obtain ⟨ob, o, h2, l⟩ := m
      exact .dct (.inr ⟨ob, h2⟩) l
  | tup h l => exact Rep.shows k (.tup h l) fun _ e => nomatch e
  | lst h l => exact Rep.shows k (.lst h l) fun _ e => nomatch e
  | dct h q l => exact Rep.shows k (.dct h q l) fun _ e => nomatch e
  | non => exact Rep.shows k .non fun _ e => nomatch e
  | bl b => exact Rep.shows k (.bl b) fun _ e => nomatch e
  | int i => exact Rep.shows k (.int i) fun _ e => nomatch e
  | str x => exact Rep.shows k (.str x) fun _ e => nomatch e
  | fn h => exact Rep.shows k (.fn h) fun _ e => nomatch e
  | scr h l => exact Rep.shows k (.scr h l) fun _ e => nomatch e
end

/-! ### as the library's data -/
section
variable {μ : Md} {B : List Nat} {W W' : Wd} {H H' : Hp} {S : Sto}
mutual
theorem Rep.dp (k : Wok μ B W H S) : ∀ {v : V} {d : D} {p : PyData}, Rep μ W v d → d.py = some p → Dp μ.K H v p
  | _, _, p, .non, e => by
    have e : some PyData.none = some p := by rw [← e]; simp only [D.py]
    cases e
    exact .non
  | _, _, p, .bl b, e => by
    have e : some (PyData.bool b) = some p := by rw [← e]; simp only [D.py]
    cases e
    exact .bl b
  | _, _, p, .int i, e => by
    have e : some (PyData.int i) = some p := by rw [← e]; simp only [D.py]
    cases e
    exact .int i
  | _, _, p, .str x, e => by
    have e : some (PyData.str x) = some p := by rw [← e]; simp only [D.py]
    cases e
    exact .str x
  | _, _, p, .tup (ds := ds) h r, e => by
    rw [D.py] at e
    cases q : pyAll ds with
    | none => rw [q] at e; cases e
    | some ps =>
      rw [q] at e
      cases e
      exact .tup (k.sqT h) (RepL.dp k r q)
  | _, _, p, .lst (ds := ds) h r, e => by
    rw [D.py] at e
    cases q : pyAll ds with
    | none => rw [q] at e; cases e
    | some ps =>
      rw [q] at e
      cases e
      exact .lst (.inl (k.frz _ _ h)) (RepL.dp k r q)
  | _, _, _, .dct _ _ _, e => by rw [D.py] at e; cases e
  | _, _, _, .ref _, e => by rw [D.py] at e; cases e
  | _, _, _, .fn _, e => by rw [D.py] at e; cases e
  | _, _, _, .scr _ _, e => by rw [D.py] at e; cases e
theorem RepL.dp (k : Wok μ B W H S) : ∀ {vs : List V} {ds : List D} {ps : List PyData}, RepL μ W vs ds → pyAll ds = some ps → DpAll μ.K H vs ps
  | _, _, ps, .nil, e => by
    have e : some [] = some ps := by rw [← e]; simp only [pyAll]
    cases e
    exact .nil
  | _, _, ps, .cons (d := d) (ds := ds) h r, e => by
    rw [pyAll] at e
    cases q1 : d.py with
    | none => rw [q1] at e; cases e
    | some p =>
      cases q2 : pyAll ds with
      | none => rw [q1, q2] at e; cases e
      | some ps' =>
        rw [q1, q2] at e
        cases e
        exact .cons (Rep.dp k h q1) (RepL.dp k r q2)
end
theorem Shows.dp (k : Wok μ B W H S) {v : V} {d : D} {p : PyData} (s : Shows μ W H v d) (e : d.py = some p) : Dp μ.K H v p := by
  cases s with
  | of r h1 h2 h3 => exact r.dp k e
  | tup h r hr =>
    rename_i ds
    rw [D.py] at e
    cases q : pyAll ds with
    | none => rw [q] at e; cases e
    | some ps =>
      rw [q] at e
      cases e
      exact .tup h (RepL.dp k r q)
  | lst h r =>
    rename_i ds
    rw [D.py] at e
    cases q : pyAll ds with
    | none => rw [q] at e; cases e
    | some ps =>
      rw [q] at e
      cases e
      exact .lst (.inl h) (RepL.dp k r q)
  | dct h r => rw [D.py] at e; cases e
mutual
theorem py_plain : ∀ {d : D} {p : PyData}, d.py = some p → p.plain = true
  | .non, p, e => by
    have e : some PyData.none = some p := by rw [← e]; simp only [D.py]
    cases e
    rfl
  | .bl b, p, e => by
    have e : some (PyData.bool b) = some p := by rw [← e]; simp only [D.py]
    cases e
    rfl
  | .int b, p, e => by
    have e : some (PyData.int b) = some p := by rw [← e]; simp only [D.py]
    cases e
    rfl
  | .str b, p, e => by
    have e : some (PyData.str b) = some p := by rw [← e]; simp only [D.py]
    cases e
    rfl
  | .tup ds, p, e => by
    rw [D.py] at e
    cases q : pyAll ds with
    | none => rw [q] at e; cases e
    | some ps =>
      rw [q] at e
      cases e
      rw [PyData.plain]
      exact pyAll_plain q
  | .lst ds, p, e => by
    rw [D.py] at e
    cases q : pyAll ds with
    | none => rw [q] at e; cases e
    | some ps =>
      rw [q] at e
      cases e
      rw [PyData.plain]
      exact pyAll_plain q
  | .dct _, _, e => by rw [D.py] at e; cases e
  | .set _, _, e => by rw [D.py] at e; cases e
  | .ref _, _, e => by rw [D.py] at e; cases e
  | .fn _, _, e => by rw [D.py] at e; cases e
theorem pyAll_plain : ∀ {ds : List D} {ps : List PyData}, pyAll ds = some ps → PyData.plainAll ps = true
  | [], ps, e => by
    have e : some [] = some ps := by rw [← e]; simp only [pyAll]
    cases e
    rfl
  | d :: ds, ps, e => by
    rw [pyAll] at e
    cases q1 : d.py with
    | none => rw [q1] at e; cases e
    | some p =>
      cases q2 : pyAll ds with
      | none => rw [q1, q2] at e; cases e
      | some ps' =>
        rw [q1, q2] at e
        cases e
        rw [PyData.plainAll, py_plain q1, pyAll_plain q2]
        rfl
end
end

/-! ### the reading of the evaluator -/
/-- what is wanted of an answer -/
def Post (μ : Md) (B : List Nat) (σ : L2.St) (ρ : Env) (W : Wd) {α β : Type} (R : Wd → β → α → Prop) (Q : β → Hp → Prop) : Out α → Prop
  | .ok d S' => ∀ W' v H', Le W W' → Wok μ B W' H' S' → EnvR μ W' σ ρ → R W' v d → Q v H'
  | .exc _ _ _ => False
  | .no => False
/-- it evaluates as m tells -/
def RdM (μ : Md) (B : List Nat) (ρ : Env) {α β : Type} (R : Wd → β → α → Prop) (m : M α) (σ : L2.St) (H : Hp) (Q : β → Hp → Prop) : Prop :=
  ∃ W S, Wok μ B W H S ∧ EnvR μ W σ ρ ∧ Post μ B σ ρ W R Q (m S)
abbrev TD (μ : Md) (B : List Nat) (ρ : Env) (m : M D) : TE := fun σ H Q => RdM μ B ρ (Rep μ) m σ H Q
abbrev TB (μ : Md) (B : List Nat) (ρ : Env) (m : M Bool) : TT := fun σ H Q => RdM μ B ρ (fun _ (b : Bool) (c : Bool) => b = c) m σ H Q
abbrev TL (μ : Md) (B : List Nat) (ρ : Env) (m : M (List D)) : TA := fun σ H Q => RdM μ B ρ (RepL μ) m σ H Q
section
variable {μ : Md} {B : List Nat} {σ : L2.St} {ρ : Env} {W W1 : Wd} {H : Hp} {S : Sto} {α β γ δ : Type} {R : Wd → β → α → Prop} {R' : Wd → δ → γ → Prop} {Q : β → Hp → Prop}
theorem Post.le {o : Out α} (l : Le W W1) (p : Post μ B σ ρ W R Q o) : Post μ B σ ρ W1 R Q o := by
  cases o with
  | ok d S' => exact fun W' v H' l' k e r => p W' v H' (l.trans l') k e r
  | exc _ _ _ => exact p
  | no => exact p
/-- one thing, and then another -/
theorem RdM.bind {m : M γ} {f : γ → M α} (h : RdM μ B ρ R (bnd m f) σ H Q) :
    RdM μ B ρ R' m σ H fun v H1 => ∃ W1 S1 x, Wok μ B W1 H1 S1 ∧ EnvR μ W1 σ ρ ∧ R' W1 v x ∧ Post μ B σ ρ W1 R Q (f x S1) := by
  obtain ⟨W, S, k, e, p⟩ := h
  refine ⟨W, S, k, e, ?_⟩
  unfold bnd at p
  cases q : m S with
  | ok x S1 =>
    rw [q] at p
    intro W1 v H1 l k1 e1 r1
    exact ⟨W1, S1, x, k1, e1, r1, Post.le l p⟩
  | exc _ _ _ => rw [q] at p; exact p
  | no => rw [q] at p; exact p
/-- the same, told what stood before -/
theorem RdM.bindL {m : M γ} {f : γ → M α} (h : RdM μ B ρ R (bnd m f) σ H Q) : ∃ W, (∀ v d, Rep μ W v d → True) ∧
    RdM μ B ρ R' m σ H fun v H1 => ∃ W1 S1 x, Le W W1 ∧ Wok μ B W1 H1 S1 ∧ EnvR μ W1 σ ρ ∧ R' W1 v x ∧ Post μ B σ ρ W1 R Q (f x S1) := by
  obtain ⟨W, S, k, e, p⟩ := h
  refine ⟨W, fun _ _ _ => trivial, W, S, k, e, ?_⟩
  unfold bnd at p
  cases q : m S with
  | ok x S1 =>
    rw [q] at p
    intro W1 v H1 l k1 e1 r1
    exact ⟨W1, S1, x, l, k1, e1, r1, Post.le l p⟩
  | exc _ _ _ => rw [q] at p; exact p
  | no => rw [q] at p; exact p
/-- from a state at hand -/
theorem RdM.of {m : M α} (k : Wok μ B W H S) (e : EnvR μ W σ ρ) (p : Post μ B σ ρ W R Q (m S)) : RdM μ B ρ R m σ H Q := ⟨W, S, k, e, p⟩
/-- go on from a state at hand, knowing that the world grows -/
theorem Post.bind {m : M γ} {f : γ → M α} (k : Wok μ B W H S) (e : EnvR μ W σ ρ) (p : Post μ B σ ρ W R Q (bnd m f S)) :
    RdM μ B ρ R' m σ H fun v H1 => ∃ W1 S1 x, Le W W1 ∧ Wok μ B W1 H1 S1 ∧ EnvR μ W1 σ ρ ∧ R' W1 v x ∧ Post μ B σ ρ W1 R Q (f x S1) := by
  refine ⟨W, S, k, e, ?_⟩
  unfold bnd at p
  cases q : m S with
  | ok x S1 =>
    rw [q] at p
    intro W1 v H1 l k1 e1 r1
    exact ⟨W1, S1, x, l, k1, e1, r1, Post.le l p⟩
  | exc _ _ _ => rw [q] at p; exact p
  | no => rw [q] at p; exact p
end
end Ly

/-! Ly: each operation of the evaluator is what the model does. -/
set_option autoImplicit false
set_option linter.all false
set_option maxRecDepth 100000
set_option maxHeartbeats 1000000
namespace Ly
open PySem PySem.Spec PyProof.Rows L2

abbrev mdOf (X : Cx) : Md := ⟨X.w, X.K, X.mg⟩
section
variable {X : Cx} {pins : List (Addr × Obj)} {s : Shared} {σ : L2.St} {H : Hp} {B : List Nat} {W : Wd} {S : Sto} {v u : V} {x y : D} {a b : Value} {Q : VK}
theorem Shows.reads (I : Inv X pins σ H s) (k : Wok (mdOf X) B W H S) (h : Shows (mdOf X) W H v x) {p : PyData} (e : x.py = some p) (r : RelV v a) : ∃ as, Reads s.heap a p as :=
  Dp.reads I p v a (h.dp k e) r
theorem fin_b (I : Inv X pins σ H s) {c d : Bool} (q : Q (.bl c) H) (e : c = d) : EP X pins σ Q (.bool d) s := ⟨.bl c, H, I, by rw [e]; exact rfl, q⟩
theorem isNonPy_ne {p : PyData} (h : isNonPy p = false) : p ≠ .none := by
  intro e
  subst e
  exact absurd h (by decide)
theorem deep_min {p q : PyData} {n : Nat} (hp : deepOk p = true) (hu : n + 64 < cLine) : n + min p.depth q.depth < cLine := by
  have h1 := of_decide_eq_true hp
  have h2 : min p.depth q.depth ≤ p.depth := Nat.min_le_left _ _
  omega
/-- == -/
theorem eq_ok (hu : X.A.units + 200 < cLine) (I : Inv X pins σ H s) (k : Wok (mdOf X) B W H S) (hx : Shows (mdOf X) W H v x) (hy : Shows (mdOf X) W H u y) (rx : RelV v a) (ry : RelV u b) {c : Bool} (e : eqD x y = some c) (q : Q (.bl c) H) :
    wpAny (model X.prog X.w) X.A (compareOp .Eq a b) (EP X pins σ Q) X.xe s := by
  unfold eqD at e
  cases e1 : x.py with
  | none => rw [e1] at e; cases e
  | some p =>
    cases e2 : y.py with
    | none => rw [e1, e2] at e; cases e
    | some p' =>
      rw [e1, e2] at e
      simp only at e
      split at e
      · rename_i hd
        rw [Bool.and_eq_true] at hd
        obtain ⟨as, r1⟩ := hx.reads I k e1 rx
        obtain ⟨bs, r2⟩ := hy.reads I k e2 ry
        exact PySem.SeqAt.eq_plain r1 r2 (py_plain e1) (py_plain e2) (deep_min hd.1 (by omega)) (fin_b I q (Option.some.inj e).symm)
      · cases e
theorem ne_ok (hu : X.A.units + 200 < cLine) (I : Inv X pins σ H s) (k : Wok (mdOf X) B W H S) (hx : Shows (mdOf X) W H v x) (hy : Shows (mdOf X) W H u y) (rx : RelV v a) (ry : RelV u b) {c : Bool} (e : eqD x y = some c) (q : Q (.bl !c) H) :
    wpAny (model X.prog X.w) X.A (compareOp .NotEq a b) (EP X pins σ Q) X.xe s := by
  unfold eqD at e
  cases e1 : x.py with
  | none => rw [e1] at e; cases e
  | some p =>
    cases e2 : y.py with
    | none => rw [e1, e2] at e; cases e
    | some p' =>
      rw [e1, e2] at e
      simp only at e
      split at e
      · rename_i hd
        rw [Bool.and_eq_true] at hd
        obtain ⟨as, r1⟩ := hx.reads I k e1 rx
        obtain ⟨bs, r2⟩ := hy.reads I k e2 ry
        exact PySem.SeqAt.ne_plain r1 r2 (py_plain e1) (py_plain e2) (deep_min hd.1 (by omega)) (fin_b I q (by rw [Option.some.inj e]))
      · cases e
/-- what an order asks -/
theorem ltD_some {x y : D} {c : Bool} (e : ltD x y = some c) : ∃ p p', x.py = some p ∧ y.py = some p' ∧ deepOk p = true ∧ deepOk p' = true ∧ PySem.W.alike p p' = true ∧ p ≠ .none ∧ p' ≠ .none ∧ PySem.W.dataLt p p' = c := by
  unfold ltD at e
  cases e1 : x.py with
  | none => rw [e1] at e; cases e
  | some p =>
    cases e2 : y.py with
    | none => rw [e1, e2] at e; cases e
    | some p' =>
      rw [e1, e2] at e
      simp only at e
      split at e
      · rename_i hd
        simp only [Bool.and_eq_true, Bool.not_eq_true'] at hd
        obtain ⟨⟨⟨h1, h2⟩, h3⟩, h4⟩ := hd
        exact ⟨p, p', rfl, rfl, h1, h2, h3, isNonPy_ne h4, PySem.W.ne_none_both h3 (isNonPy_ne h4), Option.some.inj e⟩
      · cases e
theorem lt_ok (hu : X.A.units + 200 < cLine) (I : Inv X pins σ H s) (k : Wok (mdOf X) B W H S) (hx : Shows (mdOf X) W H v x) (hy : Shows (mdOf X) W H u y) (rx : RelV v a) (ry : RelV u b) {c : Bool} (e : ltD x y = some c) (q : Q (.bl c) H) :
    wpAny (model X.prog X.w) X.A (compareOp .Lt a b) (EP X pins σ Q) X.xe s := by
  obtain ⟨p, p', e1, e2, d1, d2, al, n1, n2, ec⟩ := ltD_some e
  obtain ⟨as, r1⟩ := hx.reads I k e1 rx
  obtain ⟨bs, r2⟩ := hy.reads I k e2 ry
  exact PySem.W.lt_data r1 r2 al n1 (deep_min d1 (by omega)) (fin_b I q ec.symm)
theorem gt_ok (hu : X.A.units + 200 < cLine) (I : Inv X pins σ H s) (k : Wok (mdOf X) B W H S) (hx : Shows (mdOf X) W H v x) (hy : Shows (mdOf X) W H u y) (rx : RelV v a) (ry : RelV u b) {c : Bool} (e : ltD y x = some c) (q : Q (.bl c) H) :
    wpAny (model X.prog X.w) X.A (compareOp .Gt a b) (EP X pins σ Q) X.xe s := by
  obtain ⟨p, p', e1, e2, d1, d2, al, n1, n2, ec⟩ := ltD_some e
  obtain ⟨as, r1⟩ := hx.reads I k e2 rx
  obtain ⟨bs, r2⟩ := hy.reads I k e1 ry
  exact PySem.W.gt_data r1 r2 (by rw [PySem.W.alike_comm]; exact al) n2 (deep_min d2 (by omega)) (fin_b I q ec.symm)
theorem le_ok (hu : X.A.units + 200 < cLine) (I : Inv X pins σ H s) (k : Wok (mdOf X) B W H S) (hx : Shows (mdOf X) W H v x) (hy : Shows (mdOf X) W H u y) (rx : RelV v a) (ry : RelV u b) {c : Bool} (e : ltD y x = some c) (q : Q (.bl !c) H) :
    wpAny (model X.prog X.w) X.A (compareOp .LtE a b) (EP X pins σ Q) X.xe s := by
  obtain ⟨p, p', e1, e2, d1, d2, al, n1, n2, ec⟩ := ltD_some e
  obtain ⟨as, r1⟩ := hx.reads I k e2 rx
  obtain ⟨bs, r2⟩ := hy.reads I k e1 ry
  exact PySem.W.le_data r1 r2 (by rw [PySem.W.alike_comm]; exact al) n2 (deep_min d2 (by omega)) (fin_b I q (by rw [ec]))
theorem ge_ok (hu : X.A.units + 200 < cLine) (I : Inv X pins σ H s) (k : Wok (mdOf X) B W H S) (hx : Shows (mdOf X) W H v x) (hy : Shows (mdOf X) W H u y) (rx : RelV v a) (ry : RelV u b) {c : Bool} (e : ltD x y = some c) (q : Q (.bl !c) H) :
    wpAny (model X.prog X.w) X.A (compareOp .GtE a b) (EP X pins σ Q) X.xe s := by
  obtain ⟨p, p', e1, e2, d1, d2, al, n1, n2, ec⟩ := ltD_some e
  obtain ⟨as, r1⟩ := hx.reads I k e1 rx
  obtain ⟨bs, r2⟩ := hy.reads I k e2 ry
  exact PySem.W.ge_data r1 r2 al n1 (deep_min d1 (by omega)) (fin_b I q (by rw [ec]))
theorem Rep.relref {μ : Md} {v : V} {W : Wd} (r : RelV v a) : True := trivial
/-- in a list or tuple: what is asked -/
theorem inSeq_some {x : D} {xs : List D} {c : Bool} (e : inSeq x xs = some c) : ∃ p ps, x.py = some p ∧ pyAll xs = some ps ∧ deepOk p = true ∧ (ps.any fun y => PyData.eqv y p) = c := by
  unfold inSeq at e
  cases e1 : x.py with
  | none => rw [e1] at e; cases e
  | some p =>
    cases e2 : pyAll xs with
    | none => rw [e1, e2] at e; cases e
    | some ps =>
      rw [e1, e2] at e
      simp only at e
      split at e
      · rename_i hd
        rw [Bool.and_eq_true] at hd
        exact ⟨p, ps, rfl, rfl, hd.1, Option.some.inj e⟩
      · cases e
theorem deep_in {p : PyData} {ps : List PyData} {n : Nat} (hp : deepOk p = true) (hu : n + 64 < cLine) : n + min (PyData.depthAll ps) p.depth < cLine := by
  have h1 := of_decide_eq_true hp
  have h2 : min (PyData.depthAll ps) p.depth ≤ p.depth := Nat.min_le_right _ _
  omega
/-- the answer of a comparison, or its contrary -/
theorem in_ok (neg : Bool) (hu : X.A.units + 200 < cLine) (I : Inv X pins σ H s) (k : Wok (mdOf X) B W H S) (hx : Shows (mdOf X) W H v x) (hy : Shows (mdOf X) W H u y) (rx : RelV v a) (ry : RelV u b) (nd : ∀ kvs, y ≠ .dct kvs) {c : Bool} (e : inD x y = some c) (q : Q (.bl (neg ^^ c)) H) :
    wpAny (model X.prog X.w) X.A (compareOp (if neg then .NotIn else .In) a b) (EP X pins σ Q) X.xe s := by
  cases y with
  | lst xs =>
    obtain ⟨p, ps, e1, e2, d1, ec⟩ := inSeq_some e
    obtain ⟨as, r1⟩ := hx.reads I k e1 rx
    obtain ⟨bs, r2⟩ := hy.reads I k (p := .list ps) (by rw [D.py, e2]; rfl) ry
    cases neg with
    | false => exact PySem.SeqAt.in_list_data r2 r1 (pyAll_plain e2) (py_plain e1) (deep_in d1 (by omega)) (fin_b I q (by rw [ec, Bool.false_xor]))
    | true => exact PySem.SeqAt.notIn_list_data r2 r1 (pyAll_plain e2) (py_plain e1) (deep_in d1 (by omega)) (fin_b I q (by rw [ec, Bool.true_xor]))
  | tup xs =>
    obtain ⟨p, ps, e1, e2, d1, ec⟩ := inSeq_some e
    obtain ⟨as, r1⟩ := hx.reads I k e1 rx
    obtain ⟨bs, r2⟩ := hy.reads I k (p := .tuple ps) (by rw [D.py, e2]; rfl) ry
    cases neg with
    | false => exact PySem.SeqAt.in_tuple_data r2 r1 (pyAll_plain e2) (py_plain e1) (deep_in d1 (by omega)) (fin_b I q (by rw [ec, Bool.false_xor]))
    | true => exact PySem.SeqAt.notIn_tuple_data r2 r1 (pyAll_plain e2) (py_plain e1) (deep_in d1 (by omega)) (fin_b I q (by rw [ec, Bool.true_xor]))
  | str z =>
    cases x with
    | str w =>
      have ec : (!(Builtin.Str.occurrences z w 0 z.length 1).isEmpty) = c := Option.some.inj e
      cases hx with
      | of hx _ _ _ =>
        cases hx
        cases hy with
        | of hy _ _ _ =>
          cases hy
          cases neg with
          | false => exact op_in_str pins s σ H _ _ a b Q I rx ry ⟨w, z, rfl, rfl, by rw [ec]; simpa using q⟩
          | true => exact op_notin_str pins s σ H _ _ a b Q I rx ry ⟨w, z, rfl, rfl, by rw [ec]; simpa using q⟩
    | _ => cases e
  | dct kvs => exact absurd rfl (nd kvs)
  | _ => cases e
theorem is_ok (neg : Bool) (I : Inv X pins σ H s) (hx : Shows (mdOf X) W H v x) (hy : Shows (mdOf X) W H u y) (rx : RelV v a) (ry : RelV u b) {c : Bool} (e : isD x y = some c) (q : Q (.bl (neg ^^ c)) H) :
    wpAny (model X.prog X.w) X.A (compareOp (if neg then .IsNot else .Is) a b) (EP X pins σ Q) X.xe s := by
  cases y with
  | non =>
    cases hy with
    | of hy _ _ _ =>
      cases hy
      have ec : decide (v = .non) = c := by
        cases hx with
        | of hx h1 h2 h3 =>
          cases hx with
          | non => exact Option.some.inj e
          | dct _ _ _ => exact absurd rfl (h3 _)
          | tup _ _ => exact absurd rfl (h1 _)
          | lst _ _ => exact absurd rfl (h2 _)
          | _ => exact Option.some.inj e
        | tup _ _ _ => exact Option.some.inj e
        | lst _ _ => exact Option.some.inj e
        | dct _ _ => exact Option.some.inj e
      cases neg with
      | false => exact op_isN pins s σ H _ _ a b Q I rx ry ⟨rfl, by rw [ec]; simpa using q⟩
      | true => exact op_notN pins s σ H _ _ a b Q I rx ry ⟨rfl, by rw [ec]; simpa using q⟩
  | bl d =>
    cases hy with
    | of hy _ _ _ =>
      cases hy
      cases x with
      | bl c' =>
        cases hx with
        | of hx _ _ _ =>
          cases hx
          have ec : (c' == d) = c := Option.some.inj e
          have ed : decide (c' = d) = c := by rw [← ec]; cases c' <;> cases d <;> rfl
          cases neg with
          | false => exact op_isBl pins s σ H _ _ a b Q I rx ry ⟨c', d, rfl, rfl, by rw [ed]; simpa using q⟩
          | true => exact op_notBl pins s σ H _ _ a b Q I rx ry ⟨c', d, rfl, rfl, by rw [ed]; simpa using q⟩
      | _ => cases e
  | _ => cases e
end
end Ly

/-! Ly: operators, items, slices, lengths. -/
set_option autoImplicit false
set_option linter.all false
set_option maxRecDepth 100000
set_option maxHeartbeats 1000000
namespace Ly
open PySem PySem.Spec PyProof.Rows L2

theorem line_eq : (line : Nat) = sizeLine := by rw [sizeLine_eq]; rfl
section
variable {X : Cx} {pins : List (Addr × Obj)} {s : Shared} {σ : L2.St} {ρ : Env} {H : Hp} {B : List Nat} {W : Wd} {S : Sto} {v u : V} {x y d : D} {a b : Value} {Q : VK}
/-- what is told of data that need nothing new -/
theorem post_ok (k : Wok (mdOf X) B W H S) (e : EnvR (mdOf X) W σ ρ) (r : Rep (mdOf X) W v d) (p : Post (mdOf X) B σ ρ W (Rep (mdOf X)) Q (.ok d S)) : Q v H := p W v H (Le.refl W) k e r
theorem post_tup {p : Addr} {vs : List V} {ds : List D} (k : Wok (mdOf X) B W H S) (e : EnvR (mdOf X) W σ ρ) (r : RepL (mdOf X) W vs ds) (q : Post (mdOf X) B σ ρ W (Rep (mdOf X)) Q (.ok (.tup ds) S)) (n : H p = none) : Q (.ref p) (upd H p (.tup vs)) :=
  have l : Le W (W.plus p (.tup vs)) := Le.plus (k.newF n)
  q (W.plus p (.tup vs)) (.ref p) _ l (k.plus n) (e.le l.toF) (.tup (.inl (.inl upd_same)) (r.le l.toF))
theorem post_lst {m : Bool} {p : Addr} {vs : List V} {ds : List D} (k : Wok (mdOf X) B W H S) (e : EnvR (mdOf X) W σ ρ) (r : RepL (mdOf X) W vs ds) (q : Post (mdOf X) B σ ρ W (Rep (mdOf X)) Q (fresh m (.lst ds) S)) (n : H p = none) : Q (.ref p) (upd H p (.lst vs)) := by
  cases m with
  | false =>
    have l : Le W (W.plus p (.lst vs)) := Le.plus (k.newF n)
    exact q (W.plus p (.lst vs)) (.ref p) _ l (k.plus n) (e.le l.toF) (.lst upd_same (r.le l.toF))
  | true =>
    have l : Le W (W.more p) := Le.more
    refine q (W.more p) (.ref p) _ l (k.more n ⟨vs, upd_same, r.le l.toF⟩) (e.le l.toF) (.ref ?_)
    show (W.ρ ++ [p])[S.length]? = some p
    rw [← k.len, List.getElem?_append_right (Nat.le_refl _), Nat.sub_self]
    rfl
theorem post_scal (k : Wok (mdOf X) B W H S) (e : EnvR (mdOf X) W σ ρ) (r : Rep (mdOf X) W v d) (q : Post (mdOf X) B σ ρ W (Rep (mdOf X)) Q (ret d S)) : Q v H := post_ok k e r q
theorem Shows.int {i : Int} (h : Shows (mdOf X) W H v (.int i)) : v = .int i := by
  cases h with
  | of h _ _ _ => cases h; rfl
theorem Shows.str {i : Str} (h : Shows (mdOf X) W H v (.str i)) : v = .str i := by
  cases h with
  | of h _ _ _ => cases h; rfl
theorem Shows.bl {i : Bool} (h : Shows (mdOf X) W H v (.bl i)) : v = .bl i := by
  cases h with
  | of h _ _ _ => cases h; rfl
theorem Shows.non (h : Shows (mdOf X) W H v .non) : v = .non := by
  cases h with
  | of h _ _ _ => cases h; rfl
theorem Shows.tupE {ds : List D} (h : Shows (mdOf X) W H v (.tup ds)) : ∃ a vs, v = .ref a ∧ SqT X.K H a vs ∧ RepL (mdOf X) W vs ds ∧ Rep (mdOf X) W v (.tup ds) := by
  cases h with
  | of _ h _ _ => exact absurd rfl (h _)
  | tup h r hr => exact ⟨_, _, rfl, h, r, hr⟩
theorem Shows.lstE {ds : List D} (h : Shows (mdOf X) W H v (.lst ds)) : ∃ a vs, v = .ref a ∧ Rd H a (.lst vs) ∧ RepL (mdOf X) W vs ds := by
  cases h with
  | of _ _ h _ => exact absurd rfl (h _)
  | lst h r => exact ⟨_, _, rfl, h, r⟩
/-- the very object of a list -/
theorem lstAt (I : Inv X pins σ H s) {l : Addr} {xs : List V} (h : Rd H l (.lst xs)) : xs.length ≤ sizeLine ∧ ∃ (its : List Value) (n : Nat), Vals xs its ∧ s.heap.get? l = some { cls := .type "list", data := .seq its.toArray n } := h.ok I.hok
theorem small_ok {i : Int} (h : smallB i = true) : -(2 ^ 64) < i ∧ i < 2 ^ 64 := by
  unfold smallB at h
  rw [Bool.and_eq_true, decide_eq_true_eq, decide_eq_true_eq] at h
  exact h
theorem bin_add_lst (I : Inv X pins σ H s) {l b : Addr} {xs ys : List V} (h1 : Rd H l (.lst xs)) (h2 : Rd H b (.lst ys)) (hz : xs.length + ys.length ≤ sizeLine) (q : ∀ p, H p = none → Q (.ref p) (upd H p (.lst (xs ++ ys)))) :
    wpAny (model X.prog X.w) X.A (binaryOp .Add (.ref l) (.ref b)) (EP X pins σ Q) X.xe s := by
  obtain ⟨z, its, n, r, e⟩ := lstAt I h1
  obtain ⟨z2, its2, n2, r2, e2⟩ := lstAt I h2
  refine PySem.P.add_list e e2 ?_ (by rw [List.size_toArray, List.size_toArray, ← r.length, ← r2.length]; exact hz)
  have ea : its.toArray ++ its2.toArray = (its ++ its2).toArray := by simp
  rw [ea]
  exact ⟨.ref _, _, I.lnew (t' := s.toks) (r.append r2) (by rw [List.length_append]; omega), rfl, q _ I.fresh⟩
theorem bin_mul_lst (I : Inv X pins σ H s) {l : Addr} {xs : List V} {k : Int} {t : Tok} (h1 : Rd H l (.lst xs)) (h0 : 0 ≤ k) (h2 : k ≤ 1000) (h3 : xs.length ≤ 1000) (q : ∀ p, H p = none → Q (.ref p) (upd H p (.lst (List.replicate k.toNat xs).flatten))) :
    wpAny (model X.prog X.w) X.A (binaryOp .Mult (.ref l) (.int k t)) (EP X pins σ Q) X.xe s := by
  obtain ⟨z, its, n, r, e⟩ := lstAt I h1
  have hl := r.length
  have hlen0 : xs.length * k.toNat ≤ sizeLine := by
    rw [sizeLine_eq]
    have a1 : xs.length * k.toNat ≤ 1000 * 1000 := Nat.mul_le_mul h3 (by omega)
    omega
  have hlen : its.toArray.size * k.toNat ≤ sizeLine := by rw [List.size_toArray, ← hl]; exact hlen0
  have hcap : ¬ its.toArray.size * k.toNat > (2 ^ 63 - 1) / 8 := by
    have : (sizeLine : Nat) ≤ (2 ^ 63 - 1) / 8 := by decide
    omega
  have hfit : ¬ (!Builtin.List.listFitsIndex k) = true := by
    rw [fitsIndex_both (by omega) (by omega)]
    exact Bool.false_ne_true
  have hlong : ¬ Builtin.List.listTooLong (its.toArray.size * k.toNat) = true := by
    rw [notLongL hlen]
    exact Bool.false_ne_true
  have hnew : List.foldl (fun x1 x2 => x1 ++ x2) #[] (List.replicate (if its.toArray.isEmpty = true then 0 else k.toNat) its.toArray) = (List.replicate k.toNat its).flatten.toArray := by
    have f0 : ∀ m : Nat, List.foldl (fun x1 x2 => x1 ++ x2) #[] (List.replicate m its.toArray) = (List.replicate m its).flatten.toArray := fun m => by
      have := foldl_rep its m []
      rw [List.nil_append] at this
      exact this
    rw [f0]
    cases its with
    | nil => simp
    | cons a r' => rw [if_neg (by simp)]
  refine wpAny_binaryOp_repeat_ref (T := "list") (U := "int") (by decide) ⟨_, e, rfl⟩ (fun s' => typeIs_int s' k t) noFill_list_mul F.fills_int_mul F.slot_int_rmul repeat_list F.slot_int_index.lookup
    (call_meets F.slot_int_rmul (typeIs_int s k t) F.entry_int_rmul (F.args_int_rmul_2 _ _) (int___rmul___int_list k t l its.toArray n)
      ⟨e, rfl, ⟨_, e, rfl⟩, call_meets F.slot_list_mul ⟨_, e, rfl⟩ F.entry_list_mul (F.args_list_mul_2 _ _) (AutoListH.list___mul___list_int_3 l its.toArray n k t hfit hcap hlong) ⟨e, ?_⟩⟩)
  rw [hnew]
  exact ⟨.ref _, _, I.lnew (t' := s.toks) (r.rep k.toNat) (by rw [PyProof.Rows.lm_len_rep_flat, Nat.mul_comm]; exact hlen0), rfl, q _ I.fresh⟩
/-- an operator -/
theorem binM_ok {G : Gl} {op : Operator} {ps : Pos} (I : Inv X pins σ H s) (k : Wok (mdOf X) B W H S) (e : EnvR (mdOf X) W σ ρ) (hx : Rep (mdOf X) W v x) (hy : Rep (mdOf X) W u y) (rx : RelV v a) (ry : RelV u b)
    (q : Post (mdOf X) B σ ρ W (Rep (mdOf X)) Q (binM G op ps x y S)) : wpAny (model X.prog X.w) X.A (binaryOp op a b) (EP X pins σ Q) X.xe s := by
  have sx := hx.view k
  have sy := hy.view k
  have q : Post (mdOf X) B σ ρ W (Rep (mdOf X)) Q ((match binD op (view S x) (view S y) with
    | some d => if isList d then fresh (G.isMut ps) d else ret d
    | none => stuck) S) := q
  generalize view S x = x' at sx q
  generalize view S y = y' at sy q
  cases hb : binD op x' y' with
  | none => rw [hb] at q; exact q.elim
  | some d =>
    rw [hb] at q
    unfold binD at hb
    split at hb
    · cases hb; cases sx.int; cases sy.int
      exact op_add pins s σ H _ _ a b Q I rx ry ⟨_, _, rfl, rfl, post_ok k e (.int _) q⟩
    · split at hb
      · rename_i hz
        cases hb; cases sx.str; cases sy.str
        exact op_add_str pins s σ H _ _ a b Q I rx ry ⟨_, _, rfl, rfl, by rw [← line_eq]; exact hz, post_ok k e (.str _) q⟩
      · cases hb
    · split at hb
      · rename_i hz
        cases hb
        obtain ⟨l, vs, rfl, h1, r1, R1⟩ := sx.tupE
        obtain ⟨l2, us, rfl, h2, r2, R2⟩ := sy.tupE
        refine op_catA pins s σ H _ _ a b Q I rx ry ⟨l, l2, vs, us, rfl, rfl, h1, h2, by rw [r1.length, r2.length, ← line_eq]; exact hz, fun z => ?_, fun _ z => ?_, fun _ _ p n => ?_⟩
        · subst z
          cases r1
          exact post_ok k e R2 q
        · subst z
          cases r2
          rw [List.append_nil] at q
          exact post_ok k e R1 q
        · exact post_tup k e (r1.append r2) q n
      · cases hb
    · split at hb
      · rename_i hz
        cases hb
        obtain ⟨l, vs, rfl, h1, r1⟩ := sx.lstE
        obtain ⟨l2, us, rfl, h2, r2⟩ := sy.lstE
        cases rx
        cases ry
        exact bin_add_lst I h1 h2 (by rw [r1.length, r2.length, ← line_eq]; exact hz) fun p n => post_lst k e (r1.append r2) q n
      · cases hb
    · cases hb; cases sx.int; cases sy.int
      exact op_sub pins s σ H _ _ a b Q I rx ry ⟨_, _, rfl, rfl, post_ok k e (.int _) q⟩
    · split at hb
      · rename_i hz
        cases hb; cases sx.int; cases sy.int
        rw [Bool.or_eq_true] at hz
        refine op_mul pins s σ H _ _ a b Q I rx ry ⟨_, _, rfl, rfl, ?_, post_ok k e (.int _) q⟩
        rcases hz with hz | hz
        · exact .inl (small_ok hz)
        · exact .inr (small_ok hz)
      · cases hb
    · split at hb
      · rename_i hz
        cases hb; cases sy.int
        obtain ⟨l, vs, rfl, h1, r1, R1⟩ := sx.tupE
        simp only [Bool.and_eq_true, Bool.not_eq_true', decide_eq_true_eq] at hz
        obtain ⟨⟨⟨z1, z2⟩, z3⟩, z4⟩ := hz
        refine op_repT pins s σ H _ _ a b Q I rx ry ⟨l, _, vs, rfl, rfl, h1, fun z => ?_, z2, z3, by rw [r1.length]; exact z4, fun p n => post_tup k e (r1.flatten _) q n⟩
        subst z
        cases r1
        cases z1
      · cases hb
    · split at hb
      · rename_i hz
        cases hb; cases sy.int
        obtain ⟨l, vs, rfl, h1, r1⟩ := sx.lstE
        simp only [Bool.and_eq_true, decide_eq_true_eq] at hz
        obtain ⟨⟨z2, z3⟩, z4⟩ := hz
        cases rx
        obtain ⟨t, rfl⟩ := ry
        exact bin_mul_lst I h1 z2 z3 (by rw [r1.length]; exact z4) fun p n => post_lst k e (r1.flatten _) q n
      · cases hb
    · split at hb
      · rename_i hz
        cases hb; cases sx.int; cases sy.int
        rw [Bool.and_eq_true, decide_eq_true_eq, decide_eq_true_eq] at hz
        exact op_fdiv pins s σ H _ _ a b Q I rx ry ⟨_, _, rfl, rfl, hz, post_ok k e (.int _) q⟩
      · cases hb
    · split at hb
      · rename_i hz
        cases hb; cases sx.int; cases sy.int
        exact op_mod pins s σ H _ _ a b Q I rx ry ⟨_, _, rfl, rfl, of_decide_eq_true hz, post_ok k e (.int _) q⟩
      · cases hb
    · split at hb
      · rename_i hz
        cases hb; cases sx.int; cases sy.int
        rw [Bool.and_eq_true, Bool.and_eq_true, decide_eq_true_eq, decide_eq_true_eq] at hz
        refine op_pow pins s σ H _ _ a b Q I rx ry ⟨_, _, rfl, rfl, ⟨hz.1.1, hz.1.2, ?_⟩, post_ok k e (.int _) q⟩
        have := small_ok hz.2
        omega
      · cases hb
    · cases hb
end
end Ly

/-! Ly: truth, items, slices, built-in functions. -/
set_option autoImplicit false
set_option linter.all false
set_option maxRecDepth 100000
set_option maxHeartbeats 1000000
namespace Ly
open PySem PySem.Spec PyProof.Rows L2

theorem arr_ext {x y : Str} (h : x.cps.toList = y.cps.toList) : x = y := by
  cases x with
  | mk a =>
    cases y with
    | mk b => exact congrArg Str.mk (Array.toList_inj.mp h)
theorem seq_eq {x y : Str} (h : seq x y = true) : x = y := arr_ext (by unfold seq at h; exact eq_of_beq h)
theorem seq_refl (x : Str) : seq x x = true := by unfold seq; exact beq_self_eq_true _
theorem seq_iff {x y : Str} : seq x y = true ↔ x = y := ⟨seq_eq, fun e => e ▸ seq_refl x⟩
section
variable {X : Cx} {pins : List (Addr × Obj)} {s : Shared} {σ : L2.St} {ρ : Env} {H : Hp} {B : List Nat} {W : Wd} {S : Sto} {v u : V} {x y d : D} {a b : Value} {Q : VK}
/-- truth -/
theorem tru_view {b : Bool} (h : Shows (mdOf X) W H v d) (e : truD d = some b) : TruV X.K v H b := by
  cases d with
  | non => cases h.non; exact (Option.some.inj e).symm
  | bl c => cases h.bl; exact (Option.some.inj e).symm
  | int i => cases h.int; exact (Option.some.inj e).symm
  | str z =>
    cases h.str
    have e : (if z.length ≤ line then some (z.length != 0) else none) = some b := e
    split at e
    · rename_i hz
      refine ⟨by rw [← line_eq]; exact hz, ?_⟩
      rw [← Option.some.inj e]
      cases z.length with
      | zero => rfl
      | succ n =>
        have : ¬ ((n + 1 : Nat) : Int) = 0 := by omega
        simp [bne]; omega
    · cases e
  | tup xs =>
    obtain ⟨a, vs, rfl, h1, r, _⟩ := h.tupE
    refine .inr (.inl ⟨vs, h1, ?_⟩)
    rw [← Option.some.inj e]
    cases r <;> rfl
  | lst xs =>
    obtain ⟨a, vs, rfl, h1, r⟩ := h.lstE
    refine .inl ⟨vs, .inl h1, ?_⟩
    rw [← Option.some.inj e]
    cases r <;> rfl
  | _ => cases e
theorem RepL.atI {μ : Md} {W : Wd} {vs : List V} {ds : List D} {i : Int} {d : D} (r : RepL μ W vs ds) (e : L2.atI ds i = some d) : ∃ v, L2.atI vs i = some v ∧ Rep μ W v d := by
  unfold L2.atI at e ⊢
  rw [r.length]
  cases h : L2.ixN ds.length i with
  | none => rw [h] at e; cases e
  | some j =>
    rw [h] at e
    exact r.get e
/-- xs[i] -/
theorem item_ok {av bv : Value} {value slice : Expr} (I : Inv X pins σ H s) (k : Wok (mdOf X) B W H S) (e : EnvR (mdOf X) W σ ρ) (hx : Rep (mdOf X) W v x) (hy : Rep (mdOf X) W u y) (rx : RelV v av) (ry : RelV u bv)
    (q : Post (mdOf X) B σ ρ W (Rep (mdOf X)) Q (itemM x y S)) (hs : subscripted slice false av bv = operate [av, bv] (getItem av bv)) (nd : ∀ kvs, view S x ≠ .dct kvs) :
    wpAny (model X.prog X.w) X.A (subscriptTail value slice av bv) (EP X pins σ Q) X.xe s := by
  have sx := hx.view k
  replace q : Post (mdOf X) B σ ρ W (Rep (mdOf X)) Q ((ofOp (itemD (view S x) y) : M D) S) := q
  generalize view S x = x' at sx q nd
  cases hb : itemD x' y with
  | none => rw [hb] at q; exact q.elim
  | some d =>
    rw [hb] at q
    replace q : Post (mdOf X) B σ ρ W (Rep (mdOf X)) Q (.ok d S) := q
    unfold itemD at hb
    split at hb
    · obtain ⟨l, vs, rfl, h1, r, _⟩ := sx.tupE
      obtain ⟨w, ew, rw'⟩ := r.atI hb
      cases hy
      exact ix_tup value slice pins s σ H _ _ av bv Q I rx ry ⟨l, vs, _, w, rfl, rfl, h1, ew, post_ok k e rw' q⟩ hs
    · obtain ⟨l, vs, rfl, h1, r⟩ := sx.lstE
      obtain ⟨w, ew, rw'⟩ := r.atI hb
      cases hy
      exact ix_list value slice pins s σ H _ _ av bv Q I rx ry ⟨l, vs, _, w, rfl, rfl, .inl h1, ew, post_ok k e rw' q⟩ hs
    · rename_i z i
      split at hb
      · rename_i hz
        cases sx.str
        cases hy
        cases hc : L2.atI z.cps.toList i with
        | none => rw [hc] at hb; cases hb
        | some c =>
          rw [hc] at hb
          cases hb
          exact ix_str value slice pins s σ H _ _ av bv Q I rx ry ⟨z, i, c, rfl, rfl, by rw [← line_eq]; exact hz, hc, post_ok k e (.str _) q⟩ hs
      · cases hb
    · exact absurd rfl (nd _)
    · cases hb
/-- xs[lo:hi] -/
def rCut (K : PySem.W.Frag) : V → Option Int → Option Int → Hp → VK → Prop := fun x lo hi H Q => rSlA K x lo hi H Q ∨ rSlL K x lo hi H Q ∨ rSlS x lo hi H Q
theorem sl_cut : SlR X (rCut X.K) := sl_tupA.or (sl_list.or sl_str)
theorem cutL_whole {α : Type} {xs : List α} {lo hi : Option Int} (h1 : HT.sIx xs.length 0 lo = 0) (h2 : HT.sIx xs.length xs.length hi = xs.length) : cutL xs lo hi = xs := by
  unfold cutL
  rw [h1, h2, List.drop_zero, Nat.sub_zero, List.take_length]
theorem RepL.cut {μ : Md} {W : Wd} {vs : List V} {ds : List D} (r : RepL μ W vs ds) (lo hi : Option Int) : RepL μ W (cutV vs lo hi) (cutL ds lo hi) := by
  unfold cutV cutL
  rw [r.length]
  exact (r.drop _).take _
theorem cut_ok {m : Bool} {G : Gl} {p : Pos} {lo hi : Option Int} (k : Wok (mdOf X) B W H S) (e : EnvR (mdOf X) W σ ρ) (hx : Rep (mdOf X) W v x) (q : Post (mdOf X) B σ ρ W (Rep (mdOf X)) Q ((viewed x fun x => newM G p (cutD lo hi x)) S)) : rCut X.K v lo hi H Q := by
  have sx := hx.view k
  replace q : Post (mdOf X) B σ ρ W (Rep (mdOf X)) Q (newM G p (cutD lo hi (view S x)) S) := q
  generalize view S x = x' at sx q
  cases x' with
  | tup xs =>
    obtain ⟨l, vs, rfl, h1, r, R⟩ := sx.tupE
    replace q : Post (mdOf X) B σ ρ W (Rep (mdOf X)) Q (.ok (.tup (cutL xs lo hi)) S) := q
    refine .inl ⟨l, vs, rfl, h1, fun h => ?_, fun h p n => post_tup k e (r.cut lo hi) q n⟩
    rw [r.length] at h
    rw [cutL_whole h.1 h.2] at q
    exact post_ok k e R q
  | lst xs =>
    obtain ⟨l, vs, rfl, h1, r⟩ := sx.lstE
    exact .inr (.inl ⟨l, vs, rfl, .inl h1, fun p n => post_lst k e (r.cut lo hi) q n⟩)
  | str z =>
    cases sx.str
    by_cases hz : z.length ≤ line
    · replace q : Post (mdOf X) B σ ρ W (Rep (mdOf X)) Q (newM G p (if z.length ≤ line then some (.str ⟨(cutL z.cps.toList lo hi).toArray⟩) else none) S) := q
      rw [if_pos hz] at q
      replace q : Post (mdOf X) B σ ρ W (Rep (mdOf X)) Q (.ok (.str ⟨(cutL z.cps.toList lo hi).toArray⟩) S) := q
      refine .inr (.inr ⟨z, rfl, by rw [← line_eq]; exact hz, ?_⟩)
      have ec : cutS z lo hi = ⟨(cutL z.cps.toList lo hi).toArray⟩ := by
        unfold cutS cutL
        first | rfl | (rw [Array.length_toList]; rfl)
      rw [ec]
      exact post_ok k e (.str _) q
    · replace q : Post (mdOf X) B σ ρ W (Rep (mdOf X)) Q (newM G p (if z.length ≤ line then some (.str ⟨(cutL z.cps.toList lo hi).toArray⟩) else none) S) := q
      rw [if_neg hz] at q
      exact q.elim
  | _ => exact q.elim
end
end Ly

/-! Ly: least, greatest, sorted, of data. -/
set_option autoImplicit false
set_option linter.all false
set_option maxRecDepth 100000
set_option maxHeartbeats 1000000
namespace Ly
open PySem PySem.Spec PyProof.Rows L2

/-! ### the data behind -/
mutual
theorem py_inj : ∀ {d d' : D} {p : PyData}, d.py = some p → d'.py = some p → d = d'
  | .non, d', p, e, e' => by
    have e : some PyData.none = some p := by rw [← e]; simp only [D.py]
    cases e
    cases d' with
    | non => rfl
    | tup xs => rw [D.py] at e'; cases q : pyAll xs with | none => rw [q] at e'; cases e' | some _ => rw [q] at e'; cases e'
    | lst xs => rw [D.py] at e'; cases q : pyAll xs with | none => rw [q] at e'; cases e' | some _ => rw [q] at e'; cases e'
    | _ => simp only [D.py] at e'; cases e'
  | .bl b, d', p, e, e' => by
    have e : some (PyData.bool b) = some p := by rw [← e]; simp only [D.py]
    cases e
    cases d' with
    | bl b => simp only [D.py] at e'; cases e'; rfl
    | tup xs => rw [D.py] at e'; cases q : pyAll xs with | none => rw [q] at e'; cases e' | some _ => rw [q] at e'; cases e'
    | lst xs => rw [D.py] at e'; cases q : pyAll xs with | none => rw [q] at e'; cases e' | some _ => rw [q] at e'; cases e'
    | _ => simp only [D.py] at e'; cases e'
  | .int b, d', p, e, e' => by
    have e : some (PyData.int b) = some p := by rw [← e]; simp only [D.py]
    cases e
    cases d' with
    | int b => simp only [D.py] at e'; cases e'; rfl
    | tup xs => rw [D.py] at e'; cases q : pyAll xs with | none => rw [q] at e'; cases e' | some _ => rw [q] at e'; cases e'
    | lst xs => rw [D.py] at e'; cases q : pyAll xs with | none => rw [q] at e'; cases e' | some _ => rw [q] at e'; cases e'
    | _ => simp only [D.py] at e'; cases e'
  | .str b, d', p, e, e' => by
    have e : some (PyData.str b) = some p := by rw [← e]; simp only [D.py]
    cases e
    cases d' with
    | str b => simp only [D.py] at e'; cases e'; rfl
    | tup xs => rw [D.py] at e'; cases q : pyAll xs with | none => rw [q] at e'; cases e' | some _ => rw [q] at e'; cases e'
    | lst xs => rw [D.py] at e'; cases q : pyAll xs with | none => rw [q] at e'; cases e' | some _ => rw [q] at e'; cases e'
    | _ => simp only [D.py] at e'; cases e'
  | .tup xs, d', p, e, e' => by
    rw [D.py] at e
    cases q : pyAll xs with
    | none => rw [q] at e; cases e
    | some ps =>
      rw [q] at e
      cases e
      cases d' with
      | tup ys =>
        rw [D.py] at e'
        cases q' : pyAll ys with
        | none => rw [q'] at e'; cases e'
        | some ps' =>
          rw [q'] at e'
          cases e'
          rw [pyAll_inj q q']
      | lst ys => rw [D.py] at e'; cases q : pyAll ys with | none => rw [q] at e'; cases e' | some _ => rw [q] at e'; cases e'
      | _ => simp only [D.py] at e'; cases e'
  | .lst xs, d', p, e, e' => by
    rw [D.py] at e
    cases q : pyAll xs with
    | none => rw [q] at e; cases e
    | some ps =>
      rw [q] at e
      cases e
      cases d' with
      | lst ys =>
        rw [D.py] at e'
        cases q' : pyAll ys with
        | none => rw [q'] at e'; cases e'
        | some ps' =>
          rw [q'] at e'
          cases e'
          rw [pyAll_inj q q']
      | tup ys => rw [D.py] at e'; cases q : pyAll ys with | none => rw [q] at e'; cases e' | some _ => rw [q] at e'; cases e'
      | _ => simp only [D.py] at e'; cases e'
  | .dct _, _, _, e, _ => by simp only [D.py] at e; cases e
  | .set _, _, _, e, _ => by simp only [D.py] at e; cases e
  | .ref _, _, _, e, _ => by simp only [D.py] at e; cases e
  | .fn _, _, _, e, _ => by simp only [D.py] at e; cases e
theorem pyAll_inj : ∀ {xs ys : List D} {ps : List PyData}, pyAll xs = some ps → pyAll ys = some ps → xs = ys
  | [], ys, ps, e, e' => by
    have e : some [] = some ps := by rw [← e]; simp only [pyAll]
    cases e
    cases ys with
    | nil => rfl
    | cons y ys => rw [pyAll] at e'; cases q1 : y.py with | none => rw [q1] at e'; cases e' | some _ => cases q2 : pyAll ys with | none => rw [q1, q2] at e'; cases e' | some _ => rw [q1, q2] at e'; cases e'
  | x :: xs, ys, ps, e, e' => by
    rw [pyAll] at e
    cases q1 : x.py with
    | none => rw [q1] at e; cases e
    | some p =>
      cases q2 : pyAll xs with
      | none => rw [q1, q2] at e; cases e
      | some ps2 =>
        rw [q1, q2] at e
        cases e
        cases ys with
        | nil => simp only [pyAll] at e'; cases e'
        | cons y ys =>
          rw [pyAll] at e'
          cases r1 : y.py with
          | none => rw [r1] at e'; cases e'
          | some p' =>
            cases r2 : pyAll ys with
            | none => rw [r1, r2] at e'; cases e'
            | some ps3 =>
              rw [r1, r2] at e'
              cases e'
              rw [py_inj q1 r1, pyAll_inj q2 r2]
end
theorem pyAll_cons {x : D} {xs : List D} {ps : List PyData} (h : pyAll (x :: xs) = some ps) : ∃ p qs, x.py = some p ∧ pyAll xs = some qs ∧ ps = p :: qs := by
  rw [pyAll] at h
  cases q1 : x.py with
  | none => rw [q1] at h; cases h
  | some p =>
    cases q2 : pyAll xs with
    | none => rw [q1, q2] at h; cases h
    | some qs =>
      rw [q1, q2] at h
      exact ⟨p, qs, rfl, rfl, (Option.some.inj h).symm⟩
theorem pyAll_nil {ps : List PyData} (h : pyAll [] = some ps) : ps = [] := by
  simp only [pyAll] at h
  exact (Option.some.inj h).symm
theorem pyAll_get : ∀ {xs : List D} {ps : List PyData} {i : Nat} {p : PyData}, pyAll xs = some ps → ps[i]? = some p → ∃ d, xs[i]? = some d ∧ d.py = some p
  | [], ps, i, p, h, e => by rw [pyAll_nil h] at e; simp at e
  | x :: xs, ps, 0, p, h, e => by
    obtain ⟨p', qs, h1, h2, rfl⟩ := pyAll_cons h
    simp only [List.getElem?_cons_zero, Option.some.injEq] at e
    subst e
    exact ⟨x, rfl, h1⟩
  | x :: xs, ps, i + 1, p, h, e => by
    obtain ⟨p', qs, h1, h2, rfl⟩ := pyAll_cons h
    simp only [List.getElem?_cons_succ] at e
    obtain ⟨d, h3, h4⟩ := pyAll_get h2 e
    exact ⟨d, by simpa using h3, h4⟩
theorem pyAll_map : ∀ {xs : List D} {ps : List PyData}, pyAll xs = some ps → ps = xs.map fun d => d.py.getD .none
  | [], ps, h => pyAll_nil h
  | x :: xs, ps, h => by
    obtain ⟨p', qs, h1, h2, rfl⟩ := pyAll_cons h
    rw [List.map_cons, h1, ← pyAll_map h2]
    rfl
theorem pyAll_some : ∀ {xs : List D} {ps : List PyData}, pyAll xs = some ps → ∀ d ∈ xs, ∃ p, d.py = some p
  | x :: xs, ps, h, d, hd => by
    obtain ⟨p', qs, h1, h2, rfl⟩ := pyAll_cons h
    rcases List.mem_cons.mp hd with rfl | hd
    · exact ⟨p', h1⟩
    · exact pyAll_some h2 d hd
theorem ltPy_some {a b : D} {p q : PyData} (h : a.py = some p) (h' : b.py = some q) : ltPy a b = PySem.W.dataLt p q := by
  unfold ltPy
  rw [h, h']
theorem minL_py : ∀ {xs : List D} {ps : List PyData} {x : D} {p : PyData}, x.py = some p → pyAll xs = some ps → (minL x xs).py = some (PySem.W.minD p ps)
  | [], ps, x, p, h, h' => by rw [pyAll_nil h']; exact h
  | y :: ys, ps, x, p, h, h' => by
    obtain ⟨q, qs, h1, h2, rfl⟩ := pyAll_cons h'
    show (minL (if ltPy y x then y else x) ys).py = some (PySem.W.minD (if PySem.W.dataLt q p then q else p) qs)
    rw [ltPy_some h1 h]
    cases PySem.W.dataLt q p with
    | true => exact minL_py h1 h2
    | false => exact minL_py h h2
theorem maxL_py : ∀ {xs : List D} {ps : List PyData} {x : D} {p : PyData}, x.py = some p → pyAll xs = some ps → (maxL x xs).py = some (PySem.W.maxD p ps)
  | [], ps, x, p, h, h' => by rw [pyAll_nil h']; exact h
  | y :: ys, ps, x, p, h, h' => by
    obtain ⟨q, qs, h1, h2, rfl⟩ := pyAll_cons h'
    show (maxL (if ltPy x y then y else x) ys).py = some (PySem.W.maxD (if PySem.W.dataLt p q then q else p) qs)
    rw [ltPy_some h h1]
    cases PySem.W.dataLt p q with
    | true => exact maxL_py h1 h2
    | false => exact maxL_py h h2
theorem depth_all {ps : List PyData} (h : ps.all deepOk = true) : PyData.depthAll ps ≤ 64 := by
  induction ps with
  | nil => exact Nat.zero_le _
  | cons p ps ih =>
    rw [List.all_cons, Bool.and_eq_true] at h
    have h1 := of_decide_eq_true h.1
    have h2 := ih h.2
    have e : PyData.depthAll (p :: ps) = max p.depth (PyData.depthAll ps) := by first | rfl | simp only [PyData.depthAll]
    omega
theorem alike_of {ds : List PyData} (h : allAlike ds = true) : ∀ x ∈ ds, ∀ y ∈ ds, PySem.W.alike x y = true := fun x hx y hy => List.all_eq_true.mp (List.all_eq_true.mp h x hx) y hy
theorem nonnon_of {ds : List PyData} (h : (ds.all fun d => !isNonPy d) = true) : ∀ x ∈ ds, x ≠ .none := fun x hx => isNonPy_ne (by
  have := List.all_eq_true.mp h x hx
  simpa using this)
theorem pick_some {mx : Bool} {xs : List D} {d : D} (h : pickD mx xs = some d) : ∃ x r p ps, xs = x :: r ∧ x.py = some p ∧ pyAll r = some ps ∧ PySem.W.AlikeAll (p :: ps) ∧ PyData.depthAll (p :: ps) ≤ 64 ∧ ((x :: r).all fun d => !isList d) = true ∧ d = if mx then maxL x r else minL x r := by
  cases xs with
  | nil => cases h
  | cons x r =>
    replace h : (match pyAll (x :: r) with
      | some ds => if allAlike ds && (ds.all fun d => !isNonPy d) && (ds.all deepOk) && ((x :: r).all fun d => !isList d) then some (if mx then maxL x r else minL x r) else none
      | none => none) = some d := h
    cases q : pyAll (x :: r) with
    | none => rw [q] at h; cases h
    | some ds =>
      rw [q] at h
      simp only at h
      split at h
      · rename_i hc
        simp only [Bool.and_eq_true] at hc
        obtain ⟨p, ps, h1, h2, rfl⟩ := pyAll_cons q
        exact ⟨x, r, p, ps, rfl, h1, h2, ⟨alike_of hc.1.1.1, nonnon_of hc.1.1.2⟩, depth_all hc.1.2, hc.2, (Option.some.inj h).symm⟩
      · cases h
theorem minL_mem : ∀ (xs : List D) (x : D), minL x xs ∈ x :: xs
  | [], x => List.mem_singleton.mpr rfl
  | y :: ys, x => by
    show minL (if ltPy y x then y else x) ys ∈ _
    have h := minL_mem ys (if ltPy y x then y else x)
    rcases List.mem_cons.mp h with h | h
    · rw [h]
      split
      · exact List.mem_cons_of_mem _ List.mem_cons_self
      · exact List.mem_cons_self
    · exact List.mem_cons_of_mem _ (List.mem_cons_of_mem _ h)
theorem maxL_mem : ∀ (xs : List D) (x : D), maxL x xs ∈ x :: xs
  | [], x => List.mem_singleton.mpr rfl
  | y :: ys, x => by
    show maxL (if ltPy x y then y else x) ys ∈ _
    have h := maxL_mem ys (if ltPy x y then y else x)
    rcases List.mem_cons.mp h with h | h
    · rw [h]
      split
      · exact List.mem_cons_of_mem _ List.mem_cons_self
      · exact List.mem_cons_self
    · exact List.mem_cons_of_mem _ (List.mem_cons_of_mem _ h)
theorem pick_flat {mx : Bool} {xs : List D} {r : D} (h : pickD mx xs = some r) : (isList r || isDct r) = false := by
  obtain ⟨x, t, p, ps, rfl, h1, h2, _, _, h3, e⟩ := pick_some h
  have hm : r ∈ x :: t := by
    rw [e]
    cases mx
    · exact minL_mem t x
    · exact maxL_mem t x
  have hp : ∃ q, r.py = some q := by
    rw [e]
    cases mx
    · exact ⟨_, minL_py h1 h2⟩
    · exact ⟨_, maxL_py h1 h2⟩
  have hl := List.all_eq_true.mp h3 r hm
  cases r with
  | lst _ => cases hl
  | dct _ => obtain ⟨q, hq⟩ := hp; simp only [D.py] at hq; cases hq
  | _ => rfl
section
variable {X : Cx} {pins : List (Addr × Obj)} {s : Shared} {σ : L2.St} {ρ : Env} {H : Hp} {B : List Nat} {W : Wd} {S : Sto} {v u : V} {x y d : D} {a b : Value} {Q : VK}
theorem Vals.getU : ∀ {xs : List V} {us : List Value} {i : Nat} {u : Value}, Vals xs us → us[i]? = some u → ∃ x, xs[i]? = some x ∧ RelV x u
  | _, _, _, _, .nil, h => by simp at h
  | _, _, 0, _, .cons r _, h => by
    simp only [List.getElem?_cons_zero, Option.some.injEq] at h
    subst h
    exact ⟨_, rfl, r⟩
  | _, _, i + 1, u, .cons _ r, h => by
    simp only [List.getElem?_cons_succ] at h
    obtain ⟨x, h1, h2⟩ := Vals.getU r h
    exact ⟨x, by simpa using h1, h2⟩
/-- the i-th item is what it reads as -/
theorem pick_at {vs : List V} {its : List Value} {ds : List D} {ps : List PyData} {i : Nat} {w : Value} {P : PyData} {h' : Heap} {bs : List Addr} {t : Nat} (k : Wok (mdOf X) B W H S) (I : Inv X pins σ H { s with heap := h', toks := t }) (r : RepL (mdOf X) W vs ds) (rv : Vals vs its) (hp : pyAll ds = some ps)
    (hi : its[i]? = some w) (hr : Reads h' w P bs) {d : D} (hd : d.py = some P) : ∃ v, RelV v w ∧ Rep (mdOf X) W v d := by
  obtain ⟨v, hv, rw'⟩ := Vals.getU rv hi
  obtain ⟨d', hd', r'⟩ := r.getV hv
  obtain ⟨p, hp'⟩ := pyAll_some hp d' (List.mem_of_getElem? hd')
  obtain ⟨as, hr'⟩ := Dp.reads I p v w (r'.dp k hp') rw'
  have := SeqAt.plain_unique p P w as bs (py_plain hp') hr' hr
  subst this
  rw [← py_inj hp' hd]
  exact ⟨v, rw', r'⟩
/-- max or min of a list -/
theorem pick_ok {mx : Bool} {l : Addr} {xs : List D} {vs : List V} (hh : X.A.handled = none) (hu : X.A.units + 200 < cLine) (I : Inv X pins σ H s) (k : Wok (mdOf X) B W H S) (e : EnvR (mdOf X) W σ ρ) (hl : Rd H l (.lst vs)) (r : RepL (mdOf X) W vs xs) (hd : pickD mx xs = some d)
    (q : Post (mdOf X) B σ ρ W (Rep (mdOf X)) Q (.ok d S)) : wpAny (model X.prog X.w) X.A (call (.builtin (if mx then "max" else "min")) [.ref l]) (EP X pins σ Q) X.xe s := by
  obtain ⟨x, t, p, ps, rfl, h1, h2, al, dp, _, rfl⟩ := pick_some hd
  obtain ⟨its, rv, pl, hz⟩ := I.list (.inl hl)
  have hp : pyAll (x :: t) = some (p :: ps) := by rw [pyAll, h1, h2]
  obtain ⟨as, ra⟩ := Dp.readsAll I (p :: ps) vs its (r.dp k hp) rv
  cases mx with
  | true =>
    refine PySem.W.max_list_data (vs := its.toArray) hh pl.isList (by simpa using ra) al (by omega) fun i w h' tk bs hi hr hk => ?_
    have I1 : Inv X pins σ H { s with heap := h', toks := tk } := I.kept hk
    obtain ⟨v, rv', rp⟩ := pick_at k I1 r rv hp (by simpa using hi) hr (maxL_py h1 h2)
    exact ⟨v, H, I1, rv', post_ok k e rp q⟩
  | false =>
    refine PySem.W.min_list_data (vs := its.toArray) hh pl.isList (by simpa using ra) al (by omega) fun i w h' tk bs hi hr hk => ?_
    have I1 : Inv X pins σ H { s with heap := h', toks := tk } := I.kept hk
    obtain ⟨v, rv', rp⟩ := pick_at k I1 r rv hp (by simpa using hi) hr (minL_py h1 h2)
    exact ⟨v, H, I1, rv', post_ok k e rp q⟩
/-! ### sorted -/
abbrev encD (z : V × D) : PyData := z.2.py.getD .none
theorem sort_some {xs ys : List D} (h : sortD xs = some ys) : ∃ ps, pyAll xs = some ps ∧ PySem.W.AllAlike ps ∧ PySem.W.Sortable ps ∧ (ps.all deepOk = true) ∧ ys = xs.mergeSort fun a b => !ltPy b a := by
  unfold sortD at h
  cases q : pyAll xs with
  | none => rw [q] at h; cases h
  | some ps =>
    rw [q] at h
    simp only at h
    split at h
    · rename_i hc
      simp only [Bool.and_eq_true] at hc
      refine ⟨ps, rfl, alike_of hc.1.1, ?_, hc.2, (Option.some.inj h).symm⟩
      have h2 := hc.1.2
      unfold sortableB at h2
      rw [Bool.or_eq_true] at h2
      rcases h2 with h2 | h2
      · refine .inl fun d hd => ?_
        have := List.all_eq_true.mp h2 d hd
        split at this
        · exact ⟨_, _, rfl⟩
        · cases this
      · refine .inr fun d hd => ?_
        have := List.all_eq_true.mp h2 d hd
        refine ⟨fun e => ?_, fun xs e => ?_⟩
        · subst e; cases this
        · subst e; cases this
    · cases h
theorem each_zip {its : List Value} : ∀ {vs : List V} {ds : List D} {its : List Value}, vs.length = ds.length → Vals vs its → PySem.W.EachIs (fun (w : Value) (z : V × D) => RelV z.1 w) its (vs.zip ds)
  | [], [], _, _, .nil => .nil
  | v :: vs, d :: ds, _, hl, .cons r rs => .cons r (each_zip (its := []) (by simpa using hl) rs)
theorem reads_zip {h : Heap} : ∀ {vs : List V} {ds : List D} {its : List Value} {ps : List PyData}, vs.length = ds.length → Vals vs its → pyAll ds = some ps → (∃ as, ReadsAll h its ps as) → PySem.W.EachIs (fun (w : Value) (z : V × D) => ∃ as, Reads h w (encD z) as) its (vs.zip ds)
  | [], [], _, _, _, .nil, _, _ => .nil
  | v :: vs, d :: ds, _, ps, hl, .cons r rs, hp, ⟨as, ra⟩ => by
    obtain ⟨p, qs, h1, h2, rfl⟩ := pyAll_cons hp
    cases ra with
    | cons r1 r2 =>
      have e1 : encD (v, d) = p := by show d.py.getD .none = p; rw [h1]; rfl
      exact .cons ⟨_, by rw [e1]; exact r1⟩ (reads_zip (by simpa using hl) rs h2 ⟨_, r2⟩)
theorem zip_enc : ∀ {vs : List V} {ds : List D}, vs.length = ds.length → (vs.zip ds).map encD = ds.map fun d => d.py.getD .none
  | [], [], _ => rfl
  | v :: vs, d :: ds, hl => by
    rw [List.zip_cons_cons, List.map_cons, List.map_cons, zip_enc (by simpa using hl)]
theorem zip_fst : ∀ {vs : List V} {ds : List D}, vs.length = ds.length → (vs.zip ds).map (·.2) = ds
  | [], [], _ => rfl
  | v :: vs, d :: ds, hl => by
    rw [List.zip_cons_cons, List.map_cons, zip_fst (by simpa using hl)]
theorem repL_zip {μ : Md} {W : Wd} : ∀ {vs : List V} {ds : List D}, RepL μ W vs ds → ∀ z ∈ vs.zip ds, Rep μ W z.1 z.2
  | _, _, .nil, z, hz => by simp at hz
  | _, _, .cons h r, z, hz => by
    rw [List.zip_cons_cons] at hz
    rcases List.mem_cons.mp hz with rfl | hz
    · exact h
    · exact repL_zip r z hz
theorem repL_of {μ : Md} {W : Wd} : ∀ {zs : List (V × D)}, (∀ z ∈ zs, Rep μ W z.1 z.2) → RepL μ W (zs.map (·.1)) (zs.map (·.2))
  | [], _ => .nil
  | z :: zs, h => .cons (h z List.mem_cons_self) (repL_of fun y hy => h y (List.mem_cons_of_mem _ hy))
theorem vals_each : ∀ {zs : List (V × D)} {its : List Value}, PySem.W.EachIs (fun (w : Value) (z : V × D) => RelV z.1 w) its zs → Vals (zs.map (·.1)) its
  | [], _, .nil => .nil
  | z :: zs, _, .cons h r => .cons h (vals_each r)
/-- sorted of a list -/
theorem sorted_ok {m : Bool} {l : Addr} {xs ys : List D} {vs : List V} (hu : X.A.units + 200 < cLine) (I : Inv X pins σ H s) (k : Wok (mdOf X) B W H S) (e : EnvR (mdOf X) W σ ρ) (hl : Rd H l (.lst vs)) (r : RepL (mdOf X) W vs xs) (hd : sortD xs = some ys)
    (q : Post (mdOf X) B σ ρ W (Rep (mdOf X)) Q (fresh m (.lst ys) S)) : wpAny (model X.prog X.w) X.A (call (.builtin "sorted") [.ref l]) (EP X pins σ Q) X.xe s := by
  obtain ⟨ps, hp, al, so, dp, rfl⟩ := sort_some hd
  obtain ⟨its, rv, pl, hz⟩ := I.list (.inl hl)
  have hlen := r.length
  obtain ⟨as, ra⟩ := Dp.readsAll I ps vs its (r.dp k hp) rv
  have em : (vs.zip xs).map encD = ps := by rw [zip_enc hlen, pyAll_map hp]
  have hzl : (vs.zip xs).length = vs.length := by rw [List.length_zip, ← hlen, Nat.min_self]
  refine PySem.W.sorted_data (vs := its) (bs := vs.zip xs) (enc := encD) pl.isList (each_zip (its := its) hlen rv) (reads_zip hlen rv hp ⟨as, ra⟩) (by rw [em]; exact al) (by rw [em]; exact so) (by rw [hzl]; exact hz) (fun b hb => ?_) fun out ho ho2 => ?_
  · have h1 : encD b ∈ ps := by rw [← em]; exact List.mem_map_of_mem hb
    have h2 := of_decide_eq_true (List.all_eq_true.mp dp _ h1)
    omega
  · generalize hzs : (vs.zip xs).mergeSort (PySem.W.dataLe false encD) = zs at ho2
    obtain ⟨ep, he'⟩ := PyProof.Rows.sortedAll_at s.heap its out.toArray
    have e2 : zs.map (·.2) = xs.mergeSort fun a b => !ltPy b a := by
      rw [← hzs]
      have h0 : (vs.zip xs).map (·.2) = xs := zip_fst hlen
      have := List.map_mergeSort (r := PySem.W.dataLe false encD) (s := fun a b : D => !ltPy b a) (f := fun z : V × D => z.2) (l := vs.zip xs) (fun a ha b hb => by
        have ha' : a.2 ∈ xs := by rw [← h0]; exact List.mem_map_of_mem ha
        have hb' : b.2 ∈ xs := by rw [← h0]; exact List.mem_map_of_mem hb
        obtain ⟨p, hpa⟩ := pyAll_some hp _ ha'
        obtain ⟨p', hpb⟩ := pyAll_some hp _ hb'
        rw [ltPy_some hpb hpa, PySem.W.dataLe_eq]
        show (!PySem.W.dataLt (b.2.py.getD .none) (a.2.py.getD .none)) = _
        rw [hpa, hpb]
        rfl)
      rw [this, h0]
    have rl : RepL (mdOf X) W (zs.map (·.1)) (xs.mergeSort fun a b => !ltPy b a) := by
      rw [← e2]
      refine repL_of fun z hz' => repL_zip r z ?_
      rw [← hzs] at hz'
      exact (List.mergeSort_perm _ _).mem_iff.mp hz'
    have hl2 : (zs.map (·.1)).length ≤ sizeLine := by
      rw [rl.length, (List.mergeSort_perm _ _).length_eq, ← hlen]
      exact hz
    exact ⟨.ref _, upd H (s.heap.objs.size + 1) (.lst (zs.map (·.1))), I.laid (t' := s.toks) (fun _ _ => PyProof.Rows.sortedAll_old) (Nat.le_succ _) ⟨hl2, out, ep, vals_each ho2, he'⟩, rfl, post_lst k e rl q (I.hok.fresh (Nat.le_succ _))⟩
end
end Ly

/-! Ly: max and min of two; the built-in functions together. -/
set_option autoImplicit false
set_option linter.all false
set_option maxRecDepth 100000
set_option maxHeartbeats 1000000
namespace Ly
open PySem PySem.Spec PyProof.Rows L2
section
variable {prog : Program} {w : World} {A : Around} {E : Value → Shared → Prop} {s : Shared}
theorem max_twoH {a b : Value} {x y : PyData} {as : List Addr} {Q : Value → Shared → Prop} (hh : A.handled = none) (hr : ReadsAll s.heap [a, b] [x, y] as) (ha : PySem.W.AlikeAll [x, y]) (hu : A.units + 1 + PyData.depthAll [x, y] < cLine)
    (h : ∀ (i : Nat) v h' tk bs, [a, b][i]? = some v → Reads h' v (PySem.W.maxD x [y]) bs → (∀ b o, s.heap.get? b = some o → h'.get? b = some o) → Q v { s with heap := h', toks := tk }) :
    wpAny (model prog w) A (call (.builtin "max") [a, b]) Q E s := by
  have hname : (toString "max" ++ toString ".loop" : String) = "max.loop" := by decide
  refine call_function_tree F.kind_max F.plain_max F.entry_max (F.args_max2 _ _) ?_
  show wpAny _ A.in1 (Builtin.Builtins.bindParams "max" ["key", "default"] 0 ⟨[], []⟩ >>= _) _ _ s
  refine wpAny_bind (wpAny_of_eq (show Builtin.Builtins.bindParams "max" ["key", "default"] 0 ⟨[], []⟩ = pure [none, none] from rfl) ?_)
  show wpAny _ A.in1 (newTuple [a, b] >>= _) _ _ s
  refine wpAny_bind (wpAny_newObj_type ?_)
  refine wpAny_bind ?_
  have hr1 : ReadsAll (s.heap.push { cls := .type "tuple", data := .seq #[a, b] }) [a, b] [x, y] as := by
    cases hr with
    | cons r1 r2 =>
      cases r2 with
      | cons r2 r3 =>
        cases r3
        exact .cons (PySem.W.reads_keeps (fun b o e => Heap.get?_push_of_some _ e) r1) (.cons (PySem.W.reads_keeps (fun b o e => Heap.get?_push_of_some _ e) r2) .nil)
  refine PySem.W.iter_tupleW (s := { s with heap := s.heap.push { cls := .type "tuple", data := .seq #[a, b] } }) (vs := #[a, b]) (A := A.in1) hh ⟨_, Heap.get?_push_size _ rfl, rfl, _, rfl⟩ fun s₂ e W hst hfp hw hkeep => ?_
  have hcmp := PySem.W.cmpIn_gt (prog := prog) (w := w) (s := { s with heap := s.heap.push { cls := .type "tuple", data := .seq #[a, b] } }) (A := A.in1) (vs := #[a, b]) hr1 ha (by show A.units + 1 + _ < _; exact hu)
  refine wpAny_bind (wpAny_newObj_type ?_)
  have hSf := fun hm => Nat.lt_irrefl s₂.heap.objs.size (hfp _ hm)
  rw [hname]
  refine wpAny_pure ⟨plainId_quiet F.plain_max_loop _, PySem.codeAny_max_loop_firstH W _ hw _ hcmp s₂.heap.objs.size hSf (PySem.fresh_in hkeep) _ (Nat.succ_pos 1) (fun b o e => Heap.get?_push_of_some _ (hkeep b o e)) (W.frame 0 s₂ _ s₂.toks hst (Nat.le_refl _) fun b _ o e => Heap.get?_push_of_some _ e) (Heap.get?_push_size _ rfl) fun v s' hP hm => ?_⟩
  have m := Moved.drop_new (tk := s₂.toks) hm (Nat.le_refl _)
  obtain ⟨h', tk, rfl, hk'⟩ := PySem.W.moved_old e rfl m
  obtain ⟨bs, r, _, _, _⟩ := PySem.W.readsAll_atA hr1 _ v hP
  have e2 := (PySem.W.argBest_fold (fun a b => PySem.W.dataLt b a) PyData.none x [y] 1 (Nat.le_refl _)).2
  exact h _ v h' tk bs (by simpa using hP) (PySem.W.reads_keeps hk' (by unfold PySem.W.maxD; rw [List.take_of_length_le (Nat.le_refl 1)] at e2; rw [← e2]; exact r)) fun b o e => hk' b o (Heap.get?_push_of_some _ e)
theorem min_twoH {a b : Value} {x y : PyData} {as : List Addr} {Q : Value → Shared → Prop} (hh : A.handled = none) (hr : ReadsAll s.heap [a, b] [x, y] as) (ha : PySem.W.AlikeAll [x, y]) (hu : A.units + 1 + PyData.depthAll [x, y] < cLine)
    (h : ∀ (i : Nat) v h' tk bs, [a, b][i]? = some v → Reads h' v (PySem.W.minD x [y]) bs → (∀ b o, s.heap.get? b = some o → h'.get? b = some o) → Q v { s with heap := h', toks := tk }) :
    wpAny (model prog w) A (call (.builtin "min") [a, b]) Q E s := by
  have hname : (toString "min" ++ toString ".loop" : String) = "min.loop" := by decide
  refine call_function_tree F.kind_min F.plain_min F.entry_min (F.args_min2 _ _) ?_
  show wpAny _ A.in1 (Builtin.Builtins.bindParams "min" ["key", "default"] 0 ⟨[], []⟩ >>= _) _ _ s
  refine wpAny_bind (wpAny_of_eq (show Builtin.Builtins.bindParams "min" ["key", "default"] 0 ⟨[], []⟩ = pure [none, none] from rfl) ?_)
  show wpAny _ A.in1 (newTuple [a, b] >>= _) _ _ s
  refine wpAny_bind (wpAny_newObj_type ?_)
  refine wpAny_bind ?_
  have hr1 : ReadsAll (s.heap.push { cls := .type "tuple", data := .seq #[a, b] }) [a, b] [x, y] as := by
    cases hr with
    | cons r1 r2 =>
      cases r2 with
      | cons r2 r3 =>
        cases r3
        exact .cons (PySem.W.reads_keeps (fun b o e => Heap.get?_push_of_some _ e) r1) (.cons (PySem.W.reads_keeps (fun b o e => Heap.get?_push_of_some _ e) r2) .nil)
  refine PySem.W.iter_tupleW (s := { s with heap := s.heap.push { cls := .type "tuple", data := .seq #[a, b] } }) (vs := #[a, b]) (A := A.in1) hh ⟨_, Heap.get?_push_size _ rfl, rfl, _, rfl⟩ fun s₂ e W hst hfp hw hkeep => ?_
  have hcmp := PySem.W.cmpIn_lt (prog := prog) (w := w) (s := { s with heap := s.heap.push { cls := .type "tuple", data := .seq #[a, b] } }) (A := A.in1) (vs := #[a, b]) hr1 ha (by show A.units + 1 + _ < _; exact hu)
  refine wpAny_bind (wpAny_newObj_type ?_)
  have hSf := fun hm => Nat.lt_irrefl s₂.heap.objs.size (hfp _ hm)
  rw [hname]
  refine wpAny_pure ⟨plainId_quiet F.plain_min_loop _, PySem.codeAny_min_loop_firstH W _ hw _ hcmp s₂.heap.objs.size hSf (PySem.fresh_in hkeep) _ (Nat.succ_pos 1) (fun b o e => Heap.get?_push_of_some _ (hkeep b o e)) (W.frame 0 s₂ _ s₂.toks hst (Nat.le_refl _) fun b _ o e => Heap.get?_push_of_some _ e) (Heap.get?_push_size _ rfl) fun v s' hP hm => ?_⟩
  have m := Moved.drop_new (tk := s₂.toks) hm (Nat.le_refl _)
  obtain ⟨h', tk, rfl, hk'⟩ := PySem.W.moved_old e rfl m
  obtain ⟨bs, r, _, _, _⟩ := PySem.W.readsAll_atA hr1 _ v hP
  have e2 := (PySem.W.argBest_fold (fun a b => PySem.W.dataLt a b) PyData.none x [y] 1 (Nat.le_refl _)).2
  exact h _ v h' tk bs (by simpa using hP) (PySem.W.reads_keeps hk' (by unfold PySem.W.minD; rw [List.take_of_length_le (Nat.le_refl 1)] at e2; rw [← e2]; exact r)) fun b o e => hk' b o (Heap.get?_push_of_some _ e)
end
section
variable {X : Cx} {pins : List (Addr × Obj)} {s : Shared} {σ : L2.St} {ρ : Env} {H : Hp} {B : List Nat} {W : Wd} {S : Sto} {v u : V} {x y d : D} {a b : Value} {Q : VK}
/-- what a value shows, if it is not a list or dict that may change, is the value -/
theorem Shows.rep (h : Shows (mdOf X) W H v x) (h1 : ∀ xs, x ≠ .lst xs) (h2 : ∀ xs, x ≠ .dct xs) : Rep (mdOf X) W v x := by
  cases h with
  | of h _ _ _ => exact h
  | tup _ _ h => exact h
  | lst _ _ => exact absurd rfl (h1 _)
  | dct _ _ => exact absurd rfl (h2 _)
theorem dp_tok {K : PySem.W.Frag} {h : Heap} {p : PyData} {as : List Addr} {v : Value} (r : Reads h v p as) : True := trivial
/-- max or min of two -/
theorem two_ok {mx : Bool} (hh : X.A.handled = none) (hu : X.A.units + 200 < cLine) (I : Inv X pins σ H s) (k : Wok (mdOf X) B W H S) (e : EnvR (mdOf X) W σ ρ) (hx : Rep (mdOf X) W v x) (hy : Rep (mdOf X) W u y) (rx : RelV v a) (ry : RelV u b)
    (hd : pickD mx [x, y] = some d) (q : Post (mdOf X) B σ ρ W (Rep (mdOf X)) Q (.ok d S)) : wpAny (model X.prog X.w) X.A (call (.builtin (if mx then "max" else "min")) [a, b]) (EP X pins σ Q) X.xe s := by
  obtain ⟨x', r, p, ps, ex, h1, h2, hal, hdp, _, rfl⟩ := pick_some hd
  cases ex
  obtain ⟨p', qs, h3, h4, rfl⟩ := pyAll_cons h2
  cases pyAll_nil h4
  have hp : pyAll [x, y] = some [p, p'] := by simp only [pyAll, h1, h3]
  have rl : RepL (mdOf X) W [v, u] [x, y] := .cons hx (.cons hy .nil)
  have rv : Vals [v, u] [a, b] := .cons rx (.cons ry .nil)
  obtain ⟨as, ra⟩ := Dp.readsAll I [p, p'] [v, u] [a, b] (rl.dp k hp) rv
  cases mx with
  | true =>
    refine max_twoH hh ra hal (by omega) fun i w h' tk bs hi hr hk => ?_
    have I1 : Inv X pins σ H { s with heap := h', toks := tk } := I.kept hk
    obtain ⟨z, rv', rp⟩ := pick_at k I1 rl rv hp hi hr (maxL_py h1 h2)
    exact ⟨z, H, I1, rv', post_ok k e rp q⟩
  | false =>
    refine min_twoH hh ra hal (by omega) fun i w h' tk bs hi hr hk => ?_
    have I1 : Inv X pins σ H { s with heap := h', toks := tk } := I.kept hk
    obtain ⟨z, rv', rp⟩ := pick_at k I1 rl rv hp hi hr (minL_py h1 h2)
    exact ⟨z, H, I1, rv', post_ok k e rp q⟩
theorem RelV.ref_eq {l : Addr} {a : Value} (r : RelV (.ref l) a) : a = .ref l := r
theorem bk_name {f : Str} {b : BK} (h : bkOf f = some b) : f = b.name := seq_eq (List.find?_some (p := fun b => seq f (BK.name b)) h)
def BK.val : BK → Value
  | .len => .builtin "len" | .int => .type "int" | .str => .type "str" | .abs => .builtin "abs" | .sum => .builtin "sum" | .all => .builtin "all" | .any => .builtin "any" | .max => .builtin "max" | .min => .builtin "min" | .tuple => .type "tuple" | .list => .type "list" | .sorted => .builtin "sorted"
theorem BK.boot (b : BK) : bootBuiltins b.name = some b.val := by cases b <;> rfl
theorem BK.call (b : BK) : (∃ id, b.val = .builtin id) ∨ ∃ T, b.val = .type T := by
  cases b <;> first | exact .inl ⟨_, rfl⟩ | exact .inr ⟨_, rfl⟩
theorem BK.nn (b : BK) : b.name ≠ "__name__" ∧ (b.name == ("__debug__" : Str)) = false := by cases b <;> decide
/-- one argument -/
theorem bi1_ok {G : Gl} {ps : Pos} {f : BK} (hc : X.calm = true) (hh : X.A.handled = none) (hu : X.A.units + 200 < cLine) (I : Inv X pins σ H s) (k : Wok (mdOf X) B W H S) (e : EnvR (mdOf X) W σ ρ) (hx : Rep (mdOf X) W v x) (rx : RelV v a) {r : D}
    (hr : bi1 f (view S x) = some r) (q : Post (mdOf X) B σ ρ W (Rep (mdOf X)) Q (if isList r || isDct r then fresh (G.isMut ps) r S else .ok r S)) :
    wpAny (model X.prog X.w) X.A (call f.val [a]) (EP X pins σ Q) X.xe s := by
  have sx := hx.view k
  generalize view S x = x' at sx hr
  have rv : Vals [v] [a] := .cons rx .nil
  unfold bi1 at hr
  split at hr
  · unfold lenD at hr
    split at hr
    · split at hr
      · rename_i hz
        cases hr; cases sx.str
        exact call_len pins s σ H _ _ Q I rv ⟨_, _, rfl, ⟨by rw [← line_eq]; exact hz, rfl⟩, post_ok k e (.int _) q⟩
      · cases hr
    · cases hr
      obtain ⟨l, vs, rfl, h1, r1, _⟩ := sx.tupE
      refine call_len pins s σ H _ _ Q I rv ⟨_, vs.length, rfl, .inr ⟨vs, h1, rfl⟩, ?_⟩
      rw [r1.length]
      exact post_ok k e (.int _) q
    · cases hr
      obtain ⟨l, vs, rfl, h1, r1⟩ := sx.lstE
      refine call_len pins s σ H _ _ Q I rv ⟨_, vs.length, rfl, .inl ⟨vs, .inl h1, rfl⟩, ?_⟩
      rw [r1.length]
      exact post_ok k e (.int _) q
    · cases hr
  · cases hr; cases sx.int
    exact call_int1 pins s σ H _ _ Q I rv (.inl ⟨_, rfl, post_ok k e (.int _) q⟩)
  · cases hr; cases sx.bl
    exact call_int1 pins s σ H _ _ Q I rv (.inr ⟨_, rfl, post_ok k e (.int _) q⟩)
  · rename_i z
    split at hr
    · rename_i hz
      cases sx.str
      cases hi : PySem.intText? z with
      | none => rw [hi] at hr; cases hr
      | some n =>
        rw [hi] at hr
        cases hr
        exact call_int_str pins s σ H _ _ Q I rv ⟨z, n, rfl, hi, hz, post_ok k e (.int _) q⟩
    · cases hr
  · split at hr
    · rename_i hz
      cases hr; cases sx.int
      exact call_str_int pins s σ H _ _ Q I rv ⟨_, rfl, hz, post_ok k e (.str _) q⟩
    · cases hr
  · cases hr; cases sx.str
    exact SkE.call_str_str pins s σ H _ _ Q I rv ⟨_, rfl, post_ok k e (.str _) q⟩
  · cases hr; cases sx.int
    exact call_abs pins s σ H _ _ Q I rv ⟨_, rfl, post_ok k e (.int _) q⟩
  · rename_i xs
    obtain ⟨l, vs, rfl, h1, r1⟩ := sx.lstE
    cases hi : intsD xs with
    | none => rw [hi] at hr; cases hr
    | some ns =>
      rw [hi] at hr
      cases hr
      cases r1.ofInts hi
      exact cr_sum hc pins s σ H _ _ Q I rv ⟨l, ns, rfl, .inl h1, post_ok k e (.int _) q⟩
  · rename_i xs
    obtain ⟨l, vs, rfl, h1, r1⟩ := sx.lstE
    cases hi : boolsD xs with
    | none => rw [hi] at hr; cases hr
    | some ns =>
      rw [hi] at hr
      cases hr
      cases r1.ofBools hi
      exact cr_all hc pins s σ H _ _ Q I rv ⟨l, ns, rfl, .inl h1, post_ok k e (.bl _) q⟩
  · rename_i xs
    obtain ⟨l, vs, rfl, h1, r1⟩ := sx.lstE
    cases hi : boolsD xs with
    | none => rw [hi] at hr; cases hr
    | some ns =>
      rw [hi] at hr
      cases hr
      cases r1.ofBools hi
      exact cr_any hc pins s σ H _ _ Q I rv ⟨l, ns, rfl, .inl h1, post_ok k e (.bl _) q⟩
  · obtain ⟨l, vs, rfl, h1, r1⟩ := sx.lstE
    cases rx
    rw [pick_flat hr] at q
    exact pick_ok (mx := true) hh hu I k e h1 r1 hr q
  · obtain ⟨l, vs, rfl, h1, r1⟩ := sx.lstE
    cases rx
    rw [pick_flat hr] at q
    exact pick_ok (mx := false) hh hu I k e h1 r1 hr q
  · cases hr
    obtain ⟨l, vs, rfl, h1, r1⟩ := sx.lstE
    exact call_tuple_of pins s σ H _ _ Q I rv ⟨l, vs, rfl, .inl ⟨.inl h1, fun p n => post_tup k e r1 q n⟩⟩
  · cases hr
    obtain ⟨l, vs, rfl, h1, r1, R⟩ := sx.tupE
    exact call_tuple_of pins s σ H _ _ Q I rv ⟨l, vs, rfl, .inr ⟨h1, post_ok k e R q⟩⟩
  · cases hr
    obtain ⟨l, vs, rfl, h1, r1⟩ := sx.lstE
    exact call_list_of pins s σ H _ _ Q I rv ⟨l, vs, rfl, .inl (.inl h1), fun p n => post_lst k e r1 q n⟩
  · cases hr
    obtain ⟨l, vs, rfl, h1, r1, R⟩ := sx.tupE
    exact call_list_of pins s σ H _ _ Q I rv ⟨l, vs, rfl, .inr h1, fun p n => post_lst k e r1 q n⟩
  · cases hr
    cases sx with
    | of h _ _ _ =>
      cases h with
      | scr h1 r1 => exact call_list_of pins s σ H _ _ Q I rv ⟨_, _, rfl, .inl (k.sqL h1), fun p n => post_lst k e r1 q n⟩
  · rename_i xs
    obtain ⟨l, vs, rfl, h1, r1⟩ := sx.lstE
    cases rx
    cases hi : sortD xs with
    | none => rw [hi] at hr; cases hr
    | some ys =>
      rw [hi] at hr
      cases hr
      exact sorted_ok (m := G.isMut ps) hu I k e h1 r1 hi q
  · cases hr
theorem not_ld {z : D} {p : PyData} (hz : z.py = some p) (hn : (!isList z) = true) : (∀ xs, z ≠ .lst xs) ∧ ∀ xs, z ≠ .dct xs := by
  refine ⟨fun xs ez => ?_, fun xs ez => ?_⟩
  · subst ez; cases hn
  · subst ez; simp only [D.py] at hz; cases hz
theorem two_view {mx : Bool} {r : D} (hh : X.A.handled = none) (hu : X.A.units + 200 < cLine) (I : Inv X pins σ H s) (k : Wok (mdOf X) B W H S) (e : EnvR (mdOf X) W σ ρ) (hx : Rep (mdOf X) W v x) (hy : Rep (mdOf X) W u y) (rx : RelV v a) (ry : RelV u b)
    (hd : pickD mx [view S x, view S y] = some r) (q : Post (mdOf X) B σ ρ W (Rep (mdOf X)) Q (.ok r S)) : wpAny (model X.prog X.w) X.A (call (.builtin (if mx then "max" else "min")) [a, b]) (EP X pins σ Q) X.xe s := by
  obtain ⟨x', t, p, ps, ex, h1, h2, _, _, h3, _⟩ := pick_some hd
  cases ex
  obtain ⟨p', qs, h4, _, _⟩ := pyAll_cons h2
  rw [List.all_cons, List.all_cons, Bool.and_eq_true, Bool.and_eq_true] at h3
  obtain ⟨a1, a2⟩ := not_ld h1 h3.1
  obtain ⟨b1, b2⟩ := not_ld h4 h3.2.1
  exact two_ok hh hu I k e ((hx.view k).rep a1 a2) ((hy.view k).rep b1 b2) rx ry hd q
/-- a built-in function -/
theorem bi_ok {G : Gl} {ps : Pos} {f : Str} {vs : List V} {ds : List D} {us : List Value} (hc : X.calm = true) (hh : X.A.handled = none) (hu : X.A.units + 200 < cLine) (I : Inv X pins σ H s) (k : Wok (mdOf X) B W H S) (e : EnvR (mdOf X) W σ ρ) (hx : RepL (mdOf X) W vs ds) (rx : Vals vs us)
    (q : Post (mdOf X) B σ ρ W (Rep (mdOf X)) Q (biM G ps f ds S)) : ∃ b, bkOf f = some b ∧ wpAny (model X.prog X.w) X.A (call b.val us) (EP X pins σ Q) X.xe s := by
  replace q : Post (mdOf X) B σ ρ W (Rep (mdOf X)) Q (match biD f (ds.map (view S)) with
    | some d => if isList d || isDct d then fresh (G.isMut ps) d S else .ok d S
    | none => .no) := q
  cases hb : biD f (ds.map (view S)) with
  | none => rw [hb] at q; exact q.elim
  | some r =>
    rw [hb] at q
    replace q : Post (mdOf X) B σ ρ W (Rep (mdOf X)) Q (if isList r || isDct r then fresh (G.isMut ps) r S else .ok r S) := q
    unfold biD at hb
    split at hb
    · rename_i b x' hk hds
      cases hx with
      | nil => cases hds
      | cons h1 h2 =>
        cases h2 with
        | cons _ _ => cases hds
        | nil =>
          cases rx with
          | cons r1 r2 =>
            cases r2
            cases hds
            exact ⟨b, hk, bi1_ok hc hh hu I k e h1 r1 hb q⟩
    · rename_i x' y' hk hds
      cases hx with
      | nil => cases hds
      | cons h1 h2 =>
        cases h2 with
        | nil => cases hds
        | cons h3 h4 =>
          cases h4 with
          | cons _ _ => cases hds
          | nil =>
            cases rx with
            | cons r1 r2 =>
              cases r2 with
              | cons r3 r4 =>
                cases r4
                cases hds
                rw [pick_flat hb] at q
                exact ⟨_, hk, two_view (mx := true) hh hu I k e h1 h3 r1 r3 hb q⟩
    · rename_i x' y' hk hds
      cases hx with
      | nil => cases hds
      | cons h1 h2 =>
        cases h2 with
        | nil => cases hds
        | cons h3 h4 =>
          cases h4 with
          | cons _ _ => cases hds
          | nil =>
            cases rx with
            | cons r1 r2 =>
              cases r2 with
              | cons r3 r4 =>
                cases r4
                cases hds
                rw [pick_flat hb] at q
                exact ⟨_, hk, two_view (mx := false) hh hu I k e h1 h3 r1 r3 hb q⟩
    · cases hb
end
end Ly

/-! Ly: expressions, one construct at a time: what the evaluator tells, the model does. -/
set_option autoImplicit false
set_option linter.all false
set_option maxRecDepth 100000
set_option maxHeartbeats 1000000
namespace Ly
open PySem PySem.Spec PyProof.Rows L2

/-- what a call of a def promises -/
def SpF (μ : Md) (G : Gl) (fuel k : Nat) (f : Str) : Sp := fun vs H Q _ => ∃ (B : List Nat) (W : Wd) (S : Sto) (ds : List D) (keep : Bool), Wok μ B W H S ∧ RepL μ W vs ds ∧ ds.length = vs.length ∧
  (∃ fd, G.fns.lookup f = some fd ∧ fd.ps.length = vs.length) ∧
  (match callF G fuel k keep f ds S with
    | .ok d S' => ∀ W' v H', Le W W' → Wok μ B W' H' S' → Rep μ W' v d → Q v H'
    | _ => False)
/-- a context that the evaluator's setting fits -/
structure XOk (X : Cx) (B : List Nat) (c : Cfg) (sc : Scope) : Prop where
  scope : X.env.scope = sc
  N : X.N = c.N
  nd : X.N.Nodup
  calm : X.calm = true
  hh : X.A.handled = none
  units : X.A.units + 200 < cLine
  kind : sc.kind = .function
  cst : ∀ x d, c.G.cst.lookup x = some d → ∃ v u, X.mg x = some u ∧ RelV v u ∧ ∀ W, Rep (mdOf X) W v d
  blt : ∀ x, c.G.blt x = true → X.mg x = none
  fns : ∀ x fd, c.G.fns.lookup x = some fd → ∃ f, X.mg x = some (.ref f)
  call : ∃ k fu, c.cal = callF c.G fu k ∧ Room k X.A ∧ ∀ x fd, c.G.fns.lookup x = some fd → ∃ f fdat, X.mg x = some (.ref f) ∧ PySem.W.keepIn X.K (.ref f) = true ∧ Binds X.K fdat fd.ps [] ∧ FnOk X.prog X.w X.K X.mg X.base CX0 k f fdat fd.ps (SpF (mdOf X) c.G fu k x)
  base : ∀ m ∈ B, m ≤ c.base

section
variable {X : Cx} {B : List Nat} {c : Cfg} {sc : Scope} {σ : L2.St} {ρ : Env} {H : Hp} {W : Wd} {S : Sto}
theorem PE.imp {e : Expr} {t t' : TE} (h : PE X e t) (i : ∀ σ H Q, t' σ H Q → t σ H Q) : PE X e t' := ⟨fun pins s σ H Q I q => h.run pins s σ H Q I (i σ H Q q)⟩
theorem PT.imp {e : Expr} {t t' : TT} (h : PT X e t) (i : ∀ σ H Q, t' σ H Q → t σ H Q) : PT X e t' := ⟨fun pins s σ H Q I q => h.run pins s σ H Q I (i σ H Q q)⟩
theorem RdM.mono {μ : Md} {α β : Type} {R : Wd → β → α → Prop} {m : M α} {Q Q' : β → Hp → Prop} (h : RdM μ B ρ R m σ H Q) (i : ∀ v H, Q v H → Q' v H) : RdM μ B ρ R m σ H Q' := by
  obtain ⟨W, S, k, e, p⟩ := h
  refine ⟨W, S, k, e, ?_⟩
  cases q : m S with
  | ok d S' => rw [q] at p; exact fun W' v H' l k' e' r => i _ _ (p W' v H' l k' e' r)
  | exc _ _ _ => rw [q] at p; exact p
  | no => rw [q] at p; exact p
theorem RdM.stuck {μ : Md} {α β : Type} {R : Wd → β → α → Prop} {Q : β → Hp → Prop} (h : RdM μ B ρ R (stuck : M α) σ H Q) : False := by
  obtain ⟨W, S, k, e, p⟩ := h
  exact p
theorem pe_stuck {e : Expr} : PE X e (TD (mdOf X) B ρ stuck) := ⟨fun _ _ _ _ _ _ h => (RdM.stuck h).elim⟩
theorem pt_stuck {e : Expr} : PT X e (TB (mdOf X) B ρ stuck) := ⟨fun _ _ _ _ _ _ h => (RdM.stuck h).elim⟩
/-- two things, and then a step on both -/
theorem RdM.then2 {μ : Md} {α₁ β₁ α₂ β₂ α β : Type} {R₁ : Wd → β₁ → α₁ → Prop} {R₂ : Wd → β₂ → α₂ → Prop} {R : Wd → β → α → Prop} {m1 : M α₁} {m2 : α₁ → M α₂} {f : α₁ → α₂ → M α} {Q : β → Hp → Prop}
    (mono : ∀ {W W' : Wd} {v x}, Le W W' → R₁ W v x → R₁ W' v x) (h : RdM μ B ρ R (bnd m1 fun x => bnd (m2 x) fun y => f x y) σ H Q) :
    RdM μ B ρ R₁ m1 σ H fun v H1 => ∃ x, RdM μ B ρ R₂ (m2 x) σ H1 fun u H2 => ∃ W S y, Wok μ B W H2 S ∧ EnvR μ W σ ρ ∧ R₁ W v x ∧ R₂ W u y ∧ Post μ B σ ρ W R Q (f x y S) := by
  refine RdM.mono (RdM.bind (R' := R₁) h) fun v H1 ⟨W1, S1, x, k1, e1, r1, p1⟩ => ⟨x, ?_⟩
  exact RdM.mono (Post.bind (R' := R₂) k1 e1 p1) fun u H2 ⟨W2, S2, y, l, k2, e2, r2, p2⟩ => ⟨W2, S2, y, k2, e2, mono l r1, r2, p2⟩
theorem rep_mono {μ : Md} {W W' : Wd} {v : V} {x : D} (l : Le W W') (h : Rep μ W v x) : Rep μ W' v x := h.le l.toF

/-! ### names, constants -/
theorem slot_at {N : List Str} {x : Str} {i : Nat} (h : slot N x = some i) : N[i]? = some x := by
  unfold slot at h
  obtain ⟨h1, h2, _⟩ := List.findIdx?_eq_some_iff_getElem.mp h
  rw [List.getElem?_eq_getElem h1, seq_eq h2]
theorem vis_of {sc : Scope} {x : Str} (h : vis sc x = true) : Vis sc x := by
  unfold vis at h
  split at h
  · exact .inl (by assumption)
  · exact .inr (.inl (by assumption))
  · exact .inr (.inr (by assumption))
  · cases h
theorem glo_of {sc : Scope} {x : Str} (h : glo sc x = true) : sc.names.lookup x = some .globalImplicit ∧ (x == ("__debug__" : Str)) = false := by
  unfold glo at h
  split at h
  · exact ⟨by assumption, by simpa using h⟩
  · cases h
theorem XOk.gl (O : XOk X B c sc) {x : Str} (h : glo sc x = true) : L2.Gl X x := by
  show X.env.scope.names.lookup x = _
  rw [O.scope]
  exact (glo_of h).1
theorem name_ok (O : XOk X B c sc) (x : Str) (pos : Pos) : PE X (.Name x pos) (TD (mdOf X) B ρ (evName c sc ρ x)) := by
  unfold evName
  split
  · rename_i hv
    split
    · rename_i hp
      split
      · rename_i i hi
        unfold getv
        split
        · rename_i d hd
          unfold plainName at hp
          simp only [Bool.and_eq_true, Bool.not_eq_true'] at hp
          refine PE.imp (pe_var (i := i) (by rw [O.N]; exact slot_at hi) (by rw [O.scope]; exact vis_of hv) hp.1 hp.2) fun σ H Q h => ?_
          obtain ⟨W, S, k, e, p⟩ := h
          obtain ⟨v, h1, h2⟩ := e.at' i d hd
          exact ⟨v, h1, p W v H (Le.refl W) k e h2⟩
        · exact pe_stuck
      · exact pe_stuck
    · exact pe_stuck
  · split
    · rename_i hg
      split
      · rename_i d hd
        obtain ⟨v, u, hm, r, hr⟩ := O.cst x d hd
        refine PE.imp (pe_glob (O.gl hg) hm r (glo_of hg).2) fun σ H Q h => ?_
        obtain ⟨W, S, k, e, p⟩ := h
        exact p W v H (Le.refl W) k e (hr W)
      · split
        · rename_i fd hf
          obtain ⟨f, hm⟩ := O.fns x fd hf
          refine PE.imp (pe_glob (v := .ref f) (O.gl hg) hm rfl (glo_of hg).2) fun σ H Q h => ?_
          obtain ⟨W, S, k, e, p⟩ := h
          exact p W (.ref f) H (Le.refl W) k e (.fn hm)
        · exact pe_stuck
    · exact pe_stuck
theorem const_ok {e : Expr} {v : V} {d : D} (h : PE X e (tC v)) (r : ∀ W, Rep (mdOf X) W v d) : PE X e (TD (mdOf X) B ρ (ret d)) := PE.imp h fun σ H Q hq => by
  obtain ⟨W, S, k, e, p⟩ := hq
  exact p W v H (Le.refl W) k e (r W)

/-! ### lists of expressions -/
theorem starEach_cons {e : Expr} {es : List Expr} {env : PySem.Env} (h : isStar e = false) : starEach (e :: es) env = (false, eval e env) :: starEach es env := by
  cases e <;> first | rfl | cases h
theorem starEach_plain {env : PySem.Env} : ∀ {es : List Expr}, es.any isStar = false → (starEach es env).any (·.1) = false
  | [], _ => rfl
  | e :: es, h => by
    rw [List.any_cons, Bool.or_eq_false_iff] at h
    rw [starEach_cons h.1, List.any_cons, starEach_plain h.2]
    rfl
theorem backTo_plain {env : PySem.Env} {pos : Pos} {es : List Expr} (h : es.any isStar = false) : (backTo pos (starEach es env)).any (·.1) = false := by
  have := starEach_plain (env := env) h
  unfold backTo
  rw [List.any_map]
  simpa [Function.comp_def] using this
theorem evList_ok {f : Expr → M D} : ∀ {es : List Expr}, es.any isStar = false → (∀ e ∈ es, PE X e (TD (mdOf X) B ρ (f e))) → PA X es (TL (mdOf X) B ρ (evList f es))
  | [], _, _ => ⟨fun pos pins s σ H Q I h => (pa_nil (X := X)).run pos pins s σ H Q I (by
      obtain ⟨W, S, k, e, p⟩ := h
      exact p W [] H (Le.refl W) k e .nil)⟩
  | e :: es, h, hp => by
    rw [List.any_cons, Bool.or_eq_false_iff] at h
    have h1 := hp e List.mem_cons_self
    have h2 := evList_ok h.2 fun x hx => hp x (List.mem_cons_of_mem _ hx)
    refine ⟨fun pos pins s σ H Q I hq => (pa_cons h1 h2 (starEach_cons h.1)).run pos pins s σ H Q I ?_⟩
    have hq : RdM (mdOf X) B ρ (RepL (mdOf X)) (bnd (f e) fun x => bnd (evList f es) fun xs => ret (x :: xs)) σ H Q := hq
    refine RdM.mono (RdM.then2 (R₁ := Rep (mdOf X)) (R₂ := RepL (mdOf X)) rep_mono hq) fun v H1 ⟨x, q1⟩ => RdM.mono q1 fun vs H2 ⟨W, S, xs, k, en, r1, r2, p⟩ => ?_
    exact p W (v :: vs) H2 (Le.refl W) k en (.cons r1 r2)

/-! ### operators -/
theorem binop_ok {G : Gl} {a b : Expr} {op : Operator} {ps pos : Pos} {ma mb : M D} (ha : PE X a (TD (mdOf X) B ρ ma)) (hb : PE X b (TD (mdOf X) B ρ mb)) :
    PE X (.BinOp a op b pos) (TD (mdOf X) B ρ (bnd ma fun x => bnd mb fun y => binM G op ps x y)) := by
  refine ⟨fun pins s σ H Q I h => ?_⟩
  refine wpAny_BinOp (binT (R := fun v u H2 => ∃ W S x y, Wok (mdOf X) B W H2 S ∧ EnvR (mdOf X) W σ ρ ∧ Rep (mdOf X) W v x ∧ Rep (mdOf X) W u y ∧ Post (mdOf X) B σ ρ W (Rep (mdOf X)) Q (binM G op ps x y S)) ha hb I ?_ fun v u s2 x y H2 I2 rx ry ⟨W, S, dx, dy, k, e, r1, r2, p⟩ => binM_ok I2 k e r1 r2 rx ry p)
  exact RdM.mono (RdM.then2 (R₁ := Rep (mdOf X)) (R₂ := Rep (mdOf X)) rep_mono h) fun v H1 ⟨x, q1⟩ => RdM.mono q1 fun u H2 ⟨W, S, y, k, e, r1, r2, p⟩ => ⟨W, S, x, y, k, e, r1, r2, p⟩
theorem neg_ok {a : Expr} {pos : Pos} {ma : M D} (ha : PE X a (TD (mdOf X) B ρ ma)) : PE X (.UnaryOp .USub a pos) (TD (mdOf X) B ρ (bnd ma negM)) := by
  refine PE.imp (pe_un un_neg ha) fun σ H Q h => ?_
  refine RdM.mono (RdM.bind (R' := Rep (mdOf X)) h) fun v H1 ⟨W1, S1, x, k1, e1, r1, p1⟩ => ?_
  unfold negM at p1
  split at p1
  · cases r1
    exact ⟨_, rfl, post_ok k1 e1 (.int _) p1⟩
  · exact p1.elim
/-! ### truth -/
theorem truM_ok {x : D} {v : V} (k : Wok (mdOf X) B W H S) (e : EnvR (mdOf X) W σ ρ) (r : Rep (mdOf X) W v x) {α : Type} {β : Type} {R : Wd → β → α → Prop} {Q : β → Hp → Prop} {f : Bool → M α} (p : Post (mdOf X) B σ ρ W R Q (bnd (truM x) f S)) :
    ∃ b, TruV X.K v H b ∧ Post (mdOf X) B σ ρ W R Q (f b S) := by
  have s := r.view k
  have e0 : truM x S = (ofOp (truD (view S x)) : M Bool) S := rfl
  unfold bnd at p
  rw [e0] at p
  cases h : truD (view S x) with
  | none => rw [h] at p; exact p.elim
  | some b =>
    rw [h] at p
    exact ⟨b, tru_view s h, p⟩
theorem not_ok {a : Expr} {pos : Pos} {ma : M D} (ha : PE X a (TD (mdOf X) B ρ ma)) : PE X (.UnaryOp .Not a pos) (TD (mdOf X) B ρ (bnd ma fun d => bnd (truM d) fun b => ret (.bl !b))) := by
  refine PE.imp (pe_notT ha) fun σ H Q h => ?_
  refine RdM.mono (RdM.bind (R' := Rep (mdOf X)) h) fun v H1 ⟨W1, S1, x, k1, e1, r1, p1⟩ => ?_
  obtain ⟨b, t, p⟩ := truM_ok k1 e1 r1 p1
  exact ⟨b, t, post_ok k1 e1 (.bl _) p⟩
theorem truth_ok {a : Expr} {ma : M D} (ha : PE X a (TD (mdOf X) B ρ ma)) (he : ∀ whole, isTrue a X.env whole = (do let v ← whole; standAt a.pos; holding [v] (truthy v))) : PT X a (TB (mdOf X) B ρ (bnd ma truM)) := by
  refine PT.imp (pt_truth ha he) fun σ H Q h => ?_
  refine RdM.mono (RdM.bind (R' := Rep (mdOf X)) h) fun v H1 ⟨W1, S1, x, k1, e1, r1, p1⟩ => ?_
  have p1 : Post (mdOf X) B σ ρ W1 (fun _ (b : Bool) (c : Bool) => b = c) Q (bnd (truM x) (fun b => ret b) S1) := by
    unfold bnd
    cases h : truM x S1 with
    | ok b S' => rw [h] at p1; exact p1
    | exc _ _ _ => rw [h] at p1; exact p1
    | no => rw [h] at p1; exact p1
  obtain ⟨b, t, p⟩ := truM_ok k1 e1 r1 p1
  exact ⟨b, t, p W1 b H1 (Le.refl W1) k1 e1 rfl⟩
theorem evBool_ok {op : BoolOp} {f : Expr → M D} {pos : Pos} : ∀ {es : List Expr}, (∀ e ∈ es, PE X e (TD (mdOf X) B ρ (f e))) → PE X (.BoolOp op es pos) (TD (mdOf X) B ρ (evBool op f es))
  | [], _ => pe_stuck
  | [e], h => pe_one (h e List.mem_cons_self)
  | e :: e2 :: es, h => by
    have h1 := h e List.mem_cons_self
    have h2 := evBool_ok (op := op) (pos := pos) (es := e2 :: es) fun x hx => h x (List.mem_cons_of_mem _ hx)
    cases op with
    | And =>
      refine PE.imp (pe_andT h1 h2) fun σ H Q h => ?_
      replace h : RdM (mdOf X) B ρ (Rep (mdOf X)) (bnd (f e) fun v => bnd (truM v) fun t => boolK .And t (ret v) (evBool .And f (e2 :: es))) σ H Q := h
      refine RdM.mono (RdM.bind (R' := Rep (mdOf X)) h) fun v H1 ⟨W1, S1, x, k1, e1, r1, p1⟩ => ?_
      obtain ⟨b, t, p⟩ := truM_ok k1 e1 r1 p1
      refine ⟨b, t, ?_⟩
      cases b with
      | false => exact post_ok k1 e1 r1 p
      | true => exact ⟨W1, S1, k1, e1, p⟩
    | Or =>
      refine PE.imp (pe_orT h1 h2) fun σ H Q h => ?_
      replace h : RdM (mdOf X) B ρ (Rep (mdOf X)) (bnd (f e) fun v => bnd (truM v) fun t => boolK .Or t (ret v) (evBool .Or f (e2 :: es))) σ H Q := h
      refine RdM.mono (RdM.bind (R' := Rep (mdOf X)) h) fun v H1 ⟨W1, S1, x, k1, e1, r1, p1⟩ => ?_
      obtain ⟨b, t, p⟩ := truM_ok k1 e1 r1 p1
      refine ⟨b, t, ?_⟩
      cases b with
      | true => exact post_ok k1 e1 r1 p
      | false => exact ⟨W1, S1, k1, e1, p⟩
theorem teBool_ok {op : BoolOp} {f : Expr → M Bool} {pos : Pos} : ∀ {es : List Expr}, es ≠ [] → (∀ e ∈ es, PT X e (TB (mdOf X) B ρ (f e))) → PW X (.BoolOp op es pos) (TB (mdOf X) B ρ (teBool op f es))
  | [], h, _ => absurd rfl h
  | [e], _, h => by
    cases op with
    | And => exact pw_and1 (h e List.mem_cons_self)
    | Or => exact pw_or1 (h e List.mem_cons_self)
  | e :: e2 :: es, _, h => by
    have h1 := h e List.mem_cons_self
    have h2 := teBool_ok (op := op) (pos := pos) (es := e2 :: es) (List.cons_ne_nil _ _) fun x hx => h x (List.mem_cons_of_mem _ hx)
    cases op with
    | And =>
      refine ⟨fun wh pins s σ H Q I h => (pw_and h1 h2).run wh pins s σ H Q I ?_⟩
      replace h : RdM (mdOf X) B ρ (fun _ (b : Bool) (c : Bool) => b = c) (bnd (f e) fun t => boolK .And t (ret t) (teBool .And f (e2 :: es))) σ H Q := h
      refine RdM.mono (RdM.bind (R' := fun _ (b : Bool) (c : Bool) => b = c) h) fun b H1 ⟨W1, S1, x, k1, e1, r1, p1⟩ => ?_
      cases r1
      cases b with
      | true => exact ⟨W1, S1, k1, e1, p1⟩
      | false => exact p1 W1 false H1 (Le.refl W1) k1 e1 rfl
    | Or =>
      refine ⟨fun wh pins s σ H Q I h => (pw_or h1 h2).run wh pins s σ H Q I ?_⟩
      replace h : RdM (mdOf X) B ρ (fun _ (b : Bool) (c : Bool) => b = c) (bnd (f e) fun t => boolK .Or t (ret t) (teBool .Or f (e2 :: es))) σ H Q := h
      refine RdM.mono (RdM.bind (R' := fun _ (b : Bool) (c : Bool) => b = c) h) fun b H1 ⟨W1, S1, x, k1, e1, r1, p1⟩ => ?_
      cases r1
      cases b with
      | false => exact ⟨W1, S1, k1, e1, p1⟩
      | true => exact p1 W1 true H1 (Le.refl W1) k1 e1 rfl
theorem pt_notM {a : Expr} {pos : Pos} {ma : M Bool} (ha : PT X a (TB (mdOf X) B ρ ma)) : PT X (.UnaryOp .Not a pos) (TB (mdOf X) B ρ (bnd ma fun b => ret !b)) := by
  refine PT.imp (pt_not ha) fun σ H Q h => ?_
  refine RdM.mono (RdM.bind (R' := fun _ (b : Bool) (c : Bool) => b = c) h) fun b H1 ⟨W1, S1, x, k1, e1, r1, p1⟩ => ?_
  cases r1
  exact p1 W1 (!b) H1 (Le.refl W1) k1 e1 rfl
theorem ifExp_ok {t a b : Expr} {pos : Pos} {mt : M Bool} {ma mb : M D} (ht : PT X t (TB (mdOf X) B ρ mt)) (ha : PE X a (TD (mdOf X) B ρ ma)) (hb : PE X b (TD (mdOf X) B ρ mb)) : PE X (.IfExp t a b pos) (TD (mdOf X) B ρ (bnd mt fun k => if k then ma else mb)) := by
  refine PE.imp (pe_ifExp ht ha hb) fun σ H Q h => ?_
  refine RdM.mono (RdM.bind (R' := fun _ (b : Bool) (c : Bool) => b = c) h) fun b H1 ⟨W1, S1, x, k1, e1, r1, p1⟩ => ?_
  cases r1
  cases b with
  | true => exact ⟨W1, S1, k1, e1, p1⟩
  | false => exact ⟨W1, S1, k1, e1, p1⟩
/-! ### displays -/
theorem evList_len {f : Expr → M D} : ∀ {es : List Expr} {S S' : Sto} {xs : List D}, evList f es S = .ok xs S' → xs.length = es.length
  | [], S, S', xs, h => by
    have h : Out.ok ([] : List D) S = .ok xs S' := h
    cases h
    rfl
  | e :: es, S, S', xs, h => by
    replace h : bnd (f e) (fun x => bnd (evList f es) fun xs => ret (x :: xs)) S = .ok xs S' := h
    unfold bnd at h
    cases h1 : f e S with
    | ok x S1 =>
      rw [h1] at h
      replace h : bnd (evList f es) (fun xs => ret (x :: xs)) S1 = .ok xs S' := h
      unfold bnd at h
      cases h2 : evList f es S1 with
      | ok ys S2 =>
        rw [h2] at h
        have h : Out.ok (x :: ys) S2 = .ok xs S' := h
        cases h
        rw [List.length_cons, List.length_cons, evList_len h2]
      | exc _ _ _ => rw [h2] at h; cases h
      | no => rw [h2] at h; cases h
    | exc _ _ _ => rw [h1] at h; cases h
    | no => rw [h1] at h; cases h
theorem repL_mono {μ : Md} {W W' : Wd} {v : List V} {x : List D} (l : Le W W') (h : RepL μ W v x) : RepL μ W' v x := h.le l.toF
/-- what is known of an answer is known of it -/
theorem RdM.know {μ : Md} {α β : Type} {R : Wd → β → α → Prop} {m : M α} {P : α → Prop} {Q : β → Hp → Prop} (hp : ∀ S x S', m S = .ok x S' → P x) (h : RdM μ B ρ R m σ H Q) : RdM μ B ρ (fun W v x => R W v x ∧ P x) m σ H Q := by
  obtain ⟨W, S, k, e, p⟩ := h
  refine ⟨W, S, k, e, ?_⟩
  cases q : m S with
  | ok d S' => rw [q] at p; exact fun W' v H' l k' e' r => p W' v H' l k' e' r.1
  | exc _ _ _ => rw [q] at p; exact p
  | no => rw [q] at p; exact p
theorem RdM.known {μ : Md} {α β γ δ : Type} {R : Wd → β → α → Prop} {R' : Wd → δ → γ → Prop} {m : M γ} {f : γ → M α} {P : γ → Prop} {Q : β → Hp → Prop} (hp : ∀ S x S', m S = .ok x S' → P x) (h : RdM μ B ρ R (bnd m f) σ H Q) :
    RdM μ B ρ R' m σ H fun v H1 => ∃ W1 S1 x, P x ∧ Wok μ B W1 H1 S1 ∧ EnvR μ W1 σ ρ ∧ R' W1 v x ∧ Post μ B σ ρ W1 R Q (f x S1) := by
  obtain ⟨W, S, k, e, p⟩ := h
  refine ⟨W, S, k, e, ?_⟩
  unfold bnd at p
  cases q : m S with
  | ok x S1 =>
    rw [q] at p
    intro W1 v H1 l k1 e1 r1
    exact ⟨W1, S1, x, hp _ _ _ q, k1, e1, r1, Post.le l p⟩
  | exc _ _ _ => rw [q] at p; exact p
  | no => rw [q] at p; exact p
theorem small_line {n : Nat} (h : n ≤ 1000) : n ≤ sizeLine := by rw [sizeLine_eq]; omega
theorem tup_ok {es : List Expr} {x1} {pos : Pos} {f : Expr → M D} (h : PA X es (TL (mdOf X) B ρ (evList f es))) (hl : es.length ≤ 1000) : PE X (.Tuple es x1 pos) (TD (mdOf X) B ρ (bnd (evList f es) fun xs => ret (.tup xs))) := by
  refine PE.imp (pe_tup h) fun σ H Q hq => ?_
  refine RdM.mono (RdM.known (R' := RepL (mdOf X)) (P := fun xs => xs.length = es.length) (fun S x S' h => evList_len h) hq) fun vs H1 ⟨W1, S1, xs, hlen, k1, e1, r1, p1⟩ => ?_
  exact ⟨small_line (by rw [r1.length, hlen]; exact hl), fun p n => post_tup k1 e1 r1 p1 n⟩
theorem lst_ok {m : Bool} {es : List Expr} {pos : Pos} {f : Expr → M D} (h : PA X es (TL (mdOf X) B ρ (evList f es))) (hl : es.length ≤ 1000) : PE X (.List es pos) (TD (mdOf X) B ρ (bnd (evList f es) fun xs => fresh m (.lst xs))) := by
  refine PE.imp (pe_lst h) fun σ H Q hq => ?_
  refine RdM.mono (RdM.known (R' := RepL (mdOf X)) (P := fun xs => xs.length = es.length) (fun S x S' h => evList_len h) hq) fun vs H1 ⟨W1, S1, xs, hlen, k1, e1, r1, p1⟩ => ?_
  exact ⟨small_line (by rw [r1.length, hlen]; exact hl), fun p n => post_lst k1 e1 r1 p1 n⟩
end
end Ly

/-! Ly: dicts whose keys are ints and texts. -/
set_option autoImplicit false
set_option linter.all false
set_option maxRecDepth 100000
set_option maxHeartbeats 1000000
namespace Ly
open PySem PySem.Spec PyProof.Rows L2

def keyD : Key → D
  | .inl i => .int i
  | .inr x => .str x
theorem keyOk_is {d : D} (h : keyOk d = true) : ∃ k, d = keyD k := by
  cases d with
  | int i => exact ⟨.inl i, rfl⟩
  | str x => exact ⟨.inr x, rfl⟩
  | _ => cases h
theorem rep_key {μ : Md} {W : Wd} {v : V} {k : Key} (h : Rep μ W v (keyD k)) : v = kV k := by
  cases k with
  | inl i => cases h; rfl
  | inr x => cases h; rfl
theorem key_rep {μ : Md} {W : Wd} (k : Key) : Rep μ W (kV k) (keyD k) := by
  cases k with
  | inl i => exact .int i
  | inr x => exact .str x
theorem keyEq_is (a b : Key) : keyEq (keyD a) (keyD b) = decide (a = b) := by
  cases a with
  | inl i =>
    cases b with
    | inl j => show (i == j) = _; rw [key_ll]
    | inr y => exact (key_lr i y).symm
  | inr x =>
    cases b with
    | inl j => exact (key_rl x j).symm
    | inr y =>
      show seq x y = _
      rw [key_rr]
      by_cases h : x = y
      · rw [decide_eq_true h]; exact seq_iff.mpr h
      · rw [decide_eq_false h]
        cases hs : seq x y with
        | true => exact absurd (seq_eq hs) h
        | false => rfl
/-- entries, told apart by keys -/
inductive Flat (μ : Md) (W : Wd) : List (Key × V) → List (D × D) → Prop
  | nil : Flat μ W [] []
  | cons {k : Key} {v : V} {d : D} {kvs : List (Key × V)} {ds : List (D × D)} : Rep μ W v d → Flat μ W kvs ds → Flat μ W ((k, v) :: kvs) ((keyD k, d) :: ds)
theorem Flat.of {μ : Md} {W : Wd} : ∀ {kvs : List (Key × V)} {ds : List (D × D)}, RepK μ W (kvs.map fun kv => (kV kv.1, kv.2)) ds → ds.map (·.1) = kvs.map (fun kv => match kv.1 with
      | .inl i => D.int i
      | .inr x => D.str x) → Flat μ W kvs ds
  | [], _, .nil, _ => .nil
  | (k, v) :: kvs, _, .cons (d := d) (e := e) (kvs := ds) h g r, q => by
    rw [List.map_cons, List.map_cons] at q
    have q1 := (List.cons.inj q).1
    have q2 := (List.cons.inj q).2
    have : d = keyD k := by rw [show d = _ from q1]; cases k <;> rfl
    subst this
    exact .cons g (Flat.of r q2)
theorem Flat.to {μ : Md} {W : Wd} : ∀ {kvs : List (Key × V)} {ds : List (D × D)}, Flat μ W kvs ds → RepK μ W (kvs.map fun kv => (kV kv.1, kv.2)) ds ∧ ds.map (·.1) = kvs.map (fun kv => match kv.1 with
      | .inl i => D.int i
      | .inr x => D.str x)
  | _, _, .nil => ⟨.nil, rfl⟩
  | _, _, .cons (k := k) h r => by
    obtain ⟨h1, h2⟩ := r.to
    refine ⟨.cons (key_rep k) h h1, ?_⟩
    rw [List.map_cons, List.map_cons, h2]
    cases k <;> rfl
theorem Flat.le {μ : Md} {W W' : Wd} (l : LeF W W') : ∀ {kvs : List (Key × V)} {ds : List (D × D)}, Flat μ W kvs ds → Flat μ W' kvs ds
  | _, _, .nil => .nil
  | _, _, .cons h r => .cons (h.le l) (r.le l)
theorem Flat.length {μ : Md} {W : Wd} : ∀ {kvs : List (Key × V)} {ds : List (D × D)}, Flat μ W kvs ds → kvs.length = ds.length
  | _, _, .nil => rfl
  | _, _, .cons _ r => by rw [List.length_cons, List.length_cons, r.length]
theorem DicM.flat {μ : Md} {W : Wd} {a : Addr} {o : HO} {ds : List (D × D)} (h : DicM μ W a o ds) : ∃ kvs, o = .dK kvs ∧ Flat μ W kvs ds := by
  obtain ⟨ps, h1, h2⟩ := h
  cases h1 with
  | flat e => exact ⟨_, rfl, Flat.of h2 e⟩
theorem Flat.dic {μ : Md} {W : Wd} {a : Addr} {kvs : List (Key × V)} {ds : List (D × D)} (h : Flat μ W kvs ds) : DicM μ W a (.dK kvs) ds := ⟨_, .flat h.to.2, h.to.1⟩
theorem Flat.get {μ : Md} {W : Wd} {k : Key} : ∀ {kvs : List (Key × V)} {ds : List (D × D)}, Flat μ W kvs ds → (∃ v d, getK ds (keyD k) = some d ∧ valV kvs k = some v ∧ Rep μ W v d) ∨ (getK ds (keyD k) = none ∧ valV kvs k = none)
  | _, _, .nil => .inr ⟨rfl, rfl⟩
  | _, _, .cons (k := j) (v := v) (d := d) (kvs := kvs) (ds := ds) h r => by
    by_cases e : j = k
    · subst e
      refine .inl ⟨v, d, ?_, valV_pos rfl, h⟩
      unfold getK
      rw [List.find?_cons, keyEq_is, decide_eq_true rfl]
      rfl
    · have e1 : getK ((keyD j, d) :: ds) (keyD k) = getK ds (keyD k) := by
        unfold getK
        rw [List.find?_cons, keyEq_is, decide_eq_false e]
      rw [e1, valV_neg (p := (j, v)) e]
      exact r.get
theorem Flat.any {μ : Md} {W : Wd} {k : Key} : ∀ {kvs : List (Key × V)} {ds : List (D × D)}, Flat μ W kvs ds → (ds.any fun kv => keyEq kv.1 (keyD k)) = kvs.any fun kv => decide (kv.1 = k)
  | _, _, .nil => rfl
  | _, _, .cons (k := j) h r => by rw [List.any_cons, List.any_cons, keyEq_is, r.any]
theorem Flat.map {μ : Md} {W : Wd} {k : Key} {v : V} {d : D} (hv : Rep μ W v d) : ∀ {kvs : List (Key × V)} {ds : List (D × D)}, Flat μ W kvs ds → Flat μ W (kvs.map fun kv => if kv.1 = k then (kv.1, v) else kv) (ds.map fun kv => if keyEq kv.1 (keyD k) then (kv.1, d) else kv)
  | _, _, .nil => .nil
  | _, _, .cons (k := j) (v := v') (d := d') h r => by
    rw [List.map_cons, List.map_cons, keyEq_is]
    by_cases e : j = k
    · rw [decide_eq_true e, if_pos e, if_pos rfl]
      exact .cons hv (r.map hv)
    · rw [decide_eq_false e, if_neg e, if_neg (by decide)]
      exact .cons h (r.map hv)
theorem Flat.snoc {μ : Md} {W : Wd} {k : Key} {v : V} {d : D} (hv : Rep μ W v d) : ∀ {kvs : List (Key × V)} {ds : List (D × D)}, Flat μ W kvs ds → Flat μ W (kvs ++ [(k, v)]) (ds ++ [(keyD k, d)])
  | _, _, .nil => .cons hv .nil
  | _, _, .cons h r => .cons h (r.snoc hv)
theorem Flat.put {μ : Md} {W : Wd} {k : Key} {v : V} {d : D} (hv : Rep μ W v d) {kvs : List (Key × V)} {ds : List (D × D)} (r : Flat μ W kvs ds) : Flat μ W (L2.putK kvs k v) (putK ds (keyD k) d) := by
  unfold L2.putK putK
  rw [r.any]
  split
  · exact r.map hv
  · exact r.snoc hv
theorem Flat.merge {μ : Md} {W : Wd} : ∀ {more : List (Key × V)} {ms : List (D × D)}, Flat μ W more ms → ∀ {kvs : List (Key × V)} {ds : List (D × D)}, Flat μ W kvs ds → Flat μ W (mergeK kvs more) (putAll ds ms)
  | _, _, .nil, _, _, h => h
  | _, _, .cons g r, _, _, h => Flat.merge r (h.put g)
section
variable {X : Cx} {pins : List (Addr × Obj)} {s : Shared} {σ : L2.St} {ρ : Env} {H : Hp} {B : List Nat} {W : Wd} {S : Sto} {v u : V} {x y d : D} {a b : Value} {Q : VK}
/-- what a dict says of a key -/
theorem dget_of {kvs : List (D × D)} {key : D} (h : Shows (mdOf X) W H v (.dct kvs)) (hk : keyOk key = true) (ry : Rep (mdOf X) W u key) :
    ∃ l, v = .ref l ∧ ((∃ w d, getK kvs key = some d ∧ DGet H l u (some w) ∧ Rep (mdOf X) W w d) ∨ (getK kvs key = none ∧ DGet H l u none)) := by
  cases h with
  | of _ _ _ h => exact absurd rfl (h _)
  | dct h1 h2 =>
    obtain ⟨ks, rfl, f⟩ := h2.flat
    obtain ⟨k, rfl⟩ := keyOk_is hk
    cases rep_key ry
    refine ⟨_, rfl, ?_⟩
    rcases f.get (k := k) with ⟨w, d, g1, g2, g3⟩ | ⟨g1, g2⟩
    · exact .inl ⟨w, d, g1, .inl ⟨ks, k, h1, rfl, g2.symm⟩, g3⟩
    · exact .inr ⟨g1, .inl ⟨ks, k, h1, rfl, g2.symm⟩⟩
theorem nosl_tail {value slice : Expr} {o i : Value} {T id : String} {A : Around} {E : Value → Shared → Prop} {Q : Value → Shared → Prop} {prog : Program} {w : World} (hl : typeLookup (.type T) "__getitem__" = pure (some (.builtin id))) (hs : subscripted slice false o i = operate [o, i] (getItem o i)) (hT : s.TypeIs o T)
    (h₂ : wpAny (model prog w) A (getItem o i) Q E s) : wpAny (model prog w) A (subscriptTail value slice o i) Q E s := by
  unfold subscriptTail
  refine wpAny_bind ?_
  rw [getitemInPython_of_ne hT.not_modules]
  refine wpAny_bind (wpAny_specialOf hT hl ?_)
  have fin : wpAny (model prog w) A (subscripted slice false o i) (fun r s₃ => wpAny (model prog w) A (letTemporaryGo value o r >>= fun _ => pure r) Q E s₃) E s := by
    rw [hs]
    exact wpAny_operating (wpAny_mono h₂ (fun r s₃ h₃ => wpAny_bind (wpAny_letTemporaryGo (wpAny_pure h₃))) fun _ _ x => x)
  first
    | exact wpAny_pure (wpAny_bind fin)
    | exact wpAny_bind (wpAny_pure (wpAny_bind fin))
    | exact wpAny_bind fin
/-- xs[i], of a list, a tuple, a text or a dict -/
theorem item_any {av bv : Value} {value slice : Expr} (hu : X.A.units + 200 < cLine) (I : Inv X pins σ H s) (k : Wok (mdOf X) B W H S) (e : EnvR (mdOf X) W σ ρ) (hx : Rep (mdOf X) W v x) (hy : Rep (mdOf X) W u y) (rx : RelV v av) (ry : RelV u bv)
    (q : Post (mdOf X) B σ ρ W (Rep (mdOf X)) Q (itemM x y S)) (hs : subscripted slice false av bv = operate [av, bv] (getItem av bv)) :
    wpAny (model X.prog X.w) X.A (subscriptTail value slice av bv) (EP X pins σ Q) X.xe s := by
  by_cases hd : ∃ kvs, view S x = .dct kvs
  · obtain ⟨kvs, hd⟩ := hd
    have sx := hx.view k
    rw [hd] at sx
    have q : Post (mdOf X) B σ ρ W (Rep (mdOf X)) Q ((ofOp (itemD (view S x) y) : M D) S) := q
    rw [hd] at q
    have q : Post (mdOf X) B σ ρ W (Rep (mdOf X)) Q ((ofOp (if keyOk y then getK kvs y else none) : M D) S) := q
    cases hk : keyOk y with
    | false => rw [hk] at q; exact q.elim
    | true =>
      rw [hk, if_pos rfl] at q
      obtain ⟨l, rfl, g⟩ := dget_of sx hk hy
      rcases g with ⟨w, d, g1, g2, g3⟩ | ⟨g1, _⟩
      · rw [g1] at q
        cases rx
        exact nosl_tail PySem.F.slot_dict_getitem.lookup hs (dict_typeIs I g2) (d_getItem (by omega) I g2 ry fun w' s3 I3 rw' => ⟨w, H, I3, rw', post_ok k e g3 q⟩)
      · rw [g1] at q
        exact q.elim
  · exact item_ok I k e hx hy rx ry q hs fun kvs h => hd ⟨kvs, h⟩
/-! ### comparisons by values -/
def rCmp (μ : Md) (B : List Nat) (op : CmpOp) : R2 := fun v u H Q => ∃ W S x y b, Wok μ B W H S ∧ Rep μ W v x ∧ Rep μ W u y ∧ cmpD op (view S x) (view S y) = some b ∧ Q (.bl b) H
theorem cmp_ok (hu : X.A.units + 200 < cLine) (op : CmpOp) : OpR X (compareOp op) (rCmp (mdOf X) B op) := by
  intro pins s σ H v u a b Q I rx ry h
  obtain ⟨W, S, x, y, c, k, hx, hy, hc, q⟩ := h
  have sx := hx.view k
  have sy := hy.view k
  have innot : ∀ (neg : Bool) (c : Bool), inD (view S x) (view S y) = some c → Q (.bl (neg ^^ c)) H → wpAny (model X.prog X.w) X.A (compareOp (if neg then .NotIn else .In) a b) (EP X pins σ Q) X.xe s := fun neg c hc q => by
    by_cases hd : ∃ kvs, view S y = .dct kvs
    · obtain ⟨kvs, hd⟩ := hd
      rw [hd] at sy hc
      have hc : (if keyOk (view S x) then some (getK kvs (view S x)).isSome else none) = some c := hc
      cases hk : keyOk (view S x) with
      | false => rw [hk] at hc; cases hc
      | true =>
        rw [hk, if_pos rfl] at hc
        have rxk : Rep (mdOf X) W v (view S x) := sx.rep (fun xs e => by rw [e] at hk; cases hk) fun xs e => by rw [e] at hk; cases hk
        obtain ⟨l, rfl, g⟩ := dget_of sy hk rxk
        cases ry
        rcases g with ⟨w, d, g1, g2, g3⟩ | ⟨g1, g2⟩
        · rw [g1] at hc
          cases hc
          cases neg with
          | false => exact d_in (by omega) I g2 rx fun s3 I3 => ⟨.bl true, H, I3, rfl, q⟩
          | true => exact d_notIn (by omega) I g2 rx fun s3 I3 => ⟨.bl false, H, I3, rfl, q⟩
        · rw [g1] at hc
          cases hc
          cases neg with
          | false => exact d_in (by omega) I g2 rx fun s3 I3 => ⟨.bl false, H, I3, rfl, q⟩
          | true => exact d_notIn (by omega) I g2 rx fun s3 I3 => ⟨.bl true, H, I3, rfl, q⟩
    · exact in_ok neg hu I k sx sy rx ry (fun kvs h => hd ⟨kvs, h⟩) hc q
  have mp : ∀ {o : Option Bool} {c : Bool}, o.map (!·) = some c → o = some !c := fun {o c} h => by
    cases o with
    | none => cases h
    | some b => cases h; rw [Bool.not_not]
  cases op with
  | Eq => exact eq_ok hu I k sx sy rx ry hc q
  | NotEq => exact ne_ok hu I k sx sy rx ry (mp hc) (by rw [Bool.not_not]; exact q)
  | Lt => exact lt_ok hu I k sx sy rx ry hc q
  | Gt => exact gt_ok hu I k sx sy rx ry hc q
  | LtE => exact le_ok hu I k sx sy rx ry (mp hc) (by rw [Bool.not_not]; exact q)
  | GtE => exact ge_ok hu I k sx sy rx ry (mp hc) (by rw [Bool.not_not]; exact q)
  | In => exact innot false c hc (by rw [Bool.false_xor]; exact q)
  | NotIn => exact innot true (!c) (mp hc) (by rw [Bool.true_xor, Bool.not_not]; exact q)
  | Is => exact is_ok false I sx sy rx ry hc (by rw [Bool.false_xor]; exact q)
  | IsNot => exact is_ok true I sx sy rx ry (mp hc) (by rw [Bool.true_xor, Bool.not_not]; exact q)
end
end Ly

/-! Ly: comparisons, subscripts, calls, methods as expressions. -/
set_option autoImplicit false
set_option linter.all false
set_option maxRecDepth 100000
set_option maxHeartbeats 1000000
namespace Ly
open PySem PySem.Spec PyProof.Rows L2
section
variable {X : Cx} {B : List Nat} {c : Cfg} {sc : Scope} {σ : L2.St} {ρ : Env} {H : Hp} {W : Wd} {S : Sto}
theorem bnd_ret {α : Type} (m : M α) (S : Sto) : bnd m (fun b => ret b) S = m S := by
  unfold bnd
  cases m S <;> rfl
theorem bnd_congr {α β : Type} {m : M α} {f g : α → M β} {S : Sto} (h : ∀ x S, f x S = g x S) : bnd m f S = bnd m g S := by
  unfold bnd
  cases m S with
  | ok x S1 => exact h x S1
  | exc _ _ _ => rfl
  | no => rfl
/-! ### comparisons -/
theorem cmpM_post {α β : Type} {R : Wd → β → α → Prop} {Q : β → Hp → Prop} {op : CmpOp} {x y : D} {f : Bool → M α} (p : Post (mdOf X) B σ ρ W R Q (bnd (cmpM op x y) f S)) :
    ∃ b, cmpD op (view S x) (view S y) = some b ∧ Post (mdOf X) B σ ρ W R Q (f b S) := by
  have e0 : cmpM op x y S = (ofOp (cmpD op (view S x) (view S y)) : M Bool) S := rfl
  unfold bnd at p
  rw [e0] at p
  cases h : cmpD op (view S x) (view S y) with
  | none => rw [h] at p; exact p.elim
  | some b =>
    rw [h] at p
    exact ⟨b, rfl, p⟩
theorem noset {op : CmpOp} {e : Expr} (h : isSetE e = false) : behindInMarks op e = false := by
  cases e <;> first | rfl | cases h
/-- a comparison, with what comes behind its answer -/
theorem cmp_read {α β : Type} {R : Wd → β → α → Prop} {Q : β → Hp → Prop} {op : CmpOp} {ma mb : M D} {g : Bool → M α} {P : V → Hp → Prop} (h : RdM (mdOf X) B ρ R (bnd ma fun x => bnd mb fun y => bnd (cmpM op x y) g) σ H Q)
    (hg : ∀ W S b H, Wok (mdOf X) B W H S → EnvR (mdOf X) W σ ρ → Post (mdOf X) B σ ρ W R Q (g b S) → P (.bl b) H) : tOp (rCmp (mdOf X) B op) (TD (mdOf X) B ρ ma) (TD (mdOf X) B ρ mb) σ H P :=
  RdM.mono (RdM.then2 (R₁ := Rep (mdOf X)) (R₂ := Rep (mdOf X)) rep_mono h) fun v H1 ⟨x, q1⟩ => RdM.mono q1 fun u H2 ⟨W, S, y, k, e, r1, r2, p⟩ => by
    obtain ⟨b, hb, p⟩ := cmpM_post p
    exact ⟨W, S, x, y, b, k, r1, r2, hb, hg W S b H2 k e p⟩
theorem evCmp_ok {f : Expr → M D} {a : Expr} {ops : List CmpOp} {es : List Expr} {pos : Pos} (hu : X.A.units + 200 < cLine) (ha : PE X a (TD (mdOf X) B ρ (f a))) (hp : ∀ e ∈ es, PE X e (TD (mdOf X) B ρ (f e))) :
    PE X (.Compare a ops es pos) (TD (mdOf X) B ρ (bnd (f a) fun x => bnd (evCmp f x ops es) fun b => ret (.bl b))) ∧ PT X (.Compare a ops es pos) (TB (mdOf X) B ρ (bnd (f a) fun x => evCmp f x ops es)) := by
  have none1 : (∀ x, evCmp f x ops es = stuck) → PE X (.Compare a ops es pos) (TD (mdOf X) B ρ (bnd (f a) fun x => bnd (evCmp f x ops es) fun b => ret (.bl b))) ∧ PT X (.Compare a ops es pos) (TB (mdOf X) B ρ (bnd (f a) fun x => evCmp f x ops es)) := fun hs => by
    have h1 : ∀ {σ H Q}, TD (mdOf X) B ρ (bnd (f a) fun x => bnd (evCmp f x ops es) fun b => ret (.bl b)) σ H Q → False := fun {σ H Q} ⟨W, S, k, e, p⟩ => by
      unfold bnd at p
      cases q : f a S with
      | ok x S1 => rw [q] at p; simp only [hs] at p; exact p
      | exc _ _ _ => rw [q] at p; exact p
      | no => rw [q] at p; exact p
    have h2 : ∀ {σ H Q}, TB (mdOf X) B ρ (bnd (f a) fun x => evCmp f x ops es) σ H Q → False := fun {σ H Q} ⟨W, S, k, e, p⟩ => by
      unfold bnd at p
      cases q : f a S with
      | ok x S1 => rw [q] at p; simp only [hs] at p; exact p
      | exc _ _ _ => rw [q] at p; exact p
      | no => rw [q] at p; exact p
    exact ⟨⟨fun _ _ _ _ _ _ h => (h1 h).elim⟩, ⟨fun _ _ _ _ _ _ h => (h2 h).elim⟩⟩
  match ops, es, hp, none1 with
  | [op], [e], hp, none1 =>
    cases hs : isSetE e with
    | true => exact none1 fun x => if_pos hs
    | false =>
      have he : ∀ x, evCmp f x [op] [e] = bnd (f e) fun y => cmpM op x y := fun x => if_neg (by rw [hs]; exact Bool.false_ne_true)
      simp only [he]
      refine ⟨PE.imp (pe_cmpR (cmp_ok (B := B) hu op) ha (hp e List.mem_cons_self) (noset hs)) fun σ H Q h => ?_, PT.imp (pt_cmpR (cmp_ok (B := B) hu op) ha (hp e List.mem_cons_self) (noset hs)) fun σ H Q h => ?_⟩
      · have h : RdM (mdOf X) B ρ (Rep (mdOf X)) (bnd (f a) fun x => bnd (f e) fun y => bnd (cmpM op x y) fun b => ret (.bl b)) σ H Q := by
          obtain ⟨W, S, k, en, p⟩ := h
          refine ⟨W, S, k, en, ?_⟩
          have e0 : ∀ S, bnd (f a) (fun x => bnd (bnd (f e) fun y => cmpM op x y) fun b => ret (D.bl b)) S = bnd (f a) (fun x => bnd (f e) fun y => bnd (cmpM op x y) fun b => ret (.bl b)) S := fun S => by
            unfold bnd
            cases f a S with
            | ok x S1 => dsimp only; cases f e S1 <;> rfl
            | exc _ _ _ => rfl
            | no => rfl
          rw [← e0]
          exact p
        exact cmp_read h fun W S b H k e p => post_ok k e (.bl b) p
      · have h : RdM (mdOf X) B ρ (fun _ (b : Bool) (c : Bool) => b = c) (bnd (f a) fun x => bnd (f e) fun y => bnd (cmpM op x y) fun b => ret b) σ H Q := by
          obtain ⟨W, S, k, en, p⟩ := h
          refine ⟨W, S, k, en, ?_⟩
          have e0 : ∀ S, bnd (f a) (fun x => bnd (f e) fun y => cmpM op x y) S = bnd (f a) (fun x => bnd (f e) fun y => bnd (cmpM op x y) fun b => ret b) S := fun S => by
            unfold bnd
            cases f a S with
            | ok x S1 =>
              dsimp only
              cases f e S1 with
              | ok y S2 => dsimp only; cases cmpM op x y S2 <;> rfl
              | exc _ _ _ => rfl
              | no => rfl
            | exc _ _ _ => rfl
            | no => rfl
          rw [← e0]
          exact p
        exact cmp_read (P := fun z H' => ∃ k, z = .bl k ∧ Q k H') h fun W S b H k e p => ⟨b, rfl, p W b H (Le.refl W) k e rfl⟩
  | [op, op'], [e, e'], hp, none1 =>
    cases hs : isSetE e || isSetE e' with
    | true => exact none1 fun x => if_pos hs
    | false =>
      have he : ∀ x, evCmp f x [op, op'] [e, e'] = bnd (f e) fun y => bnd (cmpM op x y) fun b => if b then bnd (f e') fun z => cmpM op' y z else ret false := fun x => if_neg (by rw [hs]; exact Bool.false_ne_true)
      simp only [he]
      rw [Bool.or_eq_false_iff] at hs
      have h1 := hp e List.mem_cons_self
      have h2 := hp e' (List.mem_cons_of_mem _ List.mem_cons_self)
      have hm : lastMarks [op, op'] [e, e'] = false := noset hs.2
      have key : ∀ {σ H} {P : V → Hp → Prop} {α β : Type} {R : Wd → β → α → Prop} {Q : β → Hp → Prop} {g : Bool → M α}, RdM (mdOf X) B ρ R (bnd (f a) fun x => bnd (f e) fun y => bnd (cmpM op x y) fun b => bnd (if b then bnd (f e') fun z => cmpM op' y z else ret false) g) σ H Q →
          (∀ W S b H, Wok (mdOf X) B W H S → EnvR (mdOf X) W σ ρ → Post (mdOf X) B σ ρ W R Q (g b S) → P (.bl b) H) → tChain (rCmp (mdOf X) B op) (rCmp (mdOf X) B op') (TD (mdOf X) B ρ (f a)) (TD (mdOf X) B ρ (f e)) (TD (mdOf X) B ρ (f e')) σ H P := fun {σ H P α β R Q g} h hg => by
        refine RdM.mono (RdM.then2 (R₁ := Rep (mdOf X)) (R₂ := Rep (mdOf X)) rep_mono h) fun v H1 ⟨x, q1⟩ => RdM.mono q1 fun u H2 ⟨W, S, y, k, en, r1, r2, p⟩ => ?_
        obtain ⟨b, hb, p⟩ := cmpM_post p
        refine ⟨W, S, x, y, b, k, r1, r2, hb, b, rfl, ?_⟩
        cases b with
        | false => exact hg W S false H2 k en p
        | true =>
          have p : Post (mdOf X) B σ ρ W R Q (bnd (f e') (fun z => bnd (cmpM op' y z) g) S) := by
            have e0 : bnd (bnd (f e') fun z => cmpM op' y z) g S = bnd (f e') (fun z => bnd (cmpM op' y z) g) S := by
              unfold bnd
              cases f e' S <;> rfl
            rw [← e0]
            exact p
          refine RdM.mono (Post.bind (R' := Rep (mdOf X)) k en p) fun w H3 ⟨W3, S3, z, l, k3, e3, r3, p3⟩ => ?_
          obtain ⟨b, hb, p3⟩ := cmpM_post p3
          exact ⟨W3, S3, y, z, b, k3, rep_mono l r2, r3, hb, hg W3 S3 b H3 k3 e3 p3⟩
      have assoc : ∀ {α : Type} (g : Bool → M α) (S : Sto), bnd (f a) (fun x => bnd (bnd (f e) fun y => bnd (cmpM op x y) fun b => if b then bnd (f e') fun z => cmpM op' y z else ret false) g) S = bnd (f a) (fun x => bnd (f e) fun y => bnd (cmpM op x y) fun b => bnd (if b then bnd (f e') fun z => cmpM op' y z else ret false) g) S := fun g S => by
        unfold bnd
        cases f a S with
        | ok x S1 =>
          dsimp only
          cases f e S1 with
          | ok y S2 =>
            dsimp only
            cases cmpM op x y S2 with
            | ok b S3 => rfl
            | exc _ _ _ => rfl
            | no => rfl
          | exc _ _ _ => rfl
          | no => rfl
        | exc _ _ _ => rfl
        | no => rfl
      refine ⟨PE.imp (pe_chain (cmp_ok (B := B) hu op) (cmp_ok (B := B) hu op') ha h1 h2 hm) fun σ H Q ⟨W, S, k, en, p⟩ => ?_, PT.imp (pt_chain (cmp_ok (B := B) hu op) (cmp_ok (B := B) hu op') ha h1 h2 hm) fun σ H Q ⟨W, S, k, en, p⟩ => ?_⟩
      · rw [assoc] at p
        exact key ⟨W, S, k, en, p⟩ fun W S b H k e p => post_ok k e (.bl b) p
      · have e0 : ∀ S, bnd (f a) (fun x => bnd (f e) fun y => bnd (cmpM op x y) fun b => if b then bnd (f e') fun z => cmpM op' y z else ret false) S = bnd (f a) (fun x => bnd (bnd (f e) fun y => bnd (cmpM op x y) fun b => if b then bnd (f e') fun z => cmpM op' y z else ret false) fun b => ret b) S := fun S => by
          exact bnd_congr fun x S => (bnd_ret _ S).symm
        rw [e0, assoc] at p
        exact key (P := fun z H' => ∃ k, z = .bl k ∧ Q k H') ⟨W, S, k, en, p⟩ fun W S b H k e p => ⟨b, rfl, p W b H (Le.refl W) k e rfl⟩
  | [], _, _, none1 => exact none1 fun x => rfl
  | [_], [], _, none1 => exact none1 fun x => rfl
  | [_], _ :: _ :: _, _, none1 => exact none1 fun x => rfl
  | [_, _], [], _, none1 => exact none1 fun x => rfl
  | [_, _], [_], _, none1 => exact none1 fun x => rfl
  | [_, _], _ :: _ :: _ :: _, _, none1 => exact none1 fun x => rfl
  | _ :: _ :: _ :: _, _, _, none1 => exact none1 fun x => by unfold evCmp; rfl
/-! ### subscripts -/
theorem noslice {i : Expr} (h : isSlice i = false) (o v : Value) : subscripted i false o v = operate [o, v] (getItem o v) := by
  cases i <;> first | rfl | cases h
theorem item_pe {a i : Expr} {pos : Pos} {ma mi : M D} (hu : X.A.units + 200 < cLine) (ha : PE X a (TD (mdOf X) B ρ ma)) (hi : PE X i (TD (mdOf X) B ρ mi)) (hs : isSlice i = false) : PE X (.Subscript a i pos) (TD (mdOf X) B ρ (bnd ma fun x => bnd mi fun y => itemM x y)) := by
  refine ⟨fun pins s σ H Q I h => ?_⟩
  refine Subscript_ (binT (R := fun v u H2 => ∃ W S x y, Wok (mdOf X) B W H2 S ∧ EnvR (mdOf X) W σ ρ ∧ Rep (mdOf X) W v x ∧ Rep (mdOf X) W u y ∧ Post (mdOf X) B σ ρ W (Rep (mdOf X)) Q (itemM x y S)) ha hi I ?_ fun v u s2 x y H2 I2 rx ry ⟨W, S, dx, dy, k, e, r1, r2, p⟩ => item_any hu I2 k e r1 r2 rx ry p (noslice hs _ _))
  exact RdM.mono (RdM.then2 (R₁ := Rep (mdOf X)) (R₂ := Rep (mdOf X)) rep_mono h) fun v H1 ⟨x, q1⟩ => RdM.mono q1 fun u H2 ⟨W, S, y, k, e, r1, r2, p⟩ => ⟨W, S, x, y, k, e, r1, r2, p⟩
abbrev TOp (μ : Md) (B : List Nat) (ρ : Env) (m : M (Option Int)) : TO := fun σ H Q => RdM μ B ρ (fun _ (b : Option Int) (c : Option Int) => b = c) m σ H Q
theorem part_ok {f : Expr → M D} : ∀ {o : Option Expr}, (∀ e, o = some e → PE X e (TD (mdOf X) B ρ (f e))) → PO X o (TOp (mdOf X) B ρ (partM f o))
  | none, _ => ⟨fun pins s σ H Q I h => (po_none (X := X)).run pins s σ H Q I (by
      obtain ⟨W, S, k, e, p⟩ := h
      exact p W none H (Le.refl W) k e rfl)⟩
  | some e, hp => ⟨fun pins s σ H Q I h => (po_some (hp e rfl)).run pins s σ H Q I (by
      have h : RdM (mdOf X) B ρ (fun _ (b : Option Int) (c : Option Int) => b = c) (bnd (f e) fun d => match d with
        | .int i => ret (some i)
        | _ => stuck) σ H Q := h
      refine RdM.mono (RdM.bind (R' := Rep (mdOf X)) h) fun v H1 ⟨W1, S1, x, k1, e1, r1, p1⟩ => ?_
      split at p1
      · cases r1
        exact ⟨_, rfl, p1 W1 _ H1 (Le.refl W1) k1 e1 rfl⟩
      · exact p1.elim)⟩
theorem cut_pe {G : Gl} {f : Expr → M D} {a : Expr} {lo hi : Option Expr} {p2 pos ps : Pos} (ha : PE X a (TD (mdOf X) B ρ (f a))) (hl : ∀ e, lo = some e → PE X e (TD (mdOf X) B ρ (f e))) (hh : ∀ e, hi = some e → PE X e (TD (mdOf X) B ρ (f e))) :
    PE X (.Subscript a (.Slice lo hi none p2) pos) (TD (mdOf X) B ρ (bnd (f a) fun x => bnd (partM f lo) fun l => bnd (partM f hi) fun h => viewed x fun x => newM G ps (cutD l h x))) := by
  refine PE.imp (pe_slice sl_cut ha (part_ok hl) (part_ok hh)) fun σ H Q h => ?_
  refine RdM.mono (RdM.then2 (R₁ := Rep (mdOf X)) (R₂ := fun _ (b : Option Int) (c : Option Int) => b = c) rep_mono h) fun v H1 ⟨x, q1⟩ => RdM.mono q1 fun l H2 ⟨W, S, y, k, e, r1, r2, p⟩ => ?_
  cases r2
  refine RdM.mono (Post.bind (R' := fun _ (b : Option Int) (c : Option Int) => b = c) k e p) fun u H3 ⟨W3, S3, z, le, k3, e3, r3, p3⟩ => ?_
  cases r3
  exact cut_ok (m := true) k3 e3 (rep_mono le r1) p3
theorem rev_pe {G : Gl} {a : Expr} {k : Nat} {p1 p2 p3 pos ps : Pos} {ma : M D} (ha : PE X a (TD (mdOf X) B ρ ma)) :
    PE X (.Subscript a (.Slice none none (some (.UnaryOp .USub (.Constant (.int 1) k p1) p2)) p3) pos) (TD (mdOf X) B ρ (bnd ma fun x => viewed x fun x => newM G ps (revD x))) := by
  refine PE.imp (pe_revL ha) fun σ H Q h => ?_
  refine RdM.mono (RdM.bind (R' := Rep (mdOf X)) h) fun v H1 ⟨W1, S1, x, k1, e1, r1, p1⟩ => ?_
  have sx := r1.view k1
  have p1 : Post (mdOf X) B σ ρ W1 (Rep (mdOf X)) Q (newM G ps (revD (view S1 x)) S1) := p1
  generalize view S1 x = x' at sx p1
  cases x' with
  | lst xs =>
    obtain ⟨l, vs, rfl, h1, r⟩ := sx.lstE
    exact ⟨l, vs, rfl, .inl h1, fun p n => post_lst k1 e1 r.reverse p1 n⟩
  | _ => exact p1.elim
/-! ### calls -/
theorem call_bi {f : Str} {args : List Expr} {p pos q : Pos} {E : Expr → M D} (O : XOk X B c sc) (hg : glo sc f = true) (hb : c.G.blt f = true) (hs : args.any isStar = false) (hp : ∀ e ∈ args, PE X e (TD (mdOf X) B ρ (E e))) :
    PE X (.Call (.Name f p) args [] pos) (TD (mdOf X) B ρ (bnd (evList E args) (biM c.G q f))) := by
  have ha := evList_ok hs hp
  refine ⟨fun pins s σ H Q I h => ?_⟩
  cases hk : bkOf f with
  | none =>
    exfalso
    obtain ⟨W, S, k, e, p⟩ := h
    unfold bnd at p
    cases q1 : evList E args S with
    | ok x S1 =>
      rw [q1] at p
      have e0 : biM c.G q f x S1 = .no := by
        unfold biM
        dsimp only
        have : biD f (x.map (view S1)) = none := by unfold biD; rw [hk]
        rw [this]
      dsimp only at p
      rw [e0] at p
      exact p
    | exc _ _ _ => rw [q1] at p; exact p
    | no => rw [q1] at p; exact p
  | some b =>
    have hf := bk_name hk
    cases args with
    | nil =>
      exfalso
      obtain ⟨W, S, k, e, p⟩ := h
      have p : Post (mdOf X) B σ ρ W (Rep (mdOf X)) Q (biM c.G q f [] S) := p
      unfold biM at p
      dsimp only at p
      have : biD f (([] : List D).map (view S)) = none := by
        unfold biD
        rw [hk]
        cases b <;> rfl
      rw [this] at p
      exact p
    | cons e es =>
      rw [List.any_cons, Bool.or_eq_false_iff] at hs
      have run : ∀ bv, bv = b.val → wpAny (model X.prog X.w) X.A (spliced (backTo pos (starEach (e :: es) X.env))) (fun us s1 => wpAny (model X.prog X.w) X.A (call bv us) (EP X pins σ Q) X.xe s1) X.xe s := fun bv hbv => by
        refine thn (ha.run pos pins s σ H _ I (RdM.mono (RdM.bind (R' := RepL (mdOf X)) h) fun vs H1 q => q)) fun us s1 ⟨vs, H1, I1, r1, W1, S1, x, k1, e1, rl, p1⟩ => ?_
        obtain ⟨b', hb', wp⟩ := bi_ok O.calm O.hh O.units I1 k1 e1 rl r1 p1
        rw [hk] at hb'
        cases hb'
        rw [hbv]
        exact wp
      refine wpAny_Call_Name_kw (ld_blt I (O.gl hg) (O.blt f hb) (by rw [hf]; exact b.boot) ?_ (by rw [hf]; exact b.nn.1) (by rw [hf]; exact b.nn.2))
      rcases b.call with ⟨id, hv⟩ | ⟨T, hv⟩
      · rw [hv]
        exact PyProof.Rows.callWith_builtin1 (run _ hv.symm) (starEach_cons hs.1) (backTo_plain hs.2)
      · rw [hv]
        exact PyProof.Rows.callWith_type1 (run _ hv.symm) (starEach_cons hs.1) (backTo_plain hs.2)
theorem call_fn {f : Str} {fd : Fd} {args : List Expr} {p pos q : Pos} {E : Expr → M D} (O : XOk X B c sc) (hg : glo sc f = true) (hf : c.G.fns.lookup f = some fd) (hs : args.any isStar = false) (hp : ∀ e ∈ args, PE X e (TD (mdOf X) B ρ (E e))) :
    PE X (.Call (.Name f p) args [] pos) (TD (mdOf X) B ρ (bnd (evList E args) (c.cal (c.G.isMut q) f))) := by
  have ha := evList_ok hs hp
  obtain ⟨k, fu, hcal, room, hF⟩ := O.call
  obtain ⟨fa, fdat, hm, hk, hb, F⟩ := hF f fd hf
  have key : ∀ {σ H Q}, TD (mdOf X) B ρ (bnd (evList E args) (c.cal (c.G.isMut q) f)) σ H Q → tCall (SpF (mdOf X) c.G fu k f) [] E0 (TL (mdOf X) B ρ (evList E args)) σ H Q := fun {σ H Q} h => by
    refine RdM.mono (RdM.bind (R' := RepL (mdOf X)) h) fun vs H1 ⟨W1, S1, xs, k1, e1, r1, p1⟩ => ?_
    rw [hcal] at p1
    have hlen : fd.ps.length = vs.length := by
      cases k with
      | zero => exact p1.elim
      | succ k =>
        have e0 : callF c.G fu (k + 1) (c.G.isMut q) f xs = (match c.G.fns.lookup f with
          | none => stuck
          | some fd => if xs.length == fd.ps.length then fun S =>
              bnd (execs (exec ⟨c.G, callF c.G fu k, fd.N, S.length, fu⟩ 40 fd.sc) fd.body (start fd.N xs)) (fun o => match o with
                | .nx _ => leave (c.G.isMut q) S.length .non
                | .rt d => leave (c.G.isMut q) S.length d) S
            else stuck) := rfl
        rw [e0, hf] at p1
        dsimp only at p1
        cases hl : xs.length == fd.ps.length with
        | true => rw [r1.length]; exact (eq_of_beq hl).symm
        | false => rw [hl] at p1; exact p1.elim
    refine ⟨B, W1, S1, xs, c.G.isMut q, k1, ?_, ?_, ⟨fd, hf, ?_⟩, ?_⟩
    · rw [List.append_nil]; exact r1
    · rw [List.append_nil]; exact r1.length.symm
    · rw [List.append_nil]; exact hlen
    · cases hr : callF c.G fu k (c.G.isMut q) f xs S1 with
      | ok d S' =>
        rw [hr] at p1
        exact fun W' v H' l k' r => p1 W' v H' l k' (e1.le l.toF) r
      | exc _ _ _ => rw [hr] at p1; exact p1
      | no => rw [hr] at p1; exact p1
  cases args with
  | nil =>
    refine PE.imp (pe_call0 F room (O.gl hg) hm hk hb .nil pass0 (glo_of hg).2) fun σ H Q h => ?_
    have h := key h
    obtain ⟨W, S, k1, e1, p1⟩ := h
    exact p1 W [] H (Le.refl W) k1 e1 .nil
  | cons e es =>
    rw [List.any_cons, Bool.or_eq_false_iff] at hs
    exact PE.imp (pe_call F room (O.gl hg) hm hk hb .nil pass0 ha (glo_of hg).2 (starEach_cons hs.1) (backTo_plain hs.2)) fun σ H Q h => key h
end
end Ly

/-! Ly: isinstance, methods, displays of dicts. -/
set_option autoImplicit false
set_option linter.all false
set_option maxRecDepth 100000
set_option maxHeartbeats 1000000
namespace Ly
open PySem PySem.Spec PyProof.Rows L2
mutual
theorem closed_below (m : Nat) : ∀ {d : D}, closedD d = true → belowD m d
  | .non, _ => trivial
  | .bl _, _ => trivial
  | .int _, _ => trivial
  | .str _, _ => trivial
  | .fn _, _ => trivial
  | .ref _, h => by simp only [closedD] at h; cases h
  | .tup xs, h => by simp only [closedD] at h; simp only [belowD]; exact closedL_below m h
  | .lst xs, h => by simp only [closedD] at h; simp only [belowD]; exact closedL_below m h
  | .set xs, h => by simp only [closedD] at h; simp only [belowD]; exact closedL_below m h
  | .dct xs, h => by simp only [closedD] at h; simp only [belowD]; exact closedK_below m h
theorem closedL_below (m : Nat) : ∀ {xs : List D}, closedL xs = true → belowL m xs
  | [], _ => by simp only [belowL]
  | x :: xs, h => by
    simp only [closedL, Bool.and_eq_true] at h
    simp only [belowL]
    exact ⟨closed_below m h.1, closedL_below m h.2⟩
theorem closedK_below (m : Nat) : ∀ {xs : List (D × D)}, closedK xs = true → belowK m xs
  | [], _ => by simp only [belowK]
  | (a, b) :: xs, h => by
    simp only [closedK, Bool.and_eq_true] at h
    simp only [belowK]
    exact ⟨closed_below m h.1.1, closed_below m h.1.2, closedK_below m h.2⟩
end
theorem belowL_append {m : Nat} : ∀ {xs ys : List D}, belowL m xs → belowL m ys → belowL m (xs ++ ys)
  | [], _, _, h => h
  | x :: xs, ys, h, g => by
    simp only [belowL] at h
    rw [List.cons_append]
    simp only [belowL]
    exact ⟨h.1, belowL_append h.2 g⟩
theorem belowL_set {m : Nat} {v : D} (hv : belowD m v) : ∀ {xs : List D} (i : Nat), belowL m xs → belowL m (xs.set i v)
  | [], _, h => h
  | x :: xs, 0, h => by
    simp only [belowL] at h
    rw [List.set_cons_zero]
    simp only [belowL]
    exact ⟨hv, h.2⟩
  | x :: xs, i + 1, h => by
    simp only [belowL] at h
    rw [List.set_cons_succ]
    simp only [belowL]
    exact ⟨h.1, belowL_set hv i h.2⟩
theorem belowL_dropLast {m : Nat} : ∀ {xs : List D}, belowL m xs → belowL m xs.dropLast
  | [], h => h
  | [x], h => by
    show belowL m []
    simp only [belowL]
  | x :: y :: xs, h => by
    simp only [belowL] at h
    rw [List.dropLast_cons₂]
    simp only [belowL]
    exact ⟨h.1, belowL_dropLast (by simp only [belowL]; exact h.2)⟩
theorem belowK_append {m : Nat} : ∀ {xs ys : List (D × D)}, belowK m xs → belowK m ys → belowK m (xs ++ ys)
  | [], _, _, h => h
  | (a, b) :: xs, ys, h, g => by
    simp only [belowK] at h
    rw [List.cons_append]
    simp only [belowK]
    exact ⟨h.1, h.2.1, belowK_append h.2.2 g⟩
theorem belowK_map {m : Nat} {k v : D} (hv : belowD m v) : ∀ {xs : List (D × D)}, belowK m xs → belowK m (xs.map fun kv => if keyEq kv.1 k then (kv.1, v) else kv)
  | [], h => h
  | (a, b) :: xs, h => by
    simp only [belowK] at h
    rw [List.map_cons]
    split
    · simp only [belowK]
      exact ⟨h.1, hv, belowK_map hv h.2.2⟩
    · simp only [belowK]
      exact ⟨h.1, h.2.1, belowK_map hv h.2.2⟩
theorem keyD_below {m : Nat} {k : D} (h : keyOk k = true) : belowD m k := by
  cases k with
  | int i => simp only [belowD]
  | str x => simp only [belowD]
  | _ => cases h
theorem belowK_put {m : Nat} {k v : D} (hk : keyOk k = true) (hv : belowD m v) {xs : List (D × D)} (h : belowK m xs) : belowK m (putK xs k v) := by
  unfold putK
  split
  · exact belowK_map hv h
  · exact belowK_append h (by simp only [belowK]; exact ⟨keyD_below hk, hv, trivial⟩)
section
variable {X : Cx} {B : List Nat} {c : Cfg} {sc : Scope} {σ : L2.St} {ρ : Env} {H : Hp} {W : Wd} {S : Sto}
theorem hold_below {base n b : Nat} {v : D} (hb : b ≤ base) (hn : n < b) (h : mayHold base n v = true) : belowD b v := by
  unfold mayHold at h
  rw [Bool.or_eq_true, decide_eq_true_eq] at h
  rcases h with h | h
  · omega
  · exact closed_below b h
/-! ### isinstance -/
theorem isa_ok {f t : Str} {a : Expr} {p tp pos : Pos} {ma : M D} (O : XOk X B c sc) (hf : seq f "isinstance" = true) (hg : glo sc f = true) (hb : c.G.blt f = true) (tg : glo sc t = true) (tb : c.G.blt t = true) (hs : isStar a = false) (ha : PE X a (TD (mdOf X) B ρ ma)) :
    PE X (.Call (.Name f p) [a, .Name t tp] [] pos) (TD (mdOf X) B ρ (bnd ma fun d => viewed d fun d => ofOp ((isaD t d).map .bl))) := by
  cases seq_eq hf
  have step : ∀ (T : String) (hT : bootBuiltins t = some (.type T)) (tn : t ≠ "__name__") (td : (t == ("__debug__" : Str)) = false) (g : PyData → Bool)
      (isa : ∀ {s : Shared} {v : Value} {d : PyData} {as : List Addr} {A : Around} {E Q : Value → Shared → Prop}, Reads s.heap v d as → (∀ tk, s.toks ≤ tk → Q (.bool (g d)) { s with toks := tk }) → wpAny (model X.prog X.w) A (call (.builtin "isinstance") [v, .type T]) Q E s)
      (hi : ∀ d, isaD t d = d.py.map g), PE X (.Call (.Name "isinstance" p) [a, .Name t tp] [] pos) (TD (mdOf X) B ρ (bnd ma fun d => viewed d fun d => ofOp ((isaD t d).map .bl))) := fun T hT tn td g isa hi => by
    refine ⟨fun pins s σ H Q I h => ?_⟩
    have ht : PE X (.Name t tp) (tC (.ty T)) := pe_bltn (O.gl tg) (O.blt t tb) hT rfl tn td
    refine wpAny_Call_Name_kw (ld_blt I (O.gl hg) (O.blt _ hb) (by rfl) ?_ (by decide) (by decide))
    have hpa : PA X [a, .Name t tp] (tCons (TD (mdOf X) B ρ ma) (tCons (tC (.ty T)) tNil)) := pa_cons ha (pa_cons ht pa_nil rfl) (starEach_cons hs)
    have hq : tCons (TD (mdOf X) B ρ ma) (tCons (tC (.ty T)) tNil) σ H (fun vs H2 => ∃ v W1 S1 x, vs = [v, .ty T] ∧ Wok (mdOf X) B W1 H2 S1 ∧ EnvR (mdOf X) W1 σ ρ ∧ Rep (mdOf X) W1 v x ∧ Post (mdOf X) B σ ρ W1 (Rep (mdOf X)) Q ((viewed x fun d => ofOp ((isaD t d).map .bl)) S1)) := by
      refine RdM.mono (RdM.bind (R' := Rep (mdOf X)) h) fun v H1 ⟨W1, S1, x, q⟩ => ?_
      exact ⟨v, W1, S1, x, rfl, q⟩
    refine PyProof.Rows.callWith_builtin1 (thn (hpa.run pos pins s σ H _ I hq) fun us s1 ⟨vs, H1, I1, r1, v, W1, S1, x, ev, k1, e1, rl, p1⟩ => ?_) (starEach_cons hs) (backTo_plain rfl)
    · subst ev
      have sx := rl.view k1
      have p1 : Post (mdOf X) B σ ρ W1 (Rep (mdOf X)) Q ((ofOp ((isaD t (view S1 x)).map .bl) : M D) S1) := p1
      rw [hi] at p1
      cases hpy : (view S1 x).py with
      | none => rw [hpy] at p1; exact p1.elim
      | some d =>
        rw [hpy] at p1
        cases r1 with
        | cons ra rr =>
          cases rr with
          | cons rt rn =>
            cases rn
            cases rt
            obtain ⟨as, rd⟩ := sx.reads I1 k1 hpy ra
            exact isa rd fun tk _ => ⟨.bl (g d), H1, I1.tok _, rfl, post_ok k1 e1 (.bl _) p1⟩
  have isaE : ∀ {d : D} {g : PyData → Bool} {n : Str}, seq t n = true → True := fun _ => trivial
  by_cases h1 : seq t "int" = true
  · cases seq_eq h1
    exact step "int" (by rfl) (by decide) (by decide) _ PySem.W.isinstance_int_data fun d => by unfold isaD; cases d.py <;> rfl
  by_cases h2 : seq t "bool" = true
  · cases seq_eq h2
    exact step "bool" (by rfl) (by decide) (by decide) _ PySem.W.isinstance_bool_data fun d => by unfold isaD; cases d.py <;> rfl
  by_cases h3 : seq t "str" = true
  · cases seq_eq h3
    exact step "str" (by rfl) (by decide) (by decide) _ PySem.W.isinstance_str_data fun d => by unfold isaD; cases d.py <;> rfl
  by_cases h4 : seq t "tuple" = true
  · cases seq_eq h4
    exact step "tuple" (by rfl) (by decide) (by decide) _ PySem.W.isinstance_tuple_data fun d => by unfold isaD; cases d.py <;> rfl
  · have hn : ∀ d, isaD t d = none := fun d => by
      unfold isaD
      cases d.py with
      | none => rfl
      | some q => dsimp only; rw [if_neg h1, if_neg h2, if_neg h3, if_neg h4]
    refine ⟨fun pins s σ H Q I h => ?_⟩
    exfalso
    obtain ⟨W, S, k, e, q⟩ := h
    unfold bnd at q
    cases h : ma S with
    | ok x S1 =>
      rw [h] at q
      have q : Post (mdOf X) B σ ρ W (Rep (mdOf X)) Q ((ofOp ((isaD t (view S1 x)).map .bl) : M D) S1) := q
      rw [hn] at q
      exact q
    | exc _ _ _ => rw [h] at q; exact q
    | no => rw [h] at q; exact q
/-! ### methods -/
theorem nocall_base {o : Expr} (h : isNoCall o = true) (m : Str) (env : PySem.Env) (t : Sem Value) : attributeBase o m env t = t := by
  cases o with
  | Call f as ks p =>
    cases as with
    | nil =>
      cases ks with
      | nil => cases h
      | cons k ks => cases f <;> rfl
    | cons a as => cases f <;> rfl
  | _ => rfl
theorem few_ok {es : List Expr} {env : PySem.Env} {pos : Pos} (h : es.any isStar = false) (hl : es.length < 5) :
    ((backTo pos (starEach es env)).all (fun x => !x.1) && (backToKw pos (keywordEach [] env)).all (fun x => x.1.isSome) && decide (es.length + ([] : List Keyword).length + (if ([] : List Keyword).isEmpty then 0 else 1) < 30)) = true := by
  have h1 := backTo_plain (env := env) (pos := pos) h
  have h2 : (backTo pos (starEach es env)).all (fun x => !x.1) = true := by
    rw [List.all_eq_true]
    intro x hx
    have := List.any_eq_false.mp h1 x hx
    simpa using this
  rw [h2, Bool.true_and, Bool.and_eq_true]
  refine ⟨rfl, decide_eq_true ?_⟩
  show es.length + 0 + 0 < 30
  omega
theorem app_post {σ : L2.St} {d v : D} {x y : V} {base : Nat} {Q : VK} (hB : ∀ m ∈ B, m ≤ base) (k : Wok (mdOf X) B W H S) (e : EnvR (mdOf X) W σ ρ) (rd : Rep (mdOf X) W x d) (rv : Rep (mdOf X) W y v) (p : Post (mdOf X) B σ ρ W (Rep (mdOf X)) Q (appM base d v S)) :
    rAppend x [y] H Q := by
  unfold appM at p
  split at p
  · rename_i n
    split at p
    · rename_i xs hS
      split at p
      · rename_i hc
        rw [Bool.and_eq_true, decide_eq_true_eq] at hc
        cases rd with
        | ref ha =>
          rename_i l
          obtain ⟨vs, hl, rl⟩ := k.obj n l (.lst xs) ha hS
          refine ⟨l, vs, y, rfl, rfl, hl, by rw [rl.length, ← line_eq]; exact hc.2, ?_⟩
          have k' : Wok (mdOf X) B W (upd H l (.lst (vs ++ [y]))) (S.set n (.lst (xs ++ [v]))) := k.put ha ⟨_, upd_same, rl.append (.cons rv .nil)⟩ fun b hb hn => by
            obtain ⟨_, hbl⟩ := k.below b hb
            have h0 : belowM b (.lst xs) := hbl n _ hn hS
            exact belowL_append h0 (by simp only [belowL]; exact ⟨hold_below (hB b hb) hn hc.1, trivial⟩)
          exact p W .non _ (Le.refl W) k' e .non
      · exact p.elim
    · exact p.elim
  · exact p.elim
theorem pop_post {σ : L2.St} {d : D} {x : V} {Q : VK} (k : Wok (mdOf X) B W H S) (e : EnvR (mdOf X) W σ ρ) (rd : Rep (mdOf X) W x d) (p : Post (mdOf X) B σ ρ W (Rep (mdOf X)) Q (popM d S)) : rPop x [] H Q := by
  unfold popM at p
  split at p
  · rename_i n
    split at p
    · rename_i xs hS
      split at p
      · rename_i y hy
        cases rd with
        | ref ha =>
          rename_i l
          obtain ⟨vs, hl, rl⟩ := k.obj n l (.lst xs) ha hS
          obtain ⟨w, hw, rw'⟩ := rl.get hy
          refine ⟨l, vs, w, rfl, rfl, hl, by rw [rl.length]; exact hw, ?_⟩
          have rdl : RepL (mdOf X) W vs.dropLast xs.dropLast := by
            rw [List.dropLast_eq_take, List.dropLast_eq_take, rl.length]
            exact rl.take _
          have k' : Wok (mdOf X) B W (upd H l (.lst vs.dropLast)) (S.set n (.lst xs.dropLast)) := k.put ha ⟨_, upd_same, rdl⟩ fun b hb hn => by
            obtain ⟨_, hbl⟩ := k.below b hb
            have h0 : belowM b (.lst xs) := hbl n _ hn hS
            exact belowL_dropLast h0
          exact p W w _ (Le.refl W) k' e rw'
      · exact p.elim
    · exact p.elim
  · exact p.elim
theorem get_is {σ : L2.St} {d : D} {args : List D} {Q : VK} (p : Post (mdOf X) B σ ρ W (Rep (mdOf X)) Q (getM d args S)) : ∃ kvs, view S d = .dct kvs ∧ ((∃ k, args = [k] ∧ keyOk k = true ∧ Post (mdOf X) B σ ρ W (Rep (mdOf X)) Q (.ok ((getK kvs k).getD .non) S)) ∨ ∃ k x, args = [k, x] ∧ keyOk k = true ∧ Post (mdOf X) B σ ρ W (Rep (mdOf X)) Q (.ok ((getK kvs k).getD x) S)) := by
  have p : Post (mdOf X) B σ ρ W (Rep (mdOf X)) Q ((ofOp (meD "get" (view S d) args) : M D) S) := p
  cases hv : view S d with
  | dct kvs =>
    rw [hv] at p
    match args, p with
    | [k], p =>
      have p : Post (mdOf X) B σ ρ W (Rep (mdOf X)) Q ((ofOp (if seq "get" "get" && keyOk k then some ((getK kvs k).getD .non) else none) : M D) S) := p
      cases hk : keyOk k with
      | false => rw [hk, Bool.and_false] at p; exact p.elim
      | true =>
        rw [hk, seq_refl] at p
        exact ⟨kvs, rfl, .inl ⟨k, rfl, hk, p⟩⟩
    | [k, x], p =>
      have p : Post (mdOf X) B σ ρ W (Rep (mdOf X)) Q ((ofOp (if seq "get" "get" && keyOk k then some ((getK kvs k).getD x) else none) : M D) S) := p
      cases hk : keyOk k with
      | false => rw [hk, Bool.and_false] at p; exact p.elim
      | true =>
        rw [hk, seq_refl] at p
        exact ⟨kvs, rfl, .inr ⟨k, x, rfl, hk, p⟩⟩
    | [], p => exact p.elim
    | _ :: _ :: _ :: _, p => exact p.elim
  | _ =>
    rw [hv] at p
    exact p.elim
theorem preM_lst {α β : Type} {R : Wd → β → α → Prop} {Q : β → Hp → Prop} {σ : L2.St} {m : Str} {n : Nat} {d : D} {f : Unit → M α} (hm : (seq m "append" && n == 1 || seq m "pop" && n == 0) = true) (p : Post (mdOf X) B σ ρ W R Q (bnd (preM m n d) f S)) :
    ∃ j xs, d = .ref j ∧ S[j]? = some (.lst xs) ∧ Post (mdOf X) B σ ρ W R Q (f () S) := by
  have e0 : preM m n d = lstM d := if_pos hm
  rw [e0] at p
  unfold bnd lstM at p
  cases d with
  | ref j =>
    dsimp only at p
    cases hS : S[j]? with
    | none => rw [hS] at p; exact p.elim
    | some mo =>
      rw [hS] at p
      cases mo with
      | lst xs => exact ⟨j, xs, rfl, hS, p⟩
      | dct _ => exact p.elim
      | lck _ => exact p.elim
  | _ => exact p.elim
theorem preM_dct {α β : Type} {R : Wd → β → α → Prop} {Q : β → Hp → Prop} {σ : L2.St} {n : Nat} {d : D} {f : Unit → M α} (p : Post (mdOf X) B σ ρ W R Q (bnd (preM "get" n d) f S)) :
    ∃ kvs, view S d = .dct kvs ∧ (n = 1 ∨ n = 2) ∧ Post (mdOf X) B σ ρ W R Q (f () S) := by
  have h1 : seq "get" "append" = false := by decide
  have h2 : seq "get" "pop" = false := by decide
  have e0 : preM "get" n d = if (n == 1 || n == 2) = true then dctM d else stuck := by
    unfold preM
    simp only [h1, h2, seq_refl, Bool.false_and, Bool.or_self, Bool.false_eq_true, if_false, Bool.true_and]
  rw [e0] at p
  by_cases hn : (n == 1 || n == 2) = true
  · rw [if_pos hn] at p
    unfold bnd dctM at p
    cases hv : view S d with
    | dct kvs =>
      rw [hv] at p
      refine ⟨kvs, rfl, ?_, p⟩
      rw [Bool.or_eq_true, beq_iff_eq, beq_iff_eq] at hn
      exact hn
    | _ => rw [hv] at p; exact p.elim
  · rw [if_neg hn] at p
    exact p.elim
end
end Ly

/-! Ly: methods and displays of dicts as expressions. -/
set_option autoImplicit false
set_option linter.all false
set_option maxRecDepth 100000
set_option maxHeartbeats 1000000
namespace Ly
open PySem PySem.Spec PyProof.Rows L2
section
variable {X : Cx} {B : List Nat} {c : Cfg} {sc : Scope} {σ : L2.St} {ρ : Env} {H : Hp} {W : Wd} {S : Sto}
theorem rdm_dead {μ : Md} {α β : Type} {R : Wd → β → α → Prop} {m : M α} {Q : β → Hp → Prop} (h : ∀ S, m S = .no ∨ ∃ x p S', m S = .exc x p S') : ¬ RdM μ B ρ R m σ H Q := fun ⟨W, S, k, e, p⟩ => by
  rcases h S with h | ⟨x, q, S', h⟩ <;> rw [h] at p <;> exact p
theorem bnd_dead {α β : Type} {m : M α} {f : α → M β} (h : ∀ x S, f x S = .no ∨ ∃ y p S', f x S = .exc y p S') : ∀ S, bnd m f S = .no ∨ ∃ y p S', bnd m f S = .exc y p S' := fun S => by
  unfold bnd
  cases m S with
  | ok x S1 => exact h x S1
  | exc y p S1 => exact .inr ⟨y, p, S1, rfl⟩
  | no => exact .inl rfl
theorem pe_dead {e : Expr} {m : M D} (h : ∀ S, m S = .no ∨ ∃ x p S', m S = .exc x p S') : PE X e (TD (mdOf X) B ρ m) := ⟨fun _ _ _ _ _ _ q => (rdm_dead h q).elim⟩
theorem meth_ok {o : Expr} {m : Str} {args : List Expr} {ap pos : Pos} {mo : M D} {E : Expr → M D} (O : XOk X B c sc) (hl : (ap.endLine == pos.line) = true) (hn : isNoCall o = true) (h5 : args.length < 5) (hs : args.any isStar = false)
    (ho : PE X o (TD (mdOf X) B ρ mo)) (hp : ∀ e ∈ args, PE X e (TD (mdOf X) B ρ (E e))) :
    PE X (.Call (.Attribute o m ap) args [] pos) (TD (mdOf X) B ρ (bnd mo fun d => bnd (preM m args.length d) fun _ => bnd (evList E args) fun xs => meM c m d xs)) := by
  have dead : (∀ d, preM m args.length d = stuck) → PE X (.Call (.Attribute o m ap) args [] pos) (TD (mdOf X) B ρ (bnd mo fun d => bnd (preM m args.length d) fun _ => bnd (evList E args) fun xs => meM c m d xs)) := fun h => pe_dead (bnd_dead fun d S => by
    rw [h d]
    exact .inl rfl)
  have ha := evList_ok hs hp
  by_cases c1 : (seq m "append" && args.length == 1) = true
  · have hm : (seq m "append" && args.length == 1 || seq m "pop" && args.length == 0) = true := by rw [c1]; rfl
    rw [Bool.and_eq_true] at c1
    cases seq_eq c1.1
    match args, hs, h5, hp, ha, hm, c1, dead with
    | [e], hs, h5, hp, ha, hm, c1, _ =>
      rw [List.any_cons, Bool.or_eq_false_iff] at hs
      refine PE.imp (pe_bm PySem.F.plainAttrs_list PySem.F.slot_list_append PySem.F.type_list_append mt_append ho ha (nocall_base hn _ _ _) (few_ok (by rw [List.any_cons, hs.1]; rfl) h5) hl (starEach_cons hs.1) (backTo_plain hs.2)) fun σ H Q h => ?_
      refine RdM.mono (RdM.bind (R' := Rep (mdOf X)) h) fun v H1 ⟨W1, S1, d, k1, e1, r1, p1⟩ => ?_
      obtain ⟨j, xs, rfl, hS, p1⟩ := preM_lst hm p1
      cases r1 with
      | ref hj =>
        obtain ⟨vs, hl1, rl1⟩ := k1.obj _ _ _ hj hS
        refine ⟨.inl ⟨rfl, vs, .inl (.inl hl1)⟩, ?_⟩
        refine RdM.mono (Post.bind (R' := RepL (mdOf X)) k1 e1 p1) fun us H2 ⟨W2, S2, zs, l, k2, e2, r2, p2⟩ => ?_
        cases r2 with
        | nil => exact p2.elim
        | cons rv rn =>
          cases rn with
          | nil => exact app_post O.base k2 e2 (.ref (l.toF.at hj)) rv p2
          | cons _ _ => exact p2.elim
    | [], _, _, _, _, _, c1, _ => exact absurd c1.2 (by decide)
    | _ :: _ :: _, _, _, _, _, _, c1, _ =>
      exfalso
      have := c1.2
      simp at this
  by_cases c2 : (seq m "pop" && args.length == 0) = true
  · have hm : (seq m "append" && args.length == 1 || seq m "pop" && args.length == 0) = true := by rw [c2, Bool.or_true]
    rw [Bool.and_eq_true] at c2
    cases seq_eq c2.1
    match args, hs, h5, hp, ha, hm, c2, dead with
    | [], hs, h5, hp, ha, hm, c2, _ =>
      refine PE.imp (pe_bm0 PySem.F.plainAttrs_list PySem.F.slot_list_pop PySem.F.type_list_pop mt_pop ho (nocall_base hn _ _ _) hl) fun σ H Q h => ?_
      refine RdM.mono (RdM.bind (R' := Rep (mdOf X)) h) fun v H1 ⟨W1, S1, d, k1, e1, r1, p1⟩ => ?_
      obtain ⟨j, xs, rfl, hS, p1⟩ := preM_lst hm p1
      have r1' := r1
      cases r1 with
      | ref hj =>
        obtain ⟨vs, hl1, rl1⟩ := k1.obj _ _ _ hj hS
        exact ⟨.inl ⟨rfl, vs, .inl (.inl hl1)⟩, pop_post k1 e1 r1' p1⟩
    | _ :: _, _, _, _, _, _, c2, _ =>
      exfalso
      have := c2.2
      simp at this
  by_cases c3 : (seq m "get" && (args.length == 1 || args.length == 2)) = true
  · rw [Bool.and_eq_true] at c3
    cases seq_eq c3.1
    have isd : ∀ {W : Wd} {H : Hp} {S : Sto} {v : V} {d : D} {kvs : List (D × D)}, Wok (mdOf X) B W H S → Rep (mdOf X) W v d → view S d = .dct kvs → ∃ a, v = .ref a ∧ IsD H a := fun {W H S v d kvs} k r hv => by
      have sx := r.view k
      rw [hv] at sx
      cases sx with
      | of _ _ _ h => exact absurd rfl (h _)
      | dct h1 h2 =>
        obtain ⟨ks, rfl, f⟩ := h2.flat
        exact ⟨_, rfl, .inl ⟨ks, h1⟩⟩
    match args, hs, h5, hp, ha, c3, dead with
    | [e], hs, h5, hp, ha, c3, _ =>
      rw [List.any_cons, Bool.or_eq_false_iff] at hs
      have hM : M1 X o "get" ap e pos := ⟨nocall_base hn _ _ _, few_ok (es := [e]) (by rw [List.any_cons, hs.1]; rfl) h5, hl, by rw [starEach_cons hs.1]; rfl⟩
      refine PE.imp (pe_dget1 (by have := O.units; omega) ho (hp e List.mem_cons_self) hM) fun σ H Q h => ?_
      refine RdM.mono (RdM.bind (R' := Rep (mdOf X)) h) fun v H1 ⟨W1, S1, d, k1, e1, r1, p1⟩ => ?_
      obtain ⟨kvs, hv, _, p1⟩ := preM_dct p1
      obtain ⟨a, rfl, hd⟩ := isd k1 r1 hv
      refine ⟨a, rfl, hd, ?_⟩
      have p1 : Post (mdOf X) B σ ρ W1 (Rep (mdOf X)) Q (bnd (E e) (fun x => getM d [x]) S1) := by
        have e0 : bnd (evList E [e]) (fun xs => meM c "get" d xs) S1 = bnd (E e) (fun x => getM d [x]) S1 := by
          have e1 : ∀ xs, meM c "get" d xs = getM d xs := fun xs => by
            have h1 : seq "get" "append" = false := by decide
            have h2 : seq "get" "pop" = false := by decide
            unfold meM
            rw [h1, h2, seq_refl]
            rfl
          simp only [e1]
          show bnd (bnd (E e) fun x => bnd (ret []) fun xs => ret (x :: xs)) _ S1 = _
          unfold bnd
          cases E e S1 <;> rfl
        rw [← e0]
        exact p1
      refine RdM.mono (Post.bind (R' := Rep (mdOf X)) k1 e1 p1) fun u H2 ⟨W2, S2, y, l, k2, e2, r2, p2⟩ => ?_
      obtain ⟨kvs, hv, g⟩ := get_is p2
      rcases g with ⟨ky, ea, hk, p2⟩ | ⟨_, _, ea, _⟩
      · cases ea
        have sx := (rep_mono l r1).view k2
        rw [hv] at sx
        obtain ⟨a', ea, g⟩ := dget_of sx hk r2
        cases ea
        rcases g with ⟨w, d', g1, g2, g3⟩ | ⟨g1, g2⟩
        · rw [g1] at p2
          exact ⟨_, g2, post_ok k2 e2 g3 p2⟩
        · rw [g1] at p2
          exact ⟨_, g2, post_ok k2 e2 .non p2⟩
      · cases ea
    | [e, f], hs, h5, hp, ha, c3, _ =>
      rw [List.any_cons, Bool.or_eq_false_iff, List.any_cons, Bool.or_eq_false_iff] at hs
      have hM : M2 X o "get" ap e f pos := ⟨nocall_base hn _ _ _, few_ok (es := [e, f]) (by rw [List.any_cons, List.any_cons, hs.1, hs.2.1]; rfl) h5, hl, by rw [starEach_cons hs.1, starEach_cons hs.2.1]; rfl⟩
      refine PE.imp (pe_dget2 (by have := O.units; omega) ho (hp e List.mem_cons_self) (hp f (List.mem_cons_of_mem _ List.mem_cons_self)) hM) fun σ H Q h => ?_
      refine RdM.mono (RdM.bind (R' := Rep (mdOf X)) h) fun v H1 ⟨W1, S1, d, k1, e1, r1, p1⟩ => ?_
      obtain ⟨kvs, hv, _, p1⟩ := preM_dct p1
      obtain ⟨a, rfl, hd⟩ := isd k1 r1 hv
      refine ⟨a, rfl, hd, ?_⟩
      have p1 : Post (mdOf X) B σ ρ W1 (Rep (mdOf X)) Q (bnd (E e) (fun x => bnd (E f) fun y => getM d [x, y]) S1) := by
        have e0 : bnd (evList E [e, f]) (fun xs => meM c "get" d xs) S1 = bnd (E e) (fun x => bnd (E f) fun y => getM d [x, y]) S1 := by
          have e1 : ∀ xs, meM c "get" d xs = getM d xs := fun xs => by
            have h1 : seq "get" "append" = false := by decide
            have h2 : seq "get" "pop" = false := by decide
            unfold meM
            rw [h1, h2, seq_refl]
            rfl
          simp only [e1]
          show bnd (bnd (E e) fun x => bnd (bnd (E f) fun y => bnd (ret []) fun xs => ret (y :: xs)) fun xs => ret (x :: xs)) _ S1 = _
          unfold bnd
          cases E e S1 with
          | ok x S2 => dsimp only; cases E f S2 <;> rfl
          | exc _ _ _ => rfl
          | no => rfl
        rw [← e0]
        exact p1
      refine RdM.mono (Post.bind (R' := Rep (mdOf X)) k1 e1 p1) fun u H2 ⟨W2, S2, y, l, k2, e2, r2, p2⟩ => ?_
      refine RdM.mono (Post.bind (R' := Rep (mdOf X)) k2 e2 p2) fun z H3 ⟨W3, S3, y3, l3, k3, e3, r3, p3⟩ => ?_
      obtain ⟨kvs, hv, g⟩ := get_is p3
      rcases g with ⟨_, ea, _⟩ | ⟨ky, x3, ea, hk, p3⟩
      · cases ea
      · cases ea
        have sx := (rep_mono l3 (rep_mono l r1)).view k3
        rw [hv] at sx
        obtain ⟨a', ea, g⟩ := dget_of sx hk (rep_mono l3 r2)
        cases ea
        rcases g with ⟨w, d', g1, g2, g3⟩ | ⟨g1, g2⟩
        · rw [g1] at p3
          exact ⟨_, g2, post_ok k3 e3 g3 p3⟩
        · rw [g1] at p3
          exact ⟨_, g2, post_ok k3 e3 r3 p3⟩
    | [], _, _, _, _, c3, _ => exact absurd c3.2 (by decide)
    | _ :: _ :: _ :: _, _, _, _, _, c3, _ =>
      exfalso
      have := c3.2
      simp at this
  · refine dead fun d => ?_
    unfold preM
    have : ¬ (seq m "append" && args.length == 1 || seq m "pop" && args.length == 0) = true := by
      rw [Bool.or_eq_true]
      exact fun h => h.elim c1 c2
    rw [if_neg this, if_neg c3]
/-! ### what was being built -/
theorem EnvR.of {μ : Md} {W W' : Wd} (h : EnvR μ W σ ρ) (l : LeF W W') : EnvR μ W' σ ρ := h.le l
theorem fin_lst {m : Bool} {σ : L2.St} {W2 : Wd} {H2 : Hp} {S2 : Sto} {p : Addr} {vs : List V} {ds : List D} {Q : VK} (k : Wok (mdOf X) B W2 H2 S2) (e : EnvR (mdOf X) W2 σ ρ) (l : LeF W W2) (hP : W2.P = (p, .lst vs) :: W.P) (r : RepL (mdOf X) W2 vs ds)
    (q : Post (mdOf X) B σ ρ W (Rep (mdOf X)) Q (fresh m (.lst ds) S2)) : Q (.ref p) H2 := by
  obtain ⟨t1, t2, t3, t4⟩ := k.top hP
  have k0 := k.drop hP
  have l0 : LeF W2 (W2.re W.P) := LeF.re
  cases m with
  | false =>
    have k1 := k0.keepF (p := p) (o := .lst vs) t1 t2 t3 t4 (fun _ _ h => nomatch h)
    have l1 : Le (W2.re W.P) ((W2.re W.P).plus p (.lst vs)) := Le.plus t2
    have lf : LeF W ((W2.re W.P).plus p (.lst vs)) := (l.trans l0).trans l1.toF
    exact q _ (.ref p) H2 ⟨lf, rfl⟩ k1 (e.le (l0.trans l1.toF)) (.lst upd_same (r.le (l0.trans l1.toF)))
  | true =>
    have l1 : Le (W2.re W.P) ((W2.re W.P).more p) := Le.more
    have k1 := k0.keepS (p := p) (mo := .lst ds) ⟨vs, t1, r.le (l0.trans l1.toF)⟩ t2 t3 t4
    have lf : LeF W ((W2.re W.P).more p) := (l.trans l0).trans l1.toF
    refine q _ (.ref p) H2 ⟨lf, rfl⟩ k1 (e.le (l0.trans l1.toF)) (.ref ?_)
    show (W2.ρ ++ [p])[S2.length]? = some p
    rw [← k.len, List.getElem?_append_right (Nat.le_refl _), Nat.sub_self]
    rfl
theorem fin_dct {m : Bool} {σ : L2.St} {W2 : Wd} {H2 : Hp} {S2 : Sto} {p : Addr} {o : HO} {kvs : List (Key × V)} {ds : List (D × D)} {Q : VK} (k : Wok (mdOf X) B W2 H2 S2) (e : EnvR (mdOf X) W2 σ ρ) (l : LeF W W2) (hP : W2.P = (p, o) :: W.P) (r : Flat (mdOf X) W2 kvs ds)
    (q : Post (mdOf X) B σ ρ W (Rep (mdOf X)) Q (fresh m (.dct ds) S2)) : Q (.ref p) (upd H2 p (.dK kvs)) := by
  have kg := k.grow (u := .dK kvs) hP
  have hPg : (W2.re ((p, .dK kvs) :: W.P)).P = (p, .dK kvs) :: W.P := rfl
  obtain ⟨t1, t2, t3, t4⟩ := kg.top hPg
  have k0 := kg.drop hPg
  have l0 : LeF W2 (W2.re W.P) := LeF.re
  cases m with
  | false =>
    have k1 := k0.keepF (p := p) (o := .dK kvs) t1 t2 t3 t4 (fun _ _ h => nomatch h)
    have l1 : Le (W2.re W.P) ((W2.re W.P).plus p (.dK kvs)) := Le.plus t2
    have lf : LeF W ((W2.re W.P).plus p (.dK kvs)) := (l.trans l0).trans l1.toF
    have rf := (r.le (l0.trans l1.toF)).to
    exact q _ (.ref p) _ ⟨lf, rfl⟩ k1 (e.le (l0.trans l1.toF)) (.dct upd_same (.flat rf.2) rf.1)
  | true =>
    have l1 : Le (W2.re W.P) ((W2.re W.P).more p) := Le.more
    have k1 := k0.keepS (p := p) (mo := .dct ds) ⟨_, t1, (r.le (l0.trans l1.toF)).dic⟩ t2 t3 t4
    have lf : LeF W ((W2.re W.P).more p) := (l.trans l0).trans l1.toF
    refine q _ (.ref p) _ ⟨lf, rfl⟩ k1 (e.le (l0.trans l1.toF)) (.ref ?_)
    show (W2.ρ ++ [p])[S2.length]? = some p
    rw [← k.len, List.getElem?_append_right (Nat.le_refl _), Nat.sub_self]
    rfl
/-! ### {k: v, ..} -/
def trsOf (μ : Md) (B : List Nat) (ρ : Env) (f : Expr → M D) : List (Option Expr) → List Expr → List (TE × TE)
  | some k :: ks, v :: vs => (TD μ B ρ (f k), TD μ B ρ (f v)) :: trsOf μ B ρ f ks vs
  | _, _ => []
theorem pps_of {f : Expr → M D} {pos : Pos} : ∀ {ks : List (Option Expr)} {vs : List Expr}, ks.length = vs.length → ks.all (·.isSome) = true → (∀ k, some k ∈ ks → PE X k (TD (mdOf X) B ρ (f k))) → (∀ v ∈ vs, PE X v (TD (mdOf X) B ρ (f v))) → PPs X pos ks vs (trsOf (mdOf X) B ρ f ks vs)
  | [], [], _, _, _, _ => pps_nil
  | some k :: ks, v :: vs, hl, hs, hk, hv => pps_cons (hk k List.mem_cons_self) (hv v List.mem_cons_self) (pps_of (by simpa using hl) (by rw [List.all_cons] at hs; simpa using hs) (fun k h => hk k (List.mem_cons_of_mem _ h)) fun v h => hv v (List.mem_cons_of_mem _ h))
  | none :: ks, v :: vs, _, hs, _, _ => by rw [List.all_cons] at hs; cases hs
theorem bnd_assoc {α β γ : Type} (m : M α) (f : α → M β) (g : β → M γ) (S : Sto) : bnd (bnd m f) g S = bnd m (fun x => bnd (f x) g) S := by
  unfold bnd
  cases m S <;> rfl
/-- go on within a world where something is being built -/
theorem Post.bind0 {α β γ δ : Type} {μ : Md} {R : Wd → β → α → Prop} {R' : Wd → δ → γ → Prop} {Q : β → Hp → Prop} {W0 : Wd} {σ0 : L2.St} {ρ0 : Env} {m : M γ} {f : γ → M α} (k : Wok μ B W H S) (e : EnvR μ W σ ρ) (p : Post μ B σ0 ρ0 W0 R Q (bnd m f S)) :
    RdM μ B ρ R' m σ H fun v H1 => ∃ W1 S1 x, Le W W1 ∧ Wok μ B W1 H1 S1 ∧ EnvR μ W1 σ ρ ∧ R' W1 v x ∧ Post μ B σ0 ρ0 W0 R Q (f x S1) := by
  refine ⟨W, S, k, e, ?_⟩
  unfold bnd at p
  cases q : m S with
  | ok x S1 =>
    rw [q] at p
    intro W1 v H1 l k1 e1 r1
    exact ⟨W1, S1, x, l, k1, e1, r1, p⟩
  | exc _ _ _ => rw [q] at p; exact p
  | no => rw [q] at p; exact p
theorem pairs_read {f : Expr → M D} {α β : Type} {R : Wd → β → α → Prop} {Q : β → Hp → Prop} {W0 : Wd} : ∀ {ks : List (Option Expr)} {vs : List Expr} {W : Wd} {H : Hp} {S : Sto} {g : List (D × D) → M α} {P : List (V × V) → Hp → Prop}, ks.length = vs.length → ks.all (·.isSome) = true → Wok (mdOf X) B W H S → EnvR (mdOf X) W σ ρ → Post (mdOf X) B σ ρ W0 R Q (bnd (evPairs f ks vs) g S) →
    (∀ W' S' ps ds H', Le W W' → Wok (mdOf X) B W' H' S' → EnvR (mdOf X) W' σ ρ → RepK (mdOf X) W' ps ds → ds.length = ks.length → Post (mdOf X) B σ ρ W0 R Q (g ds S') → P ps H') → tPairs (trsOf (mdOf X) B ρ f ks vs) σ H P
  | [], [], W, H, S, _, _, _, _, k, e, p, hP => hP W S [] [] H (Le.refl W) k e .nil rfl p
  | some ke :: ks, v :: vs, W, H, S, g, _, hl, hs, k, e, p, hP => by
    have e0 : bnd (evPairs f (some ke :: ks) (v :: vs)) g S = bnd (f ke) (fun x => bnd (f v) fun y => bnd (evPairs f ks vs) fun r => g ((x, y) :: r)) S := by
      show bnd (bnd (f ke) fun x => bnd (f v) fun y => bnd (evPairs f ks vs) fun r => ret ((x, y) :: r)) g S = _
      rw [bnd_assoc]
      refine bnd_congr fun x S1 => ?_
      rw [bnd_assoc]
      refine bnd_congr fun y S2 => ?_
      rw [bnd_assoc]
      rfl
    rw [e0] at p
    show RdM _ _ _ _ _ _ _ _
    refine RdM.mono (Post.bind0 (R' := Rep (mdOf X)) k e p) fun a H1 ⟨W1, S1, x, l1, k1, e1, r1, p1⟩ => ?_
    show RdM _ _ _ _ _ _ _ _
    refine RdM.mono (Post.bind0 (R' := Rep (mdOf X)) k1 e1 p1) fun b H2 ⟨W2, S2, y, l2, k2, e2, r2, p2⟩ => ?_
    refine pairs_read (g := fun r => g ((x, y) :: r)) (by simpa using hl) (by rw [List.all_cons] at hs; simpa using hs) k2 e2 p2 fun W' S' ps ds H' l' k' e' r' hln p' => ?_
    exact hP W' S' ((a, b) :: ps) ((x, y) :: ds) H' (l1.trans (l2.trans l')) k' e' (.cons (rep_mono (l2.trans l') r1) (rep_mono l' r2) r') (by rw [List.length_cons, List.length_cons, hln]) p'
  | none :: ks, v :: vs, _, _, _, _, _, _, hs, _, _, _, _ => by rw [List.all_cons] at hs; cases hs
/-- pairs whose keys are ints and texts -/
theorem flat_of {W : Wd} : ∀ {ps : List (V × V)} {ds : List (D × D)}, RepK (mdOf X) W ps ds → (ds.all fun kv => keyOk kv.1) = true → ∃ kvs : List (Key × V), ps = kvs.map (fun kv => (kV kv.1, kv.2)) ∧ Flat (mdOf X) W kvs ds
  | _, _, .nil, _ => ⟨[], rfl, .nil⟩
  | _, _, .cons h1 h2 r, hk => by
    rw [List.all_cons, Bool.and_eq_true] at hk
    obtain ⟨k, rfl⟩ := keyOk_is hk.1
    obtain ⟨kvs, rfl, f⟩ := flat_of r hk.2
    cases rep_key h1
    exact ⟨(k, _) :: kvs, rfl, .cons h2 f⟩
theorem disp_ok {G : Gl} {f : Expr → M D} {ks : List (Option Expr)} {vs : List Expr} {pos : Pos} {m : Bool} (hk : ∀ k, some k ∈ ks → PE X k (TD (mdOf X) B ρ (f k))) (hv : ∀ v ∈ vs, PE X v (TD (mdOf X) B ρ (f v))) (hl : ks.length = vs.length) (h15 : ks.length ≤ 15) (hs : ks.all (·.isSome) = true) :
    PE X (.Dict ks vs pos) (TD (mdOf X) B ρ (bnd (evPairs f ks vs) fun ps => if ps.all fun kv => keyOk kv.1 then fresh m (.dct (putAll [] ps)) else stuck)) := by
  by_cases h0 : ks = []
  · subst h0
    cases vs with
    | cons _ _ => cases hl
    | nil =>
      refine PE.imp pe_dnewK fun σ H Q ⟨W, S, k, e, p⟩ q n => ?_
      have p : Post (mdOf X) B σ ρ W (Rep (mdOf X)) Q (fresh m (.dct []) S) := p
      have kh := k.hold (o := .dK []) n
      have := fin_dct (W := W) (W2 := W.hold q (.dK [])) (kvs := []) (ds := []) kh (e.le LeF.hold) LeF.hold rfl .nil p
      rw [upd_upd] at this
      exact this
  · refine PE.imp (pe_disp (pps_of hl hs hk hv) hs hl h0 h15) fun σ H Q ⟨W, S, k, e, p⟩ q n => ?_
    have kh := k.hold (o := .dK []) n
    refine pairs_read hl hs kh (e.le LeF.hold) p fun W' S' ps ds H' l' k' e' r' hln p' => ?_
    have hP' : W'.P = (q, .dK []) :: W.P := l'.P
    obtain ⟨t1, t2, t3, t4⟩ := k'.top hP'
    refine ⟨t1, ?_⟩
    cases hks : ds.all fun kv => keyOk kv.1 with
    | false => rw [hks] at p'; exact p'.elim
    | true =>
      rw [hks, if_pos rfl] at p'
      obtain ⟨kvs, rfl, fl⟩ := flat_of r' hks
      refine ⟨kvs, rfl, by rw [fl.length, hln]; exact h15, ?_⟩
      exact fin_dct k' e' (LeF.hold.trans l'.toF) hP' (fl.merge .nil) p'
end
end Ly

/-! Ly: what a loop goes through; targets. -/
set_option autoImplicit false
set_option linter.all false
set_option maxRecDepth 100000
set_option maxHeartbeats 1000000
namespace Ly
open PySem PySem.Spec PyProof.Rows L2
mutual
theorem sameD_eq : ∀ {x y : D}, sameD x y = true → x = y
  | .non, y, h => by cases y <;> first | rfl | (simp [sameD] at h)
  | .bl a, y, h => by
    cases y with
    | bl b => simp only [sameD, beq_iff_eq] at h; rw [h]
    | _ => simp [sameD] at h
  | .int a, y, h => by
    cases y with
    | int b => simp only [sameD, beq_iff_eq] at h; rw [h]
    | _ => simp [sameD] at h
  | .str a, y, h => by
    cases y with
    | str b => simp only [sameD] at h; rw [seq_eq h]
    | _ => simp [sameD] at h
  | .ref a, y, h => by
    cases y with
    | ref b => simp only [sameD, beq_iff_eq] at h; rw [h]
    | _ => simp [sameD] at h
  | .fn a, y, h => by
    cases y with
    | fn b => simp only [sameD] at h; rw [seq_eq h]
    | _ => simp [sameD] at h
  | .tup a, y, h => by
    cases y with
    | tup b => simp only [sameD] at h; rw [sameL_eq h]
    | _ => simp [sameD] at h
  | .lst a, y, h => by
    cases y with
    | lst b => simp only [sameD] at h; rw [sameL_eq h]
    | _ => simp [sameD] at h
  | .set a, y, h => by
    cases y with
    | set b => simp only [sameD] at h; rw [sameL_eq h]
    | _ => simp [sameD] at h
  | .dct a, y, h => by
    cases y with
    | dct b => simp only [sameD] at h; rw [sameK_eq h]
    | _ => simp [sameD] at h
theorem sameL_eq : ∀ {x y : List D}, sameL x y = true → x = y
  | [], y, h => by cases y <;> first | rfl | (simp [sameL] at h)
  | a :: as, y, h => by
    cases y with
    | nil => simp [sameL] at h
    | cons b bs =>
      simp only [sameL, Bool.and_eq_true] at h
      rw [sameD_eq h.1, sameL_eq h.2]
theorem sameK_eq : ∀ {x y : List (D × D)}, sameK x y = true → x = y
  | [], y, h => by cases y <;> first | rfl | (simp [sameK] at h)
  | (a, b) :: as, y, h => by
    cases y with
    | nil => simp [sameK] at h
    | cons c bs =>
      obtain ⟨c, d⟩ := c
      simp only [sameK, Bool.and_eq_true] at h
      rw [sameD_eq h.1.1, sameD_eq h.1.2, sameK_eq h.2]
end
/-- the lists that are gone through stand as they stood -/
def Held (s : Src) (S : Sto) : Prop := ∀ q ∈ s.refs, S[q.1]? = some (.lst q.2)
theorem guard_held {s : Src} {S : Sto} {α β : Type} {μ : Md} {B : List Nat} {σ : L2.St} {ρ : Env} {W : Wd} {R : Wd → β → α → Prop} {Q : β → Hp → Prop} {f : Unit → M α} (p : Post μ B σ ρ W R Q (bnd (guardM s.refs) f S)) : Held s S ∧ Post μ B σ ρ W R Q (f () S) := by
  unfold bnd guardM at p
  split at p
  · rename_i a S' h
    split at h
    · rename_i hc
      cases h
      refine ⟨fun q hq => ?_, p⟩
      have := List.all_eq_true.mp hc q hq
      split at this
      · rename_i ys hy
        rw [hy, sameL_eq this]
      · cases this
    · cases h
  · exact p.elim
  · exact p.elim
/-- J goes through the items of s -/
structure Wlk (μ : Md) (B : List Nat) (W : Wd) (s : Src) (J : It) : Prop where
  go : ∀ W' H' S' i, LeF W W' → Wok μ B W' H' S' → Held s S' → i < s.items.length → J.go i H'
  stop : ∀ W' H' S', LeF W W' → Wok μ B W' H' S' → Held s S' → J.stop s.items.length H'
  yld : ∀ W' H' S' i x H'', LeF W W' → Wok μ B W' H' S' → Held s S' → i < s.items.length → J.yld i H' x H'' → ∃ W'' d, Le W' W'' ∧ Wok μ B W'' H'' S' ∧ s.items[i]? = some d ∧ Rep μ W'' x d
section
variable {X : Cx} {B : List Nat} {c : Cfg} {sc : Scope} {σ : L2.St} {ρ : Env} {H : Hp} {W : Wd} {S : Sto} {pins : List (Addr × Obj)} {st : Shared}
theorem wlk_lst {a : Addr} {vs : List V} {xs : List D} (h : W.F a = some (.lst vs)) (r : RepL (mdOf X) W vs xs) : Wlk (mdOf X) B W ⟨xs, []⟩ (Itl X.K a) := by
  have at' : ∀ {W' H' S'}, LeF W W' → Wok (mdOf X) B W' H' S' → SqL X.K H' a vs := fun l k => .inl (k.frz _ _ (l.F _ _ h))
  refine ⟨fun W' H' S' i l k _ hi => ?_, fun W' H' S' l k _ => ⟨vs, at' l k, by rw [r.length]; exact Nat.le_refl _⟩, fun W' H' S' i x H'' l k _ hi y => ?_⟩
  · obtain ⟨v, hv⟩ : ∃ v, vs[i]? = some v := ⟨vs[i]'(by rw [r.length]; exact hi), List.getElem?_eq_getElem _⟩
    exact ⟨vs, v, at' l k, hv⟩
  · obtain ⟨e, y⟩ := y
    subst e
    obtain ⟨d, h1, h2⟩ := r.getV (y vs (at' l k))
    exact ⟨W', d, Le.refl W', k, h1, h2.le l⟩
theorem wlk_tup {a : Addr} {vs : List V} {xs : List D} (h : SqT X.K W.F a vs) (r : RepL (mdOf X) W vs xs) : Wlk (mdOf X) B W ⟨xs, []⟩ (Itt X.K a) := by
  have at' : ∀ {W' H' S'}, LeF W W' → Wok (mdOf X) B W' H' S' → SqT X.K H' a vs := fun l k => k.sqT (sqT_le l h)
  refine ⟨fun W' H' S' i l k _ hi => ?_, fun W' H' S' l k _ => ⟨vs, at' l k, by rw [r.length]; exact Nat.le_refl _⟩, fun W' H' S' i x H'' l k _ hi y => ?_⟩
  · obtain ⟨v, hv⟩ : ∃ v, vs[i]? = some v := ⟨vs[i]'(by rw [r.length]; exact hi), List.getElem?_eq_getElem _⟩
    exact ⟨vs, v, at' l k, hv⟩
  · obtain ⟨e, y⟩ := y
    subst e
    obtain ⟨d, h1, h2⟩ := r.getV (y vs (at' l k))
    exact ⟨W', d, Le.refl W', k, h1, h2.le l⟩
theorem wlk_ref {a : Addr} {n : Nat} {xs : List D} (h : W.ρ[n]? = some a) : Wlk (mdOf X) B W ⟨xs, [(n, xs)]⟩ (Itl X.K a) := by
  have at' : ∀ {W' H' S'}, LeF W W' → Wok (mdOf X) B W' H' S' → Held ⟨xs, [(n, xs)]⟩ S' → ∃ vs, SqL X.K H' a vs ∧ RepL (mdOf X) W' vs xs := fun l k hd => by
    obtain ⟨vs, h1, h2⟩ := k.obj n a _ (l.at h) (hd (n, xs) List.mem_cons_self)
    exact ⟨vs, .inl (.inl h1), h2⟩
  refine ⟨fun W' H' S' i l k hd hi => ?_, fun W' H' S' l k hd => ?_, fun W' H' S' i x H'' l k hd hi y => ?_⟩
  · obtain ⟨vs, hs, r⟩ := at' l k hd
    obtain ⟨v, hv⟩ : ∃ v, vs[i]? = some v := ⟨vs[i]'(by rw [r.length]; exact hi), List.getElem?_eq_getElem _⟩
    exact ⟨vs, v, hs, hv⟩
  · obtain ⟨vs, hs, r⟩ := at' l k hd
    exact ⟨vs, hs, by rw [r.length]; exact Nat.le_refl _⟩
  · obtain ⟨vs, hs, r⟩ := at' l k hd
    obtain ⟨e, y⟩ := y
    subst e
    obtain ⟨d, h1, h2⟩ := r.getV (y vs hs)
    exact ⟨W', d, Le.refl W', k, h1, h2⟩
theorem wlk_str {z : Str} : Wlk (mdOf X) B W ⟨signs z, []⟩ (Its z) := by
  have hl : (signs z).length = z.cps.size := by unfold signs; rw [List.length_map, Array.length_toList]
  refine ⟨fun W' H' S' i l k _ hi => ?_, fun W' H' S' l k _ => ?_, fun W' H' S' i x H'' l k _ hi y => ?_⟩
  · show i < z.cps.size
    rw [← hl]
    exact hi
  · show z.cps.size ≤ (signs z).length
    rw [hl]
    exact Nat.le_refl _
  · obtain ⟨e, ch, hc, rfl⟩ := y
    subst e
    refine ⟨W', .str ⟨#[ch]⟩, Le.refl W', k, ?_, .str _⟩
    show (z.cps.toList.map fun c => D.str ⟨#[c]⟩)[i]? = _
    rw [List.getElem?_map, Array.getElem?_toList, hc]
    rfl
theorem upTo_get {lo : Int} {n i : Nat} (h : i < n) : (upTo lo n)[i]? = some (.int (lo + (i : Nat))) := by
  unfold upTo
  rw [List.getElem?_map, List.getElem?_range h]
  rfl
theorem downFrom_get {hi : Int} {n i : Nat} (h : i < n) : (downFrom hi n)[i]? = some (.int (hi - (i : Nat))) := by
  unfold downFrom
  rw [List.getElem?_map, List.getElem?_range h]
  rfl
theorem wlk_rng {lo : Int} {n : Nat} : Wlk (mdOf X) B W ⟨upTo lo n, []⟩ (Itr lo n) := by
  have hl : (upTo lo n).length = n := by unfold upTo; rw [List.length_map, List.length_range]
  refine ⟨fun W' H' S' i l k _ hi => ?_, fun W' H' S' l k _ => ?_, fun W' H' S' i x H'' l k _ hi y => ?_⟩
  · show i < n
    rw [← hl]; exact hi
  · show n ≤ (upTo lo n).length
    rw [hl]; exact Nat.le_refl _
  · obtain ⟨e, rfl⟩ := y
    subst e
    exact ⟨W', _, Le.refl W', k, upTo_get (by rw [← hl]; exact hi), .int _⟩
theorem wlk_down {hi : Int} {n : Nat} : Wlk (mdOf X) B W ⟨downFrom hi n, []⟩ (Itc hi (-1) n) := by
  have hl : (downFrom hi n).length = n := by unfold downFrom; rw [List.length_map, List.length_range]
  refine ⟨fun W' H' S' i l k _ hi => ?_, fun W' H' S' l k _ => ?_, fun W' H' S' i x H'' l k _ hi' y => ?_⟩
  · show i < n
    rw [← hl]; exact hi
  · show n ≤ (downFrom hi n).length
    rw [hl]; exact Nat.le_refl _
  · obtain ⟨e, rfl⟩ := y
    subst e
    refine ⟨W', _, Le.refl W', k, downFrom_get (by rw [← hl]; exact hi'), ?_⟩
    have : hi + (i : Nat) * (-1) = hi - (i : Nat) := by omega
    rw [this]
    exact .int _
/-- the reading of a source -/
abbrev TSr (μ : Md) (B : List Nat) (ρ : Env) (m : M Src) : TI := fun σ H R => RdM μ B ρ (fun W (J : It) (s : Src) => Wlk μ B W s J) m σ H R
theorem iter_ok {tg : Expr} {v : V} {x : D} {a : Value} {R : It → Hp → Prop} (I : Inv X pins σ H st) (k : Wok (mdOf X) B W H S) (e : EnvR (mdOf X) W σ ρ) (r : Rep (mdOf X) W v x) (rv : RelV v a) (p : Post (mdOf X) B σ ρ W (fun W (J : It) (s : Src) => Wlk (mdOf X) B W s J) R (itemsOf x S)) :
    wpAny (model X.prog X.w) X.A (pyIter a) (PIE X pins σ tg R) X.xe st := by
  have list : ∀ {l : Addr} {vs : List V}, a = .ref l → SqL X.K H l vs → R (Itl X.K l) H → wpAny (model X.prog X.w) X.A (pyIter a) (PIE X pins σ tg R) X.xe st := fun {l vs} ea hq q => by
    subst ea
    obtain ⟨its, rv, pl, hz⟩ := I.list hq
    refine wpAny_pyIter_list pl.isList ?_
    refine ⟨st.heap.objs.size, [st.heap.objs.size], _, _, H, rfl, I.kept (t' := st.toks) fun b o e => Heap.get?_push_of_some _ e, turn_list l _, ⟨_, Heap.get?_push_size _ rfl, rfl, rfl⟩, fun b hb => ?_, q⟩
    have e : b = st.heap.objs.size := by simpa using hb
    subst e
    exact I.fpOk (Nat.le_refl _) (I.hok.fresh (Nat.le_refl _))
  cases r with
  | tup h rl =>
    rename_i l vs ds
    cases rv
    have q := p W (Itt X.K l) H (Le.refl W) k e (wlk_tup h rl)
    obtain ⟨its, rv, pl, hz⟩ := I.tuple (k.sqT h)
    refine wpAny_pyIter_tuple (show st.heap.IsTuple l its.toArray from pl) ?_
    refine ⟨st.heap.objs.size, [st.heap.objs.size], _, _, H, rfl, I.kept (t' := st.toks) fun b o e => Heap.get?_push_of_some _ e, turn_tuple l _, ⟨_, Heap.get?_push_size _ rfl, rfl, rfl⟩, fun b hb => ?_, q⟩
    have e : b = st.heap.objs.size := by simpa using hb
    subst e
    exact I.fpOk (Nat.le_refl _) (I.hok.fresh (Nat.le_refl _))
  | lst h rl =>
    rename_i l vs ds
    exact list rv (.inl (k.frz _ _ h)) (p W (Itl X.K l) H (Le.refl W) k e (wlk_lst h rl))
  | str z =>
    by_cases hz : z.length ≤ line
    · have p : Post (mdOf X) B σ ρ W (fun W (J : It) (s : Src) => Wlk (mdOf X) B W s J) R (if z.length ≤ line then .ok ⟨signs z, []⟩ S else .no) := p
      rw [if_pos hz] at p
      have q := p W (Its z) H (Le.refl W) k e wlk_str
      obtain ⟨t, rfl⟩ := rv
      cases ha : z.cps.all (· < 128)
      · exact wpAny_pyIter_wide ha (pi_one (tk := st.toks) I _ (turn_str _ z t "str_iterator" (.inr rfl)) ⟨_, Heap.get?_push_size _ rfl, rfl, rfl⟩ q)
      · exact wpAny_pyIter_ascii ha (pi_one (tk := st.toks) I _ (turn_str _ z t "str_ascii_iterator" (.inl rfl)) ⟨_, Heap.get?_push_size _ rfl, rfl, rfl⟩ q)
    · have p : Post (mdOf X) B σ ρ W (fun W (J : It) (s : Src) => Wlk (mdOf X) B W s J) R (if z.length ≤ line then .ok ⟨signs z, []⟩ S else .no) := p
      rw [if_neg hz] at p
      exact p.elim
  | ref h =>
    rename_i n l
    unfold itemsOf at p
    dsimp only at p
    cases hS : S[n]? with
    | none => rw [hS] at p; exact p.elim
    | some mo =>
      rw [hS] at p
      cases mo with
      | lst xs =>
        obtain ⟨vs, h1, h2⟩ := k.obj n l _ h hS
        exact list rv (.inl (.inl h1)) (p W (Itl X.K l) H (Le.refl W) k e (wlk_ref h))
      | dct _ => exact p.elim
      | lck _ => exact p.elim
  | non => exact p.elim
  | bl b => exact p.elim
  | int i => exact p.elim
  | dct _ _ _ => exact p.elim
  | fn _ => exact p.elim
  | scr _ _ => exact p.elim
theorem pi_gen {tg e : Expr} {m : M D} (he : PE X e (TD (mdOf X) B ρ m)) : PI X tg e (TSr (mdOf X) B ρ (bnd m itemsOf)) := by
  refine ⟨fun pins s σ H R I h => ?_⟩
  refine thn (he.run pins s σ H _ I (RdM.mono (RdM.bind (R' := Rep (mdOf X)) h) fun v H1 q => q)) fun a s1 ⟨v, H1, I1, r1, W1, S1, x, k1, e1, r, p⟩ => ?_
  exact iter_ok I1 k1 e1 r r1 p
theorem PI.imp {tg e : Expr} {t t' : TI} (h : PI X tg e t) (i : ∀ σ H R, t' σ H R → t σ H R) : PI X tg e t' := ⟨fun pins s σ H R I q => h.run pins s σ H R I (i σ H R q)⟩
theorem big_of {i : Int} (h : big i = true) : -(2 ^ 62) ≤ i ∧ i < 2 ^ 62 := by
  unfold big at h
  rw [Bool.and_eq_true, decide_eq_true_eq, decide_eq_true_eq] at h
  exact h
theorem pi_rng3 {tg : Expr} {p pos : Pos} {a b d3 : Expr} {E : Expr → M D} (O : XOk X B c sc) (hg : glo sc "range" = true) (hb : c.G.blt "range" = true) (hs : [a, b, d3].any isStar = false) (ha : PA X [a, b, d3] (TL (mdOf X) B ρ (evList E [a, b, d3]))) :
    PI X tg (.Call (.Name "range" p) [a, b, d3] [] pos) (TSr (mdOf X) B ρ (bnd (evList E [a, b, d3]) fun ds => match rangeD ds with
      | some xs => (ret (⟨xs, []⟩ : Src) : M Src)
      | none => stuck)) := by
  rw [List.any_cons, Bool.or_eq_false_iff, List.any_cons, Bool.or_eq_false_iff, List.any_cons, Bool.or_eq_false_iff] at hs
  refine PI.imp (pi_range3 (O.gl hg) (O.blt _ hb) ha (starEach_cons hs.1) (backTo_plain (by rw [List.any_cons, List.any_cons, hs.2.1, hs.2.2.1]; rfl))) fun σ H R h => ?_
  refine RdM.mono (RdM.known (R' := RepL (mdOf X)) (P := fun ds => ds.length = 3) (fun S x S' h => evList_len h) h) fun vs H1 ⟨W1, S1, ds, hlen, k1, e1, r1, p1⟩ => ?_
  match ds, hlen, r1, p1 with
  | [d, d', d''], _, .cons r1 (.cons r2 (.cons r3 .nil)), p1 =>
    cases r1 with
    | int i =>
      cases r2 with
      | int j =>
        cases r3 with
        | int st =>
          replace p1 : Post (mdOf X) B σ ρ W1 (fun W (J : It) (s : Src) => Wlk (mdOf X) B W s J) R ((match (if big i && big j && st == -1 && decide ((i - j).toNat ≤ line) then some (downFrom i (i - j).toNat) else none) with
            | some xs => (ret (⟨xs, []⟩ : Src) : M Src)
            | none => stuck) S1) := p1
          by_cases hj : (big i && big j && st == -1 && decide ((i - j).toNat ≤ line)) = true
          · rw [if_pos hj] at p1
            rw [Bool.and_eq_true, Bool.and_eq_true, Bool.and_eq_true, beq_iff_eq] at hj
            obtain ⟨⟨⟨h1, h2⟩, h3⟩, h4⟩ := hj
            obtain ⟨b1, b2⟩ := big_of h1
            obtain ⟨b3, b4⟩ := big_of h2
            subst h3
            exact ⟨i, j, -1, _, rfl, RgC.neg b1 b2 b3 b4, p1 W1 _ H1 (Le.refl W1) k1 e1 wlk_down⟩
          · rw [if_neg hj] at p1
            exact p1.elim
        | _ => exact p1.elim
      | _ => exact p1.elim
    | _ => exact p1.elim
theorem pi_dead {tg : Expr} {p pos : Pos} {args : List Expr} {E : Expr → M D} (h : ∀ ds : List D, ds.length = args.length → rangeD ds = none) : PI X tg (.Call (.Name "range" p) args [] pos) (TSr (mdOf X) B ρ (bnd (evList E args) fun ds => match rangeD ds with
      | some xs => (ret (⟨xs, []⟩ : Src) : M Src)
      | none => stuck)) := ⟨fun pins s σ H R I q => by
    exfalso
    obtain ⟨W, S, k, e, q⟩ := q
    unfold bnd at q
    cases hE : evList E args S with
    | ok ds S1 =>
      rw [hE] at q
      dsimp only at q
      rw [h ds (evList_len hE)] at q
      exact q
    | exc _ _ _ => rw [hE] at q; exact q
    | no => rw [hE] at q; exact q⟩
theorem pi_rng1 {tg : Expr} {p pos : Pos} {a : Expr} {E : Expr → M D} (O : XOk X B c sc) (hg : glo sc "range" = true) (hb : c.G.blt "range" = true) (hs : [a].any isStar = false) (ha : PA X [a] (TL (mdOf X) B ρ (evList E [a]))) :
    PI X tg (.Call (.Name "range" p) [a] [] pos) (TSr (mdOf X) B ρ (bnd (evList E [a]) fun ds => match rangeD ds with
      | some xs => (ret (⟨xs, []⟩ : Src) : M Src)
      | none => stuck)) := by
  rw [List.any_cons, Bool.or_eq_false_iff] at hs
  refine PI.imp (pi_range1 (O.gl hg) (O.blt _ hb) ha (by rw [starEach_cons hs.1]; rfl)) fun σ H R h => ?_
  refine RdM.mono (RdM.known (R' := RepL (mdOf X)) (P := fun ds => ds.length = 1) (fun S x S' h => evList_len h) h) fun vs H1 ⟨W1, S1, ds, hlen, k1, e1, r1, p1⟩ => ?_
  match ds, hlen, r1, p1 with
  | [d], _, .cons r1 .nil, p1 =>
    cases r1 with
    | int j =>
      replace p1 : Post (mdOf X) B σ ρ W1 (fun W (J : It) (s : Src) => Wlk (mdOf X) B W s J) R ((match (if big j && decide (j.toNat ≤ line) then some (upTo 0 j.toNat) else none) with
        | some xs => (ret (⟨xs, []⟩ : Src) : M Src)
        | none => stuck) S1) := p1
      by_cases hj : (big j && decide (j.toNat ≤ line)) = true
      · rw [if_pos hj] at p1
        rw [Bool.and_eq_true] at hj
        obtain ⟨b1, b2⟩ := big_of hj.1
        exact ⟨j, rfl, b1, b2, p1 W1 _ H1 (Le.refl W1) k1 e1 wlk_rng⟩
      · rw [if_neg hj] at p1
        exact p1.elim
    | _ => exact p1.elim
theorem pi_rng2 {tg : Expr} {p pos : Pos} {a b : Expr} {E : Expr → M D} (O : XOk X B c sc) (hg : glo sc "range" = true) (hb : c.G.blt "range" = true) (hs : [a, b].any isStar = false) (ha : PA X [a, b] (TL (mdOf X) B ρ (evList E [a, b]))) :
    PI X tg (.Call (.Name "range" p) [a, b] [] pos) (TSr (mdOf X) B ρ (bnd (evList E [a, b]) fun ds => match rangeD ds with
      | some xs => (ret (⟨xs, []⟩ : Src) : M Src)
      | none => stuck)) := by
  rw [List.any_cons, Bool.or_eq_false_iff, List.any_cons, Bool.or_eq_false_iff] at hs
  refine PI.imp (pi_range2 (O.gl hg) (O.blt _ hb) ha (by rw [starEach_cons hs.1, starEach_cons hs.2.1]; rfl) (by rw [starEach_cons hs.2.1]; rfl)) fun σ H R h => ?_
  refine RdM.mono (RdM.known (R' := RepL (mdOf X)) (P := fun ds => ds.length = 2) (fun S x S' h => evList_len h) h) fun vs H1 ⟨W1, S1, ds, hlen, k1, e1, r1, p1⟩ => ?_
  match ds, hlen, r1, p1 with
  | [d, d'], _, .cons r1 (.cons r2 .nil), p1 =>
    cases r1 with
    | int i =>
      cases r2 with
      | int j =>
        replace p1 : Post (mdOf X) B σ ρ W1 (fun W (J : It) (s : Src) => Wlk (mdOf X) B W s J) R ((match (if big i && big j && decide ((j - i).toNat ≤ line) then some (upTo i (j - i).toNat) else none) with
          | some xs => (ret (⟨xs, []⟩ : Src) : M Src)
          | none => stuck) S1) := p1
        by_cases hj : (big i && big j && decide ((j - i).toNat ≤ line)) = true
        · rw [if_pos hj] at p1
          rw [Bool.and_eq_true, Bool.and_eq_true] at hj
          obtain ⟨b1, b2⟩ := big_of hj.1.1
          obtain ⟨b3, b4⟩ := big_of hj.1.2
          exact ⟨i, j, rfl, ⟨b1, b2, b3, b4⟩, p1 W1 _ H1 (Le.refl W1) k1 e1 wlk_rng⟩
        · rw [if_neg hj] at p1
          exact p1.elim
      | _ => exact p1.elim
    | _ => exact p1.elim
theorem pi_rng {tg : Expr} {p pos : Pos} {E : Expr → M D} (O : XOk X B c sc) (hg : glo sc "range" = true) (hb : c.G.blt "range" = true) : ∀ {args : List Expr}, args.any isStar = false → (∀ e ∈ args, PE X e (TD (mdOf X) B ρ (E e))) →
    PI X tg (.Call (.Name "range" p) args [] pos) (TSr (mdOf X) B ρ (bnd (evList E args) fun ds => match rangeD ds with
      | some xs => (ret (⟨xs, []⟩ : Src) : M Src)
      | none => stuck))
  | [a], hs, hp => pi_rng1 O hg hb hs (evList_ok hs hp)
  | [a, b], hs, hp => pi_rng2 O hg hb hs (evList_ok hs hp)
  | [a, b, d3], hs, hp => pi_rng3 O hg hb hs (evList_ok hs hp)
  | [], _, _ => pi_dead fun ds h => by
    cases ds with
    | nil => rfl
    | cons _ _ => cases h
  | a1 :: a2 :: a3 :: a4 :: r, _, _ => pi_dead fun ds h => by
    match ds, h with
    | d1 :: d2 :: d3 :: d4 :: r, _ => cases d1 <;> cases d2 <;> cases d3 <;> rfl
/-- a source -/
theorem iterM_ok {tg it : Expr} {E : Expr → M D} (O : XOk X B c sc) (hp : ∀ e, PE X e (TD (mdOf X) B ρ (E e))) : PI X tg it (TSr (mdOf X) B ρ (iterM c sc E tg it)) := by
  unfold iterM
  split
  · rename_i g p args q
    split
    · rename_i hc
      rw [Bool.and_eq_true, Bool.and_eq_true] at hc
      cases seq_eq hc.2
      split
      · exact ⟨fun _ _ _ _ _ _ h => (RdM.stuck h).elim⟩
      · rename_i hs
        exact pi_rng O hc.1.1 hc.1.2 (by simpa using hs) fun e _ => hp e
    · exact pi_gen (hp _)
  · exact pi_gen (hp _)
/-! ### targets -/
theorem assignEach_cons {e : Expr} {es : List Expr} {env : PySem.Env} (h : isStar e = false) : assignEach (e :: es) env = (false, assign e env) :: assignEach es env := by
  cases e <;> first | rfl | cases h
theorem assignEach_len {env : PySem.Env} : ∀ {es : List Expr}, (assignEach es env).length = es.length
  | [] => rfl
  | e :: es => by
    have ih := assignEach_len (env := env) (es := es)
    cases e <;> (show (assignEach es env).length + 1 = _; rw [ih]; rfl)
theorem assignEach_plain {env : PySem.Env} : ∀ {es : List Expr}, es.any isStar = false → (assignEach es env).findIdx? (·.1) = none
  | [], _ => rfl
  | e :: es, h => by
    rw [List.any_cons, Bool.or_eq_false_iff] at h
    rw [assignEach_cons h.1, List.findIdx?_cons, assignEach_plain h.2]
    rfl
/-- a target takes a value that stands for d -/
def GT (μ : Md) (B : List Nat) (bd : D → Env → Option Env) (ix : List Nat) : TG := fun v σ H Q => ∃ W S ρ d ρ', Wok μ B W H S ∧ EnvR μ W σ ρ ∧ Rep μ W v d ∧ bd d ρ = some ρ' ∧ ∀ σ', EnvR μ W σ' ρ' → σ'.length = σ.length → (∀ i, i ∉ ix → σ'[i]? = σ[i]?) → Q σ' H
def GTs (μ : Md) (B : List Nat) (bd : List D → Env → Option Env) (ix : List Nat) : TGs := fun vs σ H Q => ∃ W S ρ ds ρ', Wok μ B W H S ∧ EnvR μ W σ ρ ∧ RepL μ W vs ds ∧ bd ds ρ = some ρ' ∧ ∀ σ', EnvR μ W σ' ρ' → σ'.length = σ.length → (∀ i, i ∉ ix → σ'[i]? = σ[i]?) → Q σ' H
theorem PG.imp {e : Expr} {t t' : TG} (h : PG X e t) (i : ∀ v σ H Q, t' v σ H Q → t v σ H Q) : PG X e t' := ⟨fun pins s σ H v u Q I r q => h.run pins s σ H v u Q I r (i v σ H Q q)⟩
theorem pg_dead {e : Expr} {bd : D → Env → Option Env} {ix : List Nat} (h : ∀ d ρ, bd d ρ = none) : PG X e (GT (mdOf X) B bd ix) := ⟨fun pins s σ H v u Q I r q => by
  obtain ⟨W, S, ρ, d, ρ', _, _, _, hb, _⟩ := q
  rw [h] at hb
  cases hb⟩
theorem pgs_ok {f : Expr → D → Env → Option Env} {g : Expr → List Nat} : ∀ {ts : List Expr}, ts.any isStar = false → (∀ t ∈ ts, PG X t (GT (mdOf X) B (f t) (g t))) → PGs X ts (GTs (mdOf X) B (bindTs f ts) (ts.flatMap g))
  | [], _, _ => ⟨fun pins s σ H vs us Q I r q => pgs_nil.run pins s σ H vs us Q I r (by
      obtain ⟨W, S, ρ, ds, ρ', k, e, rl, hb, hQ⟩ := q
      cases rl with
      | nil =>
        have hb : some ρ = some ρ' := hb
        cases hb
        exact ⟨rfl, hQ σ e rfl fun _ _ => rfl⟩
      | cons _ _ => cases hb)⟩
  | t :: ts, hs, hp => by
    rw [List.any_cons, Bool.or_eq_false_iff] at hs
    have h1 := hp t List.mem_cons_self
    have h2 := pgs_ok (f := f) (g := g) hs.2 fun t' ht => hp t' (List.mem_cons_of_mem _ ht)
    refine ⟨fun pins s σ H vs us Q I r q => (pgs_cons h1 h2 (by rw [assignEach_cons hs.1]; rfl)).run pins s σ H vs us Q I r ?_⟩
    obtain ⟨W, S, ρ, ds, ρ', k, e, rl, hb, hQ⟩ := q
    cases rl with
    | nil => cases hb
    | cons r1 r2 =>
      rename_i v vs d ds
      have hb : ((f t d ρ).bind fun ρ' => bindTs f ts ds ρ') = some ρ' := hb
      cases hf : f t d ρ with
      | none => rw [hf] at hb; cases hb
      | some ρ1 =>
        rw [hf] at hb
        refine ⟨v, vs, rfl, W, S, ρ, d, ρ1, k, e, r1, hf, fun σ1 e1 l1 o1 => ?_⟩
        refine ⟨W, S, ρ1, ds, ρ', k, e1, r2, hb, fun σ2 e2 l2 o2 => hQ σ2 e2 (l2.trans l1) fun i hi => ?_⟩
        rw [List.flatMap_cons] at hi
        rw [o2 i fun h => hi (List.mem_append_right _ h), o1 i fun h => hi (List.mem_append_left _ h)]
theorem bindTs_map {τ υ : Type} {g : υ → τ} {f : τ → D → Env → Option Env} : ∀ {ts : List υ} {ds : List D} {ρ : Env}, bindTs f (ts.map g) ds ρ = bindTs (fun t => f (g t)) ts ds ρ
  | [], [], _ => rfl
  | [], _ :: _, _ => rfl
  | _ :: _, [], _ => rfl
  | t :: ts, d :: ds, ρ => by
    show (f (g t) d ρ).bind (fun ρ' => bindTs f (ts.map g) ds ρ') = (f (g t) d ρ).bind fun ρ' => bindTs (fun t => f (g t)) ts ds ρ'
    congr 1
    funext ρ'
    exact bindTs_map
theorem bindT_tup {N : List Str} {sc : Scope} {n k : Nat} {ts : List Expr} {p : Pos} {ds : List D} {ρ : Env} (hs : ts.any isStar = false) : bindT N sc (n + 1) (.Tuple ts k p) (.tup ds) ρ = if ts.length == ds.length then bindTs (bindT N sc n) ts ds ρ else none := by
  have e1 : tgC N sc (n + 1) (.Tuple ts k p) = .tp (ts.map (tgC N sc n)) := by
    show (if ts.any isStar = true then Tg.bad else .tp (ts.map (tgC N sc n))) = _
    rw [hs]
    rfl
  show bindG (n + 1) (tgC N sc (n + 1) (.Tuple ts k p)) (.tup ds) ρ = _
  rw [e1]
  show (if ((ts.map (tgC N sc n)).length == ds.length) = true then bindTs (bindG n) (ts.map (tgC N sc n)) ds ρ else none) = _
  rw [List.length_map, bindTs_map]
  rfl
theorem bindT_star {N : List Str} {sc : Scope} {n k : Nat} {ts : List Expr} {p : Pos} {d : D} {ρ : Env} (hs : ts.any isStar = true) : bindT N sc (n + 1) (.Tuple ts k p) d ρ = none := by
  have e1 : tgC N sc (n + 1) (.Tuple ts k p) = .bad := if_pos hs
  show bindG (n + 1) (tgC N sc (n + 1) (.Tuple ts k p)) d ρ = _
  rw [e1]
  cases d <;> rfl
theorem bindT_nt {N : List Str} {sc : Scope} {n k : Nat} {ts : List Expr} {p : Pos} {d : D} {ρ : Env} (hs : ts.any isStar = false) (hd : ∀ ds, d ≠ .tup ds) : bindT N sc (n + 1) (.Tuple ts k p) d ρ = none := by
  have e1 : tgC N sc (n + 1) (.Tuple ts k p) = .tp (ts.map (tgC N sc n)) := by
    show (if ts.any isStar = true then Tg.bad else .tp (ts.map (tgC N sc n))) = _
    rw [hs]
    rfl
  show bindG (n + 1) (tgC N sc (n + 1) (.Tuple ts k p)) d ρ = _
  rw [e1]
  cases d with
  | tup ds => exact absurd rfl (hd ds)
  | _ => rfl
theorem bad_none {n : Nat} {d : D} {ρ : Env} : bindG n .bad d ρ = none := by
  cases n with
  | zero => rfl
  | succ n => cases d <;> rfl
/-- sc': the scope by whose names the targets are told -/
structure TgOk (X : Cx) (sc sc' : Scope) : Prop where
  keep : ∀ x k, k ≠ .free → sc'.names.lookup x = some k → sc.names.lookup x = some k
  fn : ∀ x, sc'.names.lookup x = some .cell → X.fn x = true
theorem tgt_name {sc' : Scope} (O : XOk X B c sc) (T : TgOk X sc sc') (n : Nat) (x : Str) (p : Pos) : PG X (.Name x p) (GT (mdOf X) B (fun d ρ => bindT c.N sc' (n + 1) (.Name x p) d ρ) (tgIx c.N (n + 1) (.Name x p))) := by
    have go : ∀ (i : Nat), slot c.N x = some i → (sc'.names.lookup x = some .local ∨ sc'.names.lookup x = some .cell) → PG X (.Name x p) (GT (mdOf X) B (fun d ρ => some (ρ.set i (some d))) [i]) := fun i hi hl => by
      have hN : X.N[i]? = some x := by rw [O.N]; exact slot_at hi
      have hx : Loc X.env.scope x := by rw [O.scope]; exact hl.imp (T.keep x _ (fun z => nomatch z)) (T.keep x _ (fun z => nomatch z))
      have hf : X.fn x = true ∨ X.env.scope.names.lookup x = some .local := by
        rcases hl with hl | hl
        · exact .inr (by rw [O.scope]; exact T.keep x _ (fun z => nomatch z) hl)
        · exact .inl (T.fn x hl)
      refine PG.imp (pg_name O.nd hN hx hf) fun v σ H Q q => ?_
      obtain ⟨W, S, ρ, d, ρ', k, e, r, hb, hQ⟩ := q
      cases hb
      exact hQ _ (e.set r i) (List.length_set ..) fun j hj => List.getElem?_set_ne fun z => hj (by rw [z]; exact List.mem_singleton.mpr rfl)
    cases hl : sc'.names.lookup x with
    | none =>
      refine pg_dead fun d ρ => ?_
      simp only [bindT, tgC, hl]
      exact bad_none
    | some kd =>
      cases hi : slot c.N x with
      | none =>
        refine pg_dead fun d ρ => ?_
        simp only [bindT, tgC, hl, hi]
        cases kd <;> exact bad_none
      | some i =>
        have hix : tgIx c.N (n + 1) (.Name x p) = [i] := by simp only [tgIx, hi]
        rw [hix]
        cases kd with
        | «local» =>
          have : (fun d ρ => bindT c.N sc' (n + 1) (.Name x p) d ρ) = fun d ρ => some (ρ.set i (some d)) := by
            funext d ρ
            simp only [bindT, tgC, hl, hi]
            rfl
          rw [this]
          exact go i hi (.inl hl)
        | cell =>
          have : (fun d ρ => bindT c.N sc' (n + 1) (.Name x p) d ρ) = fun d ρ => some (ρ.set i (some d)) := by
            funext d ρ
            simp only [bindT, tgC, hl, hi]
            rfl
          rw [this]
          exact go i hi (.inr hl)
        | _ =>
          refine pg_dead fun d ρ => ?_
          simp only [bindT, tgC, hl]
          exact bad_none
theorem tgt_tup {sc' : Scope} (O : XOk X B c sc) (n : Nat) (ih : ∀ tg, PG X tg (GT (mdOf X) B (fun d ρ => bindT c.N sc' n tg d ρ) (tgIx c.N n tg))) (ts : List Expr) (k : Nat) (p : Pos) : PG X (.Tuple ts k p) (GT (mdOf X) B (fun d ρ => bindT c.N sc' (n + 1) (.Tuple ts k p) d ρ) (tgIx c.N (n + 1) (.Tuple ts k p))) := by
    by_cases hs : ts.any isStar = false
    · have hp := pgs_ok (X := X) (B := B) (f := bindT c.N sc' n) (g := tgIx c.N n) hs fun t _ => ih t
      refine PG.imp (pg_tup (n := ts.length) O.calm hp assignEach_len (assignEach_plain hs)) fun v σ H Q q => ?_
      obtain ⟨W, S, ρ, d, ρ', kk, e, r, hb, hQ⟩ := q
      dsimp only at hb
      by_cases hd : ∃ ds, d = .tup ds
      · obtain ⟨ds, rfl⟩ := hd
        rw [bindT_tup hs] at hb
        split at hb
        · rename_i hc
          rw [beq_iff_eq] at hc
          cases r with
          | tup hq rl => exact ⟨_, _, rfl, kk.sqT hq, by rw [rl.length]; exact hc.symm, W, S, ρ, ds, ρ', kk, e, rl, hb, hQ⟩
        · cases hb
      · rw [bindT_nt hs fun ds h => hd ⟨ds, h⟩] at hb
        cases hb
    · exact pg_dead fun d ρ => bindT_star (by simpa using hs)
theorem tgt_ok {sc' : Scope} (O : XOk X B c sc) (T : TgOk X sc sc') : ∀ n tg, PG X tg (GT (mdOf X) B (fun d ρ => bindT c.N sc' n tg d ρ) (tgIx c.N n tg))
  | 0, tg => pg_dead fun d ρ => rfl
  | n + 1, tg => by
    by_cases h : (∃ x p, tg = .Name x p) ∨ ∃ ts k p, tg = .Tuple ts k p
    · rcases h with ⟨x, p, rfl⟩ | ⟨ts, k, p, rfl⟩
      · exact tgt_name O T n x p
      · exact tgt_tup O n (tgt_ok O T n) ts k p
    · refine pg_dead fun d ρ => ?_
      cases tg with
      | Name x p => exact absurd (.inl ⟨x, p, rfl⟩) h
      | Tuple ts k p => exact absurd (.inr ⟨ts, k, p, rfl⟩) h
      | _ => exact bad_none
end
end Ly

/-! Ly: comprehensions. -/
set_option autoImplicit false
set_option linter.all false
set_option maxRecDepth 100000
set_option maxHeartbeats 1000000
namespace Ly
open PySem PySem.Spec PyProof.Rows L2
section
variable {X : Cx} {B : List Nat} {c : Cfg} {sc : Scope} {σ : L2.St} {ρ : Env} {H : Hp} {W : Wd} {S : Sto}
theorem Post.ex {μ : Md} {α β γ : Type} {R : Wd → β → α → Prop} {Q : β → Hp → Prop} {W0 : Wd} {σ0 : L2.St} {ρ0 : Env} {m : M γ} {f : γ → M α} (p : Post μ B σ0 ρ0 W0 R Q (bnd m f S)) : ∃ x S', Post μ B σ0 ρ0 W0 R Q (f x S') := by
  unfold bnd at p
  cases q : m S with
  | ok x S1 => rw [q] at p; exact ⟨x, S1, p⟩
  | exc _ _ _ => rw [q] at p; exact p.elim
  | no => rw [q] at p; exact p.elim
theorem Post.assoc {μ : Md} {α β γ δ : Type} {R : Wd → β → α → Prop} {Q : β → Hp → Prop} {W0 : Wd} {σ0 : L2.St} {ρ0 : Env} {m : M γ} {f : γ → M δ} {g : δ → M α} (p : Post μ B σ0 ρ0 W0 R Q (bnd (bnd m f) g S)) : Post μ B σ0 ρ0 W0 R Q (bnd m (fun x => bnd (f x) g) S) := by
  rw [← bnd_assoc]
  exact p
/-- a loop of a comprehension, turn by turn: acc0 lies in the new list ahead of it -/
theorem loop_read {μ : Md} {α β : Type} {R : Wd → β → α → Prop} {Q : β → Hp → Prop} {W0 W1 : Wd} {σ0 : L2.St} {ρ0 : Env} {s : Src} {J : It} {D' : Addr} {P0 : List (Addr × HO)} {body : D → M (List D)} {Fin : List D → M α} {acc0 : List D} {Done : Hp → Prop} {Tn : V → Hp → (Hp → Prop) → Prop}
    (wl : Wlk μ B W1 s J) (lim : ∀ ys S, Post μ B σ0 ρ0 W0 R Q (Fin ys S) → (acc0 ++ ys).length ≤ line)
    (turn : ∀ d v W' S' accV acc H' (Fin' : List D → M α) (Nx : Hp → Prop), LeF W1 W' → Wok μ B W' H' S' → W'.P = (D', .lst accV) :: P0 → RepL μ W' accV acc → Rep μ W' v d → (∀ ys S, Post μ B σ0 ρ0 W0 R Q (Fin' ys S) → (acc ++ ys).length ≤ line) → Post μ B σ0 ρ0 W0 R Q (bnd (body d) Fin' S') →
      (∀ W2 S2 accV2 ys H2, LeF W1 W2 → Wok μ B W2 H2 S2 → W2.P = (D', .lst accV2) :: P0 → RepL μ W2 accV2 (acc ++ ys) → Post μ B σ0 ρ0 W0 R Q (Fin' ys S2) → Nx H2) → Tn v H' Nx)
    (done : ∀ W2 S2 accV2 ys H2, LeF W1 W2 → Wok μ B W2 H2 S2 → W2.P = (D', .lst accV2) :: P0 → RepL μ W2 accV2 (acc0 ++ ys) → Post μ B σ0 ρ0 W0 R Q (Fin ys S2) → Done H2)
    {W : Wd} {accV : List V} (l : LeF W1 W) (k : Wok μ B W H S) (hP : W.P = (D', .lst accV) :: P0) (r : RepL μ W accV acc0) (p : Post μ B σ0 ρ0 W0 R Q (bnd (compLoop (guardM s.refs) body s.items) Fin S)) :
    ∃ Wv : Nat → Nat → Hp → Prop, (∃ m, Wv 0 m H) ∧ ∀ i m H, Wv i m H → (J.stop i H ∧ Done H) ∨ (J.go i H ∧ ∃ Nx : Hp → Prop, (∀ H', Nx H' → ∃ m', m' < m ∧ Wv (i + 1) m' H') ∧ ∀ x H', J.yld i H x H' → Tn x H' Nx) := by
  let Iv : Nat → Hp → Prop := fun i H => ∃ W' S' zs accV, LeF W1 W' ∧ Wok μ B W' H S' ∧ W'.P = (D', .lst accV) :: P0 ∧ RepL μ W' accV (acc0 ++ zs) ∧ Post μ B σ0 ρ0 W0 R Q (bnd (compLoop (guardM s.refs) body (s.items.drop i)) (fun zs' => Fin (zs ++ zs')) S')
  refine ⟨fun i m H => m = s.items.length - i ∧ i ≤ s.items.length ∧ Iv i H, ⟨s.items.length, by simp, Nat.zero_le _, W, S, [], accV, l, k, hP, by rw [List.append_nil]; exact r, p⟩, ?_⟩
  rintro i m H ⟨rfl, hi, W', S', zs, av, l', k', hP', r', p'⟩
  by_cases hlt : i < s.items.length
  · right
    obtain ⟨d, hd⟩ : ∃ d, s.items[i]? = some d := ⟨_, List.getElem?_eq_getElem hlt⟩
    have hdrop : s.items.drop i = d :: s.items.drop (i + 1) := by
      rw [List.drop_eq_getElem_cons hlt]
      congr 1
      rw [List.getElem?_eq_getElem hlt] at hd
      exact Option.some.inj hd
    rw [hdrop] at p'
    have p' : Post μ B σ0 ρ0 W0 R Q (bnd (bnd (guardM s.refs) fun _ => bnd (body d) fun ys => bnd (compLoop (guardM s.refs) body (s.items.drop (i + 1))) fun zs => ret (ys ++ zs)) (fun zs' => Fin (zs ++ zs')) S') := p'
    obtain ⟨hd', p'⟩ := guard_held (s := s) p'.assoc
    have p' := p'.assoc
    refine ⟨wl.go W' H S' i l' k' hd' hlt, Iv (i + 1), fun H' h => ⟨_, by omega, rfl, hlt, h⟩, fun x H' y => ?_⟩
    obtain ⟨W2, d2, le2, k2, hd2, r2⟩ := wl.yld W' H S' i x H' l' k' hd' hlt y
    rw [hd] at hd2
    cases hd2
    have fold : ∀ ys S, Post μ B σ0 ρ0 W0 R Q (bnd (bnd (compLoop (guardM s.refs) body (s.items.drop (i + 1))) fun zs => ret (ys ++ zs)) (fun zs' => Fin (zs ++ zs')) S) → Post μ B σ0 ρ0 W0 R Q (bnd (compLoop (guardM s.refs) body (s.items.drop (i + 1))) (fun zs' => Fin ((zs ++ ys) ++ zs')) S) := fun ys S q => by
      have q := q.assoc
      have e0 : ∀ S, bnd (compLoop (guardM s.refs) body (s.items.drop (i + 1))) (fun x => bnd (ret (ys ++ x)) fun zs' => Fin (zs ++ zs')) S = bnd (compLoop (guardM s.refs) body (s.items.drop (i + 1))) (fun zs' => Fin ((zs ++ ys) ++ zs')) S := fun S => bnd_congr fun x S => by
        show Fin (zs ++ (ys ++ x)) S = _
        rw [List.append_assoc]
      rw [← e0]
      exact q
    refine turn d x W2 S' av (acc0 ++ zs) H' _ _ (l'.trans le2.toF) k2 (le2.P.trans hP') (r'.le le2.toF) r2 (fun ys S q => ?_) p' fun W3 S3 av3 ys H3 l3 k3 hP3 r3 q3 => ?_
    · obtain ⟨zs', S2, q2⟩ := (fold ys S q).ex
      have := lim _ _ q2
      rw [List.length_append, List.length_append, List.length_append] at this
      rw [List.length_append, List.length_append]
      omega
    · exact ⟨W3, S3, zs ++ ys, av3, l3, k3, hP3, by rw [← List.append_assoc]; exact r3, fold ys S3 q3⟩
  · left
    have he : i = s.items.length := by omega
    subst he
    rw [List.drop_length] at p'
    have p' : Post μ B σ0 ρ0 W0 R Q (bnd (bnd (guardM s.refs) fun _ => ret []) (fun zs' => Fin (zs ++ zs')) S') := p'
    obtain ⟨hd', p'⟩ := guard_held (s := s) p'.assoc
    have p' : Post μ B σ0 ρ0 W0 R Q (Fin (zs ++ []) S') := p'
    rw [List.append_nil] at p'
    exact ⟨wl.stop W' H S' l' k' hd', done W' S' av zs H l' k' hP' r' p'⟩
theorem wipe_same {vs : List Nat} {a b : L2.St} (hl : a.length = b.length) (h : ∀ i, i ∉ vs → a[i]? = b[i]?) : L2.wipe a vs = L2.wipe b vs := by
  refine List.ext_getElem? fun i => ?_
  by_cases hi : i ∈ vs
  · have at' : ∀ (a : L2.St) (vs : List Nat), i ∈ vs → (L2.wipe a vs)[i]? = if i < a.length then some none else none := fun a vs hi => by
      induction vs with
      | nil => cases hi
      | cons v vs ih =>
        unfold L2.wipe
        by_cases e : v = i
        · subst e
          by_cases hv : v < a.length
          · rw [List.getElem?_set_self (by rw [L2.wipe_length]; exact hv), if_pos hv]
          · rw [List.getElem?_eq_none (by rw [List.length_set, L2.wipe_length]; omega), if_neg hv]
        · rw [List.getElem?_set_ne e]
          exact ih ((List.mem_cons.mp hi).resolve_left fun z => e z.symm)
    rw [at' a vs hi, at' b vs hi, hl]
  · rw [wipe_keep (x := none) hi, wipe_keep (x := none) hi, h i hi]
theorem wipe_wipe (a : L2.St) (vs : List Nat) : L2.wipe (L2.wipe a vs) vs = L2.wipe a vs := wipe_same (L2.wipe_length a vs) fun i hi => wipe_keep (x := none) hi
/-- tests, whatever the frame's data -/
abbrev TBx (μ : Md) (B : List Nat) (f : Env → M Bool) : TT := fun σ H Q => ∃ ρ, TB μ B ρ (f ρ) σ H Q
abbrev TDx (μ : Md) (B : List Nat) (f : Env → M D) : TE := fun σ H Q => ∃ ρ, TD μ B ρ (f ρ) σ H Q
abbrev TSx (μ : Md) (B : List Nat) (f : Env → M Src) : TI := fun σ H R => ∃ ρ, TSr μ B ρ (f ρ) σ H R
theorem PE.ex {e : Expr} {f : Env → M D} (h : ∀ ρ, PE X e (TD (mdOf X) B ρ (f ρ))) : PE X e (TDx (mdOf X) B f) := ⟨fun pins s σ H Q I ⟨ρ, q⟩ => (h ρ).run pins s σ H Q I q⟩
theorem PT.ex {e : Expr} {f : Env → M Bool} (h : ∀ ρ, PT X e (TB (mdOf X) B ρ (f ρ))) : PT X e (TBx (mdOf X) B f) := ⟨fun pins s σ H Q I ⟨ρ, q⟩ => (h ρ).run pins s σ H Q I q⟩
theorem PI.ex {tg e : Expr} {f : Env → M Src} (h : ∀ ρ, PI X tg e (TSr (mdOf X) B ρ (f ρ))) : PI X tg e (TSx (mdOf X) B f) := ⟨fun pins s σ H R I ⟨ρ, q⟩ => (h ρ).run pins s σ H R I q⟩
theorem ifs_ok {ifs : List Expr} {T : Env → Expr → M Bool} (h : ∀ ρ e, PT X e (TB (mdOf X) B ρ (T ρ e))) : PTs X ifs (TBx (mdOf X) B fun ρ => ifsM (T ρ) ifs) := by
  match ifs with
  | [] => exact ⟨fun pins s σ H Q I ⟨ρ, W, S, k, e, p⟩ => pts_nil.run pins s σ H Q I (p W true H (Le.refl W) k e rfl)⟩
  | [e] => exact ⟨fun pins s σ H Q I ⟨ρ, q⟩ => (pts_one (h ρ e)).run pins s σ H Q I q⟩
  | _ :: _ :: _ => exact ⟨fun pins s σ H Q I ⟨ρ, q⟩ => (RdM.stuck q).elim⟩
/-- a clause's turn, up to what stands within it -/
theorem clause_turn {μ : Md} {α β : Type} {R : Wd → β → α → Prop} {Q : β → Hp → Prop} {W0 W' : Wd} {σ0 : L2.St} {ρ0 ρw : Env} {σw : L2.St} {H' : Hp} {S' : Sto} {N : List Str} {blk : Scope} {tg : Expr} {ifs : List Expr} {T : Env → Expr → M Bool} {kk : Env → M (List D)} {d : D} {v : V} {Fin' : List D → M α} {vs : List Nat} {In : L2.St → Hp → Prop} {Nx : Hp → Prop}
    (k : Wok μ B W' H' S') (e : EnvR μ W' σw ρw) (r : Rep μ W' v d) {vt : L2.St} (hix : ∀ i ∈ tgIx N 4 tg, i ∈ vs) (hw : L2.wipe σw vs = vt)
    (p : Post μ B σ0 ρ0 W0 R Q (bnd (onB (bindT N blk 4 tg d ρw) fun ρ' => bnd (ifsM (T ρ') ifs) fun b => if b then kk ρ' else ret []) Fin' S'))
    (yes : ∀ ρ2 σ2 W2 S2 H2, Le W' W2 → Wok μ B W2 H2 S2 → EnvR μ W2 σ2 ρ2 → L2.wipe σ2 vs = vt → Post μ B σ0 ρ0 W0 R Q (bnd (kk ρ2) Fin' S2) → In σ2 H2)
    (no : ∀ W2 S2 H2, Le W' W2 → Wok μ B W2 H2 S2 → Post μ B σ0 ρ0 W0 R Q (Fin' [] S2) → Nx H2) :
    GT μ B (fun d ρ => bindT N blk 4 tg d ρ) (tgIx N 4 tg) v σw H' fun σ2 H2 => L2.wipe σ2 vs = vt ∧ TBx μ B (fun ρ => ifsM (T ρ) ifs) σ2 H2 fun b H3 => if b = true then In σ2 H3 else Nx H3 := by
  cases hb : bindT N blk 4 tg d ρw with
  | none =>
    rw [hb] at p
    exact p.elim
  | some ρ' =>
    rw [hb] at p
    refine ⟨W', S', ρw, d, ρ', k, e, r, hb, fun σ2 e2 l2 o2 => ?_⟩
    have hw2 : L2.wipe σ2 vs = vt := (wipe_same l2 fun i hi => o2 i fun h => hi (hix i h)).trans hw
    refine ⟨hw2, ρ', ?_⟩
    have p : Post μ B σ0 ρ0 W0 R Q (bnd (ifsM (T ρ') ifs) (fun b => bnd (if b then kk ρ' else ret []) Fin') S') := Post.assoc p
    refine RdM.mono (Post.bind0 (R' := fun _ (b : Bool) (c : Bool) => b = c) k e2 p) fun b H3 ⟨W3, S3, b', l3, k3, e3, eb, p3⟩ => ?_
    cases eb
    cases b with
    | true =>
      rw [if_pos rfl]
      exact yes ρ' σ2 W3 S3 H3 l3 k3 e3 hw2 p3
    | false =>
      rw [if_neg (by decide)]
      exact no W3 S3 H3 l3 k3 p3
theorem ownOf_ix {N : List Str} {scope : Scope} : ∀ p ∈ ownOf N scope, N[p.2]? = some p.1 := fun p hp => by
  unfold ownOf at hp
  obtain ⟨y, hy, e⟩ := List.mem_filterMap.mp hp
  cases h2 : y.2 <;> rw [h2] at e <;> simp only at e <;> try (cases e)
  all_goals
    cases hs : slot N y.1 with
    | none => rw [hs] at e; cases e
    | some i =>
      rw [hs] at e
      cases e
      exact slot_at hs
/-- a comprehension's block -/
theorem XOk.blk (O : XOk X B c sc) {s : Shared} {H : Hp} {scope : Scope} {cl : List (Str × Addr)} {C : Addr} {fp : List Addr} (hk : scope.kind = .function) : XOk (X.blk s H scope (compEnvC scope cl C X.env) fp) B c (L2.relS scope sc) where
  scope := by
    show L2.relS scope X.env.scope = _
    rw [O.scope]
  N := O.N
  nd := O.nd
  calm := O.calm
  hh := O.hh
  units := O.units
  kind := hk
  cst := O.cst
  blt := O.blt
  fns := O.fns
  call := O.call
  base := O.base
theorem blk_tg {s : Shared} {H : Hp} {scope : Scope} {cl : List (Str × Addr)} {C : Addr} {fp : List Addr} : TgOk (X.blk s H scope (compEnvC scope cl C X.env) fp) (L2.relS scope sc) scope where
  keep := fun x k hk h => lookup_relS_keep hk h
  fn := fun x h => by
    show (scope.names.lookup x == some .cell) = true
    rw [h]
    rfl
theorem compOk_of {N : List Str} {scope : Scope} {gens : List Comprehension} (h : compOk N sc scope gens = true) : BlkOk N sc scope (ownOf N scope) ∧ ∀ g ∈ gens, g.is_async = 0 ∧ isSetE g.iter = false ∧ ∀ i ∈ tgIx N 4 g.target, i ∈ (ownOf N scope).map (·.2) := by
  unfold compOk at h
  rw [Bool.and_eq_true] at h
  refine ⟨blkOk_by h.1, fun g hg => ?_⟩
  have := List.all_eq_true.mp h.2 g hg
  rw [Bool.and_eq_true, Bool.and_eq_true, decide_eq_true_eq] at this
  refine ⟨this.1.1, by simpa using this.1.2, fun i hi => of_decide_eq_true (List.all_eq_true.mp this.2 i hi)⟩
theorem noset_folded {e : Expr} (h : isSetE e = false) (env : PySem.Env) (x : Value) : foldedSetIterable e env x = pure x := by
  cases e <;> first | rfl | cases h
/-- the reading of a comprehension of one clause -/
theorem lc_read {m : Bool} {scope : Scope} {tg it : Expr} {ifs : List Expr} {mi : M Src} {T : Env → Expr → M Bool} {el : Env → M D} {Q : VK} (hix : ∀ i ∈ tgIx c.N 4 tg, i ∈ (ownOf c.N scope).map (·.2))
    (h : RdM (mdOf X) B ρ (Rep (mdOf X)) (bnd (bnd mi fun s => clauseM c T scope ⟨tg, it, ifs, 0⟩ s (wipe ρ ((ownOf c.N scope).map (·.2))) fun ρ' => bnd (el ρ') fun y => ret [y]) fun xs => if xs.length ≤ line then fresh m (.lst xs) else stuck) σ H Q) :
    tLc (TSr (mdOf X) B ρ mi) (GT (mdOf X) B (fun d ρ => bindT c.N scope 4 tg d ρ) (tgIx c.N 4 tg)) (TBx (mdOf X) B fun ρ => ifsM (T ρ) ifs) (TDx (mdOf X) B el) ((ownOf c.N scope).map (·.2)) σ H Q := by
  obtain ⟨W, S, k, e, p⟩ := h
  refine RdM.mono (Post.bind (R' := fun W (J : It) (s : Src) => Wlk (mdOf X) B W s J) k e (Post.assoc p)) fun J H1 ⟨W1, S1, s, l1, k1, e1, wl, p1⟩ => ?_
  intro D' hD
  have kh := k1.hold (o := .lst []) hD
  generalize hvs : (ownOf c.N scope).map (·.2) = vs at *
  refine loop_read (W0 := W1) (R := Rep (mdOf X)) (Q := Q) (acc0 := []) (P0 := W1.P) (Fin := fun xs => if xs.length ≤ line then fresh m (.lst xs) else stuck) wl (fun ys S q => ?_) ?_ ?_ LeF.hold kh rfl .nil p1
  · rw [List.nil_append]
    by_cases hl : ys.length ≤ line
    · exact hl
    · rw [if_neg hl] at q
      exact q.elim
  · intro d v W' S' accV acc H' Fin' Nx l' k' hP' ra rv lim p' nx
    have ew : EnvR (mdOf X) W' (L2.wipe σ vs) (wipe ρ vs) := (e1.le l').wipe vs
    refine clause_turn (T := T) (kk := fun ρ' => bnd (el ρ') fun y => ret [y]) k' ew rv hix (wipe_wipe σ vs) p' (fun ρ2 σ2 W2 S2 H2 l2 k2 e2 _ p2 => ?_) fun W2 S2 H2 l2 k2 p2 => ?_
    · refine ⟨ρ2, ?_⟩
      refine RdM.mono (Post.bind0 (R' := Rep (mdOf X)) k2 e2 (Post.assoc p2)) fun y H3 ⟨W3, S3, dy, l3, k3, e3, r3, p3⟩ => ?_
      have p3 : Post (mdOf X) B σ ρ W1 (Rep (mdOf X)) Q (Fin' [dy] S3) := p3
      have hP3 : W3.P = (D', .lst accV) :: W1.P := l3.P.trans (l2.P.trans hP')
      obtain ⟨t1, _, _, _⟩ := k3.top hP3
      have hlen := lim _ _ p3
      rw [List.length_append, List.length_singleton] at hlen
      refine ⟨accV, t1, by rw [ra.length, ← line_eq]; omega, ?_⟩
      have kg := k3.grow (u := .lst (accV ++ [y])) hP3
      have rl : RepL (mdOf X) (W3.re ((D', .lst (accV ++ [y])) :: W1.P)) (accV ++ [y]) (acc ++ [dy]) := ((ra.le (l2.toF.trans l3.toF)).append (.cons r3 .nil)).le LeF.re
      exact nx _ S3 _ [dy] _ ((l'.trans (l2.toF.trans l3.toF)).trans LeF.re) kg rfl rl p3
    · have hP2 : W2.P = (D', .lst accV) :: W1.P := l2.P.trans hP'
      exact nx W2 S2 accV [] H2 (l'.trans l2.toF) k2 hP2 (by rw [List.append_nil]; exact ra.le l2.toF) p2
  · intro W2 S2 accV2 ys H2 l2 k2 hP2 r2 p2
    rw [List.nil_append] at r2
    by_cases hl : ys.length ≤ line
    · rw [if_pos hl] at p2
      exact fin_lst k2 (e1.le l2) l2 hP2 r2 p2
    · rw [if_neg hl] at p2
      exact p2.elim
/-- .. of two clauses -/
theorem lc2_read {m : Bool} {scope : Scope} {tg it tg1 it1 : Expr} {ifs ifs1 : List Expr} {mi : M Src} {mi1 : Env → M Src} {T : Env → Expr → M Bool} {el : Env → M D} {Q : VK} (hix : ∀ i ∈ tgIx c.N 4 tg, i ∈ (ownOf c.N scope).map (·.2))
    (h : RdM (mdOf X) B ρ (Rep (mdOf X)) (bnd (bnd mi fun s => clauseM c T scope ⟨tg, it, ifs, 0⟩ s (wipe ρ ((ownOf c.N scope).map (·.2))) fun ρ' => bnd (mi1 ρ') fun s2 => clauseM c T scope ⟨tg1, it1, ifs1, 0⟩ s2 (wipe ρ' (tgIx c.N 4 tg1)) fun ρ2 => bnd (el ρ2) fun y => ret [y]) fun xs => if xs.length ≤ line then fresh m (.lst xs) else stuck) σ H Q) :
    tLc2 (TSr (mdOf X) B ρ mi) (GT (mdOf X) B (fun d ρ => bindT c.N scope 4 tg d ρ) (tgIx c.N 4 tg)) (TBx (mdOf X) B fun ρ => ifsM (T ρ) ifs) (TSx (mdOf X) B mi1) (GT (mdOf X) B (fun d ρ => bindT c.N scope 4 tg1 d ρ) (tgIx c.N 4 tg1)) (TBx (mdOf X) B fun ρ => ifsM (T ρ) ifs1) (TDx (mdOf X) B el) ((ownOf c.N scope).map (·.2)) (tgIx c.N 4 tg1) σ H Q := by
  obtain ⟨W, S, k, e, p⟩ := h
  refine RdM.mono (Post.bind (R' := fun W (J : It) (s : Src) => Wlk (mdOf X) B W s J) k e (Post.assoc p)) fun J H1 ⟨W1, S1, s, l1, k1, e1, wl, p1⟩ => ?_
  intro D' hD
  have kh := k1.hold (o := .lst []) hD
  generalize hvs : (ownOf c.N scope).map (·.2) = vs at *
  refine loop_read (W0 := W1) (R := Rep (mdOf X)) (Q := Q) (acc0 := []) (P0 := W1.P) (Fin := fun xs => if xs.length ≤ line then fresh m (.lst xs) else stuck) wl (fun ys S q => ?_) ?_ ?_ LeF.hold kh rfl .nil p1
  · rw [List.nil_append]
    by_cases hl : ys.length ≤ line
    · exact hl
    · rw [if_neg hl] at q
      exact q.elim
  · intro d v W' S' accV acc H' Fin' Nx l' k' hP' ra rv lim p' nx
    have ew : EnvR (mdOf X) W' (L2.wipe σ vs) (wipe ρ vs) := (e1.le l').wipe vs
    refine clause_turn (T := T) (kk := fun ρ' => bnd (mi1 ρ') fun s2 => clauseM c T scope ⟨tg1, it1, ifs1, 0⟩ s2 (wipe ρ' (tgIx c.N 4 tg1)) fun ρ2 => bnd (el ρ2) fun y => ret [y]) k' ew rv hix (wipe_wipe σ vs) p' (fun ρ2 σ2 W2 S2 H2 l2 k2 e2 _ p2 => ?_) fun W2 S2 H2 l2 k2 p2 => ?_
    · refine ⟨ρ2, ?_⟩
      refine RdM.mono (Post.bind0 (R' := fun W (J : It) (s : Src) => Wlk (mdOf X) B W s J) k2 e2 (Post.assoc p2)) fun J1 H3 ⟨W3, S3, s3, l3, k3, e3, wl3, p3⟩ => ?_
      have hP3 : W3.P = (D', .lst accV) :: W1.P := l3.P.trans (l2.P.trans hP')
      have l13 : LeF W1 W3 := l'.trans (l2.toF.trans l3.toF)
      refine loop_read (W0 := W1) (W1 := W3) (R := Rep (mdOf X)) (Q := Q) (acc0 := acc) (P0 := W1.P) (Fin := Fin') wl3 lim ?_ ?_ (Le.refl W3).toF k3 hP3 (ra.le (l2.toF.trans l3.toF)) p3
      · intro d5 v5 W5 S5 accV5 acc5 H5 Fin5 Nx5 l5 k5 hP5 ra5 rv5 lim5 p5 nx5
        have ew5 : EnvR (mdOf X) W5 (L2.wipe σ2 (tgIx c.N 4 tg1)) (wipe ρ2 (tgIx c.N 4 tg1)) := (e3.le l5).wipe _
        refine clause_turn (T := T) (kk := fun ρ' => bnd (el ρ') fun y => ret [y]) (vs := tgIx c.N 4 tg1) (Nx := Nx5) (In := fun σ4 H4 => TDx (mdOf X) B el σ4 H4 fun y H7 => ∃ acc, H7 D' = some (.lst acc) ∧ acc.length < sizeLine ∧ Nx5 (upd H7 D' (.lst (acc ++ [y])))) k5 ew5 rv5 (fun i hi => hi) (wipe_wipe σ2 _) p5 (fun ρ6 σ6 W6 S6 H6 l6 k6 e6 _ p6 => ?_) fun W6 S6 H6 l6 k6 p6 => ?_
        · refine ⟨ρ6, ?_⟩
          refine RdM.mono (Post.bind0 (R' := Rep (mdOf X)) k6 e6 (Post.assoc p6)) fun y H7 ⟨W7, S7, dy, l7, k7, e7, r7, p7⟩ => ?_
          have p7 : Post (mdOf X) B σ ρ W1 (Rep (mdOf X)) Q (Fin5 [dy] S7) := p7
          have hP7 : W7.P = (D', .lst accV5) :: W1.P := l7.P.trans (l6.P.trans hP5)
          obtain ⟨t1, _, _, _⟩ := k7.top hP7
          have hlen := lim5 _ _ p7
          rw [List.length_append, List.length_singleton] at hlen
          refine ⟨accV5, t1, by rw [ra5.length, ← line_eq]; omega, ?_⟩
          have kg := k7.grow (u := .lst (accV5 ++ [y])) hP7
          have rl : RepL (mdOf X) (W7.re ((D', .lst (accV5 ++ [y])) :: W1.P)) (accV5 ++ [y]) (acc5 ++ [dy]) := ((ra5.le (l6.toF.trans l7.toF)).append (.cons r7 .nil)).le LeF.re
          exact nx5 _ S7 _ [dy] _ ((l5.trans (l6.toF.trans l7.toF)).trans LeF.re) kg rfl rl p7
        · have hP6 : W6.P = (D', .lst accV5) :: W1.P := l6.P.trans hP5
          exact nx5 W6 S6 accV5 [] H6 (l5.trans l6.toF) k6 hP6 (by rw [List.append_nil]; exact ra5.le l6.toF) p6
      · intro W5 S5 accV5 ys H5 l5 k5 hP5 r5 p5
        exact nx W5 S5 accV5 ys H5 (l13.trans l5) k5 hP5 r5 p5
    · have hP2 : W2.P = (D', .lst accV) :: W1.P := l2.P.trans hP'
      exact nx W2 S2 accV [] H2 (l'.trans l2.toF) k2 hP2 (by rw [List.append_nil]; exact ra.le l2.toF) p2
  · intro W2 S2 accV2 ys H2 l2 k2 hP2 r2 p2
    rw [List.nil_append] at r2
    by_cases hl : ys.length ≤ line
    · rw [if_pos hl] at p2
      exact fin_lst k2 (e1.le l2) l2 hP2 r2 p2
    · rw [if_neg hl] at p2
      exact p2.elim
end
end Ly

/-! Ly: what the evaluator tells of an expression, the model does. -/
set_option autoImplicit false
set_option linter.all false
set_option maxRecDepth 100000
set_option maxHeartbeats 1000000
namespace Ly
open PySem PySem.Spec PyProof.Rows L2
section
variable {B : List Nat} {c : Cfg}
def EvOk (B : List Nat) (c : Cfg) (n : Nat) : Prop := ∀ (X : Cx) (sc : Scope), XOk X B c sc → ∀ e ρ, PE X e (TD (mdOf X) B ρ (ev c n sc ρ e))
def EvTOk (B : List Nat) (c : Cfg) (n : Nat) : Prop := ∀ (X : Cx) (sc : Scope), XOk X B c sc → ∀ e ρ, PT X e (TB (mdOf X) B ρ (evT c n sc ρ e))
theorem call_name_ok {X : Cx} {sc : Scope} {ρ : Env} {f : Str} {p q pos : Pos} {args : List Expr} {E : Expr → M D} (O : XOk X B c sc) (hE : ∀ e, PE X e (TD (mdOf X) B ρ (E e))) : PE X (.Call (.Name f p) args [] pos) (TD (mdOf X) B ρ (evCall c E sc ρ f args q)) := by
  unfold evCall
  split
  · exact pe_stuck
  · rename_i hs
    have hs : args.any isStar = false := by simpa using hs
    split
    · rename_i hg
      split
      · rename_i fd hf
        exact call_fn O hg hf hs fun e _ => hE e
      · split
        · rename_i hb
          split
          · rename_i hi
            split
            · split
              · rename_i ht
                rw [Bool.and_eq_true] at ht
                rename_i hs
                rw [List.any_cons, Bool.or_eq_false_iff] at hs
                exact isa_ok O hi hg hb ht.1 ht.2 hs.1 (hE _)
              · exact pe_stuck
            · exact pe_stuck
          · exact call_bi O hg hb hs fun e _ => hE e
        · exact pe_stuck
    · exact pe_stuck
/-- a comprehension -/
theorem comp_ok {X : Cx} {sc : Scope} {ρ : Env} {elt : Expr} {gens : List Comprehension} {scope : Scope} {pos : Pos} {m : Bool} {n : Nat} (O : XOk X B c sc) (hE : EvOk B c n) (hT : EvTOk B c n) :
    PE X (.ListComp elt gens scope pos) (TD (mdOf X) B ρ (bnd (compM c (ev c n) (evT c n) sc ρ scope gens fun blk ρ' => ev c n blk ρ' elt) fun xs => if xs.length ≤ line then fresh m (.lst xs) else stuck)) := by
  unfold compM
  by_cases hc : compOk c.N sc scope gens = true
  · rw [if_pos hc]
    obtain ⟨ok, og⟩ := compOk_of hc
    have okX : BlkOk X.N X.env.scope scope (ownOf c.N scope) := by rw [O.N, O.scope]; exact ok
    have OB : ∀ (s : Shared) (H : Hp) (C : Addr) (cl : List (Str × Addr)) (fp : List Addr), XOk (X.blk s H scope (compEnvC scope cl C X.env) fp) B c (L2.relS scope sc) := fun s H C cl fp => O.blk ok.kind
    match gens, og with
    | [⟨tg, it, ifs, as⟩], og =>
      obtain ⟨h0, h1, h2⟩ := og _ List.mem_cons_self
      cases h0
      refine PE.imp (pe_lc O.calm O.nd (iterM_ok O fun e => hE X sc O e ρ) okX (fun s H C cl fp => tgt_ok (OB s H C cl fp) blk_tg 4 tg) (fun s H C cl fp => ifs_ok fun ρ e => hT _ _ (OB s H C cl fp) e ρ) (fun s H C cl fp => PE.ex fun ρ => hE _ _ (OB s H C cl fp) elt ρ) fun x => noset_folded h1 _ x) fun σ H Q h => lc_read h2 h
    | [⟨tg, it, ifs, as⟩, ⟨tg1, it1, ifs1, as1⟩], og =>
      obtain ⟨h0, h1, h2⟩ := og _ List.mem_cons_self
      obtain ⟨g0, g1, g2⟩ := og _ (List.mem_cons_of_mem _ List.mem_cons_self)
      cases h0
      cases g0
      refine PE.imp (pe_lc2 O.calm O.nd (iterM_ok O fun e => hE X sc O e ρ) okX g2 (fun s H C cl fp => tgt_ok (OB s H C cl fp) blk_tg 4 tg) (fun s H C cl fp => ifs_ok fun ρ e => hT _ _ (OB s H C cl fp) e ρ) (fun s H C cl fp => PI.ex fun ρ => iterM_ok (OB s H C cl fp) fun e => hE _ _ (OB s H C cl fp) e ρ) (fun s H C cl fp => tgt_ok (OB s H C cl fp) blk_tg 4 tg1) (fun s H C cl fp => ifs_ok fun ρ e => hT _ _ (OB s H C cl fp) e ρ)
        (fun s H C cl fp => PE.ex fun ρ => hE _ _ (OB s H C cl fp) elt ρ) (fun x => noset_folded h1 _ x) fun env x => noset_folded g1 env x) fun σ H Q h => lc2_read h2 h
    | [], _ => exact pe_dead fun S => .inl rfl
    | _ :: _ :: _ :: _, _ => exact pe_dead fun S => .inl rfl
  · rw [if_neg hc]
    exact pe_dead fun S => .inl rfl
theorem ev_step {n : Nat} (hE : EvOk B c n) (hT : EvTOk B c n) : EvOk B c (n + 1) := fun X sc O e ρ => by
  have ih := fun e => hE X sc O e ρ
  have it := fun e => hT X sc O e ρ
  unfold ev
  split
  · exact const_ok pe_int fun W => .int _
  · exact const_ok pe_str fun W => .str _
  · exact const_ok pe_bl fun W => .bl _
  · exact const_ok pe_non fun W => .non
  · exact name_ok O _ _
  · exact evBool_ok fun e _ => ih e
  · exact binop_ok (ih _) (ih _)
  · exact neg_ok (ih _)
  · exact not_ok (ih _)
  · exact ifExp_ok (it _) (ih _) (ih _)
  · split
    · rename_i hc
      simp only [Bool.and_eq_true, beq_iff_eq, decide_eq_true_eq] at hc
      exact disp_ok (G := c.G) (fun k _ => ih k) (fun v _ => ih v) hc.1.1 hc.1.2 hc.2
    · exact pe_stuck
  · split
    · rename_i hc
      simp only [Bool.and_eq_true, decide_eq_true_eq, Bool.not_eq_true'] at hc
      exact lst_ok (evList_ok hc.2 fun e _ => ih e) hc.1
    · exact pe_stuck
  · split
    · rename_i hc
      simp only [Bool.and_eq_true, decide_eq_true_eq, Bool.not_eq_true'] at hc
      exact tup_ok (evList_ok hc.2 fun e _ => ih e) hc.1
    · exact pe_stuck
  · exact comp_ok O hE hT
  · exact (evCmp_ok O.units (ih _) fun e _ => ih e).1
  · exact call_name_ok O ih
  · split
    · rename_i hc
      simp only [Bool.and_eq_true, decide_eq_true_eq, Bool.not_eq_true'] at hc
      exact meth_ok O hc.1.1.1 hc.1.1.2 hc.1.2 hc.2 (ih _) fun e _ => ih e
    · exact pe_stuck
  · exact rev_pe (ih _)
  · exact cut_pe (ih _) (fun e _ => ih e) fun e _ => ih e
  · split
    · exact pe_stuck
    · rename_i hs
      exact item_pe O.units (ih _) (ih _) (by simpa using hs)
  · exact pe_stuck
theorem evT_step {n : Nat} (hE : EvOk B c n) (hT : EvTOk B c n) : EvTOk B c (n + 1) := fun X sc O e ρ => by
  have ih := fun e => hE X sc O e ρ
  have it := fun e => hT X sc O e ρ
  unfold evT
  split
  · rename_i op es p
    cases es with
    | nil => exact pt_stuck
    | cons e es => exact (teBool_ok (List.cons_ne_nil _ _) fun e _ => it e).pt
  · exact pt_notM (it _)
  · exact pt_stuck
  · exact (evCmp_ok O.units (ih _) fun e _ => ih e).2
  · rename_i h1 h2 h3 h4
    refine truth_ok (ih _) fun whole => ?_
    cases e with
    | BoolOp op es p => exact absurd rfl (h1 op es p)
    | UnaryOp op a p =>
      cases op with
      | Not => exact absurd rfl (h2 a p)
      | _ => rfl
    | IfExp t a b p => exact absurd rfl (h3 t a b p)
    | Compare a ops es p => exact absurd rfl (h4 a ops es p)
    | _ => rfl
theorem ev_ok : ∀ n, EvOk B c n ∧ EvTOk B c n
  | 0 => ⟨fun X sc O e ρ => pe_stuck, fun X sc O e ρ => pt_stuck⟩
  | n + 1 => ⟨ev_step (ev_ok n).1 (ev_ok n).2, evT_step (ev_ok n).1 (ev_ok n).2⟩
end
end Ly

/-! Ly: statements. -/
set_option autoImplicit false
set_option linter.all false
set_option maxRecDepth 100000
set_option maxHeartbeats 1000000
namespace Ly
open PySem PySem.Spec PyProof.Rows L2
def PostS (μ : Md) (B : List Nat) (D : Ends) (W : Wd) : Out Fl → Prop
  | .ok (.nx ρ') S' => ∀ W' σ' H', Le W W' → Wok μ B W' H' S' → EnvR μ W' σ' ρ' → D.nx σ' H'
  | .ok (.rt d) S' => ∀ W' v H', Le W W' → Wok μ B W' H' S' → Rep μ W' v d → D.rt v H'
  | .exc _ _ _ => False
  | .no => False
abbrev TSt (μ : Md) (B : List Nat) (m : Env → M Fl) : TS := fun D σ H => ∃ W S ρ, Wok μ B W H S ∧ EnvR μ W σ ρ ∧ PostS μ B D W (m ρ S)
section
variable {X : Cx} {B : List Nat} {c : Cfg} {sc : Scope} {σ : L2.St} {ρ : Env} {H : Hp} {W : Wd} {S : Sto} {D' : Ends}
theorem PostS.le {μ : Md} {D : Ends} {W W1 : Wd} {o : Out Fl} (l : Le W W1) (p : PostS μ B D W o) : PostS μ B D W1 o := by
  cases o with
  | ok f S' =>
    cases f with
    | nx ρ' => exact fun W' σ' H' l' k e => p W' σ' H' (l.trans l') k e
    | rt d => exact fun W' v H' l' k r => p W' v H' (l.trans l') k r
  | exc _ _ _ => exact p
  | no => exact p
theorem PostS.bind {μ : Md} {γ δ : Type} {R' : Wd → δ → γ → Prop} {D : Ends} {W0 : Wd} {m : M γ} {f : γ → M Fl} (k : Wok μ B W H S) (e : EnvR μ W σ ρ) (p : PostS μ B D W0 (bnd m f S)) :
    RdM μ B ρ R' m σ H fun v H1 => ∃ W1 S1 x, Le W W1 ∧ Wok μ B W1 H1 S1 ∧ EnvR μ W1 σ ρ ∧ R' W1 v x ∧ PostS μ B D W0 (f x S1) := by
  refine ⟨W, S, k, e, ?_⟩
  unfold bnd at p
  cases q : m S with
  | ok x S1 =>
    rw [q] at p
    intro W1 v H1 l k1 e1 r1
    exact ⟨W1, S1, x, l, k1, e1, r1, p⟩
  | exc _ _ _ => rw [q] at p; exact p
  | no => rw [q] at p; exact p
theorem PS.imp {st : Stmt} {t t' : TS} (h : PS X st t) (i : ∀ D σ H, t' D σ H → t D σ H) : PS X st t' := ⟨fun pins s σ H D I q => h.run pins s σ H D I (i D σ H q)⟩
theorem PSs.imp {st : List Stmt} {t t' : TS} (h : PSs X st t) (i : ∀ D σ H, t' D σ H → t D σ H) : PSs X st t' := ⟨fun pins s σ H D I q => h.run pins s σ H D I (i D σ H q)⟩
theorem ps_dead {st : Stmt} {m : Env → M Fl} (h : ∀ ρ S, m ρ S = .no ∨ ∃ x p S', m ρ S = .exc x p S') : PS X st (TSt (mdOf X) B m) := ⟨fun pins s σ H D I q => by
  obtain ⟨W, S, ρ, k, e, p⟩ := q
  rcases h ρ S with h | ⟨x, q, S', h⟩ <;> rw [h] at p <;> exact p.elim⟩
theorem stuck_dead {α : Type} : ∀ S, (stuck : M α) S = .no ∨ ∃ x p S', (stuck : M α) S = .exc x p S' := fun S => .inl rfl
theorem ps_stuck {st : Stmt} : PS X st (TSt (mdOf X) B fun _ => stuck) := ps_dead fun ρ => stuck_dead
/-- a statement's first expression -/
theorem stm_read {μ : Md} {γ δ : Type} {R' : Wd → δ → γ → Prop} {D : Ends} {m : Env → M γ} {f : Env → γ → M Fl} (h : TSt μ B (fun ρ => bnd (m ρ) (f ρ)) D σ H) :
    ∃ ρ, RdM μ B ρ R' (m ρ) σ H fun v H1 => ∃ W1 S1 x, Wok μ B W1 H1 S1 ∧ EnvR μ W1 σ ρ ∧ R' W1 v x ∧ PostS μ B D W1 (f ρ x S1) := by
  obtain ⟨W, S, ρ, k, e, p⟩ := h
  exact ⟨ρ, RdM.mono (PostS.bind (R' := R') k e p) fun v H1 ⟨W1, S1, x, l, k1, e1, r1, p1⟩ => ⟨W1, S1, x, k1, e1, r1, p1.le l⟩⟩
theorem TSt.of {μ : Md} {D : Ends} {m : Env → M Fl} (k : Wok μ B W H S) (e : EnvR μ W σ ρ) (p : PostS μ B D W (m ρ S)) : TSt μ B m D σ H := ⟨W, S, ρ, k, e, p⟩
theorem post_nx {μ : Md} {D : Ends} (k : Wok μ B W H S) (e : EnvR μ W σ ρ) (p : PostS μ B D W (.ok (.nx ρ) S)) : D.nx σ H := p W σ H (Le.refl W) k e
theorem execs_ok {f : Stmt → Env → M Fl} : ∀ {ss : List Stmt}, (∀ s ∈ ss, PS X s (TSt (mdOf X) B (f s))) → PSs X ss (TSt (mdOf X) B fun ρ => execs f ss ρ)
  | [], _ => PSs.imp pss_nil fun D σ H ⟨W, S, ρ, k, e, p⟩ => p W σ H (Le.refl W) k e
  | s :: ss, h => by
    have h1 := h s List.mem_cons_self
    have h2 := execs_ok (f := f) (ss := ss) fun x hx => h x (List.mem_cons_of_mem _ hx)
    refine PSs.imp (pss_cons h1 h2) fun D σ H ⟨W, S, ρ, k, e, p⟩ => ⟨W, S, ρ, k, e, ?_⟩
    have p : PostS (mdOf X) B D W (bnd (f s ρ) (fun o => match o with
      | .nx ρ' => execs f ss ρ'
      | .rt d => ret (.rt d)) S) := p
    unfold bnd at p
    cases q : f s ρ S with
    | ok o S1 =>
      rw [q] at p
      cases o with
      | nx ρ' => exact fun W' σ' H' l k' e' => ⟨W', S1, ρ', k', e', p.le l⟩
      | rt d => exact p
    | exc _ _ _ => rw [q] at p; exact p
    | no => rw [q] at p; exact p
/-! ### simple statements -/
theorem expr_ok {e : Expr} {pos : Pos} {m : Env → M D} (he : ∀ ρ, PE X e (TD (mdOf X) B ρ (m ρ))) (hc : isComp e = false) : PS X (.Expr e pos) (TSt (mdOf X) B fun ρ => bnd (m ρ) fun _ => ret (.nx ρ)) := by
  refine PS.imp (ps_expr (PE.ex he) (by cases e <;> first | rfl | cases hc)) fun D σ H h => ?_
  obtain ⟨ρ, h⟩ := stm_read (R' := Rep (mdOf X)) h
  exact ⟨ρ, RdM.mono h fun v H1 ⟨W1, S1, x, k1, e1, r1, p1⟩ => post_nx k1 e1 p1⟩
theorem ret_ok {e : Expr} {pos : Pos} {m : Env → M D} (he : ∀ ρ, PE X e (TD (mdOf X) B ρ (m ρ))) : PS X (.Return (some e) pos) (TSt (mdOf X) B fun ρ => bnd (m ρ) fun d => ret (.rt d)) := by
  refine PS.imp (ps_ret (PE.ex he)) fun D σ H h => ?_
  obtain ⟨ρ, h⟩ := stm_read (R' := Rep (mdOf X)) h
  exact ⟨ρ, RdM.mono h fun v H1 ⟨W1, S1, x, k1, e1, r1, p1⟩ => p1 W1 v H1 (Le.refl W1) k1 r1⟩
theorem retN_ok {pos : Pos} : PS X (.Return none pos) (TSt (mdOf X) B fun ρ => ret (.rt .non)) := PS.imp ps_retN fun D σ H ⟨W, S, ρ, k, e, p⟩ => p W .non H (Le.refl W) k .non
theorem pass_ok {pos : Pos} : PS X (.Pass pos) (TSt (mdOf X) B fun ρ => ret (.nx ρ)) := PS.imp ps_pass fun D σ H ⟨W, S, ρ, k, e, p⟩ => post_nx k e p
theorem if_ok {t : Expr} {a b : List Stmt} {pos : Pos} {mt : Env → M Bool} {ma mb : Env → M Fl} (ht : ∀ ρ, PT X t (TB (mdOf X) B ρ (mt ρ))) (ha : PSs X a (TSt (mdOf X) B ma)) (hb : PSs X b (TSt (mdOf X) B mb)) :
    PS X (.If t a b pos) (TSt (mdOf X) B fun ρ => bnd (mt ρ) fun k => if k then ma ρ else mb ρ) := by
  refine PS.imp (ps_if (PT.ex ht) ha hb) fun D σ H h => ?_
  obtain ⟨ρ, h⟩ := stm_read (R' := fun _ (b : Bool) (c : Bool) => b = c) h
  refine ⟨ρ, RdM.mono h fun b H1 ⟨W1, S1, x, k1, e1, r1, p1⟩ => ?_⟩
  cases r1
  cases b with
  | true => exact ⟨W1, S1, ρ, k1, e1, p1⟩
  | false => exact ⟨W1, S1, ρ, k1, e1, p1⟩
/-! ### stores -/
theorem assign_post {N : List Str} {tg : Expr} {d : D} {v : V} {D : Ends} (k : Wok (mdOf X) B W H S) (e : EnvR (mdOf X) W σ ρ) (r : Rep (mdOf X) W v d) (p : PostS (mdOf X) B D W (assignM N sc tg d ρ S)) : GT (mdOf X) B (fun d ρ => bindT N sc 4 tg d ρ) (tgIx N 4 tg) v σ H D.nx := by
  unfold assignM at p
  cases hb : bindT N sc 4 tg d ρ with
  | none => rw [hb] at p; exact p.elim
  | some ρ' =>
    rw [hb] at p
    exact ⟨W, S, ρ, d, ρ', k, e, r, hb, fun σ' e' _ _ => p W σ' H (Le.refl W) k e'⟩
theorem store_asg {tg e : Expr} {pos : Pos} {m : Env → M D} (O : XOk X B c sc) (T : TgOk X sc sc) (he : ∀ ρ, PE X e (TD (mdOf X) B ρ (m ρ))) (hs : swapsWithSole [tg] e pos.line X.env = pure false) (hw : swappedStores [tg] e X.env = pure none) (h1 : isStar tg = false) :
    PS X (.Assign [tg] e pos) (TSt (mdOf X) B fun ρ => bnd (m ρ) fun d => assignM c.N sc tg d ρ) := by
  refine PS.imp (ps_asg (PE.ex he) (tgt_ok O T 4 tg) hs hw (by rw [assignEach_cons h1]; rfl)) fun D σ H h => ?_
  obtain ⟨ρ, h⟩ := stm_read (R' := Rep (mdOf X)) h
  exact ⟨ρ, RdM.mono h fun v H1 ⟨W1, S1, x, k1, e1, r1, p1⟩ => assign_post k1 e1 r1 p1⟩
theorem blockKind_fn (O : XOk X B c sc) : X.env.blockKind = .function := by
  unfold PySem.Env.blockKind
  rw [O.scope, O.kind]
  rfl
theorem swapped_is {ts vs : List Expr} {k k2 : Nat} {p p2 : Pos} {r : Option (List Str)} (O : XOk X B c sc) (h : swapped sc ts vs = some r) : swappedStores [.Tuple ts k p] (.Tuple vs k2 p2) X.env = pure r := by
  have hk : ∀ id, X.env.kindOf id = sc.names.lookup id := fun id => by
    show X.env.scope.names.lookup id = _
    rw [O.scope]
  have hb : (X.env.blockKind != .function) = false := by rw [blockKind_fn O]; rfl
  unfold swappedStores
  simp only [hk, hb, Bool.or_false]
  unfold swapped at h
  split at h
  · rename_i h1
    cases h
    exact if_pos h1
  · rename_i h1
    refine (if_neg h1).trans ?_
    split at h
    · rename_i h2
      cases h
      exact if_pos h2
    · rename_i h2
      refine (if_neg h2).trans ?_
      split at h
      · rename_i h3
        cases h
        exact if_pos h3
      · rename_i h3
        refine (if_neg h3).trans ?_
        split at h
        · rename_i h4
          cases h
          exact if_pos h4
        · rename_i h4
          refine (if_neg h4).trans ?_
          split at h
          · cases h
          · rename_i h5
            cases h
            exact if_neg h5
end
end Ly

/-! Ly: statements: stores, loops. -/
set_option autoImplicit false
set_option linter.all false
set_option maxRecDepth 100000
set_option maxHeartbeats 1000000
namespace Ly
open PySem PySem.Spec PyProof.Rows L2
section
variable {X : Cx} {B : List Nat} {c : Cfg} {sc : Scope} {σ : L2.St} {ρ : Env} {H : Hp} {W : Wd} {S : Sto} {D' : Ends}
theorem slot_ne {N : List Str} {x y : Str} {i j : Nat} (hx : slot N x = some i) (hy : slot N y = some j) (h : slot N x ≠ slot N y) : i ≠ j := fun e => h (by rw [hx, hy, e])
theorem bindT_name {N : List Str} {x : Str} {p : Pos} {i n : Nat} {d : D} {ρ : Env} (hl : sc.names.lookup x = some .local) (hi : slot N x = some i) : bindT N sc (n + 1) (.Name x p) d ρ = some (ρ.set i (some d)) := by
  simp only [bindT, tgC, hl, hi]
  rfl
theorem par_ok {ts vs : List Expr} {k k2 : Nat} {p p2 pos : Pos} {names : List Str} {E : Env → Expr → M D} (O : XOk X B c sc) (hE : ∀ ρ e, PE X e (TD (mdOf X) B ρ (E ρ e))) (hsw : swapped sc ts vs = some (some names)) (hp : parOk c.N sc ts vs names = true) (hst : vs.any isStar = false) :
    PS X (.Assign [.Tuple ts k p] (.Tuple vs k2 p2) pos) (TSt (mdOf X) B fun ρ => bnd (evList (E ρ) vs) fun ds => assignM c.N sc (.Tuple ts k p) (.tup ds) ρ) := by
  have hw := swapped_is (k := k) (k2 := k2) (p := p) (p2 := p2) O hsw
  have hA : ∀ vs : List Expr, vs.any isStar = false → PA X vs (fun σ H Q => ∃ ρ, TL (mdOf X) B ρ (evList (E ρ) vs) σ H Q) := fun vs hst => ⟨fun pos pins s σ H Q I ⟨ρ, q⟩ => (evList_ok hst fun e _ => hE ρ e).run pos pins s σ H Q I q⟩
  unfold parOk at hp
  split at hp
  · rename_i x px y py a b x' y'
    simp only [Bool.and_eq_true, decide_eq_true_eq] at hp
    obtain ⟨⟨⟨⟨⟨⟨h1, h2⟩, h3⟩, h4⟩, h5⟩, h6⟩, h7⟩ := hp
    cases seq_eq h1
    cases seq_eq h2
    obtain ⟨i, hi⟩ := Option.isSome_iff_exists.mp h5
    obtain ⟨j, hj⟩ := Option.isSome_iff_exists.mp h6
    have hij := slot_ne hi hj h7
    refine PS.imp (ps_par O.calm O.nd (by rw [O.N]; exact slot_at hi) (by rw [O.N]; exact slot_at hj) hij (by rw [O.scope]; exact h3) (by rw [O.scope]; exact h4) (hA _ hst) hw) fun D σ H h => ?_
    obtain ⟨ρ, h⟩ := stm_read (R' := RepL (mdOf X)) h
    refine ⟨ρ, RdM.mono h fun vs H1 ⟨W1, S1, ds, k1, e1, r1, p1⟩ => ?_⟩
    have hb3 : ∀ (d1 d2 : Ly.D) (ρ : Env), bindT c.N sc 4 (.Tuple [.Name x px, .Name y py] k p) (.tup [d1, d2]) ρ = some ((ρ.set i (some d1)).set j (some d2)) := by
      intro d1 d2 ρ
      rw [bindT_tup (by rfl)]
      refine (if_pos (show (([Expr.Name x px, .Name y py].length == [d1, d2].length) = true) from rfl)).trans ?_
      show (bindT c.N sc 3 (.Name x px) d1 ρ).bind (fun ρ' => (bindT c.N sc 3 (.Name y py) d2 ρ').bind fun ρ' => some ρ') = _
      rw [bindT_name h3 hi]
      show (bindT c.N sc 3 (.Name y py) d2 (ρ.set i (some d1))).bind (fun ρ' => some ρ') = _
      rw [bindT_name h4 hj]
      rfl
    match ds, r1, p1 with
    | [d1, d2], .cons r1 (.cons r2 .nil), p1 =>
      unfold assignM at p1
      rw [hb3] at p1
      exact ⟨_, _, rfl, p1 W1 _ H1 (Le.refl W1) k1 ((e1.set r1 i).set r2 j)⟩
    | [], _, p1 => exact p1.elim
    | [_], _, p1 => exact p1.elim
    | _ :: _ :: _ :: _, _, p1 => exact p1.elim
  · rename_i x px y py z pz a b c3 x' y' z'
    simp only [Bool.and_eq_true, decide_eq_true_eq] at hp
    obtain ⟨⟨⟨⟨⟨⟨⟨⟨⟨⟨⟨g1, g2⟩, g3⟩, h1⟩, h2⟩, h3⟩, s1⟩, s2⟩, s3⟩, n1⟩, n2⟩, n3⟩ := hp
    cases seq_eq g1
    cases seq_eq g2
    cases seq_eq g3
    obtain ⟨i, hi⟩ := Option.isSome_iff_exists.mp s1
    obtain ⟨j, hj⟩ := Option.isSome_iff_exists.mp s2
    obtain ⟨l, hl⟩ := Option.isSome_iff_exists.mp s3
    refine PS.imp (ps_par3 O.calm O.nd (by rw [O.N]; exact slot_at hi) (by rw [O.N]; exact slot_at hj) (by rw [O.N]; exact slot_at hl) (slot_ne hi hj n1) (slot_ne hi hl n2) (slot_ne hj hl n3) (by rw [O.scope]; exact h1) (by rw [O.scope]; exact h2) (by rw [O.scope]; exact h3) (hA _ hst) hw) fun D σ H h => ?_
    obtain ⟨ρ, h⟩ := stm_read (R' := RepL (mdOf X)) h
    refine ⟨ρ, RdM.mono h fun vs H1 ⟨W1, S1, ds, k1, e1, r1, p1⟩ => ?_⟩
    have hb3 : ∀ (d1 d2 d3 : Ly.D) (ρ : Env), bindT c.N sc 4 (.Tuple [.Name x px, .Name y py, .Name z pz] k p) (.tup [d1, d2, d3]) ρ = some (((ρ.set i (some d1)).set j (some d2)).set l (some d3)) := by
      intro d1 d2 d3 ρ
      rw [bindT_tup (by rfl)]
      refine (if_pos (show (([Expr.Name x px, .Name y py, .Name z pz].length == [d1, d2, d3].length) = true) from rfl)).trans ?_
      show (bindT c.N sc 3 (.Name x px) d1 ρ).bind (fun ρ' => (bindT c.N sc 3 (.Name y py) d2 ρ').bind fun ρ' => (bindT c.N sc 3 (.Name z pz) d3 ρ').bind fun ρ' => some ρ') = _
      rw [bindT_name h1 hi]
      show (bindT c.N sc 3 (.Name y py) d2 (ρ.set i (some d1))).bind (fun ρ' => (bindT c.N sc 3 (.Name z pz) d3 ρ').bind fun ρ' => some ρ') = _
      rw [bindT_name h2 hj]
      show (bindT c.N sc 3 (.Name z pz) d3 _).bind (fun ρ' => some ρ') = _
      rw [bindT_name h3 hl]
      rfl
    match ds, r1, p1 with
    | [d1, d2, d3], .cons r1 (.cons r2 (.cons r3 .nil)), p1 =>
      unfold assignM at p1
      rw [hb3] at p1
      exact ⟨_, _, _, rfl, p1 W1 _ H1 (Le.refl W1) k1 (((e1.set r1 i).set r2 j).set r3 l)⟩
    | [], _, p1 => exact p1.elim
    | [_], _, p1 => exact p1.elim
    | [_, _], _, p1 => exact p1.elim
    | _ :: _ :: _ :: _ :: _, _, p1 => exact p1.elim
  · cases hp
/-! ### o[i] = v -/
theorem put_post {d i v : D} {x y u : V} {base : Nat} {D : Ends} {st : Shared} {pins : List (Addr × Obj)} {a b r : Value} (hu : X.A.units + 200 < cLine) (hB : ∀ m ∈ B, m ≤ base) (I : Inv X pins σ H st) (k : Wok (mdOf X) B W H S) (e : EnvR (mdOf X) W σ ρ) (rd : Rep (mdOf X) W x d) (ri : Rep (mdOf X) W y i) (rv : Rep (mdOf X) W u v)
    (ra : RelV x a) (rb : RelV y b) (rr : RelV u r) (p : PostS (mdOf X) B D W (bnd (putM base d i v) (fun _ => ret (.nx ρ)) S)) :
    wpAny (model X.prog X.w) X.A (setItem a b r) (fun _ s' => ∃ H', Inv X pins σ H' s' ∧ D.nx σ H') X.xe st := by
  unfold bnd putM at p
  cases d with
  | ref n =>
    dsimp only at p
    cases rd with
    | ref ha =>
      rename_i l
      cases hS : S[n]? with
      | none => rw [hS] at p; exact p.elim
      | some mo =>
        rw [hS] at p
        cases mo with
        | lck _ => exact p.elim
        | lst xs =>
          dsimp only at p
          obtain ⟨vs, hl, rl⟩ := k.obj n l _ ha hS
          cases i with
          | int j =>
            dsimp only at p
            unfold setIx at p
            cases hj : L2.ixN xs.length j with
            | none => rw [hj] at p; exact p.elim
            | some q =>
              rw [hj] at p
              dsimp only [Option.map] at p
              by_cases hm : mayHold base n v = true
              · rw [if_pos hm] at p
                cases ri
                refine set_list pins st σ H _ _ u a b r _ I ra rb rr ⟨l, vs, j, q, rfl, rfl, hl, by rw [rl.length]; exact hj, ?_⟩
                have k' : Wok (mdOf X) B W (upd H l (.lst (vs.set q u))) (S.set n (.lst (xs.set q v))) := k.put ha ⟨_, upd_same, rl.set rv q⟩ fun b hb hn => by
                  obtain ⟨_, hbl⟩ := k.below b hb
                  have h0 : belowM b (.lst xs) := hbl n _ hn hS
                  exact belowL_set (hold_below (hB b hb) hn hm) q h0
                exact p W σ _ (Le.refl W) k' e
              · rw [if_neg hm] at p
                exact p.elim
          | _ => exact p.elim
        | dct kvs =>
          dsimp only at p
          obtain ⟨o, hl, hd⟩ := k.obj n l _ ha hS
          by_cases hc : (keyOk i && mayHold base n v && decide (kvs.length < line)) = true
          · rw [if_pos hc] at p
            rw [Bool.and_eq_true, Bool.and_eq_true, decide_eq_true_eq] at hc
            obtain ⟨⟨hk, hm⟩, hz⟩ := hc
            obtain ⟨ks, rfl, fl⟩ := hd.flat
            obtain ⟨key, rfl⟩ := keyOk_is hk
            cases rep_key ri
            cases ra
            refine d_setItem (H' := upd H l (.dK (L2.putK ks key u))) (by omega) I (DPut.k hl (by rw [fl.length, ← line_eq]; exact hz)) rb rr fun s' I' => ⟨_, I', ?_⟩
            have k' : Wok (mdOf X) B W (upd H l (.dK (L2.putK ks key u))) (S.set n (.dct (putK kvs (keyD key) v))) := k.put ha ⟨_, upd_same, (fl.put rv).dic⟩ fun b hb hn => by
              obtain ⟨_, hbl⟩ := k.below b hb
              have h0 : belowM b (.dct kvs) := hbl n _ hn hS
              exact belowK_put hk (hold_below (hB b hb) hn hm) h0
            exact p W σ _ (Le.refl W) k' e
          · rw [if_neg hc] at p
            exact p.elim
  | _ => exact p.elim
theorem sub_ok {o i e : Expr} {tp pos : Pos} {E : Env → Expr → M D} (O : XOk X B c sc) (hE : ∀ ρ e, PE X e (TD (mdOf X) B ρ (E ρ e))) (hc : isComp e = false) (hsl : isSlice i = false) :
    PS X (.Assign [.Subscript o i tp] e pos) (TSt (mdOf X) B fun ρ => bnd (E ρ e) fun v => bnd (E ρ o) fun x => bnd (E ρ i) fun y => bnd (putM c.base x y v) fun _ => ret (.nx ρ)) := by
  have hs : swapsWithSole [.Subscript o i tp] e pos.line X.env = pure false := by cases e <;> first | rfl | cases hc
  have ha : ∀ v, assign (.Subscript o i tp) X.env v = (do
      let ov ← holding [v] (eval o X.env)
      let iv ← holding [v, ov] (eval i X.env)
      standAt tp
      holding [v, ov, iv] (setItem ov iv v)
      release [v, ov, iv] []) := fun v => by
    cases i <;> first | rfl | cases hsl
  have hg : PG X (.Subscript o i tp) (fun v σ H Q => ∃ ρ W S dv D, Wok (mdOf X) B W H S ∧ EnvR (mdOf X) W σ ρ ∧ Rep (mdOf X) W v dv ∧ PostS (mdOf X) B D W (bnd (E ρ o) (fun x => bnd (E ρ i) fun y => bnd (putM c.base x y dv) fun _ => ret (.nx ρ)) S) ∧ ∀ σ H, D.nx σ H → Q σ H) := by
    refine ⟨fun pins s σ H v u Q I r h => ?_⟩
    obtain ⟨ρ, W, S, dv, D, k, e, rv, p, hQ⟩ := h
    rw [ha]
    refine wpAny_bind (wpAny_holding (thn ((hE ρ o).run pins s σ H _ I (PostS.bind (R' := Rep (mdOf X)) k e p)) fun ov s1 ⟨x, H1, I1, r1, W1, S1, dx, l1, k1, e1, rx, p1⟩ => ?_))
    refine wpAny_bind (wpAny_holding (thn ((hE ρ i).run pins s1 σ H1 _ I1 (PostS.bind (R' := Rep (mdOf X)) k1 e1 p1)) fun iv s2 ⟨y, H2, I2, r2, W2, S2, dy, l2, k2, e2, ry, p2⟩ => ?_))
    refine wpAny_bind (wpAny_standAt (wpAny_bind (wpAny_holding (thn (put_post O.units O.base I2 k2 e2 (rep_mono l2 rx) ry (rep_mono (l1.trans l2) rv) r1 r2 r (p2.le (l1.trans l2))) fun _ s3 ⟨H3, I3, q3⟩ => ?_))))
    exact wpAny_release ⟨σ, H3, I3, hQ _ _ q3⟩
  refine PS.imp (ps_asg (PE.ex fun ρ => hE ρ e) hg hs rfl rfl) fun D σ H h => ?_
  obtain ⟨ρ, h⟩ := stm_read (R' := Rep (mdOf X)) h
  exact ⟨ρ, RdM.mono h fun v H1 ⟨W1, S1, x, k1, e1, r1, p1⟩ => ⟨ρ, W1, S1, x, D, k1, e1, r1, p1, fun _ _ h => h⟩⟩
/-! ### name = [.. for ..] -/
theorem asg_slot {x : Str} {p : Pos} {i : Nat} {v : V} {d : D} {Dn : Ends} (hl : sc.names.lookup x = some .local) (hi : slot c.N x = some i) (k : Wok (mdOf X) B W H S) (e : EnvR (mdOf X) W σ ρ) (r : Rep (mdOf X) W v d) (p1 : PostS (mdOf X) B Dn W (assignM c.N sc (.Name x p) d ρ S)) : gName i v σ H Dn.nx := by
  unfold assignM at p1
  rw [bindT_name hl hi] at p1
  exact p1 W _ H (Le.refl W) k (e.set r i)
theorem swap_ok {x : Str} {p pos spos : Pos} {elt : Expr} {gens : List Comprehension} {scope : Scope} {m : Bool} {n : Nat} (O : XOk X B c sc) (hE : EvOk B c n) (hT : EvTOk B c n) (hsw : swaps sc x p (.ListComp elt gens scope pos) = true) :
    PS X (.Assign [.Name x p] (.ListComp elt gens scope pos) spos) (TSt (mdOf X) B fun ρ => bnd (bnd (compM c (ev c n) (evT c n) sc ρ scope gens fun blk ρ' => ev c n blk ρ' elt) fun xs => if xs.length ≤ line then fresh m (.lst xs) else stuck) fun d => assignM c.N sc (.Name x p) d ρ) := by
  unfold swaps at hsw
  rw [Bool.and_eq_true, Bool.and_eq_true, beq_iff_eq] at hsw
  obtain ⟨⟨hl, hline⟩, hany⟩ := hsw
  have hlX : X.env.scope.names.lookup x = some .local := by rw [O.scope]; exact hl
  have hkX : X.env.scope.kind = .function := by rw [O.scope]; exact O.kind
  have dead : (∀ ρ, compM c (ev c n) (evT c n) sc ρ scope gens (fun blk ρ' => ev c n blk ρ' elt) = stuck) → PS X (.Assign [.Name x p] (.ListComp elt gens scope pos) spos) (TSt (mdOf X) B fun ρ => bnd (bnd (compM c (ev c n) (evT c n) sc ρ scope gens fun blk ρ' => ev c n blk ρ' elt) fun xs => if xs.length ≤ line then fresh m (.lst xs) else stuck) fun d => assignM c.N sc (.Name x p) d ρ) := fun h => ps_dead fun ρ S => by
    rw [h ρ]
    exact .inl rfl
  cases hi : slot c.N x with
  | none =>
    refine ps_dead fun ρ => bnd_dead fun d S => .inl ?_
    unfold assignM
    have : bindT c.N sc 4 (.Name x p) d ρ = none := by
      simp only [bindT, tgC, hl, hi]
      exact bad_none
    rw [this]
    rfl
  | some i =>
    have hN : X.N[i]? = some x := by rw [O.N]; exact slot_at hi
    have hsX : swapsWith (.ListComp elt gens scope pos) (some (.Name x p)) spos.line X.env = pure true := sw_true hkX hlX hline (by simpa using hany)
    by_cases hc : compOk c.N sc scope gens = true
    · unfold compM at dead ⊢
      simp only [if_pos hc] at dead ⊢
      obtain ⟨ok, og⟩ := compOk_of hc
      have okX : BlkOk X.N X.env.scope scope (ownOf c.N scope) := by rw [O.N, O.scope]; exact ok
      have OB : ∀ (s : Shared) (H : Hp) (C : Addr) (cl : List (Str × Addr)) (fp : List Addr), XOk (X.blk s H scope (compEnvC scope cl C X.env) fp) B c (L2.relS scope sc) := fun s H C cl fp => O.blk ok.kind
      match gens, og, dead, hsX with
      | [⟨tg, it, ifs, as⟩], og, _, hsX =>
        obtain ⟨h0, h1, h2⟩ := og _ List.mem_cons_self
        cases h0
        have hPI : PI X tg it (TSx (mdOf X) B fun ρ => iterM c sc (ev c n sc ρ) tg it) := PI.ex fun ρ => iterM_ok O fun e => hE X sc O e ρ
        refine PS.imp (ps_setLc (g := GT (mdOf X) B (fun d ρ => bindT c.N scope 4 tg d ρ) (tgIx c.N 4 tg)) (tt := TBx (mdOf X) B fun ρ => ifsM (evT c n (L2.relS scope sc) ρ) ifs) (te := TDx (mdOf X) B fun ρ => ev c n (L2.relS scope sc) ρ elt) O.calm O.nd hN hlX hsX hPI okX (fun s H C cl fp => tgt_ok (OB s H C cl fp) blk_tg 4 tg) (fun s H C cl fp => ifs_ok fun ρ e => hT _ _ (OB s H C cl fp) e ρ) (fun s H C cl fp => PE.ex fun ρ => hE _ _ (OB s H C cl fp) elt ρ) fun x => noset_folded h1 _ x) fun D σ H h => ?_
        obtain ⟨ρ, h⟩ := stm_read (R' := Rep (mdOf X)) h
        have h' : RdM (mdOf X) B ρ (Rep (mdOf X)) _ σ H (fun v H1 => gName i v σ H1 D.nx) := RdM.mono h fun v H1 ⟨W1, S1, d, k1, e1, r1, p1⟩ => asg_slot hl hi k1 e1 r1 p1
        exact (fun (q : tLc (TSr (mdOf X) B ρ _) _ _ _ _ σ H _) => (⟨ρ, q⟩ : tLc (TSx (mdOf X) B fun ρ => iterM c sc (ev c n sc ρ) tg it) _ _ _ _ σ H _)) (lc_read h2 h')
      | [⟨tg, it, ifs, as⟩, ⟨tg1, it1, ifs1, as1⟩], og, _, hsX =>
        obtain ⟨h0, h1, h2⟩ := og _ List.mem_cons_self
        obtain ⟨g0, g1, g2⟩ := og _ (List.mem_cons_of_mem _ List.mem_cons_self)
        cases h0
        cases g0
        have hPI : PI X tg it (TSx (mdOf X) B fun ρ => iterM c sc (ev c n sc ρ) tg it) := PI.ex fun ρ => iterM_ok O fun e => hE X sc O e ρ
        refine PS.imp (ps_setLc2 (g := GT (mdOf X) B (fun d ρ => bindT c.N scope 4 tg d ρ) (tgIx c.N 4 tg)) (tt := TBx (mdOf X) B fun ρ => ifsM (evT c n (L2.relS scope sc) ρ) ifs) (wi1 := TSx (mdOf X) B fun ρ => iterM c (L2.relS scope sc) (ev c n (L2.relS scope sc) ρ) tg1 it1) (g1 := GT (mdOf X) B (fun d ρ => bindT c.N scope 4 tg1 d ρ) (tgIx c.N 4 tg1)) (tt1 := TBx (mdOf X) B fun ρ => ifsM (evT c n (L2.relS scope sc) ρ) ifs1) (te := TDx (mdOf X) B fun ρ => ev c n (L2.relS scope sc) ρ elt) O.calm O.nd hN hlX hsX hPI okX g2 (fun s H C cl fp => tgt_ok (OB s H C cl fp) blk_tg 4 tg) (fun s H C cl fp => ifs_ok fun ρ e => hT _ _ (OB s H C cl fp) e ρ) (fun s H C cl fp => PI.ex fun ρ => iterM_ok (OB s H C cl fp) fun e => hE _ _ (OB s H C cl fp) e ρ) (fun s H C cl fp => tgt_ok (OB s H C cl fp) blk_tg 4 tg1) (fun s H C cl fp => ifs_ok fun ρ e => hT _ _ (OB s H C cl fp) e ρ)
          (fun s H C cl fp => PE.ex fun ρ => hE _ _ (OB s H C cl fp) elt ρ) (fun x => noset_folded h1 _ x) fun env x => noset_folded g1 env x) fun D σ H h => ?_
        obtain ⟨ρ, h⟩ := stm_read (R' := Rep (mdOf X)) h
        have h' : RdM (mdOf X) B ρ (Rep (mdOf X)) _ σ H (fun v H1 => gName i v σ H1 D.nx) := RdM.mono h fun v H1 ⟨W1, S1, d, k1, e1, r1, p1⟩ => asg_slot hl hi k1 e1 r1 p1
        exact (fun (q : tLc2 (TSr (mdOf X) B ρ _) _ _ _ _ _ _ _ _ σ H _) => (⟨ρ, q⟩ : tLc2 (TSx (mdOf X) B fun ρ => iterM c sc (ev c n sc ρ) tg it) _ _ _ _ _ _ _ _ σ H _)) (lc2_read h2 h')
      | [], _, dead, _ => exact dead fun ρ => rfl
      | _ :: _ :: _ :: _, _, dead, _ => exact dead fun ρ => rfl
    · exact dead fun ρ => by unfold compM; rw [if_neg hc]
end
end Ly

/-! Ly: name op= e, for, while; all statements. -/
set_option autoImplicit false
set_option linter.all false
set_option maxRecDepth 100000
set_option maxHeartbeats 1000000
namespace Ly
open PySem PySem.Spec PyProof.Rows L2
section
variable {X : Cx} {B : List Nat} {c : Cfg} {sc : Scope} {σ : L2.St} {ρ : Env} {H : Hp} {W : Wd} {S : Sto}
def rExtR : R2 := fun x y H Q => ∃ l b xs zs, x = .ref l ∧ y = .ref b ∧ H l = some (.lst xs) ∧ Rd H b (.lst zs) ∧ xs.length + zs.length ≤ sizeLine ∧ Q (.ref l) (upd H l (.lst (xs ++ zs)))
theorem iop_extR : OpR X (inplaceOp .Add) rExtR := by
  intro pins s σ H x y v u Q I rx ry h
  obtain ⟨l, b, xs, zs, rfl, rfl, hH, hB, hz, q⟩ := h
  cases rx
  cases ry
  obtain ⟨z, its, n, r, hl, e⟩ := I.lstM hH
  obtain ⟨z2, its2, n2, r2, e2⟩ := lstAt I hB
  have hl2 := r2.length
  have hsz : its.toArray.size + its2.toArray.size ≤ sizeLine := by rw [List.size_toArray, List.size_toArray]; omega
  have hlong : ¬ (!its.toArray.isEmpty && Builtin.List.listTooLong (its.toArray.size + its2.toArray.size)) = true := by
    rw [notLongL hsz, Bool.and_false]
    exact Bool.false_ne_true
  refine iadd_road ⟨_, e, rfl⟩ ⟨_, e2, rfl⟩ (call_meets PySem.F.slot_list_iadd ⟨_, e, rfl⟩ PySem.F.entry_list_iadd (PySem.F.args_list_iadd_2 _ _)
    (AutoSeq1.list___iadd___list_list_0 l its.toArray n b its2.toArray n2 hlong (by rw [List.size_toArray]; omega) (by omega)) ⟨e, e2, ?_⟩)
  refine ⟨.ref l, _, I.lset (its' := its ++ its2) (t' := s.toks) hH e (by simp) (r.append r2) ?_, rfl, q⟩
  rw [List.length_append]
  omega
def rAug : Operator → TIp
  | .Add => fun x y H Q => rI0 (fun i j => .int (i + j)) x y H Q ∨ rExtR x y H Q
  | .Sub => rI0 fun i j => .int (i - j)
  | _ => fun _ _ _ _ => False
theorem aug_rule (op : Operator) : PIp X op (rAug op) := by
  cases op with
  | Add => exact (OpR.or iop_add iop_extR : OpR X (inplaceOp .Add) _)
  | Sub => exact (iop_sub : OpR X (inplaceOp .Sub) _)
  | _ => exact fun _ _ _ _ _ _ _ _ _ _ _ _ h => h.elim
theorem aug_post {op : Operator} {old v : D} {x y : V} {i : Nat} {D : Ends} (hB : ∀ m ∈ B, m ≤ c.base) (k : Wok (mdOf X) B W H S) (e : EnvR (mdOf X) W σ ρ) (ro : Rep (mdOf X) W x old) (rv : Rep (mdOf X) W y v)
    (p : PostS (mdOf X) B D W (bnd (augM c op old v) (fun d => ret (.nx (ρ.set i (some d)))) S)) : rAug op x y H fun z H2 => D.nx (σ.set i (some z)) H2 := by
  unfold augM at p
  split at p
  · cases ro
    cases rv
    exact .inl ⟨_, _, rfl, rfl, p W _ H (Le.refl W) k (e.set (.int _) i)⟩
  · cases ro
    cases rv
    exact ⟨_, _, rfl, rfl, p W _ H (Le.refl W) k (e.set (.int _) i)⟩
  · rename_i n
    have sv := rv.view k
    have p : PostS (mdOf X) B D W (bnd (extM c.base (.ref n) (view S v)) (fun d => ret (.nx (ρ.set i (some d)))) S) := p
    generalize view S v = v' at sv p
    cases ro with
    | ref ha =>
      rename_i l
      unfold bnd extM at p
      dsimp only at p
      cases hS : S[n]? with
      | none => rw [hS] at p; exact p.elim
      | some mo =>
        rw [hS] at p
        cases mo with
        | dct _ => exact p.elim
        | lck _ => exact p.elim
        | lst xs =>
          cases v' with
          | lst ys =>
            dsimp only at p
            by_cases hc : (closedL ys && decide (xs.length + ys.length ≤ line)) = true
            · rw [if_pos hc] at p
              rw [Bool.and_eq_true, decide_eq_true_eq] at hc
              obtain ⟨vs, hl, rl⟩ := k.obj n l _ ha hS
              obtain ⟨b, us, rfl, hb, r2⟩ := sv.lstE
              refine .inr ⟨l, b, vs, us, rfl, rfl, hl, hb, by rw [rl.length, r2.length, ← line_eq]; exact hc.2, ?_⟩
              have k' : Wok (mdOf X) B W (upd H l (.lst (vs ++ us))) (S.set n (.lst (xs ++ ys))) := k.put ha ⟨_, upd_same, rl.append r2⟩ fun b hb hn => by
                obtain ⟨_, hbl⟩ := k.below b hb
                have h0 : belowM b (.lst xs) := hbl n _ hn hS
                exact belowL_append h0 (closedL_below b hc.1)
              exact p W _ _ (Le.refl W) k' (e.set (.ref ha) i)
            · rw [if_neg hc] at p
              exact p.elim
          | _ => exact p.elim
  · exact p.elim
theorem aug_ok {x : Str} {px pos : Pos} {op : Operator} {e : Expr} {i : Nat} {E : Env → Expr → M D} (O : XOk X B c sc) (T : TgOk X sc sc) (hE : ∀ ρ e, PE X e (TD (mdOf X) B ρ (E ρ e))) (hi : slot c.N x = some i) (hl : sc.names.lookup x = some .local ∨ sc.names.lookup x = some .cell) :
    PS X (.AugAssign (.Name x px) op e pos) (TSt (mdOf X) B fun ρ => bnd (getv ρ i) fun old => bnd (E ρ e) fun v => bnd (augM c op old v) fun d => ret (.nx (ρ.set i (some d)))) := by
  have hx : Loc X.env.scope x := by rw [O.scope]; exact hl
  have hf : X.fn x = true ∨ X.env.scope.names.lookup x = some .local := by
    rcases hl with hl | hl
    · exact .inr (by rw [O.scope]; exact hl)
    · exact .inl (T.fn x hl)
  refine PS.imp (ps_aug O.nd (by rw [O.N]; exact slot_at hi) hx (PE.ex fun ρ => hE ρ e) (aug_rule op) hf) fun D σ H ⟨W, S, ρ, k, en, p⟩ => ?_
  dsimp only at p
  unfold getv at p
  cases hd : ρ[i]? with
  | none => rw [hd] at p; exact p.elim
  | some o =>
    cases o with
    | none => rw [hd] at p; exact p.elim
    | some d =>
      rw [hd] at p
      have p : PostS (mdOf X) B D W (bnd (E ρ e) (fun v => bnd (augM c op d v) fun d => ret (.nx (ρ.set i (some d)))) S) := p
      obtain ⟨v, hv, rv⟩ := en.at' i d hd
      refine ⟨v, hv, ρ, RdM.mono (PostS.bind (R' := Rep (mdOf X)) k en p) fun y H1 ⟨W1, S1, dy, l1, k1, e1, r1, p1⟩ => ?_⟩
      exact aug_post O.base k1 e1 (rep_mono l1 rv) r1 (p1.le l1)
/-! ### loops -/
theorem guard_heldS {s : Src} {μ : Md} {D : Ends} {f : Unit → M Fl} (p : PostS μ B D W (bnd (guardM s.refs) f S)) : Held s S ∧ PostS μ B D W (f () S) := by
  unfold bnd guardM at p
  split at p
  · rename_i a S' h
    split at h
    · rename_i hc
      cases h
      refine ⟨fun q hq => ?_, p⟩
      have := List.all_eq_true.mp hc q hq
      split at this
      · rename_i ys hy
        rw [hy, sameL_eq this]
      · cases this
    · cases h
  · exact p.elim
  · exact p.elim
theorem for_ok {tg it : Expr} {body : List Stmt} {pos : Pos} {mi : Env → M Src} {mb : Env → M Fl} (O : XOk X B c sc) (T : TgOk X sc sc) (hp : PassesOwn (model X.prog X.w) X.A X.env X.xe) (hi : ∀ ρ, PI X tg it (TSr (mdOf X) B ρ (mi ρ))) (hb : PSs X body (TSt (mdOf X) B mb)) (hs : isSetE it = false) :
    PS X (.For tg it body [] pos) (TSt (mdOf X) B fun ρ => bnd (mi ρ) fun s => forLoop (guardM s.refs) (fun x ρ1 => onB (bindT c.N sc 4 tg x ρ1) mb) s.items ρ) := by
  refine PS.imp (ps_for hp O.calm (PI.ex hi) (tgt_ok O T 4 tg) hb fun x => noset_folded hs _ x) fun D σ H h => ?_
  obtain ⟨ρ, h⟩ := stm_read (R' := fun W (J : It) (s : Src) => Wlk (mdOf X) B W s J) h
  refine ⟨ρ, RdM.mono h fun J H1 ⟨W1, S1, s, k1, e1, wl, p1⟩ => ?_⟩
  let Iv : Nat → L2.St → Hp → Prop := fun i σ H => ∃ W' S' ρ', Le W1 W' ∧ Wok (mdOf X) B W' H S' ∧ EnvR (mdOf X) W' σ ρ' ∧ PostS (mdOf X) B D W1 (forLoop (guardM s.refs) (fun x ρ1 => onB (bindT c.N sc 4 tg x ρ1) mb) (s.items.drop i) ρ' S')
  refine ⟨fun i m σ H => m = s.items.length - i ∧ i ≤ s.items.length ∧ Iv i σ H, ⟨s.items.length, by simp, Nat.zero_le _, W1, S1, ρ, Le.refl W1, k1, e1, p1⟩, ?_⟩
  rintro i m σ H ⟨rfl, hi, W', S', ρ', l', k', e', p'⟩
  by_cases hlt : i < s.items.length
  · right
    obtain ⟨d, hd⟩ : ∃ d, s.items[i]? = some d := ⟨_, List.getElem?_eq_getElem hlt⟩
    have hdrop : s.items.drop i = d :: s.items.drop (i + 1) := by
      rw [List.drop_eq_getElem_cons hlt]
      congr 1
      rw [List.getElem?_eq_getElem hlt] at hd
      exact Option.some.inj hd
    rw [hdrop] at p'
    obtain ⟨hd', p'⟩ := guard_heldS (s := s) p'
    refine ⟨wl.go W' H S' i l'.toF k' hd' hlt, Iv (i + 1), fun σ' H' h => ⟨_, by omega, rfl, hlt, h⟩, fun x H' y => ?_⟩
    obtain ⟨W2, d2, le2, k2, hd2, r2⟩ := wl.yld W' H S' i x H' l'.toF k' hd' hlt y
    rw [hd] at hd2
    cases hd2
    dsimp only at p'
    unfold onB at p'
    cases hb : bindT c.N sc 4 tg d ρ' with
    | none =>
      rw [hb] at p'
      exact p'.elim
    | some ρ2 =>
      rw [hb] at p'
      refine ⟨W2, S', ρ', d, ρ2, k2, e'.le le2.toF, r2, hb, fun σ2 e2 _ _ => ⟨W2, S', ρ2, k2, e2, ?_⟩⟩
      dsimp only at p'
      unfold bnd at p'
      cases q : mb ρ2 S' with
      | ok o S3 =>
        rw [q] at p'
        cases o with
        | nx ρ3 => exact fun W3 σ3 H3 l3 k3 e3 => ⟨W3, S3, ρ3, (l'.trans le2).trans l3, k3, e3, p'⟩
        | rt d => exact fun W3 v H3 l3 k3 r3 => p' W3 v H3 ((l'.trans le2).trans l3) k3 r3
      | exc _ _ _ => rw [q] at p'; exact p'.elim
      | no => rw [q] at p'; exact p'.elim
  · left
    have he : i = s.items.length := by omega
    subst he
    rw [List.drop_length] at p'
    obtain ⟨hd', p'⟩ := guard_heldS (s := s) p'
    exact ⟨wl.stop W' H S' l'.toF k' hd', p' W' σ H l' k' e'⟩
theorem while_ok {t : Expr} {body : List Stmt} {pos : Pos} {mt : Env → M Bool} {mb : Env → M Fl} {fuel : Nat} (hp : PassesOwn (model X.prog X.w) X.A X.env X.xe) (ht : ∀ ρ, PT X t (TB (mdOf X) B ρ (mt ρ))) (hb : PSs X body (TSt (mdOf X) B mb)) :
    PS X (.While t body [] pos) (TSt (mdOf X) B fun ρ => whileLoop mt mb fuel ρ) := by
  refine PS.imp (ps_while hp (PT.ex ht) hb) fun D σ H ⟨W0, S0, ρ0, k0, e0, p0⟩ => ?_
  refine ⟨fun m σ H => ∃ W' S' ρ', Le W0 W' ∧ Wok (mdOf X) B W' H S' ∧ EnvR (mdOf X) W' σ ρ' ∧ PostS (mdOf X) B D W0 (whileLoop mt mb m ρ' S'), ⟨fuel, W0, S0, ρ0, Le.refl W0, k0, e0, p0⟩, ?_⟩
  rintro m σ H ⟨W', S', ρ', l', k', e', p'⟩
  cases m with
  | zero => exact p'.elim
  | succ m =>
    have p' : PostS (mdOf X) B D W0 (bnd (mt ρ') (fun b => if b then (bnd (mb ρ') fun o => match o with
      | .nx ρ' => whileLoop mt mb m ρ'
      | .rt d => ret (.rt d)) else ret (.nx ρ')) S') := p'
    refine ⟨ρ', RdM.mono (PostS.bind (R' := fun _ (b : Bool) (c : Bool) => b = c) k' e' p') fun b H1 ⟨W1, S1, b', l1, k1, e1, eb, p1⟩ => ?_⟩
    cases eb
    cases b with
    | false => exact p1 W1 σ H1 (l'.trans l1) k1 e1
    | true =>
      rw [if_pos rfl]
      rw [if_pos rfl] at p1
      refine ⟨fun σ H => ∃ W' S' ρ', Le W0 W' ∧ Wok (mdOf X) B W' H S' ∧ EnvR (mdOf X) W' σ ρ' ∧ PostS (mdOf X) B D W0 (whileLoop mt mb m ρ' S'), fun σ' H' h => ⟨m, Nat.lt_succ_self m, h⟩, W1, S1, ρ', k1, e1, ?_⟩
      unfold bnd at p1
      cases q : mb ρ' S1 with
      | ok o S3 =>
        rw [q] at p1
        cases o with
        | nx ρ3 => exact fun W3 σ3 H3 l3 k3 e3 => ⟨W3, S3, ρ3, (l'.trans l1).trans l3, k3, e3, p1⟩
        | rt d => exact fun W3 v H3 l3 k3 r3 => p1 W3 v H3 ((l'.trans l1).trans l3) k3 r3
      | exc _ _ _ => rw [q] at p1; exact p1.elim
      | no => rw [q] at p1; exact p1.elim
/-! ### all statements -/
theorem noswap {x : Str} {p pos : Pos} {l : Nat} {elt : Expr} {gens : List Comprehension} {scope : Scope} (O : XOk X B c sc) (hs : ¬ swaps sc x p (.ListComp elt gens scope pos) = true) : swapsWithSole [.Name x p] (.ListComp elt gens scope pos) l X.env = pure false := by
  have hk : X.env.kindOf x = sc.names.lookup x := by
    show X.env.scope.names.lookup x = _
    rw [O.scope]
  have hb : (X.env.blockKind == .function) = true := by rw [blockKind_fn O]; rfl
  show swapsWith (.ListComp elt gens scope pos) (some (.Name x p)) l X.env = pure false
  unfold swapsWith
  simp only [hk, hb, Bool.true_and]
  have : (sc.names.lookup x == some .local && p.line == pos.line && !(scope.names.any fun (n, k) => n == x && (k == .local || k == .cell))) = false := by
    exact Bool.eq_false_iff.mpr hs
  exact congrArg (fun b => (pure b : Sem Bool)) this
def StmOk (B : List Nat) (c : Cfg) (n : Nat) : Prop := ∀ (X : Cx) (sc : Scope), XOk X B c sc → TgOk X sc sc → PassesOwn (model X.prog X.w) X.A X.env X.xe → ∀ st, PS X st (TSt (mdOf X) B fun ρ => exec c n sc st ρ)
theorem exec_step {n : Nat} (ih : StmOk B c n) : StmOk B c (n + 1) := fun X sc O T hp st => by
  have hE := fun ρ e => (ev_ok (B := B) (c := c) n).1 X sc O e ρ
  have hT := fun e ρ => (ev_ok (B := B) (c := c) n).2 X sc O e ρ
  have hb : ∀ ss, PSs X ss (TSt (mdOf X) B fun ρ => execs (exec c n sc) ss ρ) := fun ss => execs_ok (f := exec c n sc) fun s _ => ih X sc O T hp s
  unfold exec
  split
  · split
    · exact ps_stuck
    · rename_i hc
      exact expr_ok (fun ρ => hE ρ _) (by simpa using hc)
  · exact ret_ok fun ρ => hE ρ _
  · exact retN_ok
  · exact pass_ok
  · exact if_ok (hT _) (hb _) (hb _)
  · rename_i x p e pos
    split
    · exact ps_stuck
    · rename_i hc
      by_cases hs : swaps sc x p e = true
      · cases e with
        | ListComp elt gens scope pos2 =>
          cases n with
          | zero => exact ps_dead fun ρ S => .inl rfl
          | succ n => exact swap_ok O (ev_ok n).1 (ev_ok n).2 hs
        | _ => cases hs
      · refine store_asg O T (fun ρ => hE ρ _) ?_ rfl rfl
        cases e with
        | ListComp elt gens scope pos2 => exact noswap O hs
        | SetComp _ _ _ _ => exact absurd rfl hc
        | DictComp _ _ _ _ _ => exact absurd rfl hc
        | _ => rfl
  · split
    · exact ps_stuck
    · rename_i hsw
      exact store_asg O T (fun ρ => hE ρ _) rfl (swapped_is O hsw) rfl
    · rename_i names hsw
      split
      · rename_i hc
        rw [Bool.and_eq_true] at hc
        exact par_ok O hE hsw hc.1 (by simpa using hc.2)
      · exact ps_stuck
  · split
    · exact ps_stuck
    · rename_i hc
      refine store_asg O T (fun ρ => hE ρ _) ?_ ?_ rfl
      · rename_i e pos hn
        cases e with
        | ListComp _ _ _ _ => exact absurd rfl hc
        | SetComp _ _ _ _ => exact absurd rfl hc
        | DictComp _ _ _ _ _ => exact absurd rfl hc
        | _ => rfl
      · rename_i e pos hn
        cases e with
        | Tuple vs k2 p2 => exact absurd rfl (hn vs k2 p2)
        | _ => rfl
  · split
    · exact ps_stuck
    · rename_i hc
      rw [Bool.or_eq_true, not_or] at hc
      exact sub_ok O hE (by simpa using hc.1) (by simpa using hc.2)
  · split
    · rename_i i hi hl
      exact aug_ok O T hE hi (.inl hl)
    · rename_i i hi hl
      exact aug_ok O T hE hi (.inr hl)
    · exact ps_stuck
  · split
    · exact ps_stuck
    · rename_i hs
      exact for_ok O T hp (fun ρ => iterM_ok O fun e => hE ρ e) (hb _) (by simpa using hs)
  · exact while_ok hp (hT _) (hb _)
  · exact ps_stuck
theorem exec_ok : ∀ n, StmOk B c n
  | 0 => fun X sc O T hp st => ps_stuck
  | n + 1 => exec_step (exec_ok n)
end
end Ly

/-! Ly: a def's end: what it made stays as data. -/
set_option autoImplicit false
set_option linter.all false
set_option maxRecDepth 100000
set_option maxHeartbeats 1000000
namespace Ly
open PySem PySem.Spec PyProof.Rows L2
section
variable {μ : Md} {B : List Nat} {W W' : Wd} {H : Hp} {S : Sto} {m : Nat}
mutual
theorem Rep.bel : ∀ {v : V} {d : D}, Rep μ W v d → belowD W.ρ.length d
  | _, _, .non => by simp only [belowD]
  | _, _, .bl b => by simp only [belowD]
  | _, _, .int i => by simp only [belowD]
  | _, _, .str x => by simp only [belowD]
  | _, _, .tup h r => by simp only [belowD]; exact RepL.bel r
  | _, _, .lst h r => by simp only [belowD]; exact RepL.bel r
  | _, _, .dct h q r => by simp only [belowD]; exact RepK.bel r
  | _, _, .ref h => by simp only [belowD]; exact (List.getElem?_eq_some_iff.mp h).1
  | _, _, .fn h => by simp only [belowD]
  | _, _, .scr h r => by simp only [belowD]; exact RepL.bel r
theorem RepL.bel : ∀ {vs : List V} {ds : List D}, RepL μ W vs ds → belowL W.ρ.length ds
  | _, _, .nil => by simp only [belowL]
  | _, _, .cons h r => by simp only [belowL]; exact ⟨Rep.bel h, RepL.bel r⟩
theorem RepK.bel : ∀ {ps : List (V × V)} {kvs : List (D × D)}, RepK μ W ps kvs → belowK W.ρ.length kvs
  | _, _, .nil => by simp only [belowK]
  | _, _, .cons h g r => by simp only [belowK]; exact ⟨Rep.bel h, Rep.bel g, RepK.bel r⟩
end
theorem MRep.bel {a : Addr} {mo : MO} (h : MRep μ W H a mo) : belowM W.ρ.length mo := by
  cases mo with
  | lst xs => obtain ⟨vs, _, r⟩ := h; exact r.bel
  | dct kvs => obtain ⟨o, _, ps, _, r⟩ := h; exact r.bel
  | lck kvs => obtain ⟨ob, o, _, ps, _, r⟩ := h; exact r.bel
/-- one more mark: where the store ends now -/
theorem Wok.mark (k : Wok μ B W H S) : Wok μ (S.length :: B) W H S := by
  refine ⟨k.frz, k.nofrz, k.len, k.obj, k.apart, k.inj, k.pend, k.pnd, fun b hb => ?_⟩
  rcases List.mem_cons.mp hb with rfl | hb
  · refine ⟨Nat.le_refl _, fun i mo hi h => ?_⟩
    have hl : i < W.ρ.length := by rw [k.len]; exact hi
    have := (k.obj i W.ρ[i] mo (List.getElem?_eq_getElem hl) h).bel
    rw [k.len] at this
    exact this
  · exact k.below b hb
/-- data of W within a world that knows as much below m -/
structure Cut (m : Nat) (W W' : Wd) : Prop where
  F : ∀ a o, W.F a = some o → W'.F a = some o
  ρ : ∀ n a, n < m → W.ρ[n]? = some a → W'.ρ[n]? = some a
mutual
theorem Rep.cutD (c : Cut m W W') : ∀ {v : V} {d : D}, Rep μ W v d → belowD m d → Rep μ W' v d
  | _, _, .non, _ => .non
  | _, _, .bl b, _ => .bl b
  | _, _, .int i, _ => .int i
  | _, _, .str x, _ => .str x
  | _, _, .tup h r, b => by
    simp only [belowD] at b
    refine .tup ?_ (RepL.cutD c r b)
    rcases h with (h | ⟨o, h⟩) | h
    · exact .inl (.inl (c.F _ _ h))
    · exact .inl (.inr ⟨o, c.F _ _ h⟩)
    · exact .inr h
  | _, _, .lst h r, b => by
    simp only [belowD] at b
    exact .lst (c.F _ _ h) (RepL.cutD c r b)
  | _, _, .dct h q r, b => by
    simp only [belowD] at b
    exact .dct (c.F _ _ h) q (RepK.cutD c r b)
  | _, _, .ref h, b => by
    simp only [belowD] at b
    exact .ref (c.ρ _ _ b h)
  | _, _, .fn h, _ => .fn h
  | _, _, .scr h r, b => by
    simp only [belowD] at b
    refine .scr ?_ (RepL.cutD c r b)
    rcases h with (h | ⟨o, h⟩) | h
    · exact .inl (.inl (c.F _ _ h))
    · exact .inl (.inr ⟨o, c.F _ _ h⟩)
    · exact .inr h
theorem RepL.cutD (c : Cut m W W') : ∀ {vs : List V} {ds : List D}, RepL μ W vs ds → belowL m ds → RepL μ W' vs ds
  | _, _, .nil, _ => .nil
  | _, _, .cons h r, b => by
    simp only [belowL] at b
    exact .cons (Rep.cutD c h b.1) (RepL.cutD c r b.2)
theorem RepK.cutD (c : Cut m W W') : ∀ {ps : List (V × V)} {kvs : List (D × D)}, RepK μ W ps kvs → belowK m kvs → RepK μ W' ps kvs
  | _, _, .nil, _ => .nil
  | _, _, .cons h g r, b => by
    simp only [belowK] at b
    exact .cons (Rep.cutD c h b.1) (Rep.cutD c g b.2.1) (RepK.cutD c r b.2.2)
end
theorem MRep.cutD (c : Cut m W W') {a : Addr} {mo : MO} (h : MRep μ W H a mo) (b : belowM m mo) : MRep μ W' H a mo := by
  cases mo with
  | lst xs => obtain ⟨vs, h, r⟩ := h; exact ⟨vs, h, r.cutD c b⟩
  | dct kvs => obtain ⟨o, h, ps, q, r⟩ := h; exact ⟨o, h, ps, q, r.cutD c b⟩
  | lck kvs => obtain ⟨ob, o, h, ps, q, r⟩ := h; exact ⟨ob, o, h, ps, q, r.cutD c b⟩
def closedM : MO → Prop
  | .lst xs => closedL xs = true
  | .dct kvs => closedK kvs = true
  | .lck _ => False
/-- what becomes data for good: the store's objects from m on, all but the one at ex -/
def Gone (W : Wd) (S : Sto) (m : Nat) (ex : Option Addr) (a : Addr) : Prop := some a ≠ ex ∧ ∃ n mo, m ≤ n ∧ W.ρ[n]? = some a ∧ S[n]? = some mo ∧ closedM mo
open Classical in
noncomputable def Wd.out (W : Wd) (H : Hp) (S : Sto) (m : Nat) (ex : Option Addr) : Wd := ⟨fun a => match W.F a with
  | some o => some o
  | none => if Gone W S m ex a then H a else none, W.ρ.take m, W.P⟩
theorem out_F {ex : Option Addr} {a : Addr} {o : HO} (h : W.F a = some o) : (W.out H S m ex).F a = some o := by
  unfold Wd.out
  dsimp only
  rw [h]
theorem out_new {ex : Option Addr} {a : Addr} (n : W.F a = none) (g : Gone W S m ex a) : (W.out H S m ex).F a = H a := by
  unfold Wd.out
  dsimp only
  rw [n]
  exact if_pos g
theorem out_none {ex : Option Addr} {a : Addr} (n : W.F a = none) (g : ¬ Gone W S m ex a) : (W.out H S m ex).F a = none := by
  unfold Wd.out
  dsimp only
  rw [n]
  exact if_neg g
theorem out_cut {ex : Option Addr} : Cut m W (W.out H S m ex) := ⟨fun a o h => out_F h, fun n a hn h => by
  show (W.ρ.take m)[n]? = some a
  rw [List.getElem?_take_of_lt hn]
  exact h⟩
theorem Wok.out {ex : Option Addr} (k : Wok μ (m :: B) W H S) (hm : m ≤ S.length) (hB : ∀ b ∈ B, b ≤ m) : Wok μ B (W.out H S m ex) H (S.take m) := by
  have gone : ∀ {a}, Gone W S m ex a → (∃ vs, H a = some (.lst vs)) ∨ ∃ kvs, H a = some (.dK kvs) := fun {a} g => by
    obtain ⟨_, n, mo, _, h1, h2, hc⟩ := g
    have := k.obj n a mo h1 h2
    cases mo with
    | lst xs => obtain ⟨vs, h, _⟩ := this; exact .inl ⟨vs, h⟩
    | dct kvs =>
      obtain ⟨o, h, d⟩ := this
      obtain ⟨ks, rfl, _⟩ := d.flat
      exact .inr ⟨ks, h⟩
    | lck _ => exact hc.elim
  refine ⟨fun a o h => ?_, fun a ob o h => ?_, ?_, fun n a mo h1 h2 => ?_, fun n a h => ?_, ?_, fun p o h => ?_, k.pnd, fun b hb => ?_⟩
  · cases hF : W.F a with
    | some u =>
      rw [out_F hF] at h
      cases h
      exact k.frz a _ hF
    | none =>
      by_cases g : Gone W S m ex a
      · rw [out_new hF g] at h
        exact .inl h
      · rw [out_none hF g] at h
        cases h
  · cases hF : W.F a with
    | some u =>
      rw [out_F hF] at h
      cases h
      exact k.nofrz _ _ _ hF
    | none =>
      by_cases g : Gone W S m ex a
      · rw [out_new hF g] at h
        rcases gone g with ⟨vs, e⟩ | ⟨kvs, e⟩ <;> rw [h] at e <;> cases e
      · rw [out_none hF g] at h
        cases h
  · show (W.ρ.take m).length = (S.take m).length
    rw [List.length_take, List.length_take, k.len]
  · have h1 : (W.ρ.take m)[n]? = some a := h1
    have hn : n < m := by
      have := (List.getElem?_eq_some_iff.mp h1).1
      rw [List.length_take] at this
      omega
    rw [List.getElem?_take_of_lt hn] at h1 h2
    exact (k.obj n a mo h1 h2).cutD out_cut ((k.below m List.mem_cons_self).2 n mo hn h2)
  · have h : (W.ρ.take m)[n]? = some a := h
    have hn : n < m := by
      have := (List.getElem?_eq_some_iff.mp h).1
      rw [List.length_take] at this
      omega
    rw [List.getElem?_take_of_lt hn] at h
    refine out_none (k.apart n a h) fun ⟨_, n', mo, hn', h', _, _⟩ => ?_
    obtain ⟨l1, g1⟩ := List.getElem?_eq_some_iff.mp h
    obtain ⟨l2, g2⟩ := List.getElem?_eq_some_iff.mp h'
    have := (List.getElem_inj k.inj).mp (g1.trans g2.symm)
    omega
  · exact k.inj.sublist (List.take_sublist _ _)
  · obtain ⟨h1, h2, h3⟩ := k.pend p o h
    refine ⟨h1, out_none h2 fun ⟨_, n, mo, _, h', _, _⟩ => h3 (List.mem_of_getElem? h'), fun hm => h3 (List.mem_of_mem_take hm)⟩
  · obtain ⟨h1, h2⟩ := k.below b (List.mem_cons_of_mem _ hb)
    refine ⟨by rw [List.length_take]; have := hB b hb; omega, fun i mo hi h => ?_⟩
    rw [List.getElem?_take_of_lt (by have := hB b hb; omega)] at h
    exact h2 i mo hi h
mutual
theorem frz_rep (k : Wok μ (m :: B) W H S) : ∀ {v : V} {d d' : D}, Rep μ W v d → frzD S m d = some d' → Rep μ (W.out H S m none) v d'
  | _, _, d', .non, e => by simp only [frzD] at e; cases e; exact .non
  | _, _, d', .bl b, e => by simp only [frzD] at e; cases e; exact .bl b
  | _, _, d', .int i, e => by simp only [frzD] at e; cases e; exact .int i
  | _, _, d', .str x, e => by simp only [frzD] at e; cases e; exact .str x
  | _, _, d', .fn h, e => by simp only [frzD] at e; cases e; exact .fn h
  | _, _, d', .scr (ds := ds) h r, e => by
    simp only [frzD] at e
    split at e
    · rename_i hc
      cases e
      refine .scr ?_ (r.cutD out_cut (closedL_below m hc))
      rcases h with (h | ⟨o, h⟩) | h
      · exact .inl (.inl (out_F h))
      · exact .inl (.inr ⟨o, out_F h⟩)
      · exact .inr h
    · cases e
  | _, _, d', .tup (ds := ds) h r, e => by
    simp only [frzD] at e
    cases q : frzL S m ds with
    | none => rw [q] at e; cases e
    | some ys =>
      rw [q] at e
      cases e
      refine .tup ?_ (frzL_rep k r q)
      rcases h with (h | ⟨o, h⟩) | h
      · exact .inl (.inl (out_F h))
      · exact .inl (.inr ⟨o, out_F h⟩)
      · exact .inr h
  | _, _, d', .lst (ds := ds) h r, e => by
    simp only [frzD] at e
    cases q : frzL S m ds with
    | none => rw [q] at e; cases e
    | some ys =>
      rw [q] at e
      cases e
      exact .lst (out_F h) (frzL_rep k r q)
  | _, _, d', .dct (kvs := kvs) h q r, e => by
    simp only [frzD] at e
    split at e
    · rename_i hc
      cases e
      exact .dct (out_F h) q (r.cutD out_cut (closedK_below m hc))
    · cases e
  | _, _, d', .ref (n := n) (a := a) h, e => by
    simp only [frzD] at e
    split at e
    · rename_i hn
      cases e
      exact .ref (out_cut.ρ n a hn h)
    · rename_i hn
      split at e
      · rename_i xs hS
        split at e
        · rename_i hc
          cases e
          obtain ⟨vs, h1, h2⟩ := k.obj n a _ h hS
          have g : Gone W S m none a := ⟨(fun z => nomatch z), n, _, by omega, h, hS, hc⟩
          exact .lst (by rw [out_new (k.apart n a h) g]; exact h1) (h2.cutD out_cut (closedL_below m hc))
        · cases e
      · rename_i kvs hS
        split at e
        · rename_i hc
          cases e
          obtain ⟨o, h1, ps, q, r⟩ := k.obj n a _ h hS
          have g : Gone W S m none a := ⟨(fun z => nomatch z), n, _, by omega, h, hS, hc⟩
          exact .dct (by rw [out_new (k.apart n a h) g]; exact h1) q (r.cutD out_cut (closedK_below m hc))
        · cases e
      · cases e
theorem frzL_rep (k : Wok μ (m :: B) W H S) : ∀ {vs : List V} {ds ds' : List D}, RepL μ W vs ds → frzL S m ds = some ds' → RepL μ (W.out H S m none) vs ds'
  | _, _, ds', .nil, e => by simp only [frzL] at e; cases e; exact .nil
  | _, _, ds', .cons (d := d) (ds := ds) h r, e => by
    simp only [frzL] at e
    cases q1 : frzD S m d with
    | none => rw [q1] at e; cases e
    | some y =>
      cases q2 : frzL S m ds with
      | none => rw [q1, q2] at e; cases e
      | some ys =>
        rw [q1, q2] at e
        cases e
        exact .cons (frz_rep k h q1) (frzL_rep k r q2)
end
/-- a def's end -/
theorem leave_ok {W0 : Wd} {H' : Hp} {S1 S' : Sto} {keep : Bool} {v : V} {d d' : D} (hl : Le W0 W) (h0 : W0.ρ.length = m) (k : Wok μ (m :: B) W H' S1) (hB : ∀ b ∈ B, b ≤ m) (r : Rep μ W v d) (e : leave keep m d S1 = .ok d' S') :
    ∃ W', Le W0 W' ∧ Wok μ B W' H' S' ∧ Rep μ W' v d' := by
  have hm : m ≤ S1.length := (k.below m List.mem_cons_self).1
  obtain ⟨more, hρ⟩ := hl.toF.ρ
  have htake : W.ρ.take m = W0.ρ := by rw [hρ, ← h0, List.take_left]
  have le0 : ∀ ex, Le W0 (W.out H' S1 m ex) := fun ex => ⟨⟨fun a o h => out_F (hl.toF.F a o h), [], by
    show W.ρ.take m = W0.ρ ++ []
    rw [htake, List.append_nil]⟩, hl.P⟩
  cases keep with
  | false =>
    have e : (match frzD S1 m d with
      | some d' => Out.ok d' (S1.take m)
      | none => .no) = .ok d' S' := e
    cases q : frzD S1 m d with
    | none => rw [q] at e; cases e
    | some y =>
      rw [q] at e
      cases e
      exact ⟨_, le0 none, k.out hm hB, frz_rep k r q⟩
  | true =>
    cases d with
    | ref n =>
      have e : (if n < m then Out.no else (match S1[n]? with
        | some (.lst xs) => if closedL xs then .ok (.ref m) (S1.take m ++ [.lst xs]) else .no
        | some (.dct kvs) => if closedK kvs then .ok (.ref m) (S1.take m ++ [.dct kvs]) else .no
        | _ => .no)) = .ok d' S' := e
      split at e
      · cases e
      · rename_i hn
        cases r with
        | ref ha =>
          rename_i a
          have fin : ∀ mo, S1[n]? = some mo → closedM mo → ∃ W', Le W0 W' ∧ Wok μ B W' H' (S1.take m ++ [mo]) ∧ Rep μ W' (.ref a) (.ref m) := fun mo hS hc => by
            have k1 := k.out (ex := some a) hm hB
            have nF : (W.out H' S1 m (some a)).F a = none := out_none (k.apart n a ha) fun g => g.1 rfl
            have nρ : a ∉ (W.out H' S1 m (some a)).ρ := fun hmem => by
              have hmem : a ∈ W.ρ.take m := hmem
              obtain ⟨i, hi⟩ := List.getElem?_of_mem hmem
              have hil : i < m := by
                have := (List.getElem?_eq_some_iff.mp hi).1
                rw [List.length_take] at this
                omega
              rw [List.getElem?_take_of_lt hil] at hi
              obtain ⟨l1, g1⟩ := List.getElem?_eq_some_iff.mp hi
              obtain ⟨l2, g2⟩ := List.getElem?_eq_some_iff.mp ha
              have := (List.getElem_inj k.inj).mp (g1.trans g2.symm)
              omega
            have nP : ∀ q u, (q, u) ∈ (W.out H' S1 m (some a)).P → q ≠ a := fun q u hq z => by
              obtain ⟨_, _, h3⟩ := k.pend q u hq
              exact h3 (by rw [z]; exact List.mem_of_getElem? ha)
            have hb : belowM m mo := by
              cases mo with
              | lst xs => exact closedL_below m hc
              | dct kvs => exact closedK_below m hc
              | lck _ => exact hc.elim
            have hc2 : Cut m W ((W.out H' S1 m (some a)).more a) := ⟨fun b o h => out_F h, fun i b hi h => by
              show (W.ρ.take m ++ [a])[i]? = some b
              have hil : i < (W.ρ.take m).length := by
                have := (List.getElem?_eq_some_iff.mp h).1
                rw [List.length_take]
                omega
              rw [List.getElem?_append_left hil, List.getElem?_take_of_lt hi]
              exact h⟩
            have k2 := k1.keepS (p := a) (mo := mo) ((k.obj n a mo ha hS).cutD hc2 hb) nF nρ nP
            refine ⟨_, (le0 (some a)).trans Le.more, k2, .ref ?_⟩
            show (W.ρ.take m ++ [a])[m]? = some a
            rw [htake, ← h0, List.getElem?_append_right (Nat.le_refl _), Nat.sub_self]
            rfl
          split at e
          · rename_i xs hS
            split at e
            · rename_i hc
              cases e
              exact fin _ hS hc
            · cases e
          · rename_i kvs hS
            split at e
            · rename_i hc
              cases e
              exact fin _ hS hc
            · cases e
          · cases e
    | _ => cases e
end
end Ly

/-! Ly: defs; the law. -/
set_option autoImplicit false
set_option linter.all false
set_option maxRecDepth 100000
set_option maxHeartbeats 1000000
namespace Ly
open PySem PySem.Spec PyProof.Rows L2
/-- a def of the text as it stands behind the top -/
structure FnF (K : PySem.W.Frag) (mg : Str → Option Value) (x : Str) (fd : Fd) (f : Addr) (fdat : FuncData) (st : Stmt) : Prop where
  fn : C8.Fun K x x st f fdat
  sc : C8.fnScope st = fd.sc
  bd : C8.fnBody st = fd.body
  S : FnScope fd.N fd.ps fd.sc
  mg : mg x = some (.ref f)
  kp : PySem.W.keepIn K (.ref f) = true
  bn : ∀ us : List Value, us.length = fd.ps.length → bindArgs fdat ⟨us, []⟩ = pure (fd.ps.zip us)
structure FnAt (K : PySem.W.Frag) (mg : Str → Option Value) (x : Str) (fd : Fd) : Prop where
  ex : ∃ (f : Addr) (fdat : FuncData) (st : Stmt), FnF K mg x fd f fdat st
/-- what the top has made -/
structure ModOk (μ : Md) (G : Gl) : Prop where
  cst : ∀ x d, G.cst.lookup x = some d → ∃ v u, μ.mg x = some u ∧ RelV v u ∧ ∀ W, Rep μ W v d
  blt : ∀ x, G.blt x = true → μ.mg x = none
  fns : ∀ x fd, G.fns.lookup x = some fd → FnAt μ.K μ.mg x fd
theorem start_env {μ : Md} {W : Wd} {N : List Str} {vs : List V} {ds : List D} (r : RepL μ W vs ds) : EnvR μ W (L2.start N vs) (start N ds) := by
  have hl := r.length
  refine ⟨by unfold L2.start start; simp only [List.length_append, List.length_map, List.length_replicate, hl], fun i d h => ?_⟩
  unfold start at h
  by_cases hi : i < ds.length
  · rw [List.getElem?_append_left (by simpa using hi), List.getElem?_map] at h
    cases hd : ds[i]? with
    | none => rw [hd] at h; cases h
    | some d' =>
      rw [hd] at h
      cases h
      obtain ⟨v, hv, rv⟩ := r.get hd
      refine ⟨v, ?_, rv⟩
      unfold L2.start
      rw [List.getElem?_append_left (by rw [List.length_map, hl]; exact hi), List.getElem?_map, hv]
      rfl
  · rw [List.getElem?_append_right (by simpa using hi), List.getElem?_replicate] at h
    split at h <;> cases h
section
variable {P : Program} {w : World} {K : PySem.W.Frag} {mg : Str → Option Value} {base : Heap} {G : Gl} {fuel : Nat}
theorem fns_ok (M : ModOk ⟨w, K, mg⟩ G) : ∀ (k : Nat) (x : Str) (fd : Fd), G.fns.lookup x = some fd → ∀ (f : Addr) (fdat : FuncData) (st : Stmt), FnF K mg x fd f fdat st → FnOk P w K mg base CX0 k f fdat fd.ps (SpF ⟨w, K, mg⟩ G fuel k x)
  | 0, x, fd, hx, f, fdat, st, _ => ⟨fun vs H Q E ⟨B, W, S, ds, keep, _, _, _, _, h⟩ => h.elim, fun A outer s H args us vs Q E _ _ _ _ ⟨B, W, S, ds, keep, _, _, _, _, h⟩ => h.elim⟩
  | k + 1, x, fd, hx, f, fdat, st, ⟨F, hsc, hbd, S, hm, hk, hb⟩ => by
    refine C8.fn0 F (by rw [hsc]; exact S) (fun vs H Q E ⟨B, W, S, ds, keep, _, _, _, ⟨fd', h1, h2⟩, _⟩ => ?_) fun cdv A outer s H vs Q E hr h => ?_
    · rw [hx] at h1
      cases h1
      exact h2.symm
    · obtain ⟨B, W, Sto0, ds, keep, kW, rl, hlen, ⟨fd', h1, h2⟩, h⟩ := h
      rw [hx] at h1
      cases h1
      let c : Cfg := ⟨G, callF G fuel k, fd.N, Sto0.length, fuel⟩
      have hB : ∀ b ∈ B, b ≤ Sto0.length := fun b hb => (kW.below b hb).1
      refine ⟨TSt ⟨w, K, mg⟩ (Sto0.length :: B) fun ρ => execs (exec c 40 fd.sc) fd.body ρ, ?_, ?_⟩
      · rw [hbd]
        have O : XOk (cxOf CX0 P w K mg base fd.N x (C8.fnScope st) f cdv A outer s H E).nox (Sto0.length :: B) c fd.sc := {
          scope := hsc
          N := rfl
          nd := S.nd
          calm := rfl
          hh := hr.hd
          units := by
            have := hr.un
            show (A.deeper (envOfC x (C8.fnScope st) s.heap.objs.size f cdv)).units + 200 < cLine
            omega
          kind := S.kind
          cst := M.cst
          blt := M.blt
          fns := fun y fd hy => by
            obtain ⟨f, fdat, st, F⟩ := (M.fns y fd hy).ex
            exact ⟨f, F.mg⟩
          call := ⟨k, fuel, rfl, hr, fun y fd hy => by
            obtain ⟨f, fdat, st, F⟩ := (M.fns y fd hy).ex
            exact ⟨f, fdat, F.mg, F.kp, .all F.bn, fns_ok M k y fd hy f fdat st F⟩⟩
          base := fun m hm => by
            rcases List.mem_cons.mp hm with rfl | hm
            · exact Nat.le_refl _
            · exact hB m hm }
        have T : TgOk (cxOf CX0 P w K mg base fd.N x (C8.fnScope st) f cdv A outer s H E).nox fd.sc fd.sc := ⟨fun _ _ _ h => h, fun _ _ => rfl⟩
        exact execs_ok (f := exec c 40 fd.sc) fun s' _ => exec_ok 40 _ _ O T PassesOwn.never s'
      · refine ⟨W, Sto0, start fd.N ds, kW.mark, start_env rl, ?_⟩
        have e0 : callF G fuel (k + 1) keep x ds Sto0 = bnd (execs (exec c 40 fd.sc) fd.body (start fd.N ds)) (fun o => match o with
            | .nx _ => leave keep Sto0.length .non
            | .rt d => leave keep Sto0.length d) Sto0 := by
          have e1 : callF G fuel (k + 1) keep x ds = (match G.fns.lookup x with
            | none => stuck
            | some fd => if ds.length == fd.ps.length then fun S =>
                bnd (execs (exec ⟨G, callF G fuel k, fd.N, S.length, fuel⟩ 40 fd.sc) fd.body (start fd.N ds)) (fun o => match o with
                  | .nx _ => leave keep S.length .non
                  | .rt d => leave keep S.length d) S
              else stuck) := rfl
          rw [e1, hx]
          dsimp only
          rw [if_pos (by rw [beq_iff_eq, hlen, h2])]
        rw [e0] at h
        unfold bnd at h
        show PostS _ _ _ _ (execs (exec c 40 fd.sc) fd.body (start fd.N ds) Sto0)
        cases q : execs (exec c 40 fd.sc) fd.body (start fd.N ds) Sto0 with
        | ok o S1 =>
          rw [q] at h
          have fin : ∀ {d : D} {W' : Wd} {v : V} {H' : Hp}, Le W W' → Wok ⟨w, K, mg⟩ (Sto0.length :: B) W' H' S1 → Rep ⟨w, K, mg⟩ W' v d → (match leave keep Sto0.length d S1 with
              | .ok d S' => ∀ W' v H', Le W W' → Wok ⟨w, K, mg⟩ B W' H' S' → Rep ⟨w, K, mg⟩ W' v d → Q v H'
              | _ => False) → Q v H' := fun {d W' v H'} l k' r h => by
            cases hl : leave keep Sto0.length d S1 with
            | ok d' S' =>
              rw [hl] at h
              obtain ⟨W2, l2, k2, r2⟩ := leave_ok l kW.len k' hB r hl
              exact h W2 v H' l2 k2 r2
            | exc _ _ _ => rw [hl] at h; exact h.elim
            | no => rw [hl] at h; exact h.elim
          cases o with
          | nx ρ' => exact fun W' σ' H' l k' e' => fin l k' .non h
          | rt d => exact fun W' v H' l k' r => fin l k' r h
        | exc _ _ _ => rw [q] at h; exact h.elim
        | no => rw [q] at h; exact h.elim
end
/-! ### the law -/
/-- the plain law, as the evaluator tells it -/
def LawOk (G : Gl) (fuel k n : Nat) (x : Str) : Prop := ∀ ns : List Int, ns.length ≤ n → ∃ S', callF G fuel k false x [.set (ns.map .int)] [] = .ok (.bl true) S'
theorem repL_ints {μ : Md} {W : Wd} : ∀ ns : List Int, RepL μ W (ns.map V.int) (ns.map D.int)
  | [] => .nil
  | i :: ns => .cons (.int i) (repL_ints ns)
theorem law_sp {w : World} {K : PySem.W.Frag} {mg : Str → Option Value} {G : Gl} {fuel k n : Nat} {x p : Str} {fd : Fd} {H : Hp} {a : Addr} {ns : List Int} {E : XK} (L : LawOk G fuel k n x) (hx : G.fns.lookup x = some fd) (hp : fd.ps = [p]) (hl : ns.length ≤ n) (hO : Only H) (hS : SqL K H a (ns.map V.int)) :
    SpF ⟨w, K, mg⟩ G fuel k x [.ref a] H (fun v _ => v = .bl true) E := by
  let F : Hp := fun b => match H b with
    | some (.frz _ (.lst xs)) => some (.lst xs)
    | _ => none
  have hF : ∀ b o, F b = some o → ∃ xs, o = .lst xs ∧ Rd H b (.lst xs) := fun b o h => by
    have h : (match H b with
      | some (.frz _ (.lst xs)) => some (.lst xs)
      | _ => none) = some o := h
    rcases hO b with q | ⟨u, xs, q⟩
    · rw [q] at h; cases h
    · rw [q] at h
      cases h
      exact ⟨xs, rfl, .inr ⟨u, q⟩⟩
  have hSF : SqL K F a (ns.map V.int) := by
    rcases hS with (h | ⟨o, h⟩) | h
    · rcases hO a with q | ⟨u, xs, q⟩ <;> rw [q] at h <;> cases h
    · refine .inl (.inl ?_)
      show (match H a with
        | some (.frz _ (.lst xs)) => some (HO.lst xs)
        | _ => none) = _
      rw [h]
    · exact .inr h
  let W : Wd := ⟨F, [], []⟩
  have kW : Wok ⟨w, K, mg⟩ [] W H [] := by
    refine ⟨fun b o h => ?_, fun b ob o h => ?_, rfl, fun n a mo h _ => ?_, fun n a h => ?_, List.nodup_nil, fun p o h => ?_, List.nodup_nil, fun b hb => ?_⟩
    · obtain ⟨xs, e, r⟩ := hF b o h
      subst e
      exact r
    · obtain ⟨xs, e, _⟩ := hF b _ h
      cases e
    · exact absurd h (by simp [W])
    · exact absurd h (by simp [W])
    · exact absurd h (by simp [W])
    · exact absurd hb (by simp)
  obtain ⟨S', hc⟩ := L ns hl
  refine ⟨[], W, [], [.set (ns.map .int)], false, kW, .cons (.scr hSF (repL_ints ns)) .nil, rfl, ⟨fd, hx, by rw [hp]; rfl⟩, ?_⟩
  rw [hc]
  intro W' v H' _ _ r
  cases r
  rfl
/-- the walk of a law -/
theorem walk {l : PySem.W.OpenLaw} {n k fuel : Nat} {q : Program} {loose : List Str} {XP : (Str → Option Value) → Heap → Prop} {YP : World → Heap → Prop} {d : DefRec} {K : Params → PySem.W.Frag} {G : Gl} {fd : Fd} {p : Str} (hn : l.most = some n) (hn2 : n ≤ sizeLine) (hr : Room k callerA) (hdf : d.params.defaults = [])
    (hx : G.fns.lookup d.name = some fd) (hp : fd.ps = [p]) (L : LawOk G fuel k n d.name)
    (hY : ∀ (w : World) (h : Heap), YP w h → (K w.params).In h)
    (F : ∀ (w : World) (mg : Str → Option Value) (fa : Addr) (h : Heap), (K w.params).In h → h.Ns mainGlobals mg → mg d.name = some (.ref fa) → ModOk ⟨w, K w.params, mg⟩ G) :
    PySem.W.WalkO q loose XP YP l.row.toRowW d [] (fun f vs => PySem.call f vs) := by
  refine Att.attach_call hn hdf fun w s₀ s₁ mg mb fa o pm cd doc a vs ns G' Y ho hd hcd hmg hobj hints hlen hg => ?_
  have KX := hY w _ Y
  have M := F w mg fa _ KX G'.T.g hmg
  obtain ⟨f, fdat, st, Ff⟩ := (M.fns d.name fd hx).ex
  have hm : mg d.name = some (.ref f) := Ff.mg
  rw [hmg] at hm
  cases hm
  have hb := Ff.bn
  have hFn : ∀ base : Heap, (K w.params).In base → base.Ns mainGlobals mg → FnOk l.prog w (K w.params) mg base CX0 k fa fdat [p] (SpF ⟨w, K w.params, mg⟩ G fuel k d.name) := fun base _ _ => by
    have := fns_ok (P := l.prog) (base := base) (fuel := fuel) M k d.name fd hx fa fdat st Ff
    rw [hp] at this
    exact this
  rw [hp] at hb
  exact law_call KX G'.T.g G'.T.b G'.T.builtins G'.T.nolimit hg hobj hints (Nat.le_trans hlen hn2) hr hFn (fun s u => .of_eq (hb [u] rfl)) (fun H hO hS => law_sp L hx hp hlen hO hS) fun H e s' h => h.elim
end Ly

/-! Ly: the module's facts, from what the written part of the heap shows. -/
set_option autoImplicit false
set_option linter.all false
set_option maxRecDepth 100000
set_option maxHeartbeats 1000000
namespace Ly
open PySem PySem.Spec PyProof.Rows L2
section
variable {w : World} {K : PySem.W.Frag} {mg : Str → Option Value} {h : Heap}
theorem fn_at {x : Str} {st : Stmt} {N ps : List Str} {f : Addr} {oc : Value} {od an : Option Addr} {osl : Array (Option Value)} {kV doc pm cdv ct : Value} (X : K.In h) (G : h.Ns mainGlobals mg) (a : PySem.W.nsIn K mainGlobals x = some (some (.ref f)))
    (l : K.lookup f = some ⟨oc, od, .func (PySem.W.fnOf x x (C8.fnArgs st) (C8.fnBody st) (C8.fnScope st) .none kV doc pm an cdv ct), osl⟩) (c : PySem.W.codeIn K cdv x = true) (k : PySem.W.keepIn K (.ref f) = true) (S : FnScope N ps (C8.fnScope st))
    (hb : ∀ (kV doc pm : Value) (an : Option Addr) (cdv ct : Value) (us : List Value), us.length = ps.length → bindArgs (PySem.W.fnOf x x (C8.fnArgs st) (C8.fnBody st) (C8.fnScope st) .none kV doc pm an cdv ct) ⟨us, []⟩ = pure (ps.zip us)) : FnAt K mg x ⟨ps, N, C8.fnBody st, C8.fnScope st⟩ :=
  ⟨f, _, st, ⟨⟨oc, od, .none, kV, doc, pm, an, cdv, ct, osl, rfl, l, c⟩, rfl, rfl, S, PySem.W.mg_of X G a, k, hb kV doc pm an cdv ct⟩⟩
def CstAt (w : World) (K : PySem.W.Frag) (mg : Str → Option Value) (x : Str) (d : D) : Prop := ∃ v u, mg x = some u ∧ RelV v u ∧ ∀ W, Rep ⟨w, K, mg⟩ W v d
theorem c_int {x : Str} {i : Int} {t : Tok} (X : K.In h) (G : h.Ns mainGlobals mg) (a : PySem.W.nsIn K mainGlobals x = some (some (.int i t))) : CstAt w K mg x (.int i) := ⟨.int i, _, PySem.W.mg_of X G a, ⟨t, rfl⟩, fun _ => .int i⟩
theorem c_str {x i : Str} {t : Tok} (X : K.In h) (G : h.Ns mainGlobals mg) (a : PySem.W.nsIn K mainGlobals x = some (some (.str i t))) : CstAt w K mg x (.str i) := ⟨.str i, _, PySem.W.mg_of X G a, ⟨t, rfl⟩, fun _ => .str i⟩
theorem repL_strs {μ : Md} {W : Wd} : ∀ xs : List Str, RepL μ W (xs.map V.str) (xs.map D.str)
  | [] => .nil
  | i :: ns => .cons (.str i) (repL_strs ns)
theorem c_tupS {x : Str} {p : Addr} {od : Option Addr} {us : List Value} {n : Nat} {sl : Array (Option Value)} (xs : List Str) (X : K.In h) (G : h.Ns mainGlobals mg) (a : PySem.W.nsIn K mainGlobals x = some (some (.ref p))) (l : K.lookup p = some ⟨.type "tuple", od, .seq us.toArray n, sl⟩) (hz : xs.length ≤ 1000) (hv : Vals (xs.map V.str) us) : CstAt w K mg x (.tup (xs.map .str)) :=
  ⟨.ref p, _, PySem.W.mg_of X G a, rfl, fun W => .tup (.inr ⟨_, us.toArray, n, l, rfl, rfl, by rw [List.size_toArray, ← hv.length, List.length_map]; exact small_line hz, by simpa using hv⟩) (repL_strs xs)⟩
theorem b_non {x : Str} (X : K.In h) (G : h.Ns mainGlobals mg) (a : PySem.W.nsIn K mainGlobals x = some none) : mg x = none := PySem.W.mg_none_of X G a
def AllC (w : World) (K : PySem.W.Frag) (mg : Str → Option Value) : List (Str × D) → Prop
  | [] => True
  | p :: r => CstAt w K mg p.1 p.2 ∧ AllC w K mg r
def AllF (K : PySem.W.Frag) (mg : Str → Option Value) : List (Str × Fd) → Prop
  | [] => True
  | p :: r => FnAt K mg p.1 p.2 ∧ AllF K mg r
def AllB (mg : Str → Option Value) : List Str → Prop
  | [] => True
  | x :: r => mg x = none ∧ AllB mg r
theorem lookup_mem {α : Type} : ∀ {l : List (Str × α)} {x : Str} {d : α}, l.lookup x = some d → (x, d) ∈ l
  | [], _, _, h => by simp at h
  | (y, e) :: l, x, d, h => by
    rw [List.lookup_cons] at h
    split at h
    · rename_i hb
      cases eq_of_beq hb
      cases h
      exact List.mem_cons_self
    · exact List.mem_cons_of_mem _ (lookup_mem h)
theorem AllC.at {l : List (Str × D)} (a : AllC w K mg l) : ∀ x d, (x, d) ∈ l → CstAt w K mg x d := by
  induction l with
  | nil => intro x d h; cases h
  | cons p l ih =>
    intro x d h
    rcases List.mem_cons.mp h with h | h
    · cases h; exact a.1
    · exact ih a.2 x d h
theorem AllF.at {l : List (Str × Fd)} (a : AllF K mg l) : ∀ x d, (x, d) ∈ l → FnAt K mg x d := by
  induction l with
  | nil => intro x d h; cases h
  | cons p l ih =>
    intro x d h
    rcases List.mem_cons.mp h with h | h
    · cases h; exact a.1
    · exact ih a.2 x d h
theorem AllB.at {l : List Str} (a : AllB mg l) : ∀ x ∈ l, mg x = none := by
  induction l with
  | nil => intro x h; cases h
  | cons p l ih =>
    intro x h
    rcases List.mem_cons.mp h with h | h
    · cases h; exact a.1
    · exact ih a.2 x h
theorem mod_by {G : Gl} (c : AllC w K mg G.cst) (f : AllF K mg G.fns) (b : AllB mg G.blts) : ModOk ⟨w, K, mg⟩ G := ⟨fun x d h => c.at x d (lookup_mem h), fun x h => by
  obtain ⟨y, hy, e⟩ := List.any_eq_true.mp h
  rw [← seq_eq e]
  exact b.at y hy, fun x fd h => f.at x fd (lookup_mem h)⟩
end
end Ly

/-! Ly: words for defs printed as plain functions. -/
set_option autoImplicit false
namespace Ly
open PySem
def runF (keep : Bool) (b : Nat → M Fl) : M D := fun S => bnd (b S.length) (fun o => match o with
  | .nx _ => leave keep S.length .non
  | .rt d => leave keep S.length d) S
def seqK (k : Env → M Fl) (o : Fl) : M Fl := match o with
  | .nx ρ => k ρ
  | .rt d => ret (.rt d)
def intK (d : D) : M (Option Int) := match d with
  | .int i => ret (some i)
  | _ => stuck
def rngK (ds : List D) : M Src := match rangeD ds with
  | some xs => ret ⟨xs, []⟩
  | none => stuck
def binB (m : Bool) (op : Operator) (x y : D) : M D := viewed x fun x' => viewed y fun y' => match binD op x' y' with
  | some d => if isList d then fresh m d else ret d
  | none => stuck
def newB (m : Bool) (o : Option D) : M D := match o with
  | some d => if isList d then fresh m d else ret d
  | none => stuck
def biB (m : Bool) (f : Str) (args : List D) : M D := fun S => match biD f (args.map (view S)) with
  | some d => if isList d || isDct d then fresh m d S else .ok d S
  | none => .no
def asgG (t : Tg) (d : D) (ρ : Env) : M Fl := match bindG 4 t d ρ with
  | some ρ' => ret (.nx ρ')
  | none => stuck
def tgS (xs : List Str) : Scope := ⟨.function, xs.map fun x => (x, .local), false, false, []⟩
end Ly

/-! Ly: running plain defs: what steps answer on data at hand. -/
set_option autoImplicit false
set_option linter.all false
set_option maxRecDepth 100000
namespace Ly
open PySem PySem.Spec PyProof.Rows L2
theorem bnd_at {α β : Type} {m : M α} {f : α → M β} {S S1 : Sto} {a : α} (h : m S = .ok a S1) : bnd m f S = f a S1 := by
  unfold bnd
  rw [h]
theorem ret_at {α : Type} (a : α) (S : Sto) : ret a S = .ok a S := rfl
theorem lt_int (a b : Int) : PySem.W.dataLt (.int a) (.int b) = decide (a < b) := by
  have h := congrFun (congrFun (PySem.W.dataLe_int (fun i : Int => i)) b) a
  rw [PySem.W.dataLe_eq] at h
  have h : (!PySem.W.dataLt (.int a) (.int b)) = decide (b ≤ a) := h
  by_cases hab : a < b
  · rw [decide_eq_true hab]
    rw [decide_eq_false (by omega)] at h
    simpa using h
  · rw [decide_eq_false hab]
    rw [decide_eq_true (by omega)] at h
    simpa using h
theorem ltD_int (a b : Int) : ltD (.int a) (.int b) = some (decide (a < b)) := by
  rw [← lt_int]
  rfl
theorem eqD_int (a b : Int) : eqD (.int a) (.int b) = some (a == b) := by
  first | rfl | (unfold eqD; rfl)
theorem closed_view {S : Sto} {d : D} (h : closedD d = true) : view S d = d := by
  cases d <;> first | rfl | (simp [closedD] at h)
mutual
theorem closed_frz {S : Sto} {m : Nat} : ∀ {d : D}, closedD d = true → frzD S m d = some d
  | .non, _ => rfl
  | .bl _, _ => rfl
  | .int _, _ => rfl
  | .str _, _ => rfl
  | .fn _, _ => rfl
  | .ref _, h => by simp [closedD] at h
  | .tup xs, h => by
    simp only [closedD] at h
    simp only [frzD, closed_frzL h]
    rfl
  | .lst xs, h => by
    simp only [closedD] at h
    simp only [frzD, closed_frzL h]
    rfl
  | .dct xs, h => by
    simp only [closedD] at h
    simp only [frzD, h, if_true]
  | .set xs, h => by
    simp only [closedD] at h
    simp only [frzD, h, if_true]
theorem closed_frzL {S : Sto} {m : Nat} : ∀ {xs : List D}, closedL xs = true → frzL S m xs = some xs
  | [], _ => rfl
  | x :: xs, h => by
    simp only [closedL, Bool.and_eq_true] at h
    simp only [frzL, closed_frz h.1, closed_frzL h.2]
end
/-- a def that hands back data -/
theorem runF_data {b : Nat → M Fl} {S S1 : Sto} {d : D} (h : b S.length S = .ok (.rt d) S1) (hc : closedD d = true) : runF false b S = .ok d (S1.take S.length) := by
  unfold runF bnd
  rw [h]
  show leave false S.length d S1 = _
  show (match frzD S1 S.length d with
    | some d' => Out.ok d' (S1.take S.length)
    | none => .no) = _
  rw [closed_frz hc]
theorem runF_none {b : Nat → M Fl} {S S1 : Sto} {ρ : Env} (h : b S.length S = .ok (.nx ρ) S1) : runF false b S = .ok .non (S1.take S.length) := by
  unfold runF bnd
  rw [h]
  rfl
theorem take_self {S : Sto} {n : Nat} (h : n = S.length) : S.take n = S := by subst h; exact List.take_length
/-! ### what needs nothing of the store -/
def Val {α : Type} (m : M α) (a : α) : Prop := ∀ S, m S = .ok a S
theorem Val.at {α β : Type} {m : M α} {a : α} {f : α → M β} {S : Sto} (h : Val m a) : bnd m f S = f a S := bnd_at (h S)
theorem Val.bnd {α β : Type} {m : M α} {a : α} {f : α → M β} {b : β} (h : Val m a) (g : Val (f a) b) : Val (bnd m f) b := fun S => by
  rw [h.at]
  exact g S
theorem guard0 (S : Sto) : guardM [] S = .ok () S := rfl
theorem compLoop_val {β : Type} {body : D → M (List β)} {g : D → List β} : ∀ (xs : List D), (∀ x ∈ xs, Val (body x) (g x)) → Val (compLoop (guardM []) body xs) (xs.flatMap g)
  | [], _ => fun S => rfl
  | x :: xs, h => fun S => by
    have h1 := h x List.mem_cons_self
    have h2 := compLoop_val (body := body) (g := g) xs fun y hy => h y (List.mem_cons_of_mem _ hy)
    show Ly.bnd (guardM []) (fun _ => Ly.bnd (body x) fun ys => Ly.bnd (compLoop (guardM []) body xs) fun zs => Ly.ret (ys ++ zs)) S = _
    rw [bnd_at (guard0 S), h1.at, h2.at, List.flatMap_cons]
    rfl
/-- a def whose body needs nothing of the store -/
theorem runF_val {b : Nat → M Fl} {d : D} (h : ∀ n, Val (b n) (.rt d)) (hc : closedD d = true) : Val (runF false b) d := fun S => by
  rw [runF_data (h _ S) hc, take_self rfl]
/-! ### what draws from the cup, which stands at place 0 -/
def CupS (S : Sto) : Prop := ∃ c0 c1 : Int, S[0]? = some (.lst [.int c0, .int c1])
def Drawn (S S' : Sto) : Prop := ∃ c0 c1 : Int, S' = S.set 0 (.lst [.int c0, .int c1])
theorem CupS.self {S : Sto} (h : CupS S) : Drawn S S := by
  obtain ⟨c0, c1, h⟩ := h
  refine ⟨c0, c1, ?_⟩
  cases S with
  | nil => simp at h
  | cons x S =>
    simp only [List.getElem?_cons_zero, Option.some.injEq] at h
    subst h
    rfl
theorem Drawn.cup {S S' : Sto} (h : CupS S) (d : Drawn S S') : CupS S' := by
  obtain ⟨c0, c1, h⟩ := h
  obtain ⟨e0, e1, rfl⟩ := d
  exact ⟨e0, e1, List.getElem?_set_self (List.getElem?_eq_some_iff.mp h).1⟩
theorem Drawn.trans {S S1 S2 : Sto} (a : Drawn S S1) (b : Drawn S1 S2) : Drawn S S2 := by
  obtain ⟨c0, c1, rfl⟩ := a
  obtain ⟨e0, e1, rfl⟩ := b
  exact ⟨e0, e1, by rw [List.set_set]⟩
theorem Drawn.len {S S' : Sto} (d : Drawn S S') : S'.length = S.length := by
  obtain ⟨c0, c1, rfl⟩ := d
  exact List.length_set ..
/-- it answers something that P holds of; only the cup has changed -/
def Gen {α : Type} (m : M α) (P : α → Prop) : Prop := ∀ S, CupS S → ∃ a S', P a ∧ Drawn S S' ∧ m S = .ok a S'
theorem Val.gen {α : Type} {m : M α} {a : α} {P : α → Prop} (h : Val m a) (p : P a) : Gen m P := fun S hS => ⟨a, S, p, hS.self, h S⟩
theorem Gen.bnd {α β : Type} {m : M α} {f : α → M β} {P : α → Prop} {Q : β → Prop} (h : Gen m P) (g : ∀ a, P a → Gen (f a) Q) : Gen (bnd m f) Q := fun S hS => by
  obtain ⟨a, S1, p, d, e⟩ := h S hS
  obtain ⟨b, S2, q, d2, e2⟩ := g a p S1 (d.cup hS)
  exact ⟨b, S2, q, d.trans d2, by rw [bnd_at e, e2]⟩
theorem Gen.mono {α : Type} {m : M α} {P Q : α → Prop} (h : Gen m P) (i : ∀ a, P a → Q a) : Gen m Q := fun S hS => by
  obtain ⟨a, S1, p, d, e⟩ := h S hS
  exact ⟨a, S1, i a p, d, e⟩
theorem Gen.ret {α : Type} {a : α} {P : α → Prop} (p : P a) : Gen (Ly.ret a) P := fun S hS => ⟨a, S, p, hS.self, rfl⟩
theorem compLoop_gen {β : Type} {body : D → M (List β)} {P : β → Prop} : ∀ (xs : List D), (∀ x ∈ xs, Gen (body x) fun ys => ∃ y, ys = [y] ∧ P y) → Gen (compLoop (guardM []) body xs) fun ys => ys.length = xs.length ∧ ∀ y ∈ ys, P y
  | [], _ => Gen.ret ⟨rfl, fun y hy => by cases hy⟩
  | x :: xs, h => by
    have h1 := h x List.mem_cons_self
    have h2 := compLoop_gen (body := body) (P := P) xs fun y hy => h y (List.mem_cons_of_mem _ hy)
    show Gen (Ly.bnd (guardM []) (fun _ => Ly.bnd (body x) fun ys => Ly.bnd (compLoop (guardM []) body xs) fun zs => Ly.ret (ys ++ zs))) _
    refine Gen.bnd (P := fun _ => True) (fun S hS => ⟨(), S, trivial, hS.self, rfl⟩) fun _ _ => Gen.bnd h1 fun ys ⟨y, hy, py⟩ => Gen.bnd h2 fun zs ⟨hz, pz⟩ => ?_
    subst hy
    refine Gen.ret ⟨by rw [List.length_append, List.length_cons, hz]; simp; omega, fun z hz => ?_⟩
    rcases List.mem_append.mp hz with hz | hz
    · rw [List.mem_singleton.mp hz]; exact py
    · exact pz z hz
/-- a def that draws and hands back data -/
theorem runF_gen {b : Nat → M Fl} {P : D → Prop} (h : ∀ n, Gen (b n) fun f => ∃ d, f = .rt d ∧ closedD d = true ∧ P d) : Gen (runF false b) P := fun S hS => by
  obtain ⟨f, S1, ⟨d, rfl, hc, p⟩, dr, e⟩ := h S.length S hS
  refine ⟨d, S1, p, dr, ?_⟩
  rw [runF_data e hc, take_self dr.len.symm]
theorem ret_bnd {α β : Type} (a : α) (f : α → M β) : bnd (Ly.ret a) f = f a := (rfl)
theorem bnd_bnd {α β γ : Type} (m : M α) (f : α → M β) (g : β → M γ) : bnd (bnd m f) g = bnd m fun x => bnd (f x) g := funext fun S => bnd_assoc m f g S
theorem Gen.eq {α : Type} {m m' : M α} {P : α → Prop} (h : Gen m' P) (e : m = m') : Gen m P := e ▸ h
theorem len_lst (m : Bool) (xs : List D) : biB m "len" [.lst xs] = Ly.ret (.int xs.length) := by funext S; rfl
theorem len_tup (m : Bool) (xs : List D) : biB m "len" [.tup xs] = Ly.ret (.int xs.length) := by funext S; rfl
theorem item_lst (xs : List D) (i : Int) : itemM (.lst xs) (.int i) = ofOp (L2.atI xs i) := by funext S; rfl
theorem item_tup (xs : List D) (i : Int) : itemM (.tup xs) (.int i) = ofOp (L2.atI xs i) := by funext S; rfl
theorem atI_in {xs : List D} {i : Int} (h0 : 0 ≤ i) (h1 : i < xs.length) : ∃ d, L2.atI xs i = some d ∧ d ∈ xs := by
  unfold L2.atI L2.ixN
  rw [if_pos h0, if_pos h1]
  have hl : i.toNat < xs.length := by omega
  exact ⟨xs[i.toNat], by show xs[i.toNat]? = _; rw [List.getElem?_eq_getElem hl], List.getElem_mem hl⟩
theorem closedL_mem : ∀ {xs : List D}, closedL xs = true → ∀ d ∈ xs, closedD d = true
  | x :: xs, h, d, hd => by
    simp only [closedL, Bool.and_eq_true] at h
    rcases List.mem_cons.mp hd with rfl | hd
    · exact h.1
    · exact closedL_mem h.2 d hd
theorem fresh_f (d : D) : Ly.fresh false d = Ly.ret d := (rfl)
theorem rng1 (r : Int) (h0 : 0 ≤ r) (h1 : r < 1000000) : rngK [.int r] = Ly.ret ⟨upTo 0 r.toNat, []⟩ := by
  have hb : (big r && decide (r.toNat ≤ line)) = true := by
    unfold big line
    simp only [Bool.and_eq_true, decide_eq_true_eq]
    omega
  show (match (if big r && decide (r.toNat ≤ line) then some (upTo 0 r.toNat) else none) with
    | some xs => Ly.ret (⟨xs, []⟩ : Src)
    | none => Ly.stuck) = _
  rw [if_pos hb]
theorem upTo_len (lo : Int) (n : Nat) : (upTo lo n).length = n := by unfold upTo; rw [List.length_map, List.length_range]
theorem tup_lst (m : Bool) (xs : List D) : biB m "tuple" [.lst xs] = Ly.ret (.tup xs) := by funext S; rfl
theorem tup_tup (m : Bool) (xs : List D) : biB m "tuple" [.tup xs] = Ly.ret (.tup xs) := by funext S; rfl
/-! ### an object at the store's end -/
theorem at_end (S0 : Sto) (mo : MO) : (S0 ++ [mo])[S0.length]? = some mo := by rw [List.getElem?_append_right (Nat.le_refl _), Nat.sub_self]; rfl
theorem set_end (S0 : Sto) (mo mo' : MO) : (S0 ++ [mo]).set S0.length mo' = S0 ++ [mo'] := by
  rw [List.set_append_right _ _ (Nat.le_refl _), Nat.sub_self]
  rfl
theorem view_end (S0 : Sto) (xs : List D) : view (S0 ++ [.lst xs]) (.ref S0.length) = .lst xs := by
  unfold view
  dsimp only
  rw [at_end]
theorem pre_end (S0 : Sto) (xs : List D) : preM "append" 1 (.ref S0.length) (S0 ++ [.lst xs]) = .ok () (S0 ++ [.lst xs]) := by
  have e0 : preM "append" 1 (.ref S0.length) = lstM (.ref S0.length) := if_pos (by rfl)
  rw [e0]
  unfold lstM
  dsimp only
  rw [at_end]
theorem app_end (c : Cfg) (S0 : Sto) (xs : List D) (x : D) (hl : xs.length < line) (hc : closedD x = true) : meM c "append" (.ref S0.length) [x] (S0 ++ [.lst xs]) = .ok .non (S0 ++ [.lst (xs ++ [x])]) := by
  have e0 : meM c "append" (.ref S0.length) [x] = appM c.base (.ref S0.length) x := if_pos (by rfl)
  rw [e0]
  unfold appM
  dsimp only
  rw [at_end]
  dsimp only
  have hm : (mayHold c.base S0.length x && decide (xs.length < line)) = true := by
    unfold mayHold
    rw [hc, Bool.or_true, decide_eq_true hl]
    rfl
  rw [if_pos hm, set_end]
theorem new_end (S0 : Sto) (xs : List D) : Ly.fresh true (.lst xs) S0 = .ok (.ref S0.length) (S0 ++ [.lst xs]) := rfl
/-- a loop by an invariant -/
theorem for_run {body : D → Env → M Fl} {I : Nat → Env → Sto → Prop} : ∀ (items : List D) (j : Nat) {ρ : Env} {S : Sto}, I j ρ S → (∀ i x ρ S, items[i]? = some x → I (j + i) ρ S → ∃ ρ' S', body x ρ S = .ok (.nx ρ') S' ∧ I (j + i + 1) ρ' S') → ∃ ρ' S', forLoop (guardM []) body items ρ S = .ok (.nx ρ') S' ∧ I (j + items.length) ρ' S'
  | [], j, ρ, S, h0, _ => ⟨ρ, S, rfl, h0⟩
  | x :: xs, j, ρ, S, h0, step => by
    obtain ⟨ρ1, S1, e1, h1⟩ := step 0 x ρ S rfl h0
    obtain ⟨ρ2, S2, e2, h2⟩ := for_run (body := body) (I := I) xs (j + 1) h1 fun i y ρ S hy hi => by
      obtain ⟨ρ', S', e, h⟩ := step (i + 1) y ρ S (by simpa using hy) (by rw [Nat.add_assoc, Nat.add_comm 1 i] at hi; exact hi)
      exact ⟨ρ', S', e, by rw [Nat.add_assoc j 1 i, Nat.add_comm 1 i]; exact h⟩
    refine ⟨ρ2, S2, ?_, by rw [List.length_cons, Nat.add_comm xs.length 1, ← Nat.add_assoc]; exact h2⟩
    show Ly.bnd (guardM []) (fun _ => Ly.bnd (body x ρ) fun o => match o with
      | .nx ρ' => forLoop (guardM []) body xs ρ'
      | .rt d => Ly.ret (.rt d)) S = _
    rw [bnd_at (guard0 S), bnd_at e1]
    exact e2
theorem for_ex {γ : Type} {body : D → Env → M Fl} {K : Fl → M γ} (P : Out γ → Prop) (I : Nat → Env → Sto → Prop) {items : List D} {ρ : Env} {S : Sto} (h0 : I 0 ρ S) (step : ∀ i x ρ S, items[i]? = some x → I i ρ S → ∃ ρ' S', body x ρ S = .ok (.nx ρ') S' ∧ I (i + 1) ρ' S')
    (k : ∀ ρ' S', I items.length ρ' S' → P (K (.nx ρ') S')) : P (bnd (forLoop (guardM []) body items ρ) K S) := by
  obtain ⟨ρ', S', e, h⟩ := for_run (body := body) (I := I) items 0 h0 fun i x ρ S hx hi => by
    rw [Nat.zero_add] at hi ⊢
    exact step i x ρ S hx hi
  rw [Nat.zero_add] at h
  rw [bnd_at e]
  exact k ρ' S' h
end Ly

set_option maxRecDepth 100000
set_option linter.all false
namespace k85
open PySem PySem.Spec PyProof.Rows L2 Ly
def topS (i : Nat) : Stmt := PySem.Challenge.pw_layersheld_k85_whole_order_and_spans.main.body.getD i (.Pass ⟨0, 0, 0, 0⟩)
def gl : Ly.Gl where
  cst := [
    (("LETTERS" : Str), .str ("abcdefghijklmnopqrstuvwxyz" : Str)),
    (("DIGITS" : Str), .str ("0123456789" : Str)),
    (("NUMBER" : Str), .int (9999)),
    (("WORDS" : Str), .int (3)),
    (("WORD" : Str), .int (8)),
    (("PARTS" : Str), .int (6)),
    (("CONDITIONS" : Str), .int (4)),
    (("KINDS" : Str), .tup [.str (">=" : Str), .str (">" : Str), .str ("<=" : Str), .str ("<" : Str), .str ("=" : Str), .str ("~" : Str), .str ("^" : Str)])]
  fns := [
    (("is_whole" : Str), ⟨[("value" : Str), ("low" : Str), ("high" : Str)], [("value" : Str), ("low" : Str), ("high" : Str)], C8.fnBody (topS 7), C8.fnScope (topS 7)⟩),
    (("is_tuple_of" : Str), ⟨[("value" : Str), ("low" : Str), ("high" : Str)], [("value" : Str), ("low" : Str), ("high" : Str)], C8.fnBody (topS 8), C8.fnScope (topS 8)⟩),
    (("fits_word" : Str), ⟨[("value" : Str)], [("value" : Str), ("sign" : Str)], C8.fnBody (topS 16), C8.fnScope (topS 16)⟩),
    (("fits_version" : Str), ⟨[("value" : Str)], [("value" : Str), ("one" : Str)], C8.fnBody (topS 17), C8.fnScope (topS 17)⟩),
    (("fits_condition" : Str), ⟨[("value" : Str)], [("value" : Str)], C8.fnBody (topS 18), C8.fnScope (topS 18)⟩),
    (("fits_range" : Str), ⟨[("value" : Str)], [("value" : Str), ("part" : Str), ("one" : Str)], C8.fnBody (topS 19), C8.fnScope (topS 19)⟩),
    (("need_version" : Str), ⟨[("version" : Str)], [("version" : Str)], C8.fnBody (topS 20), C8.fnScope (topS 20)⟩),
    (("need_range" : Str), ⟨[("spread" : Str)], [("spread" : Str)], C8.fnBody (topS 21), C8.fnScope (topS 21)⟩),
    (("rank_of" : Str), ⟨[("version" : Str)], [("version" : Str), ("words" : Str), ("word" : Str), ("sign" : Str)], C8.fnBody (topS 22), C8.fnScope (topS 22)⟩),
    (("holds" : Str), ⟨[("condition" : Str), ("version" : Str)], [("condition" : Str), ("version" : Str), ("table" : Str), ("sign" : Str), ("due" : Str), ("size" : Str), ("one" : Str), ("other" : Str)], C8.fnBody (topS 23), C8.fnScope (topS 23)⟩),
    (("fits_in" : Str), ⟨[("spread" : Str), ("version" : Str)], [("spread" : Str), ("version" : Str), ("part" : Str), ("one" : Str)], C8.fnBody (topS 24), C8.fnScope (topS 24)⟩),
    (("ends_of" : Str), ⟨[("condition" : Str)], [("condition" : Str), ("rows" : Str), ("sign" : Str), ("version" : Str), ("low" : Str), ("high" : Str), ("rank" : Str), ("size" : Str)], C8.fnBody (topS 25), C8.fnScope (topS 25)⟩),
    (("spans_in" : Str), ⟨[("spread" : Str)], [("spread" : Str), ("rows" : Str), ("part" : Str), ("found" : Str), ("ends" : Str), ("low" : Str), ("high" : Str), ("one" : Str), ("other" : Str)], C8.fnBody (topS 26), C8.fnScope (topS 26)⟩),
    (("is_before" : Str), ⟨[("one" : Str), ("other" : Str)], [("one" : Str), ("other" : Str)], C8.fnBody (topS 27), C8.fnScope (topS 27)⟩),
    (("is_in" : Str), ⟨[("spread" : Str), ("version" : Str)], [("spread" : Str), ("version" : Str)], C8.fnBody (topS 28), C8.fnScope (topS 28)⟩),
    (("may_meet" : Str), ⟨[("one" : Str), ("other" : Str)], [("one" : Str), ("other" : Str), ("low" : Str), ("high" : Str), ("least" : Str), ("most" : Str)], C8.fnBody (topS 29), C8.fnScope (topS 29)⟩),
    (("count_spans" : Str), ⟨[("spread" : Str)], [("spread" : Str)], C8.fnBody (topS 30), C8.fnScope (topS 30)⟩),
    (("_law_cup" : Str), ⟨[("script" : Str)], [("script" : Str), ("cell" : Str)], C8.fnBody (topS 32), C8.fnScope (topS 32)⟩),
    (("_law_roll" : Str), ⟨[("cup" : Str), ("many" : Str)], [("cup" : Str), ("many" : Str), ("deep" : Str), ("found" : Str)], C8.fnBody (topS 33), C8.fnScope (topS 33)⟩),
    (("_law_same" : Str), ⟨[("told" : Str), ("due" : Str)], [("told" : Str), ("due" : Str), ("at" : Str)], C8.fnBody (topS 34), C8.fnScope (topS 34)⟩),
    (("_law_some" : Str), ⟨[("cup" : Str), ("things" : Str)], [("cup" : Str), ("things" : Str)], C8.fnBody (topS 35), C8.fnScope (topS 35)⟩),
    (("_law_version" : Str), ⟨[("cup" : Str)], [("cup" : Str), ("words" : Str), ("turn" : Str)], C8.fnBody (topS 36), C8.fnScope (topS 36)⟩),
    (("_law_condition" : Str), ⟨[("cup" : Str)], [("cup" : Str), ("sign" : Str), ("version" : Str)], C8.fnBody (topS 37), C8.fnScope (topS 37)⟩),
    (("_law_range" : Str), ⟨[("cup" : Str), ("most" : Str)], [("cup" : Str), ("most" : Str), ("part" : Str), ("turn" : Str)], C8.fnBody (topS 38), C8.fnScope (topS 38)⟩),
    (("_law_key" : Str), ⟨[("version" : Str)], [("version" : Str), ("words" : Str), ("word" : Str), ("is_digits" : Str), ("sign" : Str)], C8.fnBody (topS 39), C8.fnScope (topS 39)⟩),
    (("_law_meets" : Str), ⟨[("condition" : Str), ("version" : Str)], [("condition" : Str), ("version" : Str), ("sign" : Str), ("due" : Str), ("one" : Str), ("other" : Str)], C8.fnBody (topS 40), C8.fnScope (topS 40)⟩),
    (("_law_is_in" : Str), ⟨[("spread" : Str), ("version" : Str)], [("spread" : Str), ("version" : Str), ("part" : Str), ("one" : Str)], C8.fnBody (topS 41), C8.fnScope (topS 41)⟩),
    (("_law_ends" : Str), ⟨[("condition" : Str)], [("condition" : Str), ("sign" : Str), ("version" : Str), ("low" : Str), ("high" : Str), ("key" : Str), ("ahead" : Str), ("behind" : Str)], C8.fnBody (topS 42), C8.fnScope (topS 42)⟩),
    (("_law_spans" : Str), ⟨[("spread" : Str)], [("spread" : Str), ("part" : Str), ("rows" : Str), ("found" : Str), ("ends" : Str), ("low" : Str), ("high" : Str), ("one" : Str), ("other" : Str)], C8.fnBody (topS 43), C8.fnScope (topS 43)⟩),
    (("_law_right" : Str), ⟨[("cup" : Str)], [("cup" : Str), ("due" : Str), ("near" : Str), ("part" : Str), ("meets" : Str), ("version" : Str), ("one" : Str), ("other" : Str), ("third" : Str), ("spread" : Str), ("far" : Str), ("spans" : Str), ("mine" : Str), ("low" : Str), ("high" : Str), ("is_so" : Str), ("key" : Str), ("sign" : Str), ("least" : Str), ("most" : Str)], C8.fnBody (topS 44), C8.fnScope (topS 44)⟩),
    (("law" : Str), ⟨[("script" : Str)], [("script" : Str), ("cup" : Str), ("turn" : Str), ("lone" : Str), ("rows" : Str), ("first" : Str), ("versions" : Str), ("at" : Str), ("told" : Str), ("low" : Str), ("high" : Str), ("words" : Str), ("own" : Str)], C8.fnBody (topS 45), C8.fnScope (topS 45)⟩)]
  blts := [("len" : Str), ("int" : Str), ("str" : Str), ("abs" : Str), ("sum" : Str), ("all" : Str), ("any" : Str), ("max" : Str), ("min" : Str), ("tuple" : Str), ("list" : Str), ("sorted" : Str), ("isinstance" : Str), ("bool" : Str), ("range" : Str)]
  muts := [⟨68, 11, 68, 13⟩, ⟨73, 12, 73, 14⟩, ⟨101, 11, 101, 94⟩, ⟨133, 12, 133, 14⟩, ⟨156, 23, 156, 25⟩, ⟨192, 10, 192, 26⟩]
def s_is_whole (cal : Bool → Str → List D → M D) (p_value p_low p_high : D) (base : Nat) : M Fl :=
  (fun (NN : List Str) (r0 : Ly.Env) => bnd (bnd (bnd (bnd (getv r0 0) fun d16 => viewed d16 fun d17 => ofOp ((isaD ("int" : Str) d17).map D.bl)) fun v3 => bnd (truM v3) fun t4 => cond t4 (bnd (bnd (bnd (getv r0 0) fun d14 => viewed d14 fun d15 => ofOp ((isaD ("bool" : Str) d15).map D.bl)) fun d12 => bnd (truM d12) fun b13 => ret (D.bl !b13)) fun v5 => bnd (truM v5) fun t6 => cond t6 (bnd (getv r0 1) fun x7 => bnd (bnd (getv r0 0) fun y9 => bnd (cmpM .LtE x7 y9) fun b10 => if b10 then (bnd (getv r0 2) fun z11 => cmpM .LtE y9 z11) else ret false) fun b8 => ret (D.bl b8)) (ret v5)) (ret v3)) fun d2 => ret (Fl.rt d2)) (seqK fun r1 => ret (Fl.nx r1))) [("value" : Str), ("low" : Str), ("high" : Str)] [some p_value, some p_low, some p_high]
theorem e_is_whole (k : Nat) (keep : Bool) (p_value p_low p_high : D) : callF gl 10000 (k + 1) keep ("is_whole" : Str) [p_value, p_low, p_high] = runF keep (s_is_whole (callF gl 10000 k) p_value p_low p_high) := by kernel_rfl
def s_is_tuple_of (cal : Bool → Str → List D → M D) (p_value p_low p_high : D) (base : Nat) : M Fl :=
  (fun (NN : List Str) (r0 : Ly.Env) => bnd (bnd (bnd (bnd (getv r0 0) fun d12 => viewed d12 fun d13 => ofOp ((isaD ("tuple" : Str) d13).map D.bl)) fun v3 => bnd (truM v3) fun t4 => cond t4 (bnd (getv r0 1) fun x5 => bnd (bnd (bnd (bnd (getv r0 0) fun x10 => bnd (ret []) fun xs11 => ret (x10 :: xs11)) (biB false ("len" : Str))) fun y7 => bnd (cmpM .LtE x5 y7) fun b8 => if b8 then (bnd (getv r0 2) fun z9 => cmpM .LtE y7 z9) else ret false) fun b6 => ret (D.bl b6)) (ret v3)) fun d2 => ret (Fl.rt d2)) (seqK fun r1 => ret (Fl.nx r1))) [("value" : Str), ("low" : Str), ("high" : Str)] [some p_value, some p_low, some p_high]
theorem e_is_tuple_of (k : Nat) (keep : Bool) (p_value p_low p_high : D) : callF gl 10000 (k + 1) keep ("is_tuple_of" : Str) [p_value, p_low, p_high] = runF keep (s_is_tuple_of (callF gl 10000 k) p_value p_low p_high) := by kernel_rfl
def s_fits_word (cal : Bool → Str → List D → M D) (p_value : D) (base : Nat) : M Fl :=
  (fun (NN : List Str) (r0 : Ly.Env) => bnd (bnd (bnd (bnd (bnd (bnd (getv r0 0) fun d12 => viewed d12 fun d13 => ofOp ((isaD ("str" : Str) d13).map D.bl)) truM) fun b11 => ret (!b11)) fun t3 => cond t3 (ret t3) (bnd (bnd (ret (.int (1) : D)) fun x5 => bnd (bnd (bnd (getv r0 0) fun x9 => bnd (ret []) fun xs10 => ret (x9 :: xs10)) (biB false ("len" : Str))) fun y6 => bnd (cmpM .LtE x5 y6) fun b7 => if b7 then (bnd (ret (.int (8) : D)) fun z8 => cmpM .LtE y6 z8) else ret false) fun b4 => ret (!b4))) fun k2 => if k2 then (bnd (bnd (ret (.bl false : D)) fun d15 => ret (Fl.rt d15)) (seqK fun r14 => ret (Fl.nx r14))) else (ret (Fl.nx r0))) (seqK fun r1 => bnd (bnd (bnd (bnd (bnd (bnd (bnd (bnd (bnd (getv r1 0) itemsOf) fun s22 => compLoop (guardM s22.refs) (fun x23 => (fun r24 => bnd (ret true) fun b25 => if b25 then (bnd (bnd (getv r24 1) fun x27 => bnd (bnd (bnd (ret (.str ("abcdefghijklmnopqrstuvwxyz" : Str) : D)) fun x30 => bnd (ret (.str ("0123456789" : Str) : D)) fun y31 => binB false .Add x30 y31) fun y29 => cmpM .In x27 y29) fun b28 => ret (D.bl b28)) fun y26 => ret [y26]) else ret []) (List.set (Ly.wipe r1 [1]) 1 (some x23))) s22.items) fun xs21 => if xs21.length ≤ line then fresh false (D.lst xs21) else stuck) fun x19 => bnd (ret []) fun xs20 => ret (x19 :: xs20)) (biB false ("all" : Str))) truM) fun b18 => ret (!b18)) fun k17 => if k17 then (bnd (bnd (ret (.bl false : D)) fun d33 => ret (Fl.rt d33)) (seqK fun r32 => ret (Fl.nx r32))) else (ret (Fl.nx r1))) (seqK fun r16 => bnd (bnd (bnd (bnd (bnd (getv r16 0) fun x58 => bnd (ret (.int (0) : D)) fun y59 => itemM x58 y59) fun x56 => bnd (bnd (ret (.str ("0" : Str) : D)) fun y60 => cmpM .NotEq x56 y60) fun b57 => ret (D.bl b57)) fun v36 => bnd (truM v36) fun t37 => cond t37 (ret v36) (bnd (bnd (getv r16 0) fun x53 => bnd (bnd (ret (.str ("0" : Str) : D)) fun y55 => cmpM .Eq x53 y55) fun b54 => ret (D.bl b54)) fun v38 => bnd (truM v38) fun t39 => cond t39 (ret v38) (bnd (bnd (bnd (bnd (bnd (bnd (getv r16 0) itemsOf) fun s45 => compLoop (guardM s45.refs) (fun x46 => (fun r47 => bnd (ret true) fun b48 => if b48 then (bnd (bnd (getv r47 1) fun x50 => bnd (bnd (ret (.str ("0123456789" : Str) : D)) fun y52 => cmpM .In x50 y52) fun b51 => ret (D.bl b51)) fun y49 => ret [y49]) else ret []) (List.set (Ly.wipe r16 [1]) 1 (some x46))) s45.items) fun xs44 => if xs44.length ≤ line then fresh false (D.lst xs44) else stuck) fun x42 => bnd (ret []) fun xs43 => ret (x42 :: xs43)) (biB false ("all" : Str))) fun d40 => bnd (truM d40) fun b41 => ret (D.bl !b41)))) fun d35 => ret (Fl.rt d35)) (seqK fun r34 => ret (Fl.nx r34))))) [("value" : Str), ("sign" : Str)] [some p_value, none]
theorem e_fits_word (k : Nat) (keep : Bool) (p_value : D) : callF gl 10000 (k + 1) keep ("fits_word" : Str) [p_value] = runF keep (s_fits_word (callF gl 10000 k) p_value) := by kernel_rfl
def s_fits_version (cal : Bool → Str → List D → M D) (p_value : D) (base : Nat) : M Fl :=
  (fun (NN : List Str) (r0 : Ly.Env) => bnd (bnd (bnd (bnd (bnd (bnd (bnd (getv r0 0) fun x24 => bnd (bnd (ret (.int (4) : D)) fun x26 => bnd (bnd (ret (.int (4) : D)) fun x28 => bnd (ret []) fun xs29 => ret (x28 :: xs29)) fun xs27 => ret (x26 :: xs27)) fun xs25 => ret (x24 :: xs25)) (cal false ("is_tuple_of" : Str))) truM) fun b23 => ret (!b23)) fun t3 => cond t3 (ret t3) (bnd (bnd (bnd (bnd (bnd (bnd (bnd (bnd (getv r0 0) fun x10 => bnd (ret none) fun l11 => bnd (bnd (ret (.int (3) : D)) intK) fun h12 => viewed x10 fun x13 => newB false (cutD l11 h12 x13)) itemsOf) fun s8 => compLoop (guardM s8.refs) (fun x9 => (fun r14 => bnd (ret true) fun b15 => if b15 then (bnd (bnd (bnd (getv r14 1) fun x17 => bnd (bnd (ret (.int (0) : D)) fun x19 => bnd (bnd (ret (.int (9999) : D)) fun x21 => bnd (ret []) fun xs22 => ret (x21 :: xs22)) fun xs20 => ret (x19 :: xs20)) fun xs18 => ret (x17 :: xs18)) (cal false ("is_whole" : Str))) fun y16 => ret [y16]) else ret []) (List.set (Ly.wipe r0 [1]) 1 (some x9))) s8.items) fun xs7 => if xs7.length ≤ line then fresh false (D.lst xs7) else stuck) fun x5 => bnd (ret []) fun xs6 => ret (x5 :: xs6)) (biB false ("all" : Str))) truM) fun b4 => ret (!b4))) fun k2 => if k2 then (bnd (bnd (ret (.bl false : D)) fun d31 => ret (Fl.rt d31)) (seqK fun r30 => ret (Fl.nx r30))) else (ret (Fl.nx r0))) (seqK fun r1 => bnd (bnd (bnd (bnd (bnd (bnd (getv r1 0) fun x50 => bnd (ret (.int (3) : D)) fun y51 => itemM x50 y51) fun x48 => bnd (bnd (ret (.int (0) : D)) fun x52 => bnd (bnd (ret (.int (3) : D)) fun x54 => bnd (ret []) fun xs55 => ret (x54 :: xs55)) fun xs53 => ret (x52 :: xs53)) fun xs49 => ret (x48 :: xs49)) (cal false ("is_tuple_of" : Str))) fun v34 => bnd (truM v34) fun t35 => cond t35 (bnd (bnd (bnd (bnd (bnd (bnd (getv r1 0) fun x41 => bnd (ret (.int (3) : D)) fun y42 => itemM x41 y42) itemsOf) fun s39 => compLoop (guardM s39.refs) (fun x40 => (fun r43 => bnd (ret true) fun b44 => if b44 then (bnd (bnd (bnd (getv r43 1) fun x46 => bnd (ret []) fun xs47 => ret (x46 :: xs47)) (cal false ("fits_word" : Str))) fun y45 => ret [y45]) else ret []) (List.set (Ly.wipe r1 [1]) 1 (some x40))) s39.items) fun xs38 => if xs38.length ≤ line then fresh false (D.lst xs38) else stuck) fun x36 => bnd (ret []) fun xs37 => ret (x36 :: xs37)) (biB false ("all" : Str))) (ret v34)) fun d33 => ret (Fl.rt d33)) (seqK fun r32 => ret (Fl.nx r32)))) [("value" : Str), ("one" : Str)] [some p_value, none]
theorem e_fits_version (k : Nat) (keep : Bool) (p_value : D) : callF gl 10000 (k + 1) keep ("fits_version" : Str) [p_value] = runF keep (s_fits_version (callF gl 10000 k) p_value) := by kernel_rfl
def s_fits_condition (cal : Bool → Str → List D → M D) (p_value : D) (base : Nat) : M Fl :=
  (fun (NN : List Str) (r0 : Ly.Env) => bnd (bnd (bnd (bnd (bnd (bnd (bnd (getv r0 0) fun x16 => bnd (bnd (ret (.int (2) : D)) fun x18 => bnd (bnd (ret (.int (2) : D)) fun x20 => bnd (ret []) fun xs21 => ret (x20 :: xs21)) fun xs19 => ret (x18 :: xs19)) fun xs17 => ret (x16 :: xs17)) (cal false ("is_tuple_of" : Str))) truM) fun b15 => ret (!b15)) fun t3 => cond t3 (ret t3) (bnd (bnd (bnd (bnd (bnd (getv r0 0) fun x13 => bnd (ret (.int (0) : D)) fun y14 => itemM x13 y14) fun d11 => viewed d11 fun d12 => ofOp ((isaD ("str" : Str) d12).map D.bl)) truM) fun b10 => ret (!b10)) fun t4 => cond t4 (ret t4) (bnd (bnd (bnd (bnd (bnd (getv r0 0) fun x8 => bnd (ret (.int (1) : D)) fun y9 => itemM x8 y9) fun x6 => bnd (ret []) fun xs7 => ret (x6 :: xs7)) (cal false ("fits_version" : Str))) truM) fun b5 => ret (!b5)))) fun k2 => if k2 then (bnd (bnd (ret (.bl false : D)) fun d23 => ret (Fl.rt d23)) (seqK fun r22 => ret (Fl.nx r22))) else (ret (Fl.nx r0))) (seqK fun r1 => bnd (bnd (bnd (bnd (bnd (getv r1 0) fun x50 => bnd (ret (.int (0) : D)) fun y51 => itemM x50 y51) fun x48 => bnd (bnd (ret (.tup [.str (">=" : Str), .str (">" : Str), .str ("<=" : Str), .str ("<" : Str), .str ("=" : Str), .str ("~" : Str), .str ("^" : Str)] : D)) fun y52 => cmpM .In x48 y52) fun b49 => ret (D.bl b49)) fun v26 => bnd (truM v26) fun t27 => cond t27 (bnd (bnd (bnd (getv r1 0) fun x40 => bnd (ret (.int (0) : D)) fun y41 => itemM x40 y41) fun x38 => bnd (bnd (bnd (bnd (ret (.str ("~" : Str) : D)) fun x44 => bnd (bnd (ret (.str ("^" : Str) : D)) fun x46 => bnd (ret []) fun xs47 => ret (x46 :: xs47)) fun xs45 => ret (x44 :: xs45)) fun xs43 => ret (D.tup xs43)) fun y42 => cmpM .NotIn x38 y42) fun b39 => ret (D.bl b39)) fun v28 => bnd (truM v28) fun t29 => cond t29 (ret v28) (bnd (bnd (bnd (getv r1 0) fun x34 => bnd (ret (.int (1) : D)) fun y35 => itemM x34 y35) fun x32 => bnd (ret (.int (3) : D)) fun y33 => itemM x32 y33) fun x30 => bnd (bnd (bnd (ret []) fun xs37 => ret (D.tup xs37)) fun y36 => cmpM .Eq x30 y36) fun b31 => ret (D.bl b31))) (ret v26)) fun d25 => ret (Fl.rt d25)) (seqK fun r24 => ret (Fl.nx r24)))) [("value" : Str)] [some p_value]
theorem e_fits_condition (k : Nat) (keep : Bool) (p_value : D) : callF gl 10000 (k + 1) keep ("fits_condition" : Str) [p_value] = runF keep (s_fits_condition (callF gl 10000 k) p_value) := by kernel_rfl
def s_fits_range (cal : Bool → Str → List D → M D) (p_value : D) (base : Nat) : M Fl :=
  (fun (NN : List Str) (r0 : Ly.Env) => bnd (bnd (bnd (bnd (bnd (bnd (bnd (getv r0 0) fun x20 => bnd (bnd (ret (.int (0) : D)) fun x22 => bnd (bnd (ret (.int (6) : D)) fun x24 => bnd (ret []) fun xs25 => ret (x24 :: xs25)) fun xs23 => ret (x22 :: xs23)) fun xs21 => ret (x20 :: xs21)) (cal false ("is_tuple_of" : Str))) truM) fun b19 => ret (!b19)) fun t3 => cond t3 (ret t3) (bnd (bnd (bnd (bnd (bnd (bnd (bnd (getv r0 0) itemsOf) fun s8 => compLoop (guardM s8.refs) (fun x9 => (fun r10 => bnd (ret true) fun b11 => if b11 then (bnd (bnd (bnd (getv r10 2) fun x13 => bnd (bnd (ret (.int (0) : D)) fun x15 => bnd (bnd (ret (.int (4) : D)) fun x17 => bnd (ret []) fun xs18 => ret (x17 :: xs18)) fun xs16 => ret (x15 :: xs16)) fun xs14 => ret (x13 :: xs14)) (cal false ("is_tuple_of" : Str))) fun y12 => ret [y12]) else ret []) (List.set (Ly.wipe r0 [2]) 2 (some x9))) s8.items) fun xs7 => if xs7.length ≤ line then fresh false (D.lst xs7) else stuck) fun x5 => bnd (ret []) fun xs6 => ret (x5 :: xs6)) (biB false ("all" : Str))) truM) fun b4 => ret (!b4))) fun k2 => if k2 then (bnd (bnd (ret (.bl false : D)) fun d27 => ret (Fl.rt d27)) (seqK fun r26 => ret (Fl.nx r26))) else (ret (Fl.nx r0))) (seqK fun r1 => bnd (bnd (bnd (bnd (bnd (bnd (bnd (getv r1 0) itemsOf) fun s33 => compLoop (guardM s33.refs) (fun x34 => (fun r35 => bnd (ret true) fun b36 => if b36 then (bnd (bnd (getv r35 1) itemsOf) fun s37 => compLoop (guardM s37.refs) (fun x38 => (fun r39 => bnd (ret true) fun b40 => if b40 then (bnd (bnd (bnd (getv r39 2) fun x42 => bnd (ret []) fun xs43 => ret (x42 :: xs43)) (cal false ("fits_condition" : Str))) fun y41 => ret [y41]) else ret []) (List.set (Ly.wipe r35 [2]) 2 (some x38))) s37.items) else ret []) (List.set (Ly.wipe r1 [1, 2]) 1 (some x34))) s33.items) fun xs32 => if xs32.length ≤ line then fresh false (D.lst xs32) else stuck) fun x30 => bnd (ret []) fun xs31 => ret (x30 :: xs31)) (biB false ("all" : Str))) fun d29 => ret (Fl.rt d29)) (seqK fun r28 => ret (Fl.nx r28)))) [("value" : Str), ("part" : Str), ("one" : Str)] [some p_value, none, none]
theorem e_fits_range (k : Nat) (keep : Bool) (p_value : D) : callF gl 10000 (k + 1) keep ("fits_range" : Str) [p_value] = runF keep (s_fits_range (callF gl 10000 k) p_value) := by kernel_rfl
def s_need_version (cal : Bool → Str → List D → M D) (p_version : D) (base : Nat) : M Fl :=
  (fun (NN : List Str) (r0 : Ly.Env) => bnd (bnd (bnd (bnd (bnd (bnd (getv r0 0) fun x4 => bnd (ret []) fun xs5 => ret (x4 :: xs5)) (cal false ("fits_version" : Str))) truM) fun b3 => ret (!b3)) fun k2 => if k2 then (bnd (stuck) (seqK fun r6 => ret (Fl.nx r6))) else (ret (Fl.nx r0))) (seqK fun r1 => ret (Fl.nx r1))) [("version" : Str)] [some p_version]
theorem e_need_version (k : Nat) (keep : Bool) (p_version : D) : callF gl 10000 (k + 1) keep ("need_version" : Str) [p_version] = runF keep (s_need_version (callF gl 10000 k) p_version) := by kernel_rfl
def s_need_range (cal : Bool → Str → List D → M D) (p_spread : D) (base : Nat) : M Fl :=
  (fun (NN : List Str) (r0 : Ly.Env) => bnd (bnd (bnd (bnd (bnd (bnd (getv r0 0) fun x4 => bnd (ret []) fun xs5 => ret (x4 :: xs5)) (cal false ("fits_range" : Str))) truM) fun b3 => ret (!b3)) fun k2 => if k2 then (bnd (stuck) (seqK fun r6 => ret (Fl.nx r6))) else (ret (Fl.nx r0))) (seqK fun r1 => ret (Fl.nx r1))) [("spread" : Str)] [some p_spread]
theorem e_need_range (k : Nat) (keep : Bool) (p_spread : D) : callF gl 10000 (k + 1) keep ("need_range" : Str) [p_spread] = runF keep (s_need_range (callF gl 10000 k) p_spread) := by kernel_rfl
def s_rank_of (cal : Bool → Str → List D → M D) (p_version : D) (base : Nat) : M Fl :=
  (fun (NN : List Str) (r0 : Ly.Env) => bnd (bnd (bnd (bnd (bnd (bnd (getv r0 0) fun x6 => bnd (ret (.int (3) : D)) fun y7 => itemM x6 y7) itemsOf) fun s4 => compLoop (guardM s4.refs) (fun x5 => (fun r8 => bnd (ret true) fun b9 => if b9 then (bnd (bnd (bnd (bnd (bnd (bnd (bnd (bnd (getv r8 2) itemsOf) fun s15 => compLoop (guardM s15.refs) (fun x16 => (fun r17 => bnd (ret true) fun b18 => if b18 then (bnd (bnd (getv r17 3) fun x20 => bnd (bnd (ret (.str ("0123456789" : Str) : D)) fun y22 => cmpM .In x20 y22) fun b21 => ret (D.bl b21)) fun y19 => ret [y19]) else ret []) (List.set (Ly.wipe r8 [3]) 3 (some x16))) s15.items) fun xs14 => if xs14.length ≤ line then fresh false (D.lst xs14) else stuck) fun x12 => bnd (ret []) fun xs13 => ret (x12 :: xs13)) (biB false ("all" : Str))) truM) fun k11 => if k11 then bnd (bnd (ret (.int (0) : D)) fun x24 => bnd (bnd (bnd (bnd (getv r8 2) fun x28 => bnd (ret []) fun xs29 => ret (x28 :: xs29)) (biB false ("int" : Str))) fun x26 => bnd (bnd (ret (.str ("" : Str) : D)) fun x30 => bnd (ret []) fun xs31 => ret (x30 :: xs31)) fun xs27 => ret (x26 :: xs27)) fun xs25 => ret (x24 :: xs25)) fun xs23 => ret (D.tup xs23) else bnd (bnd (ret (.int (1) : D)) fun x33 => bnd (bnd (ret (.int (0) : D)) fun x35 => bnd (bnd (getv r8 2) fun x37 => bnd (ret []) fun xs38 => ret (x37 :: xs38)) fun xs36 => ret (x35 :: xs36)) fun xs34 => ret (x33 :: xs34)) fun xs32 => ret (D.tup xs32)) fun y10 => ret [y10]) else ret []) (List.set (Ly.wipe r0 [2]) 2 (some x5))) s4.items) fun xs3 => if xs3.length ≤ line then fresh false (D.lst xs3) else stuck) fun d2 => ret (Fl.nx (List.set r0 1 (some d2)))) (seqK fun r1 => bnd (bnd (bnd (bnd (getv r1 0) fun x43 => bnd (ret none) fun l44 => bnd (bnd (ret (.int (3) : D)) intK) fun h45 => viewed x43 fun x46 => newB false (cutD l44 h45 x46)) fun x41 => bnd (bnd (bnd (bnd (bnd (bnd (getv r1 1) fun x52 => bnd (bnd (bnd (ret []) fun xs55 => fresh false (D.lst xs55)) fun y54 => cmpM .Eq x52 y54) fun b53 => ret (D.bl b53)) fun x50 => bnd (ret []) fun xs51 => ret (x50 :: xs51)) (biB false ("int" : Str))) fun x48 => bnd (bnd (bnd (bnd (getv r1 1) fun x58 => bnd (ret []) fun xs59 => ret (x58 :: xs59)) (biB false ("tuple" : Str))) fun x56 => bnd (ret []) fun xs57 => ret (x56 :: xs57)) fun xs49 => ret (x48 :: xs49)) fun xs47 => ret (D.tup xs47)) fun y42 => binB false .Add x41 y42) fun d40 => ret (Fl.rt d40)) (seqK fun r39 => ret (Fl.nx r39)))) [("version" : Str), ("words" : Str), ("word" : Str), ("sign" : Str)] [some p_version, none, none, none]
theorem e_rank_of (k : Nat) (keep : Bool) (p_version : D) : callF gl 10000 (k + 1) keep ("rank_of" : Str) [p_version] = runF keep (s_rank_of (callF gl 10000 k) p_version) := by kernel_rfl
def s_holds (cal : Bool → Str → List D → M D) (p_condition p_version : D) (base : Nat) : M Fl :=
  (fun (NN : List Str) (r0 : Ly.Env) => bnd (bnd (getv r0 0) fun d2 => asgG (Tg.tp [Tg.ix 3, Tg.ix 4]) d2 r0) (seqK fun r1 => bnd (bnd (bnd (getv r1 3) fun x5 => bnd (bnd (bnd (ret (.str ("~" : Str) : D)) fun x8 => bnd (bnd (ret (.str ("^" : Str) : D)) fun x10 => bnd (ret []) fun xs11 => ret (x10 :: xs11)) fun xs9 => ret (x8 :: xs9)) fun xs7 => ret (D.tup xs7)) fun y6 => cmpM .In x5 y6) fun k4 => if k4 then (bnd (bnd (bnd (bnd (getv r1 3) fun x15 => bnd (ret (.str ("~" : Str) : D)) fun y16 => cmpM .Eq x15 y16) fun k14 => if k14 then ret (.int (2) : D) else ret (.int (1) : D)) fun d13 => ret (Fl.nx (List.set r1 5 (some d13)))) (seqK fun r12 => bnd (bnd (bnd (bnd (getv r12 1) fun x21 => bnd (ret none) fun l22 => bnd (bnd (getv r12 5) intK) fun h23 => viewed x21 fun x24 => newB false (cutD l22 h23 x24)) fun x19 => bnd (bnd (bnd (getv r12 4) fun x26 => bnd (ret none) fun l27 => bnd (bnd (getv r12 5) intK) fun h28 => viewed x26 fun x29 => newB false (cutD l27 h28 x29)) fun y25 => cmpM .Eq x19 y25) fun b20 => ret (D.bl b20)) fun d18 => ret (Fl.rt d18)) (seqK fun r17 => ret (Fl.nx r17)))) else (ret (Fl.nx r1))) (seqK fun r3 => bnd (bnd (bnd (bnd (bnd (getv r3 1) fun x34 => bnd (ret []) fun xs35 => ret (x34 :: xs35)) (cal false ("rank_of" : Str))) fun x32 => bnd (bnd (bnd (bnd (getv r3 4) fun x38 => bnd (ret []) fun xs39 => ret (x38 :: xs39)) (cal false ("rank_of" : Str))) fun x36 => bnd (ret []) fun xs37 => ret (x36 :: xs37)) fun xs33 => ret (x32 :: xs33)) fun d31 => asgG (Tg.tp [Tg.ix 6, Tg.ix 7]) (D.tup d31) r3) (seqK fun r30 => bnd (bnd (bnd (bnd (ret (.str (">=" : Str) : D)) fun x43 => bnd (bnd (getv r30 6) fun x46 => bnd (bnd (getv r30 7) fun y48 => cmpM .GtE x46 y48) fun b47 => ret (D.bl b47)) fun y44 => bnd (bnd (ret (.str (">" : Str) : D)) fun x49 => bnd (bnd (getv r30 6) fun x52 => bnd (bnd (getv r30 7) fun y54 => cmpM .Gt x52 y54) fun b53 => ret (D.bl b53)) fun y50 => bnd (bnd (ret (.str ("<=" : Str) : D)) fun x55 => bnd (bnd (getv r30 6) fun x58 => bnd (bnd (getv r30 7) fun y60 => cmpM .LtE x58 y60) fun b59 => ret (D.bl b59)) fun y56 => bnd (bnd (ret (.str ("<" : Str) : D)) fun x61 => bnd (bnd (getv r30 6) fun x64 => bnd (bnd (getv r30 7) fun y66 => cmpM .Lt x64 y66) fun b65 => ret (D.bl b65)) fun y62 => bnd (bnd (ret (.str ("=" : Str) : D)) fun x67 => bnd (bnd (getv r30 6) fun x70 => bnd (bnd (getv r30 7) fun y72 => cmpM .Eq x70 y72) fun b71 => ret (D.bl b71)) fun y68 => bnd (ret []) fun z69 => ret ((x67, y68) :: z69)) fun z63 => ret ((x61, y62) :: z63)) fun z57 => ret ((x55, y56) :: z57)) fun z51 => ret ((x49, y50) :: z51)) fun z45 => ret ((x43, y44) :: z45)) fun ps42 => if ps42.all (fun kv => keyOk kv.1) then fresh false (D.dct (putAll [] ps42)) else stuck) fun d41 => ret (Fl.nx (List.set r30 2 (some d41)))) (seqK fun r40 => bnd (bnd (bnd (getv r40 2) fun x75 => bnd (getv r40 3) fun y76 => itemM x75 y76) fun d74 => ret (Fl.rt d74)) (seqK fun r73 => ret (Fl.nx r73))))))) [("condition" : Str), ("version" : Str), ("table" : Str), ("sign" : Str), ("due" : Str), ("size" : Str), ("one" : Str), ("other" : Str)] [some p_condition, some p_version, none, none, none, none, none, none]
theorem e_holds (k : Nat) (keep : Bool) (p_condition p_version : D) : callF gl 10000 (k + 1) keep ("holds" : Str) [p_condition, p_version] = runF keep (s_holds (callF gl 10000 k) p_condition p_version) := by kernel_rfl
def s_fits_in (cal : Bool → Str → List D → M D) (p_spread p_version : D) (base : Nat) : M Fl :=
  (fun (NN : List Str) (r0 : Ly.Env) => bnd (bnd (bnd (bnd (bnd (bnd (bnd (getv r0 0) itemsOf) fun s6 => compLoop (guardM s6.refs) (fun x7 => (fun r8 => bnd (ret true) fun b9 => if b9 then (bnd (bnd (bnd (bnd (bnd (bnd (getv r8 2) itemsOf) fun s14 => compLoop (guardM s14.refs) (fun x15 => (fun r16 => bnd (ret true) fun b17 => if b17 then (bnd (bnd (bnd (getv r16 3) fun x19 => bnd (bnd (getv r16 1) fun x21 => bnd (ret []) fun xs22 => ret (x21 :: xs22)) fun xs20 => ret (x19 :: xs20)) (cal false ("holds" : Str))) fun y18 => ret [y18]) else ret []) (List.set (Ly.wipe r8 [3]) 3 (some x15))) s14.items) fun xs13 => if xs13.length ≤ line then fresh false (D.lst xs13) else stuck) fun x11 => bnd (ret []) fun xs12 => ret (x11 :: xs12)) (biB false ("all" : Str))) fun y10 => ret [y10]) else ret []) (List.set (Ly.wipe r0 [2]) 2 (some x7))) s6.items) fun xs5 => if xs5.length ≤ line then fresh false (D.lst xs5) else stuck) fun x3 => bnd (ret []) fun xs4 => ret (x3 :: xs4)) (biB false ("any" : Str))) fun d2 => ret (Fl.rt d2)) (seqK fun r1 => ret (Fl.nx r1))) [("spread" : Str), ("version" : Str), ("part" : Str), ("one" : Str)] [some p_spread, some p_version, none, none]
theorem e_fits_in (k : Nat) (keep : Bool) (p_spread p_version : D) : callF gl 10000 (k + 1) keep ("fits_in" : Str) [p_spread, p_version] = runF keep (s_fits_in (callF gl 10000 k) p_spread p_version) := by kernel_rfl
def s_ends_of (cal : Bool → Str → List D → M D) (p_condition : D) (base : Nat) : M Fl :=
  (fun (NN : List Str) (r0 : Ly.Env) => bnd (bnd (getv r0 0) fun d2 => asgG (Tg.tp [Tg.ix 2, Tg.ix 3]) d2 r0) (seqK fun r1 => bnd (bnd (bnd (bnd (bnd (bnd (bnd (bnd (ret (.int (1) : D)) negM) fun x11 => bnd (ret []) fun xs12 => ret (x11 :: xs12)) fun xs10 => ret (D.tup xs10)) fun x8 => bnd (bnd (bnd (ret (.int (1) : D)) negM) fun x13 => bnd (ret []) fun xs14 => ret (x13 :: xs14)) fun xs9 => ret (x8 :: xs9)) fun xs7 => ret (D.tup xs7)) fun x5 => bnd (bnd (bnd (bnd (bnd (bnd (bnd (ret (.int (9999) : D)) fun x23 => bnd (ret (.int (1) : D)) fun y24 => binB false .Add x23 y24) fun x21 => bnd (ret []) fun xs22 => ret (x21 :: xs22)) fun xs20 => ret (D.tup xs20)) fun x18 => bnd (bnd (ret (.int (1) : D)) fun x25 => bnd (ret []) fun xs26 => ret (x25 :: xs26)) fun xs19 => ret (x18 :: xs19)) fun xs17 => ret (D.tup xs17)) fun x15 => bnd (bnd (bnd (bnd (getv r1 3) fun x29 => bnd (ret []) fun xs30 => ret (x29 :: xs30)) (cal false ("rank_of" : Str))) fun x27 => bnd (ret []) fun xs28 => ret (x27 :: xs28)) fun xs16 => ret (x15 :: xs16)) fun xs6 => ret (x5 :: xs6)) fun d4 => asgG (Tg.tp [Tg.ix 4, Tg.ix 5, Tg.ix 6]) (D.tup d4) r1) (seqK fun r3 => bnd (bnd (bnd (getv r3 2) fun x33 => bnd (bnd (bnd (ret (.str ("~" : Str) : D)) fun x36 => bnd (bnd (ret (.str ("^" : Str) : D)) fun x38 => bnd (ret []) fun xs39 => ret (x38 :: xs39)) fun xs37 => ret (x36 :: xs37)) fun xs35 => ret (D.tup xs35)) fun y34 => cmpM .In x33 y34) fun k32 => if k32 then (bnd (bnd (bnd (bnd (getv r3 2) fun x43 => bnd (ret (.str ("~" : Str) : D)) fun y44 => cmpM .Eq x43 y44) fun k42 => if k42 then ret (.int (2) : D) else ret (.int (1) : D)) fun d41 => ret (Fl.nx (List.set r3 7 (some d41)))) (seqK fun r40 => bnd (bnd (bnd (bnd (bnd (bnd (bnd (getv r40 3) fun x53 => bnd (ret none) fun l54 => bnd (bnd (getv r40 7) intK) fun h55 => viewed x53 fun x56 => newB false (cutD l54 h55 x56)) fun x51 => bnd (bnd (bnd (ret (.int (1) : D)) negM) fun x57 => bnd (ret []) fun xs58 => ret (x57 :: xs58)) fun xs52 => ret (x51 :: xs52)) fun xs50 => ret (D.tup xs50)) fun x48 => bnd (bnd (bnd (bnd (bnd (bnd (getv r40 3) fun x66 => bnd (ret none) fun l67 => bnd (bnd (bnd (getv r40 7) fun x70 => bnd (ret (.int (1) : D)) fun y71 => binB false .Sub x70 y71) intK) fun h68 => viewed x66 fun x69 => newB false (cutD l67 h68 x69)) fun x64 => bnd (bnd (bnd (bnd (bnd (getv r40 3) fun x77 => bnd (bnd (getv r40 7) fun x79 => bnd (ret (.int (1) : D)) fun y80 => binB false .Sub x79 y80) fun y78 => itemM x77 y78) fun x75 => bnd (ret (.int (1) : D)) fun y76 => binB false .Add x75 y76) fun x73 => bnd (ret []) fun xs74 => ret (x73 :: xs74)) fun xs72 => ret (D.tup xs72)) fun y65 => binB false .Add x64 y65) fun x62 => bnd (bnd (bnd (ret (.int (1) : D)) negM) fun x81 => bnd (ret []) fun xs82 => ret (x81 :: xs82)) fun xs63 => ret (x62 :: xs63)) fun xs61 => ret (D.tup xs61)) fun x59 => bnd (ret []) fun xs60 => ret (x59 :: xs60)) fun xs49 => ret (x48 :: xs49)) fun xs47 => ret (D.tup xs47)) fun d46 => ret (Fl.rt d46)) (seqK fun r45 => ret (Fl.nx r45)))) else (ret (Fl.nx r3))) (seqK fun r31 => bnd (bnd (bnd (bnd (ret (.str (">=" : Str) : D)) fun x86 => bnd (bnd (bnd (bnd (bnd (getv r31 6) fun x93 => bnd (bnd (bnd (ret (.int (1) : D)) negM) fun x95 => bnd (ret []) fun xs96 => ret (x95 :: xs96)) fun xs94 => ret (x93 :: xs94)) fun xs92 => ret (D.tup xs92)) fun x90 => bnd (bnd (getv r31 5) fun x97 => bnd (ret []) fun xs98 => ret (x97 :: xs98)) fun xs91 => ret (x90 :: xs91)) fun xs89 => ret (D.tup xs89)) fun y87 => bnd (bnd (ret (.str (">" : Str) : D)) fun x99 => bnd (bnd (bnd (bnd (bnd (getv r31 6) fun x106 => bnd (bnd (ret (.int (1) : D)) fun x108 => bnd (ret []) fun xs109 => ret (x108 :: xs109)) fun xs107 => ret (x106 :: xs107)) fun xs105 => ret (D.tup xs105)) fun x103 => bnd (bnd (getv r31 5) fun x110 => bnd (ret []) fun xs111 => ret (x110 :: xs111)) fun xs104 => ret (x103 :: xs104)) fun xs102 => ret (D.tup xs102)) fun y100 => bnd (bnd (ret (.str ("<=" : Str) : D)) fun x112 => bnd (bnd (bnd (getv r31 4) fun x116 => bnd (bnd (bnd (bnd (getv r31 6) fun x121 => bnd (bnd (ret (.int (1) : D)) fun x123 => bnd (ret []) fun xs124 => ret (x123 :: xs124)) fun xs122 => ret (x121 :: xs122)) fun xs120 => ret (D.tup xs120)) fun x118 => bnd (ret []) fun xs119 => ret (x118 :: xs119)) fun xs117 => ret (x116 :: xs117)) fun xs115 => ret (D.tup xs115)) fun y113 => bnd (bnd (ret (.str ("<" : Str) : D)) fun x125 => bnd (bnd (bnd (getv r31 4) fun x129 => bnd (bnd (bnd (bnd (getv r31 6) fun x134 => bnd (bnd (bnd (ret (.int (1) : D)) negM) fun x136 => bnd (ret []) fun xs137 => ret (x136 :: xs137)) fun xs135 => ret (x134 :: xs135)) fun xs133 => ret (D.tup xs133)) fun x131 => bnd (ret []) fun xs132 => ret (x131 :: xs132)) fun xs130 => ret (x129 :: xs130)) fun xs128 => ret (D.tup xs128)) fun y126 => bnd (ret []) fun z127 => ret ((x125, y126) :: z127)) fun z114 => ret ((x112, y113) :: z114)) fun z101 => ret ((x99, y100) :: z101)) fun z88 => ret ((x86, y87) :: z88)) fun ps85 => if ps85.all (fun kv => keyOk kv.1) then fresh false (D.dct (putAll [] ps85)) else stuck) fun d84 => ret (Fl.nx (List.set r31 1 (some d84)))) (seqK fun r83 => bnd (bnd (bnd (getv r83 1) fun d140 => bnd (preM ("get" : Str) 2 d140) fun _ => bnd (bnd (getv r83 2) fun x142 => bnd (bnd (bnd (bnd (bnd (bnd (getv r83 6) fun x150 => bnd (bnd (bnd (ret (.int (1) : D)) negM) fun x152 => bnd (ret []) fun xs153 => ret (x152 :: xs153)) fun xs151 => ret (x150 :: xs151)) fun xs149 => ret (D.tup xs149)) fun x147 => bnd (bnd (bnd (bnd (getv r83 6) fun x157 => bnd (bnd (ret (.int (1) : D)) fun x159 => bnd (ret []) fun xs160 => ret (x159 :: xs160)) fun xs158 => ret (x157 :: xs158)) fun xs156 => ret (D.tup xs156)) fun x154 => bnd (ret []) fun xs155 => ret (x154 :: xs155)) fun xs148 => ret (x147 :: xs148)) fun xs146 => ret (D.tup xs146)) fun x144 => bnd (ret []) fun xs145 => ret (x144 :: xs145)) fun xs143 => ret (x142 :: xs143)) fun xs141 => meM ⟨gl, cal, NN, base, 10000⟩ ("get" : Str) d140 xs141) fun d139 => ret (Fl.rt d139)) (seqK fun r138 => ret (Fl.nx r138))))))) [("condition" : Str), ("rows" : Str), ("sign" : Str), ("version" : Str), ("low" : Str), ("high" : Str), ("rank" : Str), ("size" : Str)] [some p_condition, none, none, none, none, none, none, none]
theorem e_ends_of (k : Nat) (keep : Bool) (p_condition : D) : callF gl 10000 (k + 1) keep ("ends_of" : Str) [p_condition] = runF keep (s_ends_of (callF gl 10000 k) p_condition) := by kernel_rfl
def s_spans_in (cal : Bool → Str → List D → M D) (p_spread : D) (base : Nat) : M Fl :=
  (fun (NN : List Str) (r0 : Ly.Env) => bnd (bnd (bnd (ret []) fun xs3 => fresh true (D.lst xs3)) fun d2 => ret (Fl.nx (List.set r0 1 (some d2)))) (seqK fun r1 => bnd (bnd (bnd (getv r1 0) itemsOf) fun s5 => forLoop (guardM s5.refs) (fun x6 r7 => (fun r8 => bnd (bnd (bnd (bnd (bnd (bnd (getv r8 2) itemsOf) fun s14 => compLoop (guardM s14.refs) (fun x15 => (fun r16 => bnd (ret true) fun b17 => if b17 then (bnd (bnd (bnd (getv r16 7) fun x19 => bnd (ret []) fun xs20 => ret (x19 :: xs20)) (cal false ("ends_of" : Str))) fun y18 => ret [y18]) else ret []) (List.set (Ly.wipe r8 [7]) 7 (some x15))) s14.items) fun xs13 => if xs13.length ≤ line then fresh false (D.lst xs13) else stuck) fun x11 => bnd (bnd (bnd (bnd (bnd (bnd (bnd (bnd (bnd (bnd (ret (.int (1) : D)) negM) fun x31 => bnd (ret []) fun xs32 => ret (x31 :: xs32)) fun xs30 => ret (D.tup xs30)) fun x28 => bnd (bnd (bnd (ret (.int (1) : D)) negM) fun x33 => bnd (ret []) fun xs34 => ret (x33 :: xs34)) fun xs29 => ret (x28 :: xs29)) fun xs27 => ret (D.tup xs27)) fun x25 => bnd (bnd (bnd (bnd (bnd (bnd (bnd (ret (.int (9999) : D)) fun x43 => bnd (ret (.int (1) : D)) fun y44 => binB false .Add x43 y44) fun x41 => bnd (ret []) fun xs42 => ret (x41 :: xs42)) fun xs40 => ret (D.tup xs40)) fun x38 => bnd (bnd (ret (.int (1) : D)) fun x45 => bnd (ret []) fun xs46 => ret (x45 :: xs46)) fun xs39 => ret (x38 :: xs39)) fun xs37 => ret (D.tup xs37)) fun x35 => bnd (ret []) fun xs36 => ret (x35 :: xs36)) fun xs26 => ret (x25 :: xs26)) fun xs24 => ret (D.tup xs24)) fun x22 => bnd (ret []) fun xs23 => ret (x22 :: xs23)) fun xs21 => fresh false (D.lst xs21)) fun y12 => binB false .Add x11 y12) fun d10 => ret (Fl.nx (List.set r8 4 (some d10)))) (seqK fun r9 => bnd (bnd (bnd (bnd (bnd (bnd (bnd (bnd (getv r9 4) itemsOf) fun s54 => compLoop (guardM s54.refs) (fun x55 => onB (bindG 4 (Tg.tp [Tg.ix 7, Tg.ix 8]) x55 (Ly.wipe r9 [7, 8])) fun r56 => bnd (ret true) fun b57 => if b57 then (bnd (getv r56 7) fun y58 => ret [y58]) else ret []) s54.items) fun xs53 => if xs53.length ≤ line then fresh false (D.lst xs53) else stuck) fun x51 => bnd (ret []) fun xs52 => ret (x51 :: xs52)) (biB false ("max" : Str))) fun x49 => bnd (bnd (bnd (bnd (bnd (bnd (bnd (getv r9 4) itemsOf) fun s64 => compLoop (guardM s64.refs) (fun x65 => onB (bindG 4 (Tg.tp [Tg.ix 7, Tg.ix 8]) x65 (Ly.wipe r9 [7, 8])) fun r66 => bnd (ret true) fun b67 => if b67 then (bnd (getv r66 8) fun y68 => ret [y68]) else ret []) s64.items) fun xs63 => if xs63.length ≤ line then fresh false (D.lst xs63) else stuck) fun x61 => bnd (ret []) fun xs62 => ret (x61 :: xs62)) (biB false ("min" : Str))) fun x59 => bnd (ret []) fun xs60 => ret (x59 :: xs60)) fun xs50 => ret (x49 :: xs50)) fun d48 => asgG (Tg.tp [Tg.ix 5, Tg.ix 6]) (D.tup d48) r9) (seqK fun r47 => bnd (bnd (getv r47 1) fun o70 => bnd (bnd (bnd (getv r47 5) fun x74 => bnd (getv r47 6) fun y75 => cmpM .Lt x74 y75) fun k73 => if k73 then bnd (bnd (bnd (bnd (getv r47 5) fun x80 => bnd (bnd (getv r47 6) fun x82 => bnd (ret []) fun xs83 => ret (x82 :: xs83)) fun xs81 => ret (x80 :: xs81)) fun xs79 => ret (D.tup xs79)) fun x77 => bnd (ret []) fun xs78 => ret (x77 :: xs78)) fun xs76 => fresh false (D.lst xs76) else bnd (ret []) fun xs84 => fresh false (D.lst xs84)) fun v71 => bnd (augM ⟨gl, cal, NN, base, 10000⟩ .Add o70 v71) fun d72 => ret (Fl.nx (List.set r47 1 (some d72)))) (seqK fun r69 => ret (Fl.nx r69))))) (List.set r7 2 (some x6))) s5.items r1) (seqK fun r4 => bnd (bnd (bnd (ret []) fun xs87 => fresh true (D.lst xs87)) fun d86 => ret (Fl.nx (List.set r4 3 (some d86)))) (seqK fun r85 => bnd (bnd (bnd (bnd (bnd (getv r85 1) fun x92 => bnd (ret []) fun xs93 => ret (x92 :: xs93)) (biB false ("sorted" : Str))) itemsOf) fun s89 => forLoop (guardM s89.refs) (fun x90 r91 => onB (bindG 4 (Tg.tp [Tg.ix 5, Tg.ix 6]) x90 r91) fun r94 => bnd (bnd (bnd (bnd (getv r94 3) fun x104 => bnd (bnd (ret []) fun xs106 => fresh false (D.lst xs106)) fun y105 => cmpM .NotEq x104 y105) fun t97 => cond t97 (bnd (getv r94 5) fun x98 => bnd (bnd (bnd (getv r94 3) fun x102 => bnd (bnd (ret (.int (1) : D)) negM) fun y103 => itemM x102 y103) fun x100 => bnd (ret (.int (1) : D)) fun y101 => itemM x100 y101) fun y99 => cmpM .LtE x98 y99) (ret t97)) fun k96 => if k96 then (bnd (bnd (bnd (bnd (bnd (bnd (getv r94 3) fun x116 => bnd (bnd (ret (.int (1) : D)) negM) fun y117 => itemM x116 y117) fun x114 => bnd (ret (.int (0) : D)) fun y115 => itemM x114 y115) fun x112 => bnd (bnd (bnd (bnd (bnd (bnd (getv r94 3) fun x124 => bnd (bnd (ret (.int (1) : D)) negM) fun y125 => itemM x124 y125) fun x122 => bnd (ret (.int (1) : D)) fun y123 => itemM x122 y123) fun x120 => bnd (bnd (getv r94 6) fun x126 => bnd (ret []) fun xs127 => ret (x126 :: xs127)) fun xs121 => ret (x120 :: xs121)) (biB false ("max" : Str))) fun x118 => bnd (ret []) fun xs119 => ret (x118 :: xs119)) fun xs113 => ret (x112 :: xs113)) fun xs111 => ret (D.tup xs111)) fun v108 => bnd (getv r94 3) fun x109 => bnd (bnd (ret (.int (1) : D)) negM) fun y110 => bnd (putM base x109 y110 v108) fun _ => ret (Fl.nx r94)) (seqK fun r107 => ret (Fl.nx r107))) else (bnd (bnd (bnd (getv r94 3) fun d129 => bnd (preM ("append" : Str) 1 d129) fun _ => bnd (bnd (bnd (bnd (getv r94 5) fun x134 => bnd (bnd (getv r94 6) fun x136 => bnd (ret []) fun xs137 => ret (x136 :: xs137)) fun xs135 => ret (x134 :: xs135)) fun xs133 => ret (D.tup xs133)) fun x131 => bnd (ret []) fun xs132 => ret (x131 :: xs132)) fun xs130 => meM ⟨gl, cal, NN, base, 10000⟩ ("append" : Str) d129 xs130) fun _ => ret (Fl.nx r94)) (seqK fun r128 => ret (Fl.nx r128)))) (seqK fun r95 => ret (Fl.nx r95))) s89.items r85) (seqK fun r88 => bnd (bnd (getv r88 3) fun d139 => ret (Fl.rt d139)) (seqK fun r138 => ret (Fl.nx r138))))))) [("spread" : Str), ("rows" : Str), ("part" : Str), ("found" : Str), ("ends" : Str), ("low" : Str), ("high" : Str), ("one" : Str), ("other" : Str)] [some p_spread, none, none, none, none, none, none, none, none]
theorem e_spans_in (k : Nat) (keep : Bool) (p_spread : D) : callF gl 10000 (k + 1) keep ("spans_in" : Str) [p_spread] = runF keep (s_spans_in (callF gl 10000 k) p_spread) := by kernel_rfl
def s_is_before (cal : Bool → Str → List D → M D) (p_one p_other : D) (base : Nat) : M Fl :=
  (fun (NN : List Str) (r0 : Ly.Env) => bnd (bnd (bnd (bnd (getv r0 0) fun x2 => bnd (ret []) fun xs3 => ret (x2 :: xs3)) (cal false ("need_version" : Str))) fun _ => ret (Fl.nx r0)) (seqK fun r1 => bnd (bnd (bnd (bnd (getv r1 1) fun x5 => bnd (ret []) fun xs6 => ret (x5 :: xs6)) (cal false ("need_version" : Str))) fun _ => ret (Fl.nx r1)) (seqK fun r4 => bnd (bnd (bnd (bnd (bnd (getv r4 0) fun x11 => bnd (ret []) fun xs12 => ret (x11 :: xs12)) (cal false ("rank_of" : Str))) fun x9 => bnd (bnd (bnd (bnd (getv r4 1) fun x14 => bnd (ret []) fun xs15 => ret (x14 :: xs15)) (cal false ("rank_of" : Str))) fun y13 => cmpM .Lt x9 y13) fun b10 => ret (D.bl b10)) fun d8 => ret (Fl.rt d8)) (seqK fun r7 => ret (Fl.nx r7))))) [("one" : Str), ("other" : Str)] [some p_one, some p_other]
theorem e_is_before (k : Nat) (keep : Bool) (p_one p_other : D) : callF gl 10000 (k + 1) keep ("is_before" : Str) [p_one, p_other] = runF keep (s_is_before (callF gl 10000 k) p_one p_other) := by kernel_rfl
def s_is_in (cal : Bool → Str → List D → M D) (p_spread p_version : D) (base : Nat) : M Fl :=
  (fun (NN : List Str) (r0 : Ly.Env) => bnd (bnd (bnd (bnd (getv r0 0) fun x2 => bnd (ret []) fun xs3 => ret (x2 :: xs3)) (cal false ("need_range" : Str))) fun _ => ret (Fl.nx r0)) (seqK fun r1 => bnd (bnd (bnd (bnd (getv r1 1) fun x5 => bnd (ret []) fun xs6 => ret (x5 :: xs6)) (cal false ("need_version" : Str))) fun _ => ret (Fl.nx r1)) (seqK fun r4 => bnd (bnd (bnd (bnd (getv r4 0) fun x9 => bnd (bnd (getv r4 1) fun x11 => bnd (ret []) fun xs12 => ret (x11 :: xs12)) fun xs10 => ret (x9 :: xs10)) (cal false ("fits_in" : Str))) fun d8 => ret (Fl.rt d8)) (seqK fun r7 => ret (Fl.nx r7))))) [("spread" : Str), ("version" : Str)] [some p_spread, some p_version]
theorem e_is_in (k : Nat) (keep : Bool) (p_spread p_version : D) : callF gl 10000 (k + 1) keep ("is_in" : Str) [p_spread, p_version] = runF keep (s_is_in (callF gl 10000 k) p_spread p_version) := by kernel_rfl
def s_may_meet (cal : Bool → Str → List D → M D) (p_one p_other : D) (base : Nat) : M Fl :=
  (fun (NN : List Str) (r0 : Ly.Env) => bnd (bnd (bnd (bnd (getv r0 0) fun x2 => bnd (ret []) fun xs3 => ret (x2 :: xs3)) (cal false ("need_range" : Str))) fun _ => ret (Fl.nx r0)) (seqK fun r1 => bnd (bnd (bnd (bnd (getv r1 1) fun x5 => bnd (ret []) fun xs6 => ret (x5 :: xs6)) (cal false ("need_range" : Str))) fun _ => ret (Fl.nx r1)) (seqK fun r4 => bnd (bnd (bnd (bnd (bnd (getv r4 0) fun x11 => bnd (ret []) fun xs12 => ret (x11 :: xs12)) (cal false ("spans_in" : Str))) itemsOf) fun s8 => forLoop (guardM s8.refs) (fun x9 r10 => onB (bindG 4 (Tg.tp [Tg.ix 2, Tg.ix 3]) x9 r10) fun r13 => bnd (bnd (bnd (bnd (bnd (bnd (bnd (bnd (bnd (bnd (getv r13 1) fun x21 => bnd (ret []) fun xs22 => ret (x21 :: xs22)) (cal false ("spans_in" : Str))) itemsOf) fun s19 => compLoop (guardM s19.refs) (fun x20 => onB (bindG 4 (Tg.tp [Tg.ix 4, Tg.ix 5]) x20 (Ly.wipe r13 [4, 5])) fun r23 => bnd (ret true) fun b24 => if b24 then (bnd (bnd (bnd (bnd (getv r23 2) fun x28 => bnd (bnd (getv r23 4) fun x30 => bnd (ret []) fun xs31 => ret (x30 :: xs31)) fun xs29 => ret (x28 :: xs29)) (biB false ("max" : Str))) fun x26 => bnd (bnd (bnd (bnd (getv r23 3) fun x33 => bnd (bnd (getv r23 5) fun x35 => bnd (ret []) fun xs36 => ret (x35 :: xs36)) fun xs34 => ret (x33 :: xs34)) (biB false ("min" : Str))) fun y32 => cmpM .Lt x26 y32) fun b27 => ret (D.bl b27)) fun y25 => ret [y25]) else ret []) s19.items) fun xs18 => if xs18.length ≤ line then fresh false (D.lst xs18) else stuck) fun x16 => bnd (ret []) fun xs17 => ret (x16 :: xs17)) (biB false ("any" : Str))) truM) fun k15 => if k15 then (bnd (bnd (ret (.bl true : D)) fun d38 => ret (Fl.rt d38)) (seqK fun r37 => ret (Fl.nx r37))) else (ret (Fl.nx r13))) (seqK fun r14 => ret (Fl.nx r14))) s8.items r4) (seqK fun r7 => bnd (bnd (ret (.bl false : D)) fun d40 => ret (Fl.rt d40)) (seqK fun r39 => ret (Fl.nx r39)))))) [("one" : Str), ("other" : Str), ("low" : Str), ("high" : Str), ("least" : Str), ("most" : Str)] [some p_one, some p_other, none, none, none, none]
theorem e_may_meet (k : Nat) (keep : Bool) (p_one p_other : D) : callF gl 10000 (k + 1) keep ("may_meet" : Str) [p_one, p_other] = runF keep (s_may_meet (callF gl 10000 k) p_one p_other) := by kernel_rfl
def s_count_spans (cal : Bool → Str → List D → M D) (p_spread : D) (base : Nat) : M Fl :=
  (fun (NN : List Str) (r0 : Ly.Env) => bnd (bnd (bnd (bnd (getv r0 0) fun x2 => bnd (ret []) fun xs3 => ret (x2 :: xs3)) (cal false ("need_range" : Str))) fun _ => ret (Fl.nx r0)) (seqK fun r1 => bnd (bnd (bnd (bnd (bnd (bnd (getv r1 0) fun x8 => bnd (ret []) fun xs9 => ret (x8 :: xs9)) (cal false ("spans_in" : Str))) fun x6 => bnd (ret []) fun xs7 => ret (x6 :: xs7)) (biB false ("len" : Str))) fun d5 => ret (Fl.rt d5)) (seqK fun r4 => ret (Fl.nx r4)))) [("spread" : Str)] [some p_spread]
theorem e_count_spans (k : Nat) (keep : Bool) (p_spread : D) : callF gl 10000 (k + 1) keep ("count_spans" : Str) [p_spread] = runF keep (s_count_spans (callF gl 10000 k) p_spread) := by kernel_rfl
def s__law_cup (cal : Bool → Str → List D → M D) (p_script : D) (base : Nat) : M Fl :=
  (fun (NN : List Str) (r0 : Ly.Env) => bnd (bnd (bnd (bnd (bnd (bnd (bnd (bnd (getv r0 0) fun x9 => bnd (ret []) fun xs10 => ret (x9 :: xs10)) (biB false ("list" : Str))) fun x7 => bnd (bnd (bnd (ret (.int (0) : D)) fun x12 => bnd (ret []) fun xs13 => ret (x12 :: xs13)) fun xs11 => fresh false (D.lst xs11)) fun y8 => binB false .Add x7 y8) fun x5 => bnd (ret (.int (0) : D)) fun y6 => itemM x5 y6) fun x3 => bnd (ret []) fun xs4 => ret (x3 :: xs4)) (biB false ("abs" : Str))) fun d2 => ret (Fl.nx (List.set r0 1 (some d2)))) (seqK fun r1 => bnd (bnd (bnd (bnd (bnd (bnd (getv r1 1) fun x20 => bnd (bnd (ret (.int (10) : D)) fun x22 => bnd (ret (.int (18) : D)) fun y23 => binB false .Pow x22 y23) fun y21 => cmpM .GtE x20 y21) fun k19 => if k19 then bnd (getv r1 1) fun x24 => bnd (ret (.int (203) : D)) fun y25 => binB false .FloorDiv x24 y25 else ret (.int (0) : D)) fun x17 => bnd (bnd (bnd (bnd (bnd (bnd (bnd (bnd (getv r1 1) fun x36 => bnd (ret (.int (467) : D)) fun y37 => binB false .Mult x36 y37) fun x34 => bnd (ret (.int (4787) : D)) fun y35 => binB false .Add x34 y35) fun x32 => bnd (ret []) fun xs33 => ret (x32 :: xs33)) (biB false ("int" : Str))) fun x30 => bnd (ret (.int (2077503101) : D)) fun y31 => binB false .Mod x30 y31) fun x28 => bnd (ret (.int (337) : D)) fun y29 => binB false .Add x28 y29) fun x26 => bnd (ret []) fun xs27 => ret (x26 :: xs27)) fun xs18 => ret (x17 :: xs18)) fun xs16 => fresh true (D.lst xs16)) fun d15 => ret (Fl.rt d15)) (seqK fun r14 => ret (Fl.nx r14)))) [("script" : Str), ("cell" : Str)] [some p_script, none]
theorem e__law_cup (k : Nat) (keep : Bool) (p_script : D) : callF gl 10000 (k + 1) keep ("_law_cup" : Str) [p_script] = runF keep (s__law_cup (callF gl 10000 k) p_script) := by kernel_rfl
def s__law_roll (cal : Bool → Str → List D → M D) (p_cup p_many : D) (base : Nat) : M Fl :=
  (fun (NN : List Str) (r0 : Ly.Env) => bnd (bnd (bnd (bnd (getv r0 0) fun x4 => bnd (ret (.int (0) : D)) fun y5 => itemM x4 y5) fun x3 => bnd (ret (.int (0) : D)) fun y6 => cmpM .Gt x3 y6) fun k2 => if k2 then (bnd (bnd (bnd (bnd (bnd (bnd (getv r0 0) fun x13 => bnd (ret (.int (0) : D)) fun y14 => itemM x13 y14) fun x11 => bnd (ret []) fun xs12 => ret (x11 :: xs12)) (biB false ("int" : Str))) fun x9 => bnd (getv r0 1) fun y10 => binB false .Mod x9 y10) fun d8 => ret (Fl.nx (List.set r0 3 (some d8)))) (seqK fun r7 => bnd (bnd (bnd (bnd (getv r7 0) fun x21 => bnd (ret (.int (0) : D)) fun y22 => itemM x21 y22) fun x19 => bnd (getv r7 1) fun y20 => binB false .FloorDiv x19 y20) fun v16 => bnd (getv r7 0) fun x17 => bnd (ret (.int (0) : D)) fun y18 => bnd (putM base x17 y18 v16) fun _ => ret (Fl.nx r7)) (seqK fun r15 => bnd (bnd (getv r15 3) fun d24 => ret (Fl.rt d24)) (seqK fun r23 => ret (Fl.nx r23))))) else (ret (Fl.nx r0))) (seqK fun r1 => bnd (bnd (bnd (bnd (bnd (bnd (bnd (bnd (getv r1 0) fun x37 => bnd (ret (.int (1) : D)) fun y38 => itemM x37 y38) fun x35 => bnd (ret (.int (31459) : D)) fun y36 => binB false .Mult x35 y36) fun x33 => bnd (ret (.int (8419) : D)) fun y34 => binB false .Add x33 y34) fun x31 => bnd (ret []) fun xs32 => ret (x31 :: xs32)) (biB false ("int" : Str))) fun x29 => bnd (ret (.int (2147483399) : D)) fun y30 => binB false .Mod x29 y30) fun v26 => bnd (getv r1 0) fun x27 => bnd (ret (.int (1) : D)) fun y28 => bnd (putM base x27 y28 v26) fun _ => ret (Fl.nx r1)) (seqK fun r25 => bnd (bnd (bnd (bnd (bnd (bnd (bnd (getv r25 0) fun x47 => bnd (ret (.int (1) : D)) fun y48 => itemM x47 y48) fun x45 => bnd (bnd (bnd (getv r25 0) fun x51 => bnd (ret (.int (1) : D)) fun y52 => itemM x51 y52) fun x49 => bnd (ret (.int (597) : D)) fun y50 => binB false .Add x49 y50) fun y46 => binB false .Mult x45 y46) fun x43 => bnd (ret []) fun xs44 => ret (x43 :: xs44)) (biB false ("int" : Str))) fun x41 => bnd (ret (.int (2147483563) : D)) fun y42 => binB false .Mod x41 y42) fun d40 => ret (Fl.nx (List.set r25 2 (some d40)))) (seqK fun r39 => bnd (bnd (bnd (bnd (bnd (bnd (getv r39 2) fun x59 => bnd (ret (.int (797) : D)) fun y60 => binB false .FloorDiv x59 y60) fun x57 => bnd (ret []) fun xs58 => ret (x57 :: xs58)) (biB false ("int" : Str))) fun x55 => bnd (getv r39 1) fun y56 => binB false .Mod x55 y56) fun d54 => ret (Fl.rt d54)) (seqK fun r53 => ret (Fl.nx r53)))))) [("cup" : Str), ("many" : Str), ("deep" : Str), ("found" : Str)] [some p_cup, some p_many, none, none]
theorem e__law_roll (k : Nat) (keep : Bool) (p_cup p_many : D) : callF gl 10000 (k + 1) keep ("_law_roll" : Str) [p_cup, p_many] = runF keep (s__law_roll (callF gl 10000 k) p_cup p_many) := by kernel_rfl
def s__law_same (cal : Bool → Str → List D → M D) (p_told p_due : D) (base : Nat) : M Fl :=
  (fun (NN : List Str) (r0 : Ly.Env) => bnd (bnd (bnd (bnd (getv r0 1) fun d3 => viewed d3 fun d4 => ofOp ((isaD ("tuple" : Str) d4).map D.bl)) truM) fun k2 => if k2 then (bnd (bnd (bnd (bnd (bnd (bnd (getv r0 0) fun d15 => viewed d15 fun d16 => ofOp ((isaD ("tuple" : Str) d16).map D.bl)) truM) fun b14 => ret (!b14)) fun t7 => cond t7 (ret t7) (bnd (bnd (bnd (getv r0 0) fun x9 => bnd (ret []) fun xs10 => ret (x9 :: xs10)) (biB false ("len" : Str))) fun x8 => bnd (bnd (bnd (getv r0 1) fun x12 => bnd (ret []) fun xs13 => ret (x12 :: xs13)) (biB false ("len" : Str))) fun y11 => cmpM .NotEq x8 y11)) fun k6 => if k6 then (bnd (bnd (ret (.bl false : D)) fun d18 => ret (Fl.rt d18)) (seqK fun r17 => ret (Fl.nx r17))) else (ret (Fl.nx r0))) (seqK fun r5 => bnd (bnd (bnd (bnd (bnd (bnd (bnd (bnd (bnd (bnd (getv r5 1) fun x28 => bnd (ret []) fun xs29 => ret (x28 :: xs29)) (biB false ("len" : Str))) fun x26 => bnd (ret []) fun xs27 => ret (x26 :: xs27)) rngK) fun s24 => compLoop (guardM s24.refs) (fun x25 => (fun r30 => bnd (ret true) fun b31 => if b31 then (bnd (bnd (bnd (bnd (getv r30 0) fun x35 => bnd (getv r30 2) fun y36 => itemM x35 y36) fun x33 => bnd (bnd (bnd (getv r30 1) fun x39 => bnd (getv r30 2) fun y40 => itemM x39 y40) fun x37 => bnd (ret []) fun xs38 => ret (x37 :: xs38)) fun xs34 => ret (x33 :: xs34)) (cal false ("_law_same" : Str))) fun y32 => ret [y32]) else ret []) (List.set (Ly.wipe r5 [2]) 2 (some x25))) s24.items) fun xs23 => if xs23.length ≤ line then fresh false (D.lst xs23) else stuck) fun x21 => bnd (ret []) fun xs22 => ret (x21 :: xs22)) (biB false ("all" : Str))) fun d20 => ret (Fl.rt d20)) (seqK fun r19 => ret (Fl.nx r19)))) else (ret (Fl.nx r0))) (seqK fun r1 => bnd (bnd (bnd (getv r1 1) fun x43 => bnd (ret (.non : D)) fun y44 => cmpM .Is x43 y44) fun k42 => if k42 then (bnd (bnd (bnd (getv r1 0) fun x47 => bnd (bnd (ret (.non : D)) fun y49 => cmpM .Is x47 y49) fun b48 => ret (D.bl b48)) fun d46 => ret (Fl.rt d46)) (seqK fun r45 => ret (Fl.nx r45))) else (ret (Fl.nx r1))) (seqK fun r41 => bnd (bnd (bnd (bnd (getv r41 1) fun d52 => viewed d52 fun d53 => ofOp ((isaD ("bool" : Str) d53).map D.bl)) truM) fun k51 => if k51 then (bnd (bnd (bnd (bnd (getv r41 1) truM) fun k56 => if k56 then bnd (getv r41 0) fun x57 => bnd (bnd (ret (.bl true : D)) fun y59 => cmpM .Is x57 y59) fun b58 => ret (D.bl b58) else bnd (getv r41 0) fun x60 => bnd (bnd (ret (.bl false : D)) fun y62 => cmpM .Is x60 y62) fun b61 => ret (D.bl b61)) fun d55 => ret (Fl.rt d55)) (seqK fun r54 => ret (Fl.nx r54))) else (ret (Fl.nx r41))) (seqK fun r50 => bnd (bnd (bnd (bnd (getv r50 1) fun d65 => viewed d65 fun d66 => ofOp ((isaD ("int" : Str) d66).map D.bl)) truM) fun k64 => if k64 then (bnd (bnd (bnd (bnd (getv r50 0) fun d82 => viewed d82 fun d83 => ofOp ((isaD ("int" : Str) d83).map D.bl)) fun v69 => bnd (truM v69) fun t70 => cond t70 (bnd (bnd (bnd (getv r50 0) fun d80 => viewed d80 fun d81 => ofOp ((isaD ("bool" : Str) d81).map D.bl)) fun d78 => bnd (truM d78) fun b79 => ret (D.bl !b79)) fun v71 => bnd (truM v71) fun t72 => cond t72 (bnd (bnd (bnd (getv r50 0) fun x75 => bnd (ret []) fun xs76 => ret (x75 :: xs76)) (biB false ("int" : Str))) fun x73 => bnd (bnd (getv r50 1) fun y77 => cmpM .Eq x73 y77) fun b74 => ret (D.bl b74)) (ret v71)) (ret v69)) fun d68 => ret (Fl.rt d68)) (seqK fun r67 => ret (Fl.nx r67))) else (ret (Fl.nx r50))) (seqK fun r63 => bnd (bnd (bnd (bnd (getv r63 0) fun d93 => viewed d93 fun d94 => ofOp ((isaD ("str" : Str) d94).map D.bl)) fun v86 => bnd (truM v86) fun t87 => cond t87 (bnd (bnd (bnd (getv r63 0) fun x90 => bnd (ret []) fun xs91 => ret (x90 :: xs91)) (biB false ("str" : Str))) fun x88 => bnd (bnd (getv r63 1) fun y92 => cmpM .Eq x88 y92) fun b89 => ret (D.bl b89)) (ret v86)) fun d85 => ret (Fl.rt d85)) (seqK fun r84 => ret (Fl.nx r84))))))) [("told" : Str), ("due" : Str), ("at" : Str)] [some p_told, some p_due, none]
theorem e__law_same (k : Nat) (keep : Bool) (p_told p_due : D) : callF gl 10000 (k + 1) keep ("_law_same" : Str) [p_told, p_due] = runF keep (s__law_same (callF gl 10000 k) p_told p_due) := by kernel_rfl
def s__law_some (cal : Bool → Str → List D → M D) (p_cup p_things : D) (base : Nat) : M Fl :=
  (fun (NN : List Str) (r0 : Ly.Env) => bnd (bnd (bnd (getv r0 1) fun x3 => bnd (bnd (bnd (getv r0 0) fun x5 => bnd (bnd (bnd (bnd (getv r0 1) fun x9 => bnd (ret []) fun xs10 => ret (x9 :: xs10)) (biB false ("len" : Str))) fun x7 => bnd (ret []) fun xs8 => ret (x7 :: xs8)) fun xs6 => ret (x5 :: xs6)) (cal false ("_law_roll" : Str))) fun y4 => itemM x3 y4) fun d2 => ret (Fl.rt d2)) (seqK fun r1 => ret (Fl.nx r1))) [("cup" : Str), ("things" : Str)] [some p_cup, some p_things]
theorem e__law_some (k : Nat) (keep : Bool) (p_cup p_things : D) : callF gl 10000 (k + 1) keep ("_law_some" : Str) [p_cup, p_things] = runF keep (s__law_some (callF gl 10000 k) p_cup p_things) := by kernel_rfl
def s__law_version (cal : Bool → Str → List D → M D) (p_cup : D) (base : Nat) : M Fl :=
  (fun (NN : List Str) (r0 : Ly.Env) => bnd (bnd (bnd (bnd (bnd (bnd (bnd (bnd (bnd (bnd (getv r0 0) fun x10 => bnd (bnd (ret (.int (3) : D)) fun x12 => bnd (ret []) fun xs13 => ret (x12 :: xs13)) fun xs11 => ret (x10 :: xs11)) (cal false ("_law_roll" : Str))) fun x8 => bnd (ret []) fun xs9 => ret (x8 :: xs9)) rngK) fun s6 => compLoop (guardM s6.refs) (fun x7 => (fun r14 => bnd (ret true) fun b15 => if b15 then (bnd (bnd (bnd (getv r14 0) fun x17 => bnd (bnd (bnd (bnd (ret (.str ("0" : Str) : D)) fun x22 => bnd (bnd (ret (.str ("2" : Str) : D)) fun x24 => bnd (bnd (ret (.str ("10" : Str) : D)) fun x26 => bnd (bnd (ret (.str ("a" : Str) : D)) fun x28 => bnd (bnd (ret (.str ("rc" : Str) : D)) fun x30 => bnd (bnd (ret (.str ("01a" : Str) : D)) fun x32 => bnd (bnd (ret (.str ("b2" : Str) : D)) fun x34 => bnd (bnd (ret (.str ("z9" : Str) : D)) fun x36 => bnd (ret []) fun xs37 => ret (x36 :: xs37)) fun xs35 => ret (x34 :: xs35)) fun xs33 => ret (x32 :: xs33)) fun xs31 => ret (x30 :: xs31)) fun xs29 => ret (x28 :: xs29)) fun xs27 => ret (x26 :: xs27)) fun xs25 => ret (x24 :: xs25)) fun xs23 => ret (x22 :: xs23)) fun xs21 => fresh false (D.lst xs21)) fun x19 => bnd (ret []) fun xs20 => ret (x19 :: xs20)) fun xs18 => ret (x17 :: xs18)) (cal false ("_law_some" : Str))) fun y16 => ret [y16]) else ret []) (List.set (Ly.wipe r0 [2]) 2 (some x7))) s6.items) fun xs5 => if xs5.length ≤ line then fresh false (D.lst xs5) else stuck) fun x3 => bnd (ret []) fun xs4 => ret (x3 :: xs4)) (biB false ("tuple" : Str))) fun d2 => ret (Fl.nx (List.set r0 1 (some d2)))) (seqK fun r1 => bnd (bnd (bnd (bnd (bnd (bnd (getv r1 0) fun x43 => bnd (bnd (ret (.int (3) : D)) fun x45 => bnd (ret []) fun xs46 => ret (x45 :: xs46)) fun xs44 => ret (x43 :: xs44)) (cal false ("_law_roll" : Str))) fun x41 => bnd (bnd (bnd (bnd (getv r1 0) fun x49 => bnd (bnd (bnd (bnd (ret (.int (0) : D)) fun x54 => bnd (bnd (ret (.int (1) : D)) fun x56 => bnd (bnd (ret (.int (9999) : D)) fun x58 => bnd (bnd (ret (.int (10) : D)) fun x60 => bnd (ret []) fun xs61 => ret (x60 :: xs61)) fun xs59 => ret (x58 :: xs59)) fun xs57 => ret (x56 :: xs57)) fun xs55 => ret (x54 :: xs55)) fun xs53 => fresh false (D.lst xs53)) fun x51 => bnd (ret []) fun xs52 => ret (x51 :: xs52)) fun xs50 => ret (x49 :: xs50)) (cal false ("_law_some" : Str))) fun x47 => bnd (bnd (bnd (bnd (getv r1 0) fun x64 => bnd (bnd (bnd (bnd (ret (.int (0) : D)) fun x69 => bnd (bnd (ret (.int (1) : D)) fun x71 => bnd (bnd (ret (.int (9999) : D)) fun x73 => bnd (ret []) fun xs74 => ret (x73 :: xs74)) fun xs72 => ret (x71 :: xs72)) fun xs70 => ret (x69 :: xs70)) fun xs68 => fresh false (D.lst xs68)) fun x66 => bnd (ret []) fun xs67 => ret (x66 :: xs67)) fun xs65 => ret (x64 :: xs65)) (cal false ("_law_some" : Str))) fun x62 => bnd (bnd (bnd (bnd (bnd (bnd (getv r1 0) fun x79 => bnd (bnd (ret (.int (2) : D)) fun x81 => bnd (ret []) fun xs82 => ret (x81 :: xs82)) fun xs80 => ret (x79 :: xs80)) (cal false ("_law_roll" : Str))) fun x78 => bnd (ret (.int (0) : D)) fun y83 => cmpM .Eq x78 y83) fun k77 => if k77 then getv r1 1 else bnd (ret []) fun xs84 => ret (D.tup xs84)) fun x75 => bnd (ret []) fun xs76 => ret (x75 :: xs76)) fun xs63 => ret (x62 :: xs63)) fun xs48 => ret (x47 :: xs48)) fun xs42 => ret (x41 :: xs42)) fun xs40 => ret (D.tup xs40)) fun d39 => ret (Fl.rt d39)) (seqK fun r38 => ret (Fl.nx r38)))) [("cup" : Str), ("words" : Str), ("turn" : Str)] [some p_cup, none, none]
theorem e__law_version (k : Nat) (keep : Bool) (p_cup : D) : callF gl 10000 (k + 1) keep ("_law_version" : Str) [p_cup] = runF keep (s__law_version (callF gl 10000 k) p_cup) := by kernel_rfl
def s__law_condition (cal : Bool → Str → List D → M D) (p_cup : D) (base : Nat) : M Fl :=
  (fun (NN : List Str) (r0 : Ly.Env) => bnd (bnd (bnd (bnd (bnd (getv r0 0) fun x5 => bnd (bnd (bnd (bnd (ret (.str (">=" : Str) : D)) fun x10 => bnd (bnd (ret (.str (">" : Str) : D)) fun x12 => bnd (bnd (ret (.str ("<=" : Str) : D)) fun x14 => bnd (bnd (ret (.str ("<" : Str) : D)) fun x16 => bnd (bnd (ret (.str ("=" : Str) : D)) fun x18 => bnd (bnd (ret (.str ("~" : Str) : D)) fun x20 => bnd (bnd (ret (.str ("^" : Str) : D)) fun x22 => bnd (ret []) fun xs23 => ret (x22 :: xs23)) fun xs21 => ret (x20 :: xs21)) fun xs19 => ret (x18 :: xs19)) fun xs17 => ret (x16 :: xs17)) fun xs15 => ret (x14 :: xs15)) fun xs13 => ret (x12 :: xs13)) fun xs11 => ret (x10 :: xs11)) fun xs9 => fresh false (D.lst xs9)) fun x7 => bnd (ret []) fun xs8 => ret (x7 :: xs8)) fun xs6 => ret (x5 :: xs6)) (cal false ("_law_some" : Str))) fun x3 => bnd (bnd (bnd (bnd (getv r0 0) fun x26 => bnd (ret []) fun xs27 => ret (x26 :: xs27)) (cal false ("_law_version" : Str))) fun x24 => bnd (ret []) fun xs25 => ret (x24 :: xs25)) fun xs4 => ret (x3 :: xs4)) fun d2 => asgG (Tg.tp [Tg.ix 1, Tg.ix 2]) (D.tup d2) r0) (seqK fun r1 => bnd (bnd (bnd (bnd (getv r1 1) fun x31 => bnd (bnd (bnd (bnd (getv r1 1) fun x36 => bnd (bnd (bnd (ret (.str ("~" : Str) : D)) fun x39 => bnd (bnd (ret (.str ("^" : Str) : D)) fun x41 => bnd (ret []) fun xs42 => ret (x41 :: xs42)) fun xs40 => ret (x39 :: xs40)) fun xs38 => ret (D.tup xs38)) fun y37 => cmpM .In x36 y37) fun k35 => if k35 then bnd (bnd (getv r1 2) fun x45 => bnd (ret none) fun l46 => bnd (bnd (ret (.int (3) : D)) intK) fun h47 => viewed x45 fun x48 => newB false (cutD l46 h47 x48)) fun x43 => bnd (bnd (bnd (bnd (ret []) fun xs52 => ret (D.tup xs52)) fun x50 => bnd (ret []) fun xs51 => ret (x50 :: xs51)) fun xs49 => ret (D.tup xs49)) fun y44 => binB false .Add x43 y44 else getv r1 2) fun x33 => bnd (ret []) fun xs34 => ret (x33 :: xs34)) fun xs32 => ret (x31 :: xs32)) fun xs30 => ret (D.tup xs30)) fun d29 => ret (Fl.rt d29)) (seqK fun r28 => ret (Fl.nx r28)))) [("cup" : Str), ("sign" : Str), ("version" : Str)] [some p_cup, none, none]
theorem e__law_condition (k : Nat) (keep : Bool) (p_cup : D) : callF gl 10000 (k + 1) keep ("_law_condition" : Str) [p_cup] = runF keep (s__law_condition (callF gl 10000 k) p_cup) := by kernel_rfl
def s__law_range (cal : Bool → Str → List D → M D) (p_cup p_most : D) (base : Nat) : M Fl :=
  (fun (NN : List Str) (r0 : Ly.Env) => bnd (bnd (bnd (bnd (bnd (bnd (bnd (bnd (bnd (bnd (getv r0 0) fun x10 => bnd (bnd (bnd (getv r0 1) fun x14 => bnd (ret (.int (1) : D)) fun y15 => binB false .Add x14 y15) fun x12 => bnd (ret []) fun xs13 => ret (x12 :: xs13)) fun xs11 => ret (x10 :: xs11)) (cal false ("_law_roll" : Str))) fun x8 => bnd (ret []) fun xs9 => ret (x8 :: xs9)) rngK) fun s6 => compLoop (guardM s6.refs) (fun x7 => (fun r16 => bnd (ret true) fun b17 => if b17 then (bnd (bnd (bnd (bnd (bnd (bnd (bnd (bnd (bnd (getv r16 0) fun x26 => bnd (bnd (ret (.int (4) : D)) fun x28 => bnd (ret []) fun xs29 => ret (x28 :: xs29)) fun xs27 => ret (x26 :: xs27)) (cal false ("_law_roll" : Str))) fun x24 => bnd (ret []) fun xs25 => ret (x24 :: xs25)) rngK) fun s22 => compLoop (guardM s22.refs) (fun x23 => (fun r30 => bnd (ret true) fun b31 => if b31 then (bnd (bnd (bnd (getv r30 0) fun x33 => bnd (ret []) fun xs34 => ret (x33 :: xs34)) (cal false ("_law_condition" : Str))) fun y32 => ret [y32]) else ret []) (List.set (Ly.wipe r16 [3]) 3 (some x23))) s22.items) fun xs21 => if xs21.length ≤ line then fresh false (D.lst xs21) else stuck) fun x19 => bnd (ret []) fun xs20 => ret (x19 :: xs20)) (biB false ("tuple" : Str))) fun y18 => ret [y18]) else ret []) (List.set (Ly.wipe r0 [2]) 2 (some x7))) s6.items) fun xs5 => if xs5.length ≤ line then fresh false (D.lst xs5) else stuck) fun x3 => bnd (ret []) fun xs4 => ret (x3 :: xs4)) (biB false ("tuple" : Str))) fun d2 => ret (Fl.rt d2)) (seqK fun r1 => ret (Fl.nx r1))) [("cup" : Str), ("most" : Str), ("part" : Str), ("turn" : Str)] [some p_cup, some p_most, none, none]
theorem e__law_range (k : Nat) (keep : Bool) (p_cup p_most : D) : callF gl 10000 (k + 1) keep ("_law_range" : Str) [p_cup, p_most] = runF keep (s__law_range (callF gl 10000 k) p_cup p_most) := by kernel_rfl
def s__law_key (cal : Bool → Str → List D → M D) (p_version : D) (base : Nat) : M Fl :=
  (fun (NN : List Str) (r0 : Ly.Env) => bnd (bnd (bnd (ret []) fun xs3 => fresh true (D.lst xs3)) fun d2 => ret (Fl.nx (List.set r0 1 (some d2)))) (seqK fun r1 => bnd (bnd (bnd (bnd (getv r1 0) fun x8 => bnd (ret (.int (3) : D)) fun y9 => itemM x8 y9) itemsOf) fun s5 => forLoop (guardM s5.refs) (fun x6 r7 => (fun r10 => bnd (bnd (bnd (bnd (bnd (bnd (getv r10 2) itemsOf) fun s16 => compLoop (guardM s16.refs) (fun x17 => (fun r18 => bnd (bnd (getv r18 4) fun x20 => bnd (ret (.str ("0123456789" : Str) : D)) fun y21 => cmpM .NotIn x20 y21) fun b19 => if b19 then (bnd (getv r18 4) fun y22 => ret [y22]) else ret []) (List.set (Ly.wipe r10 [4]) 4 (some x17))) s16.items) fun xs15 => if xs15.length ≤ line then fresh false (D.lst xs15) else stuck) fun x13 => bnd (bnd (bnd (ret []) fun xs24 => fresh false (D.lst xs24)) fun y23 => cmpM .Eq x13 y23) fun b14 => ret (D.bl b14)) fun d12 => ret (Fl.nx (List.set r10 3 (some d12)))) (seqK fun r11 => bnd (bnd (bnd (getv r11 1) fun d26 => bnd (preM ("append" : Str) 1 d26) fun _ => bnd (bnd (bnd (bnd (getv r11 3) truM) fun k30 => if k30 then bnd (bnd (ret (.int (0) : D)) fun x32 => bnd (bnd (bnd (bnd (getv r11 2) fun x36 => bnd (ret []) fun xs37 => ret (x36 :: xs37)) (biB false ("int" : Str))) fun x34 => bnd (bnd (ret (.str ("" : Str) : D)) fun x38 => bnd (ret []) fun xs39 => ret (x38 :: xs39)) fun xs35 => ret (x34 :: xs35)) fun xs33 => ret (x32 :: xs33)) fun xs31 => ret (D.tup xs31) else bnd (bnd (ret (.int (1) : D)) fun x41 => bnd (bnd (ret (.int (0) : D)) fun x43 => bnd (bnd (getv r11 2) fun x45 => bnd (ret []) fun xs46 => ret (x45 :: xs46)) fun xs44 => ret (x43 :: xs44)) fun xs42 => ret (x41 :: xs42)) fun xs40 => ret (D.tup xs40)) fun x28 => bnd (ret []) fun xs29 => ret (x28 :: xs29)) fun xs27 => meM ⟨gl, cal, NN, base, 10000⟩ ("append" : Str) d26 xs27) fun _ => ret (Fl.nx r11)) (seqK fun r25 => ret (Fl.nx r25)))) (List.set r7 2 (some x6))) s5.items r1) (seqK fun r4 => bnd (bnd (bnd (bnd (bnd (getv r4 0) fun x52 => bnd (ret (.int (0) : D)) fun y53 => itemM x52 y53) fun x50 => bnd (bnd (bnd (getv r4 0) fun x56 => bnd (ret (.int (1) : D)) fun y57 => itemM x56 y57) fun x54 => bnd (bnd (bnd (getv r4 0) fun x60 => bnd (ret (.int (2) : D)) fun y61 => itemM x60 y61) fun x58 => bnd (bnd (bnd (bnd (getv r4 1) fun x65 => bnd (bnd (ret []) fun xs67 => fresh false (D.lst xs67)) fun y66 => cmpM .NotEq x65 y66) fun k64 => if k64 then ret (.int (0) : D) else ret (.int (1) : D)) fun x62 => bnd (bnd (bnd (bnd (getv r4 1) fun x70 => bnd (ret []) fun xs71 => ret (x70 :: xs71)) (biB false ("tuple" : Str))) fun x68 => bnd (ret []) fun xs69 => ret (x68 :: xs69)) fun xs63 => ret (x62 :: xs63)) fun xs59 => ret (x58 :: xs59)) fun xs55 => ret (x54 :: xs55)) fun xs51 => ret (x50 :: xs51)) fun xs49 => ret (D.tup xs49)) fun d48 => ret (Fl.rt d48)) (seqK fun r47 => ret (Fl.nx r47))))) [("version" : Str), ("words" : Str), ("word" : Str), ("is_digits" : Str), ("sign" : Str)] [some p_version, none, none, none, none]
theorem e__law_key (k : Nat) (keep : Bool) (p_version : D) : callF gl 10000 (k + 1) keep ("_law_key" : Str) [p_version] = runF keep (s__law_key (callF gl 10000 k) p_version) := by kernel_rfl
def s__law_meets (cal : Bool → Str → List D → M D) (p_condition p_version : D) (base : Nat) : M Fl :=
  (fun (NN : List Str) (r0 : Ly.Env) => bnd (bnd (getv r0 0) fun d2 => asgG (Tg.tp [Tg.ix 2, Tg.ix 3]) d2 r0) (seqK fun r1 => bnd (bnd (bnd (getv r1 2) fun x5 => bnd (bnd (bnd (ret (.str ("~" : Str) : D)) fun x8 => bnd (bnd (ret (.str ("^" : Str) : D)) fun x10 => bnd (ret []) fun xs11 => ret (x10 :: xs11)) fun xs9 => ret (x8 :: xs9)) fun xs7 => ret (D.tup xs7)) fun y6 => cmpM .In x5 y6) fun k4 => if k4 then (bnd (bnd (bnd (bnd (bnd (getv r1 1) fun x30 => bnd (ret (.int (0) : D)) fun y31 => itemM x30 y31) fun x28 => bnd (bnd (bnd (getv r1 3) fun x33 => bnd (ret (.int (0) : D)) fun y34 => itemM x33 y34) fun y32 => cmpM .Eq x28 y32) fun b29 => ret (D.bl b29)) fun v14 => bnd (truM v14) fun t15 => cond t15 (bnd (bnd (getv r1 2) fun x25 => bnd (bnd (ret (.str ("^" : Str) : D)) fun y27 => cmpM .Eq x25 y27) fun b26 => ret (D.bl b26)) fun v16 => bnd (truM v16) fun t17 => cond t17 (ret v16) (bnd (bnd (getv r1 1) fun x20 => bnd (ret (.int (1) : D)) fun y21 => itemM x20 y21) fun x18 => bnd (bnd (bnd (getv r1 3) fun x23 => bnd (ret (.int (1) : D)) fun y24 => itemM x23 y24) fun y22 => cmpM .Eq x18 y22) fun b19 => ret (D.bl b19))) (ret v14)) fun d13 => ret (Fl.rt d13)) (seqK fun r12 => ret (Fl.nx r12))) else (ret (Fl.nx r1))) (seqK fun r3 => bnd (bnd (bnd (bnd (bnd (getv r3 1) fun x39 => bnd (ret []) fun xs40 => ret (x39 :: xs40)) (cal false ("_law_key" : Str))) fun x37 => bnd (bnd (bnd (bnd (getv r3 3) fun x43 => bnd (ret []) fun xs44 => ret (x43 :: xs44)) (cal false ("_law_key" : Str))) fun x41 => bnd (ret []) fun xs42 => ret (x41 :: xs42)) fun xs38 => ret (x37 :: xs38)) fun d36 => asgG (Tg.tp [Tg.ix 4, Tg.ix 5]) (D.tup d36) r3) (seqK fun r35 => bnd (bnd (bnd (bnd (bnd (ret (.str (">=" : Str) : D)) fun x50 => bnd (bnd (getv r35 4) fun x53 => bnd (bnd (getv r35 5) fun y55 => cmpM .GtE x53 y55) fun b54 => ret (D.bl b54)) fun y51 => bnd (bnd (ret (.str (">" : Str) : D)) fun x56 => bnd (bnd (getv r35 4) fun x59 => bnd (bnd (getv r35 5) fun y61 => cmpM .Gt x59 y61) fun b60 => ret (D.bl b60)) fun y57 => bnd (bnd (ret (.str ("<=" : Str) : D)) fun x62 => bnd (bnd (getv r35 4) fun x65 => bnd (bnd (getv r35 5) fun y67 => cmpM .LtE x65 y67) fun b66 => ret (D.bl b66)) fun y63 => bnd (bnd (ret (.str ("<" : Str) : D)) fun x68 => bnd (bnd (getv r35 4) fun x71 => bnd (bnd (getv r35 5) fun y73 => cmpM .Lt x71 y73) fun b72 => ret (D.bl b72)) fun y69 => bnd (bnd (ret (.str ("=" : Str) : D)) fun x74 => bnd (bnd (getv r35 4) fun x77 => bnd (bnd (getv r35 5) fun y79 => cmpM .Eq x77 y79) fun b78 => ret (D.bl b78)) fun y75 => bnd (ret []) fun z76 => ret ((x74, y75) :: z76)) fun z70 => ret ((x68, y69) :: z70)) fun z64 => ret ((x62, y63) :: z64)) fun z58 => ret ((x56, y57) :: z58)) fun z52 => ret ((x50, y51) :: z52)) fun ps49 => if ps49.all (fun kv => keyOk kv.1) then fresh false (D.dct (putAll [] ps49)) else stuck) fun x47 => bnd (getv r35 2) fun y48 => itemM x47 y48) fun d46 => ret (Fl.rt d46)) (seqK fun r45 => ret (Fl.nx r45)))))) [("condition" : Str), ("version" : Str), ("sign" : Str), ("due" : Str), ("one" : Str), ("other" : Str)] [some p_condition, some p_version, none, none, none, none]
theorem e__law_meets (k : Nat) (keep : Bool) (p_condition p_version : D) : callF gl 10000 (k + 1) keep ("_law_meets" : Str) [p_condition, p_version] = runF keep (s__law_meets (callF gl 10000 k) p_condition p_version) := by kernel_rfl
def s__law_is_in (cal : Bool → Str → List D → M D) (p_spread p_version : D) (base : Nat) : M Fl :=
  (fun (NN : List Str) (r0 : Ly.Env) => bnd (bnd (bnd (bnd (bnd (bnd (getv r0 0) itemsOf) fun s6 => compLoop (guardM s6.refs) (fun x7 => (fun r8 => bnd (bnd (bnd (bnd (bnd (getv r8 2) itemsOf) fun s12 => compLoop (guardM s12.refs) (fun x13 => (fun r14 => bnd (bnd (bnd (bnd (bnd (getv r14 3) fun x17 => bnd (bnd (getv r14 1) fun x19 => bnd (ret []) fun xs20 => ret (x19 :: xs20)) fun xs18 => ret (x17 :: xs18)) (cal false ("_law_meets" : Str))) truM) fun b16 => ret (!b16)) fun b15 => if b15 then (bnd (getv r14 3) fun y21 => ret [y21]) else ret []) (List.set (Ly.wipe r8 [3]) 3 (some x13))) s12.items) fun xs11 => if xs11.length ≤ line then fresh false (D.lst xs11) else stuck) fun x10 => bnd (bnd (ret []) fun xs23 => fresh false (D.lst xs23)) fun y22 => cmpM .Eq x10 y22) fun b9 => if b9 then (bnd (getv r8 2) fun y24 => ret [y24]) else ret []) (List.set (Ly.wipe r0 [2]) 2 (some x7))) s6.items) fun xs5 => if xs5.length ≤ line then fresh false (D.lst xs5) else stuck) fun x3 => bnd (bnd (bnd (ret []) fun xs26 => fresh false (D.lst xs26)) fun y25 => cmpM .NotEq x3 y25) fun b4 => ret (D.bl b4)) fun d2 => ret (Fl.rt d2)) (seqK fun r1 => ret (Fl.nx r1))) [("spread" : Str), ("version" : Str), ("part" : Str), ("one" : Str)] [some p_spread, some p_version, none, none]
theorem e__law_is_in (k : Nat) (keep : Bool) (p_spread p_version : D) : callF gl 10000 (k + 1) keep ("_law_is_in" : Str) [p_spread, p_version] = runF keep (s__law_is_in (callF gl 10000 k) p_spread p_version) := by kernel_rfl
def s__law_ends (cal : Bool → Str → List D → M D) (p_condition : D) (base : Nat) : M Fl :=
  (fun (NN : List Str) (r0 : Ly.Env) => bnd (bnd (getv r0 0) fun d2 => asgG (Tg.tp [Tg.ix 1, Tg.ix 2]) d2 r0) (seqK fun r1 => bnd (bnd (bnd (bnd (bnd (bnd (ret []) fun xs10 => ret (D.tup xs10)) fun x8 => bnd (bnd (ret (.int (0) : D)) fun x11 => bnd (ret []) fun xs12 => ret (x11 :: xs12)) fun xs9 => ret (x8 :: xs9)) fun xs7 => ret (D.tup xs7)) fun x5 => bnd (bnd (bnd (bnd (bnd (bnd (ret (.int (99999) : D)) fun x19 => bnd (ret []) fun xs20 => ret (x19 :: xs20)) fun xs18 => ret (D.tup xs18)) fun x16 => bnd (bnd (ret (.int (0) : D)) fun x21 => bnd (ret []) fun xs22 => ret (x21 :: xs22)) fun xs17 => ret (x16 :: xs17)) fun xs15 => ret (D.tup xs15)) fun x13 => bnd (bnd (bnd (bnd (getv r1 2) fun x25 => bnd (ret []) fun xs26 => ret (x25 :: xs26)) (cal false ("_law_key" : Str))) fun x23 => bnd (ret []) fun xs24 => ret (x23 :: xs24)) fun xs14 => ret (x13 :: xs14)) fun xs6 => ret (x5 :: xs6)) fun d4 => asgG (Tg.tp [Tg.ix 3, Tg.ix 4, Tg.ix 5]) (D.tup d4) r1) (seqK fun r3 => bnd (bnd (bnd (getv r3 1) fun x29 => bnd (ret (.str ("~" : Str) : D)) fun y30 => cmpM .Eq x29 y30) fun k28 => if k28 then (bnd (bnd (bnd (bnd (bnd (bnd (bnd (getv r3 2) fun x39 => bnd (ret none) fun l40 => bnd (bnd (ret (.int (2) : D)) intK) fun h41 => viewed x39 fun x42 => newB false (cutD l40 h41 x42)) fun x37 => bnd (bnd (ret (.int (0) : D)) fun x43 => bnd (ret []) fun xs44 => ret (x43 :: xs44)) fun xs38 => ret (x37 :: xs38)) fun xs36 => ret (D.tup xs36)) fun x34 => bnd (bnd (bnd (bnd (bnd (bnd (bnd (getv r3 2) fun x53 => bnd (ret (.int (0) : D)) fun y54 => itemM x53 y54) fun x51 => bnd (bnd (bnd (bnd (getv r3 2) fun x59 => bnd (ret (.int (1) : D)) fun y60 => itemM x59 y60) fun x57 => bnd (ret (.int (1) : D)) fun y58 => binB false .Add x57 y58) fun x55 => bnd (ret []) fun xs56 => ret (x55 :: xs56)) fun xs52 => ret (x51 :: xs52)) fun xs50 => ret (D.tup xs50)) fun x48 => bnd (bnd (ret (.int (0) : D)) fun x61 => bnd (ret []) fun xs62 => ret (x61 :: xs62)) fun xs49 => ret (x48 :: xs49)) fun xs47 => ret (D.tup xs47)) fun x45 => bnd (ret []) fun xs46 => ret (x45 :: xs46)) fun xs35 => ret (x34 :: xs35)) fun xs33 => ret (D.tup xs33)) fun d32 => ret (Fl.rt d32)) (seqK fun r31 => ret (Fl.nx r31))) else (ret (Fl.nx r3))) (seqK fun r27 => bnd (bnd (bnd (getv r27 1) fun x65 => bnd (ret (.str ("^" : Str) : D)) fun y66 => cmpM .Eq x65 y66) fun k64 => if k64 then (bnd (bnd (bnd (bnd (bnd (bnd (bnd (getv r27 2) fun x75 => bnd (ret none) fun l76 => bnd (bnd (ret (.int (1) : D)) intK) fun h77 => viewed x75 fun x78 => newB false (cutD l76 h77 x78)) fun x73 => bnd (bnd (ret (.int (0) : D)) fun x79 => bnd (ret []) fun xs80 => ret (x79 :: xs80)) fun xs74 => ret (x73 :: xs74)) fun xs72 => ret (D.tup xs72)) fun x70 => bnd (bnd (bnd (bnd (bnd (bnd (bnd (bnd (getv r27 2) fun x91 => bnd (ret (.int (0) : D)) fun y92 => itemM x91 y92) fun x89 => bnd (ret (.int (1) : D)) fun y90 => binB false .Add x89 y90) fun x87 => bnd (ret []) fun xs88 => ret (x87 :: xs88)) fun xs86 => ret (D.tup xs86)) fun x84 => bnd (bnd (ret (.int (0) : D)) fun x93 => bnd (ret []) fun xs94 => ret (x93 :: xs94)) fun xs85 => ret (x84 :: xs85)) fun xs83 => ret (D.tup xs83)) fun x81 => bnd (ret []) fun xs82 => ret (x81 :: xs82)) fun xs71 => ret (x70 :: xs71)) fun xs69 => ret (D.tup xs69)) fun d68 => ret (Fl.rt d68)) (seqK fun r67 => ret (Fl.nx r67))) else (ret (Fl.nx r27))) (seqK fun r63 => bnd (bnd (bnd (bnd (bnd (getv r63 5) fun x100 => bnd (bnd (ret (.int (1) : D)) fun x102 => bnd (ret []) fun xs103 => ret (x102 :: xs103)) fun xs101 => ret (x100 :: xs101)) fun xs99 => ret (D.tup xs99)) fun x97 => bnd (bnd (bnd (bnd (getv r63 5) fun x107 => bnd (bnd (ret (.int (2) : D)) fun x109 => bnd (ret []) fun xs110 => ret (x109 :: xs110)) fun xs108 => ret (x107 :: xs108)) fun xs106 => ret (D.tup xs106)) fun x104 => bnd (ret []) fun xs105 => ret (x104 :: xs105)) fun xs98 => ret (x97 :: xs98)) fun d96 => asgG (Tg.tp [Tg.ix 6, Tg.ix 7]) (D.tup d96) r63) (seqK fun r95 => bnd (bnd (bnd (bnd (bnd (ret (.str (">=" : Str) : D)) fun x116 => bnd (bnd (bnd (getv r95 6) fun x120 => bnd (bnd (getv r95 4) fun x122 => bnd (ret []) fun xs123 => ret (x122 :: xs123)) fun xs121 => ret (x120 :: xs121)) fun xs119 => ret (D.tup xs119)) fun y117 => bnd (bnd (ret (.str (">" : Str) : D)) fun x124 => bnd (bnd (bnd (getv r95 7) fun x128 => bnd (bnd (getv r95 4) fun x130 => bnd (ret []) fun xs131 => ret (x130 :: xs131)) fun xs129 => ret (x128 :: xs129)) fun xs127 => ret (D.tup xs127)) fun y125 => bnd (bnd (ret (.str ("<=" : Str) : D)) fun x132 => bnd (bnd (bnd (getv r95 3) fun x136 => bnd (bnd (getv r95 7) fun x138 => bnd (ret []) fun xs139 => ret (x138 :: xs139)) fun xs137 => ret (x136 :: xs137)) fun xs135 => ret (D.tup xs135)) fun y133 => bnd (bnd (ret (.str ("<" : Str) : D)) fun x140 => bnd (bnd (bnd (getv r95 3) fun x144 => bnd (bnd (getv r95 6) fun x146 => bnd (ret []) fun xs147 => ret (x146 :: xs147)) fun xs145 => ret (x144 :: xs145)) fun xs143 => ret (D.tup xs143)) fun y141 => bnd (bnd (ret (.str ("=" : Str) : D)) fun x148 => bnd (bnd (bnd (getv r95 6) fun x152 => bnd (bnd (getv r95 7) fun x154 => bnd (ret []) fun xs155 => ret (x154 :: xs155)) fun xs153 => ret (x152 :: xs153)) fun xs151 => ret (D.tup xs151)) fun y149 => bnd (ret []) fun z150 => ret ((x148, y149) :: z150)) fun z142 => ret ((x140, y141) :: z142)) fun z134 => ret ((x132, y133) :: z134)) fun z126 => ret ((x124, y125) :: z126)) fun z118 => ret ((x116, y117) :: z118)) fun ps115 => if ps115.all (fun kv => keyOk kv.1) then fresh false (D.dct (putAll [] ps115)) else stuck) fun x113 => bnd (getv r95 1) fun y114 => itemM x113 y114) fun d112 => ret (Fl.rt d112)) (seqK fun r111 => ret (Fl.nx r111)))))))) [("condition" : Str), ("sign" : Str), ("version" : Str), ("low" : Str), ("high" : Str), ("key" : Str), ("ahead" : Str), ("behind" : Str)] [some p_condition, none, none, none, none, none, none, none]
theorem e__law_ends (k : Nat) (keep : Bool) (p_condition : D) : callF gl 10000 (k + 1) keep ("_law_ends" : Str) [p_condition] = runF keep (s__law_ends (callF gl 10000 k) p_condition) := by kernel_rfl
def s__law_spans (cal : Bool → Str → List D → M D) (p_spread : D) (base : Nat) : M Fl :=
  (fun (NN : List Str) (r0 : Ly.Env) => bnd (bnd (bnd (bnd (ret []) fun xs5 => fresh false (D.lst xs5)) fun x3 => bnd (bnd (bnd (ret []) fun xs8 => fresh true (D.lst xs8)) fun x6 => bnd (ret []) fun xs7 => ret (x6 :: xs7)) fun xs4 => ret (x3 :: xs4)) fun d2 => asgG (Tg.tp [Tg.ix 2, Tg.ix 3]) (D.tup d2) r0) (seqK fun r1 => bnd (bnd (bnd (getv r1 0) itemsOf) fun s10 => forLoop (guardM s10.refs) (fun x11 r12 => (fun r13 => bnd (bnd (bnd (bnd (bnd (bnd (getv r13 1) itemsOf) fun s19 => compLoop (guardM s19.refs) (fun x20 => (fun r21 => bnd (ret true) fun b22 => if b22 then (bnd (bnd (bnd (getv r21 7) fun x24 => bnd (ret []) fun xs25 => ret (x24 :: xs25)) (cal false ("_law_ends" : Str))) fun y23 => ret [y23]) else ret []) (List.set (Ly.wipe r13 [7]) 7 (some x20))) s19.items) fun xs18 => if xs18.length ≤ line then fresh false (D.lst xs18) else stuck) fun x16 => bnd (bnd (bnd (bnd (bnd (bnd (bnd (bnd (ret []) fun xs35 => ret (D.tup xs35)) fun x33 => bnd (bnd (ret (.int (0) : D)) fun x36 => bnd (ret []) fun xs37 => ret (x36 :: xs37)) fun xs34 => ret (x33 :: xs34)) fun xs32 => ret (D.tup xs32)) fun x30 => bnd (bnd (bnd (bnd (bnd (bnd (ret (.int (99999) : D)) fun x44 => bnd (ret []) fun xs45 => ret (x44 :: xs45)) fun xs43 => ret (D.tup xs43)) fun x41 => bnd (bnd (ret (.int (0) : D)) fun x46 => bnd (ret []) fun xs47 => ret (x46 :: xs47)) fun xs42 => ret (x41 :: xs42)) fun xs40 => ret (D.tup xs40)) fun x38 => bnd (ret []) fun xs39 => ret (x38 :: xs39)) fun xs31 => ret (x30 :: xs31)) fun xs29 => ret (D.tup xs29)) fun x27 => bnd (ret []) fun xs28 => ret (x27 :: xs28)) fun xs26 => fresh false (D.lst xs26)) fun y17 => binB false .Add x16 y17) fun d15 => ret (Fl.nx (List.set r13 4 (some d15)))) (seqK fun r14 => bnd (bnd (bnd (bnd (bnd (bnd (bnd (bnd (getv r14 4) itemsOf) fun s55 => compLoop (guardM s55.refs) (fun x56 => onB (bindG 4 (Tg.tp [Tg.ix 7, Tg.ix 8]) x56 (Ly.wipe r14 [7, 8])) fun r57 => bnd (ret true) fun b58 => if b58 then (bnd (getv r57 7) fun y59 => ret [y59]) else ret []) s55.items) fun xs54 => if xs54.length ≤ line then fresh false (D.lst xs54) else stuck) fun x52 => bnd (ret []) fun xs53 => ret (x52 :: xs53)) (biB false ("max" : Str))) fun x50 => bnd (bnd (bnd (bnd (bnd (bnd (bnd (getv r14 4) itemsOf) fun s65 => compLoop (guardM s65.refs) (fun x66 => onB (bindG 4 (Tg.tp [Tg.ix 7, Tg.ix 8]) x66 (Ly.wipe r14 [7, 8])) fun r67 => bnd (ret true) fun b68 => if b68 then (bnd (getv r67 8) fun y69 => ret [y69]) else ret []) s65.items) fun xs64 => if xs64.length ≤ line then fresh false (D.lst xs64) else stuck) fun x62 => bnd (ret []) fun xs63 => ret (x62 :: xs63)) (biB false ("min" : Str))) fun x60 => bnd (ret []) fun xs61 => ret (x60 :: xs61)) fun xs51 => ret (x50 :: xs51)) fun d49 => asgG (Tg.tp [Tg.ix 5, Tg.ix 6]) (D.tup d49) r14) (seqK fun r48 => bnd (bnd (bnd (getv r48 2) fun x72 => bnd (bnd (bnd (getv r48 5) fun x75 => bnd (getv r48 6) fun y76 => cmpM .Lt x75 y76) fun k74 => if k74 then bnd (bnd (bnd (bnd (getv r48 5) fun x81 => bnd (bnd (getv r48 6) fun x83 => bnd (ret []) fun xs84 => ret (x83 :: xs84)) fun xs82 => ret (x81 :: xs82)) fun xs80 => ret (D.tup xs80)) fun x78 => bnd (ret []) fun xs79 => ret (x78 :: xs79)) fun xs77 => fresh false (D.lst xs77) else bnd (ret []) fun xs85 => fresh false (D.lst xs85)) fun y73 => binB false .Add x72 y73) fun d71 => ret (Fl.nx (List.set r48 2 (some d71)))) (seqK fun r70 => ret (Fl.nx r70))))) (List.set r12 1 (some x11))) s10.items r1) (seqK fun r9 => bnd (bnd (bnd (bnd (bnd (getv r9 2) fun x90 => bnd (ret []) fun xs91 => ret (x90 :: xs91)) (biB false ("sorted" : Str))) itemsOf) fun s87 => forLoop (guardM s87.refs) (fun x88 r89 => onB (bindG 4 (Tg.tp [Tg.ix 5, Tg.ix 6]) x88 r89) fun r92 => bnd (bnd (bnd (bnd (getv r92 3) fun x102 => bnd (bnd (ret []) fun xs104 => fresh false (D.lst xs104)) fun y103 => cmpM .NotEq x102 y103) fun t95 => cond t95 (bnd (getv r92 5) fun x96 => bnd (bnd (bnd (getv r92 3) fun x100 => bnd (bnd (ret (.int (1) : D)) negM) fun y101 => itemM x100 y101) fun x98 => bnd (ret (.int (1) : D)) fun y99 => itemM x98 y99) fun y97 => cmpM .LtE x96 y97) (ret t95)) fun k94 => if k94 then (bnd (bnd (bnd (bnd (bnd (bnd (getv r92 3) fun x114 => bnd (bnd (ret (.int (1) : D)) negM) fun y115 => itemM x114 y115) fun x112 => bnd (ret (.int (0) : D)) fun y113 => itemM x112 y113) fun x110 => bnd (bnd (bnd (bnd (bnd (bnd (getv r92 3) fun x122 => bnd (bnd (ret (.int (1) : D)) negM) fun y123 => itemM x122 y123) fun x120 => bnd (ret (.int (1) : D)) fun y121 => itemM x120 y121) fun x118 => bnd (bnd (getv r92 6) fun x124 => bnd (ret []) fun xs125 => ret (x124 :: xs125)) fun xs119 => ret (x118 :: xs119)) (biB false ("max" : Str))) fun x116 => bnd (ret []) fun xs117 => ret (x116 :: xs117)) fun xs111 => ret (x110 :: xs111)) fun xs109 => ret (D.tup xs109)) fun v106 => bnd (getv r92 3) fun x107 => bnd (bnd (ret (.int (1) : D)) negM) fun y108 => bnd (putM base x107 y108 v106) fun _ => ret (Fl.nx r92)) (seqK fun r105 => ret (Fl.nx r105))) else (bnd (bnd (bnd (getv r92 3) fun d127 => bnd (preM ("append" : Str) 1 d127) fun _ => bnd (bnd (bnd (bnd (getv r92 5) fun x132 => bnd (bnd (getv r92 6) fun x134 => bnd (ret []) fun xs135 => ret (x134 :: xs135)) fun xs133 => ret (x132 :: xs133)) fun xs131 => ret (D.tup xs131)) fun x129 => bnd (ret []) fun xs130 => ret (x129 :: xs130)) fun xs128 => meM ⟨gl, cal, NN, base, 10000⟩ ("append" : Str) d127 xs128) fun _ => ret (Fl.nx r92)) (seqK fun r126 => ret (Fl.nx r126)))) (seqK fun r93 => ret (Fl.nx r93))) s87.items r9) (seqK fun r86 => bnd (bnd (getv r86 3) fun d137 => ret (Fl.rt d137)) (seqK fun r136 => ret (Fl.nx r136)))))) [("spread" : Str), ("part" : Str), ("rows" : Str), ("found" : Str), ("ends" : Str), ("low" : Str), ("high" : Str), ("one" : Str), ("other" : Str)] [some p_spread, none, none, none, none, none, none, none, none]
theorem e__law_spans (k : Nat) (keep : Bool) (p_spread : D) : callF gl 10000 (k + 1) keep ("_law_spans" : Str) [p_spread] = runF keep (s__law_spans (callF gl 10000 k) p_spread) := by kernel_rfl
def s__law_right (cal : Bool → Str → List D → M D) (p_cup : D) (base : Nat) : M Fl :=
  (fun (NN : List Str) (r0 : Ly.Env) => bnd (bnd (bnd (bnd (bnd (getv r0 0) fun x5 => bnd (ret []) fun xs6 => ret (x5 :: xs6)) (cal false ("_law_version" : Str))) fun x3 => bnd (bnd (bnd (bnd (getv r0 0) fun x9 => bnd (ret []) fun xs10 => ret (x9 :: xs10)) (cal false ("_law_version" : Str))) fun x7 => bnd (bnd (bnd (bnd (getv r0 0) fun x13 => bnd (ret []) fun xs14 => ret (x13 :: xs14)) (cal false ("_law_version" : Str))) fun x11 => bnd (ret []) fun xs12 => ret (x11 :: xs12)) fun xs8 => ret (x7 :: xs8)) fun xs4 => ret (x3 :: xs4)) fun d2 => asgG (Tg.tp [Tg.ix 6, Tg.ix 7, Tg.ix 8]) (D.tup d2) r0) (seqK fun r1 => bnd (bnd (bnd (bnd (bnd (getv r1 6) fun x19 => bnd (ret []) fun xs20 => ret (x19 :: xs20)) (cal false ("_law_key" : Str))) fun x17 => bnd (bnd (bnd (bnd (getv r1 7) fun x22 => bnd (ret []) fun xs23 => ret (x22 :: xs23)) (cal false ("_law_key" : Str))) fun y21 => cmpM .Lt x17 y21) fun b18 => ret (D.bl b18)) fun d16 => ret (Fl.nx (List.set r1 1 (some d16)))) (seqK fun r15 => bnd (bnd (bnd (bnd (bnd (bnd (bnd (bnd (bnd (bnd (bnd (getv r15 6) fun x42 => bnd (bnd (getv r15 7) fun x44 => bnd (ret []) fun xs45 => ret (x44 :: xs45)) fun xs43 => ret (x42 :: xs43)) (cal false ("is_before" : Str))) fun x40 => bnd (bnd (bnd (bnd (getv r15 6) fun x48 => bnd (bnd (getv r15 6) fun x50 => bnd (ret []) fun xs51 => ret (x50 :: xs51)) fun xs49 => ret (x48 :: xs49)) (cal false ("is_before" : Str))) fun x46 => bnd (ret []) fun xs47 => ret (x46 :: xs47)) fun xs41 => ret (x40 :: xs41)) fun xs39 => ret (D.tup xs39)) fun x37 => bnd (bnd (bnd (bnd (getv r15 1) fun x55 => bnd (bnd (ret (.bl false : D)) fun x57 => bnd (ret []) fun xs58 => ret (x57 :: xs58)) fun xs56 => ret (x55 :: xs56)) fun xs54 => ret (D.tup xs54)) fun x52 => bnd (ret []) fun xs53 => ret (x52 :: xs53)) fun xs38 => ret (x37 :: xs38)) (cal false ("_law_same" : Str))) truM) fun b36 => ret (!b36)) fun t26 => cond t26 (ret t26) (bnd (bnd (getv r15 6) fun x34 => bnd (getv r15 7) fun y35 => cmpM .NotEq x34 y35) fun t27 => cond t27 (bnd (bnd (bnd (getv r15 7) fun x29 => bnd (bnd (getv r15 6) fun x31 => bnd (ret []) fun xs32 => ret (x31 :: xs32)) fun xs30 => ret (x29 :: xs30)) (cal false ("is_before" : Str))) fun x28 => bnd (getv r15 1) fun y33 => cmpM .Eq x28 y33) (ret t27))) fun k25 => if k25 then (bnd (bnd (ret (.bl false : D)) fun d60 => ret (Fl.rt d60)) (seqK fun r59 => ret (Fl.nx r59))) else (ret (Fl.nx r15))) (seqK fun r24 => bnd (bnd (bnd (bnd (bnd (bnd (getv r24 6) fun x74 => bnd (bnd (getv r24 7) fun x76 => bnd (ret []) fun xs77 => ret (x76 :: xs77)) fun xs75 => ret (x74 :: xs75)) (cal false ("is_before" : Str))) truM) fun t63 => cond t63 (bnd (bnd (bnd (bnd (getv r24 7) fun x70 => bnd (bnd (getv r24 8) fun x72 => bnd (ret []) fun xs73 => ret (x72 :: xs73)) fun xs71 => ret (x70 :: xs71)) (cal false ("is_before" : Str))) truM) fun t64 => cond t64 (bnd (bnd (bnd (bnd (getv r24 6) fun x66 => bnd (bnd (getv r24 8) fun x68 => bnd (ret []) fun xs69 => ret (x68 :: xs69)) fun xs67 => ret (x66 :: xs67)) (cal false ("is_before" : Str))) truM) fun b65 => ret (!b65)) (ret t64)) (ret t63)) fun k62 => if k62 then (bnd (bnd (ret (.bl false : D)) fun d79 => ret (Fl.rt d79)) (seqK fun r78 => ret (Fl.nx r78))) else (ret (Fl.nx r24))) (seqK fun r61 => bnd (bnd (bnd (bnd (bnd (getv r61 0) fun x84 => bnd (bnd (ret (.int (5) : D)) fun x86 => bnd (ret []) fun xs87 => ret (x86 :: xs87)) fun xs85 => ret (x84 :: xs85)) (cal false ("_law_range" : Str))) fun x82 => bnd (bnd (bnd (bnd (getv r61 0) fun x90 => bnd (bnd (ret (.int (3) : D)) fun x92 => bnd (ret []) fun xs93 => ret (x92 :: xs93)) fun xs91 => ret (x90 :: xs91)) (cal false ("_law_range" : Str))) fun x88 => bnd (ret []) fun xs89 => ret (x88 :: xs89)) fun xs83 => ret (x82 :: xs83)) fun d81 => asgG (Tg.tp [Tg.ix 9, Tg.ix 10]) (D.tup d81) r61) (seqK fun r80 => bnd (bnd (bnd (bnd (getv r80 6) fun x97 => bnd (bnd (getv r80 7) fun x99 => bnd (bnd (getv r80 8) fun x101 => bnd (ret []) fun xs102 => ret (x101 :: xs102)) fun xs100 => ret (x99 :: xs100)) fun xs98 => ret (x97 :: xs98)) fun xs96 => fresh false (D.lst xs96)) fun d95 => ret (Fl.nx (List.set r80 2 (some d95)))) (seqK fun r94 => bnd (bnd (bnd (bnd (getv r94 9) fun x107 => bnd (getv r94 10) fun y108 => binB false .Add x107 y108) itemsOf) fun s104 => forLoop (guardM s104.refs) (fun x105 r106 => (fun r109 => bnd (bnd (bnd (getv r109 2) fun x112 => bnd (bnd (bnd (bnd (getv r109 3) itemsOf) fun s115 => compLoop (guardM s115.refs) (fun x116 => onB (bindG 4 (Tg.tp [Tg.ix 17, Tg.ix 5]) x116 (Ly.wipe r109 [17, 5])) fun r117 => bnd (ret true) fun b118 => if b118 then (bnd (getv r117 5) fun y119 => ret [y119]) else ret []) s115.items) fun xs114 => if xs114.length ≤ line then fresh false (D.lst xs114) else stuck) fun y113 => binB false .Add x112 y113) fun d111 => ret (Fl.nx (List.set r109 2 (some d111)))) (seqK fun r110 => ret (Fl.nx r110))) (List.set r106 3 (some x105))) s104.items r94) (seqK fun r103 => bnd (bnd (bnd (bnd (bnd (getv r103 9) fun x124 => bnd (ret []) fun xs125 => ret (x124 :: xs125)) (cal false ("_law_spans" : Str))) fun x122 => bnd (bnd (bnd (bnd (getv r103 10) fun x128 => bnd (ret []) fun xs129 => ret (x128 :: xs129)) (cal false ("_law_spans" : Str))) fun x126 => bnd (ret []) fun xs127 => ret (x126 :: xs127)) fun xs123 => ret (x122 :: xs123)) fun d121 => asgG (Tg.tp [Tg.ix 11, Tg.ix 12]) (D.tup d121) r103) (seqK fun r120 => bnd (bnd (ret (.bl false : D)) fun d131 => ret (Fl.nx (List.set r120 4 (some d131)))) (seqK fun r130 => bnd (bnd (bnd (getv r130 11) itemsOf) fun s133 => forLoop (guardM s133.refs) (fun x134 r135 => onB (bindG 4 (Tg.tp [Tg.ix 13, Tg.ix 14]) x134 r135) fun r136 => bnd (bnd (bnd (getv r136 4) fun v139 => bnd (truM v139) fun t140 => cond t140 (ret v139) (bnd (bnd (bnd (bnd (getv r136 12) itemsOf) fun s144 => compLoop (guardM s144.refs) (fun x145 => onB (bindG 4 (Tg.tp [Tg.ix 18, Tg.ix 19]) x145 (Ly.wipe r136 [18, 19])) fun r146 => bnd (bnd (bnd (bnd (getv r146 13) fun x149 => bnd (bnd (getv r146 18) fun x151 => bnd (ret []) fun xs152 => ret (x151 :: xs152)) fun xs150 => ret (x149 :: xs150)) (biB false ("max" : Str))) fun x148 => bnd (bnd (bnd (getv r146 14) fun x154 => bnd (bnd (getv r146 19) fun x156 => bnd (ret []) fun xs157 => ret (x156 :: xs157)) fun xs155 => ret (x154 :: xs155)) (biB false ("min" : Str))) fun y153 => cmpM .Lt x148 y153) fun b147 => if b147 then (bnd (ret (.int (1) : D)) fun y158 => ret [y158]) else ret []) s144.items) fun xs143 => if xs143.length ≤ line then fresh false (D.lst xs143) else stuck) fun x141 => bnd (bnd (bnd (ret []) fun xs160 => fresh false (D.lst xs160)) fun y159 => cmpM .NotEq x141 y159) fun b142 => ret (D.bl b142))) fun d138 => ret (Fl.nx (List.set r136 4 (some d138)))) (seqK fun r137 => ret (Fl.nx r137))) s133.items r130) (seqK fun r132 => bnd (bnd (bnd (bnd (bnd (bnd (bnd (bnd (bnd (bnd (getv r132 9) fun x169 => bnd (ret []) fun xs170 => ret (x169 :: xs170)) (cal false ("count_spans" : Str))) fun x167 => bnd (bnd (bnd (bnd (getv r132 9) fun x173 => bnd (bnd (getv r132 10) fun x175 => bnd (ret []) fun xs176 => ret (x175 :: xs176)) fun xs174 => ret (x173 :: xs174)) (cal false ("may_meet" : Str))) fun x171 => bnd (bnd (bnd (bnd (getv r132 10) fun x179 => bnd (bnd (getv r132 9) fun x181 => bnd (ret []) fun xs182 => ret (x181 :: xs182)) fun xs180 => ret (x179 :: xs180)) (cal false ("may_meet" : Str))) fun x177 => bnd (ret []) fun xs178 => ret (x177 :: xs178)) fun xs172 => ret (x171 :: xs172)) fun xs168 => ret (x167 :: xs168)) fun xs166 => ret (D.tup xs166)) fun x164 => bnd (bnd (bnd (bnd (bnd (bnd (getv r132 11) fun x188 => bnd (ret []) fun xs189 => ret (x188 :: xs189)) (biB false ("len" : Str))) fun x186 => bnd (bnd (getv r132 4) fun x190 => bnd (bnd (getv r132 4) fun x192 => bnd (ret []) fun xs193 => ret (x192 :: xs193)) fun xs191 => ret (x190 :: xs191)) fun xs187 => ret (x186 :: xs187)) fun xs185 => ret (D.tup xs185)) fun x183 => bnd (ret []) fun xs184 => ret (x183 :: xs184)) fun xs165 => ret (x164 :: xs165)) (cal false ("_law_same" : Str))) truM) fun b163 => ret (!b163)) fun k162 => if k162 then (bnd (bnd (ret (.bl false : D)) fun d195 => ret (Fl.rt d195)) (seqK fun r194 => ret (Fl.nx r194))) else (ret (Fl.nx r132))) (seqK fun r161 => bnd (bnd (bnd (getv r161 2) itemsOf) fun s197 => forLoop (guardM s197.refs) (fun x198 r199 => (fun r200 => bnd (bnd (bnd (bnd (bnd (bnd (getv r200 9) fun x206 => bnd (bnd (getv r200 5) fun x208 => bnd (ret []) fun xs209 => ret (x208 :: xs209)) fun xs207 => ret (x206 :: xs207)) (cal false ("_law_is_in" : Str))) fun x204 => bnd (bnd (bnd (bnd (bnd (bnd (getv r200 5) fun x215 => bnd (ret []) fun xs216 => ret (x215 :: xs216)) (cal false ("_law_key" : Str))) fun x213 => bnd (bnd (ret (.int (1) : D)) fun x217 => bnd (ret []) fun xs218 => ret (x217 :: xs218)) fun xs214 => ret (x213 :: xs214)) fun xs212 => ret (D.tup xs212)) fun x210 => bnd (ret []) fun xs211 => ret (x210 :: xs211)) fun xs205 => ret (x204 :: xs205)) fun xs203 => ret (D.tup xs203)) fun d202 => asgG (Tg.tp [Tg.ix 15, Tg.ix 16]) d202 r200) (seqK fun r201 => bnd (bnd (bnd (bnd (bnd (bnd (bnd (bnd (bnd (getv r201 9) fun x241 => bnd (bnd (getv r201 5) fun x243 => bnd (ret []) fun xs244 => ret (x243 :: xs244)) fun xs242 => ret (x241 :: xs242)) (cal false ("is_in" : Str))) fun x239 => bnd (bnd (getv r201 15) fun x245 => bnd (ret []) fun xs246 => ret (x245 :: xs246)) fun xs240 => ret (x239 :: xs240)) (cal false ("_law_same" : Str))) truM) fun b238 => ret (!b238)) fun t221 => cond t221 (ret t221) (bnd (getv r201 15) fun x222 => bnd (bnd (bnd (bnd (bnd (getv r201 11) itemsOf) fun s227 => compLoop (guardM s227.refs) (fun x228 => onB (bindG 4 (Tg.tp [Tg.ix 13, Tg.ix 14]) x228 (Ly.wipe r201 [13, 14])) fun r229 => bnd (bnd (getv r229 13) fun x231 => bnd (getv r229 16) fun y232 => bnd (cmpM .LtE x231 y232) fun b233 => if b233 then (bnd (getv r229 14) fun z234 => cmpM .Lt y232 z234) else ret false) fun b230 => if b230 then (bnd (ret (.int (1) : D)) fun y235 => ret [y235]) else ret []) s227.items) fun xs226 => if xs226.length ≤ line then fresh false (D.lst xs226) else stuck) fun x224 => bnd (bnd (bnd (ret []) fun xs237 => fresh false (D.lst xs237)) fun y236 => cmpM .NotEq x224 y236) fun b225 => ret (D.bl b225)) fun y223 => cmpM .NotEq x222 y223)) fun k220 => if k220 then (bnd (bnd (ret (.bl false : D)) fun d248 => ret (Fl.rt d248)) (seqK fun r247 => ret (Fl.nx r247))) else (ret (Fl.nx r201))) (seqK fun r219 => bnd (bnd (bnd (bnd (getv r219 15) truM) fun t251 => cond t251 (bnd (bnd (bnd (bnd (getv r219 10) fun x254 => bnd (bnd (getv r219 5) fun x256 => bnd (ret []) fun xs257 => ret (x256 :: xs257)) fun xs255 => ret (x254 :: xs255)) (cal false ("_law_is_in" : Str))) truM) fun t252 => cond t252 (bnd (bnd (getv r219 4) truM) fun b253 => ret (!b253)) (ret t252)) (ret t251)) fun k250 => if k250 then (bnd (bnd (ret (.bl false : D)) fun d259 => ret (Fl.rt d259)) (seqK fun r258 => ret (Fl.nx r258))) else (ret (Fl.nx r219))) (seqK fun r249 => ret (Fl.nx r249))))) (List.set r199 5 (some x198))) s197.items r161) (seqK fun r196 => bnd (bnd (bnd (bnd (bnd (getv r196 9) fun x264 => bnd (bnd (bnd (bnd (bnd (ret []) fun xs271 => ret (D.tup xs271)) fun x269 => bnd (ret []) fun xs270 => ret (x269 :: xs270)) fun xs268 => ret (D.tup xs268)) fun x266 => bnd (ret []) fun xs267 => ret (x266 :: xs267)) fun xs265 => ret (x264 :: xs265)) (cal false ("may_meet" : Str))) fun x262 => bnd (bnd (bnd (getv r196 11) fun x273 => bnd (bnd (bnd (ret []) fun xs276 => fresh false (D.lst xs276)) fun y275 => cmpM .NotEq x273 y275) fun b274 => ret (D.bl b274)) fun y272 => cmpM .Eq x262 y272) fun b263 => ret (D.bl b263)) fun d261 => ret (Fl.rt d261)) (seqK fun r260 => ret (Fl.nx r260))))))))))))))) [("cup" : Str), ("due" : Str), ("near" : Str), ("part" : Str), ("meets" : Str), ("version" : Str), ("one" : Str), ("other" : Str), ("third" : Str), ("spread" : Str), ("far" : Str), ("spans" : Str), ("mine" : Str), ("low" : Str), ("high" : Str), ("is_so" : Str), ("key" : Str), ("sign" : Str), ("least" : Str), ("most" : Str)] [some p_cup, none, none, none, none, none, none, none, none, none, none, none, none, none, none, none, none, none, none, none]
theorem e__law_right (k : Nat) (keep : Bool) (p_cup : D) : callF gl 10000 (k + 1) keep ("_law_right" : Str) [p_cup] = runF keep (s__law_right (callF gl 10000 k) p_cup) := by kernel_rfl
def s_law (cal : Bool → Str → List D → M D) (p_script : D) (base : Nat) : M Fl :=
  (fun (NN : List Str) (r0 : Ly.Env) => bnd (bnd (bnd (bnd (getv r0 0) fun x3 => bnd (ret []) fun xs4 => ret (x3 :: xs4)) (cal true ("_law_cup" : Str))) fun d2 => ret (Fl.nx (List.set r0 1 (some d2)))) (seqK fun r1 => bnd (bnd (bnd (bnd (ret (.int (10) : D)) fun x9 => bnd (ret []) fun xs10 => ret (x9 :: xs10)) rngK) fun s6 => forLoop (guardM s6.refs) (fun x7 r8 => (fun r11 => bnd (bnd (bnd (bnd (bnd (bnd (getv r11 1) fun x15 => bnd (ret []) fun xs16 => ret (x15 :: xs16)) (cal false ("_law_right" : Str))) truM) fun b14 => ret (!b14)) fun k13 => if k13 then (bnd (bnd (ret (.bl false : D)) fun d18 => ret (Fl.rt d18)) (seqK fun r17 => ret (Fl.nx r17))) else (ret (Fl.nx r11))) (seqK fun r12 => ret (Fl.nx r12))) (List.set r8 2 (some x7))) s6.items r1) (seqK fun r5 => bnd (bnd (bnd (bnd (ret (.int (1) : D)) fun x22 => bnd (bnd (ret (.int (0) : D)) fun x24 => bnd (bnd (ret (.int (0) : D)) fun x26 => bnd (bnd (bnd (ret []) fun xs30 => ret (D.tup xs30)) fun x28 => bnd (ret []) fun xs29 => ret (x28 :: xs29)) fun xs27 => ret (x26 :: xs27)) fun xs25 => ret (x24 :: xs25)) fun xs23 => ret (x22 :: xs23)) fun xs21 => ret (D.tup xs21)) fun d20 => ret (Fl.nx (List.set r5 3 (some d20)))) (seqK fun r19 => bnd (bnd (bnd (bnd (bnd (bnd (bnd (bnd (bnd (bnd (bnd (bnd (bnd (ret (.str ("^" : Str) : D)) fun x46 => bnd (bnd (getv r19 3) fun x48 => bnd (ret []) fun xs49 => ret (x48 :: xs49)) fun xs47 => ret (x46 :: xs47)) fun xs45 => ret (D.tup xs45)) fun x43 => bnd (ret []) fun xs44 => ret (x43 :: xs44)) fun xs42 => ret (D.tup xs42)) fun x40 => bnd (ret []) fun xs41 => ret (x40 :: xs41)) fun xs39 => ret (D.tup xs39)) fun x37 => bnd (bnd (bnd (bnd (ret (.int (1) : D)) fun x53 => bnd (bnd (ret (.int (5) : D)) fun x55 => bnd (bnd (ret (.int (0) : D)) fun x57 => bnd (bnd (bnd (ret []) fun xs61 => ret (D.tup xs61)) fun x59 => bnd (ret []) fun xs60 => ret (x59 :: xs60)) fun xs58 => ret (x57 :: xs58)) fun xs56 => ret (x55 :: xs56)) fun xs54 => ret (x53 :: xs54)) fun xs52 => ret (D.tup xs52)) fun x50 => bnd (ret []) fun xs51 => ret (x50 :: xs51)) fun xs38 => ret (x37 :: xs38)) (cal false ("is_in" : Str))) fun x35 => bnd (bnd (bnd (bnd (bnd (bnd (bnd (bnd (bnd (bnd (ret (.str ("~" : Str) : D)) fun x73 => bnd (bnd (getv r19 3) fun x75 => bnd (ret []) fun xs76 => ret (x75 :: xs76)) fun xs74 => ret (x73 :: xs74)) fun xs72 => ret (D.tup xs72)) fun x70 => bnd (ret []) fun xs71 => ret (x70 :: xs71)) fun xs69 => ret (D.tup xs69)) fun x67 => bnd (ret []) fun xs68 => ret (x67 :: xs68)) fun xs66 => ret (D.tup xs66)) fun x64 => bnd (bnd (bnd (bnd (ret (.int (1) : D)) fun x80 => bnd (bnd (ret (.int (5) : D)) fun x82 => bnd (bnd (ret (.int (0) : D)) fun x84 => bnd (bnd (bnd (ret []) fun xs88 => ret (D.tup xs88)) fun x86 => bnd (ret []) fun xs87 => ret (x86 :: xs87)) fun xs85 => ret (x84 :: xs85)) fun xs83 => ret (x82 :: xs83)) fun xs81 => ret (x80 :: xs81)) fun xs79 => ret (D.tup xs79)) fun x77 => bnd (ret []) fun xs78 => ret (x77 :: xs78)) fun xs65 => ret (x64 :: xs65)) (cal false ("is_in" : Str))) fun x62 => bnd (ret []) fun xs63 => ret (x62 :: xs63)) fun xs36 => ret (x35 :: xs36)) fun xs34 => ret (D.tup xs34)) fun x33 => bnd (bnd (bnd (ret (.bl true : D)) fun x91 => bnd (bnd (ret (.bl false : D)) fun x93 => bnd (ret []) fun xs94 => ret (x93 :: xs94)) fun xs92 => ret (x91 :: xs92)) fun xs90 => ret (D.tup xs90)) fun y89 => cmpM .NotEq x33 y89) fun k32 => if k32 then (bnd (bnd (ret (.bl false : D)) fun d96 => ret (Fl.rt d96)) (seqK fun r95 => ret (Fl.nx r95))) else (ret (Fl.nx r19))) (seqK fun r31 => bnd (bnd (bnd (bnd (bnd (bnd (ret (.str ("0" : Str) : D)) fun x103 => bnd (ret []) fun xs104 => ret (x103 :: xs104)) fun xs102 => ret (D.tup xs102)) fun x100 => bnd (bnd (bnd (bnd (ret (.str ("2" : Str) : D)) fun x108 => bnd (ret []) fun xs109 => ret (x108 :: xs109)) fun xs107 => ret (D.tup xs107)) fun x105 => bnd (bnd (bnd (bnd (ret (.str ("2" : Str) : D)) fun x113 => bnd (bnd (ret (.str ("a" : Str) : D)) fun x115 => bnd (ret []) fun xs116 => ret (x115 :: xs116)) fun xs114 => ret (x113 :: xs114)) fun xs112 => ret (D.tup xs112)) fun x110 => bnd (bnd (bnd (bnd (ret (.str ("10" : Str) : D)) fun x120 => bnd (ret []) fun xs121 => ret (x120 :: xs121)) fun xs119 => ret (D.tup xs119)) fun x117 => bnd (bnd (bnd (bnd (ret (.str ("01a" : Str) : D)) fun x125 => bnd (ret []) fun xs126 => ret (x125 :: xs126)) fun xs124 => ret (D.tup xs124)) fun x122 => bnd (bnd (bnd (bnd (ret (.str ("a" : Str) : D)) fun x130 => bnd (ret []) fun xs131 => ret (x130 :: xs131)) fun xs129 => ret (D.tup xs129)) fun x127 => bnd (bnd (bnd (bnd (ret (.str ("a" : Str) : D)) fun x135 => bnd (bnd (ret (.str ("0" : Str) : D)) fun x137 => bnd (ret []) fun xs138 => ret (x137 :: xs138)) fun xs136 => ret (x135 :: xs136)) fun xs134 => ret (D.tup xs134)) fun x132 => bnd (bnd (bnd (bnd (ret (.str ("a" : Str) : D)) fun x142 => bnd (bnd (ret (.str ("b" : Str) : D)) fun x144 => bnd (ret []) fun xs145 => ret (x144 :: xs145)) fun xs143 => ret (x142 :: xs143)) fun xs141 => ret (D.tup xs141)) fun x139 => bnd (bnd (bnd (bnd (ret (.str ("aa" : Str) : D)) fun x149 => bnd (ret []) fun xs150 => ret (x149 :: xs150)) fun xs148 => ret (D.tup xs148)) fun x146 => bnd (bnd (bnd (ret []) fun xs153 => ret (D.tup xs153)) fun x151 => bnd (ret []) fun xs152 => ret (x151 :: xs152)) fun xs147 => ret (x146 :: xs147)) fun xs140 => ret (x139 :: xs140)) fun xs133 => ret (x132 :: xs133)) fun xs128 => ret (x127 :: xs128)) fun xs123 => ret (x122 :: xs123)) fun xs118 => ret (x117 :: xs118)) fun xs111 => ret (x110 :: xs111)) fun xs106 => ret (x105 :: xs106)) fun xs101 => ret (x100 :: xs101)) fun xs99 => fresh false (D.lst xs99)) fun d98 => ret (Fl.nx (List.set r31 4 (some d98)))) (seqK fun r97 => bnd (bnd (bnd (bnd (getv r97 1) fun x156 => bnd (bnd (ret (.int (10000) : D)) fun x158 => bnd (ret []) fun xs159 => ret (x158 :: xs159)) fun xs157 => ret (x156 :: xs157)) (cal false ("_law_roll" : Str))) fun d155 => ret (Fl.nx (List.set r97 5 (some d155)))) (seqK fun r154 => bnd (bnd (bnd (bnd (bnd (getv r154 4) itemsOf) fun s163 => compLoop (guardM s163.refs) (fun x164 => (fun r165 => bnd (ret true) fun b166 => if b166 then (bnd (bnd (bnd (getv r165 5) fun x169 => bnd (bnd (ret (.int (1) : D)) fun x171 => bnd (bnd (ret (.int (2) : D)) fun x173 => bnd (bnd (getv r165 11) fun x175 => bnd (ret []) fun xs176 => ret (x175 :: xs176)) fun xs174 => ret (x173 :: xs174)) fun xs172 => ret (x171 :: xs172)) fun xs170 => ret (x169 :: xs170)) fun xs168 => ret (D.tup xs168)) fun y167 => ret [y167]) else ret []) (List.set (Ly.wipe r154 [11]) 11 (some x164))) s163.items) fun xs162 => if xs162.length ≤ line then fresh false (D.lst xs162) else stuck) fun d161 => ret (Fl.nx (List.set r154 6 (some d161)))) (seqK fun r160 => bnd (bnd (bnd (bnd (bnd (bnd (getv r160 6) fun x183 => bnd (ret []) fun xs184 => ret (x183 :: xs184)) (biB false ("len" : Str))) fun x181 => bnd (ret []) fun xs182 => ret (x181 :: xs182)) rngK) fun s178 => forLoop (guardM s178.refs) (fun x179 r180 => (fun r185 => bnd (bnd (bnd (bnd (bnd (bnd (getv r185 6) itemsOf) fun s190 => compLoop (guardM s190.refs) (fun x191 => (fun r192 => bnd (ret true) fun b193 => if b193 then (bnd (bnd (bnd (bnd (getv r192 6) fun x197 => bnd (getv r192 7) fun y198 => itemM x197 y198) fun x195 => bnd (bnd (getv r192 12) fun x199 => bnd (ret []) fun xs200 => ret (x199 :: xs200)) fun xs196 => ret (x195 :: xs196)) (cal false ("is_before" : Str))) fun y194 => ret [y194]) else ret []) (List.set (Ly.wipe r185 [12]) 12 (some x191))) s190.items) fun xs189 => if xs189.length ≤ line then fresh false (D.lst xs189) else stuck) fun x188 => bnd (bnd (bnd (bnd (bnd (ret (.bl false : D)) fun x207 => bnd (ret []) fun xs208 => ret (x207 :: xs208)) fun xs206 => fresh false (D.lst xs206)) fun x204 => bnd (bnd (getv r185 7) fun x209 => bnd (ret (.int (1) : D)) fun y210 => binB false .Add x209 y210) fun y205 => binB false .Mult x204 y205) fun x202 => bnd (bnd (bnd (bnd (ret (.bl true : D)) fun x214 => bnd (ret []) fun xs215 => ret (x214 :: xs215)) fun xs213 => fresh false (D.lst xs213)) fun x211 => bnd (bnd (bnd (bnd (bnd (getv r185 6) fun x220 => bnd (ret []) fun xs221 => ret (x220 :: xs221)) (biB false ("len" : Str))) fun x218 => bnd (getv r185 7) fun y219 => binB false .Sub x218 y219) fun x216 => bnd (ret (.int (1) : D)) fun y217 => binB false .Sub x216 y217) fun y212 => binB false .Mult x211 y212) fun y203 => binB false .Add x202 y203) fun y201 => cmpM .NotEq x188 y201) fun k187 => if k187 then (bnd (bnd (ret (.bl false : D)) fun d223 => ret (Fl.rt d223)) (seqK fun r222 => ret (Fl.nx r222))) else (ret (Fl.nx r185))) (seqK fun r186 => ret (Fl.nx r186))) (List.set r180 7 (some x179))) s178.items r160) (seqK fun r177 => bnd (bnd (bnd (bnd (bnd (getv r177 5) fun x229 => bnd (bnd (ret (.int (0) : D)) fun x231 => bnd (bnd (ret (.int (0) : D)) fun x233 => bnd (bnd (bnd (ret []) fun xs237 => ret (D.tup xs237)) fun x235 => bnd (ret []) fun xs236 => ret (x235 :: xs236)) fun xs234 => ret (x233 :: xs234)) fun xs232 => ret (x231 :: xs232)) fun xs230 => ret (x229 :: xs230)) fun xs228 => ret (D.tup xs228)) fun x226 => bnd (bnd (bnd (bnd (getv r177 5) fun x241 => bnd (bnd (ret (.int (0) : D)) fun x243 => bnd (bnd (ret (.int (1) : D)) fun x245 => bnd (bnd (bnd (ret []) fun xs249 => ret (D.tup xs249)) fun x247 => bnd (ret []) fun xs248 => ret (x247 :: xs248)) fun xs246 => ret (x245 :: xs246)) fun xs244 => ret (x243 :: xs244)) fun xs242 => ret (x241 :: xs242)) fun xs240 => ret (D.tup xs240)) fun x238 => bnd (ret []) fun xs239 => ret (x238 :: xs239)) fun xs227 => ret (x226 :: xs227)) fun d225 => asgG (Tg.tp [Tg.ix 9, Tg.ix 10]) (D.tup d225) r177) (seqK fun r224 => bnd (bnd (bnd (bnd (bnd (bnd (bnd (bnd (bnd (bnd (bnd (bnd (ret (.str ("<" : Str) : D)) fun x264 => bnd (bnd (getv r224 9) fun x266 => bnd (ret []) fun xs267 => ret (x266 :: xs267)) fun xs265 => ret (x264 :: xs265)) fun xs263 => ret (D.tup xs263)) fun x261 => bnd (ret []) fun xs262 => ret (x261 :: xs262)) fun xs260 => ret (D.tup xs260)) fun x258 => bnd (bnd (bnd (bnd (bnd (bnd (ret (.str (">=" : Str) : D)) fun x274 => bnd (bnd (getv r224 9) fun x276 => bnd (ret []) fun xs277 => ret (x276 :: xs277)) fun xs275 => ret (x274 :: xs275)) fun xs273 => ret (D.tup xs273)) fun x271 => bnd (ret []) fun xs272 => ret (x271 :: xs272)) fun xs270 => ret (D.tup xs270)) fun x268 => bnd (ret []) fun xs269 => ret (x268 :: xs269)) fun xs259 => ret (x258 :: xs259)) fun xs257 => ret (D.tup xs257)) fun x255 => bnd (ret []) fun xs256 => ret (x255 :: xs256)) (cal false ("count_spans" : Str))) fun x253 => bnd (bnd (bnd (bnd (bnd (bnd (bnd (bnd (bnd (bnd (ret (.str ("<" : Str) : D)) fun x289 => bnd (bnd (getv r224 9) fun x291 => bnd (ret []) fun xs292 => ret (x291 :: xs292)) fun xs290 => ret (x289 :: xs290)) fun xs288 => ret (D.tup xs288)) fun x286 => bnd (ret []) fun xs287 => ret (x286 :: xs287)) fun xs285 => ret (D.tup xs285)) fun x283 => bnd (bnd (bnd (bnd (bnd (bnd (ret (.str (">" : Str) : D)) fun x299 => bnd (bnd (getv r224 9) fun x301 => bnd (ret []) fun xs302 => ret (x301 :: xs302)) fun xs300 => ret (x299 :: xs300)) fun xs298 => ret (D.tup xs298)) fun x296 => bnd (ret []) fun xs297 => ret (x296 :: xs297)) fun xs295 => ret (D.tup xs295)) fun x293 => bnd (ret []) fun xs294 => ret (x293 :: xs294)) fun xs284 => ret (x283 :: xs284)) fun xs282 => ret (D.tup xs282)) fun x280 => bnd (ret []) fun xs281 => ret (x280 :: xs281)) (cal false ("count_spans" : Str))) fun x278 => bnd (bnd (bnd (bnd (bnd (bnd (bnd (bnd (bnd (bnd (ret (.str ("<" : Str) : D)) fun x314 => bnd (bnd (getv r224 9) fun x316 => bnd (ret []) fun xs317 => ret (x316 :: xs317)) fun xs315 => ret (x314 :: xs315)) fun xs313 => ret (D.tup xs313)) fun x311 => bnd (ret []) fun xs312 => ret (x311 :: xs312)) fun xs310 => ret (D.tup xs310)) fun x308 => bnd (ret []) fun xs309 => ret (x308 :: xs309)) fun xs307 => ret (D.tup xs307)) fun x305 => bnd (bnd (bnd (bnd (bnd (bnd (bnd (bnd (ret (.str (">=" : Str) : D)) fun x327 => bnd (bnd (getv r224 9) fun x329 => bnd (ret []) fun xs330 => ret (x329 :: xs330)) fun xs328 => ret (x327 :: xs328)) fun xs326 => ret (D.tup xs326)) fun x324 => bnd (ret []) fun xs325 => ret (x324 :: xs325)) fun xs323 => ret (D.tup xs323)) fun x321 => bnd (ret []) fun xs322 => ret (x321 :: xs322)) fun xs320 => ret (D.tup xs320)) fun x318 => bnd (ret []) fun xs319 => ret (x318 :: xs319)) fun xs306 => ret (x305 :: xs306)) (cal false ("may_meet" : Str))) fun x303 => bnd (bnd (bnd (bnd (bnd (bnd (bnd (bnd (bnd (bnd (ret (.str (">" : Str) : D)) fun x342 => bnd (bnd (getv r224 10) fun x344 => bnd (ret []) fun xs345 => ret (x344 :: xs345)) fun xs343 => ret (x342 :: xs343)) fun xs341 => ret (D.tup xs341)) fun x339 => bnd (bnd (bnd (bnd (ret (.str ("<" : Str) : D)) fun x349 => bnd (bnd (getv r224 9) fun x351 => bnd (ret []) fun xs352 => ret (x351 :: xs352)) fun xs350 => ret (x349 :: xs350)) fun xs348 => ret (D.tup xs348)) fun x346 => bnd (ret []) fun xs347 => ret (x346 :: xs347)) fun xs340 => ret (x339 :: xs340)) fun xs338 => ret (D.tup xs338)) fun x336 => bnd (ret []) fun xs337 => ret (x336 :: xs337)) fun xs335 => ret (D.tup xs335)) fun x333 => bnd (ret []) fun xs334 => ret (x333 :: xs334)) (cal false ("count_spans" : Str))) fun x331 => bnd (ret []) fun xs332 => ret (x331 :: xs332)) fun xs304 => ret (x303 :: xs304)) fun xs279 => ret (x278 :: xs279)) fun xs254 => ret (x253 :: xs254)) fun xs252 => ret (D.tup xs252)) fun d251 => ret (Fl.nx (List.set r224 8 (some d251)))) (seqK fun r250 => bnd (bnd (bnd (bnd (getv r250 8) fun x355 => bnd (bnd (bnd (bnd (ret (.int (1) : D)) fun x360 => bnd (bnd (ret (.int (2) : D)) fun x362 => bnd (bnd (ret (.bl false : D)) fun x364 => bnd (bnd (ret (.int (0) : D)) fun x366 => bnd (ret []) fun xs367 => ret (x366 :: xs367)) fun xs365 => ret (x364 :: xs365)) fun xs363 => ret (x362 :: xs363)) fun xs361 => ret (x360 :: xs361)) fun xs359 => ret (D.tup xs359)) fun x357 => bnd (ret []) fun xs358 => ret (x357 :: xs358)) fun xs356 => ret (x355 :: xs356)) (cal false ("_law_same" : Str))) fun d354 => ret (Fl.rt d354)) (seqK fun r353 => ret (Fl.nx r353))))))))))))) [("script" : Str), ("cup" : Str), ("turn" : Str), ("lone" : Str), ("rows" : Str), ("first" : Str), ("versions" : Str), ("at" : Str), ("told" : Str), ("low" : Str), ("high" : Str), ("words" : Str), ("own" : Str)] [some p_script, none, none, none, none, none, none, none, none, none, none, none, none]
theorem e_law (k : Nat) (keep : Bool) (p_script : D) : callF gl 10000 (k + 1) keep ("law" : Str) [p_script] = runF keep (s_law (callF gl 10000 k) p_script) := by kernel_rfl
end k85

/-! k85: spans over things with a whole number as their place: no program in sight. -/
set_option autoImplicit false
namespace k85
section
variable {α : Type} (code : α → Int)
def mxc (x : α) (xs : List α) : α := xs.foldl (fun a y => if code a < code y then y else a) x
def mnc (x : α) (xs : List α) : α := xs.foldl (fun a y => if code y < code a then y else a) x
theorem mxc_le (t : Int) : ∀ (xs : List α) (x : α), code (mxc code x xs) ≤ t ↔ code x ≤ t ∧ ∀ y ∈ xs, code y ≤ t
  | [], x => by simp [mxc]
  | y :: ys, x => by
    have ih := mxc_le t ys (if code x < code y then y else x)
    show code (mxc code (if code x < code y then y else x) ys) ≤ t ↔ _
    rw [ih]
    simp only [List.mem_cons, forall_eq_or_imp]
    split <;> constructor <;> intro h
    · exact ⟨by omega, h.1, h.2⟩
    · exact ⟨h.2.1, h.2.2⟩
    · exact ⟨h.1, by omega, h.2⟩
    · exact ⟨h.1, h.2.2⟩
theorem lt_mnc (t : Int) : ∀ (xs : List α) (x : α), t < code (mnc code x xs) ↔ t < code x ∧ ∀ y ∈ xs, t < code y
  | [], x => by simp [mnc]
  | y :: ys, x => by
    have ih := lt_mnc t ys (if code y < code x then y else x)
    show t < code (mnc code (if code y < code x then y else x) ys) ↔ _
    rw [ih]
    simp only [List.mem_cons, forall_eq_or_imp]
    split <;> constructor <;> intro h
    · exact ⟨by omega, h.1, h.2⟩
    · exact ⟨h.2.1, h.2.2⟩
    · exact ⟨h.1, by omega, h.2⟩
    · exact ⟨h.1, h.2.2⟩
theorem mxc_mem : ∀ (xs : List α) (x : α), mxc code x xs = x ∨ mxc code x xs ∈ xs
  | [], x => .inl rfl
  | y :: ys, x => by
    show mxc code (if code x < code y then y else x) ys = x ∨ mxc code (if code x < code y then y else x) ys ∈ _
    rcases mxc_mem ys (if code x < code y then y else x) with h | h
    · rw [h]
      split
      · exact .inr List.mem_cons_self
      · exact .inl rfl
    · exact .inr (List.mem_cons_of_mem _ h)
theorem mnc_mem : ∀ (xs : List α) (x : α), mnc code x xs = x ∨ mnc code x xs ∈ xs
  | [], x => .inl rfl
  | y :: ys, x => by
    show mnc code (if code y < code x then y else x) ys = x ∨ mnc code (if code y < code x then y else x) ys ∈ _
    rcases mnc_mem ys (if code y < code x then y else x) with h | h
    · rw [h]
      split
      · exact .inr List.mem_cons_self
      · exact .inl rfl
    · exact .inr (List.mem_cons_of_mem _ h)
/-- is a place in a span -/
def inS (x : Int) (p : α × α) : Prop := code p.1 ≤ x ∧ x < code p.2
def mergeR : α × α → List (α × α) → List (α × α)
  | cur, [] => [cur]
  | cur, r :: rs => if code r.1 ≤ code cur.2 then mergeR (cur.1, mxc code cur.2 [r.2]) rs else cur :: mergeR r rs
def merge : List (α × α) → List (α × α)
  | [] => []
  | r :: rs => mergeR code r rs
theorem mergeR_ne (cur : α × α) (rs : List (α × α)) : mergeR code cur rs ≠ [] := by
  induction rs generalizing cur with
  | nil => simp [mergeR]
  | cons r rs ih =>
    unfold mergeR
    split
    · exact ih _
    · simp
theorem merge_nil (rs : List (α × α)) : merge code rs = [] ↔ rs = [] := by
  cases rs with
  | nil => simp [merge]
  | cons r rs => simp [merge, mergeR_ne]
theorem mx1 (a b : α) : mxc code a [b] = if code a < code b then b else a := rfl
theorem mn1 (a b : α) : mnc code a [b] = if code b < code a then b else a := rfl
theorem mergeR_cover (x : Int) : ∀ (rs : List (α × α)) (cur : α × α), (∀ r ∈ rs, code cur.1 ≤ code r.1) → rs.Pairwise (fun p q => code p.1 ≤ code q.1) → ((∃ q ∈ mergeR code cur rs, inS code x q) ↔ inS code x cur ∨ ∃ r ∈ rs, inS code x r)
  | [], cur, _, _ => by simp [mergeR]
  | r :: rs, cur, h, hp => by
    have hr := h r List.mem_cons_self
    have hrs : ∀ z ∈ rs, code cur.1 ≤ code z.1 := fun z hz => h z (List.mem_cons_of_mem _ hz)
    rw [List.pairwise_cons] at hp
    unfold mergeR
    split
    · rename_i hle
      rw [mergeR_cover x rs (cur.1, mxc code cur.2 [r.2]) hrs hp.2]
      simp only [List.mem_cons, exists_eq_or_imp]
      have : inS code x (cur.1, mxc code cur.2 [r.2]) ↔ inS code x cur ∨ inS code x r := by
        rw [mx1]
        unfold inS
        dsimp only
        split <;> omega
      rw [this, or_assoc]
    · simp only [List.mem_cons, exists_eq_or_imp]
      rw [mergeR_cover x rs r hp.1 hp.2]
theorem mergeR_pos : ∀ (rs : List (α × α)) (cur : α × α), code cur.1 < code cur.2 → (∀ r ∈ rs, code r.1 < code r.2) → ∀ q ∈ mergeR code cur rs, code q.1 < code q.2
  | [], cur, h, _, q, hq => by
    simp only [mergeR, List.mem_singleton] at hq
    rw [hq]; exact h
  | r :: rs, cur, h, hr, q, hq => by
    have hr0 := hr r List.mem_cons_self
    have hrs : ∀ z ∈ rs, code z.1 < code z.2 := fun z hz => hr z (List.mem_cons_of_mem _ hz)
    unfold mergeR at hq
    split at hq
    · refine mergeR_pos rs _ ?_ hrs q hq
      rw [mx1]
      dsimp only
      split <;> omega
    · rcases List.mem_cons.mp hq with rfl | hq
      · exact h
      · exact mergeR_pos rs r hr0 hrs q hq
/-- the order of rows -/
def ltP (p q : α × α) : Bool := decide (code p.1 < code q.1 ∨ (code p.1 = code q.1 ∧ code p.2 < code q.2))
def sortP (rs : List (α × α)) : List (α × α) := rs.mergeSort fun a b => !ltP code b a
theorem sortP_mem {rs : List (α × α)} {p : α × α} : p ∈ sortP code rs ↔ p ∈ rs := List.mem_mergeSort
theorem sortP_sorted (rs : List (α × α)) : (sortP code rs).Pairwise fun p q => code p.1 ≤ code q.1 := by
  have h := List.pairwise_mergeSort (le := fun a b => !ltP code b a) (fun a b c h1 h2 => by
    simp only [ltP, Bool.not_eq_true', decide_eq_false_iff_not] at h1 h2 ⊢
    omega) (fun a b => by
    simp only [ltP, Bool.or_eq_true, Bool.not_eq_true', decide_eq_false_iff_not]
    omega) rs
  refine List.Pairwise.imp ?_ h
  intro a b h
  simp only [ltP, Bool.not_eq_true', decide_eq_false_iff_not] at h
  omega
def spans (rs : List (α × α)) : List (α × α) := merge code (sortP code rs)
theorem spans_cover (x : Int) (rs : List (α × α)) : (∃ q ∈ spans code rs, inS code x q) ↔ ∃ r ∈ rs, inS code x r := by
  have hs := sortP_sorted code rs
  have hm : (∃ r ∈ rs, inS code x r) ↔ ∃ r ∈ sortP code rs, inS code x r := by
    constructor
    · rintro ⟨r, h, i⟩; exact ⟨r, (sortP_mem code).mpr h, i⟩
    · rintro ⟨r, h, i⟩; exact ⟨r, (sortP_mem code).mp h, i⟩
  rw [hm]
  unfold spans
  cases h : sortP code rs with
  | nil => simp [merge]
  | cons r rs' =>
    rw [h, List.pairwise_cons] at hs
    show (∃ q ∈ mergeR code r rs', inS code x q) ↔ _
    rw [mergeR_cover code x rs' r hs.1 hs.2]
    simp
theorem spans_pos (rs : List (α × α)) (hp : ∀ r ∈ rs, code r.1 < code r.2) : ∀ q ∈ spans code rs, code q.1 < code q.2 := by
  unfold spans
  cases h : sortP code rs with
  | nil => intro q hq; cases hq
  | cons r rs' =>
    have hm : ∀ z ∈ r :: rs', code z.1 < code z.2 := fun z hz => hp z ((sortP_mem code).mp (by rw [h]; exact hz))
    exact mergeR_pos code rs' r (hm r List.mem_cons_self) fun z hz => hm z (List.mem_cons_of_mem _ hz)
end
end k85

/-! k85: the plain law (needs the module Sh_k85, which mk.sh prints). -/
set_option linter.all false
set_option maxRecDepth 100000
namespace k85
open PySem PySem.Spec PyProof.Rows L2 Ly
theorem roll_ok (k : Nat) (S : Sto) (c0 c1 m : Int) (hm : 0 < m) (hm2 : m < 1073741824) (hS : S[0]? = some (.lst [.int c0, .int c1])) :
    ∃ r c0' c1' : Int, 0 ≤ r ∧ r < m ∧ callF gl 10000 (k + 1) false "_law_roll" [.ref 0, .int m] S = .ok (.int r) (S.set 0 (.lst [.int c0', .int c1'])) := by
  rw [e__law_roll]
  have hlen : 0 < S.length := (List.getElem?_eq_some_iff.mp hS).1
  by_cases h0 : 0 < c0
  · refine ⟨c0 % m, c0 / m, c1, Int.emod_nonneg _ (by omega), Int.emod_lt_of_pos _ hm, ?_⟩
    have : s__law_roll (callF gl 10000 k) (.ref 0) (.int m) S.length S = .ok (.rt (.int (c0 % m))) (S.set 0 (.lst [.int (c0 / m), .int c1])) := by
      unfold s__law_roll
      have hb1 : biD "int" [D.int c0] = some (.int c0) := by rfl
      simp [bnd, Ly.ret, getv, seqK, itemM, viewed, view, hS, itemD, L2.atI, L2.ixN, ofOp, cmpM, cmpD, ltD_int, h0, biB, hb1, isList, isDct, binB, binD, hm, hm2, putM, setIx, mayHold, closedD]
    rw [runF_data this rfl, take_self (by simp)]
  · have hgo : ∃ c1' r : Int, 0 ≤ r ∧ r < m ∧ s__law_roll (callF gl 10000 k) (.ref 0) (.int m) S.length S = .ok (.rt (.int r)) (S.set 0 (.lst [.int c0, .int c1'])) := by
      refine ⟨(c1 * 31459 + 8419) % 2147483399, ((c1 * 31459 + 8419) % 2147483399 * ((c1 * 31459 + 8419) % 2147483399 + 597)) % 2147483563 / 797 % m, ?_, ?_, ?_⟩
      rotate_left 2
      · unfold s__law_roll
        have hb1 : ∀ i, biD "int" [D.int i] = some (.int i) := fun i => by rfl
        have e1 : smallB ((c1 * 31459 + 8419) % 2147483399) = true := by
          have h1 := Int.emod_nonneg (c1 * 31459 + 8419) (show (2147483399 : Int) ≠ 0 by decide)
          have h2 := Int.emod_lt_of_pos (c1 * 31459 + 8419) (show (0 : Int) < 2147483399 by decide)
          unfold smallB
          simp only [Bool.and_eq_true, decide_eq_true_eq]
          omega
        have e0 : smallB 31459 = true := by decide
        have hn : ∀ x, (S.set 0 x)[0]? = some x := fun x => List.getElem?_set_self hlen
        simp [bnd, Ly.ret, getv, seqK, itemM, viewed, view, hS, itemD, L2.atI, L2.ixN, ofOp, cmpM, cmpD, ltD_int, h0, biB, hb1, isList, isDct, binB, binD, hm, hm2, putM, setIx, mayHold, closedD, e0, e1, hn]
      · exact Int.emod_nonneg _ (by omega)
      · exact Int.emod_lt_of_pos _ hm
    obtain ⟨c1', r, h1, h2, this⟩ := hgo
    refine ⟨r, c0, c1', h1, h2, ?_⟩
    rw [runF_data this rfl, take_self (by simp)]
theorem cup_ok (k : Nat) (ns : List Int) (hn : ns.length ≤ 1000) : ∃ c0 c1 : Int, callF gl 10000 (k + 1) true "_law_cup" [.set (ns.map .int)] [] = .ok (.ref 0) [.lst [.int c0, .int c1]] := by
  rw [e__law_cup]
  obtain ⟨i, hi⟩ : ∃ i, L2.atI (ns.map D.int ++ [.int 0]) 0 = some (.int i) := by
    cases ns with
    | nil => exact ⟨0, rfl⟩
    | cons a r => exact ⟨a, by
        have : (0 : Int) < ((a :: r).map D.int ++ [D.int 0]).length := by simp; omega
        unfold L2.atI L2.ixN
        rw [if_pos (Int.le_refl 0), if_pos this]
        rfl⟩
  let a : Int := if i < 0 then -i else i
  have hb1 : ∀ i, biD "int" [D.int i] = some (.int i) := fun i => by rfl
  have hb2 : ∀ i, biD "abs" [D.int i] = some (.int (if i < 0 then -i else i)) := fun i => by rfl
  have hb3 : ∀ xs, biD "list" [D.set xs] = some (.lst xs) := fun i => by rfl
  have hl : ns.length + 1 ≤ line := by unfold line; omega
  have e0 : smallB 467 = true := by decide
  have e1 : smallB 10 = true := by decide
  have key : ∃ c0 c1 : Int, s__law_cup (callF gl 10000 k) (.set (ns.map .int)) 0 [] = .ok (.rt (.ref 0)) [.lst [.int c0, .int c1]] := by
    unfold s__law_cup
    generalize hA : (if i < 0 then -i else i) = A at hb2
    have hA2 : biD "abs" [D.int i] = some (.int A) := by rw [hb2, hA]
    clear hb2
    by_cases hc : (1000000000000000000 : Int) ≤ A
    · refine ⟨A / 203, (A * 467 + 4787) % 2077503101 + 337, ?_⟩
      simp [bnd, Ly.ret, getv, seqK, itemM, viewed, view, itemD, hi, ofOp, cmpM, cmpD, ltD_int, biB, hb1, hA2, hb3, isList, isDct, binB, binD, e0, e1, hl, Ly.fresh, hc]
    · refine ⟨0, (A * 467 + 4787) % 2077503101 + 337, ?_⟩
      simp [bnd, Ly.ret, getv, seqK, itemM, viewed, view, itemD, hi, ofOp, cmpM, cmpD, ltD_int, biB, hb1, hA2, hb3, isList, isDct, binB, binD, e0, e1, hl, Ly.fresh, hc]
  obtain ⟨c0, c1, h⟩ := key
  refine ⟨c0, c1, ?_⟩
  have h' : s__law_cup (callF gl 10000 k) (.set (ns.map .int)) ([] : Sto).length [] = .ok (.rt (.ref 0)) [.lst [.int c0, .int c1]] := h
  unfold runF bnd
  rw [h']
  rfl
theorem roll_gen (k : Nat) (m : Int) (hm : 0 < m) (hm2 : m < 1073741824) : Gen (callF gl 10000 (k + 1) false "_law_roll" [.ref 0, .int m]) (fun d => ∃ r : Int, d = .int r ∧ 0 ≤ r ∧ r < m) := fun S ⟨c0, c1, hS⟩ => by
  obtain ⟨r, e0, e1, h1, h2, h3⟩ := roll_ok k S c0 c1 m hm hm2 hS
  exact ⟨.int r, _, ⟨r, rfl, h1, h2⟩, ⟨e0, e1, rfl⟩, h3⟩
theorem some_gen (k : Nat) (xs : List D) (hne : xs ≠ []) (hl : xs.length < 1000) (hc : closedL xs = true) (t : D) (ht : t = .lst xs ∨ t = .tup xs) : Gen (callF gl 10000 (k + 2) false "_law_some" [.ref 0, t]) (fun d => d ∈ xs) := by
  rw [e__law_some]
  refine runF_gen fun n => ?_
  unfold s__law_some
  have hpos : 0 < xs.length := List.length_pos_iff.mpr hne
  have g1 : Gen (callF gl 10000 (k + 1) false "_law_roll" [.ref 0, .int xs.length]) _ := roll_gen k xs.length (by omega) (by omega)
  have hlen : biB false "len" [t] = Ly.ret (.int xs.length) := by
    rcases ht with rfl | rfl
    · exact len_lst _ _
    · exact len_tup _ _
  have hit : ∀ i, itemM t (.int i) = ofOp (L2.atI xs i) := fun i => by
    rcases ht with rfl | rfl
    · exact item_lst _ _
    · exact item_tup _ _
  simp only [getv, List.getElem?_cons_zero, List.getElem?_cons_succ, ret_bnd, bnd_bnd, hlen, hit]
  refine Gen.bnd g1 fun d ⟨r, hd, h0, h1⟩ => ?_
  subst hd
  obtain ⟨d, e, hm⟩ := atI_in h0 h1
  simp only [hit, e, ofOp, ret_bnd, seqK]
  exact Gen.ret ⟨d, rfl, closedL_mem hc d hm, hm⟩
/-! ### versions -/
structure Ver where
  a : Int
  b : Int
  c : Int
  ws : List Str
def encV (v : Ver) : D := .tup [.int v.a, .int v.b, .int v.c, .tup (v.ws.map .str)]
def words8 : List Str := ["0", "2", "10", "a", "rc", "01a", "b2", "z9"]
def words10 : List Str := ["0", "2", "10", "a", "rc", "01a", "b2", "z9", "b", "aa"]
structure GoodV (v : Ver) : Prop where
  a : 0 ≤ v.a ∧ v.a ≤ 9999
  b : 0 ≤ v.b ∧ v.b ≤ 9999
  c : 0 ≤ v.c ∧ v.c ≤ 9999
  ws : v.ws.length ≤ 2 ∧ ∀ w ∈ v.ws, w ∈ words10
theorem closed_strs : ∀ ws : List Str, closedL (ws.map D.str) = true
  | [] => rfl
  | w :: ws => by simp only [List.map_cons, closedL, closedD, closed_strs ws]; rfl
theorem encV_closed (v : Ver) : closedD (encV v) = true := by simp [encV, closedD, closedL, closed_strs]
theorem strs_of : ∀ {ys : List D}, (∀ y ∈ ys, y ∈ words8.map D.str) → ∃ ws : List Str, ys = ws.map D.str ∧ ∀ w ∈ ws, w ∈ words8
  | [], _ => ⟨[], rfl, fun w h => by cases h⟩
  | y :: ys, h => by
    obtain ⟨ws, rfl, hw⟩ := strs_of fun y hy => h y (List.mem_cons_of_mem _ hy)
    obtain ⟨w, h1, rfl⟩ := List.mem_map.mp (h y List.mem_cons_self)
    refine ⟨w :: ws, rfl, fun z hz => ?_⟩
    rcases List.mem_cons.mp hz with rfl | hz
    · exact h1
    · exact hw z hz
theorem words_sub : ∀ w ∈ words8, w ∈ words10 := fun w hw => by
  simp only [words8, List.mem_cons, List.mem_nil_iff, or_false] at hw
  simp only [words10, List.mem_cons, List.mem_nil_iff, or_false]
  rcases hw with h | h | h | h | h | h | h | h <;> simp [h]
theorem version_gen (k : Nat) : Gen (callF gl 10000 (k + 3) false "_law_version" [.ref 0]) (fun d => ∃ v, d = encV v ∧ GoodV v ∧ v.a ≤ 3) := by
  rw [e__law_version]
  refine runF_gen fun n => ?_
  unfold s__law_version
  simp only [getv, List.getElem?_cons_zero, List.getElem?_cons_succ, ret_bnd, bnd_bnd, fresh_f, List.set_cons_succ, List.set_cons_zero, Ly.wipe, if_true]
  refine Gen.bnd (roll_gen (k + 1) 3 (by decide) (by decide)) fun d ⟨r, hd, h0, h1⟩ => ?_
  subst hd
  simp only [rng1 r h0 (by omega), ret_bnd]
  have body : ∀ x ∈ upTo 0 r.toNat, Gen (bnd (callF gl 10000 (k + 2) false "_law_some" [.ref 0, .lst (words8.map D.str)]) fun y => Ly.ret [y]) fun ys => ∃ y, ys = [y] ∧ y ∈ words8.map D.str := fun x _ =>
    Gen.bnd (some_gen k (words8.map D.str) (by decide) (by decide) (closed_strs _) _ (.inl rfl)) fun y hy => Gen.ret ⟨y, rfl, hy⟩
  refine Gen.bnd (compLoop_gen (P := fun y => y ∈ words8.map D.str) _ body) fun ys ⟨hlen, hys⟩ => ?_
  obtain ⟨ws, rfl, hws⟩ := strs_of hys
  rw [List.length_map, upTo_len] at hlen
  have hl : (ws.map D.str).length ≤ line := by rw [List.length_map]; unfold line; omega
  simp only [if_pos hl, ret_bnd, tup_lst, seqK, getv, List.getElem?_cons_zero, List.getElem?_cons_succ, List.set_cons_succ, List.set_cons_zero]
  refine Gen.bnd (roll_gen (k + 1) 3 (by decide) (by decide)) fun d ⟨a, hd, ha0, ha1⟩ => ?_
  subst hd
  refine Gen.bnd (some_gen k [.int 0, .int 1, .int 9999, .int 10] (by decide) (by decide) (by decide) _ (.inl rfl)) fun d hb => ?_
  refine Gen.bnd (some_gen k [.int 0, .int 1, .int 9999] (by decide) (by decide) (by decide) _ (.inl rfl)) fun d' hc => ?_
  refine Gen.bnd (roll_gen (k + 1) 2 (by decide) (by decide)) fun d2 ⟨e, he, he0, he1⟩ => ?_
  subst he
  obtain ⟨b, rfl, hb3⟩ : ∃ b : Int, d = .int b ∧ b ∈ [(0 : Int), 1, 9999, 10] := by
    simp only [List.mem_cons, List.mem_nil_iff, or_false] at hb
    rcases hb with rfl | rfl | rfl | rfl <;> exact ⟨_, rfl, by simp⟩
  obtain ⟨c, rfl, hc3⟩ : ∃ c : Int, d' = .int c ∧ c ∈ [(0 : Int), 1, 9999] := by
    simp only [List.mem_cons, List.mem_nil_iff, or_false] at hc
    rcases hc with rfl | rfl | rfl <;> exact ⟨_, rfl, by simp⟩
  have hcmp : cmpM .Eq (.int e) (.int 0) = Ly.ret (e == 0) := by
    funext S
    show (match eqD (.int e) (.int 0) with
      | some b => Ly.ret b
      | none => Ly.stuck) S = _
    rw [eqD_int]
  simp only [hcmp, ret_bnd]
  have two : ws.length ≤ 2 := by omega
  have hb4 : 0 ≤ b ∧ b ≤ 9999 := by simp only [List.mem_cons, List.mem_nil_iff, or_false] at hb3; omega
  have hc4 : 0 ≤ c ∧ c ≤ 9999 := by simp only [List.mem_cons, List.mem_nil_iff, or_false] at hc3; omega
  have ha4 : 0 ≤ a ∧ a ≤ 9999 := by omega
  have hws4 : ∀ w ∈ ws, w ∈ words10 := fun w hw => words_sub w (hws w hw)
  by_cases h : e = 0
  · subst h
    exact Gen.ret ⟨_, rfl, by simp [closedD, closedL, closed_strs], ⟨a, b, c, ws⟩, rfl, ⟨ha4, hb4, hc4, two, hws4⟩, (show a ≤ 3 by omega)⟩
  · have : (e == 0) = false := by simpa using h
    rw [this]
    exact Gen.ret ⟨_, rfl, rfl, ⟨a, b, c, []⟩, rfl, ⟨ha4, hb4, hc4, by simp, fun w hw => by cases hw⟩, (show a ≤ 3 by omega)⟩
/-! ### conditions, ranges -/
structure Cond where
  sg : Str
  v : Ver
def encC (c : Cond) : D := .tup [.str c.sg, encV c.v]
def kinds7 : List Str := [">=", ">", "<=", "<", "=", "~", "^"]
structure GoodC (c : Cond) : Prop where
  sg : c.sg ∈ kinds7
  v : GoodV c.v
  ws : c.sg = "~" ∨ c.sg = "^" → c.v.ws = []
  cap : c.sg = "~" ∨ c.sg = "^" → c.v.a ≤ 3
theorem in_tilde : ∀ sg ∈ kinds7, cmpM .In (.str sg) (.tup [.str "~", .str "^"]) = Ly.ret (decide (sg = "~" ∨ sg = "^")) := fun sg h => by
  simp only [kinds7, List.mem_cons, List.mem_nil_iff, or_false] at h
  rcases h with rfl | rfl | rfl | rfl | rfl | rfl | rfl <;> (funext S; rfl)
theorem cut3 (v : Ver) : (viewed (encV v) fun x => newB false (cutD none (some 3) x)) = Ly.ret (.tup [.int v.a, .int v.b, .int v.c]) := by
  funext S
  rfl
theorem condition_gen (k : Nat) : Gen (callF gl 10000 (k + 4) false "_law_condition" [.ref 0]) (fun d => ∃ c, d = encC c ∧ GoodC c) := by
  rw [e__law_condition]
  refine runF_gen fun n => ?_
  unfold s__law_condition
  simp only [getv, List.getElem?_cons_zero, List.getElem?_cons_succ, ret_bnd, bnd_bnd, fresh_f]
  refine Gen.bnd (some_gen (k + 1) (kinds7.map D.str) (by decide) (by decide) (closed_strs _) _ (.inl rfl)) fun d hd => ?_
  obtain ⟨sg, hsg, rfl⟩ := List.mem_map.mp hd
  refine Gen.bnd (version_gen k) fun d' ⟨v, hv, gv, gv3⟩ => ?_
  subst hv
  have ha : ∀ a b c : Option D, asgG (Tg.tp [Tg.ix 1, Tg.ix 2]) (D.tup [.str sg, encV v]) [a, b, c] = Ly.ret (Fl.nx [a, some (.str sg), some (encV v)]) := fun a b c => rfl
  simp only [ha, ret_bnd, seqK, getv, List.getElem?_cons_zero, List.getElem?_cons_succ, in_tilde sg hsg]
  by_cases h : sg = "~" ∨ sg = "^"
  · simp only [decide_eq_true h, if_true, intK, ret_bnd, bnd_bnd, cut3]
    have hb : binB false .Add (.tup [.int v.a, .int v.b, .int v.c]) (.tup [.tup []]) = Ly.ret (encV ⟨v.a, v.b, v.c, []⟩) := by funext S; rfl
    simp only [hb, ret_bnd]
    exact Gen.ret ⟨_, rfl, by simp [closedD, closedL, encV], ⟨sg, ⟨v.a, v.b, v.c, []⟩⟩, rfl, ⟨hsg, ⟨gv.a, gv.b, gv.c, by simp, fun w hw => by cases hw⟩, fun _ => rfl, fun _ => gv3⟩⟩
  · simp only [decide_eq_false h, Bool.false_eq_true, if_false, ret_bnd]
    exact Gen.ret ⟨_, rfl, by simp [closedD, closedL, encV_closed], ⟨sg, v⟩, rfl, ⟨hsg, gv, fun z => absurd z h, fun z => absurd z h⟩⟩
def encP (p : List Cond) : D := .tup (p.map encC)
def encR (r : List (List Cond)) : D := .tup (r.map encP)
theorem closed_map {α : Type} {f : α → D} (h : ∀ x, closedD (f x) = true) : ∀ xs : List α, closedL (xs.map f) = true
  | [] => rfl
  | x :: xs => by simp only [List.map_cons, closedL, h x, closed_map h xs]; rfl
theorem encC_closed (c : Cond) : closedD (encC c) = true := by simp [encC, closedD, closedL, encV_closed]
theorem encP_closed (p : List Cond) : closedD (encP p) = true := by simp only [encP, closedD]; exact closed_map encC_closed p
theorem encR_closed (r : List (List Cond)) : closedD (encR r) = true := by simp only [encR, closedD]; exact closed_map encP_closed r
theorem map_of {α : Type} {f : α → D} {P : α → Prop} : ∀ {ys : List D}, (∀ y ∈ ys, ∃ x, y = f x ∧ P x) → ∃ xs : List α, ys = xs.map f ∧ ∀ x ∈ xs, P x
  | [], _ => ⟨[], rfl, fun w h => by cases h⟩
  | y :: ys, h => by
    obtain ⟨xs, rfl, hx⟩ := map_of fun y hy => h y (List.mem_cons_of_mem _ hy)
    obtain ⟨x, rfl, px⟩ := h y List.mem_cons_self
    refine ⟨x :: xs, rfl, fun z hz => ?_⟩
    rcases List.mem_cons.mp hz with rfl | hz
    · exact px
    · exact hx z hz
structure GoodR (n : Nat) (r : List (List Cond)) : Prop where
  len : r.length ≤ n
  parts : ∀ p ∈ r, p.length ≤ 3 ∧ ∀ c ∈ p, GoodC c
theorem range_gen (k : Nat) (n : Nat) (hn : n < 1000) : Gen (callF gl 10000 (k + 5) false "_law_range" [.ref 0, .int n]) (fun d => ∃ r, d = encR r ∧ GoodR n r) := by
  rw [e__law_range]
  refine runF_gen fun n0 => ?_
  unfold s__law_range
  have hadd : binB false .Add (.int (n : Int)) (.int 1) = Ly.ret (.int ((n : Int) + 1)) := by funext S; rfl
  simp only [getv, List.getElem?_cons_zero, List.getElem?_cons_succ, ret_bnd, bnd_bnd, fresh_f, hadd, List.set_cons_succ, List.set_cons_zero, Ly.wipe, if_true]
  refine Gen.bnd (roll_gen (k + 3) ((n : Int) + 1) (by omega) (by omega)) fun d ⟨r, hd, h0, h1⟩ => ?_
  subst hd
  simp only [rng1 r h0 (by omega), ret_bnd]
  refine Gen.bnd (compLoop_gen (P := fun y => ∃ p : List Cond, y = encP p ∧ p.length ≤ 3 ∧ ∀ c ∈ p, GoodC c) _ fun x _ => ?_) fun ys ⟨hlen, hys⟩ => ?_
  · refine Gen.bnd (roll_gen (k + 3) 4 (by decide) (by decide)) fun d ⟨r, hd, h0, h1⟩ => ?_
    subst hd
    simp only [rng1 r h0 (by omega), ret_bnd]
    refine Gen.bnd (compLoop_gen (P := fun y => ∃ c, y = encC c ∧ GoodC c) _ fun x _ => ?_) fun ys ⟨hlen, hys⟩ => ?_
    · exact Gen.bnd (condition_gen k) fun y hy => Gen.ret ⟨y, rfl, hy⟩
    · obtain ⟨cs, rfl, hcs⟩ := map_of hys
      rw [List.length_map, upTo_len] at hlen
      have hl : (cs.map encC).length ≤ line := by rw [List.length_map]; unfold line; omega
      simp only [if_pos hl, ret_bnd, tup_lst]
      exact Gen.ret ⟨_, rfl, cs, rfl, by omega, hcs⟩
  · obtain ⟨ps, rfl, hps⟩ := map_of hys
    rw [List.length_map, upTo_len] at hlen
    have hl : (ps.map encP).length ≤ line := by rw [List.length_map]; unfold line; omega
    simp only [if_pos hl, ret_bnd, tup_lst, seqK]
    exact Gen.ret ⟨_, rfl, encR_closed ps, ps, rfl, ⟨by omega, hps⟩⟩
/-! ### the keys -/
def wordD (w : Str) : D := if seq w "0" then .tup [.int 0, .int 0, .str ""] else if seq w "2" then .tup [.int 0, .int 2, .str ""] else if seq w "10" then .tup [.int 0, .int 10, .str ""] else .tup [.int 1, .int 0, .str w]
def keyV (v : Ver) : D := .tup [.int v.a, .int v.b, .int v.c, .int (if v.ws.isEmpty then 1 else 0), .tup (v.ws.map wordD)]
theorem flat_map1 {α : Type} {f : α → D} {g : α → D} {b : D → M (List D)} : ∀ {ws : List α}, (∀ w ∈ ws, Val (b (f w)) [g w]) → Val (compLoop (guardM []) b (ws.map f)) (ws.map g)
  | [], _ => fun S => rfl
  | w :: ws, h => fun S => by
    have h1 := h w List.mem_cons_self
    have h2 := flat_map1 (f := f) (g := g) (b := b) (ws := ws) fun y hy => h y (List.mem_cons_of_mem _ hy)
    show Ly.bnd (guardM []) (fun _ => Ly.bnd (b (f w)) fun ys => Ly.bnd (compLoop (guardM []) b (ws.map f)) fun zs => Ly.ret (ys ++ zs)) S = _
    rw [bnd_at (guard0 S), h1.at, h2.at]
    rfl
theorem item3 (v : Ver) : itemM (encV v) (.int 3) = Ly.ret (.tup (v.ws.map .str)) := by funext S; rfl
theorem items_tup (xs : List D) : itemsOf (.tup xs) = Ly.ret ⟨xs, []⟩ := by funext S; rfl
theorem wordD_closed (w : Str) : closedD (wordD w) = true := by
  unfold wordD
  split
  · rfl
  · split
    · rfl
    · split <;> rfl
theorem words_cases {ws : List Str} {P : List Str → Prop} (h : ws.length ≤ 2 ∧ ∀ w ∈ ws, w ∈ words10) (h0 : P []) (h1 : ∀ w ∈ words10, P [w]) (h2 : ∀ w ∈ words10, ∀ x ∈ words10, P [w, x]) : P ws := by
  match ws, h with
  | [], _ => exact h0
  | [w], h => exact h1 w (h.2 w List.mem_cons_self)
  | [w, x], h => exact h2 w (h.2 w List.mem_cons_self) x (h.2 x (List.mem_cons_of_mem _ List.mem_cons_self))
  | _ :: _ :: _ :: _, h => exact absurd h.1 (by simp)
theorem words_each {P : Str → Prop} (h0 : P "0") (h1 : P "2") (h2 : P "10") (h3 : P "a") (h4 : P "rc") (h5 : P "01a") (h6 : P "b2") (h7 : P "z9") (h8 : P "b") (h9 : P "aa") : ∀ w ∈ words10, P w := fun w hw => by
  simp only [words10, List.mem_cons, List.mem_nil_iff, or_false] at hw
  rcases hw with rfl | rfl | rfl | rfl | rfl | rfl | rfl | rfl | rfl | rfl <;> assumption
theorem eq_empty {ws : List Str} (h : ws.length ≤ 2 ∧ ∀ w ∈ ws, w ∈ words10) : cmpM .Eq (.lst (ws.map wordD)) (.lst []) = Ly.ret ws.isEmpty := by
  refine words_cases (P := fun ws => cmpM .Eq (.lst (ws.map wordD)) (.lst []) = Ly.ret ws.isEmpty) h (by funext S; kernel_rfl) (words_each ?_ ?_ ?_ ?_ ?_ ?_ ?_ ?_ ?_ ?_) (words_each ?_ ?_ ?_ ?_ ?_ ?_ ?_ ?_ ?_ ?_)
  all_goals first
    | (funext S; kernel_rfl)
    | (refine words_each ?_ ?_ ?_ ?_ ?_ ?_ ?_ ?_ ?_ ?_ <;> (funext S; kernel_rfl))
theorem keyV_closed (v : Ver) : closedD (keyV v) = true := by simp [keyV, closedD, closedL, closed_map wordD_closed]
theorem rank_val (k : Nat) (v : Ver) (gv : GoodV v) : Val (callF gl 10000 (k + 1) false "rank_of" [encV v]) (keyV v) := by
  rw [e_rank_of]
  refine runF_val (fun n => ?_) (keyV_closed v)
  unfold s_rank_of
  simp only [getv, List.getElem?_cons_zero, List.getElem?_cons_succ, ret_bnd, bnd_bnd, fresh_f, item3, items_tup, List.set_cons_succ, List.set_cons_zero, Ly.wipe]
  refine Val.bnd (a := v.ws.map wordD) (flat_map1 fun w hw => ?_) ?_
  · have h8 := gv.ws.2 w hw
    simp only [words10, List.mem_cons, List.mem_nil_iff, or_false] at h8
    rcases h8 with rfl | rfl | rfl | rfl | rfl | rfl | rfl | rfl | rfl | rfl <;> (intro S; kernel_rfl)
  · have hl : (v.ws.map wordD).length ≤ line := by rw [List.length_map]; have := gv.ws.1; unfold line; omega
    simp only [if_pos hl, ret_bnd, seqK, intK, cut3, getv, List.getElem?_cons_zero, List.getElem?_cons_succ, bnd_bnd]
    simp only [eq_empty gv.ws, ret_bnd, tup_lst]
    have hb : ∀ b, biB false "int" [.bl b] = Ly.ret (.int (if b then 1 else 0)) := fun b => by funext S; rfl
    have hadd : ∀ x y, binB false .Add (.tup [.int v.a, .int v.b, .int v.c]) (.tup [x, y]) = Ly.ret (.tup [.int v.a, .int v.b, .int v.c, x, y]) := fun x y => by funext S; rfl
    simp only [hb, hadd, ret_bnd]
    exact fun S => rfl
def isDigD (w : Str) : Bool := seq w "0" || seq w "2" || seq w "10"
theorem itemV0 (v : Ver) : itemM (encV v) (.int 0) = Ly.ret (.int v.a) := by funext S; rfl
theorem itemV1 (v : Ver) : itemM (encV v) (.int 1) = Ly.ret (.int v.b) := by funext S; rfl
theorem itemV2 (v : Ver) : itemM (encV v) (.int 2) = Ly.ret (.int v.c) := by funext S; rfl
theorem ne_empty {ws : List Str} (h : ws.length ≤ 2 ∧ ∀ w ∈ ws, w ∈ words10) : cmpM .NotEq (.lst (ws.map wordD)) (.lst []) = Ly.ret (!ws.isEmpty) := by
  refine words_cases (P := fun ws => cmpM .NotEq (.lst (ws.map wordD)) (.lst []) = Ly.ret (!ws.isEmpty)) h (by funext S; kernel_rfl) (words_each ?_ ?_ ?_ ?_ ?_ ?_ ?_ ?_ ?_ ?_) (words_each ?_ ?_ ?_ ?_ ?_ ?_ ?_ ?_ ?_ ?_)
  all_goals first
    | (funext S; kernel_rfl)
    | (refine words_each ?_ ?_ ?_ ?_ ?_ ?_ ?_ ?_ ?_ ?_ <;> (funext S; kernel_rfl))
theorem cmp_end (op : CmpOp) (S0 : Sto) (xs : List D) (y : D) : cmpM op (.ref S0.length) y (S0 ++ [MO.lst xs]) = cmpM op (.lst xs) y (S0 ++ [MO.lst xs]) := by
  unfold cmpM viewed
  dsimp only
  rw [view_end]
  rfl
theorem dig_pre (S : Sto) : ∀ w ∈ words10, ∀ (f : Bool → M Fl), bnd (itemsOf (.str w)) (fun s => bnd (compLoop (guardM s.refs) (fun x17 => bnd (cmpM .NotIn x17 (.str "0123456789")) fun b19 => if b19 = true then Ly.ret [x17] else Ly.ret []) s.items) fun x => bnd (if x.length ≤ line then Ly.ret (D.lst x) else Ly.stuck) fun x => bnd (cmpM .Eq x (.lst [])) fun b => f b) S = f (isDigD w) S := by
  refine words_each ?_ ?_ ?_ ?_ ?_ ?_ ?_ ?_ ?_ ?_ <;> (intro f; kernel_rfl)
theorem dig_word (S : Sto) : ∀ w ∈ words10, ∀ (g : D → M Fl), bnd (if isDigD w = true then bnd (biB false "int" [D.str w]) fun x => Ly.ret (D.tup [D.int 0, x, D.str ""]) else Ly.ret (D.tup [D.int 1, D.int 0, D.str w])) g S = g (wordD w) S := by
  refine words_each ?_ ?_ ?_ ?_ ?_ ?_ ?_ ?_ ?_ ?_ <;> (intro f; kernel_rfl)
theorem tup_end (S0 : Sto) (xs : List D) : biB false "tuple" [.ref S0.length] (S0 ++ [MO.lst xs]) = .ok (.tup xs) (S0 ++ [MO.lst xs]) := by
  show (match biD "tuple" [view (S0 ++ [MO.lst xs]) (.ref S0.length)] with
    | some d => if isList d || isDct d then Ly.fresh false d (S0 ++ [MO.lst xs]) else .ok d (S0 ++ [MO.lst xs])
    | none => .no) = _
  rw [view_end]
  rfl
theorem key_val (k : Nat) (v : Ver) (gv : GoodV v) : Val (callF gl 10000 (k + 1) false "_law_key" [encV v]) (keyV v) := fun S0 => by
  rw [e__law_key]
  have run : ∃ S1, s__law_key (callF gl 10000 k) (encV v) S0.length S0 = .ok (.rt (keyV v)) (S0 ++ S1) := by
    unfold s__law_key
    simp only [getv, List.getElem?_cons_zero, List.getElem?_cons_succ, ret_bnd, bnd_bnd, fresh_f, item3, items_tup]
    rw [bnd_at (new_end S0 [])]
    simp only [ret_bnd, seqK, List.set_cons_succ, List.set_cons_zero, List.getElem?_cons_zero, List.getElem?_cons_succ, item3, items_tup, bnd_bnd]
    refine for_ex (fun o => ∃ S1, o = Out.ok (Fl.rt (keyV v)) (S0 ++ S1)) (fun i ρ S => ∃ x y, ρ = [some (encV v), some (.ref S0.length), x, y, none] ∧ S = S0 ++ [MO.lst ((v.ws.take i).map wordD)]) ⟨none, none, rfl, rfl⟩ (fun i x ρ S hx hI => ?_) fun ρ' S' hI => ?_
    · obtain ⟨a, b, rfl, rfl⟩ := hI
      rw [List.getElem?_map] at hx
      cases hw : v.ws[i]? with
      | none => rw [hw] at hx; cases hx
      | some w =>
        rw [hw] at hx
        cases hx
        have hm : w ∈ words10 := gv.ws.2 w (List.mem_of_getElem? hw)
        have hlen : ((v.ws.take i).map wordD).length < line := by rw [List.length_map, List.length_take]; have := gv.ws.1; unfold line; omega
        have htake : (v.ws.take (i + 1)).map wordD = (v.ws.take i).map wordD ++ [wordD w] := by
          rw [List.take_succ, hw, List.map_append]
          rfl
        refine ⟨[some (encV v), some (.ref S0.length), some (.str w), some (.bl (isDigD w)), none], _, ?_, some (.str w), some (.bl (isDigD w)), rfl, by rw [htake]⟩
        simp only [List.set_cons_succ, List.set_cons_zero, List.getElem?_cons_zero, List.getElem?_cons_succ, ret_bnd, Ly.wipe]
        refine (dig_pre _ w hm _).trans ?_
        rw [bnd_at (pre_end S0 _)]
        have ht : ∀ b, truM (.bl b) = Ly.ret b := fun b => by funext S; rfl
        rw [ht, ret_bnd]
        refine (dig_word _ w hm _).trans ?_
        rw [bnd_at (app_end _ S0 _ _ hlen (wordD_closed w))]
        rfl
    · obtain ⟨a, b, rfl, rfl⟩ := hI
      simp only [seqK, getv, List.getElem?_cons_zero, List.getElem?_cons_succ, ret_bnd, itemV0, itemV1, itemV2]
      have ht : v.ws.take (v.ws.map D.str).length = v.ws := by rw [List.length_map, List.take_length]
      rw [ht]
      have hne := congrFun (ne_empty gv.ws) (S0 ++ [MO.lst (v.ws.map wordD)])
      have e1 : cmpM .NotEq (.ref S0.length) (.lst []) (S0 ++ [MO.lst (v.ws.map wordD)]) = .ok (!v.ws.isEmpty) (S0 ++ [MO.lst (v.ws.map wordD)]) := by
        rw [cmp_end]
        exact hne
      rw [bnd_at e1]
      refine ⟨[MO.lst (v.ws.map wordD)], ?_⟩
      cases he : v.ws.isEmpty with
      | true =>
        simp only [Bool.not_true, Bool.false_eq_true, if_false, ret_bnd]
        rw [bnd_at (tup_end _ _)]
        simp only [keyV, he, if_true]
        rfl
      | false =>
        simp only [Bool.not_false, if_true, ret_bnd]
        rw [bnd_at (tup_end _ _)]
        simp only [keyV, he, Bool.false_eq_true, if_false]
        rfl
  obtain ⟨S1, h⟩ := run
  rw [runF_data h (keyV_closed v), List.take_left]
theorem fits_word_val (k : Nat) : ∀ w ∈ words10, Val (callF gl 10000 (k + 1) false "fits_word" [.str w]) (.bl true) := by
  refine words_each ?_ ?_ ?_ ?_ ?_ ?_ ?_ ?_ ?_ ?_ <;> (rw [e_fits_word]; exact runF_val (fun n S => by kernel_rfl) rfl)
theorem isint (i : Int) : isaD "int" (.int i) = some true := by rfl
theorem isbool_int (i : Int) : isaD "bool" (.int i) = some false := by rfl
theorem cmp_le (a b : Int) : cmpM .LtE (.int a) (.int b) = Ly.ret (decide (a ≤ b)) := by
  funext S
  show (match (ltD (.int b) (.int a)).map (!·) with
    | some b => Ly.ret b
    | none => Ly.stuck) S = _
  rw [ltD_int]
  show Ly.ret (!decide (b < a)) S = _
  have : (!decide (b < a)) = decide (a ≤ b) := by
    by_cases h : a ≤ b
    · rw [decide_eq_true h, decide_eq_false (by omega)]; rfl
    · rw [decide_eq_false h, decide_eq_true (by omega)]; rfl
  rw [this]
theorem is_whole_val (k : Nat) (i lo hi : Int) (h1 : lo ≤ i) (h2 : i ≤ hi) : Val (callF gl 10000 (k + 1) false "is_whole" [.int i, .int lo, .int hi]) (.bl true) := by
  rw [e_is_whole]
  refine runF_val (fun n => ?_) rfl
  unfold s_is_whole
  have v1 : (viewed (D.int i) fun d => ofOp ((isaD "int" d).map D.bl)) = Ly.ret (.bl true) := by funext S; rfl
  have v2 : (viewed (D.int i) fun d => ofOp ((isaD "bool" d).map D.bl)) = Ly.ret (.bl false) := by funext S; rfl
  have ht : ∀ b, truM (.bl b) = Ly.ret b := fun b => by funext S; rfl
  simp only [getv, List.getElem?_cons_zero, List.getElem?_cons_succ, ret_bnd, bnd_bnd, v1, v2, ht, cond_true, cond_false, Bool.not_false, cmp_le, decide_eq_true h1, decide_eq_true h2, if_true, seqK]
  exact fun S => rfl
theorem pyAll_of {α : Type} (f : α → D) (h : ∀ a, ∃ p, (f a).py = some p) : ∀ xs : List α, ∃ ps, pyAll (xs.map f) = some ps
  | [] => ⟨[], rfl⟩
  | x :: xs => by
    obtain ⟨p, hp⟩ := h x
    obtain ⟨ps, hps⟩ := pyAll_of f h xs
    exact ⟨p :: ps, by simp [pyAll, hp, hps]⟩
theorem pyAll_strs (ws : List Str) : ∃ ps, pyAll (ws.map D.str) = some ps := pyAll_of D.str (fun a => ⟨_, rfl⟩) ws
theorem encV_items (v : Ver) : ∃ ps, pyAll [D.int v.a, .int v.b, .int v.c, .tup (v.ws.map .str)] = some ps := by
  obtain ⟨ps, h⟩ := pyAll_strs v.ws
  exact ⟨[.int v.a, .int v.b, .int v.c, .tuple ps], by simp only [pyAll, D.py, h, Option.map]⟩
theorem encV_py (v : Ver) : ∃ p, (encV v).py = some p := by
  obtain ⟨ps, h⟩ := encV_items v
  exact ⟨.tuple ps, by simp only [encV, D.py, h, Option.map]⟩
theorem encC_items (c : Cond) : ∃ ps, pyAll [D.str c.sg, encV c.v] = some ps := by
  obtain ⟨p, h⟩ := encV_py c.v
  exact ⟨[.str c.sg, p], by simp only [pyAll, D.py, h]⟩
theorem encC_py (c : Cond) : ∃ p, (encC c).py = some p := by
  obtain ⟨ps, h⟩ := encC_items c
  exact ⟨.tuple ps, by simp only [encC, D.py, h, Option.map]⟩
theorem encP_py (p : List Cond) : ∃ q, (encP p).py = some q := by
  obtain ⟨ps, h⟩ := pyAll_of encC encC_py p
  exact ⟨.tuple ps, by simp only [encP, D.py, h, Option.map]⟩
theorem encR_items (r : List (List Cond)) : ∃ ps, pyAll (r.map encP) = some ps := pyAll_of encP encP_py r
theorem isa_tup {xs : List D} (hp : ∃ ps, pyAll xs = some ps) : isaD "tuple" (.tup xs) = some true := by
  obtain ⟨ps, h⟩ := hp
  have e : (D.tup xs).py = some (.tuple ps) := by simp only [D.py, h, Option.map]
  unfold isaD
  rw [e]
  rfl
theorem is_tuple_val (k : Nat) (xs : List D) (hp : ∃ ps, pyAll xs = some ps) (lo hi : Int) (h1 : lo ≤ xs.length) (h2 : (xs.length : Int) ≤ hi) : Val (callF gl 10000 (k + 1) false "is_tuple_of" [.tup xs, .int lo, .int hi]) (.bl true) := by
  rw [e_is_tuple_of]
  refine runF_val (fun n => ?_) rfl
  unfold s_is_tuple_of
  have v1 : (viewed (D.tup xs) fun d => ofOp ((isaD "tuple" d).map D.bl)) = Ly.ret (.bl true) := by
    funext S
    show ofOp ((isaD "tuple" (.tup xs)).map D.bl) S = _
    rw [isa_tup hp]; rfl
  have ht : ∀ b, truM (.bl b) = Ly.ret b := fun b => by funext S; rfl
  simp only [getv, List.getElem?_cons_zero, List.getElem?_cons_succ, ret_bnd, bnd_bnd, v1, len_tup, ht, cond_true, cond_false, cmp_le, decide_eq_true h1, decide_eq_true h2, if_true, seqK]
  exact fun S => rfl
theorem tru_bl (b : Bool) : truM (.bl b) = Ly.ret b := by funext S; rfl
theorem flat_true {α : Type} (xs : List α) : (xs.flatMap fun _ => [D.bl true]) = List.replicate xs.length (D.bl true) := by
  induction xs with
  | nil => rfl
  | cons x xs ih => rw [List.flatMap_cons, ih]; rfl
/-- all(p(x) for x in xs) where each answers True -/
theorem compLoop_true {body : D → M (List D)} (xs : List D) (h : ∀ x ∈ xs, Val (body x) [D.bl true]) : Val (compLoop (guardM []) body xs) (List.replicate xs.length (D.bl true)) := by
  rw [← flat_true]
  exact compLoop_val xs h
theorem ifT {α : Type} (a b : α) : (if True then a else b) = a := if_pos trivial
theorem repl_le {n : Nat} (h : n ≤ 1000) : (List.replicate n (D.bl true)).length ≤ line := by rw [List.length_replicate]; unfold line; omega
theorem all3 : biB false "all" [.lst (List.replicate 3 (D.bl true))] = Ly.ret (.bl true) := by funext S; rfl
theorem all_le (n : Nat) (h : n ≤ 8) : biB false "all" [.lst (List.replicate n (D.bl true))] = Ly.ret (.bl true) := by
  match n, h with
  | 0, _ => funext S; rfl
  | 1, _ => funext S; rfl
  | 2, _ => funext S; rfl
  | 3, _ => funext S; rfl
  | 4, _ => funext S; rfl
  | 5, _ => funext S; rfl
  | 6, _ => funext S; rfl
  | 7, _ => funext S; rfl
  | 8, _ => funext S; rfl
  | n + 9, h => exact absurd h (by omega)
theorem fits_version_val (k : Nat) (v : Ver) (gv : GoodV v) : Val (callF gl 10000 (k + 2) false "fits_version" [encV v]) (.bl true) := by
  rw [e_fits_version]
  refine runF_val (fun n => ?_) rfl
  unfold s_fits_version
  have ha0 := gv.a
  have hb0 := gv.b
  have hc0 := gv.c
  simp only [getv, List.getElem?_cons_zero, List.getElem?_cons_succ, ret_bnd, bnd_bnd, intK]
  refine Val.bnd (is_tuple_val k _ (encV_items v) 4 4 (by simp) (by simp)) ?_
  simp only [getv, List.getElem?_cons_zero, List.getElem?_cons_succ, ret_bnd, bnd_bnd, tru_bl, Bool.not_true, cond_false, intK, cut3, items_tup, ifT]
  refine Val.bnd (compLoop_true _ fun x hx => ?_) ?_
  · have hw : ∃ i, x = .int i ∧ 0 ≤ i ∧ i ≤ 9999 := by
      simp only [List.mem_cons, List.mem_nil_iff, or_false] at hx
      rcases hx with rfl | rfl | rfl
      · exact ⟨_, rfl, ha0⟩
      · exact ⟨_, rfl, hb0⟩
      · exact ⟨_, rfl, hc0⟩
    obtain ⟨i, rfl, h1, h2⟩ := hw
    exact Val.bnd (a := D.int i) (fun S => rfl) (Val.bnd (is_whole_val k i 0 9999 h1 h2) fun S => rfl)
  rw [if_pos (repl_le (by simp))]
  simp only [fresh_f, ret_bnd, bnd_bnd]
  rw [all_le _ (by simp)]
  simp only [getv, List.getElem?_cons_zero, List.getElem?_cons_succ, ret_bnd, bnd_bnd, tru_bl, Bool.not_true, cond_false, Bool.false_eq_true, if_false, seqK, item3]
  have hlen : (v.ws.map D.str).length ≤ 2 := by rw [List.length_map]; exact gv.ws.1
  refine Val.bnd (is_tuple_val k _ (pyAll_strs v.ws) 0 3 (by omega) (by omega)) ?_
  simp only [tru_bl, ret_bnd, bnd_bnd, cond_true, items_tup, ifT]
  refine Val.bnd (compLoop_true _ fun x hx => ?_) ?_
  · obtain ⟨w, hw, rfl⟩ := List.mem_map.mp hx
    exact Val.bnd (a := D.str w) (fun S => rfl) (Val.bnd (fits_word_val k w (gv.ws.2 w hw)) fun S => rfl)
  rw [if_pos (repl_le (by omega))]
  simp only [fresh_f, ret_bnd, bnd_bnd]
  rw [all_le _ (by omega)]
  exact fun S => rfl
theorem itemC0 (c : Cond) : itemM (encC c) (.int 0) = Ly.ret (.str c.sg) := by funext S; rfl
theorem itemC1 (c : Cond) : itemM (encC c) (.int 1) = Ly.ret (encV c.v) := by funext S; rfl
theorem kinds_each {P : Str → Prop} (h1 : P ">=") (h2 : P ">") (h3 : P "<=") (h4 : P "<") (h5 : P "=") (h6 : P "~") (h7 : P "^") : ∀ w ∈ kinds7, P w := fun w h => by
  simp only [kinds7, List.mem_cons, List.mem_nil_iff, or_false] at h
  rcases h with rfl | rfl | rfl | rfl | rfl | rfl | rfl <;> assumption
theorem in_kinds : ∀ sg ∈ kinds7, cmpM .In (.str sg) (.tup [.str (">=" : Str), .str (">" : Str), .str ("<=" : Str), .str ("<" : Str), .str ("=" : Str), .str ("~" : Str), .str ("^" : Str)]) = Ly.ret true := by
  refine kinds_each ?_ ?_ ?_ ?_ ?_ ?_ ?_ <;> (funext S; kernel_rfl)
theorem notin_tilde : ∀ sg ∈ kinds7, cmpM .NotIn (.str sg) (.tup [.str "~", .str "^"]) = Ly.ret (!decide (sg = "~" ∨ sg = "^")) := by
  refine kinds_each ?_ ?_ ?_ ?_ ?_ ?_ ?_ <;> (funext S; kernel_rfl)
theorem isstr (x : Str) : (viewed (D.str x) fun d => ofOp ((isaD "str" d).map D.bl)) = Ly.ret (.bl true) := by funext S; rfl
theorem eq_nil : cmpM .Eq (.tup []) (.tup []) = Ly.ret true := by funext S; rfl
theorem fits_condition_val (k : Nat) (c : Cond) (gc : GoodC c) : Val (callF gl 10000 (k + 3) false "fits_condition" [encC c]) (.bl true) := by
  rw [e_fits_condition]
  refine runF_val (fun n => ?_) rfl
  unfold s_fits_condition
  simp only [getv, List.getElem?_cons_zero, List.getElem?_cons_succ, ret_bnd, bnd_bnd, intK]
  refine Val.bnd (is_tuple_val (k + 1) _ (encC_items c) 2 2 (by simp) (by simp)) ?_
  simp only [getv, List.getElem?_cons_zero, List.getElem?_cons_succ, ret_bnd, bnd_bnd, tru_bl, Bool.not_true, cond_false, itemC0, itemC1, isstr]
  refine Val.bnd (fits_version_val k c.v gc.v) ?_
  simp only [getv, List.getElem?_cons_zero, List.getElem?_cons_succ, ret_bnd, bnd_bnd, tru_bl, Bool.not_true, cond_false, cond_true, Bool.false_eq_true, if_false, seqK, itemC0, itemC1, item3, in_kinds _ gc.sg, notin_tilde _ gc.sg]
  by_cases h : c.sg = "~" ∨ c.sg = "^"
  · rw [decide_eq_true h]
    have hz : c.v.ws = [] := gc.ws h
    simp only [Bool.not_true, cond_false, ret_bnd, bnd_bnd, itemC1, item3, hz, List.map_nil, eq_nil]
    exact fun S => rfl
  · rw [decide_eq_false h]
    exact fun S => rfl
theorem bools_true : ∀ n, boolsD (List.replicate n (D.bl true)) = some (List.replicate n true)
  | 0 => rfl
  | n + 1 => by
    show (boolsD (List.replicate n (D.bl true))).map (true :: ·) = _
    rw [bools_true n]; rfl
theorem all_id : ∀ n, (List.replicate n true).all id = true
  | 0 => rfl
  | n + 1 => by
    show (id true && (List.replicate n true).all id) = true
    rw [all_id n]; rfl
theorem all_any_len (n : Nat) : biB false "all" [.lst (List.replicate n (D.bl true))] = Ly.ret (.bl true) := by
  have h : biD "all" [.lst (List.replicate n (D.bl true))] = some (.bl true) := by
    show (boolsD (List.replicate n (D.bl true))).map (fun bs => D.bl (bs.all id)) = _
    rw [bools_true n]
    show some (D.bl ((List.replicate n true).all id)) = _
    rw [all_id n]
  funext S
  show (match biD "all" [.lst (List.replicate n (D.bl true))] with
    | some d => if isList d || isDct d then Ly.fresh false d S else .ok d S
    | none => .no) = _
  rw [h]; rfl
theorem compLoop_trues {b : Nat} {body : D → M (List D)} : ∀ xs : List D, (∀ x ∈ xs, ∃ m, m ≤ b ∧ Val (body x) (List.replicate m (D.bl true))) → ∃ m, m ≤ b * xs.length ∧ Val (compLoop (guardM []) body xs) (List.replicate m (D.bl true))
  | [], _ => ⟨0, Nat.zero_le _, fun S => rfl⟩
  | x :: xs, h => by
    classical
    have hs : ∀ y ∈ x :: xs, ∃ m, m ≤ b ∧ Val (body y) (List.replicate m (D.bl true)) := h
    let g : D → List D := fun y => if e : ∃ m, m ≤ b ∧ Val (body y) (List.replicate m (D.bl true)) then List.replicate e.choose (D.bl true) else []
    have hg : ∀ y ∈ x :: xs, Val (body y) (g y) := fun y hy => by
      have e := hs y hy
      show Val (body y) (if e : _ then _ else _)
      rw [dif_pos e]
      exact e.choose_spec.2
    have key : ∀ zs : List D, (∀ z ∈ zs, z ∈ x :: xs) → ∃ m, m ≤ b * zs.length ∧ zs.flatMap g = List.replicate m (D.bl true) := by
      intro zs
      induction zs with
      | nil => exact fun _ => ⟨0, Nat.zero_le _, rfl⟩
      | cons z zs ih =>
        intro hz
        obtain ⟨m, hm, em⟩ := ih fun w hw => hz w (List.mem_cons_of_mem _ hw)
        have e := hs z (hz z List.mem_cons_self)
        refine ⟨e.choose + m, ?_, ?_⟩
        · have := e.choose_spec.1
          rw [List.length_cons, Nat.mul_succ]
          omega
        · rw [List.flatMap_cons, em]
          have : g z = List.replicate e.choose (D.bl true) := dif_pos e
          rw [this, List.replicate_append_replicate]
    obtain ⟨m, hm, em⟩ := key (x :: xs) fun z hz => hz
    exact ⟨m, hm, em ▸ compLoop_val _ hg⟩
theorem trues_bnd {α : Type} (b : Nat) {body : D → M (List D)} {f : List D → M α} {d : α} (xs : List D) (h : ∀ x ∈ xs, ∃ m, m ≤ b ∧ Val (body x) (List.replicate m (D.bl true))) (g : ∀ m, m ≤ b * xs.length → Val (f (List.replicate m (D.bl true))) d) : Val (bnd (compLoop (guardM []) body xs) f) d := by
  obtain ⟨m, hm, hv⟩ := compLoop_trues xs h
  exact Val.bnd hv (g m hm)
theorem fits_range_val (k : Nat) (r : List (List Cond)) (gr : GoodR 6 r) : Val (callF gl 10000 (k + 4) false "fits_range" [encR r]) (.bl true) := by
  rw [e_fits_range]
  refine runF_val (fun n => ?_) rfl
  unfold s_fits_range
  have hlen : (r.map encP).length ≤ 6 := by rw [List.length_map]; exact gr.len
  simp only [getv, List.getElem?_cons_zero, List.getElem?_cons_succ, ret_bnd, bnd_bnd, intK]
  refine Val.bnd (is_tuple_val (k + 2) _ (encR_items r) 0 6 (by omega) (by omega)) ?_
  simp only [getv, List.getElem?_cons_zero, List.getElem?_cons_succ, ret_bnd, bnd_bnd, tru_bl, Bool.not_true, cond_false, encR, items_tup, ifT]
  refine Val.bnd (compLoop_true _ fun x hx => ?_) ?_
  · obtain ⟨p, hp, rfl⟩ := List.mem_map.mp hx
    have hl : (p.map encC).length ≤ 3 := by rw [List.length_map]; exact (gr.parts p hp).1
    exact Val.bnd (a := encP p) (fun S => rfl) (Val.bnd (is_tuple_val (k + 2) _ (pyAll_of encC encC_py p) 0 4 (by omega) (by omega)) fun S => rfl)
  rw [if_pos (repl_le (by omega))]
  simp only [fresh_f, ret_bnd, bnd_bnd, all_any_len]
  simp only [getv, List.getElem?_cons_zero, List.getElem?_cons_succ, ret_bnd, bnd_bnd, tru_bl, Bool.not_true, cond_false, Bool.false_eq_true, if_false, seqK, items_tup, ifT]
  refine trues_bnd 3 (r.map encP) (fun x hx => ?_) fun m hm => ?_
  · obtain ⟨p, hp, rfl⟩ := List.mem_map.mp hx
    have hl : (p.map encC).length ≤ 3 := by rw [List.length_map]; exact (gr.parts p hp).1
    refine ⟨_, hl, ?_⟩
    refine Val.bnd (a := encP p) (fun S => rfl) ?_
    simp only [encP, items_tup, ret_bnd]
    refine compLoop_true _ fun y hy => ?_
    obtain ⟨c, hc, rfl⟩ := List.mem_map.mp hy
    exact Val.bnd (a := encC c) (fun S => rfl) (Val.bnd (fits_condition_val k c ((gr.parts p hp).2 c hc)) fun S => rfl)
  · rw [if_pos (repl_le (by omega))]
    simp only [fresh_f, ret_bnd, bnd_bnd, all_any_len]
    exact fun S => rfl
/-- a call that comes to its end without a return -/
theorem runF_nonv {b : Nat → M Fl} {ρ : Ly.Env} (h : ∀ n, Val (b n) (.nx ρ)) : Val (runF false b) .non := fun S => by
  rw [runF_none (h _ S), take_self rfl]
theorem need_version_val (k : Nat) (v : Ver) (gv : GoodV v) : Val (callF gl 10000 (k + 3) false "need_version" [encV v]) .non := by
  rw [e_need_version]
  refine runF_nonv (ρ := [some (encV v)]) fun n => ?_
  unfold s_need_version
  simp only [getv, List.getElem?_cons_zero, ret_bnd, bnd_bnd]
  refine Val.bnd (fits_version_val k v gv) ?_
  simp only [tru_bl, ret_bnd, bnd_bnd, Bool.not_true]
  exact fun S => rfl
theorem need_range_val (k : Nat) (r : List (List Cond)) (gr : GoodR 6 r) : Val (callF gl 10000 (k + 5) false "need_range" [encR r]) .non := by
  rw [e_need_range]
  refine runF_nonv (ρ := [some (encR r)]) fun n => ?_
  unfold s_need_range
  simp only [getv, List.getElem?_cons_zero, ret_bnd, bnd_bnd]
  refine Val.bnd (fits_range_val k r gr) ?_
  simp only [tru_bl, ret_bnd, bnd_bnd, Bool.not_true]
  exact fun S => rfl
theorem keyV_py1 (a b c : Int) (w : Str) (h : w ∈ words10) : ((keyV ⟨a, b, c, [w]⟩).py.map deepOk) = some true := by
  revert w
  refine words_each ?_ ?_ ?_ ?_ ?_ ?_ ?_ ?_ ?_ ?_ <;> kernel_rfl
theorem keyV_deep (v : Ver) (gv : GoodV v) : ((keyV v).py.map deepOk) = some true := by
  obtain ⟨a, b, c, ws⟩ := v
  refine words_cases (P := fun ws => ((keyV ⟨a, b, c, ws⟩).py.map deepOk) = some true) gv.ws (by kernel_rfl) (words_each ?_ ?_ ?_ ?_ ?_ ?_ ?_ ?_ ?_ ?_) (words_each ?_ ?_ ?_ ?_ ?_ ?_ ?_ ?_ ?_ ?_)
  any_goals kernel_rfl
  all_goals exact words_each (by kernel_rfl) (by kernel_rfl) (by kernel_rfl) (by kernel_rfl) (by kernel_rfl) (by kernel_rfl) (by kernel_rfl) (by kernel_rfl) (by kernel_rfl) (by kernel_rfl)
def WordP (p : PyData) : Prop := ∃ i j x, p = .tuple [.int i, .int j, .str x]
theorem word_py (w : Str) : ∃ p, (wordD w).py = some p ∧ WordP p := by
  unfold wordD
  split
  · exact ⟨_, rfl, _, _, _, rfl⟩
  · split
    · exact ⟨_, rfl, _, _, _, rfl⟩
    · split
      · exact ⟨_, rfl, _, _, _, rfl⟩
      · exact ⟨_, rfl, _, _, _, rfl⟩
theorem words_py : ∀ ws : List Str, ∃ ps, pyAll (ws.map wordD) = some ps ∧ ∀ p ∈ ps, WordP p
  | [] => ⟨[], rfl, fun p h => by cases h⟩
  | w :: ws => by
    obtain ⟨p, hp, wp⟩ := word_py w
    obtain ⟨ps, hps, wps⟩ := words_py ws
    refine ⟨p :: ps, by simp [pyAll, hp, hps], fun q hq => ?_⟩
    rcases List.mem_cons.mp hq with rfl | h
    · exact wp
    · exact wps q h
theorem words_alike : ∀ ps qs : List PyData, (∀ p ∈ ps, WordP p) → (∀ p ∈ qs, WordP p) → PySem.W.alikeAll ps qs = true
  | [], _, _, _ => by simp [PySem.W.alikeAll]
  | _ :: _, [], _, _ => by simp [PySem.W.alikeAll]
  | p :: ps, q :: qs, hp, hq => by
    obtain ⟨i, j, x, rfl⟩ := hp p List.mem_cons_self
    obtain ⟨i', j', x', rfl⟩ := hq q List.mem_cons_self
    have := words_alike ps qs (fun r hr => hp r (List.mem_cons_of_mem _ hr)) fun r hr => hq r (List.mem_cons_of_mem _ hr)
    simp [PySem.W.alikeAll, PySem.W.alike, this]
theorem key_py (v : Ver) : ∃ ps, (keyV v).py = some (.tuple [.int v.a, .int v.b, .int v.c, .int (if v.ws.isEmpty then 1 else 0), .tuple ps]) ∧ ∀ p ∈ ps, WordP p := by
  obtain ⟨ps, h, w⟩ := words_py v.ws
  exact ⟨ps, by simp [keyV, D.py, pyAll, h], w⟩
/-- keys can be compared with each other -/
theorem key_lt (u v : Ver) (gu : GoodV u) (gv : GoodV v) : ltD (keyV u) (keyV v) = some (ltPy (keyV u) (keyV v)) := by
  have du := keyV_deep u gu
  have dv := keyV_deep v gv
  obtain ⟨ps, hp, wp⟩ := key_py u
  obtain ⟨qs, hq, wq⟩ := key_py v
  rw [hp] at du
  rw [hq] at dv
  have du' := Option.some.inj du
  have dv' := Option.some.inj dv
  unfold ltD ltPy
  rw [hp, hq]
  simp only [du', dv', Bool.true_and, PySem.W.alike, PySem.W.alikeAll, words_alike ps qs wp wq, isNonPy, Bool.not_false, Bool.and_true, if_true]
theorem key_cmp_lt (u v : Ver) (gu : GoodV u) (gv : GoodV v) : cmpM .Lt (keyV u) (keyV v) = Ly.ret (ltPy (keyV u) (keyV v)) := by
  funext S
  show ofOp (ltD (keyV u) (keyV v)) S = _
  rw [key_lt u v gu gv]; rfl
theorem key_cmp_gt (u v : Ver) (gu : GoodV u) (gv : GoodV v) : cmpM .Gt (keyV u) (keyV v) = Ly.ret (ltPy (keyV v) (keyV u)) := by
  funext S
  show ofOp (ltD (keyV v) (keyV u)) S = _
  rw [key_lt v u gv gu]; rfl
theorem key_cmp_le (u v : Ver) (gu : GoodV u) (gv : GoodV v) : cmpM .LtE (keyV u) (keyV v) = Ly.ret (!ltPy (keyV v) (keyV u)) := by
  funext S
  show ofOp ((ltD (keyV v) (keyV u)).map (!·)) S = _
  rw [key_lt v u gv gu]; rfl
theorem key_cmp_ge (u v : Ver) (gu : GoodV u) (gv : GoodV v) : cmpM .GtE (keyV u) (keyV v) = Ly.ret (!ltPy (keyV u) (keyV v)) := by
  funext S
  show ofOp ((ltD (keyV u) (keyV v)).map (!·)) S = _
  rw [key_lt u v gu gv]; rfl
theorem is_before_val (k : Nat) (u v : Ver) (gu : GoodV u) (gv : GoodV v) : Val (callF gl 10000 (k + 4) false "is_before" [encV u, encV v]) (.bl (ltPy (keyV u) (keyV v))) := by
  rw [e_is_before]
  refine runF_val (fun n => ?_) rfl
  unfold s_is_before
  simp only [getv, List.getElem?_cons_zero, List.getElem?_cons_succ, ret_bnd, bnd_bnd, seqK]
  refine Val.bnd (need_version_val k u gu) (Val.bnd (need_version_val k v gv) (Val.bnd (rank_val (k + 2) u gu) (Val.bnd (rank_val (k + 2) v gv) ?_)))
  simp only [key_cmp_lt u v gu gv, ret_bnd, seqK]
  exact fun S => rfl
/-- keys can be asked for == -/
theorem key_eq (u v : Ver) (gu : GoodV u) (gv : GoodV v) : ∃ b, eqD (keyV u) (keyV v) = some b := by
  have du := keyV_deep u gu
  have dv := keyV_deep v gv
  obtain ⟨ps, hp, wp⟩ := key_py u
  obtain ⟨qs, hq, wq⟩ := key_py v
  rw [hp] at du
  rw [hq] at dv
  have du' := Option.some.inj du
  have dv' := Option.some.inj dv
  unfold eqD
  rw [hp, hq]
  exact ⟨_, by simp only [du', dv', Bool.true_and, if_true]; rfl⟩
theorem key_cmp_eq (u v : Ver) (gu : GoodV u) (gv : GoodV v) : cmpM .Eq (keyV u) (keyV v) = Ly.ret ((eqD (keyV u) (keyV v)).getD false) := by
  obtain ⟨b, h⟩ := key_eq u v gu gv
  funext S
  show ofOp (eqD (keyV u) (keyV v)) S = _
  rw [h]; rfl
end k85

/-! k85: the order of ends by places (whole numbers). -/
set_option linter.all false
set_option maxRecDepth 100000
namespace k85
open PySem PySem.Spec PyProof.Rows L2 Ly PySem.W
def wordP (w : Str) : PyData := if seq w "0" then .tuple [.int 0, .int 0, .str ""] else if seq w "2" then .tuple [.int 0, .int 2, .str ""] else if seq w "10" then .tuple [.int 0, .int 10, .str ""] else .tuple [.int 1, .int 0, .str w]
theorem wordP_py (w : Str) : (wordD w).py = some (wordP w) := by
  unfold wordD wordP
  split
  · rfl
  · split
    · rfl
    · split <;> rfl
/-- a word's place -/
def wc (w : Str) : Int := if seq w "0" then 1 else if seq w "2" then 2 else if seq w "10" then 3 else if seq w "01a" then 4 else if seq w "a" then 5 else if seq w "aa" then 6 else if seq w "b" then 7 else if seq w "b2" then 8 else if seq w "rc" then 9 else 10
def OK2 (p q : PyData) (n m : Int) : Prop := alike p q = true ∧ (PyData.eqv p q = true ↔ n = m) ∧ (dataLt p q = true ↔ n < m)
theorem word_ok : ∀ w ∈ words10, ∀ u ∈ words10, OK2 (wordP w) (wordP u) (wc w) (wc u) := by
  have h : (words10.all fun w => words10.all fun u => alike (wordP w) (wordP u) && (PyData.eqv (wordP w) (wordP u) == decide (wc w = wc u)) && (dataLt (wordP w) (wordP u) == decide (wc w < wc u))) = true := by decide +kernel
  intro w hw u hu
  have h1 := List.all_eq_true.mp (List.all_eq_true.mp h w hw) u hu
  simp only [Bool.and_eq_true, beq_iff_eq] at h1
  exact ⟨h1.1.1, by rw [h1.1.2, decide_eq_true_iff], by rw [h1.2, decide_eq_true_iff]⟩
theorem wc_in : ∀ w ∈ words10, 1 ≤ wc w ∧ wc w ≤ 10 := by
  have h : (words10.all fun w => decide (1 ≤ wc w ∧ wc w ≤ 10)) = true := by decide +kernel
  intro w hw
  simpa using List.all_eq_true.mp h w hw
theorem row0 : rowLt [] [] = true ↔ False := by
  have : rowLt [] [] = false := lex_irrefl _
  rw [this]; simp
theorem row1 (y : PyData) (ys : List PyData) : rowLt [] (y :: ys) = true ↔ True := by
  unfold rowLt
  rw [toks_all_cons]
  simp only [keyToksAll]
  rw [lex_diff (O := itemOrd) (by simp)]
  exact ⟨fun _ => trivial, fun _ => rfl⟩
theorem row2 (y : PyData) (ys : List PyData) : rowLt (y :: ys) [] = true ↔ False := by
  unfold rowLt
  rw [toks_all_cons]
  simp only [keyToksAll]
  rw [lex_diff (O := itemOrd) (by simp)]
  exact ⟨fun h => absurd h (by decide), fun h => h.elim⟩
theorem row3 {x y : PyData} {n m : Int} (h : OK2 x y n m) (xs ys : List PyData) : rowLt (x :: xs) (y :: ys) = true ↔ n < m ∨ (n = m ∧ rowLt xs ys = true) := by
  have e := dataLt_cons h.1 xs ys
  unfold rowLt
  rw [e]
  by_cases q : n = m
  · rw [if_pos (h.2.1.mpr q)]
    subst q
    simp
  · rw [if_neg fun z => q (h.2.1.mp z), h.2.2]
    simp [q]
theorem okInt (a b : Int) : OK2 (.int a) (.int b) a b := ⟨by simp [alike], by simp [PyData.eqv], by rw [dataLt_int, decide_eq_true_iff]⟩
def wsc : List Str → Int
  | [] => 1000
  | [w] => wc w * 20
  | [w, x] => wc w * 20 + wc x
  | _ => 0
def WsOk (ws us : List Str) : Prop := alikeAll (ws.map wordP) (us.map wordP) = true ∧ (PyData.eqvAll (ws.map wordP) (us.map wordP) = true ↔ wsc ws = wsc us) ∧ (ws.isEmpty = us.isEmpty → (rowLt (ws.map wordP) (us.map wordP) = true ↔ wsc ws < wsc us))
theorem words_ok {ws us : List Str} (hw : ws.length ≤ 2 ∧ ∀ w ∈ ws, w ∈ words10) (hu : us.length ≤ 2 ∧ ∀ w ∈ us, w ∈ words10) : WsOk ws us := by
  refine words_cases (P := fun ws => WsOk ws us) hw ?_ (fun w hw => ?_) (fun w hw x hx => ?_) <;> refine words_cases (P := fun us => WsOk _ us) hu ?_ (fun u hu => ?_) (fun u hu y hy => ?_)
  · exact ⟨rfl, by simp [PyData.eqvAll], fun _ => by simpa using row0⟩
  · have := wc_in u hu
    refine ⟨by simp [alikeAll], ?_, fun h => absurd h (by simp)⟩
    simp only [List.map_cons, List.map_nil, PyData.eqvAll, wsc, Bool.false_eq_true, false_iff]; omega
  · have := wc_in u hu
    have := wc_in y hy
    refine ⟨by simp [alikeAll], ?_, fun h => absurd h (by simp)⟩
    simp only [List.map_cons, List.map_nil, PyData.eqvAll, wsc, Bool.false_eq_true, false_iff]; omega
  · have := wc_in w hw
    refine ⟨by simp [alikeAll], ?_, fun h => absurd h (by simp)⟩
    simp only [List.map_cons, List.map_nil, PyData.eqvAll, wsc, Bool.false_eq_true, false_iff]; omega
  · have h1 := word_ok w hw u hu
    have := wc_in w hw
    have := wc_in u hu
    refine ⟨by simp [alikeAll, h1.1], ?_, fun _ => ?_⟩
    · simp only [List.map_cons, List.map_nil, PyData.eqvAll, h1.2.1, wsc, Bool.and_true]; omega
    · simp only [List.map_cons, List.map_nil, row3 h1, row0, wsc, and_false, or_false]; omega
  · have h1 := word_ok w hw u hu
    have := wc_in w hw
    have := wc_in u hu
    have := wc_in y hy
    refine ⟨by simp [alikeAll, h1.1], ?_, fun _ => ?_⟩
    · simp only [List.map_cons, List.map_nil, PyData.eqvAll, wsc, Bool.and_false, Bool.false_eq_true, false_iff]; omega
    · simp only [List.map_cons, List.map_nil, row3 h1, row1, wsc, and_true]; omega
  · have := wc_in w hw
    have := wc_in x hx
    refine ⟨by simp [alikeAll], ?_, fun h => absurd h (by simp)⟩
    simp only [List.map_cons, List.map_nil, PyData.eqvAll, wsc, Bool.false_eq_true, false_iff]; omega
  · have h1 := word_ok w hw u hu
    have := wc_in w hw
    have := wc_in u hu
    have := wc_in x hx
    refine ⟨by simp [alikeAll, h1.1], ?_, fun _ => ?_⟩
    · simp only [List.map_cons, List.map_nil, PyData.eqvAll, wsc, Bool.and_false, Bool.false_eq_true, false_iff]; omega
    · simp only [List.map_cons, List.map_nil, row3 h1, row2, wsc, and_false, or_false]; omega
  · have h1 := word_ok w hw u hu
    have h2 := word_ok x hx y hy
    have := wc_in w hw
    have := wc_in u hu
    have := wc_in x hx
    have := wc_in y hy
    refine ⟨by simp [alikeAll, h1.1, h2.1], ?_, fun _ => ?_⟩
    · simp only [List.map_cons, List.map_nil, PyData.eqvAll, Bool.and_eq_true, h1.2.1, h2.2.1, wsc, and_true]; omega
    · simp only [List.map_cons, List.map_nil, row3 h1, row3 h2, row0, wsc, and_false, or_false]; omega
theorem wsc_in {ws : List Str} (hw : ws.length ≤ 2 ∧ ∀ w ∈ ws, w ∈ words10) : (ws.isEmpty = true ∧ wsc ws = 1000) ∨ (ws.isEmpty = false ∧ 20 ≤ wsc ws ∧ wsc ws ≤ 210) := by
  refine words_cases (P := fun ws => (ws.isEmpty = true ∧ wsc ws = 1000) ∨ (ws.isEmpty = false ∧ 20 ≤ wsc ws ∧ wsc ws ≤ 210)) hw (.inl ⟨rfl, rfl⟩) (fun w hw => .inr ⟨rfl, ?_⟩) (fun w hw x hx => .inr ⟨rfl, ?_⟩)
  · have := wc_in w hw
    simp only [wsc]; omega
  · have := wc_in w hw
    have := wc_in x hx
    simp only [wsc]; omega
/-- four numbers, one after the other -/
def c4 (a b c w : Int) : Int := ((a * 20000 + b) * 20000 + c) * 2000 + w
theorem lexA {x r x' r' : Int} (h : 0 ≤ r) (h1 : r < 20000) (h' : 0 ≤ r') (h1' : r' < 20000) : (x * 20000 + r < x' * 20000 + r' ↔ x < x' ∨ (x = x' ∧ r < r')) ∧ (x * 20000 + r = x' * 20000 + r' ↔ x = x' ∧ r = r') := by
  rcases Int.lt_trichotomy x x' with q | q | q
  · exact ⟨by omega, by omega⟩
  · subst q
    exact ⟨by omega, by omega⟩
  · exact ⟨by omega, by omega⟩
theorem lexB {x r x' r' : Int} (h : 0 ≤ r) (h1 : r < 2000) (h' : 0 ≤ r') (h1' : r' < 2000) : (x * 2000 + r < x' * 2000 + r' ↔ x < x' ∨ (x = x' ∧ r < r')) ∧ (x * 2000 + r = x' * 2000 + r' ↔ x = x' ∧ r = r') := by
  rcases Int.lt_trichotomy x x' with q | q | q
  · exact ⟨by omega, by omega⟩
  · subst q
    exact ⟨by omega, by omega⟩
  · exact ⟨by omega, by omega⟩
structure Q4 (a b c w : Int) : Prop where
  a : 0 ≤ a ∧ a ≤ 9999
  b : 0 ≤ b ∧ b ≤ 10000
  c : 0 ≤ c ∧ c ≤ 10000
  w : 0 ≤ w ∧ w ≤ 1000
theorem c4_in {a b c w : Int} (q : Q4 a b c w) : 0 ≤ c4 a b c w ∧ c4 a b c w < 100000000000000000000000 := by
  obtain ⟨⟨_, _⟩, ⟨_, _⟩, ⟨_, _⟩, ⟨_, _⟩⟩ := q
  unfold c4
  omega
theorem c4_cmp {a b c w a' b' c' w' : Int} (q : Q4 a b c w) (q' : Q4 a' b' c' w') : (c4 a b c w < c4 a' b' c' w' ↔ a < a' ∨ (a = a' ∧ (b < b' ∨ (b = b' ∧ (c < c' ∨ (c = c' ∧ w < w')))))) ∧ (c4 a b c w = c4 a' b' c' w' ↔ a = a' ∧ b = b' ∧ c = c' ∧ w = w') := by
  obtain ⟨⟨_, _⟩, ⟨_, _⟩, ⟨_, _⟩, ⟨_, _⟩⟩ := q
  obtain ⟨⟨_, _⟩, ⟨_, _⟩, ⟨_, _⟩, ⟨_, _⟩⟩ := q'
  have h1 := lexB (x := (a * 20000 + b) * 20000 + c) (x' := (a' * 20000 + b') * 20000 + c') (r := w) (r' := w') (by omega) (by omega) (by omega) (by omega)
  have h2 := lexA (x := a * 20000 + b) (x' := a' * 20000 + b') (r := c) (r' := c') (by omega) (by omega) (by omega) (by omega)
  have h3 := lexA (x := a) (x' := a') (r := b) (r' := b') (by omega) (by omega) (by omega) (by omega)
  unfold c4
  rw [h1.1, h1.2, h2.1, h2.2, h3.1, h3.2]
  exact ⟨by omega, by omega⟩
/-- a version's place -/
def vcode (v : Ver) : Int := c4 v.a v.b v.c (wsc v.ws)
def keyItems (v : Ver) : List PyData := [.int v.a, .int v.b, .int v.c, .int (if v.ws.isEmpty then 1 else 0), .tuple (v.ws.map wordP)]
theorem pyAll_words : ∀ ws : List Str, pyAll (ws.map wordD) = some (ws.map wordP)
  | [] => rfl
  | w :: ws => by simp [pyAll, wordP_py, pyAll_words ws]
theorem keyV_py (v : Ver) : (keyV v).py = some (.tuple (keyItems v)) := by simp [keyV, keyItems, D.py, pyAll, pyAll_words]
theorem okWords {ws us : List Str} (hw : ws.length ≤ 2 ∧ ∀ w ∈ ws, w ∈ words10) (hu : us.length ≤ 2 ∧ ∀ w ∈ us, w ∈ words10) (he : ws.isEmpty = us.isEmpty) : OK2 (.tuple (ws.map wordP)) (.tuple (us.map wordP)) (wsc ws) (wsc us) := by
  have h := words_ok hw hu
  exact ⟨by simp only [alike]; exact h.1, by simp only [PyData.eqv]; exact h.2.1, by rw [dataLt_tuple]; exact h.2.2 he⟩
/-- ends: the least, the greatest, all that begin with one or two numbers, ahead of or behind a version -/
inductive En where
  | lo | hi | p1 (a : Int) | p2 (a b : Int) | av (v : Ver) (s : Bool)
def ec : En → Int
  | .lo => -1
  | .hi => 1000000000000000000000000
  | .p1 a => c4 a 0 0 0 * 8
  | .p2 a b => c4 a b 0 0 * 8 + 1
  | .av v s => vcode v * 8 + 2 + (if s then 1 else 0)
def GoodE : En → Prop
  | .lo => True
  | .hi => True
  | .p1 a => 0 ≤ a ∧ a ≤ 9999
  | .p2 a b => 0 ≤ a ∧ a ≤ 9999 ∧ 0 ≤ b ∧ b ≤ 10000
  | .av v _ => GoodV v
/-- the first part of an end, at the program (m) or the law -/
def i1 (m : Bool) : En → List PyData
  | .lo => if m then [.int (-1)] else []
  | .hi => [.int (if m then 10000 else 99999)]
  | .p1 a => [.int a]
  | .p2 a b => [.int a, .int b]
  | .av v _ => keyItems v
def i2 (m : Bool) : En → Int
  | .lo => if m then -1 else 0
  | .hi => if m then 1 else 0
  | .p1 _ => if m then -1 else 0
  | .p2 _ _ => if m then -1 else 0
  | .av _ s => if m then (if s then 1 else -1) else (if s then 2 else 1)
def eP (m : Bool) (e : En) : PyData := .tuple [.tuple (i1 m e), .int (i2 m e)]
theorem alikeKeys {u v : Ver} (gu : GoodV u) (gv : GoodV v) : alikeAll (keyItems u) (keyItems v) = true := by
  simp only [keyItems, alikeAll, alike, Bool.true_and, Bool.and_true]
  exact (words_ok gu.ws gv.ws).1
theorem eqvAll_cons (x y : PyData) (xs ys : List PyData) : PyData.eqvAll (x :: xs) (y :: ys) = (PyData.eqv x y && PyData.eqvAll xs ys) := by rw [PyData.eqvAll]
theorem vc_in {v : Ver} (g : GoodV v) : 20 ≤ wsc v.ws ∧ wsc v.ws ≤ 1000 := by
  rcases wsc_in g.ws with ⟨_, h⟩ | ⟨_, h⟩ <;> omega
theorem q4V {v : Ver} (g : GoodV v) : Q4 v.a v.b v.c (wsc v.ws) := by
  have := vc_in g
  have ha := g.a
  have hb := g.b
  have hc := g.c
  exact ⟨by omega, by omega, by omega, by omega⟩
theorem key_ok {u v : Ver} (gu : GoodV u) (gv : GoodV v) : OK2 (.tuple (keyItems u)) (.tuple (keyItems v)) (vcode u) (vcode v) := by
  have hq := c4_cmp (q4V gu) (q4V gv)
  have hw := wsc_in gu.ws
  have hw' := wsc_in gv.ws
  refine ⟨by simp only [alike]; exact alikeKeys gu gv, ?_, ?_⟩
  · unfold vcode
    rw [hq.2]
    simp only [PyData.eqv, keyItems, eqvAll_cons, Bool.and_eq_true, beq_iff_eq]
    rw [(words_ok gu.ws gv.ws).2.1]
    simp only [PyData.eqvAll, and_true]
    rcases hw with ⟨e, hw⟩ | ⟨e, hw⟩ <;> rcases hw' with ⟨e', hw'⟩ | ⟨e', hw'⟩ <;> simp only [e, e', if_true, Bool.false_eq_true, if_false, true_and] <;> omega
  · rw [dataLt_tuple]
    show rowLt (keyItems u) (keyItems v) = true ↔ _
    unfold keyItems vcode
    rw [hq.1, row3 (okInt _ _), row3 (okInt _ _), row3 (okInt _ _), row3 (okInt _ _)]
    rcases hw with ⟨e, hw⟩ | ⟨e, hw⟩ <;> rcases hw' with ⟨e', hw'⟩ | ⟨e', hw'⟩
    · rw [row3 (okWords gu.ws gv.ws (e.trans e'.symm)), row0]
      simp only [e, e', if_true, and_false, or_false, true_and]
      omega
    · simp only [e, e', if_true, Bool.false_eq_true, if_false]
      omega
    · simp only [e, e', if_true, Bool.false_eq_true, if_false]
      omega
    · rw [row3 (okWords gu.ws gv.ws (e.trans e'.symm)), row0]
      simp only [e, e', Bool.false_eq_true, if_false, and_false, or_false, true_and]
      omega
def c1 : En → Int
  | .lo => -1
  | .hi => 1000000000000000000000000
  | .p1 a => c4 a 0 0 0 * 8
  | .p2 a b => c4 a b 0 0 * 8 + 1
  | .av v _ => vcode v * 8 + 2
theorem q4p1 {a : Int} (g : GoodE (.p1 a)) : Q4 a 0 0 0 := ⟨g, by omega, by omega, by omega⟩
theorem q4p2 {a b : Int} (g : GoodE (.p2 a b)) : Q4 a b 0 0 := by
  obtain ⟨_, _, _, _⟩ := g
  exact ⟨by omega, by omega, by omega, by omega⟩
def ROk (m : Bool) (e f : En) : Prop := alikeAll (i1 m e) (i1 m f) = true ∧ (PyData.eqvAll (i1 m e) (i1 m f) = true ↔ c1 e = c1 f) ∧ (rowLt (i1 m e) (i1 m f) = true ↔ c1 e < c1 f)
theorem r_ok (m : Bool) {e f : En} (ge : GoodE e) (gf : GoodE f) : ROk m e f := by
  exact match e, f, ge, gf with
  | .av u s, .av v t, gu, gv => by
    have h := key_ok (u := u) (v := v) gu gv
    refine ⟨alikeKeys gu gv, ?_, ?_⟩
    · have := h.2.1
      simp only [PyData.eqv] at this
      simp only [i1, c1, this]; omega
    · have := h.2.2
      rw [dataLt_tuple] at this
      simp only [c1]
      exact this.trans (by omega)
  | .lo, .lo, g, g2 => by
    cases m <;> refine ⟨by simp [i1, alikeAll, alike, keyItems], ?_, ?_⟩
    all_goals simp only [i1, keyItems, PyData.eqvAll, PyData.eqv, row0, row1, row2, row3 (okInt _ _), c1, vcode, Bool.and_true, Bool.and_false, Bool.false_and, Bool.true_and, Bool.and_eq_true, beq_iff_eq, if_true, Bool.false_eq_true, if_false, and_true, and_false, or_false, or_true, false_or, true_and, false_and, true_iff, false_iff, iff_true, iff_false, Int.lt_irrefl]
    all_goals omega
  | .lo, .hi, g, g2 => by
    cases m <;> refine ⟨by simp [i1, alikeAll, alike, keyItems], ?_, ?_⟩
    all_goals simp only [i1, keyItems, PyData.eqvAll, PyData.eqv, row0, row1, row2, row3 (okInt _ _), c1, vcode, Bool.and_true, Bool.and_false, Bool.false_and, Bool.true_and, Bool.and_eq_true, beq_iff_eq, if_true, Bool.false_eq_true, if_false, and_true, and_false, or_false, or_true, false_or, true_and, false_and, true_iff, false_iff, iff_true, iff_false, Int.lt_irrefl]
    all_goals omega
  | .lo, .p1 a2, g, g2 => by
    have q2 := q4p1 g2
    have z2 := c4_in q2
    have ⟨y5, y6, y7, y8⟩ := q2
    cases m <;> refine ⟨by simp [i1, alikeAll, alike, keyItems], ?_, ?_⟩
    all_goals simp only [i1, keyItems, PyData.eqvAll, PyData.eqv, row0, row1, row2, row3 (okInt _ _), c1, vcode, Bool.and_true, Bool.and_false, Bool.false_and, Bool.true_and, Bool.and_eq_true, beq_iff_eq, if_true, Bool.false_eq_true, if_false, and_true, and_false, or_false, or_true, false_or, true_and, false_and, true_iff, false_iff, iff_true, iff_false, Int.lt_irrefl]
    all_goals omega
  | .lo, .p2 a2 b2, g, g2 => by
    have q2 := q4p2 g2
    have z2 := c4_in q2
    have ⟨y5, y6, y7, y8⟩ := q2
    cases m <;> refine ⟨by simp [i1, alikeAll, alike, keyItems], ?_, ?_⟩
    all_goals simp only [i1, keyItems, PyData.eqvAll, PyData.eqv, row0, row1, row2, row3 (okInt _ _), c1, vcode, Bool.and_true, Bool.and_false, Bool.false_and, Bool.true_and, Bool.and_eq_true, beq_iff_eq, if_true, Bool.false_eq_true, if_false, and_true, and_false, or_false, or_true, false_or, true_and, false_and, true_iff, false_iff, iff_true, iff_false, Int.lt_irrefl]
    all_goals omega
  | .lo, .av v2 s2, g, g2 => by
    have q2 := q4V g2
    have z2 := c4_in q2
    have ⟨y5, y6, y7, y8⟩ := q2
    have x2 := vc_in g2
    cases m <;> refine ⟨by simp [i1, alikeAll, alike, keyItems], ?_, ?_⟩
    all_goals simp only [i1, keyItems, PyData.eqvAll, PyData.eqv, row0, row1, row2, row3 (okInt _ _), c1, vcode, Bool.and_true, Bool.and_false, Bool.false_and, Bool.true_and, Bool.and_eq_true, beq_iff_eq, if_true, Bool.false_eq_true, if_false, and_true, and_false, or_false, or_true, false_or, true_and, false_and, true_iff, false_iff, iff_true, iff_false, Int.lt_irrefl]
    all_goals omega
  | .hi, .lo, g, g2 => by
    cases m <;> refine ⟨by simp [i1, alikeAll, alike, keyItems], ?_, ?_⟩
    all_goals simp only [i1, keyItems, PyData.eqvAll, PyData.eqv, row0, row1, row2, row3 (okInt _ _), c1, vcode, Bool.and_true, Bool.and_false, Bool.false_and, Bool.true_and, Bool.and_eq_true, beq_iff_eq, if_true, Bool.false_eq_true, if_false, and_true, and_false, or_false, or_true, false_or, true_and, false_and, true_iff, false_iff, iff_true, iff_false, Int.lt_irrefl]
    all_goals omega
  | .hi, .hi, g, g2 => by
    cases m <;> refine ⟨by simp [i1, alikeAll, alike, keyItems], ?_, ?_⟩
    all_goals simp only [i1, keyItems, PyData.eqvAll, PyData.eqv, row0, row1, row2, row3 (okInt _ _), c1, vcode, Bool.and_true, Bool.and_false, Bool.false_and, Bool.true_and, Bool.and_eq_true, beq_iff_eq, if_true, Bool.false_eq_true, if_false, and_true, and_false, or_false, or_true, false_or, true_and, false_and, true_iff, false_iff, iff_true, iff_false, Int.lt_irrefl]
    all_goals omega
  | .hi, .p1 a2, g, g2 => by
    have q2 := q4p1 g2
    have z2 := c4_in q2
    have ⟨y5, y6, y7, y8⟩ := q2
    cases m <;> refine ⟨by simp [i1, alikeAll, alike, keyItems], ?_, ?_⟩
    all_goals simp only [i1, keyItems, PyData.eqvAll, PyData.eqv, row0, row1, row2, row3 (okInt _ _), c1, vcode, Bool.and_true, Bool.and_false, Bool.false_and, Bool.true_and, Bool.and_eq_true, beq_iff_eq, if_true, Bool.false_eq_true, if_false, and_true, and_false, or_false, or_true, false_or, true_and, false_and, true_iff, false_iff, iff_true, iff_false, Int.lt_irrefl]
    all_goals omega
  | .hi, .p2 a2 b2, g, g2 => by
    have q2 := q4p2 g2
    have z2 := c4_in q2
    have ⟨y5, y6, y7, y8⟩ := q2
    cases m <;> refine ⟨by simp [i1, alikeAll, alike, keyItems], ?_, ?_⟩
    all_goals simp only [i1, keyItems, PyData.eqvAll, PyData.eqv, row0, row1, row2, row3 (okInt _ _), c1, vcode, Bool.and_true, Bool.and_false, Bool.false_and, Bool.true_and, Bool.and_eq_true, beq_iff_eq, if_true, Bool.false_eq_true, if_false, and_true, and_false, or_false, or_true, false_or, true_and, false_and, true_iff, false_iff, iff_true, iff_false, Int.lt_irrefl]
    all_goals omega
  | .hi, .av v2 s2, g, g2 => by
    have q2 := q4V g2
    have z2 := c4_in q2
    have ⟨y5, y6, y7, y8⟩ := q2
    have x2 := vc_in g2
    cases m <;> refine ⟨by simp [i1, alikeAll, alike, keyItems], ?_, ?_⟩
    all_goals simp only [i1, keyItems, PyData.eqvAll, PyData.eqv, row0, row1, row2, row3 (okInt _ _), c1, vcode, Bool.and_true, Bool.and_false, Bool.false_and, Bool.true_and, Bool.and_eq_true, beq_iff_eq, if_true, Bool.false_eq_true, if_false, and_true, and_false, or_false, or_true, false_or, true_and, false_and, true_iff, false_iff, iff_true, iff_false, Int.lt_irrefl]
    all_goals omega
  | .p1 a, .lo, g, g2 => by
    have q1 := q4p1 g
    have z1 := c4_in q1
    have ⟨y1, y2, y3, y4⟩ := q1
    cases m <;> refine ⟨by simp [i1, alikeAll, alike, keyItems], ?_, ?_⟩
    all_goals simp only [i1, keyItems, PyData.eqvAll, PyData.eqv, row0, row1, row2, row3 (okInt _ _), c1, vcode, Bool.and_true, Bool.and_false, Bool.false_and, Bool.true_and, Bool.and_eq_true, beq_iff_eq, if_true, Bool.false_eq_true, if_false, and_true, and_false, or_false, or_true, false_or, true_and, false_and, true_iff, false_iff, iff_true, iff_false, Int.lt_irrefl]
    all_goals omega
  | .p1 a, .hi, g, g2 => by
    have q1 := q4p1 g
    have z1 := c4_in q1
    have ⟨y1, y2, y3, y4⟩ := q1
    cases m <;> refine ⟨by simp [i1, alikeAll, alike, keyItems], ?_, ?_⟩
    all_goals simp only [i1, keyItems, PyData.eqvAll, PyData.eqv, row0, row1, row2, row3 (okInt _ _), c1, vcode, Bool.and_true, Bool.and_false, Bool.false_and, Bool.true_and, Bool.and_eq_true, beq_iff_eq, if_true, Bool.false_eq_true, if_false, and_true, and_false, or_false, or_true, false_or, true_and, false_and, true_iff, false_iff, iff_true, iff_false, Int.lt_irrefl]
    all_goals omega
  | .p1 a, .p1 a2, g, g2 => by
    have q1 := q4p1 g
    have z1 := c4_in q1
    have ⟨y1, y2, y3, y4⟩ := q1
    have q2 := q4p1 g2
    have z2 := c4_in q2
    have ⟨y5, y6, y7, y8⟩ := q2
    have hc := c4_cmp q1 q2
    cases m <;> refine ⟨by simp [i1, alikeAll, alike, keyItems], ?_, ?_⟩
    all_goals simp only [i1, keyItems, PyData.eqvAll, PyData.eqv, row0, row1, row2, row3 (okInt _ _), c1, vcode, Bool.and_true, Bool.and_false, Bool.false_and, Bool.true_and, Bool.and_eq_true, beq_iff_eq, if_true, Bool.false_eq_true, if_false, and_true, and_false, or_false, or_true, false_or, true_and, false_and, true_iff, false_iff, iff_true, iff_false, Int.lt_irrefl]
    all_goals omega
  | .p1 a, .p2 a2 b2, g, g2 => by
    have q1 := q4p1 g
    have z1 := c4_in q1
    have ⟨y1, y2, y3, y4⟩ := q1
    have q2 := q4p2 g2
    have z2 := c4_in q2
    have ⟨y5, y6, y7, y8⟩ := q2
    have hc := c4_cmp q1 q2
    cases m <;> refine ⟨by simp [i1, alikeAll, alike, keyItems], ?_, ?_⟩
    all_goals simp only [i1, keyItems, PyData.eqvAll, PyData.eqv, row0, row1, row2, row3 (okInt _ _), c1, vcode, Bool.and_true, Bool.and_false, Bool.false_and, Bool.true_and, Bool.and_eq_true, beq_iff_eq, if_true, Bool.false_eq_true, if_false, and_true, and_false, or_false, or_true, false_or, true_and, false_and, true_iff, false_iff, iff_true, iff_false, Int.lt_irrefl]
    all_goals omega
  | .p1 a, .av v2 s2, g, g2 => by
    have q1 := q4p1 g
    have z1 := c4_in q1
    have ⟨y1, y2, y3, y4⟩ := q1
    have q2 := q4V g2
    have z2 := c4_in q2
    have ⟨y5, y6, y7, y8⟩ := q2
    have hc := c4_cmp q1 q2
    have x2 := vc_in g2
    cases m <;> refine ⟨by simp [i1, alikeAll, alike, keyItems], ?_, ?_⟩
    all_goals simp only [i1, keyItems, PyData.eqvAll, PyData.eqv, row0, row1, row2, row3 (okInt _ _), c1, vcode, Bool.and_true, Bool.and_false, Bool.false_and, Bool.true_and, Bool.and_eq_true, beq_iff_eq, if_true, Bool.false_eq_true, if_false, and_true, and_false, or_false, or_true, false_or, true_and, false_and, true_iff, false_iff, iff_true, iff_false, Int.lt_irrefl]
    all_goals omega
  | .p2 a b, .lo, g, g2 => by
    have q1 := q4p2 g
    have z1 := c4_in q1
    have ⟨y1, y2, y3, y4⟩ := q1
    cases m <;> refine ⟨by simp [i1, alikeAll, alike, keyItems], ?_, ?_⟩
    all_goals simp only [i1, keyItems, PyData.eqvAll, PyData.eqv, row0, row1, row2, row3 (okInt _ _), c1, vcode, Bool.and_true, Bool.and_false, Bool.false_and, Bool.true_and, Bool.and_eq_true, beq_iff_eq, if_true, Bool.false_eq_true, if_false, and_true, and_false, or_false, or_true, false_or, true_and, false_and, true_iff, false_iff, iff_true, iff_false, Int.lt_irrefl]
    all_goals omega
  | .p2 a b, .hi, g, g2 => by
    have q1 := q4p2 g
    have z1 := c4_in q1
    have ⟨y1, y2, y3, y4⟩ := q1
    cases m <;> refine ⟨by simp [i1, alikeAll, alike, keyItems], ?_, ?_⟩
    all_goals simp only [i1, keyItems, PyData.eqvAll, PyData.eqv, row0, row1, row2, row3 (okInt _ _), c1, vcode, Bool.and_true, Bool.and_false, Bool.false_and, Bool.true_and, Bool.and_eq_true, beq_iff_eq, if_true, Bool.false_eq_true, if_false, and_true, and_false, or_false, or_true, false_or, true_and, false_and, true_iff, false_iff, iff_true, iff_false, Int.lt_irrefl]
    all_goals omega
  | .p2 a b, .p1 a2, g, g2 => by
    have q1 := q4p2 g
    have z1 := c4_in q1
    have ⟨y1, y2, y3, y4⟩ := q1
    have q2 := q4p1 g2
    have z2 := c4_in q2
    have ⟨y5, y6, y7, y8⟩ := q2
    have hc := c4_cmp q1 q2
    cases m <;> refine ⟨by simp [i1, alikeAll, alike, keyItems], ?_, ?_⟩
    all_goals simp only [i1, keyItems, PyData.eqvAll, PyData.eqv, row0, row1, row2, row3 (okInt _ _), c1, vcode, Bool.and_true, Bool.and_false, Bool.false_and, Bool.true_and, Bool.and_eq_true, beq_iff_eq, if_true, Bool.false_eq_true, if_false, and_true, and_false, or_false, or_true, false_or, true_and, false_and, true_iff, false_iff, iff_true, iff_false, Int.lt_irrefl]
    all_goals omega
  | .p2 a b, .p2 a2 b2, g, g2 => by
    have q1 := q4p2 g
    have z1 := c4_in q1
    have ⟨y1, y2, y3, y4⟩ := q1
    have q2 := q4p2 g2
    have z2 := c4_in q2
    have ⟨y5, y6, y7, y8⟩ := q2
    have hc := c4_cmp q1 q2
    cases m <;> refine ⟨by simp [i1, alikeAll, alike, keyItems], ?_, ?_⟩
    all_goals simp only [i1, keyItems, PyData.eqvAll, PyData.eqv, row0, row1, row2, row3 (okInt _ _), c1, vcode, Bool.and_true, Bool.and_false, Bool.false_and, Bool.true_and, Bool.and_eq_true, beq_iff_eq, if_true, Bool.false_eq_true, if_false, and_true, and_false, or_false, or_true, false_or, true_and, false_and, true_iff, false_iff, iff_true, iff_false, Int.lt_irrefl]
    all_goals omega
  | .p2 a b, .av v2 s2, g, g2 => by
    have q1 := q4p2 g
    have z1 := c4_in q1
    have ⟨y1, y2, y3, y4⟩ := q1
    have q2 := q4V g2
    have z2 := c4_in q2
    have ⟨y5, y6, y7, y8⟩ := q2
    have hc := c4_cmp q1 q2
    have x2 := vc_in g2
    cases m <;> refine ⟨by simp [i1, alikeAll, alike, keyItems], ?_, ?_⟩
    all_goals simp only [i1, keyItems, PyData.eqvAll, PyData.eqv, row0, row1, row2, row3 (okInt _ _), c1, vcode, Bool.and_true, Bool.and_false, Bool.false_and, Bool.true_and, Bool.and_eq_true, beq_iff_eq, if_true, Bool.false_eq_true, if_false, and_true, and_false, or_false, or_true, false_or, true_and, false_and, true_iff, false_iff, iff_true, iff_false, Int.lt_irrefl]
    all_goals omega
  | .av v s, .lo, g, g2 => by
    have q1 := q4V g
    have z1 := c4_in q1
    have ⟨y1, y2, y3, y4⟩ := q1
    have x1 := vc_in g
    cases m <;> refine ⟨by simp [i1, alikeAll, alike, keyItems], ?_, ?_⟩
    all_goals simp only [i1, keyItems, PyData.eqvAll, PyData.eqv, row0, row1, row2, row3 (okInt _ _), c1, vcode, Bool.and_true, Bool.and_false, Bool.false_and, Bool.true_and, Bool.and_eq_true, beq_iff_eq, if_true, Bool.false_eq_true, if_false, and_true, and_false, or_false, or_true, false_or, true_and, false_and, true_iff, false_iff, iff_true, iff_false, Int.lt_irrefl]
    all_goals omega
  | .av v s, .hi, g, g2 => by
    have q1 := q4V g
    have z1 := c4_in q1
    have ⟨y1, y2, y3, y4⟩ := q1
    have x1 := vc_in g
    cases m <;> refine ⟨by simp [i1, alikeAll, alike, keyItems], ?_, ?_⟩
    all_goals simp only [i1, keyItems, PyData.eqvAll, PyData.eqv, row0, row1, row2, row3 (okInt _ _), c1, vcode, Bool.and_true, Bool.and_false, Bool.false_and, Bool.true_and, Bool.and_eq_true, beq_iff_eq, if_true, Bool.false_eq_true, if_false, and_true, and_false, or_false, or_true, false_or, true_and, false_and, true_iff, false_iff, iff_true, iff_false, Int.lt_irrefl]
    all_goals omega
  | .av v s, .p1 a2, g, g2 => by
    have q1 := q4V g
    have z1 := c4_in q1
    have ⟨y1, y2, y3, y4⟩ := q1
    have q2 := q4p1 g2
    have z2 := c4_in q2
    have ⟨y5, y6, y7, y8⟩ := q2
    have hc := c4_cmp q1 q2
    have x1 := vc_in g
    cases m <;> refine ⟨by simp [i1, alikeAll, alike, keyItems], ?_, ?_⟩
    all_goals simp only [i1, keyItems, PyData.eqvAll, PyData.eqv, row0, row1, row2, row3 (okInt _ _), c1, vcode, Bool.and_true, Bool.and_false, Bool.false_and, Bool.true_and, Bool.and_eq_true, beq_iff_eq, if_true, Bool.false_eq_true, if_false, and_true, and_false, or_false, or_true, false_or, true_and, false_and, true_iff, false_iff, iff_true, iff_false, Int.lt_irrefl]
    all_goals omega
  | .av v s, .p2 a2 b2, g, g2 => by
    have q1 := q4V g
    have z1 := c4_in q1
    have ⟨y1, y2, y3, y4⟩ := q1
    have q2 := q4p2 g2
    have z2 := c4_in q2
    have ⟨y5, y6, y7, y8⟩ := q2
    have hc := c4_cmp q1 q2
    have x1 := vc_in g
    cases m <;> refine ⟨by simp [i1, alikeAll, alike, keyItems], ?_, ?_⟩
    all_goals simp only [i1, keyItems, PyData.eqvAll, PyData.eqv, row0, row1, row2, row3 (okInt _ _), c1, vcode, Bool.and_true, Bool.and_false, Bool.false_and, Bool.true_and, Bool.and_eq_true, beq_iff_eq, if_true, Bool.false_eq_true, if_false, and_true, and_false, or_false, or_true, false_or, true_and, false_and, true_iff, false_iff, iff_true, iff_false, Int.lt_irrefl]
    all_goals omega
theorem i2_ok (m : Bool) : ∀ {e f : En}, GoodE e → GoodE f → (c1 e = c1 f ∧ i2 m e = i2 m f ↔ ec e = ec f) ∧ (c1 e < c1 f ∨ (c1 e = c1 f ∧ i2 m e < i2 m f) ↔ ec e < ec f) := by
  intro e f ge gf
  exact match e, f, ge, gf with
  | .lo, .lo, g, g2 => by
    cases m <;> simp only [c1, i2, ec, vcode, if_true, Bool.false_eq_true, if_false, and_true, and_false, or_false, or_true, false_or, true_and, false_and, true_iff, false_iff, iff_true, iff_false, Int.lt_irrefl] <;> omega
  | .lo, .hi, g, g2 => by
    cases m <;> simp only [c1, i2, ec, vcode, if_true, Bool.false_eq_true, if_false, and_true, and_false, or_false, or_true, false_or, true_and, false_and, true_iff, false_iff, iff_true, iff_false, Int.lt_irrefl] <;> omega
  | .lo, .p1 a2, g, g2 => by
    have z2 := c4_in (q4p1 g2)
    cases m <;> simp only [c1, i2, ec, vcode, if_true, Bool.false_eq_true, if_false, and_true, and_false, or_false, or_true, false_or, true_and, false_and, true_iff, false_iff, iff_true, iff_false, Int.lt_irrefl] <;> omega
  | .lo, .p2 a2 b2, g, g2 => by
    have z2 := c4_in (q4p2 g2)
    cases m <;> simp only [c1, i2, ec, vcode, if_true, Bool.false_eq_true, if_false, and_true, and_false, or_false, or_true, false_or, true_and, false_and, true_iff, false_iff, iff_true, iff_false, Int.lt_irrefl] <;> omega
  | .lo, .av v2 s2, g, g2 => by
    have z2 := c4_in (q4V g2)
    cases m <;> cases s2 <;> simp only [c1, i2, ec, vcode, if_true, Bool.false_eq_true, if_false, and_true, and_false, or_false, or_true, false_or, true_and, false_and, true_iff, false_iff, iff_true, iff_false, Int.lt_irrefl] <;> omega
  | .hi, .lo, g, g2 => by
    cases m <;> simp only [c1, i2, ec, vcode, if_true, Bool.false_eq_true, if_false, and_true, and_false, or_false, or_true, false_or, true_and, false_and, true_iff, false_iff, iff_true, iff_false, Int.lt_irrefl] <;> omega
  | .hi, .hi, g, g2 => by
    cases m <;> simp only [c1, i2, ec, vcode, if_true, Bool.false_eq_true, if_false, and_true, and_false, or_false, or_true, false_or, true_and, false_and, true_iff, false_iff, iff_true, iff_false, Int.lt_irrefl] <;> omega
  | .hi, .p1 a2, g, g2 => by
    have z2 := c4_in (q4p1 g2)
    cases m <;> simp only [c1, i2, ec, vcode, if_true, Bool.false_eq_true, if_false, and_true, and_false, or_false, or_true, false_or, true_and, false_and, true_iff, false_iff, iff_true, iff_false, Int.lt_irrefl] <;> omega
  | .hi, .p2 a2 b2, g, g2 => by
    have z2 := c4_in (q4p2 g2)
    cases m <;> simp only [c1, i2, ec, vcode, if_true, Bool.false_eq_true, if_false, and_true, and_false, or_false, or_true, false_or, true_and, false_and, true_iff, false_iff, iff_true, iff_false, Int.lt_irrefl] <;> omega
  | .hi, .av v2 s2, g, g2 => by
    have z2 := c4_in (q4V g2)
    cases m <;> cases s2 <;> simp only [c1, i2, ec, vcode, if_true, Bool.false_eq_true, if_false, and_true, and_false, or_false, or_true, false_or, true_and, false_and, true_iff, false_iff, iff_true, iff_false, Int.lt_irrefl] <;> omega
  | .p1 a, .lo, g, g2 => by
    have z1 := c4_in (q4p1 g)
    cases m <;> simp only [c1, i2, ec, vcode, if_true, Bool.false_eq_true, if_false, and_true, and_false, or_false, or_true, false_or, true_and, false_and, true_iff, false_iff, iff_true, iff_false, Int.lt_irrefl] <;> omega
  | .p1 a, .hi, g, g2 => by
    have z1 := c4_in (q4p1 g)
    cases m <;> simp only [c1, i2, ec, vcode, if_true, Bool.false_eq_true, if_false, and_true, and_false, or_false, or_true, false_or, true_and, false_and, true_iff, false_iff, iff_true, iff_false, Int.lt_irrefl] <;> omega
  | .p1 a, .p1 a2, g, g2 => by
    have z1 := c4_in (q4p1 g)
    have z2 := c4_in (q4p1 g2)
    cases m <;> simp only [c1, i2, ec, vcode, if_true, Bool.false_eq_true, if_false, and_true, and_false, or_false, or_true, false_or, true_and, false_and, true_iff, false_iff, iff_true, iff_false, Int.lt_irrefl] <;> omega
  | .p1 a, .p2 a2 b2, g, g2 => by
    have z1 := c4_in (q4p1 g)
    have z2 := c4_in (q4p2 g2)
    cases m <;> simp only [c1, i2, ec, vcode, if_true, Bool.false_eq_true, if_false, and_true, and_false, or_false, or_true, false_or, true_and, false_and, true_iff, false_iff, iff_true, iff_false, Int.lt_irrefl] <;> omega
  | .p1 a, .av v2 s2, g, g2 => by
    have z1 := c4_in (q4p1 g)
    have z2 := c4_in (q4V g2)
    cases m <;> cases s2 <;> simp only [c1, i2, ec, vcode, if_true, Bool.false_eq_true, if_false, and_true, and_false, or_false, or_true, false_or, true_and, false_and, true_iff, false_iff, iff_true, iff_false, Int.lt_irrefl] <;> omega
  | .p2 a b, .lo, g, g2 => by
    have z1 := c4_in (q4p2 g)
    cases m <;> simp only [c1, i2, ec, vcode, if_true, Bool.false_eq_true, if_false, and_true, and_false, or_false, or_true, false_or, true_and, false_and, true_iff, false_iff, iff_true, iff_false, Int.lt_irrefl] <;> omega
  | .p2 a b, .hi, g, g2 => by
    have z1 := c4_in (q4p2 g)
    cases m <;> simp only [c1, i2, ec, vcode, if_true, Bool.false_eq_true, if_false, and_true, and_false, or_false, or_true, false_or, true_and, false_and, true_iff, false_iff, iff_true, iff_false, Int.lt_irrefl] <;> omega
  | .p2 a b, .p1 a2, g, g2 => by
    have z1 := c4_in (q4p2 g)
    have z2 := c4_in (q4p1 g2)
    cases m <;> simp only [c1, i2, ec, vcode, if_true, Bool.false_eq_true, if_false, and_true, and_false, or_false, or_true, false_or, true_and, false_and, true_iff, false_iff, iff_true, iff_false, Int.lt_irrefl] <;> omega
  | .p2 a b, .p2 a2 b2, g, g2 => by
    have z1 := c4_in (q4p2 g)
    have z2 := c4_in (q4p2 g2)
    cases m <;> simp only [c1, i2, ec, vcode, if_true, Bool.false_eq_true, if_false, and_true, and_false, or_false, or_true, false_or, true_and, false_and, true_iff, false_iff, iff_true, iff_false, Int.lt_irrefl] <;> omega
  | .p2 a b, .av v2 s2, g, g2 => by
    have z1 := c4_in (q4p2 g)
    have z2 := c4_in (q4V g2)
    cases m <;> cases s2 <;> simp only [c1, i2, ec, vcode, if_true, Bool.false_eq_true, if_false, and_true, and_false, or_false, or_true, false_or, true_and, false_and, true_iff, false_iff, iff_true, iff_false, Int.lt_irrefl] <;> omega
  | .av v s, .lo, g, g2 => by
    have z1 := c4_in (q4V g)
    cases m <;> cases s <;> simp only [c1, i2, ec, vcode, if_true, Bool.false_eq_true, if_false, and_true, and_false, or_false, or_true, false_or, true_and, false_and, true_iff, false_iff, iff_true, iff_false, Int.lt_irrefl] <;> omega
  | .av v s, .hi, g, g2 => by
    have z1 := c4_in (q4V g)
    cases m <;> cases s <;> simp only [c1, i2, ec, vcode, if_true, Bool.false_eq_true, if_false, and_true, and_false, or_false, or_true, false_or, true_and, false_and, true_iff, false_iff, iff_true, iff_false, Int.lt_irrefl] <;> omega
  | .av v s, .p1 a2, g, g2 => by
    have z1 := c4_in (q4V g)
    have z2 := c4_in (q4p1 g2)
    cases m <;> cases s <;> simp only [c1, i2, ec, vcode, if_true, Bool.false_eq_true, if_false, and_true, and_false, or_false, or_true, false_or, true_and, false_and, true_iff, false_iff, iff_true, iff_false, Int.lt_irrefl] <;> omega
  | .av v s, .p2 a2 b2, g, g2 => by
    have z1 := c4_in (q4V g)
    have z2 := c4_in (q4p2 g2)
    cases m <;> cases s <;> simp only [c1, i2, ec, vcode, if_true, Bool.false_eq_true, if_false, and_true, and_false, or_false, or_true, false_or, true_and, false_and, true_iff, false_iff, iff_true, iff_false, Int.lt_irrefl] <;> omega
  | .av v s, .av v2 s2, g, g2 => by
    have z1 := c4_in (q4V g)
    have z2 := c4_in (q4V g2)
    cases m <;> cases s <;> cases s2 <;> simp only [c1, i2, ec, vcode, if_true, Bool.false_eq_true, if_false, and_true, and_false, or_false, or_true, false_or, true_and, false_and, true_iff, false_iff, iff_true, iff_false, Int.lt_irrefl] <;> omega
theorem pair_ok {x y x' y' : PyData} {n m k l : Int} (h : OK2 x x' n m) (h' : OK2 y y' k l) : alike (.tuple [x, y]) (.tuple [x', y']) = true ∧ (PyData.eqv (.tuple [x, y]) (.tuple [x', y']) = true ↔ n = m ∧ k = l) ∧ (dataLt (.tuple [x, y]) (.tuple [x', y']) = true ↔ n < m ∨ (n = m ∧ k < l)) := by
  refine ⟨by simp only [alike, alikeAll, h.1, h'.1]; rfl, by simp only [PyData.eqv, PyData.eqvAll, Bool.and_eq_true, h.2.1, h'.2.1, and_true], ?_⟩
  rw [dataLt_tuple]
  show rowLt [x, y] [x', y'] = true ↔ _
  rw [row3 h, row3 h', row0]
  simp only [and_false, or_false]
theorem en_ok (m : Bool) {e f : En} (ge : GoodE e) (gf : GoodE f) : OK2 (eP m e) (eP m f) (ec e) (ec f) := by
  have h := r_ok m ge gf
  have h1 : OK2 (.tuple (i1 m e)) (.tuple (i1 m f)) (c1 e) (c1 f) := ⟨by simp only [alike]; exact h.1, by simp only [PyData.eqv]; exact h.2.1, by rw [dataLt_tuple]; exact h.2.2⟩
  have p := pair_ok h1 (okInt (i2 m e) (i2 m f))
  have q := i2_ok m ge gf
  exact ⟨p.1, p.2.1.trans q.1, p.2.2.trans q.2⟩
/-- ends as data -/
def eD (m : Bool) : En → D
  | .lo => .tup [.tup (if m then [.int (-1)] else []), .int (if m then -1 else 0)]
  | .hi => .tup [.tup [.int (if m then 10000 else 99999)], .int (if m then 1 else 0)]
  | .p1 a => .tup [.tup [.int a], .int (if m then -1 else 0)]
  | .p2 a b => .tup [.tup [.int a, .int b], .int (if m then -1 else 0)]
  | .av v s => .tup [keyV v, .int (if m then (if s then 1 else -1) else (if s then 2 else 1))]
theorem eD_py (m : Bool) (e : En) : (eD m e).py = some (eP m e) := by
  cases e with
  | av v s => simp [eD, eP, i1, i2, D.py, pyAll, keyV_py]
  | lo => cases m <;> rfl
  | _ => rfl
theorem eD_closed (m : Bool) (e : En) : closedD (eD m e) = true := by
  cases e with
  | av v s => simp [eD, closedD, closedL, keyV_closed]
  | lo => cases m <;> rfl
  | _ => rfl
theorem wordP_depth (w : Str) : (wordP w).depth ≤ 5 := by
  unfold wordP
  split
  · decide
  · split
    · decide
    · split
      · decide
      · simp [PyData.depth, PyData.depthAll]
theorem wordsP_depth : ∀ ws : List Str, PyData.depthAll (ws.map wordP) ≤ 5
  | [] => by simp [PyData.depthAll]
  | w :: ws => by
    have := wordP_depth w
    have := wordsP_depth ws
    simp only [List.map_cons, PyData.depthAll]
    omega
theorem eP_depth (m : Bool) (e : En) : (eP m e).depth ≤ 20 := by
  cases e with
  | av v s =>
    have := wordsP_depth v.ws
    simp only [eP, i1, keyItems, PyData.depth, PyData.depthAll]
    omega
  | lo => cases m <;> decide
  | _ => simp [eP, i1, PyData.depth, PyData.depthAll]
theorem keyP_depth (v : Ver) : (PyData.tuple (keyItems v)).depth ≤ 20 := by
  have := wordsP_depth v.ws
  simp only [keyItems, PyData.depth, PyData.depthAll]
  omega
theorem ok_lt {a b : D} {p q : PyData} {n m : Int} (ha : a.py = some p) (hb : b.py = some q) (dp : p.depth ≤ 60) (dq : q.depth ≤ 60) (hn : isNonPy p = false) (h : OK2 p q n m) : ltD a b = some (decide (n < m)) := by
  unfold ltD
  rw [ha, hb]
  have d1 : deepOk p = true := decide_eq_true (by omega)
  have d2 : deepOk q = true := decide_eq_true (by omega)
  simp only [d1, d2, h.1, hn, Bool.and_self, Bool.not_false, if_true]
  congr 1
  rw [Bool.eq_iff_iff, h.2.2, decide_eq_true_iff]
theorem ok_eq {a b : D} {p q : PyData} {n m : Int} (ha : a.py = some p) (hb : b.py = some q) (dp : p.depth ≤ 60) (dq : q.depth ≤ 60) (h : OK2 p q n m) : eqD a b = some (decide (n = m)) := by
  unfold eqD
  rw [ha, hb]
  have d1 : deepOk p = true := decide_eq_true (by omega)
  have d2 : deepOk q = true := decide_eq_true (by omega)
  simp only [d1, d2, Bool.and_self, if_true]
  congr 1
  rw [Bool.eq_iff_iff, h.2.1, decide_eq_true_iff]
theorem ok_ltPy {a b : D} {p q : PyData} {n m : Int} (ha : a.py = some p) (hb : b.py = some q) (h : OK2 p q n m) : ltPy a b = decide (n < m) := by
  unfold ltPy
  rw [ha, hb]
  rw [Bool.eq_iff_iff, decide_eq_true_iff]
  exact h.2.2
theorem en_lt (m : Bool) {e f : En} (ge : GoodE e) (gf : GoodE f) : ltD (eD m e) (eD m f) = some (decide (ec e < ec f)) := ok_lt (eD_py m e) (eD_py m f) (Nat.le_trans (eP_depth m e) (by omega)) (Nat.le_trans (eP_depth m f) (by omega)) rfl (en_ok m ge gf)
theorem en_ltPy (m : Bool) {e f : En} (ge : GoodE e) (gf : GoodE f) : ltPy (eD m e) (eD m f) = decide (ec e < ec f) := ok_ltPy (eD_py m e) (eD_py m f) (en_ok m ge gf)
theorem en_cmp_lt (m : Bool) {e f : En} (ge : GoodE e) (gf : GoodE f) : cmpM .Lt (eD m e) (eD m f) = Ly.ret (decide (ec e < ec f)) := by
  funext S
  show ofOp (cmpD .Lt (Ly.view S (eD m e)) (Ly.view S (eD m f))) S = _
  rw [closed_view (eD_closed m e), closed_view (eD_closed m f)]
  show ofOp (ltD _ _) S = _
  rw [en_lt m ge gf]; rfl
theorem en_cmp_le (m : Bool) {e f : En} (ge : GoodE e) (gf : GoodE f) : cmpM .LtE (eD m e) (eD m f) = Ly.ret (decide (ec e ≤ ec f)) := by
  funext S
  show ofOp (cmpD .LtE (Ly.view S (eD m e)) (Ly.view S (eD m f))) S = _
  rw [closed_view (eD_closed m e), closed_view (eD_closed m f)]
  show ofOp ((ltD _ _).map (!·)) S = _
  rw [en_lt m gf ge]
  have : (!decide (ec f < ec e)) = decide (ec e ≤ ec f) := by rw [Bool.eq_iff_iff]; simp
  show Ly.ret (!decide (ec f < ec e)) S = _
  rw [this]
/-- versions' keys -/
theorem ver_lt {u v : Ver} (gu : GoodV u) (gv : GoodV v) : ltPy (keyV u) (keyV v) = decide (vcode u < vcode v) := ok_ltPy (keyV_py u) (keyV_py v) (key_ok gu gv)
theorem ver_eq {u v : Ver} (gu : GoodV u) (gv : GoodV v) : eqD (keyV u) (keyV v) = some (decide (vcode u = vcode v)) := ok_eq (keyV_py u) (keyV_py v) (Nat.le_trans (keyP_depth u) (by omega)) (Nat.le_trans (keyP_depth v) (by omega)) (key_ok gu gv)
/-! ### rows -/
def rowD (m : Bool) (p : En × En) : D := .tup [eD m p.1, eD m p.2]
def rowP (m : Bool) (p : En × En) : PyData := .tuple [eP m p.1, eP m p.2]
theorem rowD_py (m : Bool) (p : En × En) : (rowD m p).py = some (rowP m p) := by simp [rowD, rowP, D.py, pyAll, eD_py]
theorem rowD_closed (m : Bool) (p : En × En) : closedD (rowD m p) = true := by simp [rowD, closedD, closedL, eD_closed]
theorem rows_py (m : Bool) : ∀ rs : List (En × En), pyAll (rs.map (rowD m)) = some (rs.map (rowP m))
  | [] => rfl
  | r :: rs => by simp [pyAll, rowD_py, rows_py m rs]
theorem ends_py (m : Bool) : ∀ rs : List En, pyAll (rs.map (eD m)) = some (rs.map (eP m))
  | [] => rfl
  | r :: rs => by simp [pyAll, eD_py, ends_py m rs]
def GoodP (p : En × En) : Prop := GoodE p.1 ∧ GoodE p.2
theorem row_ok (m : Bool) {p q : En × En} (gp : GoodP p) (gq : GoodP q) : alike (rowP m p) (rowP m q) = true ∧ dataLt (rowP m p) (rowP m q) = ltP ec p q := by
  have h := pair_ok (en_ok m gp.1 gq.1) (en_ok m gp.2 gq.2)
  refine ⟨h.1, ?_⟩
  unfold ltP
  rw [Bool.eq_iff_iff, decide_eq_true_iff]
  exact h.2.2
theorem rowP_depth (m : Bool) (p : En × En) : (rowP m p).depth ≤ 60 := by
  have := eP_depth m p.1
  have := eP_depth m p.2
  simp only [rowP, PyData.depth, PyData.depthAll]
  omega
theorem row_sort (m : Bool) (rs : List (En × En)) (g : ∀ p ∈ rs, GoodP p) : sortD (rs.map (rowD m)) = some ((sortP ec rs).map (rowD m)) := by
  unfold sortD
  rw [rows_py]
  have h1 : allAlike (rs.map (rowP m)) = true := by
    unfold allAlike
    simp only [List.all_eq_true, List.mem_map]
    rintro _ ⟨p, hp, rfl⟩ _ ⟨q, hq, rfl⟩
    exact (row_ok m (g p hp) (g q hq)).1
  have h2 : sortableB (rs.map (rowP m)) = true := by
    unfold sortableB
    rw [Bool.or_eq_true]
    left
    simp only [List.all_eq_true, List.mem_map]
    rintro _ ⟨p, hp, rfl⟩
    rfl
  have h3 : (rs.map (rowP m)).all deepOk = true := by
    simp only [List.all_eq_true, List.mem_map]
    rintro _ ⟨p, hp, rfl⟩
    exact decide_eq_true (Nat.le_trans (rowP_depth m p) (by omega))
  simp only [h1, h2, h3, Bool.and_self, if_true]
  congr 1
  unfold sortP
  symm
  refine List.map_mergeSort fun p hp q hq => ?_
  have : ltPy (rowD m q) (rowD m p) = ltP ec q p := by
    unfold ltPy
    rw [rowD_py, rowD_py]
    exact (row_ok m (g q hq) (g p hp)).2
  rw [this]
theorem maxL_en (m : Bool) : ∀ (xs : List En) (x : En), GoodE x → (∀ y ∈ xs, GoodE y) → maxL (eD m x) (xs.map (eD m)) = eD m (mxc ec x xs)
  | [], x, _, _ => rfl
  | y :: ys, x, gx, g => by
    have gy := g y List.mem_cons_self
    show maxL (if ltPy (eD m x) (eD m y) then eD m y else eD m x) (ys.map (eD m)) = eD m (mxc ec (if ec x < ec y then y else x) ys)
    rw [en_ltPy m gx gy]
    by_cases h : ec x < ec y
    · rw [decide_eq_true h, if_pos rfl, if_pos h]
      exact maxL_en m ys y gy fun z hz => g z (List.mem_cons_of_mem _ hz)
    · rw [decide_eq_false h, if_neg Bool.false_ne_true, if_neg h]
      exact maxL_en m ys x gx fun z hz => g z (List.mem_cons_of_mem _ hz)
theorem minL_en (m : Bool) : ∀ (xs : List En) (x : En), GoodE x → (∀ y ∈ xs, GoodE y) → minL (eD m x) (xs.map (eD m)) = eD m (mnc ec x xs)
  | [], x, _, _ => rfl
  | y :: ys, x, gx, g => by
    have gy := g y List.mem_cons_self
    show minL (if ltPy (eD m y) (eD m x) then eD m y else eD m x) (ys.map (eD m)) = eD m (mnc ec (if ec y < ec x then y else x) ys)
    rw [en_ltPy m gy gx]
    by_cases h : ec y < ec x
    · rw [decide_eq_true h, if_pos rfl, if_pos h]
      exact minL_en m ys y gy fun z hz => g z (List.mem_cons_of_mem _ hz)
    · rw [decide_eq_false h, if_neg Bool.false_ne_true, if_neg h]
      exact minL_en m ys x gx fun z hz => g z (List.mem_cons_of_mem _ hz)
theorem pick_ok (m mx : Bool) (x : En) (xs : List En) (gx : GoodE x) (g : ∀ y ∈ xs, GoodE y) : pickD mx (eD m x :: xs.map (eD m)) = some (eD m (if mx then mxc ec x xs else mnc ec x xs)) := by
  have hall : ∀ y ∈ x :: xs, GoodE y := fun y hy => by
    rcases List.mem_cons.mp hy with rfl | hy
    · exact gx
    · exact g y hy
  have hp := ends_py m (x :: xs)
  unfold pickD
  rw [List.map_cons] at hp
  dsimp only
  rw [hp]
  have h1 : allAlike (eP m x :: xs.map (eP m)) = true := by
    unfold allAlike
    simp only [List.all_eq_true]
    intro a ha b hb
    rw [← List.map_cons (f := eP m)] at ha hb
    obtain ⟨p, hp, rfl⟩ := List.mem_map.mp ha
    obtain ⟨q, hq, rfl⟩ := List.mem_map.mp hb
    exact (en_ok m (hall p hp) (hall q hq)).1
  have h2 : ((eP m x :: xs.map (eP m)).all fun d => !isNonPy d) = true := by
    simp only [List.all_eq_true]
    intro a ha
    rw [← List.map_cons (f := eP m)] at ha
    obtain ⟨p, hp, rfl⟩ := List.mem_map.mp ha
    rfl
  have h3 : (eP m x :: xs.map (eP m)).all deepOk = true := by
    simp only [List.all_eq_true]
    intro a ha
    rw [← List.map_cons (f := eP m)] at ha
    obtain ⟨p, hp, rfl⟩ := List.mem_map.mp ha
    exact decide_eq_true (Nat.le_trans (eP_depth m p) (by omega))
  have h4 : ((eD m x :: xs.map (eD m)).all fun d => !isList d) = true := by
    simp only [List.all_eq_true]
    intro a ha
    rw [← List.map_cons (f := eD m)] at ha
    obtain ⟨p, hp, rfl⟩ := List.mem_map.mp ha
    cases p <;> rfl
  simp only [List.map_cons, h1, h2, h3, h4, Bool.and_self, if_true]
  cases mx with
  | true => simp only [if_true]; rw [maxL_en m xs x gx g]
  | false => simp only [Bool.false_eq_true, if_false]; rw [minL_en m xs x gx g]
end k85

/-! k85: conditions, ends, ranges: what the defs answer. -/
set_option linter.all false
set_option maxRecDepth 100000
namespace k85
open PySem PySem.Spec PyProof.Rows L2 Ly
theorem Val.eq {α : Type} {m : M α} {a : α} (h : Val m a) : m = Ly.ret a := funext h
def t5 (x1 x2 x3 x4 x5 : D) : List (D × D) := [(.str (">=" : Str), x1), (.str (">" : Str), x2), (.str ("<=" : Str), x3), (.str ("<" : Str), x4), (.str ("=" : Str), x5)]
def t4 (x1 x2 x3 x4 : D) : List (D × D) := [(.str (">=" : Str), x1), (.str (">" : Str), x2), (.str ("<=" : Str), x3), (.str ("<" : Str), x4)]
theorem t5_put (x1 x2 x3 x4 x5 : D) : putAll [] (t5 x1 x2 x3 x4 x5) = t5 x1 x2 x3 x4 x5 := by kernel_rfl
theorem t4_put (x1 x2 x3 x4 : D) : putAll [] (t4 x1 x2 x3 x4) = t4 x1 x2 x3 x4 := by kernel_rfl
theorem t5_mk (x1 x2 x3 x4 x5 : D) : (if (t5 x1 x2 x3 x4 x5).all (fun kv => keyOk kv.1) = true then Ly.fresh false (.dct (putAll [] (t5 x1 x2 x3 x4 x5))) else Ly.stuck) = Ly.ret (.dct (t5 x1 x2 x3 x4 x5)) := by
  rw [t5_put]; rfl
theorem t4_mk (x1 x2 x3 x4 : D) : (if (t4 x1 x2 x3 x4).all (fun kv => keyOk kv.1) = true then Ly.fresh false (.dct (putAll [] (t4 x1 x2 x3 x4))) else Ly.stuck) = Ly.ret (.dct (t4 x1 x2 x3 x4)) := by
  rw [t4_put]; rfl
def pick5 (s : Str) (x1 x2 x3 x4 x5 : D) : D := if seq s ">=" then x1 else if seq s ">" then x2 else if seq s "<=" then x3 else if seq s "<" then x4 else x5
def kinds5 : List Str := [">=", ">", "<=", "<", "="]
theorem each5 {P : Str → Prop} (h1 : P ">=") (h2 : P ">") (h3 : P "<=") (h4 : P "<") (h5 : P "=") : ∀ w ∈ kinds5, P w := fun w h => by
  simp only [kinds5, List.mem_cons, List.mem_nil_iff, or_false] at h
  rcases h with rfl | rfl | rfl | rfl | rfl <;> assumption
theorem t5_at (x1 x2 x3 x4 x5 : D) : ∀ s ∈ kinds5, itemM (.dct (t5 x1 x2 x3 x4 x5)) (.str s) = Ly.ret (pick5 s x1 x2 x3 x4 x5) := by
  refine each5 ?_ ?_ ?_ ?_ ?_ <;> (funext S; kernel_rfl)
theorem t4_get (c : Cfg) (x1 x2 x3 x4 x5 : D) : ∀ s ∈ kinds5, meM c "get" (.dct (t4 x1 x2 x3 x4)) [.str s, x5] = Ly.ret (pick5 s x1 x2 x3 x4 x5) := by
  refine each5 ?_ ?_ ?_ ?_ ?_ <;> (funext S; kernel_rfl)
theorem t4_pre (x1 x2 x3 x4 : D) : preM "get" 2 (.dct (t4 x1 x2 x3 x4)) = Ly.ret () := by funext S; kernel_rfl
def los (c : Cond) : En := if seq c.sg ">=" then .av c.v false else if seq c.sg ">" then .av c.v true else if seq c.sg "<=" then .lo else if seq c.sg "<" then .lo else if seq c.sg "=" then .av c.v false else if seq c.sg "~" then .p2 c.v.a c.v.b else .p1 c.v.a
def his (c : Cond) : En := if seq c.sg ">=" then .hi else if seq c.sg ">" then .hi else if seq c.sg "<=" then .av c.v true else if seq c.sg "<" then .av c.v false else if seq c.sg "=" then .av c.v true else if seq c.sg "~" then .p2 c.v.a (c.v.b + 1) else .p1 (c.v.a + 1)
/-- a version's place among the ends: right ahead of it -/
def pl (v : Ver) : Int := ec (.av v false)
def meetB (c : Cond) (v : Ver) : Bool := decide (ec (los c) ≤ pl v ∧ pl v < ec (his c))
theorem los_good {c : Cond} (g : GoodC c) : GoodE (los c) := by
  have ha := g.v.a
  have hb := g.v.b
  unfold los
  repeat' split
  all_goals first
    | exact g.v
    | trivial
    | exact ⟨by omega, by omega, by omega, by omega⟩
    | exact ⟨by omega, by omega⟩
theorem his_good {c : Cond} (g : GoodC c) : GoodE (his c) := by
  have ha := g.v.a
  have hb := g.v.b
  obtain ⟨sg, v⟩ := c
  have hs := g.sg
  have hcap := g.cap
  have gv := g.v
  dsimp only at ha hb hs hcap gv
  revert hcap
  revert sg
  intro sg g hs hcap
  simp only [kinds7, List.mem_cons, List.mem_nil_iff, or_false] at hs
  rcases hs with rfl | rfl | rfl | rfl | rfl | rfl | rfl
  · exact trivial
  · exact trivial
  · exact gv
  · exact gv
  · exact gv
  · show GoodE (.p2 v.a (v.b + 1))
    exact ⟨by omega, by omega, by omega, by omega⟩
  · have := hcap (.inr rfl)
    show GoodE (.p1 (v.a + 1))
    exact ⟨by omega, by omega⟩
theorem key_lt' {u v : Ver} (gu : GoodV u) (gv : GoodV v) : cmpM .Lt (keyV u) (keyV v) = Ly.ret (decide (vcode u < vcode v)) := by rw [key_cmp_lt u v gu gv, ver_lt gu gv]
theorem key_gt' {u v : Ver} (gu : GoodV u) (gv : GoodV v) : cmpM .Gt (keyV u) (keyV v) = Ly.ret (decide (vcode v < vcode u)) := by rw [key_cmp_gt u v gu gv, ver_lt gv gu]
theorem key_le' {u v : Ver} (gu : GoodV u) (gv : GoodV v) : cmpM .LtE (keyV u) (keyV v) = Ly.ret (decide (vcode u ≤ vcode v)) := by
  rw [key_cmp_le u v gu gv, ver_lt gv gu]
  have : (!decide (vcode v < vcode u)) = decide (vcode u ≤ vcode v) := by rw [Bool.eq_iff_iff]; simp
  rw [this]
theorem key_ge' {u v : Ver} (gu : GoodV u) (gv : GoodV v) : cmpM .GtE (keyV u) (keyV v) = Ly.ret (decide (vcode v ≤ vcode u)) := by
  rw [key_cmp_ge u v gu gv, ver_lt gu gv]
  have : (!decide (vcode u < vcode v)) = decide (vcode v ≤ vcode u) := by rw [Bool.eq_iff_iff]; simp
  rw [this]
theorem key_eq' {u v : Ver} (gu : GoodV u) (gv : GoodV v) : cmpM .Eq (keyV u) (keyV v) = Ly.ret (decide (vcode u = vcode v)) := by
  rw [key_cmp_eq u v gu gv, ver_eq gu gv]; rfl
theorem meet5 {w v : Ver} : ∀ sg ∈ kinds5, pick5 sg (.bl (decide (vcode w ≤ vcode v))) (.bl (decide (vcode w < vcode v))) (.bl (decide (vcode v ≤ vcode w))) (.bl (decide (vcode v < vcode w))) (.bl (decide (vcode v = vcode w))) = .bl (meetB ⟨sg, w⟩ v) ∨ ¬ (GoodV v ∧ GoodV w) := by
  by_cases h : GoodV v ∧ GoodV w
  · have z1 := c4_in (q4V h.1)
    have z2 := c4_in (q4V h.2)
    have e : ∀ p q : Bool, (p = true ↔ q = true) → D.bl p = D.bl q := fun p q h => congrArg D.bl (Bool.eq_iff_iff.mpr h)
    refine each5 (.inl (e _ _ ?_)) (.inl (e _ _ ?_)) (.inl (e _ _ ?_)) (.inl (e _ _ ?_)) (.inl (e _ _ ?_))
    all_goals simp only [meetB, decide_eq_true_iff]
    · show _ ↔ ec (.av w false) ≤ ec (.av v false) ∧ ec (.av v false) < ec .hi
      simp only [ec, vcode, Bool.false_eq_true, if_false]; omega
    · show _ ↔ ec (.av w true) ≤ ec (.av v false) ∧ ec (.av v false) < ec .hi
      simp only [ec, vcode, Bool.false_eq_true, if_false, if_true]; omega
    · show _ ↔ ec .lo ≤ ec (.av v false) ∧ ec (.av v false) < ec (.av w true)
      simp only [ec, vcode, Bool.false_eq_true, if_false, if_true]; omega
    · show _ ↔ ec .lo ≤ ec (.av v false) ∧ ec (.av v false) < ec (.av w false)
      simp only [ec, vcode, Bool.false_eq_true, if_false, if_true]; omega
    · show _ ↔ ec (.av w false) ≤ ec (.av v false) ∧ ec (.av v false) < ec (.av w true)
      simp only [ec, vcode, Bool.false_eq_true, if_false, if_true]; omega
  · exact fun _ _ => .inr h
theorem meet_t {w v : Ver} (gv : GoodV v) (gw : GoodV w) : meetB ⟨"~", w⟩ v = decide (v.a = w.a ∧ v.b = w.b) := by
  rw [Bool.eq_iff_iff]
  simp only [meetB, decide_eq_true_iff]
  show ec (.p2 w.a w.b) ≤ ec (.av v false) ∧ ec (.av v false) < ec (.p2 w.a (w.b + 1)) ↔ _
  have ha := gw.a
  have hb := gw.b
  have x1 := vc_in gv
  have hc := gv.c
  have h1 := c4_cmp (q4V gv) (a' := w.a) (b' := w.b) (c' := 0) (w' := 0) ⟨by omega, by omega, by omega, by omega⟩
  have h2 := c4_cmp (q4V gv) (a' := w.a) (b' := w.b + 1) (c' := 0) (w' := 0) ⟨by omega, by omega, by omega, by omega⟩
  simp only [ec, vcode, Bool.false_eq_true, if_false]
  omega
theorem meet_h {w v : Ver} (gv : GoodV v) (gw : GoodV w) (hw : w.a ≤ 3) : meetB ⟨"^", w⟩ v = decide (v.a = w.a) := by
  rw [Bool.eq_iff_iff]
  simp only [meetB, decide_eq_true_iff]
  show ec (.p1 w.a) ≤ ec (.av v false) ∧ ec (.av v false) < ec (.p1 (w.a + 1)) ↔ _
  have ha := gw.a
  have hb := gv.b
  have x1 := vc_in gv
  have hc := gv.c
  have h1 := c4_cmp (q4V gv) (a' := w.a) (b' := 0) (c' := 0) (w' := 0) ⟨by omega, by omega, by omega, by omega⟩
  have h2 := c4_cmp (q4V gv) (a' := w.a + 1) (b' := 0) (c' := 0) (w' := 0) ⟨by omega, by omega, by omega, by omega⟩
  simp only [ec, vcode, Bool.false_eq_true, if_false]
  omega
theorem eqT2 (a b c d : Int) : cmpM .Eq (.tup [.int a, .int b]) (.tup [.int c, .int d]) = Ly.ret (decide (a = c ∧ b = d)) := by
  have : eqD (.tup [.int a, .int b]) (.tup [.int c, .int d]) = some (decide (a = c ∧ b = d)) := by
    simp [eqD, D.py, pyAll, deepOk, PyData.depth, PyData.depthAll, PyData.eqv, PyData.eqvAll]
    rw [Bool.eq_iff_iff]; simp
  funext S
  show ofOp (eqD (.tup [.int a, .int b]) (.tup [.int c, .int d])) S = _
  rw [this]; rfl
theorem eqT1 (a c : Int) : cmpM .Eq (.tup [.int a]) (.tup [.int c]) = Ly.ret (decide (a = c)) := by
  have : eqD (.tup [.int a]) (.tup [.int c]) = some (decide (a = c)) := by
    simp [eqD, D.py, pyAll, deepOk, PyData.depth, PyData.depthAll, PyData.eqv, PyData.eqvAll]
    rw [Bool.eq_iff_iff]; simp
  funext S
  show ofOp (eqD (.tup [.int a]) (.tup [.int c])) S = _
  rw [this]; rfl
theorem eqI (a c : Int) : cmpM .Eq (.int a) (.int c) = Ly.ret (decide (a = c)) := by
  funext S
  show ofOp (eqD (.int a) (.int c)) S = _
  rw [eqD_int]
  have : (a == c) = decide (a = c) := by rw [Bool.eq_iff_iff]; simp
  rw [this]; rfl
theorem cut2 (v : Ver) : (viewed (encV v) fun x => newB false (cutD none (some 2) x)) = Ly.ret (.tup [.int v.a, .int v.b]) := by funext S; rfl
theorem cut1 (v : Ver) : (viewed (encV v) fun x => newB false (cutD none (some 1) x)) = Ly.ret (.tup [.int v.a]) := by funext S; rfl
theorem cut0 (v : Ver) : (viewed (encV v) fun x => newB false (cutD none (some 0) x)) = Ly.ret (.tup []) := by funext S; rfl
theorem kinds_split {sg : Str} (h : sg ∈ kinds7) : sg ∈ kinds5 ∨ sg = "~" ∨ sg = "^" := by
  simp only [kinds7, List.mem_cons, List.mem_nil_iff, or_false] at h
  simp only [kinds5, List.mem_cons, List.mem_nil_iff, or_false]
  rcases h with h | h | h | h | h | h | h <;> simp [h]
theorem not_tilde : ∀ sg ∈ kinds5, cmpM .In (.str sg) (.tup [.str "~", .str "^"]) = Ly.ret false := by
  refine each5 ?_ ?_ ?_ ?_ ?_ <;> (funext S; kernel_rfl)
theorem tt : cmpM .In (.str "~") (.tup [.str "~", .str "^"]) = Ly.ret true := by funext S; kernel_rfl
theorem th : cmpM .In (.str "^") (.tup [.str "~", .str "^"]) = Ly.ret true := by funext S; kernel_rfl
theorem ett : cmpM .Eq (.str "~") (.str "~") = Ly.ret true := by funext S; kernel_rfl
theorem eht : cmpM .Eq (.str "^") (.str "~") = Ly.ret false := by funext S; kernel_rfl
theorem eth : cmpM .Eq (.str "~") (.str "^") = Ly.ret false := by funext S; kernel_rfl
theorem ehh : cmpM .Eq (.str "^") (.str "^") = Ly.ret true := by funext S; kernel_rfl
theorem eq5t : ∀ sg ∈ kinds5, cmpM .Eq (.str sg) (.str "~") = Ly.ret false := by
  refine each5 ?_ ?_ ?_ ?_ ?_ <;> (funext S; kernel_rfl)
theorem eq5h : ∀ sg ∈ kinds5, cmpM .Eq (.str sg) (.str "^") = Ly.ret false := by
  refine each5 ?_ ?_ ?_ ?_ ?_ <;> (funext S; kernel_rfl)
theorem rank_eq (k : Nat) {v : Ver} (gv : GoodV v) : callF gl 10000 (k + 1) false "rank_of" [encV v] = Ly.ret (keyV v) := Val.eq (rank_val k v gv)
theorem lkey_eq (k : Nat) {v : Ver} (gv : GoodV v) : callF gl 10000 (k + 1) false "_law_key" [encV v] = Ly.ret (keyV v) := Val.eq (key_val k v gv)
theorem asgH (sg : Str) (w : Ver) (a b x y e f g h : Option D) : asgG (Tg.tp [Tg.ix 3, Tg.ix 4]) (encC ⟨sg, w⟩) [a, b, x, y, e, f, g, h] = Ly.ret (Fl.nx [a, b, x, some (.str sg), some (encV w), f, g, h]) := (rfl)
theorem asg67 (d d' : D) (a b x y e f g h : Option D) : asgG (Tg.tp [Tg.ix 6, Tg.ix 7]) (D.tup [d, d']) [a, b, x, y, e, f, g, h] = Ly.ret (Fl.nx [a, b, x, y, e, f, some d, some d']) := (rfl)
theorem holds_eq (k : Nat) {c : Cond} {v : Ver} (gc : GoodC c) (gv : GoodV v) : callF gl 10000 (k + 2) false "holds" [encC c, encV v] = Ly.ret (.bl (meetB c v)) := by
  rw [e_holds]
  refine Val.eq (runF_val (fun n => ?_) rfl)
  obtain ⟨sg, w⟩ := c
  unfold s_holds
  simp only [getv, List.getElem?_cons_zero, List.getElem?_cons_succ, ret_bnd, bnd_bnd, asgH, seqK]
  rcases kinds_split gc.sg with h | rfl | rfl
  · simp only [not_tilde sg h, ret_bnd, Bool.false_eq_true, if_false, seqK, List.getElem?_cons_zero, List.getElem?_cons_succ, rank_eq k gv, rank_eq k gc.v, asg67, key_lt' gv gc.v, key_gt' gv gc.v, key_le' gv gc.v, key_ge' gv gc.v, key_eq' gv gc.v]
    have e := t5_mk (.bl (decide (vcode w ≤ vcode v))) (.bl (decide (vcode w < vcode v))) (.bl (decide (vcode v ≤ vcode w))) (.bl (decide (vcode v < vcode w))) (.bl (decide (vcode v = vcode w)))
    unfold t5 at e
    simp only [e, ret_bnd, bnd_bnd, seqK, getv, List.set_cons_succ, List.set_cons_zero, List.getElem?_cons_zero, List.getElem?_cons_succ]
    have e2 := t5_at (.bl (decide (vcode w ≤ vcode v))) (.bl (decide (vcode w < vcode v))) (.bl (decide (vcode v ≤ vcode w))) (.bl (decide (vcode v < vcode w))) (.bl (decide (vcode v = vcode w))) sg h
    unfold t5 at e2
    rw [e2, (meet5 sg h).resolve_right (fun z => z ⟨gv, gc.v⟩)]
    exact fun S => rfl
  · simp only [tt, ret_bnd, if_true, seqK, getv, List.set_cons_succ, List.set_cons_zero, List.getElem?_cons_zero, List.getElem?_cons_succ, ett, bnd_bnd, intK, cut2, eqT2, meet_t gv gc.v]
    exact fun S => rfl
  · simp only [th, ret_bnd, if_true, seqK, getv, List.set_cons_succ, List.set_cons_zero, List.getElem?_cons_zero, List.getElem?_cons_succ, eht, bnd_bnd, intK, cut1, eqT1, meet_h gv gc.v (gc.cap (.inr rfl)), Bool.false_eq_true, if_false]
    exact fun S => rfl
theorem asgL (sg : Str) (w : Ver) (a b x y e f : Option D) : asgG (Tg.tp [Tg.ix 2, Tg.ix 3]) (encC ⟨sg, w⟩) [a, b, x, y, e, f] = Ly.ret (Fl.nx [a, b, some (.str sg), some (encV w), e, f]) := (rfl)
theorem asg45 (d d' : D) (a b x y e f : Option D) : asgG (Tg.tp [Tg.ix 4, Tg.ix 5]) (D.tup [d, d']) [a, b, x, y, e, f] = Ly.ret (Fl.nx [a, b, x, y, some d, some d']) := (rfl)
theorem vi0 (v : Ver) : itemM (encV v) (.int 0) = Ly.ret (.int v.a) := itemV0 v
theorem vi1 (v : Ver) : itemM (encV v) (.int 1) = Ly.ret (.int v.b) := itemV1 v
theorem law_meets_eq (k : Nat) {c : Cond} {v : Ver} (gc : GoodC c) (gv : GoodV v) : callF gl 10000 (k + 2) false "_law_meets" [encC c, encV v] = Ly.ret (.bl (meetB c v)) := by
  rw [e__law_meets]
  refine Val.eq (runF_val (fun n => ?_) rfl)
  obtain ⟨sg, w⟩ := c
  unfold s__law_meets
  simp only [getv, List.getElem?_cons_zero, List.getElem?_cons_succ, ret_bnd, bnd_bnd, asgL, seqK]
  rcases kinds_split gc.sg with h | rfl | rfl
  · simp only [not_tilde sg h, ret_bnd, Bool.false_eq_true, ↓reduceIte, seqK, List.getElem?_cons_zero, List.getElem?_cons_succ, lkey_eq k gv, lkey_eq k gc.v, asg45, key_lt' gv gc.v, key_gt' gv gc.v, key_le' gv gc.v, key_ge' gv gc.v, key_eq' gv gc.v]
    have e := t5_mk (.bl (decide (vcode w ≤ vcode v))) (.bl (decide (vcode w < vcode v))) (.bl (decide (vcode v ≤ vcode w))) (.bl (decide (vcode v < vcode w))) (.bl (decide (vcode v = vcode w)))
    unfold t5 at e
    simp only [e, ret_bnd, bnd_bnd, seqK, getv, List.set_cons_succ, List.set_cons_zero, List.getElem?_cons_zero, List.getElem?_cons_succ]
    have e2 := t5_at (.bl (decide (vcode w ≤ vcode v))) (.bl (decide (vcode w < vcode v))) (.bl (decide (vcode v ≤ vcode w))) (.bl (decide (vcode v < vcode w))) (.bl (decide (vcode v = vcode w))) sg h
    unfold t5 at e2
    rw [e2, (meet5 sg h).resolve_right (fun z => z ⟨gv, gc.v⟩)]
    exact fun S => rfl
  · simp only [tt, ret_bnd, ↓reduceIte, seqK, getv, List.getElem?_cons_zero, List.getElem?_cons_succ, vi0, vi1, eqI, tru_bl, bnd_bnd, eth, cond_false]
    rw [meet_t gv gc.v]
    by_cases h : v.a = w.a
    · have : decide (v.a = w.a ∧ v.b = w.b) = decide (v.b = w.b) := by rw [Bool.eq_iff_iff]; simp [h]
      rw [this]
      simp only [h, decide_true, cond_true, ret_bnd]
      exact fun S => rfl
    · have : decide (v.a = w.a ∧ v.b = w.b) = false := by simp [h]
      rw [this]
      simp only [decide_eq_false h, cond_false, ret_bnd]
      exact fun S => rfl
  · simp only [th, ret_bnd, ↓reduceIte, seqK, getv, List.getElem?_cons_zero, List.getElem?_cons_succ, vi0, vi1, eqI, tru_bl, bnd_bnd, ehh, cond_true]
    rw [meet_h gv gc.v (gc.cap (.inr rfl))]
    cases decide (v.a = w.a) <;> exact fun S => rfl
/-! ### ranges -/
def inP (v : Ver) (p : List Cond) : Bool := p.all fun c => meetB c v
def inR (v : Ver) (r : List (List Cond)) : Bool := r.any (inP v)
theorem comp_map {α : Type} {f : α → D} {g : α → D} {b : D → M (List D)} {ws : List α} (h : ∀ w ∈ ws, b (f w) = Ly.ret [g w]) : compLoop (guardM []) b (ws.map f) = Ly.ret (ws.map g) := Val.eq (flat_map1 fun w hw S => by rw [h w hw]; rfl)
theorem boolsD_map : ∀ bs : List Bool, boolsD (bs.map D.bl) = some bs
  | [] => rfl
  | b :: bs => by
    show (boolsD (bs.map D.bl)).map (b :: ·) = _
    rw [boolsD_map bs]; rfl
theorem all_bl (bs : List Bool) : biB false "all" [.lst (bs.map D.bl)] = Ly.ret (.bl (bs.all id)) := by
  have h : biD "all" [.lst (bs.map D.bl)] = some (.bl (bs.all id)) := by
    show (boolsD (bs.map D.bl)).map (fun bs => D.bl (bs.all id)) = _
    rw [boolsD_map]; rfl
  funext S
  show (match biD "all" [.lst (bs.map D.bl)] with
    | some d => if isList d || isDct d then Ly.fresh false d S else .ok d S
    | none => .no) = _
  rw [h]; rfl
theorem any_bl (bs : List Bool) : biB false "any" [.lst (bs.map D.bl)] = Ly.ret (.bl (bs.any id)) := by
  have h : biD "any" [.lst (bs.map D.bl)] = some (.bl (bs.any id)) := by
    show (boolsD (bs.map D.bl)).map (fun bs => D.bl (bs.any id)) = _
    rw [boolsD_map]; rfl
  funext S
  show (match biD "any" [.lst (bs.map D.bl)] with
    | some d => if isList d || isDct d then Ly.fresh false d S else .ok d S
    | none => .no) = _
  rw [h]; rfl
theorem lineLe {α : Type} {xs : List α} (h : xs.length ≤ 1000) : xs.length ≤ line := by unfold line; omega
theorem items_tup' (xs : List D) : itemsOf (.tup xs) = Ly.ret ⟨xs, []⟩ := items_tup xs
theorem items_lst (xs : List D) : itemsOf (.lst xs) = Ly.ret ⟨xs, []⟩ := by funext S; rfl
theorem fits_in_eq (k : Nat) {n : Nat} {r : List (List Cond)} {v : Ver} (gr : GoodR n r) (hn : n ≤ 900) (gv : GoodV v) : callF gl 10000 (k + 3) false "fits_in" [encR r, encV v] = Ly.ret (.bl (inR v r)) := by
  rw [e_fits_in]
  refine Val.eq (runF_val (fun n => ?_) rfl)
  unfold s_fits_in
  have hl := gr.len
  simp only [getv, List.getElem?_cons_zero, List.getElem?_cons_succ, ret_bnd, bnd_bnd, encR, items_tup, List.set_cons_succ, List.set_cons_zero, Ly.wipe, ↓reduceIte]
  rw [comp_map (g := fun p => .bl (inP v p)) fun p hp => ?_]
  · rw [ret_bnd, if_pos (lineLe (by rw [List.length_map]; omega))]
    simp only [fresh_f, ret_bnd]
    have := any_bl (r.map (inP v))
    rw [List.map_map] at this
    have e : (r.map fun p => D.bl (inP v p)) = r.map (D.bl ∘ inP v) := rfl
    rw [e, this, ret_bnd]
    have : (r.map (inP v)).any id = inR v r := by rw [List.any_map]; rfl
    rw [this]
    exact fun S => rfl
  · have hp3 := (gr.parts p hp).1
    simp only [encP, items_tup, ret_bnd]
    rw [comp_map (g := fun c => .bl (meetB c v)) fun c hc => ?_]
    · rw [ret_bnd, if_pos (lineLe (by rw [List.length_map]; omega))]
      simp only [fresh_f, ret_bnd]
      have := all_bl (p.map fun c => meetB c v)
      rw [List.map_map] at this
      have e : (p.map fun c => D.bl (meetB c v)) = p.map (D.bl ∘ fun c => meetB c v) := rfl
      rw [e, this, ret_bnd]
      have : (p.map fun c => meetB c v).all id = inP v p := by rw [List.all_map]; rfl
      rw [this]
    · simp only [holds_eq k ((gr.parts p hp).2 c hc) gv, ret_bnd]
theorem need_version_eq (k : Nat) {v : Ver} (gv : GoodV v) : callF gl 10000 (k + 3) false "need_version" [encV v] = Ly.ret .non := Val.eq (need_version_val k v gv)
theorem need_range_eq (k : Nat) {r : List (List Cond)} (gr : GoodR 6 r) : callF gl 10000 (k + 5) false "need_range" [encR r] = Ly.ret .non := Val.eq (need_range_val k r gr)
theorem is_in_eq (k : Nat) {r : List (List Cond)} {v : Ver} (gr : GoodR 6 r) (gv : GoodV v) : callF gl 10000 (k + 6) false "is_in" [encR r, encV v] = Ly.ret (.bl (inR v r)) := by
  rw [e_is_in]
  refine Val.eq (runF_val (fun n => ?_) rfl)
  unfold s_is_in
  simp only [getv, List.getElem?_cons_zero, List.getElem?_cons_succ, ret_bnd, bnd_bnd, seqK, need_range_eq k gr, need_version_eq (k + 2) gv, fits_in_eq (k + 2) gr (by omega) gv]
  exact fun S => rfl
/-- data, not deep -/
def Sh (k : Nat) (d : D) : Prop := ∃ p, d.py = some p ∧ p.depth ≤ k
theorem Sh.mono {j k : Nat} {d : D} (h : Sh j d) (l : j ≤ k) : Sh k d := by
  obtain ⟨p, e, q⟩ := h
  exact ⟨p, e, Nat.le_trans q l⟩
theorem sh_all {k : Nat} : ∀ {xs : List D}, (∀ x ∈ xs, Sh k x) → ∃ ps, pyAll xs = some ps ∧ PyData.depthAll ps ≤ k
  | [], _ => ⟨[], rfl, by simp [PyData.depthAll]⟩
  | x :: xs, h => by
    obtain ⟨p, hp, dp⟩ := h x List.mem_cons_self
    obtain ⟨ps, hps, dps⟩ := sh_all fun y hy => h y (List.mem_cons_of_mem _ hy)
    exact ⟨p :: ps, by simp [pyAll, hp, hps], by simp only [PyData.depthAll]; omega⟩
theorem Sh.tup {k : Nat} {xs : List D} (h : ∀ x ∈ xs, Sh k x) : Sh (k + 1) (.tup xs) := by
  obtain ⟨ps, h1, h2⟩ := sh_all h
  exact ⟨.tuple ps, by simp [D.py, h1], by simp only [PyData.depth]; omega⟩
theorem Sh.lst {k : Nat} {xs : List D} (h : ∀ x ∈ xs, Sh k x) : Sh (k + 1) (.lst xs) := by
  obtain ⟨ps, h1, h2⟩ := sh_all h
  exact ⟨.list ps, by simp [D.py, h1], by simp only [PyData.depth]; omega⟩
theorem sh_int (k : Nat) (i : Int) : Sh (k + 1) (.int i) := ⟨_, rfl, by simp [PyData.depth]⟩
theorem sh_str (k : Nat) (i : Str) : Sh (k + 1) (.str i) := ⟨_, rfl, by simp [PyData.depth]⟩
theorem sh_bl (k : Nat) (i : Bool) : Sh (k + 1) (.bl i) := ⟨_, rfl, by simp [PyData.depth]⟩
theorem eqv_nil : ∀ ps : List PyData, PyData.eqvAll ps [] = ps.isEmpty
  | [] => by simp [PyData.eqvAll]
  | p :: ps => by simp [PyData.eqvAll]
theorem pyAll_len : ∀ {xs : List D} {ps : List PyData}, pyAll xs = some ps → ps.length = xs.length
  | [], ps, h => by cases h; rfl
  | x :: xs, ps, h => by
    simp only [pyAll] at h
    split at h
    · rename_i a b e1 e2
      cases h
      simp [pyAll_len e2]
    · cases h
theorem eqD_nil {xs : List D} (h : ∀ x ∈ xs, Sh 50 x) : eqD (.lst xs) (.lst []) = some xs.isEmpty := by
  obtain ⟨ps, h1, h2⟩ := sh_all h
  have e1 : (D.lst xs).py = some (.list ps) := by simp [D.py, h1]
  have e2 : (D.lst []).py = some (.list []) := rfl
  unfold eqD
  rw [e1, e2]
  have d1 : deepOk (.list ps) = true := decide_eq_true (by simp only [PyData.depth]; omega)
  have d2 : deepOk (.list []) = true := by decide
  simp only [d1, d2, Bool.and_self, if_true, PyData.eqv, eqv_nil]
  have := pyAll_len h1
  cases ps <;> cases xs <;> simp at this ⊢
theorem sh_closed_view {S : Sto} {xs : List D} : Ly.view S (.lst xs) = .lst xs := rfl
theorem eq_nilL {xs : List D} (h : ∀ x ∈ xs, Sh 50 x) : cmpM .Eq (.lst xs) (.lst []) = Ly.ret xs.isEmpty := by
  funext S
  show ofOp (eqD (.lst xs) (.lst [])) S = _
  rw [eqD_nil h]; rfl
theorem ne_nilL {xs : List D} (h : ∀ x ∈ xs, Sh 50 x) : cmpM .NotEq (.lst xs) (.lst []) = Ly.ret (!xs.isEmpty) := by
  funext S
  show ofOp ((eqD (.lst xs) (.lst [])).map (!·)) S = _
  rw [eqD_nil h]; rfl
theorem sh_encV (v : Ver) : Sh 3 (encV v) := Sh.tup fun x hx => by
  simp only [List.mem_cons, List.mem_nil_iff, or_false] at hx
  rcases hx with rfl | rfl | rfl | rfl
  · exact sh_int 1 _
  · exact sh_int 1 _
  · exact sh_int 1 _
  · exact Sh.tup fun y hy => by
      obtain ⟨w, _, rfl⟩ := List.mem_map.mp hy
      exact sh_str 0 _
theorem sh_encC (c : Cond) : Sh 4 (encC c) := Sh.tup fun x hx => by
  simp only [List.mem_cons, List.mem_nil_iff, or_false] at hx
  rcases hx with rfl | rfl
  · exact sh_str 2 _
  · exact sh_encV _
theorem sh_encP (p : List Cond) : Sh 5 (encP p) := Sh.tup fun x hx => by
  obtain ⟨c, _, rfl⟩ := List.mem_map.mp hx
  exact sh_encC c
theorem comp_filter {α : Type} {f : α → D} {p : α → Bool} {g : α → D} {b : D → M (List D)} : ∀ {ws : List α}, (∀ w ∈ ws, b (f w) = Ly.ret (if p w then [g w] else [])) → compLoop (guardM []) b (ws.map f) = Ly.ret ((ws.filter p).map g)
  | [], _ => by funext S; rfl
  | w :: ws, h => by
    have h1 := h w List.mem_cons_self
    have h2 := comp_filter (f := f) (g := g) (b := b) (ws := ws) fun y hy => h y (List.mem_cons_of_mem _ hy)
    funext S
    show Ly.bnd (guardM []) (fun _ => Ly.bnd (b (f w)) fun ys => Ly.bnd (compLoop (guardM []) b (ws.map f)) fun zs => Ly.ret (ys ++ zs)) S = _
    rw [bnd_at (guard0 S), h1, h2, ret_bnd, ret_bnd]
    cases hp : p w <;> simp [List.filter, hp]
theorem filter_empty {α : Type} {p : α → Bool} (xs : List α) : (xs.filter p).isEmpty = xs.all fun x => !p x := by
  induction xs with
  | nil => rfl
  | cons x xs ih => cases h : p x <;> simp [List.filter, h, ih]
theorem law_is_in_eq (k : Nat) {n : Nat} {r : List (List Cond)} {v : Ver} (gr : GoodR n r) (hn : n ≤ 900) (gv : GoodV v) : callF gl 10000 (k + 3) false "_law_is_in" [encR r, encV v] = Ly.ret (.bl (inR v r)) := by
  rw [e__law_is_in]
  refine Val.eq (runF_val (fun n => ?_) rfl)
  unfold s__law_is_in
  have hl := gr.len
  simp only [getv, List.getElem?_cons_zero, List.getElem?_cons_succ, ret_bnd, bnd_bnd, encR, items_tup, List.set_cons_succ, List.set_cons_zero, Ly.wipe]
  rw [comp_filter (p := inP v) (g := encP) fun p hp => ?_]
  · have hlen : ((r.filter (inP v)).map encP).length ≤ line := lineLe (by
      rw [List.length_map]
      have := List.length_filter_le (inP v) r
      omega)
    rw [ret_bnd, if_pos hlen]
    simp only [fresh_f, ret_bnd]
    rw [ne_nilL (fun x hx => by
      obtain ⟨p, _, rfl⟩ := List.mem_map.mp hx
      exact (sh_encP p).mono (by omega)), ret_bnd]
    have e : (!((r.filter (inP v)).map encP).isEmpty) = inR v r := by
      rw [List.isEmpty_map, filter_empty, List.not_all_eq_any_not]
      simp only [Bool.not_not]
      rfl
    rw [e]
    exact fun S => rfl
  · have hp3 := (gr.parts p hp).1
    simp only [encP, items_tup, ret_bnd]
    rw [comp_filter (p := fun c => !meetB c v) (g := encC) fun c hc => ?_]
    · have hlen : ((p.filter fun c => !meetB c v).map encC).length ≤ line := lineLe (by
        rw [List.length_map]
        have := List.length_filter_le (fun c => !meetB c v) p
        omega)
      rw [ret_bnd, if_pos hlen]
      simp only [fresh_f, ret_bnd]
      rw [eq_nilL (fun x hx => by
        obtain ⟨p, _, rfl⟩ := List.mem_map.mp hx
        exact (sh_encC p).mono (by omega)), ret_bnd]
      have e : ((p.filter fun c => !meetB c v).map encC).isEmpty = inP v p := by
        rw [List.isEmpty_map, filter_empty]
        simp only [Bool.not_not]
        rfl
      rw [e]
      cases inP v p <;> rfl
    · simp only [law_meets_eq k ((gr.parts p hp).2 c hc) gv, ret_bnd, tru_bl]
      cases meetB c v <;> rfl
/-! ### the ends of a condition -/
theorem addI (m : Bool) (a b : Int) : binB m .Add (.int a) (.int b) = Ly.ret (.int (a + b)) := by funext S; rfl
theorem subI (m : Bool) (a b : Int) : binB m .Sub (.int a) (.int b) = Ly.ret (.int (a - b)) := by funext S; rfl
theorem addT11 (m : Bool) (a b : D) : binB m .Add (.tup [a]) (.tup [b]) = Ly.ret (.tup [a, b]) := by funext S; rfl
theorem addT01 (m : Bool) (b : D) : binB m .Add (.tup []) (.tup [b]) = Ly.ret (.tup [b]) := by funext S; rfl
theorem asgE (sg : Str) (w : Ver) (a b x y e f g h : Option D) : asgG (Tg.tp [Tg.ix 2, Tg.ix 3]) (encC ⟨sg, w⟩) [a, b, x, y, e, f, g, h] = Ly.ret (Fl.nx [a, b, some (.str sg), some (encV w), e, f, g, h]) := (rfl)
theorem asg456 (d d' d2 : D) (a b x y e f g h : Option D) : asgG (Tg.tp [Tg.ix 4, Tg.ix 5, Tg.ix 6]) (D.tup [d, d', d2]) [a, b, x, y, e, f, g, h] = Ly.ret (Fl.nx [a, b, x, y, some d, some d', some d2, h]) := (rfl)
theorem negI (a : Int) : negM (.int a) = Ly.ret (.int (-a)) := (rfl)
theorem intKI (a : Int) : intK (.int a) = Ly.ret (some a) := (rfl)
theorem pick_row (m : Bool) (w : Ver) : ∀ sg ∈ kinds5, pick5 sg (.tup [eD m (.av w false), eD m .hi]) (.tup [eD m (.av w true), eD m .hi]) (.tup [eD m .lo, eD m (.av w true)]) (.tup [eD m .lo, eD m (.av w false)]) (.tup [eD m (.av w false), eD m (.av w true)]) = rowD m (los ⟨sg, w⟩, his ⟨sg, w⟩) := by
  refine each5 ?_ ?_ ?_ ?_ ?_ <;> rfl
theorem ends_of_eq (k : Nat) {c : Cond} (gc : GoodC c) : callF gl 10000 (k + 2) false "ends_of" [encC c] = Ly.ret (rowD true (los c, his c)) := by
  rw [e_ends_of]
  refine Val.eq (runF_val (fun n => ?_) (rowD_closed _ _))
  obtain ⟨sg, w⟩ := c
  unfold s_ends_of
  simp only [getv, List.getElem?_cons_zero, List.getElem?_cons_succ, ret_bnd, bnd_bnd, asgE, seqK, negI, addI, rank_eq k gc.v, asg456]
  rcases kinds_split gc.sg with h | rfl | rfl
  · simp only [not_tilde sg h, ret_bnd, Bool.false_eq_true, ↓reduceIte, seqK]
    have e := t4_mk (.tup [eD true (.av w false), eD true .hi]) (.tup [eD true (.av w true), eD true .hi]) (.tup [eD true .lo, eD true (.av w true)]) (.tup [eD true .lo, eD true (.av w false)])
    have e1 := t4_pre (.tup [eD true (.av w false), eD true .hi]) (.tup [eD true (.av w true), eD true .hi]) (.tup [eD true .lo, eD true (.av w true)]) (.tup [eD true .lo, eD true (.av w false)])
    have e2 := fun c => t4_get c (.tup [eD true (.av w false), eD true .hi]) (.tup [eD true (.av w true), eD true .hi]) (.tup [eD true .lo, eD true (.av w true)]) (.tup [eD true .lo, eD true (.av w false)]) (.tup [eD true (.av w false), eD true (.av w true)]) sg h
    simp only [t4, eD, ↓reduceIte, Bool.false_eq_true] at e e1 e2
    simp only [getv, List.getElem?_cons_zero, List.getElem?_cons_succ, ret_bnd, bnd_bnd, Int.reduceAdd, Int.reduceNeg] at e e1 e2 ⊢
    simp only [e, e1, e2, ret_bnd, bnd_bnd, seqK, getv, List.set_cons_succ, List.set_cons_zero, List.getElem?_cons_zero, List.getElem?_cons_succ]
    have q := pick_row true w sg h
    simp only [eD, ↓reduceIte, Bool.false_eq_true] at q
    rw [q]
    exact fun S => rfl
  · simp only [tt, ett, ret_bnd, bnd_bnd, ↓reduceIte, seqK, getv, List.set_cons_succ, List.set_cons_zero, List.getElem?_cons_zero, List.getElem?_cons_succ, intKI, cut2, negI, subI, Int.reduceSub, cut1, vi1, addI, addT11]
    exact fun S => rfl
  · simp only [th, eht, ret_bnd, bnd_bnd, Bool.false_eq_true, ↓reduceIte, seqK, getv, List.set_cons_succ, List.set_cons_zero, List.getElem?_cons_zero, List.getElem?_cons_succ, intKI, cut1, negI, subI, Int.reduceSub, cut0, vi0, addI, addT01]
    exact fun S => rfl
theorem asgF (sg : Str) (w : Ver) (a b x y e f g h : Option D) : asgG (Tg.tp [Tg.ix 1, Tg.ix 2]) (encC ⟨sg, w⟩) [a, b, x, y, e, f, g, h] = Ly.ret (Fl.nx [a, some (.str sg), some (encV w), y, e, f, g, h]) := (rfl)
theorem asg345 (d d' d2 : D) (a b x y e f g h : Option D) : asgG (Tg.tp [Tg.ix 3, Tg.ix 4, Tg.ix 5]) (D.tup [d, d', d2]) [a, b, x, y, e, f, g, h] = Ly.ret (Fl.nx [a, b, x, some d, some d', some d2, g, h]) := (rfl)
theorem law_ends_eq (k : Nat) {c : Cond} (gc : GoodC c) : callF gl 10000 (k + 2) false "_law_ends" [encC c] = Ly.ret (rowD false (los c, his c)) := by
  rw [e__law_ends]
  refine Val.eq (runF_val (fun n => ?_) (rowD_closed _ _))
  obtain ⟨sg, w⟩ := c
  unfold s__law_ends
  simp only [getv, List.getElem?_cons_zero, List.getElem?_cons_succ, ret_bnd, bnd_bnd, asgF, seqK, negI, addI, lkey_eq k gc.v, asg345]
  rcases kinds_split gc.sg with h | rfl | rfl
  · simp only [eq5t sg h, eq5h sg h, ret_bnd, Bool.false_eq_true, ↓reduceIte, seqK, List.getElem?_cons_zero, List.getElem?_cons_succ, asg67]
    have e := t5_mk (.tup [eD false (.av w false), eD false .hi]) (.tup [eD false (.av w true), eD false .hi]) (.tup [eD false .lo, eD false (.av w true)]) (.tup [eD false .lo, eD false (.av w false)]) (.tup [eD false (.av w false), eD false (.av w true)])
    have e2 := t5_at (.tup [eD false (.av w false), eD false .hi]) (.tup [eD false (.av w true), eD false .hi]) (.tup [eD false .lo, eD false (.av w true)]) (.tup [eD false .lo, eD false (.av w false)]) (.tup [eD false (.av w false), eD false (.av w true)]) sg h
    simp only [t5, eD, ↓reduceIte, Bool.false_eq_true] at e e2
    simp only [e, e2, ret_bnd, bnd_bnd, seqK, getv, List.set_cons_succ, List.set_cons_zero, List.getElem?_cons_zero, List.getElem?_cons_succ]
    have q := pick_row false w sg h
    simp only [eD, ↓reduceIte, Bool.false_eq_true] at q
    rw [q]
    exact fun S => rfl
  · simp only [ett, ret_bnd, bnd_bnd, ↓reduceIte, seqK, getv, List.set_cons_succ, List.set_cons_zero, List.getElem?_cons_zero, List.getElem?_cons_succ, intKI, cut2, negI, subI, Int.reduceSub, cut1, vi0, vi1, addI, addT11]
    exact fun S => rfl
  · simp only [eht, ehh, ret_bnd, bnd_bnd, Bool.false_eq_true, ↓reduceIte, seqK, getv, List.set_cons_succ, List.set_cons_zero, List.getElem?_cons_zero, List.getElem?_cons_succ, intKI, cut1, negI, subI, Int.reduceSub, cut0, vi0, addI, addT01]
    exact fun S => rfl
end k85

/-! k85: the spans of a range, at the program and at the law. -/
set_option linter.all false
set_option maxRecDepth 100000
namespace k85
open PySem PySem.Spec PyProof.Rows L2 Ly
def mxL : List En → En
  | [] => .lo
  | x :: xs => mxc ec x xs
def mnL : List En → En
  | [] => .hi
  | x :: xs => mnc ec x xs
def endsP (p : List Cond) : List (En × En) := p.map (fun c => (los c, his c)) ++ [(.lo, .hi)]
def lowP (p : List Cond) : En := mxL ((endsP p).map (·.1))
def highP (p : List Cond) : En := mnL ((endsP p).map (·.2))
def rowOf (p : List Cond) : List (En × En) := if ec (lowP p) < ec (highP p) then [(lowP p, highP p)] else []
def rowsOf (r : List (List Cond)) : List (En × En) := r.flatMap rowOf
def spansR (r : List (List Cond)) : List (En × En) := spans ec (rowsOf r)
theorem endsP_good {p : List Cond} (g : ∀ c ∈ p, GoodC c) : ∀ q ∈ endsP p, GoodP q := fun q hq => by
  rcases List.mem_append.mp hq with h | h
  · obtain ⟨c, hc, rfl⟩ := List.mem_map.mp h
    exact ⟨los_good (g c hc), his_good (g c hc)⟩
  · rw [List.mem_singleton.mp h]; exact ⟨trivial, trivial⟩
theorem mxL_good {l : List En} (g : ∀ e ∈ l, GoodE e) : GoodE (mxL l) := by
  cases l with
  | nil => exact trivial
  | cons x xs =>
    rcases mxc_mem ec xs x with h | h
    · show GoodE (mxc ec x xs)
      rw [h]; exact g x List.mem_cons_self
    · exact g _ (List.mem_cons_of_mem _ h)
theorem mnL_good {l : List En} (g : ∀ e ∈ l, GoodE e) : GoodE (mnL l) := by
  cases l with
  | nil => exact trivial
  | cons x xs =>
    rcases mnc_mem ec xs x with h | h
    · show GoodE (mnc ec x xs)
      rw [h]; exact g x List.mem_cons_self
    · exact g _ (List.mem_cons_of_mem _ h)
theorem lowP_good {p : List Cond} (g : ∀ c ∈ p, GoodC c) : GoodE (lowP p) := mxL_good fun e he => by
  obtain ⟨q, hq, rfl⟩ := List.mem_map.mp he
  exact (endsP_good g q hq).1
theorem highP_good {p : List Cond} (g : ∀ c ∈ p, GoodC c) : GoodE (highP p) := mnL_good fun e he => by
  obtain ⟨q, hq, rfl⟩ := List.mem_map.mp he
  exact (endsP_good g q hq).2
theorem rowsOf_good {r : List (List Cond)} (g : ∀ p ∈ r, ∀ c ∈ p, GoodC c) : ∀ q ∈ rowsOf r, GoodP q := fun q hq => by
  obtain ⟨p, hp, h⟩ := List.mem_flatMap.mp hq
  unfold rowOf at h
  split at h
  · rw [List.mem_singleton.mp h]; exact ⟨lowP_good (g p hp), highP_good (g p hp)⟩
  · cases h
theorem rowsOf_pos (r : List (List Cond)) : ∀ q ∈ rowsOf r, ec q.1 < ec q.2 := fun q hq => by
  obtain ⟨p, hp, h⟩ := List.mem_flatMap.mp hq
  unfold rowOf at h
  split at h
  · rw [List.mem_singleton.mp h]; assumption
  · cases h
theorem eD_nl (m : Bool) (e : En) : (isList (eD m e) || isDct (eD m e)) = false := by cases e <;> rfl
theorem max_en (b m : Bool) {l : List En} (hl : l ≠ []) (g : ∀ e ∈ l, GoodE e) : biB b "max" [.lst (l.map (eD m))] = Ly.ret (eD m (mxL l)) := by
  cases l with
  | nil => exact absurd rfl hl
  | cons x xs =>
    have h := pick_ok m true x xs (g x List.mem_cons_self) fun y hy => g y (List.mem_cons_of_mem _ hy)
    funext S
    show (match pickD true ((x :: xs).map (eD m)) with
      | some d => if isList d || isDct d then Ly.fresh b d S else .ok d S
      | none => .no) = _
    rw [List.map_cons, h]
    simp only [eD_nl, if_true, Bool.false_eq_true, if_false]
    rfl
theorem min_en (b m : Bool) {l : List En} (hl : l ≠ []) (g : ∀ e ∈ l, GoodE e) : biB b "min" [.lst (l.map (eD m))] = Ly.ret (eD m (mnL l)) := by
  cases l with
  | nil => exact absurd rfl hl
  | cons x xs =>
    have h := pick_ok m false x xs (g x List.mem_cons_self) fun y hy => g y (List.mem_cons_of_mem _ hy)
    funext S
    show (match pickD false ((x :: xs).map (eD m)) with
      | some d => if isList d || isDct d then Ly.fresh b d S else .ok d S
      | none => .no) = _
    rw [List.map_cons, h]
    simp only [eD_nl, Bool.false_eq_true, if_false]
    rfl
theorem max2_en (b m : Bool) {e f : En} (ge : GoodE e) (gf : GoodE f) : biB b "max" [eD m e, eD m f] = Ly.ret (eD m (mxc ec e [f])) := by
  have h := pick_ok m true e [f] ge (fun y hy => by rw [List.mem_singleton.mp hy]; exact gf)
  funext S
  show (match biD "max" [Ly.view S (eD m e), Ly.view S (eD m f)] with
      | some d => if isList d || isDct d then Ly.fresh b d S else .ok d S
      | none => .no) = _
  rw [closed_view (eD_closed m e), closed_view (eD_closed m f)]
  have e2 : biD "max" [eD m e, eD m f] = pickD true [eD m e, eD m f] := by cases e <;> rfl
  rw [e2]
  rw [List.map_cons, List.map_nil] at h
  rw [h]
  simp only [eD_nl, if_true, Bool.false_eq_true, if_false]
  rfl
theorem min2_en (b m : Bool) {e f : En} (ge : GoodE e) (gf : GoodE f) : biB b "min" [eD m e, eD m f] = Ly.ret (eD m (mnc ec e [f])) := by
  have h := pick_ok m false e [f] ge (fun y hy => by rw [List.mem_singleton.mp hy]; exact gf)
  funext S
  show (match biD "min" [Ly.view S (eD m e), Ly.view S (eD m f)] with
      | some d => if isList d || isDct d then Ly.fresh b d S else .ok d S
      | none => .no) = _
  rw [closed_view (eD_closed m e), closed_view (eD_closed m f)]
  have e2 : biD "min" [eD m e, eD m f] = pickD false [eD m e, eD m f] := by cases e <;> rfl
  rw [e2]
  rw [List.map_cons, List.map_nil] at h
  rw [h]
  simp only [eD_nl, if_true, Bool.false_eq_true, if_false]
  rfl
theorem mxc_good {e f : En} (ge : GoodE e) (gf : GoodE f) : GoodE (mxc ec e [f]) := by rw [mx1]; split <;> assumption
theorem mnc_good {e f : En} (ge : GoodE e) (gf : GoodE f) : GoodE (mnc ec e [f]) := by rw [mn1]; split <;> assumption
theorem row_i0 (m : Bool) (q : En × En) : itemM (rowD m q) (.int 0) = Ly.ret (eD m q.1) := by funext S; rfl
theorem row_i1 (m : Bool) (q : En × En) : itemM (rowD m q) (.int 1) = Ly.ret (eD m q.2) := by funext S; rfl
theorem addL (xs ys : List D) (h : xs.length + ys.length ≤ 1000) : binB false .Add (.lst xs) (.lst ys) = Ly.ret (.lst (xs ++ ys)) := by
  have hl : xs.length + ys.length ≤ line := by unfold line; omega
  funext S
  show (match (if xs.length + ys.length ≤ line then some (D.lst (xs ++ ys)) else none) with
    | some d => if isList d then Ly.fresh false d else Ly.ret d
    | none => Ly.stuck) S = _
  rw [if_pos hl]; rfl
/-! ### objects at the store's end -/
theorem ext_end (c : Cfg) (S0 : Sto) (xs ys : List D) (hc : closedL ys = true) (hl : xs.length + ys.length ≤ 1000) : augM c .Add (.ref S0.length) (.lst ys) (S0 ++ [.lst xs]) = .ok (.ref S0.length) (S0 ++ [.lst (xs ++ ys)]) := by
  show extM c.base (.ref S0.length) (.lst ys) (S0 ++ [.lst xs]) = _
  unfold extM
  dsimp only
  rw [at_end]
  have hm : (closedL ys && decide (xs.length + ys.length ≤ line)) = true := by
    rw [hc, decide_eq_true (show xs.length + ys.length ≤ line by unfold line; omega)]; rfl
  dsimp only
  rw [if_pos hm, set_end]
theorem item_end (S0 : Sto) (xs : List D) (y : D) : itemM (.ref S0.length) y (S0 ++ [.lst xs]) = itemM (.lst xs) y (S0 ++ [.lst xs]) := by
  unfold itemM viewed
  dsimp only
  rw [view_end]
  rfl
theorem ix_last (n : Nat) : L2.ixN (n + 1) (-1) = some n := by
  unfold L2.ixN
  rw [if_neg (by omega)]
  have h : -((n + 1 : Nat) : Int) ≤ -1 := by omega
  first
    | (rw [if_pos h]; congr 1; omega)
    | (simp; omega)
theorem at_last (xs : List D) (x : D) : L2.atI (xs ++ [x]) (-1) = some x := by
  unfold L2.atI
  rw [List.length_append, List.length_singleton, ix_last]
  simp
theorem last_item (S : Sto) (xs : List D) (x : D) : itemM (.lst (xs ++ [x])) (.int (-1)) S = .ok x S := by
  rw [item_lst, at_last]; rfl
theorem put_last (base : Nat) (S0 : Sto) (xs : List D) (x v : D) (hc : closedD v = true) : putM base (.ref S0.length) (.int (-1)) v (S0 ++ [.lst (xs ++ [x])]) = .ok () (S0 ++ [.lst (xs ++ [v])]) := by
  unfold putM
  dsimp only
  rw [at_end]
  dsimp only
  have e : setIx (xs ++ [x]) (-1) v = some (xs ++ [v]) := by
    unfold setIx
    rw [List.length_append, List.length_singleton, ix_last]
    simp
  rw [e]
  dsimp only
  have hm : mayHold base S0.length v = true := by unfold mayHold; rw [hc, Bool.or_true]
  rw [if_pos hm, set_end]
theorem runF_ref {b : Nat → M Fl} {S S1 : Sto} {n : Nat} {xs : List D} (h : b S.length S = .ok (.rt (.ref n)) S1) (hn : ¬ n < S.length) (hx : S1[n]? = some (.lst xs)) (hc : closedL xs = true) : runF false b S = .ok (.lst xs) (S1.take S.length) := by
  unfold runF bnd
  rw [h]
  show (match frzD S1 S.length (.ref n) with
    | some d' => Out.ok d' (S1.take S.length)
    | none => .no) = _
  have e : frzD S1 S.length (.ref n) = some (.lst xs) := by
    unfold frzD
    rw [if_neg hn, hx]
    dsimp only
    rw [if_pos hc]
  rw [e]
theorem len_endsP (p : List Cond) : (endsP p).length = p.length + 1 := by simp [endsP]
theorem bl_ite (b : Bool) {α : Type} (x y : α) : (if b = true then x else y) = cond b x y := by cases b <;> rfl
theorem view_at {S : Sto} {n : Nat} {xs : List D} (h : S[n]? = some (.lst xs)) : Ly.view S (.ref n) = .lst xs := by
  unfold Ly.view
  dsimp only
  rw [h]
theorem sort_ref {S : Sto} {n : Nat} (m : Bool) (rs : List (En × En)) (g : ∀ p ∈ rs, GoodP p) (h : S[n]? = some (.lst (rs.map (rowD m)))) : biB false "sorted" [.ref n] S = .ok (.lst ((sortP ec rs).map (rowD m))) S := by
  show (match biD "sorted" [Ly.view S (.ref n)] with
    | some d => if isList d || isDct d then Ly.fresh false d S else .ok d S
    | none => .no) = _
  rw [view_at h]
  have e : biD "sorted" [.lst (rs.map (rowD m))] = some (.lst ((sortP ec rs).map (rowD m))) := by
    show (sortD (rs.map (rowD m))).map D.lst = _
    rw [row_sort m rs g]; rfl
  rw [e]; rfl
theorem sort_lst (m : Bool) (rs : List (En × En)) (g : ∀ p ∈ rs, GoodP p) : biB false "sorted" [.lst (rs.map (rowD m))] = Ly.ret (.lst ((sortP ec rs).map (rowD m))) := by
  funext S
  show (match biD "sorted" [.lst (rs.map (rowD m))] with
    | some d => if isList d || isDct d then Ly.fresh false d S else .ok d S
    | none => .no) = _
  have e : biD "sorted" [.lst (rs.map (rowD m))] = some (.lst ((sortP ec rs).map (rowD m))) := by
    show (sortD (rs.map (rowD m))).map D.lst = _
    rw [row_sort m rs g]; rfl
  rw [e]; rfl
theorem sh_eD (m : Bool) (e : En) : Sh 20 (eD m e) := ⟨_, eD_py m e, eP_depth m e⟩
theorem sh_rowD (m : Bool) (q : En × En) : Sh 50 (rowD m q) := (Sh.tup (k := 20) fun x hx => by
  simp only [List.mem_cons, List.mem_nil_iff, or_false] at hx
  rcases hx with rfl | rfl <;> exact sh_eD m _).mono (by omega)
theorem rowOf_len (p : List Cond) : (rowOf p).length ≤ 1 := by unfold rowOf; split <;> simp
theorem rowsOf_len (r : List (List Cond)) : (rowsOf r).length ≤ r.length := by
  unfold rowsOf
  induction r with
  | nil => simp
  | cons p r ih =>
    rw [List.flatMap_cons, List.length_append]
    have := rowOf_len p
    simp only [List.length_cons]; omega
theorem rowsOf_take {r : List (List Cond)} {i : Nat} {p : List Cond} (h : r[i]? = some p) : rowsOf (r.take (i + 1)) = rowsOf (r.take i) ++ rowOf p := by
  unfold rowsOf
  rw [List.take_succ, h, List.flatMap_append]
  simp
/-- the state of the merging loop -/
def MInv (all : List (En × En)) (i : Nat) (fnd : List (En × En)) : Prop := (i = 0 ∧ fnd = []) ∨ ∃ pre cur, fnd = pre ++ [cur] ∧ GoodP cur ∧ pre ++ mergeR ec cur (all.drop i) = merge ec all
theorem MInv.fin {all fnd : List (En × En)} (h : MInv all all.length fnd) : fnd = merge ec all := by
  rcases h with ⟨h1, h2⟩ | ⟨pre, cur, h1, _, h2⟩
  · have : all = [] := List.length_eq_zero_iff.mp h1
    subst this h2; rfl
  · rw [List.drop_length] at h2
    rw [h1, ← h2]; rfl
theorem drop_at {α : Type} {xs : List α} {i : Nat} {x : α} (h : xs[i]? = some x) : xs.drop i = x :: xs.drop (i + 1) := by
  have := List.getElem?_eq_some_iff.mp h
  obtain ⟨hl, e⟩ := this
  rw [List.drop_eq_getElem_cons hl, e]
theorem MInv.first {all : List (En × En)} {q : En × En} (h : all[0]? = some q) (g : GoodP q) : MInv all 1 [q] := .inr ⟨[], q, rfl, g, by
  have := drop_at h
  rw [List.drop_zero] at this
  rw [this]; rfl⟩
theorem MInv.grow {all : List (En × En)} {i : Nat} {pre : List (En × En)} {cur q : En × En} (h : pre ++ mergeR ec cur (all.drop i) = merge ec all) (hq : all[i]? = some q) (gc : GoodP cur) (g : GoodP q) (hle : ec q.1 ≤ ec cur.2) : MInv all (i + 1) (pre ++ [(cur.1, mxc ec cur.2 [q.2])]) := .inr ⟨pre, _, rfl, ⟨gc.1, mxc_good gc.2 g.2⟩, by
  rw [← h, drop_at hq, mergeR, if_pos hle]⟩
theorem MInv.next {all : List (En × En)} {i : Nat} {pre : List (En × En)} {cur q : En × En} (h : pre ++ mergeR ec cur (all.drop i) = merge ec all) (hq : all[i]? = some q) (g : GoodP q) (hle : ¬ ec q.1 ≤ ec cur.2) : MInv all (i + 1) (pre ++ [cur] ++ [q]) := .inr ⟨pre ++ [cur], q, rfl, g, by
  rw [← h, drop_at hq, mergeR, if_neg hle, List.append_assoc]; rfl⟩
theorem asg56 (d d' : D) (a b x y e f g h i : Option D) : asgG (Tg.tp [Tg.ix 5, Tg.ix 6]) (D.tup [d, d']) [a, b, x, y, e, f, g, h, i] = Ly.ret (Fl.nx [a, b, x, y, e, some d, some d', h, i]) := (rfl)
theorem bind56 (m : Bool) (q : En × En) (a b x y e f g h i : Option D) : bindG 4 (Tg.tp [Tg.ix 5, Tg.ix 6]) (rowD m q) [a, b, x, y, e, f, g, h, i] = some [a, b, x, y, e, some (eD m q.1), some (eD m q.2), h, i] := (rfl)
theorem closed_rows (m : Bool) (rs : List (En × En)) : closedL (rs.map (rowD m)) = true := closed_map (rowD_closed m) rs
theorem spans_in_eq (k : Nat) {n : Nat} {r : List (List Cond)} (gr : GoodR n r) (hn : n ≤ 900) : callF gl 10000 (k + 3) false "spans_in" [encR r] = Ly.ret (.lst ((spansR r).map (rowD true))) := by
  have hr := gr.len
  have hg := rowsOf_good fun p hp c hc => (gr.parts p hp).2 c hc
  have hlr := rowsOf_len r
  refine Val.eq fun S0 => ?_
  rw [e_spans_in]
  have run : ∃ S1 n, s_spans_in (callF gl 10000 (k + 2)) (encR r) S0.length S0 = .ok (.rt (.ref n)) (S0 ++ S1) ∧ ¬ n < S0.length ∧ (S0 ++ S1)[n]? = some (.lst ((spansR r).map (rowD true))) := by
    unfold s_spans_in
    simp only [getv, List.getElem?_cons_zero, List.getElem?_cons_succ, ret_bnd, bnd_bnd, fresh_f]
    rw [bnd_at (new_end S0 [])]
    simp only [ret_bnd, seqK, List.set_cons_succ, List.set_cons_zero, List.getElem?_cons_zero, List.getElem?_cons_succ, encR, items_tup, bnd_bnd]
    refine for_ex (fun o => ∃ S1 n, o = Out.ok (Fl.rt (.ref n)) (S0 ++ S1) ∧ ¬ n < S0.length ∧ (S0 ++ S1)[n]? = some (.lst ((spansR r).map (rowD true)))) (fun i ρ S => ∃ x2 x4 x5 x6 x7 x8, ρ = [some (.tup (r.map encP)), some (.ref S0.length), x2, none, x4, x5, x6, x7, x8] ∧ S = S0 ++ [MO.lst ((rowsOf (r.take i)).map (rowD true))]) ⟨none, none, none, none, none, none, rfl, rfl⟩ (fun i x ρ S hx hI => ?_) fun ρ' S' hI => ?_
    · obtain ⟨x2, x4, x5, x6, x7, x8, rfl, rfl⟩ := hI
      rw [List.getElem?_map] at hx
      cases hp : r[i]? with
      | none => rw [hp] at hx; cases hx
      | some p =>
        rw [hp] at hx
        cases hx
        have hmem : p ∈ r := List.mem_of_getElem? hp
        have gp := (gr.parts p hmem)
        have il : i < r.length := (List.getElem?_eq_some_iff.mp hp).1
        simp only [List.set_cons_succ, List.set_cons_zero, List.getElem?_cons_zero, List.getElem?_cons_succ, ret_bnd, bnd_bnd, Ly.wipe, encP, items_tup, ↓reduceIte]
        rw [comp_map (g := fun c => rowD true (los c, his c)) fun c hc => by rw [ends_of_eq k (gp.2 c hc), ret_bnd]]
        rw [ret_bnd, if_pos (lineLe (by rw [List.length_map]; omega))]
        simp only [ret_bnd, negI, addI, bnd_bnd]
        have e1 : binB false .Add (.lst (p.map fun c => rowD true (los c, his c))) (.lst [.tup [.tup [.tup [.int (-1)], .int (-1)], .tup [.tup [.int (9999 + 1)], .int 1]]]) = Ly.ret (.lst ((endsP p).map (rowD true))) := by
          rw [addL _ _ (by rw [List.length_map]; simp; omega)]
          unfold endsP
          rw [List.map_append, List.map_map]
          rfl
        rw [e1]
        have len : ((endsP p).map fun q => eD true q.1).length ≤ 1000 := by rw [List.length_map, len_endsP]; omega
        have len2 : ((endsP p).map fun q => eD true q.2).length ≤ 1000 := by rw [List.length_map, len_endsP]; omega
        have hne : (endsP p).map (·.1) ≠ [] := by simp [endsP]
        have hne2 : (endsP p).map (·.2) ≠ [] := by simp [endsP]
        have m1 := max_en false true hne (fun e he => by
          obtain ⟨q, hq, rfl⟩ := List.mem_map.mp he
          exact (endsP_good gp.2 q hq).1)
        have m2 := min_en false true hne2 (fun e he => by
          obtain ⟨q, hq, rfl⟩ := List.mem_map.mp he
          exact (endsP_good gp.2 q hq).2)
        rw [List.map_map] at m1 m2
        simp only [ret_bnd, seqK, List.set_cons_succ, List.set_cons_zero, getv, List.getElem?_cons_zero, List.getElem?_cons_succ, items_lst, bnd_bnd]
        rw [comp_map (g := fun q => eD true q.1) fun q hq => ?h1]
        case h1 => rfl
        rw [ret_bnd, if_pos (lineLe len)]
        rw [comp_map (g := fun q => eD true q.2) fun q hq => ?h2]
        case h2 => rfl
        simp only [ret_bnd, if_pos (lineLe len2), fresh_f]
        have e2 : ((endsP p).map fun q => eD true q.1) = (endsP p).map (eD true ∘ fun q => q.1) := rfl
        have e3 : ((endsP p).map fun q => eD true q.2) = (endsP p).map (eD true ∘ fun q => q.2) := rfl
        rw [e2, e3, m1, m2]
        show ∃ ρ' S', _ ∧ _
        simp only [ret_bnd, asg56, seqK, getv, List.getElem?_cons_zero, List.getElem?_cons_succ, bnd_bnd]
        have e4 : mxL ((endsP p).map fun q => q.1) = lowP p := rfl
        have e5 : mnL ((endsP p).map fun q => q.2) = highP p := rfl
        rw [e4, e5, en_cmp_lt true (lowP_good gp.2) (highP_good gp.2), ret_bnd]
        have hext : (if decide (ec (lowP p) < ec (highP p)) = true then Ly.ret (D.lst [.tup [eD true (lowP p), eD true (highP p)]]) else Ly.ret (D.lst [])) = Ly.ret (D.lst ((rowOf p).map (rowD true))) := by
          unfold rowOf
          by_cases q : ec (lowP p) < ec (highP p)
          · simp only [decide_eq_true q, if_pos q, if_true]; rfl
          · simp only [decide_eq_false q, if_neg q, Bool.false_eq_true, if_false]; rfl
        rw [hext, ret_bnd]
        rw [bnd_at (ext_end _ S0 _ _ (closed_rows _ _) (by
          have := rowOf_len p
          have := rowsOf_len (r.take i)
          have := List.length_take_le i r
          simp only [List.length_map]; omega))]
        refine ⟨_, _, rfl, _, _, _, _, _, _, rfl, ?_⟩
        rw [rowsOf_take hp, List.map_append]
    · obtain ⟨x2, x4, x5, x6, x7, x8, rfl, rfl⟩ := hI
      have ht : r.take (r.map encP).length = r := by rw [List.length_map, List.take_length]
      rw [ht]
      simp only [seqK]
      rw [bnd_at (new_end _ [])]
      have hS : (S0 ++ [MO.lst ((rowsOf r).map (rowD true))]).length = S0.length + 1 := by simp
      simp only [ret_bnd, seqK, List.set_cons_succ, List.set_cons_zero, List.getElem?_cons_zero, List.getElem?_cons_succ, bnd_bnd]
      generalize hS1 : S0 ++ [MO.lst ((rowsOf r).map (rowD true))] = S1 at *
      have hat : (S1 ++ [MO.lst []])[S0.length]? = some (.lst ((rowsOf r).map (rowD true))) := by
        rw [← hS1, List.append_assoc, List.getElem?_append_right (Nat.le_refl _), Nat.sub_self]; rfl
      rw [bnd_at (sort_ref true _ hg hat)]
      simp only [items_lst, ret_bnd]
      have hall : ∀ q ∈ sortP ec (rowsOf r), GoodP q := fun q hq => hg q ((sortP_mem ec).mp hq)
      have hlen : (sortP ec (rowsOf r)).length ≤ r.length := by
        unfold sortP; rw [List.length_mergeSort]; exact hlr
      refine for_ex (fun o => ∃ S1 n, o = Out.ok (Fl.rt (.ref n)) (S0 ++ S1) ∧ ¬ n < S0.length ∧ (S0 ++ S1)[n]? = some (.lst ((spansR r).map (rowD true)))) (fun i ρ S => ∃ x5 x6 fnd, ρ = [some (.tup (r.map encP)), some (.ref S0.length), x2, some (.ref S1.length), x4, x5, x6, x7, x8] ∧ S = S1 ++ [MO.lst (fnd.map (rowD true))] ∧ fnd.length ≤ i ∧ MInv (sortP ec (rowsOf r)) i fnd) ⟨_, _, [], rfl, rfl, Nat.le_refl _, .inl ⟨rfl, rfl⟩⟩ (fun i x ρ S hx hI => ?_) fun ρ' S' hI => ?_
      · obtain ⟨x5, x6, fnd, rfl, rfl, hfl, hM⟩ := hI
        rw [List.getElem?_map] at hx
        cases hq : (sortP ec (rowsOf r))[i]? with
        | none => rw [hq] at hx; cases hx
        | some q =>
          rw [hq] at hx
          cases hx
          have gq := hall q (List.mem_of_getElem? hq)
          have il : i < (sortP ec (rowsOf r)).length := (List.getElem?_eq_some_iff.mp hq).1
          simp only [bind56, onB, getv, List.getElem?_cons_zero, List.getElem?_cons_succ, ret_bnd, bnd_bnd]
          have c1 : cmpM .NotEq (.ref S1.length) (.lst []) (S1 ++ [MO.lst (fnd.map (rowD true))]) = .ok (!fnd.isEmpty) (S1 ++ [MO.lst (fnd.map (rowD true))]) := by
            rw [cmp_end, ne_nilL (fun x hx => by
              obtain ⟨q, _, rfl⟩ := List.mem_map.mp hx
              exact sh_rowD true q), List.isEmpty_map]
            rfl
          rw [bnd_at c1]
          have hpush : ∀ c : Cfg, meM c "append" (.ref S1.length) [.tup [eD true q.1, eD true q.2]] (S1 ++ [MO.lst (fnd.map (rowD true))]) = .ok .non (S1 ++ [MO.lst ((fnd ++ [q]).map (rowD true))]) := fun c => by
            rw [app_end c S1 _ (.tup [eD true q.1, eD true q.2]) (by rw [List.length_map]; unfold line; omega) (rowD_closed true q), List.map_append]
            rfl
          rcases hM with ⟨rfl, rfl⟩ | ⟨pre, cur, rfl, gc, hM⟩
          · simp only [List.isEmpty_nil, Bool.not_true, cond_false, ret_bnd, Bool.false_eq_true, ↓reduceIte, bnd_bnd, seqK]
            rw [bnd_at (pre_end S1 _), bnd_at (hpush _)]
            exact ⟨_, _, rfl, _, _, [q], rfl, rfl, by simp, MInv.first hq gq⟩
          · have hne : (!(pre ++ [cur]).isEmpty) = true := by cases pre <;> rfl
            rw [hne]
            have hmap : (pre ++ [cur]).map (rowD true) = pre.map (rowD true) ++ [rowD true cur] := by rw [List.map_append]; rfl
            have li : ∀ {α : Type} (f : D → M α), bnd (itemM (.ref S1.length) (.int (-1))) f (S1 ++ [MO.lst ((pre ++ [cur]).map (rowD true))]) = f (rowD true cur) (S1 ++ [MO.lst ((pre ++ [cur]).map (rowD true))]) := fun f => by
              refine bnd_at ?_
              rw [item_end, hmap, last_item]
            simp only [cond_true, negI, ret_bnd, bnd_bnd]
            rw [li]
            simp only [row_i1, ret_bnd, en_cmp_le true gq.1 gc.2]
            by_cases hle : ec q.1 ≤ ec cur.2
            · simp only [decide_eq_true hle, ↓reduceIte, bnd_bnd, seqK, ret_bnd]
              rw [li]
              simp only [row_i0, ret_bnd]
              rw [li]
              simp only [row_i1, ret_bnd, max2_en false true gc.2 gq.2]
              have hput : ∀ base, putM base (.ref S1.length) (.int (-1)) (.tup [eD true cur.1, eD true (mxc ec cur.2 [q.2])]) (S1 ++ [MO.lst ((pre ++ [cur]).map (rowD true))]) = .ok () (S1 ++ [MO.lst ((pre ++ [(cur.1, mxc ec cur.2 [q.2])]).map (rowD true))]) := fun base => by
                rw [hmap, put_last base S1 _ _ (.tup [eD true cur.1, eD true (mxc ec cur.2 [q.2])]) (rowD_closed true (cur.1, mxc ec cur.2 [q.2])), List.map_append]
                rfl
              rw [bnd_at (hput _)]
              exact ⟨_, _, rfl, _, _, _, rfl, rfl, by simp at hfl ⊢; omega, MInv.grow hM hq gc gq hle⟩
            · simp only [decide_eq_false hle, Bool.false_eq_true, ↓reduceIte, bnd_bnd, seqK, ret_bnd]
              rw [bnd_at (pre_end S1 _), bnd_at (hpush _)]
              exact ⟨_, _, rfl, _, _, _, rfl, rfl, by simp at hfl ⊢; omega, MInv.next hM hq gq hle⟩
      · obtain ⟨x5, x6, fnd, rfl, rfl, hfl, hM⟩ := hI
        rw [List.length_map] at hM
        have hfin := hM.fin
        subst hfin
        simp only [seqK, getv, List.getElem?_cons_zero, List.getElem?_cons_succ, ret_bnd]
        refine ⟨[MO.lst ((rowsOf r).map (rowD true)), MO.lst ((spansR r).map (rowD true))], S1.length, ?_, by omega, ?_⟩
        · rw [← hS1, List.append_assoc]; rfl
        · rw [hS, List.getElem?_append_right (by omega)]
          have : S0.length + 1 - S0.length = 1 := by omega
          rw [this]; rfl
  obtain ⟨S1, n, h, hn, hx⟩ := run
  rw [runF_ref h hn hx (closed_rows _ _), List.take_left]
theorem asg23 (d d' : D) (a b x y e f g h i : Option D) : asgG (Tg.tp [Tg.ix 2, Tg.ix 3]) (D.tup [d, d']) [a, b, x, y, e, f, g, h, i] = Ly.ret (Fl.nx [a, b, some d, some d', e, f, g, h, i]) := (rfl)
theorem law_spans_eq (k : Nat) {n : Nat} {r : List (List Cond)} (gr : GoodR n r) (hn : n ≤ 900) : callF gl 10000 (k + 3) false "_law_spans" [encR r] = Ly.ret (.lst ((spansR r).map (rowD false))) := by
  have hr := gr.len
  have hg := rowsOf_good fun p hp c hc => (gr.parts p hp).2 c hc
  have hlr := rowsOf_len r
  refine Val.eq fun S0 => ?_
  rw [e__law_spans]
  have run : ∃ S1 n, s__law_spans (callF gl 10000 (k + 2)) (encR r) S0.length S0 = .ok (.rt (.ref n)) (S0 ++ S1) ∧ ¬ n < S0.length ∧ (S0 ++ S1)[n]? = some (.lst ((spansR r).map (rowD false))) := by
    unfold s__law_spans
    simp only [getv, List.getElem?_cons_zero, List.getElem?_cons_succ, ret_bnd, bnd_bnd, fresh_f]
    rw [bnd_at (new_end S0 [])]
    simp only [asg23, ret_bnd, seqK, List.set_cons_succ, List.set_cons_zero, List.getElem?_cons_zero, List.getElem?_cons_succ, encR, items_tup, bnd_bnd]
    refine for_ex (fun o => ∃ S1 n, o = Out.ok (Fl.rt (.ref n)) (S0 ++ S1) ∧ ¬ n < S0.length ∧ (S0 ++ S1)[n]? = some (.lst ((spansR r).map (rowD false)))) (fun i ρ S => ∃ x1 x4 x5 x6 x7 x8, ρ = [some (.tup (r.map encP)), x1, some (.lst ((rowsOf (r.take i)).map (rowD false))), some (.ref S0.length), x4, x5, x6, x7, x8] ∧ S = S0 ++ [MO.lst []]) ⟨none, none, none, none, none, none, rfl, rfl⟩ (fun i x ρ S hx hI => ?_) fun ρ' S' hI => ?_
    · obtain ⟨x1, x4, x5, x6, x7, x8, rfl, rfl⟩ := hI
      rw [List.getElem?_map] at hx
      cases hp : r[i]? with
      | none => rw [hp] at hx; cases hx
      | some p =>
        rw [hp] at hx
        cases hx
        have hmem : p ∈ r := List.mem_of_getElem? hp
        have gp := (gr.parts p hmem)
        have il : i < r.length := (List.getElem?_eq_some_iff.mp hp).1
        simp only [List.set_cons_succ, List.set_cons_zero, List.getElem?_cons_zero, List.getElem?_cons_succ, ret_bnd, bnd_bnd, Ly.wipe, encP, items_tup, ↓reduceIte]
        rw [comp_map (g := fun c => rowD false (los c, his c)) fun c hc => by rw [law_ends_eq k (gp.2 c hc), ret_bnd]]
        rw [ret_bnd, if_pos (lineLe (by rw [List.length_map]; omega))]
        simp only [ret_bnd, bnd_bnd]
        have e1 : binB false .Add (.lst (p.map fun c => rowD false (los c, his c))) (.lst [.tup [.tup [.tup [], .int 0], .tup [.tup [.int 99999], .int 0]]]) = Ly.ret (.lst ((endsP p).map (rowD false))) := by
          rw [addL _ _ (by rw [List.length_map]; simp; omega)]
          unfold endsP
          rw [List.map_append, List.map_map]
          rfl
        rw [e1]
        have len : ((endsP p).map fun q => eD false q.1).length ≤ 1000 := by rw [List.length_map, len_endsP]; omega
        have len2 : ((endsP p).map fun q => eD false q.2).length ≤ 1000 := by rw [List.length_map, len_endsP]; omega
        have hne : (endsP p).map (·.1) ≠ [] := by simp [endsP]
        have hne2 : (endsP p).map (·.2) ≠ [] := by simp [endsP]
        have m1 := max_en false false hne (fun e he => by
          obtain ⟨q, hq, rfl⟩ := List.mem_map.mp he
          exact (endsP_good gp.2 q hq).1)
        have m2 := min_en false false hne2 (fun e he => by
          obtain ⟨q, hq, rfl⟩ := List.mem_map.mp he
          exact (endsP_good gp.2 q hq).2)
        rw [List.map_map] at m1 m2
        simp only [ret_bnd, seqK, List.set_cons_succ, List.set_cons_zero, getv, List.getElem?_cons_zero, List.getElem?_cons_succ, items_lst, bnd_bnd]
        rw [comp_map (g := fun q => eD false q.1) fun q hq => ?h1]
        case h1 => rfl
        rw [ret_bnd, if_pos (lineLe len)]
        rw [comp_map (g := fun q => eD false q.2) fun q hq => ?h2]
        case h2 => rfl
        simp only [ret_bnd, if_pos (lineLe len2), fresh_f]
        have e2 : ((endsP p).map fun q => eD false q.1) = (endsP p).map (eD false ∘ fun q => q.1) := rfl
        have e3 : ((endsP p).map fun q => eD false q.2) = (endsP p).map (eD false ∘ fun q => q.2) := rfl
        rw [e2, e3, m1, m2]
        show ∃ ρ' S', _ ∧ _
        simp only [ret_bnd, asg56, seqK, getv, List.getElem?_cons_zero, List.getElem?_cons_succ, bnd_bnd]
        have e4 : mxL ((endsP p).map fun q => q.1) = lowP p := rfl
        have e5 : mnL ((endsP p).map fun q => q.2) = highP p := rfl
        rw [e4, e5, en_cmp_lt false (lowP_good gp.2) (highP_good gp.2), ret_bnd]
        have hext : (if decide (ec (lowP p) < ec (highP p)) = true then Ly.ret (D.lst [.tup [eD false (lowP p), eD false (highP p)]]) else Ly.ret (D.lst [])) = Ly.ret (D.lst ((rowOf p).map (rowD false))) := by
          unfold rowOf
          by_cases q : ec (lowP p) < ec (highP p)
          · simp only [decide_eq_true q, if_pos q, if_true]; rfl
          · simp only [decide_eq_false q, if_neg q, Bool.false_eq_true, if_false]; rfl
        rw [hext, ret_bnd]
        rw [addL _ _ (by
          have := rowOf_len p
          have := rowsOf_len (r.take i)
          have := List.length_take_le i r
          simp only [List.length_map]; omega)]
        rw [← List.map_append, ← rowsOf_take hp]
        exact ⟨_, _, rfl, _, _, _, _, _, _, rfl, rfl⟩
    · obtain ⟨x1, x4, x5, x6, x7, x8, rfl, rfl⟩ := hI
      have ht : r.take (r.map encP).length = r := by rw [List.length_map, List.take_length]
      rw [ht]
      simp only [seqK, getv, List.set_cons_succ, List.set_cons_zero, List.getElem?_cons_zero, List.getElem?_cons_succ, ret_bnd, bnd_bnd, sort_lst false _ hg, items_lst]
      have hall : ∀ q ∈ sortP ec (rowsOf r), GoodP q := fun q hq => hg q ((sortP_mem ec).mp hq)
      have hlen : (sortP ec (rowsOf r)).length ≤ r.length := by
        unfold sortP; rw [List.length_mergeSort]; exact hlr
      refine for_ex (fun o => ∃ S1 n, o = Out.ok (Fl.rt (.ref n)) (S0 ++ S1) ∧ ¬ n < S0.length ∧ (S0 ++ S1)[n]? = some (.lst ((spansR r).map (rowD false)))) (fun i ρ S => ∃ x5 x6 fnd, ρ = [some (.tup (r.map encP)), x1, some (.lst ((rowsOf r).map (rowD false))), some (.ref S0.length), x4, x5, x6, x7, x8] ∧ S = S0 ++ [MO.lst (fnd.map (rowD false))] ∧ fnd.length ≤ i ∧ MInv (sortP ec (rowsOf r)) i fnd) ⟨_, _, [], rfl, rfl, Nat.le_refl _, .inl ⟨rfl, rfl⟩⟩ (fun i x ρ S hx hI => ?_) fun ρ' S' hI => ?_
      · obtain ⟨x5, x6, fnd, rfl, rfl, hfl, hM⟩ := hI
        rw [List.getElem?_map] at hx
        cases hq : (sortP ec (rowsOf r))[i]? with
        | none => rw [hq] at hx; cases hx
        | some q =>
          rw [hq] at hx
          cases hx
          have gq := hall q (List.mem_of_getElem? hq)
          have il : i < (sortP ec (rowsOf r)).length := (List.getElem?_eq_some_iff.mp hq).1
          simp only [bind56, onB, getv, List.getElem?_cons_zero, List.getElem?_cons_succ, ret_bnd, bnd_bnd]
          have c1 : cmpM .NotEq (.ref S0.length) (.lst []) (S0 ++ [MO.lst (fnd.map (rowD false))]) = .ok (!fnd.isEmpty) (S0 ++ [MO.lst (fnd.map (rowD false))]) := by
            rw [cmp_end, ne_nilL (fun x hx => by
              obtain ⟨q, _, rfl⟩ := List.mem_map.mp hx
              exact sh_rowD false q), List.isEmpty_map]
            rfl
          rw [bnd_at c1]
          have hpush : ∀ c : Cfg, meM c "append" (.ref S0.length) [.tup [eD false q.1, eD false q.2]] (S0 ++ [MO.lst (fnd.map (rowD false))]) = .ok .non (S0 ++ [MO.lst ((fnd ++ [q]).map (rowD false))]) := fun c => by
            rw [app_end c S0 _ (.tup [eD false q.1, eD false q.2]) (by rw [List.length_map]; unfold line; omega) (rowD_closed false q), List.map_append]
            rfl
          rcases hM with ⟨rfl, rfl⟩ | ⟨pre, cur, rfl, gc, hM⟩
          · simp only [List.isEmpty_nil, Bool.not_true, cond_false, ret_bnd, Bool.false_eq_true, ↓reduceIte, bnd_bnd, seqK]
            rw [bnd_at (pre_end S0 _), bnd_at (hpush _)]
            exact ⟨_, _, rfl, _, _, [q], rfl, rfl, by simp, MInv.first hq gq⟩
          · have hne : (!(pre ++ [cur]).isEmpty) = true := by cases pre <;> rfl
            rw [hne]
            have hmap : (pre ++ [cur]).map (rowD false) = pre.map (rowD false) ++ [rowD false cur] := by rw [List.map_append]; rfl
            have li : ∀ {α : Type} (f : D → M α), bnd (itemM (.ref S0.length) (.int (-1))) f (S0 ++ [MO.lst ((pre ++ [cur]).map (rowD false))]) = f (rowD false cur) (S0 ++ [MO.lst ((pre ++ [cur]).map (rowD false))]) := fun f => by
              refine bnd_at ?_
              rw [item_end, hmap, last_item]
            simp only [cond_true, negI, ret_bnd, bnd_bnd]
            rw [li]
            simp only [row_i1, ret_bnd, en_cmp_le false gq.1 gc.2]
            by_cases hle : ec q.1 ≤ ec cur.2
            · simp only [decide_eq_true hle, ↓reduceIte, bnd_bnd, seqK, ret_bnd]
              rw [li]
              simp only [row_i0, ret_bnd]
              rw [li]
              simp only [row_i1, ret_bnd, max2_en false false gc.2 gq.2]
              have hput : ∀ base, putM base (.ref S0.length) (.int (-1)) (.tup [eD false cur.1, eD false (mxc ec cur.2 [q.2])]) (S0 ++ [MO.lst ((pre ++ [cur]).map (rowD false))]) = .ok () (S0 ++ [MO.lst ((pre ++ [(cur.1, mxc ec cur.2 [q.2])]).map (rowD false))]) := fun base => by
                rw [hmap, put_last base S0 _ _ (.tup [eD false cur.1, eD false (mxc ec cur.2 [q.2])]) (rowD_closed false (cur.1, mxc ec cur.2 [q.2])), List.map_append]
                rfl
              rw [bnd_at (hput _)]
              exact ⟨_, _, rfl, _, _, _, rfl, rfl, by simp at hfl ⊢; omega, MInv.grow hM hq gc gq hle⟩
            · simp only [decide_eq_false hle, Bool.false_eq_true, ↓reduceIte, bnd_bnd, seqK, ret_bnd]
              rw [bnd_at (pre_end S0 _), bnd_at (hpush _)]
              exact ⟨_, _, rfl, _, _, _, rfl, rfl, by simp at hfl ⊢; omega, MInv.next hM hq gq hle⟩
      · obtain ⟨x5, x6, fnd, rfl, rfl, hfl, hM⟩ := hI
        rw [List.length_map] at hM
        have hfin := hM.fin
        subst hfin
        simp only [seqK, getv, List.getElem?_cons_zero, List.getElem?_cons_succ, ret_bnd]
        exact ⟨[MO.lst ((spansR r).map (rowD false))], S0.length, rfl, by omega, at_end _ _⟩
  obtain ⟨S1, n, h, hn, hx⟩ := run
  rw [runF_ref h hn hx (closed_rows _ _), List.take_left]
end k85

/-! k85: may_meet, count_spans, _law_same; what spans say of versions. -/
set_option linter.all false
set_option maxRecDepth 100000
namespace k85
open PySem PySem.Spec PyProof.Rows L2 Ly
theorem count_spans_eq (k : Nat) {r : List (List Cond)} (gr : GoodR 6 r) : callF gl 10000 (k + 6) false "count_spans" [encR r] = Ly.ret (.int (spansR r).length) := by
  rw [e_count_spans]
  refine Val.eq (runF_val (fun n => ?_) rfl)
  unfold s_count_spans
  simp only [getv, List.getElem?_cons_zero, List.getElem?_cons_succ, ret_bnd, bnd_bnd, seqK, need_range_eq k gr, spans_in_eq (k + 2) gr (by omega), len_lst, List.length_map]
  exact fun S => rfl
def crossB (q t : En × En) : Bool := decide (ec (mxc ec q.1 [t.1]) < ec (mnc ec q.2 [t.2]))
def meetR (r s : List (List Cond)) : Bool := (spansR r).any fun q => (spansR s).any fun t => crossB q t
/-- a loop that ends early at some of its items -/
theorem for_any {α : Type} {f : α → D} {p : α → Bool} {I : Ly.Env → Prop} {d : D} {body : D → Ly.Env → M Fl} : ∀ (xs : List α) (ρ : Ly.Env), I ρ → (∀ x ∈ xs, ∀ ρ, I ρ → ∃ ρ', I ρ' ∧ body (f x) ρ = Ly.ret (if p x then .rt d else .nx ρ')) → ∃ ρ', I ρ' ∧ forLoop (guardM []) body (xs.map f) ρ = Ly.ret (if xs.any p then .rt d else .nx ρ')
  | [], ρ, h, _ => ⟨ρ, h, by funext S; rfl⟩
  | x :: xs, ρ, h, hb => by
    obtain ⟨ρ1, h1, e1⟩ := hb x List.mem_cons_self ρ h
    obtain ⟨ρ2, h2, e2⟩ := for_any (f := f) (p := p) (I := I) (d := d) (body := body) xs ρ1 h1 fun y hy => hb y (List.mem_cons_of_mem _ hy)
    refine ⟨ρ2, h2, ?_⟩
    funext S
    show Ly.bnd (guardM []) (fun _ => Ly.bnd (body (f x) ρ) fun o => match o with
      | .nx ρ' => forLoop (guardM []) body (xs.map f) ρ'
      | .rt d => Ly.ret (.rt d)) S = _
    rw [bnd_at (guard0 S), e1]
    cases hp : p x with
    | true => simp only [if_true, List.any_cons, hp, Bool.true_or]; rfl
    | false =>
      simp only [Bool.false_eq_true, if_false, ret_bnd, List.any_cons, hp, Bool.false_or]
      rw [e2]
theorem for_any_val {α γ : Type} {f : α → D} (p : α → Bool) (I : Ly.Env → Prop) (d : D) {body : D → Ly.Env → M Fl} {K : Fl → M γ} {out : γ} {xs : List α} {ρ : Ly.Env} (h : I ρ) (step : ∀ x ∈ xs, ∀ ρ, I ρ → ∃ ρ', I ρ' ∧ body (f x) ρ = Ly.ret (if p x then .rt d else .nx ρ')) (k : ∀ ρ', I ρ' → Val (K (if xs.any p then .rt d else .nx ρ')) out) : Val (bnd (forLoop (guardM []) body (xs.map f) ρ) K) out := by
  obtain ⟨ρ', h', e⟩ := for_any (f := f) (p := p) (I := I) (d := d) xs ρ h step
  rw [e, ret_bnd]
  exact k ρ' h'
/-- what a spans' end is -/
theorem mergeR_good : ∀ (rs : List (En × En)) (cur : En × En), GoodP cur → (∀ q ∈ rs, GoodP q) → ∀ q ∈ mergeR ec cur rs, GoodP q
  | [], cur, g, _, q, hq => by
    simp only [mergeR, List.mem_singleton] at hq
    rw [hq]; exact g
  | r :: rs, cur, g, h, q, hq => by
    have gr := h r List.mem_cons_self
    have h' : ∀ z ∈ rs, GoodP z := fun z hz => h z (List.mem_cons_of_mem _ hz)
    unfold mergeR at hq
    split at hq
    · exact mergeR_good rs (cur.1, mxc ec cur.2 [r.2]) ⟨g.1, mxc_good g.2 gr.2⟩ h' q hq
    · rcases List.mem_cons.mp hq with rfl | hq
      · exact g
      · exact mergeR_good rs r gr h' q hq
theorem spansR_good {n : Nat} {r : List (List Cond)} (gr : GoodR n r) : ∀ q ∈ spansR r, GoodP q := by
  have hg := rowsOf_good fun p hp c hc => (gr.parts p hp).2 c hc
  have hall : ∀ q ∈ sortP ec (rowsOf r), GoodP q := fun q hq => hg q ((sortP_mem ec).mp hq)
  unfold spansR spans
  cases h : sortP ec (rowsOf r) with
  | nil => intro q hq; cases hq
  | cons x xs =>
    rw [h] at hall
    exact mergeR_good xs x (hall x List.mem_cons_self) fun z hz => hall z (List.mem_cons_of_mem _ hz)
theorem mergeR_len : ∀ (rs : List (En × En)) (cur : En × En), (mergeR ec cur rs).length ≤ rs.length + 1
  | [], cur => by simp [mergeR]
  | r :: rs, cur => by
    unfold mergeR
    split
    · have := mergeR_len rs (cur.1, mxc ec cur.2 [r.2])
      simp only [List.length_cons]; omega
    · have := mergeR_len rs r
      simp only [List.length_cons]; omega
theorem spansR_len (r : List (List Cond)) : (spansR r).length ≤ r.length := by
  have h1 := rowsOf_len r
  have h2 : (sortP ec (rowsOf r)).length = (rowsOf r).length := List.length_mergeSort _
  unfold spansR spans
  cases h : sortP ec (rowsOf r) with
  | nil => simp [merge]
  | cons x xs =>
    have := mergeR_len xs x
    rw [h] at h2
    show (mergeR ec x xs).length ≤ _
    simp only [List.length_cons] at h2
    omega
theorem bind23 (m : Bool) (q : En × En) (a b x y e f : Option D) : bindG 4 (Tg.tp [Tg.ix 2, Tg.ix 3]) (rowD m q) [a, b, x, y, e, f] = some [a, b, some (eD m q.1), some (eD m q.2), e, f] := (rfl)
theorem bind45 (m : Bool) (q : En × En) (a b x y e f : Option D) : bindG 4 (Tg.tp [Tg.ix 4, Tg.ix 5]) (rowD m q) [a, b, x, y, e, f] = some [a, b, x, y, some (eD m q.1), some (eD m q.2)] := (rfl)
theorem may_meet_eq (k : Nat) {r s : List (List Cond)} (gr : GoodR 6 r) (gs : GoodR 6 s) : callF gl 10000 (k + 6) false "may_meet" [encR r, encR s] = Ly.ret (.bl (meetR r s)) := by
  have g1 := spansR_good gr
  have g2 := spansR_good gs
  have hl2 := spansR_len s
  have hsl := gs.len
  rw [e_may_meet]
  refine Val.eq (runF_val (fun n => ?_) rfl)
  unfold s_may_meet
  simp only [getv, List.getElem?_cons_zero, List.getElem?_cons_succ, ret_bnd, bnd_bnd, seqK, need_range_eq k gr, need_range_eq k gs, spans_in_eq (k + 2) gr (by omega), items_lst]
  refine for_any_val (fun q => (spansR s).any fun t => crossB q t) (fun ρ => ∃ x2 x3 x4 x5, ρ = [some (encR r), some (encR s), x2, x3, x4, x5]) (.bl true) ⟨_, _, _, _, rfl⟩ (fun q hq ρ hI => ?_) fun ρ' hI => ?_
  · obtain ⟨x2, x3, x4, x5, rfl⟩ := hI
    have gq := g1 q hq
    refine ⟨[some (encR r), some (encR s), some (eD true q.1), some (eD true q.2), x4, x5], ⟨_, _, _, _, rfl⟩, ?_⟩
    simp only [bind23, onB, getv, List.getElem?_cons_zero, List.getElem?_cons_succ, ret_bnd, bnd_bnd, spans_in_eq (k + 2) gs (by omega), items_lst, Ly.wipe, List.set_cons_succ, List.set_cons_zero, ↓reduceIte]
    rw [comp_map (g := fun t => .bl (crossB q t)) fun t ht => ?h1]
    case h1 =>
      have gt := g2 t ht
      simp only [bind45, onB, getv, List.getElem?_cons_zero, List.getElem?_cons_succ, max2_en false true gq.1 gt.1, min2_en false true gq.2 gt.2, ret_bnd, en_cmp_lt true (mxc_good gq.1 gt.1) (mnc_good gq.2 gt.2)]
      rfl
    rw [ret_bnd, if_pos (lineLe (by rw [List.length_map]; omega))]
    simp only [fresh_f, ret_bnd]
    have := any_bl ((spansR s).map fun t => crossB q t)
    rw [List.map_map] at this
    have e : ((spansR s).map fun t => D.bl (crossB q t)) = (spansR s).map (D.bl ∘ fun t => crossB q t) := rfl
    rw [e, this, ret_bnd, tru_bl, ret_bnd]
    have : ((spansR s).map fun t => crossB q t).any id = (spansR s).any fun t => crossB q t := by rw [List.any_map]; rfl
    rw [this]
    cases (spansR s).any fun t => crossB q t
    · simp only [Bool.false_eq_true, ↓reduceIte, ret_bnd, seqK]
    · simp only [↓reduceIte, ret_bnd, seqK]
  · obtain ⟨x2, x3, x4, x5, rfl⟩ := hI
    show Val _ (Fl.rt (.bl (meetR r s)))
    unfold meetR
    cases (spansR r).any fun q => (spansR s).any fun t => crossB q t
    · simp only [Bool.false_eq_true, ↓reduceIte, ret_bnd, seqK]
      exact fun S => rfl
    · simp only [↓reduceIte, ret_bnd, seqK]
      exact fun S => rfl
/-! ### what spans say -/
theorem ec_in {e : En} (g : GoodE e) : -1 ≤ ec e ∧ ec e ≤ ec .hi := by
  cases e with
  | lo => simp [ec]
  | hi => simp [ec]
  | p1 a => have := c4_in (q4p1 g); simp only [ec]; omega
  | p2 a b => have := c4_in (q4p2 g); simp only [ec]; omega
  | av v s => have := c4_in (q4V g); cases s <;> simp only [ec, vcode, if_true, Bool.false_eq_true, if_false] <;> omega
theorem pl_in {v : Ver} (g : GoodV v) : -1 ≤ pl v ∧ pl v < ec .hi := by
  have := c4_in (q4V g)
  simp only [pl, ec, vcode, Bool.false_eq_true, if_false]; omega
theorem mxL_le (t : Int) {l : List En} (h : l ≠ []) : ec (mxL l) ≤ t ↔ ∀ e ∈ l, ec e ≤ t := by
  cases l with
  | nil => exact absurd rfl h
  | cons x xs => show ec (mxc ec x xs) ≤ t ↔ _; rw [mxc_le]; simp
theorem lt_mnL (t : Int) {l : List En} (h : l ≠ []) : t < ec (mnL l) ↔ ∀ e ∈ l, t < ec e := by
  cases l with
  | nil => exact absurd rfl h
  | cons x xs => show t < ec (mnc ec x xs) ↔ _; rw [lt_mnc]; simp
theorem endsP_ne (p : List Cond) : (endsP p).map (·.1) ≠ [] ∧ (endsP p).map (·.2) ≠ [] := by simp [endsP]
theorem inP_iff {v : Ver} (gv : GoodV v) (p : List Cond) : inP v p = true ↔ inS ec (pl v) (lowP p, highP p) := by
  have hp := pl_in gv
  have z : ec .lo = -1 := rfl
  unfold inP inS lowP highP
  dsimp only
  rw [mxL_le _ (endsP_ne p).1, lt_mnL _ (endsP_ne p).2]
  simp only [List.all_eq_true, meetB, decide_eq_true_iff, endsP, List.map_append, List.map_map, List.mem_append, List.mem_map, List.map_cons, List.map_nil, List.mem_singleton, Function.comp]
  constructor
  · intro h
    refine ⟨?_, ?_⟩
    · rintro e (⟨c, hc, rfl⟩ | rfl)
      · exact (h c hc).1
      · rw [z]; exact hp.1
    · rintro e (⟨c, hc, rfl⟩ | rfl)
      · exact (h c hc).2
      · exact hp.2
  · rintro ⟨h1, h2⟩ c hc
    exact ⟨h1 _ (.inl ⟨c, hc, rfl⟩), h2 _ (.inl ⟨c, hc, rfl⟩)⟩
theorem inR_iff {v : Ver} (gv : GoodV v) (r : List (List Cond)) : inR v r = true ↔ ∃ q ∈ spansR r, inS ec (pl v) q := by
  unfold spansR
  rw [spans_cover]
  unfold inR
  rw [List.any_eq_true]
  constructor
  · rintro ⟨p, hp, h⟩
    rw [inP_iff gv] at h
    have hlt : ec (lowP p) < ec (highP p) := Int.lt_of_le_of_lt h.1 h.2
    refine ⟨(lowP p, highP p), List.mem_flatMap.mpr ⟨p, hp, ?_⟩, h⟩
    unfold rowOf
    rw [if_pos hlt]; exact List.mem_singleton.mpr rfl
  · rintro ⟨q, hq, h⟩
    obtain ⟨p, hp, hr⟩ := List.mem_flatMap.mp hq
    unfold rowOf at hr
    split at hr
    · rw [List.mem_singleton.mp hr] at h
      exact ⟨p, hp, (inP_iff gv p).mpr h⟩
    · cases hr
theorem mx_code (a b : En) : ec (mxc ec a [b]) = if ec a < ec b then ec b else ec a := by rw [mx1]; split <;> rfl
theorem mn_code (a b : En) : ec (mnc ec a [b]) = if ec b < ec a then ec b else ec a := by rw [mn1]; split <;> rfl
theorem cross_iff (q t : En × En) : crossB q t = true ↔ ec q.1 < ec q.2 ∧ ec q.1 < ec t.2 ∧ ec t.1 < ec q.2 ∧ ec t.1 < ec t.2 := by
  unfold crossB
  rw [decide_eq_true_iff, mx_code, mn_code]
  split <;> split <;> omega
theorem meetR_comm (r s : List (List Cond)) : meetR s r = meetR r s := by
  rw [Bool.eq_iff_iff]
  unfold meetR
  simp only [List.any_eq_true, cross_iff]
  constructor
  · rintro ⟨q, hq, t, ht, h⟩
    exact ⟨t, ht, q, hq, by omega⟩
  · rintro ⟨q, hq, t, ht, h⟩
    exact ⟨t, ht, q, hq, by omega⟩
theorem meetR_of {v : Ver} (gv : GoodV v) {r s : List (List Cond)} (h : inR v r = true) (h' : inR v s = true) : meetR r s = true := by
  obtain ⟨q, hq, i⟩ := (inR_iff gv r).mp h
  obtain ⟨t, ht, j⟩ := (inR_iff gv s).mp h'
  unfold meetR
  simp only [List.any_eq_true, cross_iff]
  obtain ⟨i1, i2⟩ := i
  obtain ⟨j1, j2⟩ := j
  exact ⟨q, hq, t, ht, by omega⟩
theorem spans_all : spansR [[]] = [(.lo, .hi)] := by
  have h : rowsOf [[]] = [(.lo, .hi)] := rfl
  unfold spansR spans
  rw [h]
  have h2 : sortP ec [((.lo : En), (.hi : En))] = [(.lo, .hi)] := by
    unfold sortP; exact List.mergeSort_singleton _
  rw [h2]; rfl
theorem meetR_all {n : Nat} {r : List (List Cond)} (gr : GoodR n r) : meetR r [[]] = !(spansR r).isEmpty := by
  have hg := spansR_good gr
  have hp := spans_pos ec (rowsOf r) (rowsOf_pos r)
  have hq : ∀ q ∈ spansR r, crossB q (.lo, .hi) = true := fun q hq => by
    have g := hg q hq
    have e1 := ec_in g.1
    have e2 := ec_in g.2
    have p := hp q hq
    have z : ec .lo = -1 := rfl
    have z2 : ec .hi = 1000000000000000000000000 := rfl
    rw [cross_iff]
    dsimp only
    omega
  unfold meetR
  rw [spans_all]
  cases h : spansR r with
  | nil => rfl
  | cons q qs =>
    rw [h] at hq
    rw [List.any_cons]
    simp [hq q List.mem_cons_self]
/-! ### versions by their places -/
theorem wc_inj : ∀ w ∈ words10, ∀ u ∈ words10, wc w = wc u → w = u := by
  have h : (words10.all fun w => words10.all fun u => decide (wc w = wc u → w = u)) = true := by decide +kernel
  intro w hw u hu
  exact of_decide_eq_true (List.all_eq_true.mp (List.all_eq_true.mp h w hw) u hu)
def WsInj (ws us : List Str) : Prop := wsc ws = wsc us → ws = us
theorem wsc_inj {ws us : List Str} (hw : ws.length ≤ 2 ∧ ∀ w ∈ ws, w ∈ words10) (hu : us.length ≤ 2 ∧ ∀ w ∈ us, w ∈ words10) : WsInj ws us := by
  refine words_cases (P := fun ws => WsInj ws us) hw ?_ (fun w hw => ?_) (fun w hw x hx => ?_) <;> refine words_cases (P := fun us => WsInj _ us) hu ?_ (fun u hu => ?_) (fun u hu y hy => ?_) <;> intro h <;> simp only [wsc] at h
  · rfl
  · have := wc_in u hu; omega
  · have := wc_in u hu; have := wc_in y hy; omega
  · have := wc_in w hw; omega
  · rw [wc_inj w hw u hu (by omega)]
  · have := wc_in w hw; have := wc_in u hu; have := wc_in y hy; omega
  · have := wc_in w hw; have := wc_in x hx; omega
  · have := wc_in w hw; have := wc_in u hu; have := wc_in x hx; omega
  · have := wc_in w hw; have := wc_in u hu; have := wc_in x hx; have := wc_in y hy
    rw [wc_inj w hw u hu (by omega), wc_inj x hx y hy (by omega)]
theorem vcode_inj {u v : Ver} (gu : GoodV u) (gv : GoodV v) (h : vcode u = vcode v) : u = v := by
  have hq := (c4_cmp (q4V gu) (q4V gv)).2.mp h
  have hw := wsc_inj gu.ws gv.ws hq.2.2.2
  cases u
  cases v
  simp only [Ver.mk.injEq] at *
  exact ⟨hq.1, hq.2.1, hq.2.2.1, hw⟩
theorem strsP : ∀ ws : List Str, pyAll (ws.map D.str) = some (ws.map PyData.str)
  | [] => rfl
  | w :: ws => by simp [pyAll, D.py, strsP ws]
theorem eqv_strs : ∀ ws : List Str, PyData.eqvAll (ws.map PyData.str) (ws.map PyData.str) = true
  | [] => by simp [PyData.eqvAll]
  | w :: ws => by simp [PyData.eqvAll, PyData.eqv, eqv_strs ws]
theorem eqD_self (v : Ver) : eqD (encV v) (encV v) = some true := by
  obtain ⟨p, hp, dp⟩ := sh_encV v
  have hq : (encV v).py = some (.tuple [.int v.a, .int v.b, .int v.c, .tuple (v.ws.map .str)]) := by simp [encV, D.py, pyAll, strsP]
  have d1 : deepOk (.tuple [.int v.a, .int v.b, .int v.c, .tuple (v.ws.map .str)]) = true := by
    rw [hq] at hp
    cases hp
    exact decide_eq_true (by omega)
  unfold eqD
  rw [hq]
  simp only [d1, Bool.and_self, if_true]
  simp [PyData.eqv, PyData.eqvAll, eqv_strs]
/-- one != other: what it answers, and then the places differ -/
theorem ne_ver {u v : Ver} (gu : GoodV u) (gv : GoodV v) : ∃ b, cmpM .NotEq (encV u) (encV v) = Ly.ret b ∧ (b = true → vcode u ≠ vcode v) := by
  obtain ⟨p, hp, dp⟩ := sh_encV u
  obtain ⟨q, hq, dq⟩ := sh_encV v
  have e : eqD (encV u) (encV v) = some (PyData.eqv p q) := by
    unfold eqD
    rw [hp, hq]
    have d1 : deepOk p = true := decide_eq_true (by omega)
    have d2 : deepOk q = true := decide_eq_true (by omega)
    simp only [d1, d2, Bool.and_self, if_true]
  refine ⟨!PyData.eqv p q, ?_, fun hb hc => ?_⟩
  · funext S
    show ofOp (cmpD .NotEq (Ly.view S (encV u)) (Ly.view S (encV v))) S = _
    rw [closed_view (encV_closed u), closed_view (encV_closed v)]
    show ofOp ((eqD (encV u) (encV v)).map (!·)) S = _
    rw [e]; rfl
  · have := vcode_inj gu gv hc
    subst this
    rw [eqD_self] at e
    rw [← Option.some.inj e] at hb
    exact absurd hb (by decide)
/-! ### _law_same -/
theorem isa_v (t : Str) {d : D} (hd : closedD d = true) {b : Bool} (h : isaD t d = some b) : (viewed d fun x => ofOp ((isaD t x).map D.bl)) = Ly.ret (.bl b) := by
  funext S
  show ofOp ((isaD t (Ly.view S d)).map D.bl) S = _
  rw [closed_view hd, h]; rfl
theorem isN (b : Bool) : cmpM .Is (.bl b) .non = Ly.ret false := by funext S; rfl
theorem isNi (i : Int) : cmpM .Is (.int i) .non = Ly.ret false := by funext S; rfl
theorem isB (b c : Bool) : cmpM .Is (.bl b) (.bl c) = Ly.ret (b == c) := by funext S; rfl
theorem same_bl (k : Nat) (a b : Bool) : callF gl 10000 (k + 1) false "_law_same" [.bl a, .bl b] = Ly.ret (.bl (a == b)) := by
  rw [e__law_same]
  refine Val.eq (runF_val (fun n => ?_) rfl)
  unfold s__law_same
  have t1 := isa_v "tuple" (d := .bl b) rfl (b := false) rfl
  have t2 := isa_v "bool" (d := .bl b) rfl (b := true) rfl
  simp only [getv, List.getElem?_cons_zero, List.getElem?_cons_succ, ret_bnd, bnd_bnd, t1, t2, tru_bl, Bool.false_eq_true, ↓reduceIte, seqK, isN, isB]
  cases b <;> simp only [Bool.false_eq_true, ↓reduceIte, ret_bnd, seqK] <;> exact fun S => rfl
theorem int_id (i : Int) : biB false "int" [.int i] = Ly.ret (.int i) := by funext S; rfl
theorem same_int (k : Nat) (a b : Int) : callF gl 10000 (k + 1) false "_law_same" [.int a, .int b] = Ly.ret (.bl (decide (a = b))) := by
  rw [e__law_same]
  refine Val.eq (runF_val (fun n => ?_) rfl)
  unfold s__law_same
  have t1 := isa_v "tuple" (d := .int b) rfl (b := false) rfl
  have t2 := isa_v "bool" (d := .int b) rfl (b := false) rfl
  have t3 := isa_v "int" (d := .int b) rfl (b := true) rfl
  have t4 := isa_v "int" (d := .int a) rfl (b := true) rfl
  have t5 := isa_v "bool" (d := .int a) rfl (b := false) rfl
  simp only [getv, List.getElem?_cons_zero, List.getElem?_cons_succ, ret_bnd, bnd_bnd, t1, t2, t3, t4, t5, tru_bl, Bool.false_eq_true, ↓reduceIte, seqK, isNi, int_id, eqI, cond_true, Bool.not_false]
  exact fun S => rfl
theorem ne_int (a b : Int) : cmpM .NotEq (.int a) (.int b) = Ly.ret (!decide (a = b)) := by
  funext S
  show ofOp ((eqD (.int a) (.int b)).map (!·)) S = _
  rw [eqD_int]
  have : (a == b) = decide (a = b) := by rw [Bool.eq_iff_iff]; simp
  rw [this]; rfl
theorem atI_nat {xs : List D} {i : Nat} {x : D} (h : xs[i]? = some x) : L2.atI xs (0 + (i : Int)) = some x := by
  have hl := (List.getElem?_eq_some_iff.mp h).1
  unfold L2.atI L2.ixN
  rw [if_pos (by omega), if_pos (by omega)]
  have : (0 + (i : Int)).toNat = i := by omega
  show xs[(0 + (i : Int)).toNat]? = _
  rw [this, h]
theorem same_tup (k : Nat) (n : Nat) (xs ys : List D) (hx : closedL xs = true) (hy : closedL ys = true) (px : ∃ ps, pyAll xs = some ps) (py : ∃ ps, pyAll ys = some ps) (lx : xs.length = n) (ly : ys.length = n) (hn : n ≤ 500)
    (h : ∀ (i : Nat) (x y : D), xs[i]? = some x → ys[i]? = some y → callF gl 10000 k false "_law_same" [x, y] = Ly.ret (.bl true)) : callF gl 10000 (k + 1) false "_law_same" [.tup xs, .tup ys] = Ly.ret (.bl true) := by
  rw [e__law_same]
  refine Val.eq (runF_val (fun b0 => ?_) rfl)
  unfold s__law_same
  have t1 := isa_v "tuple" (d := .tup ys) hy (isa_tup py)
  have t2 := isa_v "tuple" (d := .tup xs) hx (isa_tup px)
  simp only [getv, List.getElem?_cons_zero, List.getElem?_cons_succ, ret_bnd, bnd_bnd, t1, t2, tru_bl, ↓reduceIte, Bool.not_true, cond_false, len_tup, ne_int, lx, ly, decide_true, Bool.false_eq_true, seqK]
  rw [rng1 _ (by omega) (by omega)]
  simp only [ret_bnd, Ly.wipe, List.set_cons_succ, List.set_cons_zero]
  have e0 : Ly.upTo 0 ((n : Nat) : Int).toNat = (List.range n).map fun i => D.int (0 + (i : Nat)) := by
    unfold Ly.upTo; rfl
  subst lx
  rw [e0, comp_map (g := fun _ => .bl true) fun i hi => ?h1]
  case h1 =>
    have hi := List.mem_range.mp hi
    have hx' : xs[i]? = some xs[i] := List.getElem?_eq_getElem hi
    have hy' : ys[i]? = some (ys[i]'(by omega)) := List.getElem?_eq_getElem (by omega)
    simp only [getv, List.getElem?_cons_zero, List.getElem?_cons_succ, ret_bnd, bnd_bnd, item_tup, atI_nat hx', atI_nat hy', ofOp, h i _ _ hx' hy', ↓reduceIte]
  rw [ret_bnd, if_pos (lineLe (by rw [List.length_map, List.length_range]; omega))]
  simp only [fresh_f, ret_bnd]
  have e2 : ((List.range xs.length).map fun _ => D.bl true) = List.replicate xs.length (D.bl true) := by
    rw [List.map_const', List.length_range]
  rw [e2, all_any_len, ret_bnd]
  exact fun S => rfl
end k85

/-! k85: _law_right. -/
set_option linter.all false
set_option maxRecDepth 100000
namespace k85
open PySem PySem.Spec PyProof.Rows L2 Ly
theorem before_eq (k : Nat) {u v : Ver} (gu : GoodV u) (gv : GoodV v) : callF gl 10000 (k + 4) false "is_before" [encV u, encV v] = Ly.ret (.bl (decide (vcode u < vcode v))) := by
  rw [Val.eq (is_before_val k u v gu gv), ver_lt gu gv]
theorem tru_f (b : Bool) : truM (.bl b) = Ly.ret b := tru_bl b
theorem asg678 (d d' d2 : D) (a0 a1 a2 a3 a4 a5 a6 a7 a8 a9 a10 a11 a12 a13 a14 a15 a16 a17 a18 a19 : Option D) : asgG (Tg.tp [Tg.ix 6, Tg.ix 7, Tg.ix 8]) (D.tup [d, d', d2]) [a0, a1, a2, a3, a4, a5, a6, a7, a8, a9, a10, a11, a12, a13, a14, a15, a16, a17, a18, a19] = Ly.ret (Fl.nx [a0, a1, a2, a3, a4, a5, some d, some d', some d2, a9, a10, a11, a12, a13, a14, a15, a16, a17, a18, a19]) := (rfl)
theorem asg910 (d d' : D) (a0 a1 a2 a3 a4 a5 a6 a7 a8 a9 a10 a11 a12 a13 a14 a15 a16 a17 a18 a19 : Option D) : asgG (Tg.tp [Tg.ix 9, Tg.ix 10]) (D.tup [d, d']) [a0, a1, a2, a3, a4, a5, a6, a7, a8, a9, a10, a11, a12, a13, a14, a15, a16, a17, a18, a19] = Ly.ret (Fl.nx [a0, a1, a2, a3, a4, a5, a6, a7, a8, some d, some d', a11, a12, a13, a14, a15, a16, a17, a18, a19]) := (rfl)
theorem asg1112 (d d' : D) (a0 a1 a2 a3 a4 a5 a6 a7 a8 a9 a10 a11 a12 a13 a14 a15 a16 a17 a18 a19 : Option D) : asgG (Tg.tp [Tg.ix 11, Tg.ix 12]) (D.tup [d, d']) [a0, a1, a2, a3, a4, a5, a6, a7, a8, a9, a10, a11, a12, a13, a14, a15, a16, a17, a18, a19] = Ly.ret (Fl.nx [a0, a1, a2, a3, a4, a5, a6, a7, a8, a9, a10, some d, some d', a13, a14, a15, a16, a17, a18, a19]) := (rfl)
theorem pair_same (k : Nat) (a b : Bool) : callF gl 10000 (k + 2) false "_law_same" [.tup [.bl a, .bl b], .tup [.bl a, .bl b]] = Ly.ret (.bl true) :=
  same_tup (k + 1) 2 _ _ rfl rfl ⟨_, rfl⟩ ⟨_, rfl⟩ rfl rfl (by omega) fun i x y hx hy => by
    match i, hx, hy with
    | 0, hx, hy => cases hx; cases hy; rw [same_bl]; cases a <;> rfl
    | 1, hx, hy => cases hx; cases hy; rw [same_bl]; cases b <;> rfl
    | i + 2, hx, hy => simp at hx
theorem trip_same (k : Nat) (n : Int) (a b : Bool) : callF gl 10000 (k + 2) false "_law_same" [.tup [.int n, .bl a, .bl b], .tup [.int n, .bl a, .bl b]] = Ly.ret (.bl true) :=
  same_tup (k + 1) 3 _ _ rfl rfl ⟨_, rfl⟩ ⟨_, rfl⟩ rfl rfl (by omega) fun i x y hx hy => by
    match i, hx, hy with
    | 0, hx, hy => cases hx; cases hy; rw [same_int]; simp
    | 1, hx, hy => cases hx; cases hy; rw [same_bl]; cases a <;> rfl
    | 2, hx, hy => cases hx; cases hy; rw [same_bl]; cases b <;> rfl
    | i + 3, hx, hy => simp at hx
theorem eqB (a b : Bool) : cmpM .Eq (.bl a) (.bl b) = Ly.ret (a == b) := by
  cases a <;> cases b <;> (funext S; rfl)
theorem neB (a b : Bool) : cmpM .NotEq (.bl a) (.bl b) = Ly.ret (!(a == b)) := by
  cases a <;> cases b <;> (funext S; rfl)
/-- a loop that changes names only -/
theorem for_val {α γ : Type} {f : α → D} (I : Nat → Ly.Env → Prop) {body : D → Ly.Env → M Fl} {K : Fl → M γ} {out : γ} {xs : List α} {ρ : Ly.Env} (h : I 0 ρ) (step : ∀ i x ρ, xs[i]? = some x → I i ρ → ∃ ρ', I (i + 1) ρ' ∧ body (f x) ρ = Ly.ret (.nx ρ')) (k : ∀ ρ', I xs.length ρ' → Val (K (.nx ρ')) out) : Val (bnd (forLoop (guardM []) body (xs.map f) ρ) K) out := fun S => by
  refine for_ex (fun o => o = Out.ok out S) (fun i ρ S' => S' = S ∧ I i ρ) ⟨rfl, h⟩ (fun i y ρ S' hy hI => ?_) fun ρ' S' hI => ?_
  · obtain ⟨rfl, hI⟩ := hI
    rw [List.getElem?_map] at hy
    cases hx : xs[i]? with
    | none => rw [hx] at hy; cases hy
    | some x =>
      rw [hx] at hy
      cases hy
      obtain ⟨ρ', h', e⟩ := step i x ρ hx hI
      exact ⟨ρ', _, by rw [e]; rfl, rfl, h'⟩
  · obtain ⟨rfl, hI⟩ := hI
    rw [List.length_map] at hI
    exact k ρ' hI S'
theorem addTup (xs ys : List D) (h : xs.length + ys.length ≤ 1000) : binB false .Add (.tup xs) (.tup ys) = Ly.ret (.tup (xs ++ ys)) := by
  have hl : xs.length + ys.length ≤ line := by unfold line; omega
  funext S
  show (match (if xs.length + ys.length ≤ line then some (D.tup (xs ++ ys)) else none) with
    | some d => if isList d then Ly.fresh false d else Ly.ret d
    | none => Ly.stuck) S = _
  rw [if_pos hl]; rfl
theorem asg1516 (d d' : D) (a0 a1 a2 a3 a4 a5 a6 a7 a8 a9 a10 a11 a12 a13 a14 a15 a16 a17 a18 a19 : Option D) : asgG (Tg.tp [Tg.ix 15, Tg.ix 16]) (D.tup [d, d']) [a0, a1, a2, a3, a4, a5, a6, a7, a8, a9, a10, a11, a12, a13, a14, a15, a16, a17, a18, a19] = Ly.ret (Fl.nx [a0, a1, a2, a3, a4, a5, a6, a7, a8, a9, a10, a11, a12, a13, a14, some d, some d', a17, a18, a19]) := (rfl)
theorem bind175 (c : Cond) (a0 a1 a2 a3 a4 a5 a6 a7 a8 a9 a10 a11 a12 a13 a14 a15 a16 a17 a18 a19 : Option D) : bindG 4 (Tg.tp [Tg.ix 17, Tg.ix 5]) (encC c) [a0, a1, a2, a3, a4, a5, a6, a7, a8, a9, a10, a11, a12, a13, a14, a15, a16, a17, a18, a19] = some [a0, a1, a2, a3, a4, some (encV c.v), a6, a7, a8, a9, a10, a11, a12, a13, a14, a15, a16, some (.str c.sg), a18, a19] := (rfl)
theorem bind1314 (m : Bool) (q : En × En) (a0 a1 a2 a3 a4 a5 a6 a7 a8 a9 a10 a11 a12 a13 a14 a15 a16 a17 a18 a19 : Option D) : bindG 4 (Tg.tp [Tg.ix 13, Tg.ix 14]) (rowD m q) [a0, a1, a2, a3, a4, a5, a6, a7, a8, a9, a10, a11, a12, a13, a14, a15, a16, a17, a18, a19] = some [a0, a1, a2, a3, a4, a5, a6, a7, a8, a9, a10, a11, a12, some (eD m q.1), some (eD m q.2), a15, a16, a17, a18, a19] := (rfl)
theorem bind1819 (m : Bool) (q : En × En) (a0 a1 a2 a3 a4 a5 a6 a7 a8 a9 a10 a11 a12 a13 a14 a15 a16 a17 a18 a19 : Option D) : bindG 4 (Tg.tp [Tg.ix 18, Tg.ix 19]) (rowD m q) [a0, a1, a2, a3, a4, a5, a6, a7, a8, a9, a10, a11, a12, a13, a14, a15, a16, a17, a18, a19] = some [a0, a1, a2, a3, a4, a5, a6, a7, a8, a9, a10, a11, a12, a13, a14, a15, a16, a17, some (eD m q.1), some (eD m q.2)] := (rfl)
theorem GoodR.mono {m n : Nat} {r : List (List Cond)} (g : GoodR m r) (h : m ≤ n) : GoodR n r := ⟨Nat.le_trans g.len h, g.parts⟩
theorem any_filter {α : Type} {p : α → Bool} (xs : List α) {g : α → D} : (!((xs.filter p).map g).isEmpty) = xs.any p := by
  rw [List.isEmpty_map, filter_empty, List.not_all_eq_any_not]
  simp only [Bool.not_not]
theorem right_gen (k : Nat) : Gen (callF gl 10000 (k + 9) false "_law_right" [.ref 0]) (fun d => d = .bl true) := by
  rw [e__law_right]
  refine runF_gen fun n => ?_
  unfold s__law_right
  simp only [getv, List.getElem?_cons_zero, List.getElem?_cons_succ, ret_bnd, bnd_bnd]
  refine Gen.bnd (version_gen (k + 5)) fun d1 ⟨u, h1, gu, _⟩ => Gen.bnd (version_gen (k + 5)) fun d2 ⟨v, h2, gv, _⟩ => Gen.bnd (version_gen (k + 5)) fun d3 ⟨w, h3, gw, _⟩ => ?_
  subst h1 h2 h3
  obtain ⟨b, hb, hne⟩ := ne_ver gu gv
  simp only [asg678, seqK, ret_bnd, bnd_bnd, lkey_eq (k + 7) gu, lkey_eq (k + 7) gv, key_lt' gu gv, getv, List.getElem?_cons_zero, List.getElem?_cons_succ, List.set_cons_succ, List.set_cons_zero, before_eq (k + 4) gu gv, before_eq (k + 4) gu gu, before_eq (k + 4) gv gu, before_eq (k + 4) gv gw, before_eq (k + 4) gu gw, hb]
  have e0 : decide (vcode u < vcode u) = false := decide_eq_false (by omega)
  rw [e0, pair_same (k + 6)]
  simp only [ret_bnd, bnd_bnd, tru_f, Bool.not_true, cond_false]
  have e1 : (bif b then cmpM .Eq (.bl (decide (vcode v < vcode u))) (.bl (decide (vcode u < vcode v))) else Ly.ret b) = Ly.ret false := by
    cases b with
    | false => rfl
    | true =>
      have := hne rfl
      rw [cond_true, eqB]
      by_cases h : vcode u < vcode v
      · rw [decide_eq_true h, decide_eq_false (by omega)]; rfl
      · rw [decide_eq_false h, decide_eq_true (by omega)]; rfl
  rw [e1]
  simp only [ret_bnd, bnd_bnd, seqK, Bool.false_eq_true, ↓reduceIte, getv, List.getElem?_cons_zero, List.getElem?_cons_succ, before_eq (k + 4) gu gv, before_eq (k + 4) gv gw, before_eq (k + 4) gu gw, tru_f]
  have e2 : (bif decide (vcode u < vcode v) then bif decide (vcode v < vcode w) then Ly.ret (!decide (vcode u < vcode w)) else Ly.ret (decide (vcode v < vcode w)) else Ly.ret (decide (vcode u < vcode v))) = Ly.ret false := by
    by_cases h1 : vcode u < vcode v
    · by_cases h2 : vcode v < vcode w
      · rw [decide_eq_true h1, decide_eq_true h2, decide_eq_true (show vcode u < vcode w by omega)]; rfl
      · rw [decide_eq_true h1, decide_eq_false h2]; rfl
    · rw [decide_eq_false h1]; rfl
  rw [e2]
  simp only [ret_bnd, bnd_bnd, seqK, Bool.false_eq_true, ↓reduceIte, getv, List.getElem?_cons_zero, List.getElem?_cons_succ]
  refine Gen.bnd (range_gen (k + 3) 5 (by omega)) fun d1 ⟨r, h1, gr⟩ => Gen.bnd (range_gen (k + 3) 3 (by omega)) fun d2 ⟨t, h2, gt⟩ => ?_
  subst h1 h2
  refine Val.gen (a := Fl.rt (.bl true)) ?_ ⟨_, rfl, rfl, rfl⟩
  simp only [asg910, seqK, ret_bnd, bnd_bnd, fresh_f, getv, List.getElem?_cons_zero, List.getElem?_cons_succ, List.set_cons_succ, List.set_cons_zero]
  have hr := gr.len
  have ht := gt.len
  rw [show binB false .Add (encR r) (encR t) = Ly.ret (.tup ((r ++ t).map encP)) from by
    unfold encR
    rw [addTup _ _ (by simp only [List.length_map]; omega), List.map_append]]
  simp only [ret_bnd, items_tup]
  have hp : ∀ p ∈ r ++ t, p.length ≤ 3 ∧ ∀ c ∈ p, GoodC c := fun p hp => by
    rcases List.mem_append.mp hp with h | h
    · exact gr.parts p h
    · exact gt.parts p h
  have gr6 := gr.mono (show 5 ≤ 6 by omega)
  have gt6 := gt.mono (show 3 ≤ 6 by omega)
  refine for_val (fun i ρ => ∃ vs x3 x5 x17, ρ = [some (.ref 0), some (.bl (decide (vcode u < vcode v))), some (.lst (vs.map encV)), x3, none, x5, some (encV u), some (encV v), some (encV w), some (encR r), some (encR t), none, none, none, none, none, none, x17, none, none] ∧ (∀ y ∈ vs, GoodV y) ∧ vs.length ≤ 3 + 3 * i) ⟨[u, v, w], _, _, _, rfl, fun y hy => by
    simp only [List.mem_cons, List.mem_nil_iff, or_false] at hy
    rcases hy with rfl | rfl | rfl <;> assumption, by simp⟩ (fun i p ρ hpi hI => ?_) fun ρ' hI => ?_
  · obtain ⟨vs, x3, x5, x17, rfl, hvs, hl⟩ := hI
    have hpm := hp p (List.mem_of_getElem? hpi)
    have hil := (List.getElem?_eq_some_iff.mp hpi).1
    rw [List.length_append] at hil
    refine ⟨_, ⟨vs ++ p.map (·.v), some (encP p), x5, x17, rfl, fun y hy => ?_, ?_⟩, ?_⟩
    · rcases List.mem_append.mp hy with h | h
      · exact hvs y h
      · obtain ⟨c, hc, rfl⟩ := List.mem_map.mp h
        exact (hpm.2 c hc).v
    · have := hpm.1
      rw [List.length_append, List.length_map]; omega
    · simp only [getv, List.getElem?_cons_zero, List.getElem?_cons_succ, List.set_cons_succ, List.set_cons_zero, ret_bnd, bnd_bnd, encP, items_tup, Ly.wipe]
      rw [comp_map (g := fun c => encV c.v) fun c hc => ?h1]
      case h1 => simp only [bind175, onB, getv, List.getElem?_cons_zero, List.getElem?_cons_succ, ret_bnd]
      have := hpm.1
      rw [ret_bnd, if_pos (lineLe (by rw [List.length_map]; omega)), ret_bnd, addL _ _ (by simp only [List.length_map]; omega), ret_bnd]
      rw [List.map_append, List.map_map]
      rfl
  · obtain ⟨vs, x3, x5, x17, rfl, hvs, hl⟩ := hI
    rw [List.length_append] at hl
    simp only [seqK, getv, List.getElem?_cons_zero, List.getElem?_cons_succ, ret_bnd, bnd_bnd, law_spans_eq (k + 5) gr (by omega), law_spans_eq (k + 5) gt (by omega), asg1112, List.set_cons_succ, List.set_cons_zero, items_lst]
    have sg := spansR_good gr
    have sg2 := spansR_good gt
    have sl := spansR_len r
    have sl2 := spansR_len t
    refine for_val (fun i ρ => ∃ x13 x14, ρ = [some (.ref 0), some (.bl (decide (vcode u < vcode v))), some (.lst (vs.map encV)), x3, some (.bl (((spansR r).take i).any fun q => (spansR t).any fun z => crossB q z)), x5, some (encV u), some (encV v), some (encV w), some (encR r), some (encR t), some (.lst ((spansR r).map (rowD false))), some (.lst ((spansR t).map (rowD false))), x13, x14, none, none, x17, none, none]) ⟨_, _, rfl⟩ (fun i q ρ hq hI => ?_) fun ρ' hI => ?_
    · obtain ⟨x13, x14, rfl⟩ := hI
      have gq := sg q (List.mem_of_getElem? hq)
      refine ⟨_, ⟨some (eD false q.1), some (eD false q.2), rfl⟩, ?_⟩
      simp only [bind1314, onB, getv, List.getElem?_cons_zero, List.getElem?_cons_succ, ret_bnd, bnd_bnd, tru_f, items_lst, Ly.wipe, List.set_cons_succ, List.set_cons_zero]
      rw [comp_filter (p := fun z => crossB q z) (g := fun _ => .int 1) fun z hz => ?h2]
      case h2 =>
        have gz := sg2 z hz
        simp only [bind1819, onB, getv, List.getElem?_cons_zero, List.getElem?_cons_succ, max2_en false false gq.1 gz.1, min2_en false false gq.2 gz.2, ret_bnd, en_cmp_lt false (mxc_good gq.1 gz.1) (mnc_good gq.2 gz.2)]
        show (if crossB q z = true then _ else _) = _
        cases crossB q z <;> rfl
      have lf := List.length_filter_le (fun z => crossB q z) (spansR t)
      rw [ret_bnd, if_pos (lineLe (by rw [List.length_map]; omega)), ret_bnd, ne_nilL (fun x hx => by
        obtain ⟨_, _, rfl⟩ := List.mem_map.mp hx
        exact sh_int 49 1), ret_bnd, any_filter]
      have ht : ((spansR r).take (i + 1)).any (fun q => (spansR t).any fun z => crossB q z) = (((spansR r).take i).any (fun q => (spansR t).any fun z => crossB q z) || (spansR t).any fun z => crossB q z) := by
        rw [List.take_succ, hq, List.any_append]; simp
      rw [ht]
      cases ((spansR r).take i).any fun q => (spansR t).any fun z => crossB q z
      · simp only [cond_false, ret_bnd, Bool.false_or]
      · simp only [cond_true, ret_bnd, Bool.true_or]
    · obtain ⟨x13, x14, rfl⟩ := hI
      have hm : (((spansR r).take (spansR r).length).any fun q => (spansR t).any fun z => crossB q z) = meetR r t := by rw [List.take_length]; rfl
      rw [hm]
      simp only [seqK, getv, List.getElem?_cons_zero, List.getElem?_cons_succ, ret_bnd, bnd_bnd, count_spans_eq (k + 2) gr6, may_meet_eq (k + 2) gr6 gt6, may_meet_eq (k + 2) gt6 gr6, meetR_comm r t, len_lst, List.length_map, trip_same (k + 6), tru_f, Bool.not_true, Bool.false_eq_true, ↓reduceIte, items_lst]
      refine for_val (fun i ρ => ∃ x5 x13 x14 x15 x16, ρ = [some (.ref 0), some (.bl (decide (vcode u < vcode v))), some (.lst (vs.map encV)), x3, some (.bl (meetR r t)), x5, some (encV u), some (encV v), some (encV w), some (encR r), some (encR t), some (.lst ((spansR r).map (rowD false))), some (.lst ((spansR t).map (rowD false))), x13, x14, x15, x16, x17, none, none]) ⟨_, _, _, _, _, rfl⟩ (fun i y ρ hy hI => ?_) fun ρ' hI => ?_
      · obtain ⟨x5, x13, x14, x15, x16, rfl⟩ := hI
        have gy := hvs y (List.mem_of_getElem? hy)
        refine ⟨_, ⟨some (encV y), x13, x14, some (.bl (inR y r)), some (eD false (.av y false)), rfl⟩, ?_⟩
        simp only [getv, List.getElem?_cons_zero, List.getElem?_cons_succ, ret_bnd, bnd_bnd, List.set_cons_succ, List.set_cons_zero, law_is_in_eq (k + 5) gr (by omega) gy, lkey_eq (k + 7) gy, asg1516, seqK, is_in_eq (k + 2) gr6 gy, same_bl (k + 7), tru_f, beq_self_eq_true, Bool.not_true, cond_false, items_lst, Ly.wipe]
        have hk : D.tup [keyV y, .int 1] = eD false (.av y false) := rfl
        simp only [hk]
        rw [comp_filter (p := fun q => decide (ec q.1 ≤ pl y ∧ pl y < ec q.2)) (g := fun _ => .int 1) fun q hq => ?h3]
        case h3 =>
          have gq := sg q hq
          have g1 : GoodE (.av y false) := gy
          simp only [bind1314, onB, getv, List.getElem?_cons_zero, List.getElem?_cons_succ, ret_bnd, en_cmp_le false gq.1 g1, bnd_bnd]
          have e : pl y = ec (.av y false) := rfl
          rw [e]
          by_cases h1 : ec q.1 ≤ ec (.av y false)
          · simp only [decide_eq_true h1, ↓reduceIte, en_cmp_lt false g1 gq.2, ret_bnd, h1, true_and]
            by_cases h2 : ec (.av y false) < ec q.2
            · simp only [decide_eq_true h2, ↓reduceIte]; rfl
            · simp only [decide_eq_false h2, Bool.false_eq_true, ↓reduceIte]; rfl
          · simp only [decide_eq_false h1, h1, false_and, decide_false, Bool.false_eq_true, ↓reduceIte, ret_bnd]
        have lf := List.length_filter_le (fun q => decide (ec q.1 ≤ pl y ∧ pl y < ec q.2)) (spansR r)
        rw [ret_bnd, if_pos (lineLe (by rw [List.length_map]; omega)), ret_bnd, ne_nilL (fun x hx => by
          obtain ⟨_, _, rfl⟩ := List.mem_map.mp hx
          exact sh_int 49 1), ret_bnd, any_filter]
        have hin : ((spansR r).any fun q => decide (ec q.1 ≤ pl y ∧ pl y < ec q.2)) = inR y r := by
          rw [Bool.eq_iff_iff, inR_iff gy, List.any_eq_true]
          simp only [decide_eq_true_iff]
          rfl
        rw [hin, neB]
        simp only [beq_self_eq_true, Bool.not_true, ret_bnd, Bool.false_eq_true, ↓reduceIte, getv, List.getElem?_cons_zero, List.getElem?_cons_succ, tru_f, bnd_bnd, seqK, law_is_in_eq (k + 5) gt (by omega) gy]
        have e4 : (bif inR y r then bif inR y t then Ly.ret (!meetR r t) else Ly.ret (inR y t) else Ly.ret (inR y r)) = Ly.ret false := by
          cases h1 : inR y r with
          | false => rfl
          | true =>
            cases h2 : inR y t with
            | false => rfl
            | true => rw [meetR_of gy h1 h2]; rfl
        rw [e4]
        simp only [ret_bnd, Bool.false_eq_true, ↓reduceIte, seqK]
      · obtain ⟨x5, x13, x14, x15, x16, rfl⟩ := hI
        have gn : GoodR 6 [[]] := ⟨by simp, fun p hp => by
          rw [List.mem_singleton.mp hp]
          exact ⟨by simp, fun c hc => by cases hc⟩⟩
        have en : D.tup [.tup []] = encR [[]] := rfl
        simp only [seqK, getv, List.getElem?_cons_zero, List.getElem?_cons_succ, ret_bnd, bnd_bnd, en, may_meet_eq (k + 2) gr6 gn, meetR_all gr]
        rw [ne_nilL (fun x hx => by
          obtain ⟨q, _, rfl⟩ := List.mem_map.mp hx
          exact sh_rowD false q), List.isEmpty_map, ret_bnd, eqB]
        have e5 : ((!(spansR r).isEmpty) == (!(spansR r).isEmpty)) = true := by simp
        rw [e5]
        exact fun S => rfl
end k85

/-! k85: law. -/
set_option linter.all false
set_option maxRecDepth 100000
namespace k85
open PySem PySem.Spec PyProof.Rows L2 Ly
theorem for_gen {body : D → Ly.Env → M Fl} (I : Ly.Env → Prop) : ∀ (items : List D) (ρ : Ly.Env), I ρ → (∀ x ∈ items, ∀ ρ, I ρ → Gen (body x ρ) fun o => ∃ ρ', o = .nx ρ' ∧ I ρ') → Gen (forLoop (guardM []) body items ρ) fun o => ∃ ρ', o = .nx ρ' ∧ I ρ'
  | [], ρ, h, _ => fun S hS => ⟨_, S, ⟨ρ, rfl, h⟩, hS.self, rfl⟩
  | x :: xs, ρ, h, hb => by
    show Gen (Ly.bnd (guardM []) (fun _ => Ly.bnd (body x ρ) fun o => match o with
      | .nx ρ' => forLoop (guardM []) body xs ρ'
      | .rt d => Ly.ret (.rt d))) _
    refine Gen.bnd (P := fun _ => True) (fun S hS => ⟨(), S, trivial, hS.self, rfl⟩) fun _ _ => Gen.bnd (hb x List.mem_cons_self ρ h) fun o ⟨ρ', ho, h'⟩ => ?_
    subst ho
    exact for_gen I xs ρ' h' fun y hy => hb y (List.mem_cons_of_mem _ hy)
theorem row_one {c : Cond} (g : GoodC c) : lowP [c] = los c ∧ highP [c] = his c := by
  have h1 := ec_in (los_good g)
  have h2 := ec_in (his_good g)
  have z : ec .lo = -1 := rfl
  constructor
  · show mxc ec (los c) [.lo] = _
    rw [mx1, if_neg (by omega)]
  · show mnc ec (his c) [.hi] = _
    rw [mn1, if_neg (by omega)]
theorem sort2 (a b : En × En) (h : ec a.1 < ec b.1) : sortP ec [a, b] = [a, b] := by
  unfold sortP
  refine List.mergeSort_of_pairwise ?_
  simp only [List.pairwise_cons, List.mem_singleton, forall_eq, List.not_mem_nil, false_implies, implies_true, List.Pairwise.nil, and_true, ltP, Bool.not_eq_true', decide_eq_false_iff_not]
  omega
theorem sort1 (a : En × En) : sortP ec [a] = [a] := by
  unfold sortP; exact List.mergeSort_singleton _
def vz (f : Int) : Ver := ⟨f, 0, 0, []⟩
def vo (f : Int) : Ver := ⟨f, 0, 1, []⟩
theorem vz_good {f : Int} (h : 0 ≤ f ∧ f < 10000) : GoodV (vz f) := ⟨⟨h.1, show f ≤ 9999 by omega⟩, by simp [vz], by simp [vz], by simp [vz], fun w hw => by cases hw⟩
theorem vo_good {f : Int} (h : 0 ≤ f ∧ f < 10000) : GoodV (vo f) := ⟨⟨h.1, show f ≤ 9999 by omega⟩, by simp [vo], by simp [vo], by simp [vo], fun w hw => by cases hw⟩
theorem cond_good {s : Str} (hs : s ∈ kinds5) {v : Ver} (g : GoodV v) : GoodC ⟨s, v⟩ := by
  have hn : ∀ s ∈ kinds5, ¬ (s = "~" ∨ s = "^") := by
    refine each5 ?_ ?_ ?_ ?_ ?_ <;> decide
  refine ⟨?_, g, fun h => absurd h (hn s hs), fun h => absurd h (hn s hs)⟩
  have : ∀ s ∈ kinds5, s ∈ kinds7 := by
    refine each5 ?_ ?_ ?_ ?_ ?_ <;> simp [kinds7]
  exact this s hs
theorem span_a {f : Int} (h : 0 ≤ f ∧ f < 10000) : (spansR [[⟨"<", vz f⟩], [⟨">=", vz f⟩]]).length = 1 := by
  have g1 : GoodC ⟨"<", vz f⟩ := cond_good (by simp [kinds5]) (vz_good h)
  have g2 : GoodC ⟨">=", vz f⟩ := cond_good (by simp [kinds5]) (vz_good h)
  have z := c4_in (q4V (vz_good h))
  have e1 : los ⟨"<", vz f⟩ = .lo := rfl
  have e2 : his ⟨"<", vz f⟩ = .av (vz f) false := rfl
  have e3 : los ⟨">=", vz f⟩ = .av (vz f) false := rfl
  have e4 : his ⟨">=", vz f⟩ = .hi := rfl
  have c1 : ec .lo = -1 := rfl
  have c2 : ec (.av (vz f) false) = c4 (vz f).a (vz f).b (vz f).c (wsc (vz f).ws) * 8 + 2 + 0 := rfl
  have c3 : ec .hi = 1000000000000000000000000 := rfl
  have hr : rowsOf [[⟨"<", vz f⟩], [⟨">=", vz f⟩]] = [(.lo, .av (vz f) false), (.av (vz f) false, .hi)] := by
    unfold rowsOf rowOf
    rw [List.flatMap_cons, List.flatMap_cons, List.flatMap_nil, (row_one g1).1, (row_one g1).2, (row_one g2).1, (row_one g2).2, e1, e2, e3, e4, if_pos (by omega), if_pos (by omega)]
    rfl
  unfold spansR spans
  rw [hr, sort2 _ _ (by dsimp only; omega)]
  show (mergeR ec _ [_]).length = 1
  unfold mergeR
  rw [if_pos (by dsimp only; omega)]
  rfl
theorem span_b {f : Int} (h : 0 ≤ f ∧ f < 10000) : (spansR [[⟨"<", vz f⟩], [⟨">", vz f⟩]]).length = 2 := by
  have g1 : GoodC ⟨"<", vz f⟩ := cond_good (by simp [kinds5]) (vz_good h)
  have g2 : GoodC ⟨">", vz f⟩ := cond_good (by simp [kinds5]) (vz_good h)
  have z := c4_in (q4V (vz_good h))
  have e1 : los ⟨"<", vz f⟩ = .lo := rfl
  have e2 : his ⟨"<", vz f⟩ = .av (vz f) false := rfl
  have e3 : los ⟨">", vz f⟩ = .av (vz f) true := rfl
  have e4 : his ⟨">", vz f⟩ = .hi := rfl
  have c1 : ec .lo = -1 := rfl
  have c2 : ec (.av (vz f) false) = c4 (vz f).a (vz f).b (vz f).c (wsc (vz f).ws) * 8 + 2 + 0 := rfl
  have c4 : ec (.av (vz f) true) = c4 (vz f).a (vz f).b (vz f).c (wsc (vz f).ws) * 8 + 2 + 1 := rfl
  have c3 : ec .hi = 1000000000000000000000000 := rfl
  have hr : rowsOf [[⟨"<", vz f⟩], [⟨">", vz f⟩]] = [(.lo, .av (vz f) false), (.av (vz f) true, .hi)] := by
    unfold rowsOf rowOf
    rw [List.flatMap_cons, List.flatMap_cons, List.flatMap_nil, (row_one g1).1, (row_one g1).2, (row_one g2).1, (row_one g2).2, e1, e2, e3, e4, if_pos (by omega), if_pos (by omega)]
    rfl
  unfold spansR spans
  rw [hr, sort2 _ _ (by dsimp only; omega)]
  show (mergeR ec _ [_]).length = 2
  unfold mergeR
  rw [if_neg (by dsimp only; omega)]
  rfl
theorem span_c {f : Int} (h : 0 ≤ f ∧ f < 10000) : meetR [[⟨"<", vz f⟩]] [[⟨">=", vz f⟩]] = false := by
  have g1 : GoodC ⟨"<", vz f⟩ := cond_good (by simp [kinds5]) (vz_good h)
  have g2 : GoodC ⟨">=", vz f⟩ := cond_good (by simp [kinds5]) (vz_good h)
  have z := c4_in (q4V (vz_good h))
  have e1 : los ⟨"<", vz f⟩ = .lo := rfl
  have e2 : his ⟨"<", vz f⟩ = .av (vz f) false := rfl
  have e3 : los ⟨">=", vz f⟩ = .av (vz f) false := rfl
  have e4 : his ⟨">=", vz f⟩ = .hi := rfl
  have c1 : ec .lo = -1 := rfl
  have c2 : ec (.av (vz f) false) = c4 (vz f).a (vz f).b (vz f).c (wsc (vz f).ws) * 8 + 2 + 0 := rfl
  have c3 : ec .hi = 1000000000000000000000000 := rfl
  have hr : rowsOf [[⟨"<", vz f⟩]] = [(.lo, .av (vz f) false)] := by
    unfold rowsOf rowOf
    rw [List.flatMap_cons, List.flatMap_nil, (row_one g1).1, (row_one g1).2, e1, e2, if_pos (by omega)]
    rfl
  have hs : rowsOf [[⟨">=", vz f⟩]] = [(.av (vz f) false, .hi)] := by
    unfold rowsOf rowOf
    rw [List.flatMap_cons, List.flatMap_nil, (row_one g2).1, (row_one g2).2, e3, e4, if_pos (by omega)]
    rfl
  unfold meetR spansR spans
  rw [hr, hs, sort1, sort1]
  show ((crossB (.lo, .av (vz f) false) (.av (vz f) false, .hi) || false) || false) = false
  rw [Bool.or_false, Bool.or_false, ← Bool.not_eq_true, cross_iff]
  dsimp only
  omega
theorem span_d {f : Int} (h : 0 ≤ f ∧ f < 10000) : (spansR [[⟨">", vo f⟩, ⟨"<", vz f⟩]]).length = 0 := by
  have z := c4_in (q4V (vz_good h))
  have z2 := c4_in (q4V (vo_good h))
  have hlt := (c4_cmp (q4V (vz_good h)) (q4V (vo_good h))).1.mpr (.inr ⟨rfl, .inr ⟨rfl, .inl (show (0 : Int) < 1 by omega)⟩⟩)
  have c1 : ec .lo = -1 := rfl
  have c2 : ec (.av (vz f) false) = c4 (vz f).a (vz f).b (vz f).c (wsc (vz f).ws) * 8 + 2 + 0 := rfl
  have c4 : ec (.av (vo f) true) = c4 (vo f).a (vo f).b (vo f).c (wsc (vo f).ws) * 8 + 2 + 1 := rfl
  have c3 : ec .hi = 1000000000000000000000000 := rfl
  have h1 : ¬ ec (lowP [⟨">", vo f⟩, ⟨"<", vz f⟩]) < ec (highP [⟨">", vo f⟩, ⟨"<", vz f⟩]) := by
    have a1 : ec (.av (vo f) true) ≤ ec (lowP [⟨">", vo f⟩, ⟨"<", vz f⟩]) := ((mxL_le _ (endsP_ne _).1).mp (Int.le_refl _)) _ (by simp only [endsP, List.map_append, List.map_cons, List.map_nil]; exact List.mem_cons_self)
    have a2 : ¬ ec (.av (vz f) false) < ec (highP [⟨">", vo f⟩, ⟨"<", vz f⟩]) := fun hh => by
      have := ((lt_mnL _ (endsP_ne _).2).mp hh) (.av (vz f) false) (by simp only [endsP, List.map_append, List.map_cons, List.map_nil]; exact List.mem_cons_of_mem _ List.mem_cons_self)
      omega
    omega
  have hr : rowsOf [[⟨">", vo f⟩, ⟨"<", vz f⟩]] = [] := by
    unfold rowsOf rowOf
    rw [List.flatMap_cons, List.flatMap_nil, if_neg h1]; rfl
  unfold spansR spans
  rw [hr]
  have : sortP ec ([] : List (En × En)) = [] := by unfold sortP; exact List.mergeSort_nil
  rw [this]; rfl
theorem inR_h : inR ⟨1, 5, 0, []⟩ [[⟨"^", ⟨1, 0, 0, []⟩⟩]] = true := by decide +kernel
theorem inR_t : inR ⟨1, 5, 0, []⟩ [[⟨"~", ⟨1, 0, 0, []⟩⟩]] = false := by decide +kernel
theorem g_lone {s : Str} (hs : s ∈ kinds7) : GoodR 6 [[⟨s, ⟨1, 0, 0, []⟩⟩]] := ⟨by simp, fun p hp => by
  rw [List.mem_singleton.mp hp]
  exact ⟨by simp, fun c hc => by
    rw [List.mem_singleton.mp hc]
    exact ⟨hs, ⟨by simp, by simp, by simp, by simp, fun w hw => by cases hw⟩, fun _ => rfl, fun _ => (by simp : (1 : Int) ≤ 3)⟩⟩⟩
theorem g_150 : GoodV ⟨1, 5, 0, []⟩ := ⟨by simp, by simp, by simp, by simp, fun w hw => by cases hw⟩
def rowsW : List (List Str) := [["0"], ["2"], ["2", "a"], ["10"], ["01a"], ["a"], ["a", "0"], ["a", "b"], ["aa"], []]
def v12 (f : Int) (ws : List Str) : Ver := ⟨f, 1, 2, ws⟩
theorem rowsW_ok : ∀ ws ∈ rowsW, ws.length ≤ 2 ∧ ∀ w ∈ ws, w ∈ words10 := by decide +kernel
theorem v12_good {f : Int} (h : 0 ≤ f ∧ f < 10000) {ws : List Str} (hw : ws ∈ rowsW) : GoodV (v12 f ws) := ⟨⟨h.1, show f ≤ 9999 by omega⟩, by simp [v12], by simp [v12], rowsW_ok ws hw⟩
theorem v12_lt (f : Int) (ws us : List Str) : decide (vcode (v12 f ws) < vcode (v12 f us)) = decide (wsc ws < wsc us) := by
  have : vcode (v12 f ws) < vcode (v12 f us) ↔ wsc ws < wsc us := by
    show ((f * 20000 + 1) * 20000 + 2) * 2000 + wsc ws < ((f * 20000 + 1) * 20000 + 2) * 2000 + wsc us ↔ _
    omega
  rw [Bool.eq_iff_iff, decide_eq_true_iff, decide_eq_true_iff]; exact this
theorem good_two {f : Int} (h : 0 ≤ f ∧ f < 10000) {s t : Str} (hs : s ∈ kinds5) (ht : t ∈ kinds5) : GoodR 6 [[⟨s, vz f⟩], [⟨t, vz f⟩]] := ⟨by simp, fun p hp => by
  simp only [List.mem_cons, List.mem_nil_iff, or_false] at hp
  rcases hp with rfl | rfl
  · exact ⟨by simp, fun c hc => by rw [List.mem_singleton.mp hc]; exact cond_good hs (vz_good h)⟩
  · exact ⟨by simp, fun c hc => by rw [List.mem_singleton.mp hc]; exact cond_good ht (vz_good h)⟩⟩
theorem good_one {f : Int} (h : 0 ≤ f ∧ f < 10000) {s : Str} (hs : s ∈ kinds5) : GoodR 6 [[⟨s, vz f⟩]] := ⟨by simp, fun p hp => by
  rw [List.mem_singleton.mp hp]
  exact ⟨by simp, fun c hc => by rw [List.mem_singleton.mp hc]; exact cond_good hs (vz_good h)⟩⟩
theorem good_hl {f : Int} (h : 0 ≤ f ∧ f < 10000) : GoodR 6 [[⟨">", vo f⟩, ⟨"<", vz f⟩]] := ⟨by simp, fun p hp => by
  rw [List.mem_singleton.mp hp]
  refine ⟨by simp, fun c hc => ?_⟩
  simp only [List.mem_cons, List.mem_nil_iff, or_false] at hc
  rcases hc with rfl | rfl
  · exact cond_good (by simp [kinds5]) (vo_good h)
  · exact cond_good (by simp [kinds5]) (vz_good h)⟩
def wD (ws : List Str) : D := .tup (ws.map .str)
theorem rowsW_D : [D.tup [.str (Str.ofString "0")], .tup [.str (Str.ofString "2")], .tup [.str (Str.ofString "2"), .str (Str.ofString "a")], .tup [.str (Str.ofString "10")], .tup [.str (Str.ofString "01a")], .tup [.str (Str.ofString "a")], .tup [.str (Str.ofString "a"), .str (Str.ofString "0")], .tup [.str (Str.ofString "a"), .str (Str.ofString "b")], .tup [.str (Str.ofString "aa")], .tup []] = rowsW.map wD := (rfl)
theorem rowsW_len : rowsW.length = 10 := rfl
def ltRow (i : Nat) : D := .lst (rowsW.map fun us => .bl (decide (wsc (rowsW[i]!) < wsc us)))
/-- what the text expects at i -/
def expM (i : Nat) : M Bool := bnd (bnd (binB false .Mult (.lst [.bl false]) (.int (0 + (i : Int) + 1))) fun x => bnd (binB false .Mult (.lst [.bl true]) (.int (10 - (0 + (i : Int)) - 1))) fun y => binB false .Add x y) fun y => cmpM .NotEq (ltRow i) y
theorem exp_ok : ∀ i < 10, expM i = Ly.ret false := fun i hi => by
  match i, hi with
  | 0, _ => funext S; kernel_rfl
  | 1, _ => funext S; kernel_rfl
  | 2, _ => funext S; kernel_rfl
  | 3, _ => funext S; kernel_rfl
  | 4, _ => funext S; kernel_rfl
  | 5, _ => funext S; kernel_rfl
  | 6, _ => funext S; kernel_rfl
  | 7, _ => funext S; kernel_rfl
  | 8, _ => funext S; kernel_rfl
  | 9, _ => funext S; kernel_rfl
  | i + 10, h => exact absurd h (by omega)
theorem asg910' (d d' : D) (a0 a1 a2 a3 a4 a5 a6 a7 a8 a9 a10 a11 a12 : Option D) : asgG (Tg.tp [Tg.ix 9, Tg.ix 10]) (D.tup [d, d']) [a0, a1, a2, a3, a4, a5, a6, a7, a8, a9, a10, a11, a12] = Ly.ret (Fl.nx [a0, a1, a2, a3, a4, a5, a6, a7, a8, some d, some d', a11, a12]) := (rfl)
theorem four_same (k : Nat) : callF gl 10000 (k + 2) false "_law_same" [.tup [.int 1, .int 2, .bl false, .int 0], .tup [.int 1, .int 2, .bl false, .int 0]] = Ly.ret (.bl true) :=
  same_tup (k + 1) 4 _ _ rfl rfl ⟨_, rfl⟩ ⟨_, rfl⟩ rfl rfl (by omega) fun i x y hx hy => by
    match i, hx, hy with
    | 0, hx, hy => cases hx; cases hy; rw [same_int]; rfl
    | 1, hx, hy => cases hx; cases hy; rw [same_int]; rfl
    | 2, hx, hy => cases hx; cases hy; rw [same_bl]; rfl
    | 3, hx, hy => cases hx; cases hy; rw [same_int]; rfl
    | i + 4, hx, hy => simp at hx
theorem law_ok : Ly.LawOk gl 10000 40 63 "law" := fun ns hns => by
  show ∃ S', callF gl 10000 (39 + 1) false "law" [.set (ns.map .int)] [] = _
  rw [e_law]
  obtain ⟨c0, c1, hcup⟩ := cup_ok 38 ns (by omega)
  have run : ∃ S1, s_law (callF gl 10000 39) (.set (ns.map .int)) 0 [] = .ok (.rt (.bl true)) S1 := by
    unfold s_law
    simp only [getv, List.getElem?_cons_zero, List.getElem?_cons_succ, ret_bnd, bnd_bnd]
    rw [bnd_at hcup]
    simp only [List.set_cons_succ, List.set_cons_zero, seqK, getv, List.getElem?_cons_zero, List.getElem?_cons_succ, ret_bnd, bnd_bnd]
    rw [rng1 10 (by omega) (by omega)]
    simp only [ret_bnd]
    suffices h : ∀ m : M Fl, Gen m (fun f => f = .rt (.bl true)) → ∃ S1, m [.lst [.int c0, .int c1]] = .ok (.rt (.bl true)) S1 by
      refine h _ ?_
      refine Gen.bnd (for_gen (fun ρ => ∃ x2, ρ = [some (.set (ns.map .int)), some (.ref 0), x2, none, none, none, none, none, none, none, none, none, none]) _ _ ⟨_, rfl⟩ fun x hx ρ hI => ?_) fun o ⟨ρ', ho, x2, hρ⟩ => ?_
      · obtain ⟨x2, rfl⟩ := hI
        simp only [List.set_cons_succ, List.set_cons_zero, getv, List.getElem?_cons_zero, List.getElem?_cons_succ, ret_bnd, bnd_bnd]
        refine Gen.bnd (right_gen 30) fun d hd => ?_
        subst hd
        simp only [tru_bl, ret_bnd, Bool.not_true, Bool.false_eq_true, ↓reduceIte, seqK]
        exact Gen.ret ⟨_, rfl, _, rfl⟩
      · subst ho hρ
        have en1 : D.tup [.tup [.tup [.str "^", .tup [.int 1, .int 0, .int 0, .tup []]]]] = encR [[⟨"^", ⟨1, 0, 0, []⟩⟩]] := rfl
        have en2 : D.tup [.tup [.tup [.str "~", .tup [.int 1, .int 0, .int 0, .tup []]]]] = encR [[⟨"~", ⟨1, 0, 0, []⟩⟩]] := rfl
        have en3 : D.tup [.int 1, .int 5, .int 0, .tup []] = encV ⟨1, 5, 0, []⟩ := rfl
        simp only [seqK, List.set_cons_succ, List.set_cons_zero, getv, List.getElem?_cons_zero, List.getElem?_cons_succ, ret_bnd, bnd_bnd, en1, en2, en3]
        rw [is_in_eq 33 (g_lone (by simp [kinds7])) g_150, inR_h]
        simp only [ret_bnd]
        rw [is_in_eq 33 (g_lone (by simp [kinds7])) g_150, inR_t]
        have ne2 : cmpM .NotEq (.tup [.bl true, .bl false]) (.tup [.bl true, .bl false]) = Ly.ret false := by funext S; rfl
        simp only [ret_bnd, ne2, Bool.false_eq_true, ↓reduceIte, seqK, List.set_cons_succ, List.set_cons_zero, getv, List.getElem?_cons_zero, List.getElem?_cons_succ, bnd_bnd, fresh_f]
        refine Gen.bnd (roll_gen 38 10000 (by decide) (by decide)) fun d ⟨f, hd, h0, h1⟩ => ?_
        subst hd
        refine Val.gen (a := Fl.rt (.bl true)) ?_ rfl
        simp only [rowsW_D, items_lst, ret_bnd]
        rw [comp_map (g := fun ws => encV (v12 f ws)) fun ws hw => ?h1]
        case h1 => rfl
        rw [ret_bnd, if_pos (lineLe (by rw [List.length_map, rowsW_len]; omega)), ret_bnd]
        simp only [seqK, List.set_cons_succ, List.set_cons_zero, getv, List.getElem?_cons_zero, List.getElem?_cons_succ, ret_bnd, bnd_bnd, len_lst, List.length_map, rowsW_len, Int.cast_ofNat_Int]
        rw [rng1 10 (by omega) (by omega)]
        simp only [ret_bnd]
        have e0 : Ly.upTo 0 (10 : Int).toNat = (List.range 10).map fun i => D.int (0 + (i : Nat)) := by
          unfold Ly.upTo; rfl
        rw [e0]
        have hf : 0 ≤ f ∧ f < 10000 := ⟨h0, h1⟩
        refine for_val (fun i ρ => ∃ x7, ρ = [some (.set (ns.map .int)), some (.ref 0), x2, some (.tup [.int 1, .int 0, .int 0, .tup []]), some (.lst (rowsW.map wD)), some (.int f), some (.lst (rowsW.map fun ws => encV (v12 f ws))), x7, none, none, none, none, none]) ⟨_, rfl⟩ (fun j i ρ hj hI => ?_) fun ρ' hI => ?_
        · obtain ⟨x7, rfl⟩ := hI
          have hij : j < 10 ∧ i = j := by
            have := List.getElem?_eq_some_iff.mp hj
            obtain ⟨h1, h2⟩ := this
            rw [List.length_range] at h1
            rw [List.getElem_range] at h2
            exact ⟨h1, h2.symm⟩
          obtain ⟨hi, rfl⟩ := hij
          have hget : rowsW[i]? = some rowsW[i]! := by
            rw [List.getElem?_eq_getElem (by rw [rowsW_len]; exact hi)]
            simp [List.getElem!_eq_getElem?_getD, List.getElem?_eq_getElem (show i < rowsW.length by rw [rowsW_len]; exact hi)]
          have hmem : rowsW[i]! ∈ rowsW := List.mem_of_getElem? hget
          refine ⟨_, ⟨some (.int (0 + (i : Int))), rfl⟩, ?_⟩
          simp only [List.set_cons_succ, List.set_cons_zero, getv, List.getElem?_cons_zero, List.getElem?_cons_succ, ret_bnd, bnd_bnd, items_lst, Ly.wipe]
          rw [comp_map (g := fun us => .bl (decide (wsc (rowsW[i]!) < wsc us))) fun us hus => ?h2]
          case h2 =>
            have hat : L2.atI (rowsW.map fun ws => encV (v12 f ws)) (0 + (i : Int)) = some (encV (v12 f rowsW[i]!)) := atI_nat (by rw [List.getElem?_map, hget]; rfl)
            simp only [item_lst, hat, ofOp, ret_bnd, before_eq 35 (v12_good hf hmem) (v12_good hf hus), v12_lt]
          rw [ret_bnd, if_pos (lineLe (by rw [List.length_map, rowsW_len]; omega)), ret_bnd]
          have hx := exp_ok i hi
          unfold expM ltRow at hx
          simp only [bnd_bnd] at hx
          simp only [addI, subI, ret_bnd, bnd_bnd, len_lst, List.length_map, rowsW_len, Int.cast_ofNat_Int]
          have key : ∀ K : Bool → M Fl, (bnd (binB false .Mult (.lst [.bl false]) (.int (0 + (i : Int) + 1))) fun x => bnd (binB false .Mult (.lst [.bl true]) (.int (10 - (0 + (i : Int)) - 1))) fun y => bnd (binB false .Add x y) fun z => bnd (cmpM .NotEq (.lst (rowsW.map fun us => .bl (decide (wsc rowsW[i]! < wsc us)))) z) K) = K false := fun K => by
            have := congrArg (fun m => bnd m K) hx
            simp only [bnd_bnd, ret_bnd] at this
            exact this
          refine (key _).trans ?_
          simp only [Bool.false_eq_true, ↓reduceIte, ret_bnd, seqK]
        · obtain ⟨x7, rfl⟩ := hI
          have l1 : ∀ f : Int, D.tup [.int f, .int 0, .int 0, .tup []] = encV (vz f) := fun f => rfl
          have l2 : ∀ f : Int, D.tup [.int f, .int 0, .int 1, .tup []] = encV (vo f) := fun f => rfl
          have m1 : ∀ s : Str, D.tup [.str s, encV (vz f)] = encC ⟨s, vz f⟩ := fun s => rfl
          have m2 : ∀ s : Str, D.tup [.str s, encV (vo f)] = encC ⟨s, vo f⟩ := fun s => rfl
          have n1 : ∀ c d : Cond, D.tup [.tup [encC c], .tup [encC d]] = encR [[c], [d]] := fun _ _ => rfl
          have n2 : ∀ c : Cond, D.tup [.tup [encC c]] = encR [[c]] := fun _ => rfl
          have n3 : ∀ c d : Cond, D.tup [.tup [encC c, encC d]] = encR [[c, d]] := fun _ _ => rfl
          simp only [seqK, List.set_cons_succ, List.set_cons_zero, getv, List.getElem?_cons_zero, List.getElem?_cons_succ, ret_bnd, bnd_bnd, l1, l2, asg910', m1, m2, n1, n2, n3]
          have q1 := count_spans_eq 33 (good_two hf (s := "<") (t := ">=") (by simp [kinds5]) (by simp [kinds5]))
          have q2 := count_spans_eq 33 (good_two hf (s := "<") (t := ">") (by simp [kinds5]) (by simp [kinds5]))
          have q3 := may_meet_eq 33 (good_one hf (s := "<") (by simp [kinds5])) (good_one hf (s := ">=") (by simp [kinds5]))
          have q4 := count_spans_eq 33 (good_hl hf)
          rw [span_a hf] at q1
          rw [span_b hf] at q2
          rw [span_c hf] at q3
          rw [span_d hf] at q4
          simp only [q1, q2, q3, q4, ret_bnd]
          have hs := four_same 37
          simp only [Int.cast_ofNat_Int] at hs ⊢
          rw [hs]
          exact fun S => rfl
    intro m hm
    obtain ⟨a, S', rfl, _, e⟩ := hm [.lst [.int c0, .int c1]] ⟨c0, c1, rfl⟩
    exact ⟨S', e⟩
  obtain ⟨S1, h⟩ := run
  have h' : s_law (callF gl 10000 39) (.set (ns.map .int)) ([] : Sto).length [] = .ok (.rt (.bl true)) S1 := h
  exact ⟨_, runF_data h' rfl⟩
end k85

namespace k85
open PySem PySem.Spec PyProof.Rows L2 Ly
set_option maxRecDepth 100000
set_option maxHeartbeats 4000000
theorem fnScope_0 : L2.FnScope [("value" : Str), ("low" : Str), ("high" : Str)] [("value" : Str), ("low" : Str), ("high" : Str)] (C8.fnScope (topS 7)) := C8.fnScope_by (by decide +kernel)
theorem fnScope_1 : L2.FnScope [("value" : Str), ("low" : Str), ("high" : Str)] [("value" : Str), ("low" : Str), ("high" : Str)] (C8.fnScope (topS 8)) := C8.fnScope_by (by decide +kernel)
theorem fnScope_2 : L2.FnScope [("value" : Str), ("sign" : Str)] [("value" : Str)] (C8.fnScope (topS 16)) := C8.fnScope_by (by decide +kernel)
theorem fnScope_3 : L2.FnScope [("value" : Str), ("one" : Str)] [("value" : Str)] (C8.fnScope (topS 17)) := C8.fnScope_by (by decide +kernel)
theorem fnScope_4 : L2.FnScope [("value" : Str)] [("value" : Str)] (C8.fnScope (topS 18)) := C8.fnScope_by (by decide +kernel)
theorem fnScope_5 : L2.FnScope [("value" : Str), ("part" : Str), ("one" : Str)] [("value" : Str)] (C8.fnScope (topS 19)) := C8.fnScope_by (by decide +kernel)
theorem fnScope_6 : L2.FnScope [("version" : Str)] [("version" : Str)] (C8.fnScope (topS 20)) := C8.fnScope_by (by decide +kernel)
theorem fnScope_7 : L2.FnScope [("spread" : Str)] [("spread" : Str)] (C8.fnScope (topS 21)) := C8.fnScope_by (by decide +kernel)
theorem fnScope_8 : L2.FnScope [("version" : Str), ("words" : Str), ("word" : Str), ("sign" : Str)] [("version" : Str)] (C8.fnScope (topS 22)) := C8.fnScope_by (by decide +kernel)
theorem fnScope_9 : L2.FnScope [("condition" : Str), ("version" : Str), ("table" : Str), ("sign" : Str), ("due" : Str), ("size" : Str), ("one" : Str), ("other" : Str)] [("condition" : Str), ("version" : Str)] (C8.fnScope (topS 23)) := C8.fnScope_by (by decide +kernel)
theorem fnScope_10 : L2.FnScope [("spread" : Str), ("version" : Str), ("part" : Str), ("one" : Str)] [("spread" : Str), ("version" : Str)] (C8.fnScope (topS 24)) := C8.fnScope_by (by decide +kernel)
theorem fnScope_11 : L2.FnScope [("condition" : Str), ("rows" : Str), ("sign" : Str), ("version" : Str), ("low" : Str), ("high" : Str), ("rank" : Str), ("size" : Str)] [("condition" : Str)] (C8.fnScope (topS 25)) := C8.fnScope_by (by decide +kernel)
theorem fnScope_12 : L2.FnScope [("spread" : Str), ("rows" : Str), ("part" : Str), ("found" : Str), ("ends" : Str), ("low" : Str), ("high" : Str), ("one" : Str), ("other" : Str)] [("spread" : Str)] (C8.fnScope (topS 26)) := C8.fnScope_by (by decide +kernel)
theorem fnScope_13 : L2.FnScope [("one" : Str), ("other" : Str)] [("one" : Str), ("other" : Str)] (C8.fnScope (topS 27)) := C8.fnScope_by (by decide +kernel)
theorem fnScope_14 : L2.FnScope [("spread" : Str), ("version" : Str)] [("spread" : Str), ("version" : Str)] (C8.fnScope (topS 28)) := C8.fnScope_by (by decide +kernel)
theorem fnScope_15 : L2.FnScope [("one" : Str), ("other" : Str), ("low" : Str), ("high" : Str), ("least" : Str), ("most" : Str)] [("one" : Str), ("other" : Str)] (C8.fnScope (topS 29)) := C8.fnScope_by (by decide +kernel)
theorem fnScope_16 : L2.FnScope [("spread" : Str)] [("spread" : Str)] (C8.fnScope (topS 30)) := C8.fnScope_by (by decide +kernel)
theorem fnScope_17 : L2.FnScope [("script" : Str), ("cell" : Str)] [("script" : Str)] (C8.fnScope (topS 32)) := C8.fnScope_by (by decide +kernel)
theorem fnScope_18 : L2.FnScope [("cup" : Str), ("many" : Str), ("deep" : Str), ("found" : Str)] [("cup" : Str), ("many" : Str)] (C8.fnScope (topS 33)) := C8.fnScope_by (by decide +kernel)
theorem fnScope_19 : L2.FnScope [("told" : Str), ("due" : Str), ("at" : Str)] [("told" : Str), ("due" : Str)] (C8.fnScope (topS 34)) := C8.fnScope_by (by decide +kernel)
theorem fnScope_20 : L2.FnScope [("cup" : Str), ("things" : Str)] [("cup" : Str), ("things" : Str)] (C8.fnScope (topS 35)) := C8.fnScope_by (by decide +kernel)
theorem fnScope_21 : L2.FnScope [("cup" : Str), ("words" : Str), ("turn" : Str)] [("cup" : Str)] (C8.fnScope (topS 36)) := C8.fnScope_by (by decide +kernel)
theorem fnScope_22 : L2.FnScope [("cup" : Str), ("sign" : Str), ("version" : Str)] [("cup" : Str)] (C8.fnScope (topS 37)) := C8.fnScope_by (by decide +kernel)
theorem fnScope_23 : L2.FnScope [("cup" : Str), ("most" : Str), ("part" : Str), ("turn" : Str)] [("cup" : Str), ("most" : Str)] (C8.fnScope (topS 38)) := C8.fnScope_by (by decide +kernel)
theorem fnScope_24 : L2.FnScope [("version" : Str), ("words" : Str), ("word" : Str), ("is_digits" : Str), ("sign" : Str)] [("version" : Str)] (C8.fnScope (topS 39)) := C8.fnScope_by (by decide +kernel)
theorem fnScope_25 : L2.FnScope [("condition" : Str), ("version" : Str), ("sign" : Str), ("due" : Str), ("one" : Str), ("other" : Str)] [("condition" : Str), ("version" : Str)] (C8.fnScope (topS 40)) := C8.fnScope_by (by decide +kernel)
theorem fnScope_26 : L2.FnScope [("spread" : Str), ("version" : Str), ("part" : Str), ("one" : Str)] [("spread" : Str), ("version" : Str)] (C8.fnScope (topS 41)) := C8.fnScope_by (by decide +kernel)
theorem fnScope_27 : L2.FnScope [("condition" : Str), ("sign" : Str), ("version" : Str), ("low" : Str), ("high" : Str), ("key" : Str), ("ahead" : Str), ("behind" : Str)] [("condition" : Str)] (C8.fnScope (topS 42)) := C8.fnScope_by (by decide +kernel)
theorem fnScope_28 : L2.FnScope [("spread" : Str), ("part" : Str), ("rows" : Str), ("found" : Str), ("ends" : Str), ("low" : Str), ("high" : Str), ("one" : Str), ("other" : Str)] [("spread" : Str)] (C8.fnScope (topS 43)) := C8.fnScope_by (by decide +kernel)
theorem fnScope_29 : L2.FnScope [("cup" : Str), ("due" : Str), ("near" : Str), ("part" : Str), ("meets" : Str), ("version" : Str), ("one" : Str), ("other" : Str), ("third" : Str), ("spread" : Str), ("far" : Str), ("spans" : Str), ("mine" : Str), ("low" : Str), ("high" : Str), ("is_so" : Str), ("key" : Str), ("sign" : Str), ("least" : Str), ("most" : Str)] [("cup" : Str)] (C8.fnScope (topS 44)) := C8.fnScope_by (by decide +kernel)
theorem fnScope_30 : L2.FnScope [("script" : Str), ("cup" : Str), ("turn" : Str), ("lone" : Str), ("rows" : Str), ("first" : Str), ("versions" : Str), ("at" : Str), ("told" : Str), ("low" : Str), ("high" : Str), ("words" : Str), ("own" : Str)] [("script" : Str)] (C8.fnScope (topS 45)) := C8.fnScope_by (by decide +kernel)
theorem mod_ok {w : World} {K : PySem.W.Frag} {mg : Str → Option Value} {h : Heap} (X : K.In h) (G : h.Ns mainGlobals mg) {tv0 : Tok} {tv1 : Tok} {f0 : Addr} {od0 an0 : Option Addr} {oc0 kV0 dc0 pm0 cd0 ct0 : Value} {sl0 : Array (Option Value)} {f1 : Addr} {od1 an1 : Option Addr} {oc1 kV1 dc1 pm1 cd1 ct1 : Value} {sl1 : Array (Option Value)} {tv2 : Tok} {tv3 : Tok} {tv4 : Tok} {tv5 : Tok} {tv6 : Tok} {av7 : Addr} {odv7 : Option Addr} {nv7 : Nat} {slv7 : Array (Option Value)} {tv7_0 tv7_1 tv7_2 tv7_3 tv7_4 tv7_5 tv7_6 : Tok} {f2 : Addr} {od2 an2 : Option Addr} {oc2 kV2 dc2 pm2 cd2 ct2 : Value} {sl2 : Array (Option Value)} {f3 : Addr} {od3 an3 : Option Addr} {oc3 kV3 dc3 pm3 cd3 ct3 : Value} {sl3 : Array (Option Value)} {f4 : Addr} {od4 an4 : Option Addr} {oc4 kV4 dc4 pm4 cd4 ct4 : Value} {sl4 : Array (Option Value)} {f5 : Addr} {od5 an5 : Option Addr} {oc5 kV5 dc5 pm5 cd5 ct5 : Value} {sl5 : Array (Option Value)} {f6 : Addr} {od6 an6 : Option Addr} {oc6 kV6 dc6 pm6 cd6 ct6 : Value} {sl6 : Array (Option Value)} {f7 : Addr} {od7 an7 : Option Addr} {oc7 kV7 dc7 pm7 cd7 ct7 : Value} {sl7 : Array (Option Value)} {f8 : Addr} {od8 an8 : Option Addr} {oc8 kV8 dc8 pm8 cd8 ct8 : Value} {sl8 : Array (Option Value)} {f9 : Addr} {od9 an9 : Option Addr} {oc9 kV9 dc9 pm9 cd9 ct9 : Value} {sl9 : Array (Option Value)} {f10 : Addr} {od10 an10 : Option Addr} {oc10 kV10 dc10 pm10 cd10 ct10 : Value} {sl10 : Array (Option Value)} {f11 : Addr} {od11 an11 : Option Addr} {oc11 kV11 dc11 pm11 cd11 ct11 : Value} {sl11 : Array (Option Value)} {f12 : Addr} {od12 an12 : Option Addr} {oc12 kV12 dc12 pm12 cd12 ct12 : Value} {sl12 : Array (Option Value)} {f13 : Addr} {od13 an13 : Option Addr} {oc13 kV13 dc13 pm13 cd13 ct13 : Value} {sl13 : Array (Option Value)} {f14 : Addr} {od14 an14 : Option Addr} {oc14 kV14 dc14 pm14 cd14 ct14 : Value} {sl14 : Array (Option Value)} {f15 : Addr} {od15 an15 : Option Addr} {oc15 kV15 dc15 pm15 cd15 ct15 : Value} {sl15 : Array (Option Value)} {f16 : Addr} {od16 an16 : Option Addr} {oc16 kV16 dc16 pm16 cd16 ct16 : Value} {sl16 : Array (Option Value)} {f17 : Addr} {od17 an17 : Option Addr} {oc17 kV17 dc17 pm17 cd17 ct17 : Value} {sl17 : Array (Option Value)} {f18 : Addr} {od18 an18 : Option Addr} {oc18 kV18 dc18 pm18 cd18 ct18 : Value} {sl18 : Array (Option Value)} {f19 : Addr} {od19 an19 : Option Addr} {oc19 kV19 dc19 pm19 cd19 ct19 : Value} {sl19 : Array (Option Value)} {f20 : Addr} {od20 an20 : Option Addr} {oc20 kV20 dc20 pm20 cd20 ct20 : Value} {sl20 : Array (Option Value)} {f21 : Addr} {od21 an21 : Option Addr} {oc21 kV21 dc21 pm21 cd21 ct21 : Value} {sl21 : Array (Option Value)} {f22 : Addr} {od22 an22 : Option Addr} {oc22 kV22 dc22 pm22 cd22 ct22 : Value} {sl22 : Array (Option Value)} {f23 : Addr} {od23 an23 : Option Addr} {oc23 kV23 dc23 pm23 cd23 ct23 : Value} {sl23 : Array (Option Value)} {f24 : Addr} {od24 an24 : Option Addr} {oc24 kV24 dc24 pm24 cd24 ct24 : Value} {sl24 : Array (Option Value)} {f25 : Addr} {od25 an25 : Option Addr} {oc25 kV25 dc25 pm25 cd25 ct25 : Value} {sl25 : Array (Option Value)} {f26 : Addr} {od26 an26 : Option Addr} {oc26 kV26 dc26 pm26 cd26 ct26 : Value} {sl26 : Array (Option Value)} {f27 : Addr} {od27 an27 : Option Addr} {oc27 kV27 dc27 pm27 cd27 ct27 : Value} {sl27 : Array (Option Value)} {f28 : Addr} {od28 an28 : Option Addr} {oc28 kV28 dc28 pm28 cd28 ct28 : Value} {sl28 : Array (Option Value)} {f29 : Addr} {od29 an29 : Option Addr} {oc29 kV29 dc29 pm29 cd29 ct29 : Value} {sl29 : Array (Option Value)} {f30 : Addr} {od30 an30 : Option Addr} {oc30 kV30 dc30 pm30 cd30 ct30 : Value} {sl30 : Array (Option Value)}
    (v0 : PySem.W.nsIn K mainGlobals ("LETTERS" : Str) = some (some (.str ("abcdefghijklmnopqrstuvwxyz" : Str) tv0)))
    (v1 : PySem.W.nsIn K mainGlobals ("DIGITS" : Str) = some (some (.str ("0123456789" : Str) tv1)))
    (a0 : PySem.W.nsIn K mainGlobals ("is_whole" : Str) = some (some (.ref f0))) (l0 : K.lookup f0 = some ⟨oc0, od0, .func (PySem.W.fnOf ("is_whole" : Str) ("is_whole" : Str) (C8.fnArgs (topS 7)) (C8.fnBody (topS 7)) (C8.fnScope (topS 7)) .none kV0 dc0 pm0 an0 cd0 ct0), sl0⟩) (c0 : PySem.W.codeIn K cd0 ("is_whole" : Str) = true) (k0 : PySem.W.keepIn K (.ref f0) = true)
    (a1 : PySem.W.nsIn K mainGlobals ("is_tuple_of" : Str) = some (some (.ref f1))) (l1 : K.lookup f1 = some ⟨oc1, od1, .func (PySem.W.fnOf ("is_tuple_of" : Str) ("is_tuple_of" : Str) (C8.fnArgs (topS 8)) (C8.fnBody (topS 8)) (C8.fnScope (topS 8)) .none kV1 dc1 pm1 an1 cd1 ct1), sl1⟩) (c1 : PySem.W.codeIn K cd1 ("is_tuple_of" : Str) = true) (k1 : PySem.W.keepIn K (.ref f1) = true)
    (v2 : PySem.W.nsIn K mainGlobals ("NUMBER" : Str) = some (some (.int (9999) tv2)))
    (v3 : PySem.W.nsIn K mainGlobals ("WORDS" : Str) = some (some (.int (3) tv3)))
    (v4 : PySem.W.nsIn K mainGlobals ("WORD" : Str) = some (some (.int (8) tv4)))
    (v5 : PySem.W.nsIn K mainGlobals ("PARTS" : Str) = some (some (.int (6) tv5)))
    (v6 : PySem.W.nsIn K mainGlobals ("CONDITIONS" : Str) = some (some (.int (4) tv6)))
    (v7 : PySem.W.nsIn K mainGlobals ("KINDS" : Str) = some (some (.ref av7))) (lv7 : K.lookup av7 = some ⟨.type "tuple", odv7, .seq (List.toArray [.str (">=" : Str) tv7_0, .str (">" : Str) tv7_1, .str ("<=" : Str) tv7_2, .str ("<" : Str) tv7_3, .str ("=" : Str) tv7_4, .str ("~" : Str) tv7_5, .str ("^" : Str) tv7_6]) nv7, slv7⟩)
    (a2 : PySem.W.nsIn K mainGlobals ("fits_word" : Str) = some (some (.ref f2))) (l2 : K.lookup f2 = some ⟨oc2, od2, .func (PySem.W.fnOf ("fits_word" : Str) ("fits_word" : Str) (C8.fnArgs (topS 16)) (C8.fnBody (topS 16)) (C8.fnScope (topS 16)) .none kV2 dc2 pm2 an2 cd2 ct2), sl2⟩) (c2 : PySem.W.codeIn K cd2 ("fits_word" : Str) = true) (k2 : PySem.W.keepIn K (.ref f2) = true)
    (a3 : PySem.W.nsIn K mainGlobals ("fits_version" : Str) = some (some (.ref f3))) (l3 : K.lookup f3 = some ⟨oc3, od3, .func (PySem.W.fnOf ("fits_version" : Str) ("fits_version" : Str) (C8.fnArgs (topS 17)) (C8.fnBody (topS 17)) (C8.fnScope (topS 17)) .none kV3 dc3 pm3 an3 cd3 ct3), sl3⟩) (c3 : PySem.W.codeIn K cd3 ("fits_version" : Str) = true) (k3 : PySem.W.keepIn K (.ref f3) = true)
    (a4 : PySem.W.nsIn K mainGlobals ("fits_condition" : Str) = some (some (.ref f4))) (l4 : K.lookup f4 = some ⟨oc4, od4, .func (PySem.W.fnOf ("fits_condition" : Str) ("fits_condition" : Str) (C8.fnArgs (topS 18)) (C8.fnBody (topS 18)) (C8.fnScope (topS 18)) .none kV4 dc4 pm4 an4 cd4 ct4), sl4⟩) (c4 : PySem.W.codeIn K cd4 ("fits_condition" : Str) = true) (k4 : PySem.W.keepIn K (.ref f4) = true)
    (a5 : PySem.W.nsIn K mainGlobals ("fits_range" : Str) = some (some (.ref f5))) (l5 : K.lookup f5 = some ⟨oc5, od5, .func (PySem.W.fnOf ("fits_range" : Str) ("fits_range" : Str) (C8.fnArgs (topS 19)) (C8.fnBody (topS 19)) (C8.fnScope (topS 19)) .none kV5 dc5 pm5 an5 cd5 ct5), sl5⟩) (c5 : PySem.W.codeIn K cd5 ("fits_range" : Str) = true) (k5 : PySem.W.keepIn K (.ref f5) = true)
    (a6 : PySem.W.nsIn K mainGlobals ("need_version" : Str) = some (some (.ref f6))) (l6 : K.lookup f6 = some ⟨oc6, od6, .func (PySem.W.fnOf ("need_version" : Str) ("need_version" : Str) (C8.fnArgs (topS 20)) (C8.fnBody (topS 20)) (C8.fnScope (topS 20)) .none kV6 dc6 pm6 an6 cd6 ct6), sl6⟩) (c6 : PySem.W.codeIn K cd6 ("need_version" : Str) = true) (k6 : PySem.W.keepIn K (.ref f6) = true)
    (a7 : PySem.W.nsIn K mainGlobals ("need_range" : Str) = some (some (.ref f7))) (l7 : K.lookup f7 = some ⟨oc7, od7, .func (PySem.W.fnOf ("need_range" : Str) ("need_range" : Str) (C8.fnArgs (topS 21)) (C8.fnBody (topS 21)) (C8.fnScope (topS 21)) .none kV7 dc7 pm7 an7 cd7 ct7), sl7⟩) (c7 : PySem.W.codeIn K cd7 ("need_range" : Str) = true) (k7 : PySem.W.keepIn K (.ref f7) = true)
    (a8 : PySem.W.nsIn K mainGlobals ("rank_of" : Str) = some (some (.ref f8))) (l8 : K.lookup f8 = some ⟨oc8, od8, .func (PySem.W.fnOf ("rank_of" : Str) ("rank_of" : Str) (C8.fnArgs (topS 22)) (C8.fnBody (topS 22)) (C8.fnScope (topS 22)) .none kV8 dc8 pm8 an8 cd8 ct8), sl8⟩) (c8 : PySem.W.codeIn K cd8 ("rank_of" : Str) = true) (k8 : PySem.W.keepIn K (.ref f8) = true)
    (a9 : PySem.W.nsIn K mainGlobals ("holds" : Str) = some (some (.ref f9))) (l9 : K.lookup f9 = some ⟨oc9, od9, .func (PySem.W.fnOf ("holds" : Str) ("holds" : Str) (C8.fnArgs (topS 23)) (C8.fnBody (topS 23)) (C8.fnScope (topS 23)) .none kV9 dc9 pm9 an9 cd9 ct9), sl9⟩) (c9 : PySem.W.codeIn K cd9 ("holds" : Str) = true) (k9 : PySem.W.keepIn K (.ref f9) = true)
    (a10 : PySem.W.nsIn K mainGlobals ("fits_in" : Str) = some (some (.ref f10))) (l10 : K.lookup f10 = some ⟨oc10, od10, .func (PySem.W.fnOf ("fits_in" : Str) ("fits_in" : Str) (C8.fnArgs (topS 24)) (C8.fnBody (topS 24)) (C8.fnScope (topS 24)) .none kV10 dc10 pm10 an10 cd10 ct10), sl10⟩) (c10 : PySem.W.codeIn K cd10 ("fits_in" : Str) = true) (k10 : PySem.W.keepIn K (.ref f10) = true)
    (a11 : PySem.W.nsIn K mainGlobals ("ends_of" : Str) = some (some (.ref f11))) (l11 : K.lookup f11 = some ⟨oc11, od11, .func (PySem.W.fnOf ("ends_of" : Str) ("ends_of" : Str) (C8.fnArgs (topS 25)) (C8.fnBody (topS 25)) (C8.fnScope (topS 25)) .none kV11 dc11 pm11 an11 cd11 ct11), sl11⟩) (c11 : PySem.W.codeIn K cd11 ("ends_of" : Str) = true) (k11 : PySem.W.keepIn K (.ref f11) = true)
    (a12 : PySem.W.nsIn K mainGlobals ("spans_in" : Str) = some (some (.ref f12))) (l12 : K.lookup f12 = some ⟨oc12, od12, .func (PySem.W.fnOf ("spans_in" : Str) ("spans_in" : Str) (C8.fnArgs (topS 26)) (C8.fnBody (topS 26)) (C8.fnScope (topS 26)) .none kV12 dc12 pm12 an12 cd12 ct12), sl12⟩) (c12 : PySem.W.codeIn K cd12 ("spans_in" : Str) = true) (k12 : PySem.W.keepIn K (.ref f12) = true)
    (a13 : PySem.W.nsIn K mainGlobals ("is_before" : Str) = some (some (.ref f13))) (l13 : K.lookup f13 = some ⟨oc13, od13, .func (PySem.W.fnOf ("is_before" : Str) ("is_before" : Str) (C8.fnArgs (topS 27)) (C8.fnBody (topS 27)) (C8.fnScope (topS 27)) .none kV13 dc13 pm13 an13 cd13 ct13), sl13⟩) (c13 : PySem.W.codeIn K cd13 ("is_before" : Str) = true) (k13 : PySem.W.keepIn K (.ref f13) = true)
    (a14 : PySem.W.nsIn K mainGlobals ("is_in" : Str) = some (some (.ref f14))) (l14 : K.lookup f14 = some ⟨oc14, od14, .func (PySem.W.fnOf ("is_in" : Str) ("is_in" : Str) (C8.fnArgs (topS 28)) (C8.fnBody (topS 28)) (C8.fnScope (topS 28)) .none kV14 dc14 pm14 an14 cd14 ct14), sl14⟩) (c14 : PySem.W.codeIn K cd14 ("is_in" : Str) = true) (k14 : PySem.W.keepIn K (.ref f14) = true)
    (a15 : PySem.W.nsIn K mainGlobals ("may_meet" : Str) = some (some (.ref f15))) (l15 : K.lookup f15 = some ⟨oc15, od15, .func (PySem.W.fnOf ("may_meet" : Str) ("may_meet" : Str) (C8.fnArgs (topS 29)) (C8.fnBody (topS 29)) (C8.fnScope (topS 29)) .none kV15 dc15 pm15 an15 cd15 ct15), sl15⟩) (c15 : PySem.W.codeIn K cd15 ("may_meet" : Str) = true) (k15 : PySem.W.keepIn K (.ref f15) = true)
    (a16 : PySem.W.nsIn K mainGlobals ("count_spans" : Str) = some (some (.ref f16))) (l16 : K.lookup f16 = some ⟨oc16, od16, .func (PySem.W.fnOf ("count_spans" : Str) ("count_spans" : Str) (C8.fnArgs (topS 30)) (C8.fnBody (topS 30)) (C8.fnScope (topS 30)) .none kV16 dc16 pm16 an16 cd16 ct16), sl16⟩) (c16 : PySem.W.codeIn K cd16 ("count_spans" : Str) = true) (k16 : PySem.W.keepIn K (.ref f16) = true)
    (a17 : PySem.W.nsIn K mainGlobals ("_law_cup" : Str) = some (some (.ref f17))) (l17 : K.lookup f17 = some ⟨oc17, od17, .func (PySem.W.fnOf ("_law_cup" : Str) ("_law_cup" : Str) (C8.fnArgs (topS 32)) (C8.fnBody (topS 32)) (C8.fnScope (topS 32)) .none kV17 dc17 pm17 an17 cd17 ct17), sl17⟩) (c17 : PySem.W.codeIn K cd17 ("_law_cup" : Str) = true) (k17 : PySem.W.keepIn K (.ref f17) = true)
    (a18 : PySem.W.nsIn K mainGlobals ("_law_roll" : Str) = some (some (.ref f18))) (l18 : K.lookup f18 = some ⟨oc18, od18, .func (PySem.W.fnOf ("_law_roll" : Str) ("_law_roll" : Str) (C8.fnArgs (topS 33)) (C8.fnBody (topS 33)) (C8.fnScope (topS 33)) .none kV18 dc18 pm18 an18 cd18 ct18), sl18⟩) (c18 : PySem.W.codeIn K cd18 ("_law_roll" : Str) = true) (k18 : PySem.W.keepIn K (.ref f18) = true)
    (a19 : PySem.W.nsIn K mainGlobals ("_law_same" : Str) = some (some (.ref f19))) (l19 : K.lookup f19 = some ⟨oc19, od19, .func (PySem.W.fnOf ("_law_same" : Str) ("_law_same" : Str) (C8.fnArgs (topS 34)) (C8.fnBody (topS 34)) (C8.fnScope (topS 34)) .none kV19 dc19 pm19 an19 cd19 ct19), sl19⟩) (c19 : PySem.W.codeIn K cd19 ("_law_same" : Str) = true) (k19 : PySem.W.keepIn K (.ref f19) = true)
    (a20 : PySem.W.nsIn K mainGlobals ("_law_some" : Str) = some (some (.ref f20))) (l20 : K.lookup f20 = some ⟨oc20, od20, .func (PySem.W.fnOf ("_law_some" : Str) ("_law_some" : Str) (C8.fnArgs (topS 35)) (C8.fnBody (topS 35)) (C8.fnScope (topS 35)) .none kV20 dc20 pm20 an20 cd20 ct20), sl20⟩) (c20 : PySem.W.codeIn K cd20 ("_law_some" : Str) = true) (k20 : PySem.W.keepIn K (.ref f20) = true)
    (a21 : PySem.W.nsIn K mainGlobals ("_law_version" : Str) = some (some (.ref f21))) (l21 : K.lookup f21 = some ⟨oc21, od21, .func (PySem.W.fnOf ("_law_version" : Str) ("_law_version" : Str) (C8.fnArgs (topS 36)) (C8.fnBody (topS 36)) (C8.fnScope (topS 36)) .none kV21 dc21 pm21 an21 cd21 ct21), sl21⟩) (c21 : PySem.W.codeIn K cd21 ("_law_version" : Str) = true) (k21 : PySem.W.keepIn K (.ref f21) = true)
    (a22 : PySem.W.nsIn K mainGlobals ("_law_condition" : Str) = some (some (.ref f22))) (l22 : K.lookup f22 = some ⟨oc22, od22, .func (PySem.W.fnOf ("_law_condition" : Str) ("_law_condition" : Str) (C8.fnArgs (topS 37)) (C8.fnBody (topS 37)) (C8.fnScope (topS 37)) .none kV22 dc22 pm22 an22 cd22 ct22), sl22⟩) (c22 : PySem.W.codeIn K cd22 ("_law_condition" : Str) = true) (k22 : PySem.W.keepIn K (.ref f22) = true)
    (a23 : PySem.W.nsIn K mainGlobals ("_law_range" : Str) = some (some (.ref f23))) (l23 : K.lookup f23 = some ⟨oc23, od23, .func (PySem.W.fnOf ("_law_range" : Str) ("_law_range" : Str) (C8.fnArgs (topS 38)) (C8.fnBody (topS 38)) (C8.fnScope (topS 38)) .none kV23 dc23 pm23 an23 cd23 ct23), sl23⟩) (c23 : PySem.W.codeIn K cd23 ("_law_range" : Str) = true) (k23 : PySem.W.keepIn K (.ref f23) = true)
    (a24 : PySem.W.nsIn K mainGlobals ("_law_key" : Str) = some (some (.ref f24))) (l24 : K.lookup f24 = some ⟨oc24, od24, .func (PySem.W.fnOf ("_law_key" : Str) ("_law_key" : Str) (C8.fnArgs (topS 39)) (C8.fnBody (topS 39)) (C8.fnScope (topS 39)) .none kV24 dc24 pm24 an24 cd24 ct24), sl24⟩) (c24 : PySem.W.codeIn K cd24 ("_law_key" : Str) = true) (k24 : PySem.W.keepIn K (.ref f24) = true)
    (a25 : PySem.W.nsIn K mainGlobals ("_law_meets" : Str) = some (some (.ref f25))) (l25 : K.lookup f25 = some ⟨oc25, od25, .func (PySem.W.fnOf ("_law_meets" : Str) ("_law_meets" : Str) (C8.fnArgs (topS 40)) (C8.fnBody (topS 40)) (C8.fnScope (topS 40)) .none kV25 dc25 pm25 an25 cd25 ct25), sl25⟩) (c25 : PySem.W.codeIn K cd25 ("_law_meets" : Str) = true) (k25 : PySem.W.keepIn K (.ref f25) = true)
    (a26 : PySem.W.nsIn K mainGlobals ("_law_is_in" : Str) = some (some (.ref f26))) (l26 : K.lookup f26 = some ⟨oc26, od26, .func (PySem.W.fnOf ("_law_is_in" : Str) ("_law_is_in" : Str) (C8.fnArgs (topS 41)) (C8.fnBody (topS 41)) (C8.fnScope (topS 41)) .none kV26 dc26 pm26 an26 cd26 ct26), sl26⟩) (c26 : PySem.W.codeIn K cd26 ("_law_is_in" : Str) = true) (k26 : PySem.W.keepIn K (.ref f26) = true)
    (a27 : PySem.W.nsIn K mainGlobals ("_law_ends" : Str) = some (some (.ref f27))) (l27 : K.lookup f27 = some ⟨oc27, od27, .func (PySem.W.fnOf ("_law_ends" : Str) ("_law_ends" : Str) (C8.fnArgs (topS 42)) (C8.fnBody (topS 42)) (C8.fnScope (topS 42)) .none kV27 dc27 pm27 an27 cd27 ct27), sl27⟩) (c27 : PySem.W.codeIn K cd27 ("_law_ends" : Str) = true) (k27 : PySem.W.keepIn K (.ref f27) = true)
    (a28 : PySem.W.nsIn K mainGlobals ("_law_spans" : Str) = some (some (.ref f28))) (l28 : K.lookup f28 = some ⟨oc28, od28, .func (PySem.W.fnOf ("_law_spans" : Str) ("_law_spans" : Str) (C8.fnArgs (topS 43)) (C8.fnBody (topS 43)) (C8.fnScope (topS 43)) .none kV28 dc28 pm28 an28 cd28 ct28), sl28⟩) (c28 : PySem.W.codeIn K cd28 ("_law_spans" : Str) = true) (k28 : PySem.W.keepIn K (.ref f28) = true)
    (a29 : PySem.W.nsIn K mainGlobals ("_law_right" : Str) = some (some (.ref f29))) (l29 : K.lookup f29 = some ⟨oc29, od29, .func (PySem.W.fnOf ("_law_right" : Str) ("_law_right" : Str) (C8.fnArgs (topS 44)) (C8.fnBody (topS 44)) (C8.fnScope (topS 44)) .none kV29 dc29 pm29 an29 cd29 ct29), sl29⟩) (c29 : PySem.W.codeIn K cd29 ("_law_right" : Str) = true) (k29 : PySem.W.keepIn K (.ref f29) = true)
    (a30 : PySem.W.nsIn K mainGlobals ("law" : Str) = some (some (.ref f30))) (l30 : K.lookup f30 = some ⟨oc30, od30, .func (PySem.W.fnOf ("law" : Str) ("law" : Str) (C8.fnArgs (topS 45)) (C8.fnBody (topS 45)) (C8.fnScope (topS 45)) .none kV30 dc30 pm30 an30 cd30 ct30), sl30⟩) (c30 : PySem.W.codeIn K cd30 ("law" : Str) = true) (k30 : PySem.W.keepIn K (.ref f30) = true)
    (z0 : PySem.W.nsIn K mainGlobals ("len" : Str) = some none)
    (z1 : PySem.W.nsIn K mainGlobals ("int" : Str) = some none)
    (z2 : PySem.W.nsIn K mainGlobals ("str" : Str) = some none)
    (z3 : PySem.W.nsIn K mainGlobals ("abs" : Str) = some none)
    (z4 : PySem.W.nsIn K mainGlobals ("sum" : Str) = some none)
    (z5 : PySem.W.nsIn K mainGlobals ("all" : Str) = some none)
    (z6 : PySem.W.nsIn K mainGlobals ("any" : Str) = some none)
    (z7 : PySem.W.nsIn K mainGlobals ("max" : Str) = some none)
    (z8 : PySem.W.nsIn K mainGlobals ("min" : Str) = some none)
    (z9 : PySem.W.nsIn K mainGlobals ("tuple" : Str) = some none)
    (z10 : PySem.W.nsIn K mainGlobals ("list" : Str) = some none)
    (z11 : PySem.W.nsIn K mainGlobals ("sorted" : Str) = some none)
    (z12 : PySem.W.nsIn K mainGlobals ("isinstance" : Str) = some none)
    (z13 : PySem.W.nsIn K mainGlobals ("bool" : Str) = some none)
    (z14 : PySem.W.nsIn K mainGlobals ("range" : Str) = some none) : Ly.ModOk ⟨w, K, mg⟩ gl :=
  Ly.mod_by ⟨Ly.c_str X G v0, Ly.c_str X G v1, Ly.c_int X G v2, Ly.c_int X G v3, Ly.c_int X G v4, Ly.c_int X G v5, Ly.c_int X G v6, Ly.c_tupS [(">=" : Str), (">" : Str), ("<=" : Str), ("<" : Str), ("=" : Str), ("~" : Str), ("^" : Str)] X G v7 lv7 (by decide) (.cons ⟨_, rfl⟩ (.cons ⟨_, rfl⟩ (.cons ⟨_, rfl⟩ (.cons ⟨_, rfl⟩ (.cons ⟨_, rfl⟩ (.cons ⟨_, rfl⟩ (.cons ⟨_, rfl⟩ (.nil)))))))), trivial⟩ ⟨Ly.fn_at X G a0 l0 c0 k0 (fnScope_0) (fun _ _ _ _ _ _ us hl => match us, hl with | [_, _, _], _ => rfl), Ly.fn_at X G a1 l1 c1 k1 (fnScope_1) (fun _ _ _ _ _ _ us hl => match us, hl with | [_, _, _], _ => rfl), Ly.fn_at X G a2 l2 c2 k2 (fnScope_2) (fun _ _ _ _ _ _ us hl => match us, hl with | [_], _ => rfl), Ly.fn_at X G a3 l3 c3 k3 (fnScope_3) (fun _ _ _ _ _ _ us hl => match us, hl with | [_], _ => rfl), Ly.fn_at X G a4 l4 c4 k4 (fnScope_4) (fun _ _ _ _ _ _ us hl => match us, hl with | [_], _ => rfl), Ly.fn_at X G a5 l5 c5 k5 (fnScope_5) (fun _ _ _ _ _ _ us hl => match us, hl with | [_], _ => rfl), Ly.fn_at X G a6 l6 c6 k6 (fnScope_6) (fun _ _ _ _ _ _ us hl => match us, hl with | [_], _ => rfl), Ly.fn_at X G a7 l7 c7 k7 (fnScope_7) (fun _ _ _ _ _ _ us hl => match us, hl with | [_], _ => rfl), Ly.fn_at X G a8 l8 c8 k8 (fnScope_8) (fun _ _ _ _ _ _ us hl => match us, hl with | [_], _ => rfl), Ly.fn_at X G a9 l9 c9 k9 (fnScope_9) (fun _ _ _ _ _ _ us hl => match us, hl with | [_, _], _ => rfl), Ly.fn_at X G a10 l10 c10 k10 (fnScope_10) (fun _ _ _ _ _ _ us hl => match us, hl with | [_, _], _ => rfl), Ly.fn_at X G a11 l11 c11 k11 (fnScope_11) (fun _ _ _ _ _ _ us hl => match us, hl with | [_], _ => rfl), Ly.fn_at X G a12 l12 c12 k12 (fnScope_12) (fun _ _ _ _ _ _ us hl => match us, hl with | [_], _ => rfl), Ly.fn_at X G a13 l13 c13 k13 (fnScope_13) (fun _ _ _ _ _ _ us hl => match us, hl with | [_, _], _ => rfl), Ly.fn_at X G a14 l14 c14 k14 (fnScope_14) (fun _ _ _ _ _ _ us hl => match us, hl with | [_, _], _ => rfl), Ly.fn_at X G a15 l15 c15 k15 (fnScope_15) (fun _ _ _ _ _ _ us hl => match us, hl with | [_, _], _ => rfl), Ly.fn_at X G a16 l16 c16 k16 (fnScope_16) (fun _ _ _ _ _ _ us hl => match us, hl with | [_], _ => rfl), Ly.fn_at X G a17 l17 c17 k17 (fnScope_17) (fun _ _ _ _ _ _ us hl => match us, hl with | [_], _ => rfl), Ly.fn_at X G a18 l18 c18 k18 (fnScope_18) (fun _ _ _ _ _ _ us hl => match us, hl with | [_, _], _ => rfl), Ly.fn_at X G a19 l19 c19 k19 (fnScope_19) (fun _ _ _ _ _ _ us hl => match us, hl with | [_, _], _ => rfl), Ly.fn_at X G a20 l20 c20 k20 (fnScope_20) (fun _ _ _ _ _ _ us hl => match us, hl with | [_, _], _ => rfl), Ly.fn_at X G a21 l21 c21 k21 (fnScope_21) (fun _ _ _ _ _ _ us hl => match us, hl with | [_], _ => rfl), Ly.fn_at X G a22 l22 c22 k22 (fnScope_22) (fun _ _ _ _ _ _ us hl => match us, hl with | [_], _ => rfl), Ly.fn_at X G a23 l23 c23 k23 (fnScope_23) (fun _ _ _ _ _ _ us hl => match us, hl with | [_, _], _ => rfl), Ly.fn_at X G a24 l24 c24 k24 (fnScope_24) (fun _ _ _ _ _ _ us hl => match us, hl with | [_], _ => rfl), Ly.fn_at X G a25 l25 c25 k25 (fnScope_25) (fun _ _ _ _ _ _ us hl => match us, hl with | [_, _], _ => rfl), Ly.fn_at X G a26 l26 c26 k26 (fnScope_26) (fun _ _ _ _ _ _ us hl => match us, hl with | [_, _], _ => rfl), Ly.fn_at X G a27 l27 c27 k27 (fnScope_27) (fun _ _ _ _ _ _ us hl => match us, hl with | [_], _ => rfl), Ly.fn_at X G a28 l28 c28 k28 (fnScope_28) (fun _ _ _ _ _ _ us hl => match us, hl with | [_], _ => rfl), Ly.fn_at X G a29 l29 c29 k29 (fnScope_29) (fun _ _ _ _ _ _ us hl => match us, hl with | [_], _ => rfl), Ly.fn_at X G a30 l30 c30 k30 (fnScope_30) (fun _ _ _ _ _ _ us hl => match us, hl with | [_], _ => rfl), trivial⟩ ⟨Ly.b_non X G z0, Ly.b_non X G z1, Ly.b_non X G z2, Ly.b_non X G z3, Ly.b_non X G z4, Ly.b_non X G z5, Ly.b_non X G z6, Ly.b_non X G z7, Ly.b_non X G z8, Ly.b_non X G z9, Ly.b_non X G z10, Ly.b_non X G z11, Ly.b_non X G z12, Ly.b_non X G z13, Ly.b_non X G z14, trivial⟩

end k85
open PySem PySem.W PyProof.Rows
set_option maxRecDepth 100000 in
set_option maxHeartbeats 8000000 in
theorem PySem.Challenge.cw_layersheld_k85_whole_order_and_spans_holds : PySem.Challenge.rw_layersheld_k85_whole_order_and_spans.Holds := by
  w_on
  o_law
  k_head
  (case hw => w_witness2)
  k_fill
  refine Ly.walk (l := PySem.Challenge.rw_layersheld_k85_whole_order_and_spans) (G := k85.gl) (k := 40) (fuel := 10000) rfl (by decide) ⟨rfl, by decide, by decide⟩ rfl rfl rfl k85.law_ok (fun w h Y => PySem.W.kIn_of Y) ?F
  case F =>
    intro w mg fa h KX G hmg
    refine' k85.mod_ok KX G ?v0 ?v1 ?a0 ?l0 ?c0 ?k0 ?a1 ?l1 ?c1 ?k1 ?v2 ?v3 ?v4 ?v5 ?v6 ?v7 ?lv7 ?a2 ?l2 ?c2 ?k2 ?a3 ?l3 ?c3 ?k3 ?a4 ?l4 ?c4 ?k4 ?a5 ?l5 ?c5 ?k5 ?a6 ?l6 ?c6 ?k6 ?a7 ?l7 ?c7 ?k7 ?a8 ?l8 ?c8 ?k8 ?a9 ?l9 ?c9 ?k9 ?a10 ?l10 ?c10 ?k10 ?a11 ?l11 ?c11 ?k11 ?a12 ?l12 ?c12 ?k12 ?a13 ?l13 ?c13 ?k13 ?a14 ?l14 ?c14 ?k14 ?a15 ?l15 ?c15 ?k15 ?a16 ?l16 ?c16 ?k16 ?a17 ?l17 ?c17 ?k17 ?a18 ?l18 ?c18 ?k18 ?a19 ?l19 ?c19 ?k19 ?a20 ?l20 ?c20 ?k20 ?a21 ?l21 ?c21 ?k21 ?a22 ?l22 ?c22 ?k22 ?a23 ?l23 ?c23 ?k23 ?a24 ?l24 ?c24 ?k24 ?a25 ?l25 ?c25 ?k25 ?a26 ?l26 ?c26 ?k26 ?a27 ?l27 ?c27 ?k27 ?a28 ?l28 ?c28 ?k28 ?a29 ?l29 ?c29 ?k29 ?a30 ?l30 ?c30 ?k30 ?z0 ?z1 ?z2 ?z3 ?z4 ?z5 ?z6 ?z7 ?z8 ?z9 ?z10 ?z11 ?z12 ?z13 ?z14
    (case v0 => k_is)
    (case v1 => k_is)
    (case a0 => k_is)
    (case l0 => k_is)
    (case c0 => k_is)
    (case k0 => k_is)
    (case a1 => k_is)
    (case l1 => k_is)
    (case c1 => k_is)
    (case k1 => k_is)
    (case v2 => k_is)
    (case v3 => k_is)
    (case v4 => k_is)
    (case v5 => k_is)
    (case v6 => k_is)
    (case v7 => k_is)
    (case lv7 => k_is)
    (case a2 => k_is)
    (case l2 => k_is)
    (case c2 => k_is)
    (case k2 => k_is)
    (case a3 => k_is)
    (case l3 => k_is)
    (case c3 => k_is)
    (case k3 => k_is)
    (case a4 => k_is)
    (case l4 => k_is)
    (case c4 => k_is)
    (case k4 => k_is)
    (case a5 => k_is)
    (case l5 => k_is)
    (case c5 => k_is)
    (case k5 => k_is)
    (case a6 => k_is)
    (case l6 => k_is)
    (case c6 => k_is)
    (case k6 => k_is)
    (case a7 => k_is)
    (case l7 => k_is)
    (case c7 => k_is)
    (case k7 => k_is)
    (case a8 => k_is)
    (case l8 => k_is)
    (case c8 => k_is)
    (case k8 => k_is)
    (case a9 => k_is)
    (case l9 => k_is)
    (case c9 => k_is)
    (case k9 => k_is)
    (case a10 => k_is)
    (case l10 => k_is)
    (case c10 => k_is)
    (case k10 => k_is)
    (case a11 => k_is)
    (case l11 => k_is)
    (case c11 => k_is)
    (case k11 => k_is)
    (case a12 => k_is)
    (case l12 => k_is)
    (case c12 => k_is)
    (case k12 => k_is)
    (case a13 => k_is)
    (case l13 => k_is)
    (case c13 => k_is)
    (case k13 => k_is)
    (case a14 => k_is)
    (case l14 => k_is)
    (case c14 => k_is)
    (case k14 => k_is)
    (case a15 => k_is)
    (case l15 => k_is)
    (case c15 => k_is)
    (case k15 => k_is)
    (case a16 => k_is)
    (case l16 => k_is)
    (case c16 => k_is)
    (case k16 => k_is)
    (case a17 => k_is)
    (case l17 => k_is)
    (case c17 => k_is)
    (case k17 => k_is)
    (case a18 => k_is)
    (case l18 => k_is)
    (case c18 => k_is)
    (case k18 => k_is)
    (case a19 => k_is)
    (case l19 => k_is)
    (case c19 => k_is)
    (case k19 => k_is)
    (case a20 => k_is)
    (case l20 => k_is)
    (case c20 => k_is)
    (case k20 => k_is)
    (case a21 => k_is)
    (case l21 => k_is)
    (case c21 => k_is)
    (case k21 => k_is)
    (case a22 => k_is)
    (case l22 => k_is)
    (case c22 => k_is)
    (case k22 => k_is)
    (case a23 => k_is)
    (case l23 => k_is)
    (case c23 => k_is)
    (case k23 => k_is)
    (case a24 => k_is)
    (case l24 => k_is)
    (case c24 => k_is)
    (case k24 => k_is)
    (case a25 => k_is)
    (case l25 => k_is)
    (case c25 => k_is)
    (case k25 => k_is)
    (case a26 => k_is)
    (case l26 => k_is)
    (case c26 => k_is)
    (case k26 => k_is)
    (case a27 => k_is)
    (case l27 => k_is)
    (case c27 => k_is)
    (case k27 => k_is)
    (case a28 => k_is)
    (case l28 => k_is)
    (case c28 => k_is)
    (case k28 => k_is)
    (case a29 => k_is)
    (case l29 => k_is)
    (case c29 => k_is)
    (case k29 => k_is)
    (case a30 => k_is)
    (case l30 => k_is)
    (case c30 => k_is)
    (case k30 => k_is)
    (case z0 => k_is)
    (case z1 => k_is)
    (case z2 => k_is)
    (case z3 => k_is)
    (case z4 => k_is)
    (case z5 => k_is)
    (case z6 => k_is)
    (case z7 => k_is)
    (case z8 => k_is)
    (case z9 => k_is)
    (case z10 => k_is)
    (case z11 => k_is)
    (case z12 => k_is)
    (case z13 => k_is)
    (case z14 => k_is)
