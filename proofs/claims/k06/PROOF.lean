import PyProof.Rows.All
import Wide.All
import OpenK.AllK
import Wide.FinOn
import KE.SortData
import HandS.List
import HandS.Comp
import HandS.Lambda
import HandS.ForMost
import HandS.Exc
import HandS.TryOnly
import HandS.ExcOwn
import HandS.WordsExc
import HandS.HeadHook1
import HandS.Nested
import HandS.TupAny
import HandS.Style
import HandS.Deep
import HandS.Zip
import HandS.TupMul
import KE.DataCmp
import HandS.More
import HandS.Text
import HandS.WordsDict
import HandS.TupLen
import KE.DataMinMax
import PyProof.SumAny
import HandS.Walk
import HandS.Iter
import KE.KDictWalk
import HandS.Replace
import HandS.GenList
import HandS.AnyAll
import PyProof.TupleOfGen
import PyProof.CollectWalk
import HandS.Codes
import HandS.Small
import KE.KDictDisplayH
import HandS.DictComp
import HandS.HeadHook2
import HandS.HeadHook4
import HandS.HeadWalk
import KE.KStateDown
import HandS.Head0
import HandS.Head1
import HandS.Head2
import HandS.HeadEnd
import PySem.Challenge.RW_pixelstack_k06_turns_and_sizes
set_option Elab.async false
set_option linter.all false
/-! PD: pure data, the monad, the evaluator. -/
namespace Px
open PySem

/-- pure data -/
inductive D where
  | non | bl (b : Bool) | int (i : Int) | str (x : Str) | tup (xs : List D) | lst (xs : List D)
  | dic (kvs : List (D × D)) | obj (c : Str) (fs : List (Str × D)) | dice
  | ktup (xs : List D) | kdic (kvs : List (D × D)) | klst (xs : List D)
  deriving Inhabited

/-- data without dicts and objects, as the library has it -/
def toPy : D → Option PyData
  | .non => some .none
  | .bl b => some (.bool b)
  | .int i => some (.int i)
  | .str x => some (.str x)
  | .tup xs => (toPys xs).map .tuple
  | .lst xs => (toPys xs).map .list
  | .dic _ => none
  | .obj _ _ => none
  | .dice => none
  | .ktup xs => (toPys xs).map .tuple
  | .kdic _ => none
  | .klst _ => none
where toPys : List D → Option (List PyData)
  | [] => some []
  | x :: xs => match toPy x, toPys xs with
    | some p, some ps => some (p :: ps)
    | _, _ => none

inductive Out (α : Type) where
  | ok (a : α) (dc : Int × Int × Int) | er (c : Str) (dc : Int × Int × Int) | st
abbrev Dc := Int × Int × Int
def M (α : Type) : Type := Dc → Out α
namespace M
variable {α β : Type}
def pure (a : α) : M α := fun d => .ok a d
def bind (m : M α) (f : α → M β) : M β := fun d => match m d with
  | .ok a d' => f a d'
  | .er c d' => .er c d'
  | .st => .st
def st : M α := fun _ => .st
def er (c : Str) : M α := fun d => .er c d
end M
instance : Monad M where
  pure := M.pure
  bind := M.bind
def lift {α : Type} : Option α → M α
  | some a => pure a
  | none => M.st
def guardM (b : Bool) : M Unit := if b then pure () else M.st
/-! ### operators -/
def szL : Nat := 16777216
def CMulB (i j : Int) : Bool := (decide (-(2 ^ 64) < i) && decide (i < 2 ^ 64)) || (decide (-(2 ^ 64) < j) && decide (j < 2 ^ 64))
def mkL (xs : List D) : Option D := if xs.length ≤ szL then some (.lst xs) else none
def mkT (xs : List D) : Option D := if xs.length ≤ szL then some (.tup xs) else none
def repL (xs : List D) (k : Int) : List D := (List.replicate k.toNat xs).flatten
def binD : Operator → D → D → Option D
  | .Add, .int i, .int j => some (.int (i + j))
  | .Add, .str x, .str y => if x.length + y.length ≤ szL then some (.str (x ++ y)) else none
  | .Add, .lst a, .lst b => if a.length + b.length ≤ szL then some (.lst (a ++ b)) else none
  | .Add, .tup a, .tup b => if a.length + b.length ≤ szL then some (.tup (a ++ b)) else none
  | .Sub, .int i, .int j => some (.int (i - j))
  | .Mult, .int i, .int j => if CMulB i j then some (.int (i * j)) else none
  | .Mult, .lst a, .int k => if k < 2 ^ 62 ∧ -(2 ^ 62) < k ∧ a.length * k.toNat ≤ szL then some (.lst (repL a k)) else none
  | .Mult, .tup a, .int k => if a.isEmpty = false ∧ 2 ≤ k ∧ k ≤ 1000 ∧ a.length ≤ 1000 then some (.tup (repL a k)) else none
  | .FloorDiv, .int i, .int j => if 0 < j ∧ j < 1073741824 then some (.int (i / j)) else none
  | .Mod, .int i, .int j => if 0 < j then some (.int (i % j)) else none
  | .Pow, .int i, .int j => if 0 ≤ j ∧ j ≤ 1000000 ∧ i.natAbs < 2 ^ 64 then some (.int (i ^ j.toNat)) else none
  | _, _, _ => none
def negD : D → Option D
  | .int i => some (.int (-i))
  | _ => none
def asB : D → Option Bool
  | .bl b => some b
  | _ => none
def eqD (a b : D) : Option Bool := match toPy a, toPy b with
  | some p, some q => if SeqAt.shaped p && SeqAt.shaped q then some (PyData.eqv p q) else none
  | _, _ => none
def ltD (a b : D) : Option Bool := match toPy a, toPy b with
  | some p, some q => if PySem.W.alike p q && decide (p.depth ≤ 64) then (match p with
    | .none => none
    | _ => some (PySem.W.dataLt p q)) else none
  | _, _ => none
/-- keys: ints, texts, tuples of them -/
def flatD : D → Bool
  | .int _ => true
  | .str _ => true
  | _ => false
def keyD : D → Bool
  | .tup xs => xs.all flatD
  | d => flatD d
def isTupD : D → Bool
  | .tup _ => true
  | _ => false
/-- equal keys: structural -/
def sameK : D → D → Bool
  | .int i, .int j => decide (i = j)
  | .str x, .str y => decide (x = y)
  | .tup xs, .tup ys => sameKs xs ys
  | _, _ => false
where sameKs : List D → List D → Bool
  | [], [] => true
  | x :: xs, y :: ys => sameK x y && sameKs xs ys
  | _, _ => false
def getK (k : D) (kvs : List (D × D)) : Option D := (kvs.find? fun p => sameK p.1 k).map (·.2)
def putK (k v : D) (kvs : List (D × D)) : List (D × D) := if kvs.any (fun p => sameK p.1 k) then kvs.map fun p => if sameK p.1 k then (p.1, v) else p else kvs ++ [(k, v)]
def delK (k : D) (kvs : List (D × D)) : List (D × D) := kvs.filter fun p => !sameK p.1 k
/-- a dict's keys are of one kind -/
def homK (k : D) (kvs : List (D × D)) : Bool := keyD k && (match kvs with
  | [] => true
  | (a, _) :: _ => isTupD a == isTupD k)
def lookD (k : D) (kvs : List (D × D)) : Option (Option D) := if homK k kvs then some (getK k kvs) else none
def putD (k v : D) (kvs : List (D × D)) : Option (List (D × D)) := if homK k kvs && decide (kvs.length < szL) then some (putK k v kvs) else none
def anyEq (x : D) (ys : List D) : Option Bool := match toPy x, toPy.toPys ys with
  | some q, some ps => if SeqAt.shaped q && SeqAt.shaped (.list ps) then some (ps.any fun z => PyData.eqv z q) else none
  | _, _ => none
def anyEqT (x : D) (ys : List D) : Option Bool := match toPy x, toPy.toPys ys with
  | some q, some ps => if SeqAt.shaped q && SeqAt.shaped (.tuple ps) then some (ps.any fun z => PyData.eqv z q) else none
  | _, _ => none
def inD (x : D) : D → Option Bool
  | .lst ys => anyEq x ys
  | .tup ys => anyEqT x ys
  | .ktup ys => anyEqT x ys
  | .dic kvs => (lookD x kvs).map (·.isSome)
  | .str y => match x with
    | .str z => some (!(Builtin.Str.occurrences y z 0 y.length 1).isEmpty)
    | _ => none
  | _ => none
def isNon : D → Bool
  | .non => true
  | _ => false
def cmpD : CmpOp → D → D → Option Bool
  | .Eq, a, b => eqD a b
  | .NotEq, a, b => (eqD a b).map (!·)
  | .Lt, .int i, .int j => some (decide (i < j))
  | .LtE, .int i, .int j => some (decide (i ≤ j))
  | .Gt, .int i, .int j => some (decide (j < i))
  | .GtE, .int i, .int j => some (decide (j ≤ i))
  | .Lt, a, b => ltD a b
  | .In, a, b => inD a b
  | .NotIn, a, b => (inD a b).map (!·)
  | .Is, a, .non => some (isNon a)
  | .IsNot, a, .non => some (!isNon a)
  | _, _, _ => none
/-! ### subscripts -/
def ixN (n : Nat) (i : Int) : Option Nat := if 0 ≤ i then (if i < n then some i.toNat else none) else if -(n : Int) ≤ i then some (i + n).toNat else none
def atD {α : Type} (xs : List α) (i : Int) : Option α := (ixN xs.length i).bind fun j => xs[j]?
def ixD : D → D → Option D
  | .lst xs, .int i => atD xs i
  | .tup xs, .int i => atD xs i
  | .ktup xs, .int i => atD xs i
  | .str z, .int i => if z.length ≤ szL then (atD z.cps.toList i).map fun c => .str ⟨#[c]⟩ else none
  | .dic kvs, k => (lookD k kvs).bind id
  | _, _ => none
/-- a subscript, the dice too -/
def ixDc (dc : Dc) : D → D → Option D
  | .dice, .int i => atD [.int dc.1, .int dc.2.1, .int dc.2.2] i
  | d, x => ixD d x
def ixM (d x : D) : M D := fun dc => lift (ixDc dc d x) dc
/-- the dice after a store -/
def setDc (dc : Dc) : D → D → Option Dc
  | .int 0, .int v => some (v, dc.2.1, dc.2.2)
  | .int 1, .int v => some (dc.1, v, dc.2.2)
  | .int 2, .int v => some (dc.1, dc.2.1, v)
  | _, _ => none
abbrev sIx := HT.sIx
def cutD {α : Type} (xs : List α) (lo hi : Option Int) : List α := (xs.drop (sIx xs.length 0 lo)).take (sIx xs.length xs.length hi - sIx xs.length 0 lo)
def slD : D → Option Int → Option Int → Option D
  | .lst xs, lo, hi => some (.lst (cutD xs lo hi))
  | .klst xs, lo, hi => some (.lst (cutD xs lo hi))
  | .tup xs, lo, hi => some (.tup (cutD xs lo hi))
  | .str z, lo, hi => if z.length ≤ szL then some (.str ⟨(cutD z.cps.toList lo hi).toArray⟩) else none
  | _, _, _ => none
/-- the items of a slice with a step -/
def stepD {α : Type} (xs : List α) (lo : Option Int) (c : Int) : List α :=
  (sliceRange (sliceBounds lo none (some c) xs.length).1 (sliceBounds lo none (some c) xs.length).2.1 (sliceBounds lo none (some c) xs.length).2.2).filterMap fun j => xs[j]?
def stD : D → Option Int → Int → Option D
  | .lst xs, lo, c => if c ≠ 0 ∧ (stepD xs lo c).length ≤ szL then some (.lst (stepD xs lo c)) else none
  | _, _, _ => none
/-! ### things walked -/
def signsD (z : Str) : List D := z.cps.toList.map fun c => .str ⟨#[c]⟩
def itemsD : D → Option (List D)
  | .lst xs => some xs
  | .tup xs => some xs
  | .ktup xs => some xs
  | .str z => some (signsD z)
  | .dic kvs => some (kvs.map (·.1))
  | _ => none
def seqD : D → Option (List D)
  | .lst xs => some xs
  | .tup xs => some xs
  | .ktup xs => some xs
  | _ => none
def rangeD (lo hi : Int) : List D := (List.range (hi - lo).toNat).map fun i => .int (lo + (i : Nat))
def enumD (xs : List D) : List D := xs.zipIdx.map fun p => .tup [.int (p.2 : Nat), p.1]
def zip2D (xs ys : List D) : List D := (xs.zip ys).map fun p => .tup [p.1, p.2]
def zip3D (xs ys zs : List D) : List D := (xs.zip (ys.zip zs)).map fun p => .tup [p.1, p.2.1, p.2.2]
/-! ### built-ins by value -/
def absI (i : Int) : Int := if i < 0 then -i else i
def sumD : List D → Int → Option Int
  | [], a => some a
  | .int i :: r, a => sumD r (a + i)
  | _ :: _, _ => none
/-- the first of the least; the first of the greatest -/
def minD : D → List D → D
  | b, [] => b
  | b, x :: r => if ltD x b = some true then minD x r else minD b r
def maxD : D → List D → D
  | b, [] => b
  | b, x :: r => if ltD b x = some true then maxD x r else maxD b r
def alikeAllD (ps : List PyData) : Bool := ps.all fun p => ps.all fun q => PySem.W.alike p q
def notNon : PyData → Bool
  | .none => false
  | _ => true
/-- no constant of the module within -/
def noK : D → Bool
  | .tup xs => noKs xs
  | .lst xs => noKs xs
  | .ktup _ => false
  | _ => true
where noKs : List D → Bool
  | [] => true
  | x :: xs => noK x && noKs xs
/-- what min and max may choose from -/
def ordOk (xs : List D) : Bool := noK.noKs xs && match toPy.toPys xs with
  | some ps => alikeAllD ps && (ps.all notNon) && decide (PyData.depthAll ps ≤ 64)
  | none => false
/-- sorted by keys -/
def leP (p q : PyData) : Bool := !PySem.W.dataLt q p
def sortK (kvs : List (PyData × D)) : List D := (kvs.mergeSort fun a b => leP a.1 b.1).map (·.2)
def isTupP : PyData → Bool
  | .tuple (_ :: _) => true
  | _ => false
def isOthP : PyData → Bool
  | .none => false
  | .tuple _ => false
  | _ => true
def sortable (ps : List PyData) : Bool := alikeAllD ps && decide (ps.length ≤ szL) && decide (PyData.depthAll ps ≤ 64) && (ps.all isTupP || ps.all isOthP)
def sortD (xs : List D) : Option (List D) := match toPy.toPys xs with
  | some ps => if sortable ps then some (sortK (ps.zip xs)) else none
  | none => none
def sortByD (ks xs : List D) : Option (List D) := match toPy.toPys ks with
  | some ps => if sortable ps && decide (ks.length = xs.length) then some (sortK (ps.zip xs)) else none
  | none => none
def lenD : D → Option Nat
  | .lst xs => some xs.length
  | .tup xs => some xs.length
  | .str z => if z.length ≤ szL then some z.length else none
  | .dic kvs => some kvs.length
  | .ktup xs => some xs.length
  | _ => none
def pairsD : List D → Option (List (D × D))
  | [] => some []
  | .tup [k, v] :: r => (pairsD r).map ((k, v) :: ·)
  | _ :: _ => none
def mergeD (kvs : List (D × D)) : List (D × D) → Option (List (D × D))
  | [] => some kvs
  | (k, v) :: r => (putD k v kvs).bind fun kvs' => mergeD kvs' r
def lenB : List D → Option D
  | [x] => (lenD x).map fun (n : Nat) => D.int (n : Int)
  | _ => none
def absB : List D → Option D
  | [.int i] => some (.int (absI i))
  | _ => none
def intB : List D → Option D
  | [.int i] => some (.int i)
  | [.bl b] => some (.int (if b then 1 else 0))
  | _ => none
def minB : List D → Option D
  | [.int i, .int j] => some (.int (if j < i then j else i))
  | [x] => (seqD x).bind fun l => (match l with | [] => none | b :: r => if ordOk (b :: r) then some (minD b r) else none)
  | _ => none
def maxB : List D → Option D
  | [.int i, .int j] => some (.int (if j > i then j else i))
  | [x] => (seqD x).bind fun l => (match l with | [] => none | b :: r => if ordOk (b :: r) then some (maxD b r) else none)
  | _ => none
def sumB : List D → Option D
  | [x] => (seqD x).bind fun l => (sumD l 0).map .int
  | _ => none
def listB : List D → Option D
  | [x] => (seqD x).map .lst
  | _ => none
def tupleB : List D → Option D
  | [.lst xs] => some (.tup xs)
  | [.tup xs] => some (.tup xs)
  | _ => none
def sortedB : List D → Option D
  | [.lst xs] => (sortD xs).map .lst
  | _ => none
def dictB : List D → Option D
  | [.lst l] => (pairsD l).bind fun ps => if ps.all (fun q => flatD q.1) && decide (l.length ≤ szL) then (mergeD [] ps).map .dic else none
  | _ => none
def strB : List D → Option D
  | [.int i] => if i.natAbs.log2 < 1920 then some (.str (toString i)) else none
  | _ => none
def biD (f : Str) (xs : List D) : Option D :=
  if f = "len" then lenB xs
  else if f = "abs" then absB xs
  else if f = "int" then intB xs
  else if f = "min" then minB xs
  else if f = "max" then maxB xs
  else if f = "sum" then sumB xs
  else if f = "list" then listB xs
  else if f = "tuple" then tupleB xs
  else if f = "sorted" then sortedB xs
  else if f = "dict" then dictB xs
  else if f = "str" then strB xs
  else none
end Px
/-! PN: the evaluator. -/
namespace Px
open PySem

inductive Slot where
  | no | va (d : D) | ow (d : D) | la (ls : List (Expr × Scope))
  deriving Inhabited
abbrev En := List Slot
inductive Fl where
  | nx (ρ : En) | rt (d : D) (ρ : En) | bk (ρ : En) | ct (ρ : En)
abbrev Fn := List D → M D
/-- what a text's top has: constants, defs, classes, methods, own errors; told: defs that call what they get and tell an error; lend: defs that answer with a scalar -/
structure Gm where
  gl : List (Str × D) := []
  fn : List (Str × Fn) := []
  mks : List (Str × Fn) := []
  me : List ((Str × Str) × Fn) := []
  ex : List Str := []
  fl : List (Str × Str) := []
  told : List (Str × (Str → Bool) × Str) := []
  lend : List Str := []
  eqs : List Str := []
/-- a comparison; an instance whose class has no __eq__ of its own is no text -/
def cmpG (Γ : Gm) : CmpOp → D → D → Option Bool
  | .Eq, .obj c _, .str _ => if c ∈ Γ.eqs then some false else none
  | op, a, b => cmpD op a b
/-- g: a generator expression may be made here; top: the def's own block -/
structure Cn where
  N : List Str
  sc : Scope
  Γ : Gm
  g : Nat
  top : Bool
  lp : List (Nat × Nat)
def plainK (x : Str) : Bool := !(x == ("__debug__" : Str)) && !(x == ("__classdict__" : Str)) && !(x == ("__name__" : Str))
def locK (sc : Scope) (x : Str) : Bool := plainK x && match sc.names.lookup x with
  | some .local => true
  | some .cell => true
  | some .free => true
  | _ => false
/-- a name that may be stored to -/
def stoK (sc : Scope) (x : Str) : Bool := plainK x && match sc.names.lookup x with
  | some .local => true
  | some .cell => true
  | _ => false
def gloK (sc : Scope) (x : Str) : Bool := plainK x && match sc.names.lookup x with
  | some .globalImplicit => true
  | _ => false
def ixOf (N : List Str) (x : Str) : Nat := N.idxOf x
def rdV (i : Nat) (ρ : En) : M D := match ρ[i]? with
  | some (.va d) => pure d
  | _ => M.st
def rdB (i : Nat) (ρ : En) : M D := match ρ[i]? with
  | some (.va d) => pure d
  | some (.ow d) => pure d
  | _ => M.st
def seqM {α : Type} : List (M α) → M (List α)
  | [] => pure []
  | m :: ms => do
    let x ← m
    let xs ← seqM ms
    pure (x :: xs)
def boolV (op : BoolOp) : List (M D) → M D
  | [] => M.st
  | [m] => do
    let x ← m
    let b ← lift (asB x)
    pure (.bl b)
  | m :: ms => do
    let x ← m
    let b ← lift (asB x)
    match op, b with
    | .And, false => pure (.bl false)
    | .Or, true => pure (.bl true)
    | _, _ => boolV op ms
def allT (op : BoolOp) : List (M Bool) → M Bool
  | [] => pure (match op with | .And => true | .Or => false)
  | m :: ms => do
    let b ← m
    match op, b with
    | .And, false => pure false
    | .Or, true => pure true
    | _, _ => allT op ms
def cstD : Const → Option D
  | .none => some .non
  | .bool b => some (.bl b)
  | .int i => some (.int i)
  | .str x => some (.str x)
  | _ => none
def fldD (fl : List (Str × Str)) (f : Str) : D → Option D
  | .obj c fs => if (c, f) ∈ fl then fs.lookup f else none
  | _ => none
def putF (f : Str) (v : D) : List (Str × D) → List (Str × D)
  | [] => [(f, v)]
  | (g, u) :: r => if g = f then (g, v) :: r else (g, u) :: putF f v r
def scalD : D → Bool
  | .non => true
  | .bl _ => true
  | .int _ => true
  | .str _ => true
  | _ => false
def noStar (es : List Expr) : Bool := es.all fun e => match e with
  | .Starred _ _ => false
  | _ => true
def stoN (C : Cn) (x : Str) : Bool := stoK C.sc x && decide (x ∈ C.N)
/-! ### targets -/
def nmT (i : Nat) : D → En → Option En := fun d ρ => some (ρ.set i (.va d))
def tpTs : List (D → En → Option En) → List D → En → Option En
  | [], [], ρ => some ρ
  | t :: ts, d :: ds, ρ => (t d ρ).bind fun ρ' => tpTs ts ds ρ'
  | _, _, _ => none
def tpT (ts : List (D → En → Option En)) : D → En → Option En := fun d ρ => match d with
  | .tup ds => tpTs ts ds ρ
  | .ktup ds => tpTs ts ds ρ
  | .lst ds => tpTs ts ds ρ
  | _ => none
def noT : D → En → Option En := fun _ _ => none
def tgN : Nat → Cn → Expr → D → En → Option En
  | 0, _, _ => noT
  | n + 1, C, e => match e with
    | .Name x _ => if stoN C x then nmT (ixOf C.N x) else noT
    | .Tuple es _ _ => if noStar es then tpT (es.map fun e => tgN n C e) else noT
    | _ => noT
/-- the places that a target may set -/
def tgIx : Nat → Cn → Expr → List Nat
  | 0, _, _ => []
  | n + 1, C, e => match e with
    | .Name x _ => [ixOf C.N x]
    | .Tuple es _ _ => es.flatMap fun e => tgIx n C e
    | _ => []
/-! ### comprehensions -/
def ownL (N : List Str) (scope : Scope) : List (Str × Nat) := scope.names.filterMap fun y => match y.2 with
  | .local => if y.1 ∈ N then some (y.1, N.idxOf y.1) else none
  | .cell => if y.1 ∈ N then some (y.1, N.idxOf y.1) else none
  | _ => none
def ownN (N : List Str) (scope : Scope) : List Nat := (ownL N scope).map (·.2)
/-- a block that the rules know -/
def blkB (N : List Str) (sc scope : Scope) : Bool := L2.blkC N sc scope (ownL N scope)
/-- what may not raise -/
def noE {α : Type} (m : M α) : M α := fun dc => match m dc with
  | .ok a dc' => .ok a dc'
  | .er _ _ => .st
  | .st => .st
def wipeE (ρ : En) : List Nat → En
  | [] => ρ
  | v :: vs => (wipeE ρ vs).set v .no
def lcM (tg : D → En → Option En) (tt : En → M Bool) (te : En → M D) (ρ : En) : List D → M (List D)
  | [] => pure []
  | x :: xs => do
    let ρ' ← lift (tg x ρ)
    let b ← tt ρ'
    if b then
      let y ← te ρ'
      let ys ← lcM tg tt te ρ xs
      pure (y :: ys)
    else lcM tg tt te ρ xs
def lc2M (tg : D → En → Option En) (tt : En → M Bool) (ti : En → M (List D)) (vs1 : List Nat) (tg1 : D → En → Option En) (tt1 : En → M Bool) (te : En → M D) (ρ : En) : List D → M (List D)
  | [] => pure []
  | x :: xs => do
    let ρ' ← lift (tg x ρ)
    let b ← tt ρ'
    if b then
      let items ← ti ρ'
      let ys ← lcM tg1 tt1 te (wipeE ρ' vs1) items
      let zs ← lc2M tg tt ti vs1 tg1 tt1 te ρ xs
      pure (ys ++ zs)
    else lc2M tg tt ti vs1 tg1 tt1 te ρ xs
def dcM (tg : D → En → Option En) (tt : En → M Bool) (tk tv : En → M D) (ρ : En) : List D → List (D × D) → M (List (D × D))
  | [], acc => pure acc
  | x :: xs, acc => do
    let ρ' ← lift (tg x ρ)
    let b ← tt ρ'
    if b then
      let k ← tk ρ'
      let v ← tv ρ'
      let acc' ← lift (putD k v acc)
      dcM tg tt tk tv ρ xs acc'
    else dcM tg tt tk tv ρ xs acc
/-- the pairs of a display, from the left -/
def pairsM : List (M D) → List (M D) → M (List (D × D))
  | [], [] => pure []
  | k :: ks, v :: vs => do
    let x ← k
    let y ← v
    let ps ← pairsM ks vs
    pure ((x, y) :: ps)
  | _, _ => M.st
def dispOk (ks : List (Option Expr)) (vs : List Expr) : Bool := ks.all (·.isSome) && decide (ks.length = vs.length) && decide (ks.length ≤ 15)
/-- any, all, from the left -/
def anyM (tg : D → En → Option En) (tt : En → M Bool) (te : En → M D) (ρ : En) : List D → M Bool
  | [] => pure false
  | x :: xs => do
    let ρ' ← lift (tg x ρ)
    let b ← tt ρ'
    if b then
      let y ← te ρ'
      let c ← lift (asB y)
      if c then pure true else anyM tg tt te ρ xs
    else anyM tg tt te ρ xs
def allM (tg : D → En → Option En) (tt : En → M Bool) (te : En → M D) (ρ : En) : List D → M Bool
  | [] => pure true
  | x :: xs => do
    let ρ' ← lift (tg x ρ)
    let b ← tt ρ'
    if b then
      let y ← te ρ'
      let c ← lift (asB y)
      if c then allM tg tt te ρ xs else pure false
    else allM tg tt te ρ xs
/-- what takes a generator's items -/
def biG (f : Str) (xs : List D) : Option D :=
  if f = "sum" then (sumD xs 0).map .int
  else if f = "min" then (match xs with | [] => none | b :: r => if ordOk (b :: r) then some (minD b r) else none)
  else if f = "max" then (match xs with | [] => none | b :: r => if ordOk (b :: r) then some (maxD b r) else none)
  else if f = "tuple" then mkT xs
  else if f = "list" then mkL xs
  else if f = "sorted" then (sortD xs).map .lst
  else none
/-- a call's one argument: a generator expression with one for -/
structure GA where
  elt : Expr
  tg : Expr
  it : Expr
  ifs : List Expr
  scope : Scope
  pos : Pos
def genArg : List Expr → Option GA
  | [.GeneratorExp elt [⟨tg, it, ifs, a⟩] scope pos] => if a = 0 then some ⟨elt, tg, it, ifs, scope, pos⟩ else none
  | _ => none
/-- the names of a generator expression that the rules know -/
def gnC (N : List Str) (sc scope : Scope) (own : List (Str × Nat)) : Bool :=
  decide (scope.kind = .function) && !scope.isCoroutine && (scope.names.all fun y => decide (scope.names.lookup y.1 = some y.2)) && (scope.names.all fun y => !decide (y.2 = .cell)) && decide (scope.names.lookup (".0" : Str) = some NameKind.local) && (own.all fun p => decide (N[p.2]? = some p.1)) &&
    (scope.names.all fun y => !decide (y.2 = .free) || decide (sc.names.lookup y.1 = some .cell) || decide (sc.names.lookup y.1 = some .free)) && (scope.names.all fun y => !decide (y.2 = .local) || decide (y.1 ∈ own.map (·.1)) || decide (y.1 ∉ N))
def notLst : Expr → Bool
  | .List _ _ => false
  | _ => true
/-- what the built-in f makes of the items -/
def genM (f : Str) (tg : D → En → Option En) (tt : En → M Bool) (te : En → M D) (ρ : En) (xs : List D) : M D :=
  if f = "any" then do
    let b ← anyM tg tt te ρ xs
    pure (.bl b)
  else if f = "all" then do
    let b ← allM tg tt te ρ xs
    pure (.bl b)
  else if f = "sum" then do
    let ys ← lcM tg tt te ρ xs
    lift ((sumD ys 0).map .int)
  else if f = "tuple" then do
    let ys ← lcM tg tt te ρ xs
    lift (mkT ys)
  else M.st
def cont : D → Bool
  | .lst _ => true
  | .dic _ => true
  | _ => false
def mayOw : D → Bool
  | .lst _ => true
  | .dic _ => true
  | .obj _ _ => true
  | _ => false
/-- a text's, a list's, a dict's methods -/
def strsD : List D → Option (List Str)
  | [] => some []
  | .str x :: r => (strsD r).map (x :: ·)
  | _ :: _ => none
def joinB : D → List D → Option D
  | .str a, [.lst l] => (strsD l).bind fun ys => if (ys.map (·.length)).sum + ys.length * a.length ≤ szL then some (.str (Txt.join a ys)) else none
  | .str a, [.tup l] => (strsD l).bind fun ys => if (ys.map (·.length)).sum + ys.length * a.length ≤ szL then some (.str (Txt.join a ys)) else none
  | _, _ => none
def getB : D → List D → Option D
  | .dic kvs, [k] => (lookD k kvs).map fun o => o.getD .non
  | .dic kvs, [k, x] => if mayOw x then none else (lookD k kvs).map fun o => o.getD x
  | _, _ => none
def splitB : D → List D → Option D
  | .str a, [.str b] => if b.length = 0 then none else if a.length + 2 ≤ szL then some (.lst ((Txt.split a b).map .str)) else none
  | _, _ => none
def startsB : D → List D → Option D
  | .str a, [.str b] => some (.bl (Txt.startswith a b))
  | _, _ => none
def indexS (a : Str) : List D → Option D
  | [.str b] => (match Builtin.Str.occurrences a b 0 a.length 1 with
    | i :: _ => some (.int (i : Nat))
    | [] => none)
  | _ => none
def indexL (l : List D) : List D → Option D
  | [x] => (match toPy x, toPy.toPys l with
    | some q, some ps => if SeqAt.shaped q && SeqAt.shaped (.list ps) then (ps.findIdx? fun z => PyData.eqv z q).map fun (j : Nat) => D.int (j : Int) else none
    | _, _ => none)
  | _ => none
def indexB : D → List D → Option D
  | .str a, ds => indexS a ds
  | .lst l, ds => indexL l ds
  | _, _ => none
/-- a method that the rules know of that thing -/
def smT (m : Str) : D → Bool
  | .str _ => m = "join" || m = "split" || m = "startswith" || m = "index"
  | .dic _ => m = "get"
  | .lst _ => m = "index"
  | _ => false
def smD (m : Str) (d : D) (xs : List D) : Option D :=
  if m = "join" then joinB d xs
  else if m = "get" then getB d xs
  else if m = "split" then splitB d xs
  else if m = "startswith" then startsB d xs
  else if m = "index" then indexB d xs
  else none
def partD : D → Option (Option Int)
  | .int i => some (some i)
  | _ => none
def toldM (p : Str → Bool) (w : Str) (m : M D) : M D := fun dc => match m dc with
  | .ok d dc' => .ok d dc'
  | .er c dc' => if p c then .ok (.str w) dc' else .st
  | .st => .st
/-- what a test makes of a thing -/
def truD : D → Option Bool
  | .non => some false
  | .bl b => some b
  | .int i => some (i != 0)
  | .str x => if x.length ≤ szL then some (x.length != 0) else none
  | .lst xs => some (xs.length != 0)
  | .tup xs => some (xs.length != 0)
  | _ => none
def isSetE : Expr → Bool
  | .Set _ _ _ => true
  | _ => false
/-- the built-ins that biD knows -/
def isGn (f : Str) : Bool := f ∈ (["any", "all", "sum", "tuple"] : List Str)
def isBi (f : Str) : Bool := f ∈ (["len", "abs", "int", "min", "max", "sum", "list", "tuple", "sorted", "dict", "str"] : List Str)
def notSup : Expr → Bool
  | .Call (.Name _ _) [] [] _ => false
  | _ => true
/-- a call of a method that the rules know -/
def mcOk (o : Expr) (apos pos : Pos) (args : List Expr) : Bool := noStar args && decide (args.length < 30) && (apos.endLine == pos.line) && notSup o
/-- the receiver is a list or a dict of its own -/
def rcvB (C : Cn) (o : Expr) (ρ : En) : Bool := match o with
  | .Name x _ => locK C.sc x && (match ρ[ixOf C.N x]? with
    | some (.ow (.lst _)) => true
    | some (.ow (.dic _)) => true
    | _ => false)
  | _ => false
def bitT (t : M Bool) (a b : M D) : M D := do
  let c ← t
  if c then a else b
def isTupE : Expr → Bool
  | .Tuple _ _ _ => true
  | _ => false
/-- a pair at a time: the target takes it apart -/
def itOk (tg it : Expr) : Bool := match it with
  | .Call (.Name f _) _ _ _ => !(f = "zip" || f = "enumerate") || isTupE tg
  | .Call (.Attribute _ m _) _ _ _ => !(m = "items") || isTupE tg
  | .Set _ _ _ => false
  | _ => true
/-- what is walked may be a list of its own -/
def rcvL (b : Bool) (C : Cn) (e : Expr) (ρ : En) : Bool := b && match e with
  | .Name x _ => locK C.sc x && (match ρ[ixOf C.N x]? with
    | some (.ow (.lst _)) => true
    | _ => false)
  | _ => false
/-- all of them lambdas without parameters -/
def noPar : Arguments → Bool
  | ⟨[], [], none, [], [], none, []⟩ => true
  | _ => false
def lamsE (lp : List (Nat × Nat)) : List Expr → Option (List (Expr × Scope))
  | [] => some []
  | .Lambda ps body scope pos :: r => if noPar ps && decide ((pos.line, pos.col) ∈ lp) then (lamsE lp r).map fun l => (body, scope) :: l else none
  | _ => none
/-- the tests of each: all must raise what pr tells -/
def toldAll (pr : Str → Bool) : List (M D) → M Unit
  | [] => pure ()
  | m :: ms => fun dc => match m dc with
    | .er c dc' => if pr c then toldAll pr ms dc' else .st
    | _ => .st
/-- [.. for y in z if f(y) != w], f a def that tells errors, w its word -/
structure TL where
  pr : Str → Bool
  w : Str
  f : Str
  y : Str
  z : Str
def toldS (C : Cn) (tg it : Expr) (ifs : List Expr) : Option TL := match tg, it, ifs with
  | .Name y _, .Name z _, [.Compare (.Call (.Name f _) [.Name y' _] [] _) [.NotEq] [.Constant (.str w') _ _] _] =>
    (match C.Γ.told.lookup f with
     | some q => if y' = y ∧ w' = q.2 then some ⟨q.1, q.2, f, y, z⟩ else none
     | none => none)
  | _, _, _ => none
/-- the rules know it -/
def toldT (C : Cn) (scope : Scope) (t : TL) (ls : List (Expr × Scope)) : Bool :=
  blkB C.N C.sc scope && C.top && decide (3 ≤ C.g) && locK C.sc t.z && decide (t.z ∈ C.N) && locK scope t.y && stoN ⟨C.N, scope, C.Γ, C.g, false, C.lp⟩ t.y && gloK scope t.f && decide (eqD (.str t.w) (.str t.w) = some true) && ls.all (fun l => LamX.lamSB C.sc l.2)
def gnB (C : Cn) (g : GA) : Bool := gnC C.N C.sc g.scope (ownL C.N g.scope) && decide ((g.pos.line, g.pos.col) ∉ C.lp) && decide (8 ≤ C.g) && itOk g.tg g.it && notLst g.it
mutual
/-- an expression; b: it is only looked at -/
def dE : Nat → Bool → Cn → Expr → En → M D
  | 0, _, _, _, _ => M.st
  | n + 1, b, C, e, ρ => match e with
    | .Constant c _ _ => lift (cstD c)
    | .Name x _ => if locK C.sc x then (if b then rdB (ixOf C.N x) ρ else rdV (ixOf C.N x) ρ) else if gloK C.sc x then lift (C.Γ.gl.lookup x) else M.st
    | .BinOp l op r _ => do
      let x ← dE n true C l ρ
      let y ← dE n true C r ρ
      lift (binD op x y)
    | .UnaryOp .USub x _ => do
      let x ← dE n true C x ρ
      lift (negD x)
    | .UnaryOp .Not x _ => do
      let x ← dE n true C x ρ
      let c ← lift (asB x)
      pure (.bl (!c))
    | .BoolOp op vs _ => boolV op (vs.map fun e => dE n true C e ρ)
    | .Compare l [op] [r] _ => if isSetE r then M.st else do
      let x ← dE n true C l ρ
      let y ← dE n true C r ρ
      let c ← lift (cmpG C.Γ op x y)
      pure (.bl c)
    | .Compare l [op, op'] [r, r'] _ => if isSetE r' then M.st else do
      let x ← dE n true C l ρ
      let y ← dE n true C r ρ
      let c ← lift (cmpG C.Γ op x y)
      if c then
        let z ← dE n true C r' ρ
        let c' ← lift (cmpG C.Γ op' y z)
        pure (.bl c')
      else pure (.bl false)
    | .IfExp t a c _ => bitT (dT n C t ρ) (dE n false C a ρ) (dE n false C c ρ)
    | .Tuple es _ _ => do
      let ds ← seqM (es.map fun e => dE n false C e ρ)
      lift (mkT ds)
    | .List es _ => do
      let ds ← seqM (es.map fun e => dE n false C e ρ)
      lift (mkL ds)
    | .Dict [] [] _ => pure (.dic [])
    | .Dict (k :: ks) vs _ => if dispOk (k :: ks) vs = true then do
        let ps ← pairsM (((k :: ks).filterMap id).map fun e => dE n false C e ρ) (vs.map fun e => dE n false C e ρ)
        lift ((mergeD [] ps).map .dic)
      else M.st
    | .DictComp ke ve [⟨tg, it, ifs, a⟩] scope _ => if a = 0 ∧ blkB C.N C.sc scope = true ∧ itOk tg it = true then do
        let items ← dI n true C it ρ
        let kvs ← dcM (tgN n ⟨C.N, scope, C.Γ, C.g, false, C.lp⟩ tg) (fun ρ => noE (dTs n ⟨C.N, scope, C.Γ, C.g, false, C.lp⟩ ifs ρ)) (fun ρ => noE (dE n false ⟨C.N, scope, C.Γ, C.g, false, C.lp⟩ ke ρ)) (fun ρ => noE (dE n false ⟨C.N, scope, C.Γ, C.g, false, C.lp⟩ ve ρ)) (wipeE ρ (ownN C.N scope)) items []
        pure (.dic kvs)
      else M.st
    | .Attribute o f _ => if notSup o then do
        let d ← dE n true C o ρ
        lift (fldD C.Γ.fl f d)
      else M.st
    | .Subscript o (.Slice lo hi none _) _ => do
      let d ← dE n true C o ρ
      let l ← dO n C lo ρ
      let h ← dO n C hi ρ
      lift (slD d l h)
    | .Subscript o (.Slice lo none (some st) _) _ => do
      let d ← dE n true C o ρ
      let l ← dO n C lo ρ
      let s ← dO n C (some st) ρ
      lift (s.bind fun c => stD d l c)
    | .Subscript _ (.Slice _ _ _ _) _ => M.st
    | .Subscript o i _ => do
      let d ← dE n true C o ρ
      let x ← dE n true C i ρ
      ixM d x
    | .ListComp elt [⟨tg, it, ifs, a⟩] scope _ => if (toldS C tg it ifs).isSome = true then (match toldS C tg it ifs with
      | some t => (match ρ[ixOf C.N t.z]? with
        | some (.la ls) => if a = 0 ∧ toldT C scope t ls = true then do
          let _ ← toldAll t.pr (ls.map fun l => dE n false ⟨C.N, l.2, C.Γ, 0, false, C.lp⟩ l.1 ρ)
          pure (.lst []) else M.st
        | _ => M.st)
      | none => M.st)
      else if a = 0 ∧ blkB C.N C.sc scope = true ∧ itOk tg it = true then do
        let items ← dI n true C it ρ
        let ys ← lcM (tgN n ⟨C.N, scope, C.Γ, C.g, false, C.lp⟩ tg) (fun ρ => noE (dTs n ⟨C.N, scope, C.Γ, C.g, false, C.lp⟩ ifs ρ)) (fun ρ => noE (dE n false ⟨C.N, scope, C.Γ, C.g, false, C.lp⟩ elt ρ)) (wipeE ρ (ownN C.N scope)) items
        lift (mkL ys)
      else M.st
    | .ListComp elt [⟨tg, it, ifs, a⟩, ⟨tg1, it1, ifs1, a1⟩] scope _ => if a = 0 ∧ a1 = 0 ∧ blkB C.N C.sc scope = true ∧ itOk tg it = true ∧ itOk tg1 it1 = true ∧ (tgIx n ⟨C.N, scope, C.Γ, C.g, false, C.lp⟩ tg1).all (fun i => decide (i ∈ ownN C.N scope)) = true then do
        let items ← dI n true C it ρ
        let ys ← lc2M (tgN n ⟨C.N, scope, C.Γ, C.g, false, C.lp⟩ tg) (fun ρ => noE (dTs n ⟨C.N, scope, C.Γ, C.g, false, C.lp⟩ ifs ρ)) (fun ρ => noE (dI n false ⟨C.N, scope, C.Γ, C.g, false, C.lp⟩ it1 ρ)) (tgIx n ⟨C.N, scope, C.Γ, C.g, false, C.lp⟩ tg1)
          (tgN n ⟨C.N, scope, C.Γ, C.g, false, C.lp⟩ tg1) (fun ρ => noE (dTs n ⟨C.N, scope, C.Γ, C.g, false, C.lp⟩ ifs1 ρ)) (fun ρ => noE (dE n false ⟨C.N, scope, C.Γ, C.g, false, C.lp⟩ elt ρ)) (wipeE ρ (ownN C.N scope)) items
        lift (mkL ys)
      else M.st
    | .Call (.Name f _) args [] _ =>
      if gloK C.sc f && noStar args then (match C.Γ.told.lookup f with
        | some q => (match lamsE C.lp args with
          | some [l] => if 3 ≤ C.g ∧ LamX.lamSB C.sc l.2 = true then toldM q.1 q.2 (dE n false ⟨C.N, l.2, C.Γ, 0, false, C.lp⟩ l.1 ρ) else M.st
          | _ => M.st)
        | none => (match C.Γ.fn.lookup f with
          | some F => do
            let ds ← seqM (args.map fun e => dE n false C e ρ)
            F ds
          | none => (match C.Γ.mks.lookup f with
            | some F => do
              let ds ← seqM (args.map fun e => dE n false C e ρ)
              F ds
            | none => (match genArg args with
              | some g => if gnB C g && isGn f then do
                  let items ← dI n true C g.it ρ
                  genM f (tgN n ⟨C.N, g.scope, C.Γ, 0, false, C.lp⟩ g.tg) (fun ρ => noE (dTs n ⟨C.N, g.scope, C.Γ, 0, false, C.lp⟩ g.ifs ρ)) (fun ρ => noE (dE n false ⟨C.N, g.scope, C.Γ, 0, false, C.lp⟩ g.elt ρ)) (wipeE ρ (ownN C.N g.scope)) items
                  else M.st
              | none => if isBi f && !args.isEmpty then do
                let ds ← seqM (args.map fun e => dE n true C e ρ)
                lift (biD f ds)
                else M.st))))
      else M.st
    | .Call (.Attribute o m apos) args [] pos => if mcOk o apos pos args then do
        let d ← dE n (rcvB C o ρ) C o ρ
        (match d with
        | .obj c fs => (match C.Γ.me.lookup (c, m) with
          | some F => if (fs.lookup m).isNone then do
              let ds ← seqM (args.map fun e => dE n false C e ρ)
              F (.obj c fs :: ds) else M.st
          | none => M.st)
        | d => if smT m d && !args.isEmpty then do
            let ds ← seqM (args.map fun e => dE n true C e ρ)
            lift (smD m d ds)
          else M.st)
      else M.st
    | _ => M.st
def dO : Nat → Cn → Option Expr → En → M (Option Int)
  | 0, _, _, _ => M.st
  | n + 1, C, o, ρ => match o with
    | none => pure none
    | some e => do
      let d ← dE n true C e ρ
      lift (partD d)
def dT : Nat → Cn → Expr → En → M Bool
  | 0, _, _, _ => M.st
  | n + 1, C, e, ρ => match e with
    | .UnaryOp .Not x _ => do
      let c ← dT n C x ρ
      pure (!c)
    | .BoolOp op vs _ => allT op (vs.map fun e => dT n C e ρ)
    | .IfExp _ _ _ _ => M.st
    | .Compare l [op] [r] _ => if isSetE r then M.st else do
      let x ← dE n true C l ρ
      let y ← dE n true C r ρ
      lift (cmpG C.Γ op x y)
    | .Compare l [op, op'] [r, r'] _ => if isSetE r' then M.st else do
      let x ← dE n true C l ρ
      let y ← dE n true C r ρ
      let c ← lift (cmpG C.Γ op x y)
      if c then
        let z ← dE n true C r' ρ
        lift (cmpG C.Γ op' y z)
      else pure false
    | .Compare _ _ _ _ => M.st
    | e => do
      let d ← dE n true C e ρ
      lift (truD d)
/-- a clause's tests: none or one -/
def dTs : Nat → Cn → List Expr → En → M Bool
  | 0, _, _, _ => M.st
  | n + 1, C, es, ρ => match es with
    | [] => pure true
    | [e] => dT n C e ρ
    | _ => M.st
/-- what is walked -/
def dI : Nat → Bool → Cn → Expr → En → M (List D)
  | 0, _, _, _, _ => M.st
  | n + 1, b, C, e, ρ => match e with
    | .Call (.Name f p) args [] p2 =>
      if gloK C.sc f && f = "range" && (C.Γ.fn.lookup f).isNone && (C.Γ.mks.lookup f).isNone then (match args with
        | [x] => if !noStar args then M.st else do
          let d ← dE n true C x ρ
          (match d with
          | .int j => if -(2 ^ 62) ≤ j ∧ j < 2 ^ 62 then pure (rangeD 0 j) else M.st
          | _ => M.st)
        | [x, y] => if !noStar args then M.st else do
          let d ← dE n true C x ρ
          let e ← dE n true C y ρ
          (match d, e with
          | .int i, .int j => if -(2 ^ 62) ≤ i ∧ i < 2 ^ 62 ∧ -(2 ^ 62) ≤ j ∧ j < 2 ^ 62 then pure (rangeD i j) else M.st
          | _, _ => M.st)
        | _ => M.st)
      else if gloK C.sc f && f = "zip" && (C.Γ.fn.lookup f).isNone && (C.Γ.mks.lookup f).isNone then (match args with
        | [x, y] => if !noStar args then M.st else do
          let d ← dE n (rcvL b C x ρ) C x ρ
          let e ← dE n (rcvL b C y ρ) C y ρ
          (match d, e with
          | .lst xs, .lst ys => pure (zip2D xs ys)
          | .tup xs, .tup ys => pure (zip2D xs ys)
          | _, _ => M.st)
        | _ => M.st)
      else if gloK C.sc f && f = "enumerate" && (C.Γ.fn.lookup f).isNone && (C.Γ.mks.lookup f).isNone then (match args with
        | [x] => if !noStar args then M.st else do
          let d ← dE n (rcvL b C x ρ) C x ρ
          (match d with
          | .lst xs => pure (enumD xs)
          | _ => M.st)
        | _ => M.st)
      else do
        let d ← dE n (rcvL b C (.Call (.Name f p) args [] p2) ρ) C (.Call (.Name f p) args [] p2) ρ
        lift (itemsD d)
    | .Call (.Attribute o m p) [] [] p2 =>
      if !mcOk o p p2 [] then M.st
      else if m = "items" then do
        let d ← dE n (rcvL b C o ρ) C o ρ
        (match d with
        | .dic kvs => pure (kvs.map fun p => .tup [p.1, p.2])
        | _ => M.st)
      else if m = "values" then do
        let d ← dE n (rcvL b C o ρ) C o ρ
        (match d with
        | .dic kvs => pure (kvs.map (·.2))
        | _ => M.st)
      else do
        let d ← dE n (rcvL b C (.Call (.Attribute o m p) [] [] p2) ρ) C (.Call (.Attribute o m p) [] [] p2) ρ
        lift (itemsD d)
    | e => do
      let d ← dE n (rcvL b C e ρ) C e ρ
      lift (itemsD d)
end
/-! ### what a statement lets out of its slots -/
/-- true: whatever is there; false: a dict -/
abbrev Es := List (Nat × Bool)
mutual
def esc : Nat → Cn → Bool → Expr → Es
  | 0, _, _, _ => []
  | n + 1, C, b, e => match e with
    | .Name x _ => if b then [] else if locK C.sc x then [(ixOf C.N x, true)] else []
    | .BinOp l _ r _ => esc n C true l ++ esc n C true r
    | .UnaryOp _ x _ => esc n C true x
    | .BoolOp _ vs _ => vs.flatMap fun e => esc n C true e
    | .Compare l _ rs _ => esc n C true l ++ rs.flatMap fun e => esc n C true e
    | .IfExp t a c _ => esc n C true t ++ esc n C false a ++ esc n C false c
    | .Tuple es _ _ => es.flatMap fun e => esc n C false e
    | .List es _ => es.flatMap fun e => esc n C false e
    | .Dict ks vs _ => (ks.filterMap id).flatMap (fun e => esc n C false e) ++ vs.flatMap fun e => esc n C false e
    | .Attribute o _ _ => esc n C true o
    | .Subscript o i _ => esc n C true o ++ esc n C true i
    | .ListComp elt gens _ _ => esc n C false elt ++ gens.flatMap fun g => escI n C g.iter ++ g.ifs.flatMap fun e => esc n C true e
    | .DictComp k v gens _ _ => esc n C false k ++ esc n C false v ++ gens.flatMap fun g => escI n C g.iter ++ g.ifs.flatMap fun e => esc n C true e
    | .GeneratorExp elt gens _ _ => esc n C false elt ++ gens.flatMap fun g => escI n C g.iter ++ g.ifs.flatMap fun e => esc n C true e
    | .Lambda _ body _ _ => esc n C false body
    | .Call (.Name f _) args _ _ => args.flatMap fun e => esc n C ((C.Γ.fn.lookup f).isNone && (C.Γ.mks.lookup f).isNone) e ++ escI n C e
    | .Call (.Attribute o m _) args _ _ => esc n C true o ++ args.flatMap fun e => esc n C (m = "join" || m = "startswith" || m = "get" || m = "index" || m = "count") e
    | _ => []
/-- what is walked may stay one's own, but for a dict -/
def escI : Nat → Cn → Expr → Es
  | 0, _, _ => []
  | n + 1, C, e => match e with
    | .Name x _ => if locK C.sc x then [(ixOf C.N x, false)] else []
    | .Call (.Name _ _) args [] _ => args.flatMap fun e => escI n C e
    | .Call (.Attribute o _ _) [] [] _ => escI n C o
    | e => esc n C false e
end
def frz (ρ : En) : Es → En
  | [] => ρ
  | (i, k) :: is => match ρ[i]?, k with
    | some (.ow (.dic d)), _ => frz (ρ.set i (.va (.dic d))) is
    | some (.ow d), true => frz (ρ.set i (.va d)) is
    | _, _ => frz ρ is
def isComp : Expr → Bool
  | .ListComp _ _ _ _ => true
  | .SetComp _ _ _ _ => true
  | .DictComp _ _ _ _ _ => true
  | _ => false
/-- an expression that makes a new list or dict -/
def fresh : Expr → Bool
  | .List _ _ => true
  | .ListComp _ _ _ _ => true
  | .Dict _ _ _ => true
  | .DictComp _ _ _ _ _ => true
  | .BinOp _ _ _ _ => true
  | .Call (.Name f _) _ _ _ => f = "list" || f = "sorted" || f = "dict"
  | .Subscript _ (.Slice _ _ _ _) _ => true
  | _ => false
def slotOf (e : Expr) (d : D) : Slot := if fresh e && cont d then .ow d else .va d
def storeN (C : Cn) (x : Str) (s : Slot) (ρ : En) : Option En := if stoN C x then some (ρ.set (ixOf C.N x) s) else none
def isAdd : Operator → Bool
  | .Add => true
  | _ => false
def isPop : Expr → Option (Str × Pos × Pos × Pos)
  | .Call (.Attribute (.Name y py) m pa) [] [] pc => if m = "pop" then some (y, py, pa, pc) else none
  | _ => none
def popD : D → Option (D × D)
  | .lst xs => xs.getLast?.map fun d => (d, .lst xs.dropLast)
  | _ => none
/-- o op= y: a slot's new thing -/
def augS : Bool → Operator → D → D → Option Slot
  | _, .Add, .int i, .int j => some (.va (.int (i + j)))
  | _, .Add, .str i, .str j => if i.length + j.length ≤ szL then some (.va (.str (i ++ j))) else none
  | true, .Add, .lst xs, .lst ys => if xs.length + ys.length ≤ szL then some (.ow (.lst (xs ++ ys))) else none
  | _, _, _, _ => none
def atL : D → D → Option D
  | .lst xs, .int j => atD xs j
  | _, _ => none
def augI : Operator → D → D → Option D
  | .Add, .int i, .int j => some (.int (i + j))
  | _, _, _ => none
def notSl : Expr → Bool
  | .Slice _ _ _ _ => false
  | _ => true
def nmL : List Expr → Option (List Str)
  | [] => some []
  | .Name x _ :: r => (nmL r).map fun xs => x :: xs
  | _ => none
def parS (C : Cn) : List Str → List Expr → List D → En → Option En
  | [], [], [], ρ => some ρ
  | y :: ys, e :: es, d :: ds, ρ => (storeN C y (slotOf e d) ρ).bind fun ρ' => parS C ys es ds ρ'
  | _, _, _, _ => none
def slF (fr : Bool) (d : D) : Slot := if fr && cont d then .ow d else .va d
def parQ : List (Nat × Bool) → List D → En → Option En
  | [], [], ρ => some ρ
  | y :: ys, d :: ds, ρ => parQ ys ds (ρ.set y.1 (slF y.2 d))
  | _, _, _ => none
def parL (C : Cn) (ys : List Str) (es : List Expr) : List (Nat × Bool) := (ys.zip es).map fun q => (ixOf C.N q.1, fresh q.2)
theorem parS_eq {C : Cn} : ∀ {ys : List Str} {es : List Expr} {ds : List D} {ρ : En}, ys.all (stoN C) = true → es.length = ys.length → parS C ys es ds ρ = parQ (parL C ys es) ds ρ
  | [], [], [], _, _, _ => rfl
  | [], [], _ :: _, _, _, _ => rfl
  | _ :: _, _ :: _, [], _, _, _ => rfl
  | y :: ys, e :: es, d :: ds, ρ, h, hl => by
    rw [List.all_cons, Bool.and_eq_true] at h
    have e1 : parS C (y :: ys) (e :: es) (d :: ds) ρ = (storeN C y (slotOf e d) ρ).bind fun ρ' => parS C ys es ds ρ' := rfl
    rw [e1]
    unfold storeN
    rw [if_pos h.1]
    show parS C ys es ds _ = _
    rw [parS_eq h.2 (by simpa using hl)]
    rfl
def parOk (C : Cn) (ys : List Str) (es : List Expr) : Bool := ys.all (stoN C) && decide (es.length = ys.length) && decide (ys.length ≤ 1000) && (es.all (foldedForSure 8) || !es.all (constantsAlone 8)) && noStar es
def setC (c : D) (i v : D) : Option D := match c, i with
  | .lst xs, .int k => (ixN xs.length k).map fun j => .lst (xs.set j v)
  | .dic kvs, k => (putD k v kvs).map .dic
  | _, _ => none
def fldC (fl : List (Str × Str)) (f : Str) (y : D) : D → Option D
  | .obj k fs => if (k, f) ∈ fl ∧ fs.length < 1000 then some (.obj k (putF f y fs)) else none
  | _ => none
def delC (c : D) (i : D) : Option D := match c with
  | .dic kvs => if homK i kvs && (getK i kvs).isSome then some (.dic (delK i kvs)) else none
  | _ => none
def forM' (tg : D → En → Option En) (body : En → M Fl) : List D → En → M Fl
  | [], ρ => pure (.nx ρ)
  | x :: xs, ρ => do
    let ρ' ← lift (tg x ρ)
    let f ← body ρ'
    match f with
    | .nx ρ'' => forM' tg body xs ρ''
    | .ct ρ'' => forM' tg body xs ρ''
    | .bk ρ'' => pure (.nx ρ'')
    | .rt d ρ'' => pure (.rt d ρ'')
def whileM (t : En → M Bool) (body : En → M Fl) : Nat → En → M Fl
  | 0, _ => M.st
  | k + 1, ρ => do
    let c ← t ρ
    if c then
      let f ← body ρ
      match f with
      | .nx ρ'' => whileM t body k ρ''
      | .ct ρ'' => whileM t body k ρ''
      | .bk ρ'' => pure (.nx ρ'')
      | .rt d ρ'' => pure (.rt d ρ'')
    else pure (.nx ρ)
def owned (ρ : En) (i : Nat) : M D := match ρ[i]? with
  | some (.ow d) => pure d
  | _ => M.st
/-- o[i] = v -/
def setM (ρ : En) (j : Nat) (c : Option D) (k v : D) : M Fl := match c with
  | some c => lift ((setC c k v).map fun c' => .nx (ρ.set j (.ow c')))
  | none => fun dc => match setDc dc k v with
    | some dc' => .ok (.nx ρ) dc'
    | none => .st
/-- what a store aims at: a thing of its own, or the dice -/
def aimed (ρ : En) (i : Nat) : M (Option D) := match ρ[i]? with
  | some (.ow d) => pure (some d)
  | some (.va .dice) => pure none
  | _ => M.st
def isOw (ρ : En) (i : Nat) : Bool := match ρ[i]? with
  | some (.ow _) => true
  | _ => false
def raiF (C : Cn) : Expr → M Fl
  | .Call (.Name c _) [.Constant (.str _) _ _] [] _ => if gloK C.sc c && decide (c ∈ C.Γ.ex) then M.er c else M.st
  | _ => M.st
def lamsOf (lp : List (Nat × Nat)) : Expr → Option (List (Expr × Scope))
  | .List (e :: es) _ => lamsE lp (e :: es)
  | _ => none
/-- a list comprehension of told ones -/
def tcE (C : Cn) : Expr → Bool
  | .ListComp _ [⟨tg, it, ifs, _⟩] _ _ => (toldS C tg it ifs).isSome
  | _ => false
/-- name = e -/
def sNameF (n : Nat) (C : Cn) (x : Str) (e : Expr) (ρ : En) : M Fl := match isPop e with
  | some (y, py, pa, pc) => if locK C.sc y && decide (y ∈ C.N) && decide (x ≠ y) && stoN C x && mcOk (.Name y py) pa pc [] then do
    let c ← owned ρ (ixOf C.N y)
    lift ((popD c).map fun q => .nx ((ρ.set (ixOf C.N y) (.ow q.2)).set (ixOf C.N x) (.va q.1))) else M.st
  | none => match lamsOf C.lp e with
    | some ls => if C.top && C.g != 0 && stoN C x && ls.all (fun l => LamX.lamSB C.sc l.2) && decide (ls.length ≤ szL) then pure (.nx ((frz ρ (esc n C false e)).set (ixOf C.N x) (.la ls))) else M.st
    | none => if (stoN C x && !tcE C e) = true then do
      let ρ1 := frz ρ (esc n C false e)
      let d ← dE n false C e ρ1
      lift ((storeN C x (slotOf e d) ρ1).map .nx) else M.st
/-- a, b = e -/
def sTupF (n : Nat) (C : Cn) (ts : List Expr) (j : Nat) (pt : Pos) (e : Expr) (ρ : En) : M Fl := match nmL ts, e with
  | some ys, .Tuple es _ _ => if parOk C ys es then do
    let ρ1 := frz ρ (es.flatMap fun e => esc n C false e)
    let ds ← seqM (es.map fun e => dE n false C e ρ1)
    lift ((parQ (parL C ys es) ds ρ1).map .nx) else M.st
  | none, .Tuple _ _ _ => M.st
  | _, e => do
    let ρ1 := frz ρ (esc n C false e)
    let d ← dE n false C e ρ1
    lift ((tgN n C (.Tuple ts j pt) d ρ1).map .nx)
mutual
def dS : Nat → Cn → Stmt → En → M Fl
  | 0, _, _, _ => M.st
  | n + 1, C, s, ρ => match s with
    | .Pass _ => pure (.nx ρ)
    | .Break _ => pure (.bk ρ)
    | .Continue _ => pure (.ct ρ)
    | .Return none _ => pure (.rt .non ρ)
    | .Return (some e) _ => do
      let ρ1 := frz ρ (esc n C false e)
      let d ← dE n false C e ρ1
      pure (.rt d ρ1)
    | .Expr (.Call (.Attribute (.Name x px) m p1) [a] [] p2) _ =>
      if locK C.sc x && isOw ρ (ixOf C.N x) then (
        if m = "append" && decide (x ∈ C.N) && mcOk (.Name x px) p1 p2 [a] then do
          let ρ1 := frz ρ (esc n C false a)
          let c ← owned ρ1 (ixOf C.N x)
          match c with
          | .lst xs => do
            let y ← dE n false C a ρ1
            if xs.length < szL then pure (.nx (ρ1.set (ixOf C.N x) (.ow (.lst (xs ++ [y]))))) else M.st
          | _ => M.st
        else M.st)
      else do
        let ρ1 := frz ρ (esc n C false (.Call (.Attribute (.Name x px) m p1) [a] [] p2))
        let _ ← dE n false C (.Call (.Attribute (.Name x px) m p1) [a] [] p2) ρ1
        pure (.nx ρ1)
    | .Expr e _ => if isComp e then M.st else do
      let ρ1 := frz ρ (esc n C false e)
      let _ ← dE n false C e ρ1
      pure (.nx ρ1)
    | .Assign [t] e _ => (match t with
      | .Name x _ => sNameF n C x e ρ
      | .Tuple ts j pt => sTupF n C ts j pt e ρ
      | .Subscript (.Name x _) i _ => if locK C.sc x && decide (x ∈ C.N) && notSl i then do
        let ρ1 := frz ρ (esc n C false e ++ esc n C false i)
        let y ← dE n false C e ρ1
        let c ← aimed ρ1 (ixOf C.N x)
        let k ← dE n false C i ρ1
        setM ρ1 (ixOf C.N x) c k y else M.st
      | .Attribute (.Name x _) f _ => if locK C.sc x && decide (x ∈ C.N) then do
        let ρ1 := frz ρ (esc n C false e)
        let y ← dE n false C e ρ1
        let c ← owned ρ1 (ixOf C.N x)
        lift ((fldC C.Γ.fl f y c).map fun c' => .nx (ρ1.set (ixOf C.N x) (.ow c'))) else M.st
      | _ => M.st)
    | .AugAssign (.Name x _) op e _ => if isAdd op && stoN C x then do
      let ρ1 := frz ρ (esc n C true e)
      let old ← rdB (ixOf C.N x) ρ1
      let y ← dE n true C e ρ1
      lift ((augS (isOw ρ1 (ixOf C.N x)) op old y).map fun z => .nx (ρ1.set (ixOf C.N x) z)) else M.st
    | .If t a b _ => do
      let ρ1 := frz ρ (esc n C true t)
      let c ← dT n C t ρ1
      if c then dSs n C a ρ1 else dSs n C b ρ1
    | .While t body [] _ => whileM (fun ρ => dT n C t (ρ)) (dSs n C body) 1000000 (frz ρ (esc n C true t))
    | .For tg it body [] _ => if !itOk tg it then M.st else do
      let ρ1 := frz ρ (esc n C false it ++ escI n C it)
      let items ← dI n false C it ρ1
      forM' (tgN n C tg) (dSs n C body) items ρ1
    | .Raise (some e) none _ => raiF C e
    | _ => M.st
def dSs : Nat → Cn → List Stmt → En → M Fl
  | 0, _, _, _ => M.st
  | _ + 1, _, [], ρ => pure (.nx ρ)
  | n + 1, C, s :: ss, ρ => do
    let f ← dS n C s ρ
    match f with
    | .nx ρ' => dSs n C ss ρ'
    | f => pure f
end
/-- a def -/
def runF (C : Cn) (np : Nat) (body : En → M Fl) (ds : List D) : M D :=
  if ds.length = np then do
    let f ← body (ds.map .va ++ List.replicate (C.N.length - ds.length) .no)
    match f with
    | .rt d _ => pure d
    | .nx _ => pure .non
    | _ => M.st
  else M.st
/-- a class: its __init__ upon a new object -/
def runI (C : Cn) (cls : Str) (np : Nat) (body : En → M Fl) (ds : List D) : M D :=
  if ds.length + 1 = np then do
    let f ← body (.ow (.obj cls []) :: (ds.map .va ++ List.replicate (C.N.length - np) .no))
    match f with
    | .nx ρ => (match (ρ[0]? : Option Slot) with
      | some (.ow (.obj k fs)) => if k = cls then pure (.obj cls fs) else M.st
      | _ => M.st)
    | _ => M.st
  else M.st
end Px
set_option maxRecDepth 100000
set_option maxHeartbeats 2000000
/-! PS1: what stands for what; readings by an evaluator's function. -/
namespace Px
open PySem PySem.Spec PyProof.Rows L2

abbrev St := L2.St
/-- a flat key; a key of a tuple -/
def keyF : D → Option Key
  | .int i => some (.inl i)
  | .str x => some (.inr x)
  | _ => none
def keyFs : List D → Option (List Key)
  | [] => some []
  | x :: xs => match keyF x, keyFs xs with
    | some k, some ks => some (k :: ks)
    | _, _ => none
def keyT : D → Option (List Key)
  | .tup xs => keyFs xs
  | _ => none
section
variable (K : PySem.W.Frag) (da : Option Addr) (G : Hp)
mutual
def DV : D → V → Prop
  | .non, v => v = .non
  | .bl b, v => v = .bl b
  | .int i, v => v = .int i
  | .str x, v => v = .str x
  | .tup ds, v => ∃ a vs, v = .ref a ∧ G a = some (.tup vs) ∧ DVs ds vs
  | .lst ds, v => ∃ a vs, v = .ref a ∧ G a = some (.lst vs) ∧ DVs ds vs
  | .dic kvs, v => ∃ a od, v = .ref a ∧ ((∃ ws, G a = some (.frz od (.dK ws)) ∧ DVk kvs ws) ∨ ∃ ws, G a = some (.frz od (.dT ws)) ∧ DVt kvs ws)
  | .obj c fs, v => ∃ a dx ws, v = .ref a ∧ G a = some (.ins (He.ga K c) dx ws) ∧ G dx = some (.own a) ∧ DVf fs ws
  | .dice, v => ∃ a, da = some a ∧ v = .ref a
  | .ktup ds, v => ∃ a vs, v = .ref a ∧ (∀ H, SqT K H a vs) ∧ DVs ds vs
  | .kdic _, _ => False
  | .klst ds, v => ∃ a vs, v = .ref a ∧ SqL K G a vs ∧ DVs ds vs
def DVs : List D → List V → Prop
  | [], vs => vs = []
  | d :: ds, vs => ∃ v r, vs = v :: r ∧ DV d v ∧ DVs ds r
def DVk : List (D × D) → List (Key × V) → Prop
  | [], ws => ws = []
  | (k, d) :: ds, ws => ∃ k' v r, ws = (k', v) :: r ∧ keyF k = some k' ∧ DV d v ∧ DVk ds r
def DVt : List (D × D) → List (List Key × V) → Prop
  | [], ws => ws = []
  | (k, d) :: ds, ws => ∃ k' v r, ws = (k', v) :: r ∧ keyT k = some k' ∧ DV d v ∧ DVt ds r
def DVf : List (Str × D) → List (Str × V) → Prop
  | [], ws => ws = []
  | (f, d) :: ds, ws => ∃ v r, ws = (f, v) :: r ∧ DV d v ∧ DVf ds r
end
end
def Sub (G H : Hp) : Prop := ∀ a o, G a = some o → H a = some o
theorem Sub.refl (G : Hp) : Sub G G := fun _ _ h => h
theorem Sub.trans {G H J : Hp} (a : Sub G H) (b : Sub H J) : Sub G J := fun x o h => b x o (a x o h)
theorem Sub.sqT {K : PySem.W.Frag} {G H : Hp} {a : Addr} {vs : List V} (s : Sub G H) (h : SqT K G a vs) : SqT K H a vs := by
  rcases h with (h | ⟨o, h⟩) | h
  · exact .inl (.inl (s _ _ h))
  · exact .inl (.inr ⟨o, s _ _ h⟩)
  · exact .inr h
theorem Sub.sqL {K : PySem.W.Frag} {G H : Hp} {a : Addr} {vs : List V} (s : Sub G H) (h : SqL K G a vs) : SqL K H a vs := by
  rcases h with (h | ⟨o, h⟩) | h
  · exact .inl (.inl (s _ _ h))
  · exact .inl (.inr ⟨o, s _ _ h⟩)
  · exact .inr h
section
variable {K : PySem.W.Frag} {da : Option Addr} {G H : Hp}
mutual
theorem DV.mono (s : Sub G H) : ∀ (d : D) (v : V), DV K da G d v → DV K da H d v
  | .non, _, h => h
  | .bl _, _, h => h
  | .int _, _, h => h
  | .str _, _, h => h
  | .tup ds, _, ⟨a, vs, e, h1, h2⟩ => ⟨a, vs, e, s _ _ h1, DVs.mono s ds vs h2⟩
  | .lst ds, _, ⟨a, vs, e, h1, h2⟩ => ⟨a, vs, e, s _ _ h1, DVs.mono s ds vs h2⟩
  | .dic kvs, _, ⟨a, od, e, .inl ⟨ws, h1, h2⟩⟩ => ⟨a, od, e, .inl ⟨ws, s _ _ h1, DVk.mono s kvs ws h2⟩⟩
  | .dic kvs, _, ⟨a, od, e, .inr ⟨ws, h1, h2⟩⟩ => ⟨a, od, e, .inr ⟨ws, s _ _ h1, DVt.mono s kvs ws h2⟩⟩
  | .obj _ fs, _, ⟨a, dx, ws, e, h1, h2, h3⟩ => ⟨a, dx, ws, e, s _ _ h1, s _ _ h2, DVf.mono s fs ws h3⟩
  | .dice, _, h => h
  | .ktup ds, _, ⟨a, vs, e, h1, h2⟩ => ⟨a, vs, e, h1, DVs.mono s ds vs h2⟩
  | .kdic _, _, h => h
  | .klst ds, _, ⟨a, vs, e, h1, h2⟩ => ⟨a, vs, e, Sub.sqL s h1, DVs.mono s ds vs h2⟩
theorem DVs.mono (s : Sub G H) : ∀ (ds : List D) (vs : List V), DVs K da G ds vs → DVs K da H ds vs
  | [], _, h => h
  | d :: ds, _, ⟨v, r, e, h1, h2⟩ => ⟨v, r, e, DV.mono s d v h1, DVs.mono s ds r h2⟩
theorem DVk.mono (s : Sub G H) : ∀ (ds : List (D × D)) (vs : List (Key × V)), DVk K da G ds vs → DVk K da H ds vs
  | [], _, h => h
  | (k, d) :: ds, _, ⟨k', v, r, e, hk, h1, h2⟩ => ⟨k', v, r, e, hk, DV.mono s d v h1, DVk.mono s ds r h2⟩
theorem DVt.mono (s : Sub G H) : ∀ (ds : List (D × D)) (vs : List (List Key × V)), DVt K da G ds vs → DVt K da H ds vs
  | [], _, h => h
  | (k, d) :: ds, _, ⟨k', v, r, e, hk, h1, h2⟩ => ⟨k', v, r, e, hk, DV.mono s d v h1, DVt.mono s ds r h2⟩
theorem DVf.mono (s : Sub G H) : ∀ (ds : List (Str × D)) (vs : List (Str × V)), DVf K da G ds vs → DVf K da H ds vs
  | [], _, h => h
  | (f, d) :: ds, _, ⟨v, r, e, h1, h2⟩ => ⟨v, r, e, DV.mono s d v h1, DVf.mono s ds r h2⟩
end
theorem DVs.length : ∀ {ds : List D} {vs : List V}, DVs K da G ds vs → vs.length = ds.length
  | [], _, h => by
    cases h
    rfl
  | _ :: ds, _, ⟨v, r, e, _, h2⟩ => by
    cases e
    show r.length + 1 = ds.length + 1
    rw [DVs.length h2]
theorem DVs.get : ∀ {ds : List D} {vs : List V} {i : Nat} {d : D}, DVs K da G ds vs → ds[i]? = some d → ∃ v, vs[i]? = some v ∧ DV K da G d v
  | [], _, _, _, _, e => by simp at e
  | d :: ds, _, 0, _, ⟨v, r, e, h1, _⟩, q => by
    cases e
    simp at q
    subst q
    exact ⟨v, rfl, h1⟩
  | d :: ds, _, i + 1, x, ⟨v, r, e, _, h2⟩, q => by
    cases e
    obtain ⟨u, h3, h4⟩ := DVs.get (i := i) (d := x) h2 (by simpa using q)
    exact ⟨u, by simpa using h3, h4⟩
theorem DVs.append : ∀ {ds es : List D} {vs us : List V}, DVs K da G ds vs → DVs K da G es us → DVs K da G (ds ++ es) (vs ++ us)
  | [], _, _, _, h, h' => by
    cases h
    exact h'
  | _ :: _, _, _, _, ⟨v, r, e, h1, h2⟩, h' => by
    cases e
    exact ⟨v, r ++ _, rfl, h1, DVs.append h2 h'⟩
theorem DVs.one {d : D} {v : V} (h : DV K da G d v) : DVs K da G [d] [v] := ⟨v, [], rfl, h, rfl⟩
theorem DVs.snoc {ds : List D} {vs : List V} {d : D} {v : V} (h : DVs K da G ds vs) (h' : DV K da G d v) : DVs K da G (ds ++ [d]) (vs ++ [v]) := h.append (.one h')
theorem DVs.drop : ∀ {ds : List D} {vs : List V} (n : Nat), DVs K da G ds vs → DVs K da G (ds.drop n) (vs.drop n)
  | _, _, 0, h => h
  | [], _, n + 1, h => by
    cases h
    exact rfl
  | _ :: _, _, n + 1, ⟨v, r, e, _, h2⟩ => by
    cases e
    exact DVs.drop n h2
theorem DVs.take : ∀ {ds : List D} {vs : List V} (n : Nat), DVs K da G ds vs → DVs K da G (ds.take n) (vs.take n)
  | _, _, 0, h => rfl
  | [], _, n + 1, h => by
    cases h
    exact rfl
  | _ :: _, _, n + 1, ⟨v, r, e, h1, h2⟩ => by
    cases e
    exact ⟨v, r.take n, rfl, h1, DVs.take n h2⟩
theorem DVs.set : ∀ {ds : List D} {vs : List V} {d : D} {v : V} (n : Nat), DVs K da G ds vs → DV K da G d v → DVs K da G (ds.set n d) (vs.set n v)
  | [], _, _, _, n, h, _ => by
    cases h
    exact rfl
  | _ :: _, _, _, _, 0, ⟨v, r, e, h1, h2⟩, h' => by
    cases e
    exact ⟨_, r, rfl, h', h2⟩
  | _ :: _, _, _, _, n + 1, ⟨v, r, e, h1, h2⟩, h' => by
    cases e
    exact ⟨v, _, rfl, h1, DVs.set n h2 h'⟩
theorem DVs.rep {ds : List D} {vs : List V} (h : DVs K da G ds vs) : ∀ k : Nat, DVs K da G (List.replicate k ds).flatten (List.replicate k vs).flatten
  | 0 => rfl
  | k + 1 => by
    rw [List.replicate_succ, List.replicate_succ, List.flatten_cons, List.flatten_cons]
    exact h.append (DVs.rep h k)
theorem DVs.reverse : ∀ {ds : List D} {vs : List V}, DVs K da G ds vs → DVs K da G ds.reverse vs.reverse
  | [], _, h => by
    cases h
    exact rfl
  | _ :: _, _, ⟨v, r, e, h1, h2⟩ => by
    cases e
    rw [List.reverse_cons, List.reverse_cons]
    exact (DVs.reverse h2).snoc h1
theorem DVf.lookup {f : Str} : ∀ {fs : List (Str × D)} {ws : List (Str × V)} {d : D}, DVf K da G fs ws → fs.lookup f = some d → ∃ v, ws.lookup f = some v ∧ DV K da G d v
  | [], _, _, _, e => by cases e
  | (g, d) :: fs, _, x, ⟨v, r, e, h1, h2⟩, q => by
    cases e
    rw [List.lookup_cons] at q ⊢
    cases hg : (f == g) with
    | true =>
      rw [hg] at q
      cases q
      exact ⟨v, rfl, h1⟩
    | false =>
      rw [hg] at q
      exact DVf.lookup h2 q
theorem DVf.lookup_none {f : Str} : ∀ {fs : List (Str × D)} {ws : List (Str × V)}, DVf K da G fs ws → fs.lookup f = none → ws.lookup f = none
  | [], _, h, _ => by
    cases h
    rfl
  | (g, d) :: fs, _, ⟨v, r, e, h1, h2⟩, q => by
    cases e
    rw [List.lookup_cons] at q ⊢
    cases hg : (f == g) with
    | true =>
      rw [hg] at q
      cases q
    | false =>
      rw [hg] at q
      exact DVf.lookup_none h2 q
theorem DVf.length : ∀ {ds : List (Str × D)} {vs : List (Str × V)}, DVf K da G ds vs → vs.length = ds.length
  | [], _, h => by
    cases h
    rfl
  | _ :: ds, _, ⟨v, r, e, _, h2⟩ => by
    cases e
    show r.length + 1 = ds.length + 1
    rw [DVf.length h2]
theorem DVf.putF {f : Str} {d : D} {v : V} (hv : DV K da G d v) : ∀ {ds : List (Str × D)} {vs : List (Str × V)}, DVf K da G ds vs → DVf K da G (Px.putF f d ds) (L2.putF f v vs)
  | [], _, h => by
    cases h
    exact ⟨v, [], rfl, hv, rfl⟩
  | (g, u) :: ds, _, ⟨w, r, e, h1, h2⟩ => by
    cases e
    unfold Px.putF L2.putF
    by_cases hg : g = f
    · rw [if_pos hg, if_pos hg]
      exact ⟨v, r, rfl, hv, h2⟩
    · rw [if_neg hg, if_neg hg]
      exact ⟨w, _, rfl, h1, DVf.putF hv h2⟩
end
/-! ### the state -/
/-- the table of code objects at P: at the places lp stand lambdas of the def q -/
def TabQ (H : Hp) (t : Addr × List (Nat × Nat) × Str) : Prop := ∃ ps : Array Value, H t.1 = some (.tbl ps) ∧ TriplesOk ps.toList ∧ ∀ (pos : Pos) (cv : Value), codeAmong pos ps.toList = some cv → (pos.line, pos.col) ∈ t.2.1 → ∃ c, cv = .ref c ∧ H c = some (LamX.CodeO c (t.2.2 ++ "<lambda>"))
theorem TabQ.ext {t : Addr × List (Nat × Nat) × Str} {H H' : Hp} (x : TabQ H t) (e : ∀ b o, H b = some o → H' b = some o) : TabQ H' t := by
  obtain ⟨ps, h1, h2, h3⟩ := x
  refine ⟨ps, e _ _ h1, h2, fun pos cv hc hp => ?_⟩
  obtain ⟨c, e1, e2⟩ := h3 pos cv hc hp
  exact ⟨c, e1, e _ _ e2⟩
structure Qk where
  K : PySem.W.Frag
  da : Option Addr
  T : List (Addr × List (Nat × Nat) × Str)
/-- H0: the heap when the def began; Hb: the heap behind which a thing counts as new -/
structure Pk extends Qk where
  H0 : Hp
  Hb : Hp
  cl : List (Str × Addr)
  q : Str
  sa : Option (Addr × Addr)
/-- no parameters -/
abbrev noArgs : Arguments := ⟨[], [], none, [], [], none, []⟩
/-- the object at f is a lambda without parameters -/
def LamO (f : Addr) (q : Str) (body : Expr) (scope : Scope) (cl : List (Str × Addr)) (c : Addr) : HO := .ext fun h => ∃ pm ctv, h.get? f = some (PySem.W.kla_obj "<lambda>" q noArgs body scope cl pm c ctv)
def Lams (q : Str) (cl : List (Str × Addr)) (G : Hp) : List (Expr × Scope) → List V → Prop
  | [], vs => vs = []
  | l :: ls, vs => ∃ f c' r, vs = .ref f :: r ∧ G f = some (LamO f (q ++ "<lambda>") l.1 l.2 (cloFrom cl l.2.names []) c') ∧ G c' = some (LamX.CodeO c' (q ++ "<lambda>")) ∧ Lams q cl G ls r
def LA (p : Pk) (G : Hp) (ls : List (Expr × Scope)) (v : V) : Prop := ∃ a vs, v = .ref a ∧ G a = some (.lst vs) ∧ Lams p.q p.cl G ls vs
theorem Lams.mono {q : Str} {cl : List (Str × Addr)} {G H : Hp} (s : Sub G H) : ∀ {ls : List (Expr × Scope)} {vs : List V}, Lams q cl G ls vs → Lams q cl H ls vs
  | [], _, h => h
  | _ :: _, _, ⟨f, c', r, e, h1, h2, h3⟩ => ⟨f, c', r, e, s _ _ h1, s _ _ h2, Lams.mono s h3⟩
theorem LA.mono {p : Pk} {G H : Hp} (s : Sub G H) {ls : List (Expr × Scope)} {v : V} : LA p G ls v → LA p H ls v
  | ⟨a, vs, e, h1, h2⟩ => ⟨a, vs, e, s _ _ h1, Lams.mono s h2⟩
def Ext (da : Option Addr) (H H' : Hp) : Prop := (∀ a o, H a = some o → da ≠ some a → (∀ ps, o ≠ .tbl ps) → H' a = some o) ∧ ∀ a, H a ≠ none → H' a ≠ none
theorem Ext.refl (da : Option Addr) (H : Hp) : Ext da H H := ⟨fun _ _ h _ _ => h, fun _ h => h⟩
theorem Ext.trans {da : Option Addr} {H H1 H2 : Hp} (a : Ext da H H1) (b : Ext da H1 H2) : Ext da H H2 :=
  ⟨fun x o h d t => b.1 x o (a.1 x o h d t) d t, fun x h => b.2 x (a.2 x h)⟩
structure GSq (p : Qk) (dc : Dc) (G H : Hp) : Prop where
  sub : Sub G H
  dice : ∀ a, p.da = some a → H a = some (.lst [.int dc.1, .int dc.2.1, .int dc.2.2]) ∧ G a = none
  tabs : ∀ t ∈ p.T, TabQ H t
  tabf : ∀ q ∈ p.T, G q.1 = none
abbrev GS (p : Pk) (dc : Dc) (G H : Hp) : Prop := GSq p.toQk dc G H
/-- what a slot may own -/
def ownO : HO → Bool
  | .lst _ => true
  | .dK _ => true
  | .dT _ => true
  | .ins _ _ _ => true
  | .own _ => true
  | _ => false
theorem ownO_tbl {o : HO} (h : ownO o = true) : ∀ ps, o ≠ .tbl ps := fun ps z => by rw [z] at h; cases h
structure Grow (da : Option Addr) (G H G' H' : Hp) : Prop where
  sub : Sub G G'
  nw : ∀ a o, G a = none → H a = some o → ownO o = true → da ≠ some a → G' a = none
  ext : Ext da H H'
theorem Grow.refl (da : Option Addr) (G H : Hp) : Grow da G H G H := ⟨.refl G, fun _ _ h _ _ _ => h, .refl _ _⟩
theorem Grow.trans {da : Option Addr} {G H G1 H1 G2 H2 : Hp} (a : Grow da G H G1 H1) (b : Grow da G1 H1 G2 H2) : Grow da G H G2 H2 :=
  ⟨a.sub.trans b.sub, fun x o h1 h2 h3 h4 => b.nw x o (a.nw x o h1 h2 h3 h4) (a.ext.1 x o h2 h4 (ownO_tbl h3)) h3 h4, a.ext.trans b.ext⟩
/-- what a slot owns -/
def OW (p : Pk) (G H : Hp) (a : Addr) : D → Prop
  | .lst ds => ∃ vs, H a = some (.lst vs) ∧ DVs p.K p.da G ds vs
  | .dic kvs => (∃ ws, H a = some (.dK ws) ∧ DVk p.K p.da G kvs ws) ∨ ∃ ws, H a = some (.dT ws) ∧ DVt p.K p.da G kvs ws
  | .obj c fs => ∃ dx ws, H a = some (.ins (He.ga p.K c) dx ws) ∧ G dx = none ∧ H dx = some (.own a) ∧ (p.H0 dx = none ∧ p.sa = some (a, dx)) ∧ DVf p.K p.da G fs ws
  | _ => False
structure OWn (p : Pk) (G H : Hp) (a : Addr) (d : D) : Prop where
  ow : OW p G H a d
  gn : G a = none
  nd : p.da ≠ some a
  h0 : p.H0 a = none
structure RS (p : Pk) (ρ : En) (σ : St) (G H : Hp) : Prop where
  len : ρ.length = σ.length
  va : ∀ (i : Nat) d, ρ[i]? = some (.va d) → ∃ v, σ[i]? = some (some v) ∧ DV p.K p.da G d v
  la : ∀ (i : Nat) ls, ρ[i]? = some (.la ls) → ∃ v, σ[i]? = some (some v) ∧ LA p G ls v
  ow : ∀ (i : Nat) d, ρ[i]? = some (.ow d) → ∃ a, σ[i]? = some (some (.ref a)) ∧ OWn p G H a d
  dj : ∀ (i j : Nat) d e (a : Addr), ρ[i]? = some (.ow d) → ρ[j]? = some (.ow e) → σ[i]? = some (some (.ref a)) → σ[j]? = some (some (.ref a)) → i = j
  ent : Ext p.da p.H0 H
  hb : ∀ a, p.Hb a ≠ none → H a ≠ none
theorem OW.no_tbl {p : Pk} {G H : Hp} {a : Addr} {d : D} (h : OW p G H a d) : ∃ o, H a = some o ∧ ownO o = true := by
  cases d with
  | lst ds => exact ⟨_, h.choose_spec.1, rfl⟩
  | dic kvs =>
    rcases h with ⟨ws, h, _⟩ | ⟨ws, h, _⟩
    · exact ⟨_, h, rfl⟩
    · exact ⟨_, h, rfl⟩
  | obj c fs =>
    obtain ⟨dx, ws, h, _⟩ := h
    exact ⟨_, h, rfl⟩
  | _ => exact h.elim
theorem OWn.grow {p : Pk} {G H G' H' : Hp} {a : Addr} {d : D} (h : OWn p G H a d) (g : Grow p.da G H G' H') (hdice : ∀ x, p.da = some x → ∃ vs, H x = some (.lst vs)) : OWn p G' H' a d := by
  obtain ⟨o, e, nt⟩ := h.ow.no_tbl
  have e' := g.ext.1 a o e h.nd (ownO_tbl nt)
  refine ⟨?_, g.nw a o h.gn e nt h.nd, h.nd, h.h0⟩
  have w := h.ow
  cases d with
  | lst ds =>
    obtain ⟨vs, e1, e2⟩ := w
    rw [e] at e1; cases e1
    exact ⟨vs, e', DVs.mono g.sub _ _ e2⟩
  | dic kvs =>
    rcases w with ⟨ws, e1, e2⟩ | ⟨ws, e1, e2⟩
    · rw [e] at e1; cases e1
      exact .inl ⟨ws, e', DVk.mono g.sub _ _ e2⟩
    · rw [e] at e1; cases e1
      exact .inr ⟨ws, e', DVt.mono g.sub _ _ e2⟩
  | obj c fs =>
    obtain ⟨dx, ws, e1, e2, e3, e4, e5⟩ := w
    rw [e] at e1; cases e1
    have nd : p.da ≠ some dx := fun z => by
      obtain ⟨vs, q⟩ := hdice dx z
      rw [e3] at q; cases q
    exact ⟨dx, ws, e', g.nw dx _ e2 e3 rfl nd, g.ext.1 dx _ e3 nd (fun ps z => by cases z), e4, DVf.mono g.sub _ _ e5⟩
  | _ => exact w.elim
theorem GS.hd {p : Pk} {dc : Dc} {G H : Hp} (g : GS p dc G H) : ∀ x, p.da = some x → ∃ vs, H x = some (.lst vs) := fun x e => ⟨_, (g.dice x e).1⟩
theorem RS.grow {p : Pk} {ρ : En} {σ : St} {G H G' H' : Hp} {dc : Dc} (r : RS p ρ σ G H) (s : GS p dc G H) (g : Grow p.da G H G' H') : RS p ρ σ G' H' :=
  ⟨r.len, fun i d e => let ⟨v, h1, h2⟩ := r.va i d e; ⟨v, h1, DV.mono g.sub _ _ h2⟩, fun i d e => let ⟨v, h1, h2⟩ := r.la i d e; ⟨v, h1, h2.mono g.sub⟩, fun i d e => let ⟨a, h1, h2⟩ := r.ow i d e; ⟨a, h1, h2.grow g s.hd⟩, r.dj, r.ent.trans g.ext, fun a h => g.ext.2 a (r.hb a h)⟩
/-! ### readings -/
inductive Md where
  | va | fr | bo
/-- va: a frozen thing; fr: a list or dict of its own; bo: a thing to be looked at -/
def RV (p : Pk) (m : Md) (G H : Hp) (d : D) (v : V) : Prop := match m with
  | .va => DV p.K p.da G d v
  | .fr => if cont d then ∃ a, v = .ref a ∧ OWn p G H a d ∧ p.Hb a = none else DV p.K p.da G d v
  | .bo => DV p.K p.da G d v ∨ ∃ a, v = .ref a ∧ OWn p G H a d
def Post {α β : Type} (p : Pk) (W : WX) (rel : Hp → Hp → α → β → Prop) (σ : St) (G H : Hp) (out : Out α) (Q : β → Hp → Prop) : Prop := match out with
  | .ok d dc' => ∀ v G' H', GS p dc' G' H' → Grow p.da G H G' H' → rel G' H' d v → Q v H'
  | .er c dc' => ∀ G' H', GS p dc' G' H' → Grow p.da G H G' H' → W (.ref (He.ga p.K c)) none σ H'
  | .st => False
def tM {α β : Type} (p : Pk) (W : WX) (rel : Hp → Hp → α → β → Prop) (f : En → M α) : St → Hp → (β → Hp → Prop) → Prop := fun σ H Q => ∃ ρ G dc, GS p dc G H ∧ RS p ρ σ G H ∧ Post p W rel σ G H (f ρ dc) Q
abbrev tE (p : Pk) (W : WX) (m : Md) (f : En → M D) : TE := tM p W (RV p m) f
abbrev tB (p : Pk) (W : WX) (f : En → M Bool) : TT := tM p W (fun _ _ b c => c = b) f
abbrev tA (p : Pk) (W : WX) (m : Md) (f : En → M (List D)) : TA := tM p W (fun G H ds vs => Paired (fun d v => RV p m G H d v) ds vs) f
section
variable {α β γ δ : Type} {p : Pk} {W : WX} {rel : Hp → Hp → α → β → Prop} {rel2 : Hp → Hp → γ → δ → Prop} {σ : St} {G H G1 H1 : Hp} {dc : Dc} {Q : δ → Hp → Prop} {Q' : β → Hp → Prop}
theorem Post.grow {out : Out γ} (h : Post p W rel2 σ G H out Q) (g : Grow p.da G H G1 H1) : Post p W rel2 σ G1 H1 out Q := by
  cases out with
  | ok d dc' => exact fun v G' H' s g' r => h v G' H' s (g.trans g') r
  | er c dc' => exact fun G' H' s g' => h G' H' s (g.trans g')
  | st => exact h
theorem Post.seq {m : M α} {k : α → M γ} (h : Post p W rel2 σ G H ((m >>= k) dc) Q)
    (c : ∀ d dc1 v G1 H1, m dc = .ok d dc1 → GS p dc1 G1 H1 → Grow p.da G H G1 H1 → rel G1 H1 d v → Post p W rel2 σ G1 H1 (k d dc1) Q → Q' v H1) : Post p W rel σ G H (m dc) Q' := by
  have e : (m >>= k) dc = match m dc with
    | .ok a d' => k a d'
    | .er c d' => .er c d'
    | .st => .st := rfl
  rw [e] at h
  cases hm : m dc with
  | ok d dc1 =>
    rw [hm] at h
    exact fun v G1 H1 s g r => c d dc1 v G1 H1 hm s g r (Post.grow h g)
  | er c dc1 =>
    rw [hm] at h
    exact h
  | st =>
    rw [hm] at h
    exact h.elim
theorem Post.lift {o : Option γ} (h : Post p W rel2 σ G H (lift o dc) Q) : ∃ d, o = some d ∧ ∀ v G' H', GS p dc G' H' → Grow p.da G H G' H' → rel2 G' H' d v → Q v H' := by
  cases o with
  | some d => exact ⟨d, rfl, h⟩
  | none => exact (show False from h).elim
theorem Post.liftB {α' : Type} {o : Option α'} {k : α' → M γ} (h : Post p W rel2 σ G H ((Px.lift o >>= k) dc) Q) : ∃ d, o = some d ∧ Post p W rel2 σ G H (k d dc) Q := by
  cases o with
  | some d => exact ⟨d, rfl, h⟩
  | none => exact (show False from h).elim
theorem Post.imp {out : Out α} {Q'' : β → Hp → Prop} (h : Post p W rel σ G H out Q') (i : ∀ v H, Q' v H → Q'' v H) : Post p W rel σ G H out Q'' := by
  cases out with
  | ok d dc' => exact fun v G' H' s g r => i _ _ (h v G' H' s g r)
  | er c dc' => exact h
  | st => exact h
end
theorem PE.imp {X : Cx} {e : Expr} {t t' : TE} (h : PE X e t) (i : ∀ σ H Q, t' σ H Q → t σ H Q) : PE X e t' := ⟨fun pins s σ H Q I q => h.run pins s σ H Q I (i σ H Q q)⟩
theorem PT.imp {X : Cx} {e : Expr} {t t' : TT} (h : PT X e t) (i : ∀ σ H Q, t' σ H Q → t σ H Q) : PT X e t' := ⟨fun pins s σ H Q I q => h.run pins s σ H Q I (i σ H Q q)⟩
theorem PA.imp {X : Cx} {es : List Expr} {t t' : TA} (h : PA X es t) (i : ∀ σ H Q, t' σ H Q → t σ H Q) : PA X es t' := ⟨fun pos pins s σ H Q I q => h.run pos pins s σ H Q I (i σ H Q q)⟩
/-! ### a new thing -/
section
variable {p : Pk} {G H : Hp} {dc : Dc} {a : Addr} {o : HO}
theorem Ext.new (da : Option Addr) (hp : H a = none) : Ext da H (upd H a o) :=
  ⟨fun b u e _ _ => by rw [upd_ne (ne_of_none e hp)]; exact e, fun b h => by
    by_cases e : b = a
    · subst e; exact absurd hp h
    · rw [upd_ne e]; exact h⟩
theorem TabsN.new {T : List (Addr × List (Nat × Nat) × Str)} (t : ∀ t ∈ T, TabQ H t) (hp : H a = none) : ∀ t ∈ T, TabQ (upd H a o) t := fun q hq => (t q hq).ext fun b u e => by rw [upd_ne (ne_of_none e hp)]; exact e
theorem GS.newH (s : GS p dc G H) (hp : H a = none) : GS p dc G (upd H a o) where
  sub := fun b u e => by
    have q := s.sub b u e
    rw [upd_ne (ne_of_none q hp)]; exact q
  dice := fun b e => ⟨by rw [upd_ne (ne_of_none (s.dice b e).1 hp)]; exact (s.dice b e).1, (s.dice b e).2⟩
  tabs := TabsN.new s.tabs hp
  tabf := s.tabf
theorem GS.newG (s : GS p dc G H) (hp : H a = none) : GS p dc (upd G a o) (upd H a o) where
  sub := fun b u e => by
    by_cases hb : b = a
    · subst hb; rw [upd_same] at e ⊢; exact e
    · rw [upd_ne hb] at e ⊢; exact s.sub b u e
  dice := fun b e => ⟨by rw [upd_ne (ne_of_none (s.dice b e).1 hp)]; exact (s.dice b e).1, by rw [upd_ne (ne_of_none (s.dice b e).1 hp)]; exact (s.dice b e).2⟩
  tabs := TabsN.new s.tabs hp
  tabf := fun q hq => by
    obtain ⟨ps, e, _⟩ := s.tabs q hq
    rw [upd_ne (ne_of_none e hp)]; exact s.tabf q hq
theorem GS.gnone (s : GS p dc G H) (hp : H a = none) : G a = none := by
  cases e : G a with
  | none => rfl
  | some u => rw [s.sub a u e] at hp; cases hp
theorem Grow.newH (da : Option Addr) (hp : H a = none) : Grow da G H G (upd H a o) := ⟨.refl G, fun _ _ h _ _ _ => h, Ext.new da hp⟩
theorem Grow.newG (s : GS p dc G H) (hp : H a = none) : Grow p.da G H (upd G a o) (upd H a o) :=
  ⟨fun b u e => by
    rw [upd_ne (ne_of_none e (s.gnone hp))]; exact e, fun b u h1 h2 _ _ => by
    by_cases e : b = a
    · subst e; rw [hp] at h2; cases h2
    · rw [upd_ne e]; exact h1, Ext.new p.da hp⟩
theorem RS.h0 {ρ : En} {σ : St} (r : RS p ρ σ G H) (hp : H a = none) : p.H0 a = none := by
  cases e : p.H0 a with
  | none => rfl
  | some u => exact absurd hp (r.ent.2 a (by rw [e]; simp))
theorem GS.ndice (s : GS p dc G H) (hp : H a = none) : p.da ≠ some a := fun z => by rw [(s.dice a z).1] at hp; cases hp
end
section
variable {p : Pk} {G H : Hp} {dc : Dc} {d : D} {v : V} {σ : St} {ρ : En}
theorem RV.bo (h : DV p.K p.da G d v) : RV p .bo G H d v := .inl h
/-- what may be looked at -/
theorem RV.lst (s : GS p dc G H) {ds : List D} (h : RV p .bo G H (.lst ds) v) : ∃ a vs, v = .ref a ∧ H a = some (.lst vs) ∧ DVs p.K p.da G ds vs := by
  rcases h with ⟨a, vs, e, h1, h2⟩ | ⟨a, e, w⟩
  · exact ⟨a, vs, e, s.sub _ _ h1, h2⟩
  · obtain ⟨vs, h1, h2⟩ := w.ow
    exact ⟨a, vs, e, h1, h2⟩
theorem RV.tup (s : GS p dc G H) {ds : List D} (h : RV p .bo G H (.tup ds) v) : ∃ a vs, v = .ref a ∧ H a = some (.tup vs) ∧ DVs p.K p.da G ds vs := by
  rcases h with ⟨a, vs, e, h1, h2⟩ | ⟨a, e, w⟩
  · exact ⟨a, vs, e, s.sub _ _ h1, h2⟩
  · exact w.ow.elim
theorem RV.ktup {ds : List D} (h : RV p .bo G H (.ktup ds) v) : ∃ a vs, v = .ref a ∧ (∀ H, SqT p.K H a vs) ∧ DVs p.K p.da G ds vs := by
  rcases h with ⟨a, vs, e, h1, h2⟩ | ⟨a, e, w⟩
  · exact ⟨a, vs, e, h1, h2⟩
  · exact w.ow.elim
theorem RV.klst {ds : List D} (h : RV p .bo G H (.klst ds) v) : ∃ a vs, v = .ref a ∧ SqL p.K G a vs ∧ DVs p.K p.da G ds vs := by
  rcases h with ⟨a, vs, e, h1, h2⟩ | ⟨a, e, w⟩
  · exact ⟨a, vs, e, h1, h2⟩
  · exact w.ow.elim
theorem RV.int {i : Int} (h : RV p .bo G H (.int i) v) : v = .int i := by
  rcases h with h | ⟨a, e, w⟩
  · exact h
  · exact w.ow.elim
theorem RV.str {x : Str} (h : RV p .bo G H (.str x) v) : v = .str x := by
  rcases h with h | ⟨a, e, w⟩
  · exact h
  · exact w.ow.elim
theorem RV.bl {x : Bool} (h : RV p .bo G H (.bl x) v) : v = .bl x := by
  rcases h with h | ⟨a, e, w⟩
  · exact h
  · exact w.ow.elim
theorem RV.non (h : RV p .bo G H .non v) : v = .non := by
  rcases h with h | ⟨a, e, w⟩
  · exact h
  · exact w.ow.elim
theorem RV.obj (s : GS p dc G H) {c : Str} {fs : List (Str × D)} (h : RV p .bo G H (.obj c fs) v) : ∃ a dx ws, v = .ref a ∧ H a = some (.ins (He.ga p.K c) dx ws) ∧ DVf p.K p.da G fs ws := by
  rcases h with ⟨a, dx, ws, e, h1, h2, h3⟩ | ⟨a, e, w⟩
  · exact ⟨a, dx, ws, e, s.sub _ _ h1, h3⟩
  · obtain ⟨dx, ws, h1, _, _, _, h2⟩ := w.ow
    exact ⟨a, dx, ws, e, h1, h2⟩
theorem RV.grow {G' H' : Hp} (s : GS p dc G H) (g : Grow p.da G H G' H') (h : RV p .bo G H d v) : RV p .bo G' H' d v := by
  rcases h with h | ⟨a, e, w⟩
  · exact .inl (DV.mono g.sub _ _ h)
  · exact .inr ⟨a, e, w.grow g s.hd⟩
theorem RV.dvgrow {G' H' : Hp} (g : Grow p.da G H G' H') (h : RV p .va G H d v) : RV p .va G' H' d v := DV.mono g.sub _ _ h
end
end Px
set_option maxRecDepth 100000
set_option maxHeartbeats 2000000
/-! PS2: operators, constants, names, displays. -/
namespace Px
open PySem PySem.Spec PyProof.Rows L2

theorem szL_eq : szL = sizeLine := by rw [sizeLine_eq]; rfl
theorem RV.of {p : Pk} {m : Md} {G H : Hp} {d : D} {v : V} (h : DV p.K p.da G d v) (hc : cont d = false) : RV p m G H d v := by
  cases m with
  | va => exact h
  | fr =>
    show if cont d then _ else _
    rw [hc]; exact h
  | bo => exact .inl h
theorem RV.tupD {p : Pk} {G H : Hp} {ds : List D} {v : V} (h : RV p .bo G H (.tup ds) v) : DV p.K p.da G (.tup ds) v := by
  rcases h with h | ⟨a, e, w⟩
  · exact h
  · exact w.ow.elim
def Hz (p : Pk) (H : Hp) : Prop := ∀ a, H a = none → p.H0 a = none ∧ p.Hb a = none
theorem RS.hz {p : Pk} {ρ : En} {σ : St} {G H : Hp} (r : RS p ρ σ G H) : Hz p H := fun a h => ⟨r.h0 h, by
  cases e : p.Hb a with
  | none => rfl
  | some u => exact absurd h (r.hb a (by rw [e]; simp))⟩
/-- a new list: built since (Gb, Hb) -/
theorem fin_lst {p : Pk} {m : Md} {dc : Dc} {Gb Hb G H : Hp} {a : Addr} {ds : List D} {vs : List V} {Q : V → Hp → Prop} (s : GS p dc G H) (g : Grow p.da Gb Hb G H) (hb : Hb a = none) (z : p.H0 a = none ∧ p.Hb a = none) (ga : G a = none) (ha : H a = some (.lst vs)) (hd : p.da ≠ some a)
    (dv : DVs p.K p.da G ds vs) (fin : ∀ v G' H', GS p dc G' H' → Grow p.da Gb Hb G' H' → RV p m G' H' (.lst ds) v → Q v H') : Q (.ref a) H := by
  have own : OWn p G H a (.lst ds) := ⟨⟨vs, ha, dv⟩, ga, hd, z.1⟩
  have frm : GS p dc (upd G a (.lst vs)) H ∧ Grow p.da Gb Hb (upd G a (.lst vs)) H := by
    refine ⟨⟨fun b u e => ?_, fun b e => ⟨(s.dice b e).1, ?_⟩, s.tabs, fun q hq => ?_⟩, ⟨fun b u e => ?_, fun b u h1 h2 h3 h4 => ?_, g.ext⟩⟩
    · by_cases q : b = a
      · subst q; rw [upd_same] at e; cases e; exact ha
      · rw [upd_ne q] at e; exact s.sub b u e
    · by_cases q : b = a
      · subst q; exact absurd e hd
      · rw [upd_ne q]; exact (s.dice b e).2
    · obtain ⟨ps, e, _⟩ := s.tabs q hq
      by_cases q' : q.1 = a
      · rw [q', ha] at e; cases e
      · rw [upd_ne q']; exact s.tabf q hq
    · have e' := g.sub b u e
      by_cases q : b = a
      · subst q; rw [ga] at e'; cases e'
      · rw [upd_ne q]; exact e'
    · by_cases q : b = a
      · subst q; rw [hb] at h2; cases h2
      · rw [upd_ne q]; exact g.nw b u h1 h2 h3 h4
  cases m with
  | va => exact fin _ _ _ frm.1 frm.2 ⟨a, vs, rfl, upd_same, DVs.mono (fun b u e => by
      by_cases q : b = a
      · subst q; rw [ga] at e; cases e
      · rw [upd_ne q]; exact e) _ _ dv⟩
  | fr => exact fin _ _ _ s g ⟨a, rfl, own, z.2⟩
  | bo => exact fin _ _ _ s g (.inr ⟨a, rfl, own⟩)
theorem new_lst {p : Pk} {m : Md} {dc : Dc} {G H : Hp} {a : Addr} {ds : List D} {vs : List V} {Q : V → Hp → Prop} (s : GS p dc G H) (hz : Hz p H) (hp : H a = none)
    (dv : DVs p.K p.da G ds vs) (fin : ∀ v G' H', GS p dc G' H' → Grow p.da G H G' H' → RV p m G' H' (.lst ds) v → Q v H') : Q (.ref a) (upd H a (.lst vs)) :=
  fin_lst (s.newH hp) (Grow.newH p.da hp) hp (hz a hp) (s.gnone hp) upd_same (s.ndice hp) dv fin
theorem new_tup {p : Pk} {m : Md} {dc : Dc} {G H : Hp} {a : Addr} {ds : List D} {vs : List V} {Q : V → Hp → Prop} (s : GS p dc G H) (hp : H a = none)
    (dv : DVs p.K p.da G ds vs) (fin : ∀ v G' H', GS p dc G' H' → Grow p.da G H G' H' → RV p m G' H' (.tup ds) v → Q v H') : Q (.ref a) (upd H a (.tup vs)) :=
  fin _ _ _ (s.newG hp) (Grow.newG s hp) (RV.of ⟨a, vs, rfl, upd_same, DVs.mono (Grow.newG s hp).sub _ _ dv⟩ rfl)
/-- an operator by the evaluator's function -/
def rD2 (p : Pk) (m : Md) (g : D → D → Option D) : R2 := fun x y H Q => ∃ dc G d1 d2 d, GS p dc G H ∧ Hz p H ∧ RV p .bo G H d1 x ∧ RV p .bo G H d2 y ∧ g d1 d2 = some d ∧ ∀ v G' H', GS p dc G' H' → Grow p.da G H G' H' → RV p m G' H' d v → Q v H'
theorem CMulB_ok {i j : Int} (h : CMulB i j = true) : CMul i j := by
  unfold CMulB at h
  simp only [Bool.or_eq_true, Bool.and_eq_true, decide_eq_true_eq] at h
  exact h
section
variable {X : Cx} {p : Pk} {m : Md}
theorem rep_one {α : Type} (xs : List α) : ∀ k : Nat, k = 1 → (List.replicate k xs).flatten = xs := by
  rintro _ rfl
  simp
theorem op_binD (op : Operator) : OpR X (binaryOp op) (rD2 p m (binD op)) := by
  intro pins s σ H x y v u Q I rx ry h
  obtain ⟨dc, G, d1, d2, d, gs, hz, v1, v2, e, fin⟩ := h
  have scal : ∀ {z : V}, DV p.K p.da G d z → cont d = false → Q z H := fun {z} h1 h2 => fin z G H gs (.refl _ _ _) (RV.of h1 h2)
  unfold binD at e
  split at e
  · rename_i i j
    cases v1.int; cases v2.int; cases e
    exact op_add pins s σ H _ _ v u Q I rx ry ⟨i, j, rfl, rfl, scal rfl rfl⟩
  · rename_i a b
    cases v1.str; cases v2.str
    split at e
    · rename_i hl
      cases e
      exact op_add_str pins s σ H _ _ v u Q I rx ry ⟨a, b, rfl, rfl, by rw [← szL_eq]; exact hl, scal rfl rfl⟩
    · cases e
  · rename_i a b
    obtain ⟨pa, va, rfl, ha, da⟩ := v1.lst gs
    obtain ⟨pb, vb, rfl, hb, db⟩ := v2.lst gs
    split at e
    · rename_i hl
      cases e
      refine op_cat pins s σ H _ _ v u Q I rx ry ⟨pa, pb, va, vb, rfl, rfl, ha, hb, by rw [da.length, db.length, ← szL_eq]; exact hl, fun q hq => ?_⟩
      exact new_lst gs hz hq (da.append db) fin
    · cases e
  · rename_i a b
    have w1 := v1.tupD
    have w2 := v2.tupD
    obtain ⟨pa, va, rfl, ha, da⟩ := v1.tup gs
    obtain ⟨pb, vb, rfl, hb, db⟩ := v2.tup gs
    split at e
    · rename_i hl
      cases e
      refine op_catA pins s σ H _ _ v u Q I rx ry ⟨pa, pb, va, vb, rfl, rfl, SqT.of ha, SqT.of hb, by rw [da.length, db.length, ← szL_eq]; exact hl, fun z => ?_, fun _ z => ?_, fun _ _ q hq => ?_⟩
      · have ea : a = [] := List.eq_nil_of_length_eq_zero (by rw [← da.length, z]; rfl)
        rw [ea] at fin
        exact fin _ _ _ gs (.refl _ _ _) (RV.of w2 rfl)
      · have eb : b = [] := List.eq_nil_of_length_eq_zero (by rw [← db.length, z]; rfl)
        rw [eb, List.append_nil] at fin
        exact fin _ _ _ gs (.refl _ _ _) (RV.of w1 rfl)
      · exact new_tup gs hq (da.append db) fin
    · cases e
  · rename_i i j
    cases v1.int; cases v2.int; cases e
    exact op_sub pins s σ H _ _ v u Q I rx ry ⟨i, j, rfl, rfl, scal rfl rfl⟩
  · rename_i i j
    cases v1.int; cases v2.int
    split at e
    · rename_i hc
      cases e
      exact op_mul pins s σ H _ _ v u Q I rx ry ⟨i, j, rfl, rfl, CMulB_ok hc, scal rfl rfl⟩
    · cases e
  · rename_i a k
    obtain ⟨pa, va, rfl, ha, da⟩ := v1.lst gs
    cases v2.int
    split at e
    · rename_i hl
      cases e
      refine op_rep pins s σ H _ _ v u Q I rx ry ⟨pa, k, va, rfl, rfl, ha, by omega, by omega, by rw [da.length, ← szL_eq]; exact hl.2.2, fun q hq => ?_⟩
      exact new_lst gs hz hq (da.rep _) fin
    · cases e
  · rename_i a k
    obtain ⟨pa, va, rfl, ha, da⟩ := v1.tup gs
    cases v2.int
    split at e
    · rename_i hl
      cases e
      refine op_repT pins s σ H _ _ v u Q I rx ry ⟨pa, k, va, rfl, rfl, SqT.of ha, fun z => ?_, hl.2.1, hl.2.2.1, by rw [da.length]; exact hl.2.2.2, fun q hq => ?_⟩
      · have ea : a = [] := List.eq_nil_of_length_eq_zero (by rw [← da.length, z]; rfl)
        rw [ea] at hl
        exact absurd hl.1 (by simp)
      · exact new_tup gs hq (da.rep _) fin
    · cases e
  · rename_i i j
    cases v1.int; cases v2.int
    split at e
    · rename_i hc
      cases e
      exact op_fdiv pins s σ H _ _ v u Q I rx ry ⟨i, j, rfl, rfl, hc, scal rfl rfl⟩
    · cases e
  · rename_i i j
    cases v1.int; cases v2.int
    split at e
    · rename_i hc
      cases e
      exact op_mod pins s σ H _ _ v u Q I rx ry ⟨i, j, rfl, rfl, hc, scal rfl rfl⟩
    · cases e
  · rename_i i j
    cases v1.int; cases v2.int
    split at e
    · rename_i hc
      cases e
      exact op_pow pins s σ H _ _ v u Q I rx ry ⟨i, j, rfl, rfl, hc, scal rfl rfl⟩
    · cases e
  · cases e
theorem un_negD : UnR X (unaryOp .USub) (fun x H Q => ∃ dc G d1 d, GS p dc G H ∧ RV p .bo G H d1 x ∧ negD d1 = some d ∧ ∀ v G' H', GS p dc G' H' → Grow p.da G H G' H' → RV p m G' H' d v → Q v H') := by
  intro pins s σ H x v Q I rx h
  obtain ⟨dc, G, d1, d, gs, v1, e, fin⟩ := h
  unfold negD at e
  split at e
  · rename_i i
    cases v1.int; cases e
    exact un_neg pins s σ H _ v Q I rx ⟨i, rfl, fin _ G H gs (.refl _ _ _) (RV.of rfl rfl)⟩
  · cases e
end
/-! ### deep == -/
section
variable {p : Pk} {dc : Dc} {G H : Hp}
mutual
theorem DV.dp (s : GS p dc G H) : ∀ (d : D) (v : V) (q : PyData), toPy d = some q → DV p.K p.da G d v → Dp p.K H v q
  | .non, _, _, e, h => by
    cases e; cases h
    exact .non
  | .bl b, _, _, e, h => by
    cases e; cases h
    exact .bl b
  | .int i, _, _, e, h => by
    cases e; cases h
    exact .int i
  | .str x, _, _, e, h => by
    cases e; cases h
    exact .str x
  | .tup ds, _, q, e, ⟨a, vs, e1, h1, h2⟩ => by
    subst e1
    have e' : (toPy.toPys ds).map PyData.tuple = some q := e
    cases hq : toPy.toPys ds with
    | none => rw [hq] at e'; cases e'
    | some qs =>
      rw [hq] at e'; cases e'
      exact .tup (SqT.of (s.sub _ _ h1)) (DVs.dp s ds vs qs hq h2)
  | .lst ds, _, q, e, ⟨a, vs, e1, h1, h2⟩ => by
    subst e1
    have e' : (toPy.toPys ds).map PyData.list = some q := e
    cases hq : toPy.toPys ds with
    | none => rw [hq] at e'; cases e'
    | some qs =>
      rw [hq] at e'; cases e'
      exact .lst (SqL.of (s.sub _ _ h1)) (DVs.dp s ds vs qs hq h2)
  | .dic _, _, _, e, _ => by cases e
  | .obj _ _, _, _, e, _ => by cases e
  | .dice, _, _, e, _ => by cases e
  | .ktup ds, _, q, e, ⟨a, vs, e1, h1, h2⟩ => by
    subst e1
    have e' : (toPy.toPys ds).map PyData.tuple = some q := e
    cases hq : toPy.toPys ds with
    | none => rw [hq] at e'; cases e'
    | some qs =>
      rw [hq] at e'; cases e'
      exact .tup (h1 H) (DVs.dp s ds vs qs hq h2)
  | .kdic _, _, _, e, _ => by cases e
theorem DVs.dp (s : GS p dc G H) : ∀ (ds : List D) (vs : List V) (qs : List PyData), toPy.toPys ds = some qs → DVs p.K p.da G ds vs → DpAll p.K H vs qs
  | [], _, _, e, h => by
    cases e; cases h
    exact .nil
  | d :: ds, _, qs, e, ⟨v, r, e1, h1, h2⟩ => by
    subst e1
    have e' : (match toPy d, toPy.toPys ds with
      | some p, some ps => some (p :: ps)
      | _, _ => none) = some qs := e
    cases hd : toPy d with
    | none => rw [hd] at e'; cases e'
    | some q =>
      cases hs : toPy.toPys ds with
      | none => rw [hd, hs] at e'; cases e'
      | some rs =>
        rw [hd, hs] at e'; cases e'
        exact .cons (DV.dp s d v q hd h1) (DVs.dp s ds r rs hs h2)
end
theorem RV.dp (s : GS p dc G H) {d : D} {v : V} {q : PyData} (e : toPy d = some q) (h : RV p .bo G H d v) : Dp p.K H v q := by
  rcases h with h | ⟨a, rfl, w⟩
  · exact DV.dp s d v q e h
  · have w := w.ow
    cases d with
    | lst ds =>
      obtain ⟨vs, h1, h2⟩ := w
      have e' : (toPy.toPys ds).map PyData.list = some q := e
      cases hq : toPy.toPys ds with
      | none => rw [hq] at e'; cases e'
      | some qs =>
        rw [hq] at e'; cases e'
        exact .lst (SqL.of h1) (DVs.dp s ds vs qs hq h2)
    | dic _ => cases e
    | obj _ _ => cases e
    | _ => exact w.elim
end
end Px
set_option maxRecDepth 100000
set_option maxHeartbeats 2000000
/-! PS3: comparisons, dicts read. -/
namespace Px
open PySem PySem.Spec PyProof.Rows L2

/-! ### keys -/
theorem keyF_kV {K : PySem.W.Frag} {da : Option Addr} {G : Hp} {d : D} {v : V} (h : DV K da G d v) (f : flatD d = true) : ∃ k, keyF d = some k ∧ v = kV k := by
  cases d with
  | int i =>
    cases h
    exact ⟨.inl i, rfl, rfl⟩
  | str x =>
    cases h
    exact ⟨.inr x, rfl, rfl⟩
  | _ => cases f
theorem keyFs_kV {K : PySem.W.Frag} {da : Option Addr} {G : Hp} : ∀ {ds : List D} {vs : List V}, DVs K da G ds vs → ds.all flatD = true → ∃ ks, keyFs ds = some ks ∧ vs = ks.map kV
  | [], _, h, _ => by
    cases h
    exact ⟨[], rfl, rfl⟩
  | d :: ds, _, ⟨v, r, e, h1, h2⟩, f => by
    cases e
    rw [List.all_cons, Bool.and_eq_true] at f
    obtain ⟨k, e1, e2⟩ := keyF_kV h1 f.1
    obtain ⟨ks, e3, e4⟩ := keyFs_kV h2 f.2
    exact ⟨k :: ks, by simp [keyFs, e1, e3], by rw [e2, e4]; rfl⟩
theorem sameK_flat {a b : D} {j k : Key} (ha : keyF a = some j) (hb : keyF b = some k) : sameK a b = decide (j = k) := by
  cases a <;> cases ha <;> cases b <;> cases hb <;> simp [sameK]
theorem sameKs_flat : ∀ {as bs : List D} {js ks : List Key}, keyFs as = some js → keyFs bs = some ks → sameK.sameKs as bs = decide (js = ks)
  | [], [], _, _, h, h' => by
    cases h; cases h'
    rfl
  | [], b :: bs, js, ks, h, h' => by
    cases h
    unfold keyFs at h'
    split at h'
    · cases h'
      simp [sameK.sameKs]
    · cases h'
  | a :: as, [], js, ks, h, h' => by
    cases h'
    unfold keyFs at h
    split at h
    · cases h
      simp [sameK.sameKs]
    · cases h
  | a :: as, b :: bs, js, ks, h, h' => by
    unfold keyFs at h h'
    split at h
    · rename_i j js' h1 h2
      cases h
      split at h'
      · rename_i k ks' h3 h4
        cases h'
        unfold sameK.sameKs
        rw [sameK_flat h1 h3, sameKs_flat h2 h4]
        by_cases e1 : j = k <;> by_cases e2 : js' = ks' <;> simp [e1, e2]
      · cases h'
    · cases h
theorem keyT_tup {a : D} {j : List Key} (h : keyT a = some j) : ∃ ds, a = .tup ds ∧ keyFs ds = some j := by
  cases a with
  | tup ds => exact ⟨ds, rfl, h⟩
  | _ => cases h
theorem sameK_tup {a b : D} {j k : List Key} (ha : keyT a = some j) (hb : keyT b = some k) : sameK a b = decide (j = k) := by
  obtain ⟨ds, rfl, h1⟩ := keyT_tup ha
  obtain ⟨es, rfl, h2⟩ := keyT_tup hb
  exact sameKs_flat h1 h2
section
variable {K : PySem.W.Frag} {da : Option Addr} {G : Hp}
/-- one walk for both kinds of dicts -/
def DVg {κ : Type} (key : D → Option κ) : List (D × D) → List (κ × V) → Prop
  | [], ws => ws = []
  | (k, d) :: ds, ws => ∃ k' v r, ws = (k', v) :: r ∧ key k = some k' ∧ DV K da G d v ∧ DVg key ds r
theorem DVk.g : ∀ {kvs : List (D × D)} {ws}, DVk K da G kvs ws → DVg (K := K) (da := da) (G := G) keyF kvs ws
  | [], _, h => h
  | (_, _) :: _, _, ⟨k', v, r, e, h1, h2, h3⟩ => ⟨k', v, r, e, h1, h2, DVk.g h3⟩
theorem DVg.k : ∀ {kvs : List (D × D)} {ws}, DVg (K := K) (da := da) (G := G) keyF kvs ws → DVk K da G kvs ws
  | [], _, h => h
  | (_, _) :: _, _, ⟨k', v, r, e, h1, h2, h3⟩ => ⟨k', v, r, e, h1, h2, DVg.k h3⟩
theorem DVt.g : ∀ {kvs : List (D × D)} {ws}, DVt K da G kvs ws → DVg (K := K) (da := da) (G := G) keyT kvs ws
  | [], _, h => h
  | (_, _) :: _, _, ⟨k', v, r, e, h1, h2, h3⟩ => ⟨k', v, r, e, h1, h2, DVt.g h3⟩
theorem DVg.t : ∀ {kvs : List (D × D)} {ws}, DVg (K := K) (da := da) (G := G) keyT kvs ws → DVt K da G kvs ws
  | [], _, h => h
  | (_, _) :: _, _, ⟨k', v, r, e, h1, h2, h3⟩ => ⟨k', v, r, e, h1, h2, DVg.t h3⟩
variable {κ : Type} [DecidableEq κ] {key : D → Option κ} (hk : ∀ {a b j k}, key a = some j → key b = some k → sameK a b = decide (j = k))
include hk
theorem DVg.get {y : D} {k : κ} (ey : key y = some k) : ∀ {kvs : List (D × D)} {ws : List (κ × V)}, DVg (K := K) (da := da) (G := G) key kvs ws → match getK y kvs with
    | some d => ∃ v, valV ws k = some v ∧ DV K da G d v
    | none => valV ws k = none
  | [], _, h => by
    cases h
    rfl
  | (a, d) :: kvs, _, ⟨k', v, r, e, h1, h2, h3⟩ => by
    cases e
    have ih := DVg.get ey h3
    unfold getK at ih ⊢
    rw [List.find?_cons]
    rw [hk h1 ey]
    by_cases q : k' = k
    · rw [decide_eq_true q]
      exact ⟨v, valV_pos q, h2⟩
    · rw [decide_eq_false q]
      rw [valV_neg (by exact q)]
      exact ih
theorem DVg.any {y : D} {k : κ} (ey : key y = some k) : ∀ {kvs : List (D × D)} {ws : List (κ × V)}, DVg (K := K) (da := da) (G := G) key kvs ws → (kvs.any fun p => sameK p.1 y) = ws.any fun p => decide (p.1 = k)
  | [], _, h => by
    cases h
    rfl
  | (a, d) :: kvs, _, ⟨k', v, r, e, h1, h2, h3⟩ => by
    cases e
    rw [List.any_cons, List.any_cons, DVg.any ey h3, hk h1 ey]
theorem DVg.put1 {y d : D} {k : κ} {v : V} (ey : key y = some k) (hv : DV K da G d v) : ∀ {kvs : List (D × D)} {ws : List (κ × V)}, DVg (K := K) (da := da) (G := G) key kvs ws →
    DVg (K := K) (da := da) (G := G) key (kvs.map fun p => if sameK p.1 y then (p.1, d) else p) (ws.map fun kv => if kv.1 = k then (kv.1, v) else kv)
  | [], _, h => by
    cases h
    exact rfl
  | (a, d') :: kvs, _, ⟨k', v', r, e, h1, h2, h3⟩ => by
    cases e
    rw [List.map_cons, List.map_cons]
    by_cases q : k' = k
    · rw [if_pos (show sameK a y = true by rw [hk h1 ey]; exact decide_eq_true q), if_pos (show k' = k from q)]
      exact ⟨k', v, _, rfl, h1, hv, DVg.put1 ey hv h3⟩
    · rw [if_neg (show ¬ sameK a y = true by rw [hk h1 ey, decide_eq_false q]; simp), if_neg (show ¬ k' = k from q)]
      exact ⟨k', v', _, rfl, h1, h2, DVg.put1 ey hv h3⟩
theorem DVg.put2 {y d : D} {k : κ} {v : V} (ey : key y = some k) (hv : DV K da G d v) : ∀ {kvs : List (D × D)} {ws : List (κ × V)}, DVg (K := K) (da := da) (G := G) key kvs ws →
    DVg (K := K) (da := da) (G := G) key (kvs ++ [(y, d)]) (ws ++ [(k, v)])
  | [], _, h => by
    cases h
    exact ⟨k, v, [], rfl, ey, hv, rfl⟩
  | (a, d') :: kvs, _, ⟨k', v', r, e, h1, h2, h3⟩ => by
    cases e
    exact ⟨k', v', _, rfl, h1, h2, DVg.put2 ey hv h3⟩
theorem DVg.put {y d : D} {k : κ} {v : V} (ey : key y = some k) (hv : DV K da G d v) {kvs : List (D × D)} {ws : List (κ × V)} (h : DVg (K := K) (da := da) (G := G) key kvs ws) : DVg (K := K) (da := da) (G := G) key (putK y d kvs) (L2.putK ws k v) := by
  unfold putK L2.putK
  rw [DVg.any hk ey h]
  split
  · exact DVg.put1 hk ey hv h
  · exact DVg.put2 hk ey hv h
theorem DVg.del {y : D} {k : κ} (ey : key y = some k) : ∀ {kvs : List (D × D)} {ws : List (κ × V)}, DVg (K := K) (da := da) (G := G) key kvs ws → DVg (K := K) (da := da) (G := G) key (delK y kvs) (dropK ws k)
  | [], _, h => by
    cases h
    exact rfl
  | (a, d) :: kvs, _, ⟨k', v, r, e, h1, h2, h3⟩ => by
    cases e
    have ih := DVg.del ey h3
    unfold delK dropK at ih ⊢
    rw [List.filter_cons, List.filter_cons]
    by_cases q : k' = k
    · rw [if_neg (by rw [hk h1 ey, decide_eq_true q]; simp), if_neg (by simp [q])]
      exact ih
    · rw [if_pos (by rw [hk h1 ey, decide_eq_false q]; rfl), if_pos (by simp [q])]
      exact ⟨k', v, _, rfl, h1, h2, ih⟩
omit hk [DecidableEq κ] in
theorem DVg.length : ∀ {kvs : List (D × D)} {ws : List (κ × V)}, DVg (K := K) (da := da) (G := G) key kvs ws → ws.length = kvs.length
  | [], _, h => by
    cases h
    rfl
  | (a, d) :: kvs, _, ⟨k', v, r, e, h1, h2, h3⟩ => by
    cases e
    show r.length + 1 = kvs.length + 1
    rw [DVg.length h3]
end
/-! ### a dict's object -/
section
variable {P : Program} {w : World} {H : Hp} {h : Heap} {a : Addr}
theorem okT {kvs : List (List Key × V)} (ok : HOk P w H h) (e : ObjOk P w H h a (.dT kvs)) : kvs.length ≤ sizeLine ∧ (a == sysModules) = false ∧
    ∃ xs, KT H kvs xs ∧ h.DictOfH (tupleKind (mixKind P w)) a xs := by
  obtain ⟨z, y, xs, r, o, es, ep, h1, h2, h3, h4, h5⟩ := e
  refine ⟨z, y, xs, r, o, es, ep, h1, h2, h3, h4, fun x hx => ?_, h5⟩
  have all : ∀ {l : List (List Key × V)} {m : List (List Key × Addr × Value)}, KT H l m → ∀ x ∈ m, (tupleKind (mixKind P w)).is h x.1 x.2.1 := by
    intro l m q
    induction q with
    | nil => intro x hx; exact nomatch hx
    | @cons p q ps qs hq t ih =>
      intro x hx
      rcases List.mem_cons.mp hx with e | hx
      · subst e
        exact key_of ok (by rw [← hq.1]; exact hq.2.1)
      · exact ih x hx
  exact all r x hx
theorem ok_dKT (e : ObjOk P w H h a (.dK [])) : ObjOk P w H h a (.dT []) := by
  obtain ⟨z, y, vs, r, o, es, ep, h1, h2, h3, h4, h5, h6⟩ := e
  cases r
  have q : es.toList = [] := by
    generalize es.toList = l at h5
    cases h5
    rfl
  exact ⟨z, y, [], .nil, o, es, ep, h1, h2, h3, by rw [q]; rfl, List.nodup_nil⟩
theorem ok_dTK (e : ObjOk P w H h a (.dT [])) : ObjOk P w H h a (.dK []) := by
  obtain ⟨z, y, xs, r, o, es, ep, h1, h2, h3, h4, h5⟩ := e
  cases r
  have q : es.toList = [] := h4
  have ko : PySem.KeysOf (mixKind P w) es := fun x hx => by
    have hm : x ∈ es.toList := by simpa using hx
    rw [q] at hm
    exact nomatch hm
  exact ⟨z, y, [], .nil, o, es, ep, h1, h2, h3, ko, by rw [q]; exact .nil, List.nodup_nil⟩
end
section
variable {X : Cx} {pins : List (Addr × Obj)} {σ : St} {H G : Hp} {s : Shared} {p : Pk} {dc : Dc} {a : Addr} {y : V} {u : Value} {k : D} {kvs : List (D × D)} {A : Around} {E : Value → Shared → Prop}
/-- a dict's object, as the key's kind asks -/
inductive DO (X : Cx) (p : Pk) (G H : Hp) (s : Shared) (a : Addr) (kvs : List (D × D)) (k : D) (y : V) : Prop where
  | k (ws : List (Key × V)) (k' : Key) : ObjOk X.prog X.w H s.heap a (.dK ws) → DVg (K := p.K) (da := p.da) (G := G) keyF kvs ws → keyF k = some k' → y = kV k' → DO X p G H s a kvs k y
  | t (ws : List (List Key × V)) (k' : List Key) (b : Addr) : ObjOk X.prog X.w H s.heap a (.dT ws) → DVg (K := p.K) (da := p.da) (G := G) keyT kvs ws → keyT k = some k' → y = .ref b → H b = some (.tup (k'.map kV)) → DO X p G H s a kvs k y
theorem keyT_isTup {a : D} {j : List Key} (h : keyT a = some j) : isTupD a = true := by
  cases a with
  | tup ds => rfl
  | _ => cases h
theorem keyF_isTup {a : D} {j : Key} (h : keyF a = some j) : isTupD a = false := by
  cases a with
  | tup ds => cases h
  | _ => rfl
theorem DO.mk' (gs : GS p dc G H) (hk : homK k kvs = true) (vk : RV p .bo G H k y)
    (o : (∃ ws, ObjOk X.prog X.w H s.heap a (.dK ws) ∧ DVk p.K p.da G kvs ws) ∨ ∃ ws, ObjOk X.prog X.w H s.heap a (.dT ws) ∧ DVt p.K p.da G kvs ws) : DO X p G H s a kvs k y := by
  unfold homK at hk
  rw [Bool.and_eq_true] at hk
  obtain ⟨h1, h2⟩ := hk
  have kd : DV p.K p.da G k y := by
    rcases vk with h | ⟨a, e, w⟩
    · exact h
    · have := w.ow
      cases k with
      | lst _ => cases h1
      | dic _ => cases h1
      | obj _ _ => cases h1
      | _ => exact this.elim
  by_cases ht : isTupD k = true
  · cases k with
    | tup ds =>
      obtain ⟨b, vs, e, g1, g2⟩ := kd
      obtain ⟨ks, q1, q2⟩ := keyFs_kV g2 h1
      have eT : keyT (.tup ds) = some ks := q1
      have hb : H b = some (.tup (ks.map kV)) := by rw [← q2]; exact gs.sub _ _ g1
      rcases o with ⟨ws, o1, o2⟩ | ⟨ws, o1, o2⟩
      · cases kvs with
        | nil =>
          cases o2
          exact .t [] ks b (ok_dKT o1) rfl eT e hb
        | cons r kvs =>
          obtain ⟨x, d⟩ := r
          obtain ⟨k', v', r', _, e1, _⟩ := o2
          have h2' : (isTupD x == true) = true := h2
          rw [show isTupD x = false from keyF_isTup e1] at h2'
          cases h2'
      · exact .t ws ks b o1 o2.g eT e hb
    | _ => cases ht
  · have hf : flatD k = true := by
      cases k with
      | tup _ => exact absurd rfl ht
      | _ => exact h1
    obtain ⟨k', q1, q2⟩ := keyF_kV kd hf
    rcases o with ⟨ws, o1, o2⟩ | ⟨ws, o1, o2⟩
    · exact .k ws k' o1 o2.g q1 q2
    · cases kvs with
      | nil =>
        cases o2
        exact .k [] k' (ok_dTK o1) rfl q1 q2
      | cons r kvs =>
        obtain ⟨x, d⟩ := r
        obtain ⟨k', v', r', _, e1, _⟩ := o2
        have h2' : (isTupD x == isTupD k) = true := h2
        rw [show isTupD x = true from keyT_isTup e1, Bool.eq_false_iff.mpr ht] at h2'
        cases h2'
theorem RV.dic (gs : GS p dc G H) (I : Inv X pins σ H s) {v : V} (h : RV p .bo G H (.dic kvs) v) : ∃ a, v = .ref a ∧ ((∃ ws, ObjOk X.prog X.w H s.heap a (.dK ws) ∧ DVk p.K p.da G kvs ws) ∨ ∃ ws, ObjOk X.prog X.w H s.heap a (.dT ws) ∧ DVt p.K p.da G kvs ws) := by
  rcases h with ⟨a, od, e, h⟩ | ⟨a, e, w⟩
  · refine ⟨a, e, ?_⟩
    rcases h with ⟨ws, h1, h2⟩ | ⟨ws, h1, h2⟩
    · exact .inl ⟨ws, (I.hok a _ (gs.sub _ _ h1)).2, h2⟩
    · exact .inr ⟨ws, (I.hok a _ (gs.sub _ _ h1)).2, h2⟩
  · refine ⟨a, e, ?_⟩
    rcases w.ow with ⟨ws, h1, h2⟩ | ⟨ws, h1, h2⟩
    · exact .inl ⟨ws, I.hok a _ h1, h2⟩
    · exact .inr ⟨ws, I.hok a _ h1, h2⟩
theorem hkF : ∀ {a b : D} {j k : Key}, keyF a = some j → keyF b = some k → sameK a b = decide (j = k) := sameK_flat
theorem hkT : ∀ {a b : D} {j k : List Key}, keyT a = some j → keyT b = some k → sameK a b = decide (j = k) := sameK_tup
theorem DO.dv (g : DO X p G H s a kvs k y) : match getK k kvs with
    | some d => ∃ v, DV p.K p.da G d v
    | none => True := by
  cases g with
  | k ws k' o h e1 e2 =>
    have := DVg.get hkF e1 h
    split <;> rename_i q
    · rw [q] at this
      obtain ⟨v, _, h⟩ := this
      exact ⟨v, h⟩
    · trivial
  | t ws k' b o h e1 e2 e3 =>
    have := DVg.get hkT e1 h
    split <;> rename_i q
    · rw [q] at this
      obtain ⟨v, _, h⟩ := this
      exact ⟨v, h⟩
    · trivial
theorem do_in {Q : Value → Shared → Prop} (hu : A.units + 1 < cLine) (I : Inv X pins σ H s) (g : DO X p G H s a kvs k y) (ry : RelV y u) (h : ∀ s', Inv X pins σ H s' → Q (.bool (getK k kvs).isSome) s') :
    wpAny (model X.prog X.w) A (compareOp .In u (.ref a)) Q E s := by
  cases g with
  | k ws k' o hv e1 e2 =>
    subst e2
    obtain ⟨z, hd, vs, rel, dd⟩ := o
    refine wpAny_in_of (kV_is ry) hd dd.mapOf ?_
    rw [← (rel.val k').isSome_eq]
    have := DVg.get hkF e1 hv
    cases q : getK k kvs with
    | some d =>
      rw [q] at this h
      obtain ⟨v, e, _⟩ := this
      rw [e]
      exact h _ (I.tok _)
    | none =>
      rw [q] at this h
      rw [show valV ws k' = none from this]
      exact h _ (I.tok _)
  | t ws k' b o hv e1 e2 eb =>
    subst e2
    cases (show u = Value.ref b from ry)
    obtain ⟨z, hd, xs, rel, dd⟩ := okT I.hok o
    refine wpAny_in_heap (tupleKind_room_in1 hu) (key_of I.hok eb) hd dd ?_
    have q := (rel.val k').isSome_eq
    rw [Option.isSome_map] at q
    rw [← q]
    have := DVg.get hkT e1 hv
    cases q : getK k kvs with
    | some d =>
      rw [q] at this h
      obtain ⟨v, e, _⟩ := this
      rw [e]
      exact h _ (I.tok _)
    | none =>
      rw [q] at this h
      rw [show valV ws k' = none from this]
      exact h _ (I.tok _)
theorem do_notIn {Q : Value → Shared → Prop} (hu : A.units + 1 < cLine) (I : Inv X pins σ H s) (g : DO X p G H s a kvs k y) (ry : RelV y u) (h : ∀ s', Inv X pins σ H s' → Q (.bool (!(getK k kvs).isSome)) s') :
    wpAny (model X.prog X.w) A (compareOp .NotIn u (.ref a)) Q E s := by
  cases g with
  | k ws k' o hv e1 e2 =>
    subst e2
    obtain ⟨z, hd, vs, rel, dd⟩ := o
    refine wpAny_notIn_of (kV_is ry) hd dd.mapOf ?_
    rw [← (rel.val k').isSome_eq]
    have := DVg.get hkF e1 hv
    cases q : getK k kvs with
    | some d =>
      rw [q] at this h
      obtain ⟨v, e, _⟩ := this
      rw [e]
      exact h _ (I.tok _)
    | none =>
      rw [q] at this h
      rw [show valV ws k' = none from this]
      exact h _ (I.tok _)
  | t ws k' b o hv e1 e2 eb =>
    subst e2
    cases (show u = Value.ref b from ry)
    obtain ⟨z, hd, xs, rel, dd⟩ := okT I.hok o
    refine wpAny_notIn_heap (tupleKind_room_in1 hu) (key_of I.hok eb) hd dd ?_
    have q := (rel.val k').isSome_eq
    rw [Option.isSome_map] at q
    rw [← q]
    have := DVg.get hkT e1 hv
    cases q : getK k kvs with
    | some d =>
      rw [q] at this h
      obtain ⟨v, e, _⟩ := this
      rw [e]
      exact h _ (I.tok _)
    | none =>
      rw [q] at this h
      rw [show valV ws k' = none from this]
      exact h _ (I.tok _)
theorem do_getItem {d : D} {Q : Value → Shared → Prop} (hu : A.units + 1 < cLine) (I : Inv X pins σ H s) (g : DO X p G H s a kvs k y) (e : getK k kvs = some d) (ry : RelV y u) (h : ∀ v w' s', DV p.K p.da G d v → Inv X pins σ H s' → RelV v w' → Q w' s') :
    wpAny (model X.prog X.w) A (getItem (.ref a) u) Q E s := by
  cases g with
  | k ws k' o hv e1 e2 =>
    subst e2
    obtain ⟨z, hd, vs, rel, dd⟩ := o
    have := DVg.get hkF e1 hv
    rw [e] at this
    obtain ⟨v, l, dv⟩ := this
    obtain ⟨w', hw, rw'⟩ := RelO.some_of (v := v) (o := valueAt vs k') (by rw [← l]; exact rel.val k')
    exact wpAny_getItem_of (kV_is ry) dd.mapOf hw (h v w' _ dv (I.tok _) rw')
  | t ws k' b o hv e1 e2 eb =>
    subst e2
    cases (show u = Value.ref b from ry)
    obtain ⟨z, hd, xs, rel, dd⟩ := okT I.hok o
    have := DVg.get hkT e1 hv
    rw [e] at this
    obtain ⟨v, l, dv⟩ := this
    obtain ⟨w', hw, rw'⟩ := RelO.some_of (v := v) (o := (atKey xs k').map (·.2)) (by rw [← l]; exact rel.val k')
    obtain ⟨q, hp, hp2⟩ := Option.map_eq_some_iff.mp hw
    refine wpAny_getItem_heap (tupleKind_room_in1 hu) (key_of I.hok eb) dd hp ?_
    rw [hp2]
    exact h v w' _ dv (I.tok _) rw'
theorem do_get1 {Q : Value → Shared → Prop} (hu : A.units + 1 < cLine) (I : Inv X pins σ H s) (g : DO X p G H s a kvs k y) (ry : RelV y u) (h : ∀ v w' s', DV p.K p.da G ((getK k kvs).getD .non) v → Inv X pins σ H s' → RelV v w' → Q w' s') :
    wpAny (model X.prog X.w) A (call (.builtin "dict.get") [.ref a, u]) Q E s := by
  have key : ∀ {o : Option V} {o' : Option Value}, (match getK k kvs with
    | some d => ∃ v, o = some v ∧ DV p.K p.da G d v
    | none => o = none) → RelO o o' → ∀ s', Inv X pins σ H s' → Q (o'.getD .none) s' := fun {o o'} m r s' I' => by
    cases q : getK k kvs with
    | some d =>
      rw [q] at m h
      obtain ⟨v, rfl, dv⟩ := m
      obtain ⟨w', rfl, rw'⟩ := RelO.some_of r
      exact h v w' s' dv I' rw'
    | none =>
      rw [q] at m h
      subst m
      cases o' with
      | none => exact h .non _ s' rfl I' rfl
      | some _ => exact h .non _ s' rfl I' (show False from r).elim
  cases g with
  | k ws k' o hv e1 e2 =>
    subst e2
    obtain ⟨z, hd, vs, rel, dd⟩ := o
    exact call_meetsIn PySem.F.slot_dict_get dd.typeIs PySem.F.entry_dict_get (PySem.F.args_dict_get_2 _ _) (meets_dict_get (mixKind X.prog X.w) a (kV_is ry) hd) ⟨_, dd.mapOf, key (DVg.get hkF e1 hv) (rel.val k') _ (I.tok _)⟩
  | t ws k' b o hv e1 e2 eb =>
    subst e2
    cases (show u = Value.ref b from ry)
    obtain ⟨z, hd, xs, rel, dd⟩ := okT I.hok o
    exact call_meetsIn PySem.F.slot_dict_get dd.typeIs PySem.F.entry_dict_get (PySem.F.args_dict_get_2 _ _) (meetsH_dict_get (tupleKind (mixKind X.prog X.w)) a b hd) ⟨tupleKind_room_in1 hu, k', xs, key_of I.hok eb, dd, key (DVg.get hkT e1 hv) (rel.val k') _ (I.tok _)⟩
theorem do_get2 {dv0 : D} {v0 : V} {r0 : Value} {Q : Value → Shared → Prop} (hu : A.units + 1 < cLine) (I : Inv X pins σ H s) (g : DO X p G H s a kvs k y) (ry : RelV y u) (h0 : DV p.K p.da G dv0 v0) (rr : RelV v0 r0) (h : ∀ v w' s', DV p.K p.da G ((getK k kvs).getD dv0) v → Inv X pins σ H s' → RelV v w' → Q w' s') :
    wpAny (model X.prog X.w) A (call (.builtin "dict.get") [.ref a, u, r0]) Q E s := by
  have key : ∀ {o : Option V} {o' : Option Value}, (match getK k kvs with
    | some d => ∃ v, o = some v ∧ DV p.K p.da G d v
    | none => o = none) → RelO o o' → ∀ s', Inv X pins σ H s' → Q (o'.getD r0) s' := fun {o o'} m r s' I' => by
    cases q : getK k kvs with
    | some d =>
      rw [q] at m h
      obtain ⟨v, rfl, dv⟩ := m
      obtain ⟨w', rfl, rw'⟩ := RelO.some_of r
      exact h v w' s' dv I' rw'
    | none =>
      rw [q] at m h
      subst m
      cases o' with
      | none => exact h v0 _ s' h0 I' rr
      | some _ => exact h v0 _ s' h0 I' (show False from r).elim
  cases g with
  | k ws k' o hv e1 e2 =>
    subst e2
    obtain ⟨z, hd, vs, rel, dd⟩ := o
    exact call_meetsIn PySem.F.slot_dict_get dd.typeIs PySem.F.entry_dict_get (PySem.F.args_dict_get_3 _ _ _) (meets_dict_get_default (mixKind X.prog X.w) a (kV_is ry) hd r0) ⟨_, dd.mapOf, key (DVg.get hkF e1 hv) (rel.val k') _ (I.tok _)⟩
  | t ws k' b o hv e1 e2 eb =>
    subst e2
    cases (show u = Value.ref b from ry)
    obtain ⟨z, hd, xs, rel, dd⟩ := okT I.hok o
    exact call_meetsIn PySem.F.slot_dict_get dd.typeIs PySem.F.entry_dict_get (PySem.F.args_dict_get_3 _ _ _) (meetsH_dict_get_default (tupleKind (mixKind X.prog X.w)) a b hd r0) ⟨tupleKind_room_in1 hu, k', xs, key_of I.hok eb, dd, key (DVg.get hkT e1 hv) (rel.val k') _ (I.tok _)⟩
end
/-! ### comparisons -/
def rC (p : Pk) (g : D → D → Option Bool) : R2 := fun x y H Q => ∃ dc G d1 d2 b, GS p dc G H ∧ RV p .bo G H d1 x ∧ RV p .bo G H d2 y ∧ g d1 d2 = some b ∧ Q (.bl b) H
section
variable {X : Cx} {p : Pk} {G H : Hp} {dc : Dc}
theorem eqD_some {a b : D} {c : Bool} (h : eqD a b = some c) : ∃ q r, toPy a = some q ∧ toPy b = some r ∧ SeqAt.shaped q = true ∧ SeqAt.shaped r = true ∧ PyData.eqv q r = c := by
  unfold eqD at h
  split at h
  · rename_i q r h1 h2
    split at h
    · rename_i hs
      rw [Bool.and_eq_true] at hs
      cases h
      exact ⟨q, r, h1, h2, hs.1, hs.2, rfl⟩
    · cases h
  · cases h
theorem anyEq_some {a : D} {b : List D} {c : Bool} (h : anyEq a b = some c) : ∃ q rs, toPy a = some q ∧ toPy.toPys b = some rs ∧ SeqAt.shaped q = true ∧ SeqAt.shaped (.list rs) = true ∧ (rs.any fun z => PyData.eqv z q) = c := by
  unfold anyEq at h
  split at h
  · rename_i q r h1 h2
    split at h
    · rename_i hs
      rw [Bool.and_eq_true] at hs
      cases h
      exact ⟨q, r, h1, h2, hs.1, hs.2, rfl⟩
    · cases h
  · cases h
theorem anyEqT_some {a : D} {b : List D} {c : Bool} (h : anyEqT a b = some c) : ∃ q rs, toPy a = some q ∧ toPy.toPys b = some rs ∧ SeqAt.shaped q = true ∧ SeqAt.shaped (.tuple rs) = true ∧ (rs.any fun z => PyData.eqv z q) = c := by
  unfold anyEqT at h
  split at h
  · rename_i q r h1 h2
    split at h
    · rename_i hs
      rw [Bool.and_eq_true] at hs
      cases h
      exact ⟨q, r, h1, h2, hs.1, hs.2, rfl⟩
    · cases h
  · cases h
theorem op_inDx (hK : X.K = p.K) (hu : X.A.units + 65 < cLine) : OpR X (compareOp .In) (rC p inD) := by
  intro pins s σ H x y v u Q I rx ry h
  obtain ⟨dc, G, d1, d2, b, gs, v1, v2, e, q⟩ := h
  have seq : ∀ {rs : List PyData} {q1 : PyData}, toPy d1 = some q1 → toPy d2 = some (.list rs) → SeqAt.shaped q1 = true → SeqAt.shaped (.list rs) = true → (rs.any fun z => PyData.eqv z q1) = b → wpAny (model X.prog X.w) X.A (compareOp .In v u) (EP X pins σ Q) X.xe s := fun {rs q1} e1 e2 s1 s2 e3 => by
    obtain ⟨as, r1⟩ := Dp.reads I _ x v (hK ▸ v1.dp gs e1) rx
    obtain ⟨bs, r2⟩ := Dp.reads I _ y u (hK ▸ v2.dp gs e2) ry
    exact SeqAt.in_list_reads r2 r1 (SeqAt.canLay_of_shaped s2) (SeqAt.canLay_of_shaped s1) (room_in_shaped s1 hu) ⟨.bl _, H, I, rfl, by rw [e3]; exact q⟩
  have seqT : ∀ {rs : List PyData} {q1 : PyData}, toPy d1 = some q1 → toPy d2 = some (.tuple rs) → SeqAt.shaped q1 = true → SeqAt.shaped (.tuple rs) = true → (rs.any fun z => PyData.eqv z q1) = b → wpAny (model X.prog X.w) X.A (compareOp .In v u) (EP X pins σ Q) X.xe s := fun {rs q1} e1 e2 s1 s2 e3 => by
    obtain ⟨as, r1⟩ := Dp.reads I _ x v (hK ▸ v1.dp gs e1) rx
    obtain ⟨bs, r2⟩ := Dp.reads I _ y u (hK ▸ v2.dp gs e2) ry
    exact SeqAt.in_tuple_reads r2 r1 (SeqAt.canLay_of_shaped s2) (SeqAt.canLay_of_shaped s1) (room_in_shaped s1 hu) ⟨.bl _, H, I, rfl, by rw [e3]; exact q⟩
  unfold inD at e
  split at e
  · obtain ⟨q1, rs, e1, e2, s1, s2, e3⟩ := anyEq_some e
    exact seq e1 (by show (toPy.toPys _).map _ = _; rw [e2]; rfl) s1 s2 e3
  · obtain ⟨q1, rs, e1, e2, s1, s2, e3⟩ := anyEqT_some e
    exact seqT e1 (by show (toPy.toPys _).map _ = _; rw [e2]; rfl) s1 s2 e3
  · obtain ⟨q1, rs, e1, e2, s1, s2, e3⟩ := anyEqT_some e
    exact seqT e1 (by show (toPy.toPys _).map _ = _; rw [e2]; rfl) s1 s2 e3
  · rename_i kvs
    obtain ⟨a, rfl, o⟩ := v2.dic gs I
    cases (show u = Value.ref a from ry)
    unfold lookD at e
    split at e
    · rename_i hk
      cases e
      exact do_in (by omega) I (DO.mk' gs hk v1 o) rx fun s' I' => ⟨.bl _, H, I', rfl, q⟩
    · cases e
  · rename_i z
    split at e
    · rename_i z'
      cases v1.str; cases v2.str; cases e
      exact op_in_str pins s σ H _ _ v u Q I rx ry ⟨_, _, rfl, rfl, q⟩
    · cases e
  · cases e
theorem op_notInDx (hK : X.K = p.K) (hu : X.A.units + 65 < cLine) : OpR X (compareOp .NotIn) (rC p fun a b => (inD a b).map (!·)) := by
  intro pins s σ H x y v u Q I rx ry h
  obtain ⟨dc, G, d1, d2, b', gs, v1, v2, e, q⟩ := h
  obtain ⟨b, e0, rfl⟩ := Option.map_eq_some_iff.mp (show (inD d1 d2).map (!·) = some b' from e)
  have seq : ∀ {rs : List PyData} {q1 : PyData}, toPy d1 = some q1 → toPy d2 = some (.list rs) → SeqAt.shaped q1 = true → SeqAt.shaped (.list rs) = true → (rs.any fun z => PyData.eqv z q1) = b → wpAny (model X.prog X.w) X.A (compareOp .NotIn v u) (EP X pins σ Q) X.xe s := fun {rs q1} e1 e2 s1 s2 e3 => by
    obtain ⟨as, r1⟩ := Dp.reads I _ x v (hK ▸ v1.dp gs e1) rx
    obtain ⟨bs, r2⟩ := Dp.reads I _ y u (hK ▸ v2.dp gs e2) ry
    exact SeqAt.notIn_list_reads r2 r1 (SeqAt.canLay_of_shaped s2) (SeqAt.canLay_of_shaped s1) (room_in_shaped s1 hu) ⟨.bl _, H, I, rfl, by rw [e3]; exact q⟩
  have seqT : ∀ {rs : List PyData} {q1 : PyData}, toPy d1 = some q1 → toPy d2 = some (.tuple rs) → SeqAt.shaped q1 = true → SeqAt.shaped (.tuple rs) = true → (rs.any fun z => PyData.eqv z q1) = b → wpAny (model X.prog X.w) X.A (compareOp .NotIn v u) (EP X pins σ Q) X.xe s := fun {rs q1} e1 e2 s1 s2 e3 => by
    obtain ⟨as, r1⟩ := Dp.reads I _ x v (hK ▸ v1.dp gs e1) rx
    obtain ⟨bs, r2⟩ := Dp.reads I _ y u (hK ▸ v2.dp gs e2) ry
    exact SeqAt.notIn_tuple_reads r2 r1 (SeqAt.canLay_of_shaped s2) (SeqAt.canLay_of_shaped s1) (room_in_shaped s1 hu) ⟨.bl _, H, I, rfl, by rw [e3]; exact q⟩
  clear e
  have e := e0
  unfold inD at e
  split at e
  · obtain ⟨q1, rs, e1, e2, s1, s2, e3⟩ := anyEq_some e
    exact seq e1 (by show (toPy.toPys _).map _ = _; rw [e2]; rfl) s1 s2 e3
  · obtain ⟨q1, rs, e1, e2, s1, s2, e3⟩ := anyEqT_some e
    exact seqT e1 (by show (toPy.toPys _).map _ = _; rw [e2]; rfl) s1 s2 e3
  · obtain ⟨q1, rs, e1, e2, s1, s2, e3⟩ := anyEqT_some e
    exact seqT e1 (by show (toPy.toPys _).map _ = _; rw [e2]; rfl) s1 s2 e3
  · rename_i kvs
    obtain ⟨a, rfl, o⟩ := v2.dic gs I
    cases (show u = Value.ref a from ry)
    unfold lookD at e
    split at e
    · rename_i hk
      cases e
      exact do_notIn (by omega) I (DO.mk' gs hk v1 o) rx fun s' I' => ⟨.bl _, H, I', rfl, q⟩
    · cases e
  · rename_i z
    split at e
    · rename_i z'
      cases v1.str; cases v2.str; cases e
      exact op_notin_str pins s σ H _ _ v u Q I rx ry ⟨_, _, rfl, rfl, q⟩
    · cases e
  · cases e
theorem ltD_some {a b : D} {c : Bool} (h : ltD a b = some c) : ∃ q r, toPy a = some q ∧ toPy b = some r ∧ PySem.W.alike q r = true ∧ q.depth ≤ 64 ∧ q ≠ .none ∧ PySem.W.dataLt q r = c := by
  unfold ltD at h
  split at h
  · rename_i q r h1 h2
    split at h
    · rename_i hs
      rw [Bool.and_eq_true, decide_eq_true_eq] at hs
      split at h
      · cases h
      · rename_i hn
        cases h
        exact ⟨q, r, h1, h2, hs.1, hs.2, hn, rfl⟩
    · cases h
  · cases h
theorem op_ltDx (hK : X.K = p.K) (hu : X.A.units + 65 < cLine) : OpR X (compareOp .Lt) (rC p ltD) := by
  intro pins s σ H x y v u Q I rx ry h
  obtain ⟨dc, G, d1, d2, b, gs, v1, v2, e, q⟩ := h
  obtain ⟨q1, q2, e1, e2, al, dp, nn, e3⟩ := ltD_some e
  obtain ⟨as, r1⟩ := Dp.reads I _ x v (hK ▸ v1.dp gs e1) rx
  obtain ⟨bs, r2⟩ := Dp.reads I _ y u (hK ▸ v2.dp gs e2) ry
  exact PySem.W.lt_data r1 r2 al nn (by have := Nat.min_le_left q1.depth q2.depth; omega) ⟨.bl _, H, I, rfl, by rw [e3]; exact q⟩
theorem rC_scal {f : Value → Value → Sem Value} {r : R2} {g : D → D → Option Bool} (ho : OpR X f r) (h : ∀ x y H Q, rC p g x y H Q → r x y H Q) : OpR X f (rC p g) := fun pins s σ H x y v u Q I rx ry q => ho pins s σ H x y v u Q I rx ry (h x y H Q q)
theorem RV.nonIff (gs : GS p dc G H) {d : D} {v : V} (h : RV p .bo G H d v) : decide (v = .non) = isNon d := by
  rcases h with h | ⟨a, e, w⟩
  · cases d with
    | non =>
      cases h
      rfl
    | bl _ =>
      cases h
      rfl
    | int _ =>
      cases h
      rfl
    | str _ =>
      cases h
      rfl
    | kdic _ => exact h.elim
    | tup _ =>
      obtain ⟨a, _, rfl, _⟩ := h
      rfl
    | lst _ =>
      obtain ⟨a, _, rfl, _⟩ := h
      rfl
    | dic _ =>
      obtain ⟨a, _, rfl, _⟩ := h
      rfl
    | obj _ _ =>
      obtain ⟨a, _, _, rfl, _⟩ := h
      rfl
    | dice =>
      obtain ⟨a, _, rfl⟩ := h
      rfl
    | ktup _ =>
      obtain ⟨a, _, rfl, _⟩ := h
      rfl
    | klst _ =>
      obtain ⟨a, _, rfl, _⟩ := h
      rfl
  · subst e
    have := w.ow
    cases d with
    | lst _ => rfl
    | dic _ => rfl
    | obj _ _ => rfl
    | _ => exact this.elim
theorem op_cmpD (hK : X.K = p.K) (hu : X.A.units + 65 < cLine) (op : CmpOp) : OpR X (compareOp op) (rC p (cmpD op)) := by
  intro pins s σ H x y v u Q I rx ry h
  obtain ⟨dc, G, d1, d2, b, gs, v1, v2, e, q⟩ := h
  unfold cmpD at e
  split at e
  · obtain ⟨q1, q2, e1, e2, s1, s2, e3⟩ := eqD_some e
    exact op_eqD (by omega) pins s σ H x y v u Q I rx ry ⟨q1, q2, hK ▸ v1.dp gs e1, hK ▸ v2.dp gs e2, s1, s2, by rw [e3]; exact q⟩
  · obtain ⟨b', e0, rfl⟩ := Option.map_eq_some_iff.mp e
    obtain ⟨q1, q2, e1, e2, s1, s2, e3⟩ := eqD_some e0
    exact op_neD (by omega) pins s σ H x y v u Q I rx ry ⟨q1, q2, hK ▸ v1.dp gs e1, hK ▸ v2.dp gs e2, s1, s2, by rw [e3]; exact q⟩
  · cases v1.int; cases v2.int; cases e
    exact op_lt pins s σ H _ _ v u Q I rx ry ⟨_, _, rfl, rfl, q⟩
  · cases v1.int; cases v2.int; cases e
    exact op_le pins s σ H _ _ v u Q I rx ry ⟨_, _, rfl, rfl, q⟩
  · cases v1.int; cases v2.int; cases e
    exact op_gt pins s σ H _ _ v u Q I rx ry ⟨_, _, rfl, rfl, q⟩
  · cases v1.int; cases v2.int; cases e
    exact op_ge pins s σ H _ _ v u Q I rx ry ⟨_, _, rfl, rfl, q⟩
  · exact op_ltDx hK hu pins s σ H x y v u Q I rx ry ⟨dc, G, d1, d2, b, gs, v1, v2, e, q⟩
  · exact op_inDx hK hu pins s σ H x y v u Q I rx ry ⟨dc, G, d1, d2, b, gs, v1, v2, e, q⟩
  · exact op_notInDx hK hu pins s σ H x y v u Q I rx ry ⟨dc, G, d1, d2, b, gs, v1, v2, e, q⟩
  · cases v2.non
    cases e
    exact op_isN pins s σ H _ _ v u Q I rx ry ⟨rfl, by rw [v1.nonIff gs]; exact q⟩
  · cases v2.non
    cases e
    refine op_notN pins s σ H _ _ v u Q I rx ry ⟨rfl, ?_⟩
    rw [v1.nonIff gs]
    exact q
  · cases e
end
end Px
set_option maxRecDepth 100000
set_option maxHeartbeats 4000000
/-! PE1: an instance compared with a text. -/
namespace Px
open PySem PySem.Spec PyProof.Rows L2
open AutoSeq1 (wpAny_loadPart')
theorem str_eq_declines_inst (b : Str) (u : Tok) (l C dx : Addr) : Meets (Builtin.«str.__eq__» ⟨[.str b u, .ref l], []⟩) (fun _ R s => s.heap.get? l = some (PySem.W.instObj C dx) ∧ R (.ok (.ret .notImplemented)) s) :=
  .of_wp fun prog w A R s h => by
    obtain ⟨hp, g, d, tk, os⟩ := s
    obtain ⟨hl, h⟩ := h
    unfold PySem.W.instObj at hl
    wp_walk using wpAny_loadPart' hl, wpAny_load hl
    exact ⟨_, rfl, h⟩
section
variable {M : Model} {prog : Program} {w : World} {A : Around} {E : Value → Shared → Prop} {s : Shared} {K : PySem.W.Frag} {x C : Addr} {ox : Obj} {od : Option Obj} {z : Str} {t : Tok}
theorem objEq_str {Q : Fin → Shared → Prop} (hq : Q (.done (.ret .notImplemented)) s) : wpAny M A (Builtin.«object.__eq__» ⟨[.ref x, .str z t], []⟩) Q E s := by
  unfold Builtin.«object.__eq__»
  repeat (first | with_reducible refine wpAny_of_eq (rfl : isSame (.ref x) (.str z t) = pure false) ?_ | wp_step)
  exact hq
theorem call_objEq_str {Q : Value → Shared → Prop} (X : K.In s.heap) (I : PySem.W.InstAt s.heap x ox C od) (hm : PySem.W.mroIn K C (.type "object") = some true) (hq : Q .notImplemented s) :
    wpAny (model prog w) A (call (.builtin "object.__eq__") [.ref x, .str z t]) Q E s :=
  wpAny_call (codeAny_call_builtin F.cmp_object.eq.plain F.cmpEntry_eq (PySem.W.check_slot F.cmpKind_eq F.cmpSplit_eq (I.type.andThen (PySem.W.looks_mroIn X hm)) (F.cmpArgs_eq _ _) (objEq_str hq)))
theorem sub_str : PySem.W.subIn K (.type "str") (.ref C) = some false := by
  have e : fastBuiltinMro "str" = some [.type "str", .type "object"] := by decide +kernel
  show (fastBuiltinMro "str").map (·.contains (.ref C)) = some false
  rw [e]
  first
    | rfl
    | simp
theorem rc_str {dx : Addr} (hu : A.units < cLine) (X : K.In s.heap) (I : PySem.W.InstAt s.heap x ox C od) (hx : s.heap.get? x = some (PySem.W.instObj C dx)) (hm : PySem.W.mroIn K C (.type "object") = some true) (hs : PySem.W.findIn K (.ref C) "__eq__" = some (some (.builtin "object.__eq__"))) :
    SeqAt.RcAt A s (.ref x) (.str z t) false := fun prog w E Q h => by
  have one : wpAny (model prog w) A (tryCompare (.ref x) "__eq__" (.str z t)) (fun r s' => r = none ∧ s' = s) E s := by
    unfold tryCompare
    exact wpAny_bind (HN.ifBound_objEq X I hs (call_objEq_str X I hm (wpAny_pure ⟨rfl, rfl⟩)))
  have two : wpAny (model prog w) A (tryCompare (.str z t) "__eq__" (.ref x)) (fun r s' => r = none ∧ s' = s) E s :=
    wpAny_tryCompare_declines (typeIs_str s z t) F.slot_str_eq_refl (call_meets F.slot_str_eq_refl (typeIs_str s z t) F.entry_str_eq (F.args_str_eq_2 _ _) (str_eq_declines_inst z t x C dx) ⟨hx, rfl, rfl, rfl⟩)
  simp only [richCompare, cmpInfo_Eq, oneThing_ref]
  refine wpAny_holding (wpAny_bind (wpAny_cRoomFor hu ?_))
  refine wpAny_bind (I.type.here ?_)
  refine wpAny_bind (wpAny_typeOf (typeIs_str s z t) ?_)
  split
  · refine wpAny_bind ((PySem.W.looks_subIn X sub_str).here ?_)
    simp only [Bool.false_eq_true, if_false, Bool.not_false, if_true]
    refine wpAny_bind (m := tryCompare (.ref x) _ (.str z t)) (wpAny_mono one (fun r s1 z => ?_) fun _ _ e => e)
    obtain ⟨z1, z2⟩ := z
    subst z1
    subst z2
    refine wpAny_bind (m := tryCompare (.str _ t) _ (.ref x)) (wpAny_mono two (fun r s2 z => ?_) fun _ _ e => e)
    obtain ⟨z1, z2⟩ := z
    subst z1
    subst z2
    exact wpAny_bind (wpAny_rule (wpAny_bind (wpAny_of_eq (rfl : isSame (.ref x) (.str _ t) = pure false) (wpAny_pure h))))
  · rename_i q
    exact absurd (by simp) q
end
end Px
set_option maxRecDepth 100000
set_option maxHeartbeats 4000000
/-! PS4: the context; expressions. -/
namespace Px
open PySem PySem.Spec PyProof.Rows L2

/-- what a def's call promises: F of the arguments -/
def spF (p : Qk) (F : Fn) : Sp := fun vs H Q E => ∃ ds G dc, DVs p.K p.da G ds vs ∧ GSq p dc G H ∧ (match F ds dc with
  | .ok d dc' => ∀ v G' H', GSq p dc' G' H' → Grow p.da G H G' H' → DV p.K p.da G' d v → Q v H'
  | .er c dc' => ∀ G' H', GSq p dc' G' H' → Grow p.da G H G' H' → E (.ref (He.ga p.K c)) none H'
  | .st => False)
/-- the built-ins used -/
def bltT : List Str := ["list", "tuple", "int", "dict", "str", "enumerate", "zip", "range"]
def bltF : List Str := ["len", "abs", "min", "max", "sum", "sorted", "any", "all"]
/-- what a class's __init__ promises -/
def spI (p : Qk) (c : Str) (F : Fn) : Sp := fun vs H Q E => ∃ a dx us ds H0 G dc, vs = .ref a :: us ∧ DVs p.K p.da G ds us ∧ GSq p dc G H0 ∧ H0 a = none ∧ H0 dx = none ∧ dx ≠ a ∧ H = upd (upd H0 dx (.own a)) a (.ins (He.ga p.K c) dx []) ∧ (match F ds dc with
  | .ok d dc' => ∃ fs, d = .obj c fs ∧ ∀ ws G' H', GSq p dc' G' H' → Grow p.da G H0 G' H' → H' a = some (.ins (He.ga p.K c) dx ws) → H' dx = some (.own a) → G' a = none → G' dx = none → DVf p.K p.da G' fs ws → Q .non H'
  | .er e dc' => ∀ G' H', GSq p dc' G' H' → Grow p.da G H0 G' H' → E (.ref (He.ga p.K e)) none H'
  | .st => False)
/-- a def that calls what it gets and tells an error by the word w; pr: the errors that it tells -/
structure ToldOk (K : PySem.W.Frag) (mg : Str → Option Value) (f : Str) (pr : Str → Bool) (w : Str) (g CS : Addr) (a e : Str) (pg : Arguments) (bg : List Stmt) (sg : Scope) (dV kV doc pm cdv ct oc : Value) (an od : Option Addr) (osl : Array (Option Value)) (Ng : List Str) : Prop where
  at_ : mg f = some (.ref g)
  keep : PySem.W.keepIn K (.ref g) = true
  lk : K.lookup g = some ⟨oc, od, .func (PySem.W.fnOf f f pg bg sg dV kV doc pm an cdv ct), osl⟩
  code : PySem.W.codeIn K cdv f = true
  binds : Binds K (PySem.W.fnOf f f pg bg sg dV kV doc pm an cdv ct) [a] []
  scope : FnScope Ng [a] sg
  ix : Ng[0]? = some a
  vis : Vis sg a
  glo : sg.names.lookup e = some .globalImplicit
  err : mg e = some (.ref CS)
  de : (e == ("__debug__" : Str)) = false
  da : (a == ("__debug__" : Str)) = false
  dk : (a == ("__classdict__" : Str)) = false
  st : ∀ v : V, (L2.start Ng [v])[0]? = some (some v)
  body : ∃ (j : Nat) (p1 p2 p3 p4 p5 p6 p7 p8 : Pos), bg = [.Try [.Return (some (.Call (.Name a p1) [] [] p2)) p3] [.ExceptHandler (some (.Name e p4)) none [.Return (some (.Constant (.str w) j p5)) p6] p7] [] [] p8]
  tells : ∀ c, pr c = true → PySem.W.exmOne K (.ref (He.ga K c)) (.ref CS) = some true
structure GmOk (p : Qk) (Γ : Gm) (k : Nat) (prog : Program) (w : World) (mg : Str → Option Value) (base : Heap) : Prop where
  gl : ∀ x d, Γ.gl.lookup x = some d → ∃ v u, mg x = some u ∧ RelV v u ∧ ∀ G, DV p.K p.da G d v
  bl : ∀ f ∈ bltT ++ bltF, mg f = none ∧ Γ.fn.lookup f = none ∧ Γ.mks.lookup f = none ∧ Γ.told.lookup f = none
  cls : ∀ c f, (c, f) ∈ Γ.fl → Cls p.K (He.ga p.K c) ∧ NoAttr p.K (He.ga p.K c) f
  fn : ∀ f F, Γ.fn.lookup f = some F → ∃ (a : Addr) (fd : FuncData) (ps : List Str) (j : Nat), j ≤ k ∧ mg f = some (.ref a) ∧ PySem.W.keepIn p.K (.ref a) = true ∧ Binds p.K fd ps [] ∧ FnOk prog w p.K mg base (L2.CX prog w) j a fd ps (spF p F)
  mak : ∀ c F, Γ.mks.lookup c = some F → ∃ (a : Addr) (fd : FuncData) (ps : List Str) (j : Nat), j + 1 ≤ k ∧ mg c = some (.ref (He.ga p.K c)) ∧ Mk p.K (He.ga p.K c) a ∧ Binds p.K fd ps [] ∧ (∀ ds dc d dc', F ds dc = .ok d dc' → ∃ fs, d = .obj c fs) ∧ FnOk prog w p.K mg base (L2.CX prog w) j a fd ps (spI p c F)
  eqs : ∀ c ∈ Γ.eqs, PySem.W.mroIn p.K (He.ga p.K c) (.type "object") = some true ∧ PySem.W.findIn p.K (.ref (He.ga p.K c)) "__eq__" = some (some (.builtin "object.__eq__"))
  ex : ∀ c ∈ Γ.ex, mg c = some (.ref (He.ga p.K c)) ∧ PySem.W.excIn p.K (He.ga p.K c) He.veBase "ValueError.__new__" = true ∧ PySem.W.keepIn p.K (.ref (He.ga p.K c)) = true ∧ PySem.W.subIn p.K (.ref (He.ga p.K c)) (.type "BaseException") = some true ∧ PySem.W.typeIn p.K (.ref (He.ga p.K c)) = some (.type "type")
  told : ∀ f pr wd, Γ.told.lookup f = some (pr, wd) → ∃ (g CS : Addr) (a e : Str) (pg : Arguments) (bg : List Stmt) (sg : Scope) (dV kV doc pm cdv ct oc : Value) (an od : Option Addr) (osl : Array (Option Value)) (Ng : List Str), ToldOk p.K mg f pr wd g CS a e pg bg sg dV kV doc pm cdv ct oc an od osl Ng
  me : ∀ c m F, Γ.me.lookup (c, m) = some F → ∃ (a : Addr) (fd : FuncData) (ps : List Str) (j : Nat), j ≤ k ∧ Cls p.K (He.ga p.K c) ∧ Meth p.K (He.ga p.K c) m a ∧ Binds p.K fd ps [] ∧ FnOk prog w p.K mg base (L2.CX prog w) j a fd ps (spF p F)
structure XOk (p : Pk) (C : Cn) (k : Nat) (W : WX) (X : Cx) : Prop where
  K : X.K = p.K
  N : X.N = C.N
  nd : C.N.Nodup
  calm : X.calm = true
  room' : Room (k + C.g) X.A
  tk : Takes X W
  vis : ∀ x, locK C.sc x = true → Vis X.env.scope x
  glo : ∀ x, gloK C.sc x = true → Gl X x
  sto : ∀ x, stoK C.sc x = true → Loc X.env.scope x ∧ (X.fn x = true ∨ X.env.scope.names.lookup x = some .local)
  fre : ∀ x, C.sc.names.lookup x = some .cell ∨ C.sc.names.lookup x = some .free → X.env.scope.names.lookup x = some .cell ∨ X.env.scope.names.lookup x = some .free
  gm : GmOk p.toQk C.Γ k X.prog X.w X.mg X.base
  tab : C.g ≠ 0 → ∃ c P, X.env.code = .ref c ∧ LamX.TabB X.base X.mg c P ∧ (P, C.lp, X.env.qual) ∈ p.T ∧ ∀ t ∈ p.T, t.1 = P → t = (P, C.lp, X.env.qual)
  top : C.top = true → X.env.cells = p.cl ∧ X.env.qual = p.q ∧ X.env.scope = C.sc
theorem XOk.room {p : Pk} {C : Cn} {k : Nat} {W : WX} {X : Cx} (x : XOk p C k W X) : Room k X.A := x.room'.mono (Nat.le_add_right _ _)
/-- what way an expression may be asked -/
def mdOk (m : Md) (b : Bool) (e : Expr) : Bool := match m with
  | .bo => true
  | .va => !b
  | .fr => !b && fresh e
structure IH (n : Nat) : Prop where
  E : ∀ {p : Pk} {C : Cn} {k : Nat} {W : WX} {X : Cx}, XOk p C k W X → ∀ (b : Bool) (m : Md) (e : Expr), mdOk m b e = true → PE X e (tE p W m fun ρ => dE n b C e ρ)
  O : ∀ {p : Pk} {C : Cn} {k : Nat} {W : WX} {X : Cx}, XOk p C k W X → ∀ (e : Option Expr), PO X e (tM p W (fun _ _ d v => v = d) fun ρ => dO n C e ρ)
  T : ∀ {p : Pk} {C : Cn} {k : Nat} {W : WX} {X : Cx}, XOk p C k W X → ∀ (e : Expr), PT X e (tB p W fun ρ => dT n C e ρ)
  Ts : ∀ {p : Pk} {C : Cn} {k : Nat} {W : WX} {X : Cx}, XOk p C k W X → ∀ (es : List Expr), PTs X es (tB p W fun ρ => dTs n C es ρ)

theorem pe_no {X : Cx} {e : Expr} {t : TE} (h : ∀ σ H Q, ¬ t σ H Q) : PE X e t := ⟨fun pins s σ H Q I q => (h σ H Q q).elim⟩
theorem tM_no {α β : Type} {p : Pk} {W : WX} {rel : Hp → Hp → α → β → Prop} {f : En → M α} (h : ∀ ρ, f ρ = M.st) : ∀ σ H Q, ¬ tM p W rel f σ H Q := fun σ H Q ⟨ρ, G, dc, _, _, q⟩ => by
  rw [h ρ] at q
  exact q
theorem pe_st {X : Cx} {e : Expr} {p : Pk} {W : WX} {m : Md} : PE X e (tE p W m fun _ => M.st) := pe_no (tM_no fun _ => rfl)
section
variable {p : Pk} {C : Cn} {k : Nat} {W : WX} {X : Cx} {n : Nat} {b : Bool} {m : Md}
theorem XOk.u65 (x : XOk p C k W X) : X.A.units + 65 < cLine := by have := x.room.un; omega
/-- a comparison by the evaluator's function -/
theorem op_cmpG (x : XOk p C k W X) (op : CmpOp) : OpR X (compareOp op) (rC p (cmpG C.Γ op)) := by
  intro pins s σ H xv y v u Q I rx ry h
  obtain ⟨dc, G, d1, d2, b, gs, v1, v2, e, q⟩ := h
  unfold cmpG at e
  split at e
  · rename_i c fs z
    split at e
    · rename_i hc
      cases e
      obtain ⟨h1, h2⟩ := x.gm.eqs c hc
      obtain ⟨a, dx, ws, rfl, ha, _⟩ := v1.obj gs
      cases v2.str
      obtain ⟨t, rfl⟩ := ry
      cases (show v = Value.ref a from rx)
      obtain ⟨mA, O, _⟩ := ins_get I.hok ha
      obtain ⟨od, J, _⟩ := O.look
      obtain ⟨_, _, _, ho, _⟩ := (show ObjOk X.prog X.w H s.heap a (.ins _ dx ws) from I.hok a _ ha)
      exact rc_str (by have := x.u65; omega) I.kIn J ho (by rw [x.K]; exact h1) (by rw [x.K]; exact h2) X.prog X.w X.xe _ ⟨.bl false, H, I, rfl, q⟩
    · cases e
  · exact op_cmpD x.K x.u65 op pins s σ H xv y v u Q I rx ry ⟨dc, G, d1, d2, b, gs, v1, v2, e, q⟩
theorem plain_d {x : Str} (h : plainK x = true) : (x == ("__debug__" : Str)) = false ∧ (x == ("__classdict__" : Str)) = false ∧ x ≠ "__name__" := by
  unfold plainK at h
  simp only [Bool.and_eq_true, Bool.not_eq_true'] at h
  exact ⟨h.1.1, h.1.2, fun z => by rw [z] at h; exact absurd h.2 (by decide)⟩
theorem loc_plain {sc : Scope} {x : Str} (h : locK sc x = true) : plainK x = true := by
  unfold locK at h
  rw [Bool.and_eq_true] at h
  exact h.1
theorem sto_plain {sc : Scope} {x : Str} (h : stoK sc x = true) : plainK x = true := by
  unfold stoK at h
  rw [Bool.and_eq_true] at h
  exact h.1
theorem glo_plain {sc : Scope} {x : Str} (h : gloK sc x = true) : plainK x = true := by
  unfold gloK at h
  rw [Bool.and_eq_true] at h
  exact h.1
theorem bindM {α β : Type} (m : M α) (f : α → M β) : (m >>= f) = M.bind m f := rfl
/-- a scalar answers any way -/
theorem RV.sc {G H : Hp} {d : D} {v : V} (h : DV p.K p.da G d v) (hc : cont d = false) : RV p m G H d v := RV.of h hc
theorem e_con {e : Expr} {d : D} {v : V} {f : En → M D} (hp : PE X e (tC v)) (hf : f = fun _ => Px.lift (some d)) (hd : ∀ G, DV p.K p.da G d v) (hc : cont d = false) : PE X e (tE p W m f) := by
  refine PE.imp hp fun σ H Q ⟨ρ, G, dc, gs, rs, q⟩ => ?_
  subst hf
  obtain ⟨d', e, q⟩ := Post.lift (show Post p W (RV p m) σ G H (Px.lift (some d) dc) Q from q)
  cases e
  exact q _ G H gs (.refl _ _ _) (RV.of (hd G) hc)
theorem e_const {c : Const} {j : Nat} {pos : Pos} : PE X (.Constant c j pos) (tE p W m fun ρ => dE (n + 1) b C (.Constant c j pos) ρ) := by
  cases c with
  | none => exact e_con pe_non rfl (fun _ => rfl) rfl
  | bool v => exact e_con pe_bl rfl (fun _ => rfl) rfl
  | int v => exact e_con pe_int rfl (fun _ => rfl) rfl
  | str v => exact e_con pe_str rfl (fun _ => rfl) rfl
  | float _ => exact pe_st
  | complex _ => exact pe_st
  | bytes _ => exact pe_st
  | ellipsis => exact pe_st
theorem RS.get {ρ : En} {σ : St} {G H : Hp} (rs : RS p ρ σ G H) {i : Nat} {d : D} (h : ρ[i]? = some (.va d)) : ∃ v, σ[i]? = some (some v) ∧ DV p.K p.da G d v := rs.va i d h
theorem idx_at {N : List Str} {x : Str} {α : Type} {l : List α} (hl : l.length = N.length) {i : Nat} {y : α} (hi : i = ixOf N x) (h : l[i]? = some y) : N[i]? = some x := by
  subst hi
  have h1 := (List.getElem?_eq_some_iff.mp h).1
  unfold ixOf at *
  have h2 : N.idxOf x < N.length := by omega
  rw [List.getElem?_eq_getElem h2, List.getElem_idxOf h2]
theorem e_name (x : XOk p C k W X) {y : Str} {pos : Pos} (hm : mdOk m b (.Name y pos) = true) : PE X (.Name y pos) (tE p W m fun ρ => dE (n + 1) b C (.Name y pos) ρ) := by
  by_cases hl : locK C.sc y = true
  · refine ⟨fun pins s σ H Q I ⟨ρ, G, dc, gs, rs, q⟩ => ?_⟩
    have q : Post p W (RV p m) σ G H ((if b then rdB (ixOf C.N y) ρ else rdV (ixOf C.N y) ρ) dc) Q := by
      have e : dE (n + 1) b C (.Name y pos) ρ = (if b then rdB (ixOf C.N y) ρ else rdV (ixOf C.N y) ρ) := by
        unfold dE
        simp only [hl, if_true]
      rw [← e]; exact q
    have pl := plain_d (loc_plain hl)
    have fin : ∀ {d : D} {v : V}, ρ[ixOf C.N y]? ≠ none → σ[ixOf C.N y]? = some (some v) → RV p m G H d v → Post p W (RV p m) σ G H (.ok d dc) Q → wpAny (model X.prog X.w) X.A (eval (.Name y pos) X.env) (EP X pins σ Q) X.xe s := fun {d v} hne hs hr hp => by
      have hi : X.N[ixOf C.N y]? = some y := by
        rw [x.N]
        exact idx_at (by rw [I.len, x.N]) rfl hs
      exact (pe_var hi (x.vis y hl) pl.1 pl.2.1).run pins s σ H Q I ⟨v, hs, hp _ G H gs (.refl _ _ _) hr⟩
    cases hr : ρ[ixOf C.N y]? with
    | none =>
      exfalso
      cases b <;> (simp only [Bool.false_eq_true, if_false, if_true, rdV, rdB, hr] at q; exact q)
    | some sl =>
      cases sl with
      | no => 
        exfalso
        cases b <;> (simp only [Bool.false_eq_true, if_false, if_true, rdV, rdB, hr] at q; exact q)
      | la d => 
        exfalso
        cases b <;> (simp only [Bool.false_eq_true, if_false, if_true, rdV, rdB, hr] at q; exact q)
      | va d =>
        obtain ⟨v, h1, h2⟩ := rs.va _ d hr
        refine fin (d := d) (by rw [hr]; simp) h1 ?_ ?_
        · cases m with
          | va => exact h2
          | bo => exact .inl h2
          | fr => cases b <;> cases hm
        · cases b <;> (simp only [Bool.false_eq_true, if_false, if_true, rdV, rdB, hr] at q; exact q)
      | ow d =>
        obtain ⟨a, h1, h2⟩ := rs.ow _ d hr
        cases b with
        | false => 
          exfalso
          simp only [Bool.false_eq_true, if_false, rdV, hr] at q
          exact q
        | true =>
          refine fin (d := d) (by rw [hr]; simp) h1 ?_ (by simp only [if_true, rdB, hr] at q; exact q)
          cases m with
          | va => cases hm
          | bo => exact .inr ⟨a, rfl, h2⟩
          | fr => cases hm
  · by_cases hg : gloK C.sc y = true
    · refine ⟨fun pins s σ H Q I ⟨ρ, G, dc, gs, rs, q⟩ => ?_⟩
      have e : dE (n + 1) b C (.Name y pos) ρ = Px.lift (C.Γ.gl.lookup y) := by
        unfold dE
        simp only [hl, hg, if_true]
        rfl
      replace q : Post p W (RV p m) σ G H (Px.lift (C.Γ.gl.lookup y) dc) Q := by rw [← e]; exact q
      obtain ⟨d, e, q⟩ := Post.lift q
      obtain ⟨v, u, h1, h2, h3⟩ := x.gm.gl y d e
      refine (pe_glob (x.glo y hg) h1 h2 (plain_d (glo_plain hg)).1).run pins s σ H Q I (q v G H gs (.refl _ _ _) ?_)
      cases m with
      | va => exact h3 G
      | bo => exact .inl (h3 G)
      | fr => cases b <;> cases hm
    · refine pe_no (tM_no fun ρ => ?_)
      unfold dE
      simp only [hl, hg]
      rfl
theorem e_bin (h : IH n) (x : XOk p C k W X) {l r : Expr} {op : Operator} {pos : Pos} : PE X (.BinOp l op r pos) (tE p W m fun ρ => dE (n + 1) b C (.BinOp l op r pos) ρ) := by
  refine PE.imp (pe_op (op_binD (p := p) (m := m) op) (h.E x true .bo l rfl) (h.E x true .bo r rfl)) fun σ H Q ⟨ρ, G, dc, gs, rs, post⟩ => ?_
  refine ⟨ρ, G, dc, gs, rs, Post.seq post fun d1 dc1 v1 G1 H1 _ gs1 g1 r1 post => ?_⟩
  refine ⟨ρ, G1, dc1, gs1, rs.grow gs g1, Post.seq post fun d2 dc2 v2 G2 H2 _ gs2 g2 r2 post => ?_⟩
  obtain ⟨d, e, fin⟩ := Post.lift post
  exact ⟨dc2, G2, d1, d2, d, gs2, ((rs.grow gs g1).grow gs1 g2).hz, r1.grow gs1 g2, r2, e, fin⟩
theorem e_neg (h : IH n) (x : XOk p C k W X) {l : Expr} {pos : Pos} : PE X (.UnaryOp .USub l pos) (tE p W m fun ρ => dE (n + 1) b C (.UnaryOp .USub l pos) ρ) := by
  refine PE.imp (pe_un (un_negD (p := p) (m := m)) (h.E x true .bo l rfl)) fun σ H Q ⟨ρ, G, dc, gs, rs, post⟩ => ?_
  refine ⟨ρ, G, dc, gs, rs, Post.seq post fun d1 dc1 v1 G1 H1 _ gs1 g1 r1 post => ?_⟩
  obtain ⟨d, e, fin⟩ := Post.lift post
  exact ⟨dc1, G1, d1, d, gs1, r1, e, fin⟩
theorem asB_some {d : D} {c : Bool} (h : asB d = some c) : d = .bl c := by
  cases d with
  | bl b =>
    cases h
    rfl
  | _ => cases h
theorem e_not (h : IH n) (x : XOk p C k W X) {l : Expr} {pos : Pos} : PE X (.UnaryOp .Not l pos) (tE p W m fun ρ => dE (n + 1) b C (.UnaryOp .Not l pos) ρ) := by
  refine PE.imp (pe_not (h.E x true .bo l rfl)) fun σ H Q ⟨ρ, G, dc, gs, rs, post⟩ => ?_
  refine ⟨ρ, G, dc, gs, rs, Post.seq post fun d1 dc1 v1 G1 H1 _ gs1 g1 r1 post => ?_⟩
  obtain ⟨c, e, post⟩ := Post.liftB post
  cases asB_some e
  cases r1.bl
  exact ⟨c, rfl, post _ G1 H1 gs1 (.refl _ _ _) (RV.of rfl rfl)⟩
theorem e_bool (h : IH n) (x : XOk p C k W X) {op : BoolOp} {pos : Pos} : ∀ (vs : List Expr), PE X (.BoolOp op vs pos) (tE p W m fun ρ => boolV op (vs.map fun e => dE n true C e ρ))
  | [] => pe_st
  | [e] => by
    refine PE.imp (pe_one (h.E x true .bo e rfl)) fun σ H Q ⟨ρ, G, dc, gs, rs, post⟩ => ?_
    refine ⟨ρ, G, dc, gs, rs, Post.seq post fun d1 dc1 v1 G1 H1 _ gs1 g1 r1 post => ?_⟩
    obtain ⟨c, e, post⟩ := Post.liftB post
    cases asB_some e
    cases r1.bl
    exact post _ G1 H1 gs1 (.refl _ _ _) (RV.of rfl rfl)
  | e :: e' :: es => by
    have ih := e_bool h x (op := op) (pos := pos) (e' :: es)
    cases op with
    | And =>
      refine PE.imp (pe_and (h.E x true .bo e rfl) ih) fun σ H Q ⟨ρ, G, dc, gs, rs, post⟩ => ?_
      refine ⟨ρ, G, dc, gs, rs, Post.seq post fun d1 dc1 v1 G1 H1 _ gs1 g1 r1 post => ?_⟩
      obtain ⟨c, e, post⟩ := Post.liftB post
      cases asB_some e
      cases r1.bl
      refine ⟨c, rfl, ?_⟩
      cases c with
      | true => exact ⟨ρ, G1, dc1, gs1, rs.grow gs g1, post⟩
      | false => exact post _ G1 H1 gs1 (.refl _ _ _) (RV.of rfl rfl)
    | Or =>
      refine PE.imp (pe_or (h.E x true .bo e rfl) ih) fun σ H Q ⟨ρ, G, dc, gs, rs, post⟩ => ?_
      refine ⟨ρ, G, dc, gs, rs, Post.seq post fun d1 dc1 v1 G1 H1 _ gs1 g1 r1 post => ?_⟩
      obtain ⟨c, e, post⟩ := Post.liftB post
      cases asB_some e
      cases r1.bl
      refine ⟨c, rfl, ?_⟩
      cases c with
      | false => exact ⟨ρ, G1, dc1, gs1, rs.grow gs g1, post⟩
      | true => exact post _ G1 H1 gs1 (.refl _ _ _) (RV.of rfl rfl)
/-- not a set display: nothing is marked -/
theorem nomark {op : CmpOp} {e : Expr} (h : ∀ es j q, e ≠ .Set es j q) : behindInMarks op e = false := by
  cases e <;> first | rfl | exact absurd rfl (h _ _ _)
theorem dE_set {es : List Expr} {j : Nat} {q : Pos} : dE n b C (.Set es j q) = fun ρ => M.st := by
  funext ρ
  cases n <;> rfl
theorem bind_st {α β : Type} (m : M α) : (m >>= fun _ => (M.st : M β)) = fun dc => match m dc with
  | .ok _ _ => .st
  | .er c d => .er c d
  | .st => .st := rfl
theorem isSetE_ne {r : Expr} (h : isSetE r = false) : ∀ es j q, r ≠ .Set es j q := fun es j q z => by
  rw [z] at h
  cases h
theorem e_cmp1 (h : IH n) (x : XOk p C k W X) {l r : Expr} {op : CmpOp} {pos : Pos} : PE X (.Compare l [op] [r] pos) (tE p W m fun ρ => dE (n + 1) b C (.Compare l [op] [r] pos) ρ) := by
  cases hr : isSetE r with
  | true =>
    refine pe_no (tM_no fun ρ => ?_)
    show (if isSetE r = true then M.st else _) = M.st
    rw [if_pos hr]
  | false =>
    refine PE.imp (pe_cmpR (op_cmpG x op) (h.E x true .bo l rfl) (h.E x true .bo r rfl) (nomark (isSetE_ne hr))) fun σ H Q ⟨ρ, G, dc, gs, rs, post⟩ => ?_
    replace post : Post p W (RV p m) σ G H ((dE n true C l ρ >>= fun x => dE n true C r ρ >>= fun y => lift (cmpG C.Γ op x y) >>= fun c => pure (.bl c)) dc) Q := by
      have e : dE (n + 1) b C (.Compare l [op] [r] pos) ρ = (dE n true C l ρ >>= fun x => dE n true C r ρ >>= fun y => lift (cmpG C.Γ op x y) >>= fun c => pure (.bl c)) := by
        show (if isSetE r = true then M.st else _) = _
        rw [if_neg (by rw [hr]; simp)]
      rw [← e]; exact post
    refine ⟨ρ, G, dc, gs, rs, Post.seq post fun d1 dc1 v1 G1 H1 _ gs1 g1 r1 post => ?_⟩
    refine ⟨ρ, G1, dc1, gs1, rs.grow gs g1, Post.seq post fun d2 dc2 v2 G2 H2 _ gs2 g2 r2 post => ?_⟩
    obtain ⟨c, e, post⟩ := Post.liftB post
    exact ⟨dc2, G2, d1, d2, c, gs2, r1.grow gs1 g2, r2, e, post _ G2 H2 gs2 (.refl _ _ _) (RV.of rfl rfl)⟩
theorem e_cmp2 (h : IH n) (x : XOk p C k W X) {l r r' : Expr} {op op' : CmpOp} {pos : Pos} : PE X (.Compare l [op, op'] [r, r'] pos) (tE p W m fun ρ => dE (n + 1) b C (.Compare l [op, op'] [r, r'] pos) ρ) := by
  cases hr : isSetE r' with
  | true =>
    refine pe_no (tM_no fun ρ => ?_)
    show (if isSetE r' = true then M.st else _) = M.st
    rw [if_pos hr]
  | false =>
    refine PE.imp (pe_chain (op_cmpG x op) (op_cmpG x op') (h.E x true .bo l rfl) (h.E x true .bo r rfl) (h.E x true .bo r' rfl) (nomark (isSetE_ne hr))) fun σ H Q ⟨ρ, G, dc, gs, rs, post⟩ => ?_
    replace post : Post p W (RV p m) σ G H ((dE n true C l ρ >>= fun x => dE n true C r ρ >>= fun y => lift (cmpG C.Γ op x y) >>= fun c => if c then (dE n true C r' ρ >>= fun z => lift (cmpG C.Γ op' y z) >>= fun c' => pure (.bl c')) else pure (.bl false)) dc) Q := by
      have e : dE (n + 1) b C (.Compare l [op, op'] [r, r'] pos) ρ = (dE n true C l ρ >>= fun x => dE n true C r ρ >>= fun y => lift (cmpG C.Γ op x y) >>= fun c => if c then (dE n true C r' ρ >>= fun z => lift (cmpG C.Γ op' y z) >>= fun c' => pure (.bl c')) else pure (.bl false)) := by
        show (if isSetE r' = true then M.st else _) = _
        rw [if_neg (by rw [hr]; simp)]
      rw [← e]; exact post
    refine ⟨ρ, G, dc, gs, rs, Post.seq post fun d1 dc1 v1 G1 H1 _ gs1 g1 r1 post => ?_⟩
    refine ⟨ρ, G1, dc1, gs1, rs.grow gs g1, Post.seq post fun d2 dc2 v2 G2 H2 _ gs2 g2 r2 post => ?_⟩
    obtain ⟨c, e, post⟩ := Post.liftB post
    refine ⟨dc2, G2, d1, d2, c, gs2, r1.grow gs1 g2, r2, e, c, rfl, ?_⟩
    cases c with
    | false => exact post _ G2 H2 gs2 (.refl _ _ _) (RV.of rfl rfl)
    | true =>
      refine ⟨ρ, G2, dc2, gs2, (rs.grow gs g1).grow gs1 g2, Post.seq post fun d3 dc3 v3 G3 H3 _ gs3 g3 r3 post => ?_⟩
      obtain ⟨c, e, post⟩ := Post.liftB post
      exact ⟨dc3, G3, d2, d3, c, gs3, r2.grow gs2 g3, r3, e, post _ G3 H3 gs3 (.refl _ _ _) (RV.of rfl rfl)⟩
theorem e_if (h : IH n) (x : XOk p C k W X) {t a c : Expr} {pos : Pos} (hm : mdOk m b (.IfExp t a c pos) = true) : PE X (.IfExp t a c pos) (tE p W m fun ρ => dE (n + 1) b C (.IfExp t a c pos) ρ) := by
  have key : ∀ m', m' = .va ∨ m' = .bo → PE X (.IfExp t a c pos) (tE p W m' fun ρ => dE (n + 1) b C (.IfExp t a c pos) ρ) := fun m' hm' => by
    have ok : ∀ e, mdOk m' false e = true := fun e => by rcases hm' with rfl | rfl <;> rfl
    refine PE.imp (pe_ifExp (h.T x t) (h.E x false m' a (ok a)) (h.E x false m' c (ok c))) fun σ H Q ⟨ρ, G, dc, gs, rs, post⟩ => ?_
    refine ⟨ρ, G, dc, gs, rs, Post.seq (show Post p W (RV p m') σ G H ((dT n C t ρ >>= fun c' => if c' then dE n false C a ρ else dE n false C c ρ) dc) Q from post) fun d1 dc1 v1 G1 H1 _ gs1 g1 r1 post => ?_⟩
    cases (show v1 = d1 from r1)
    cases d1 with
    | true => exact ⟨ρ, G1, dc1, gs1, rs.grow gs g1, post⟩
    | false => exact ⟨ρ, G1, dc1, gs1, rs.grow gs g1, post⟩
  cases m with
  | va => exact key _ (.inl rfl)
  | bo => exact key _ (.inr rfl)
  | fr => cases b <;> cases hm
/-! ### lists of expressions -/
def DVb (p : Pk) (m : Md) (G H : Hp) (ds : List D) (vs : List V) : Prop := Paired (fun d v => RV p m G H d v) ds vs
theorem DVb.va {G H : Hp} : ∀ {ds : List D} {vs : List V}, DVb p .va G H ds vs → DVs p.K p.da G ds vs
  | _, _, .nil => rfl
  | _, _, .cons h t => ⟨_, _, rfl, h, DVb.va t⟩
theorem DVb.grow {m : Md} (hm : m = .va ∨ m = .bo) {G H G' H' : Hp} {dc : Dc} (s : GS p dc G H) (g : Grow p.da G H G' H') : ∀ {ds : List D} {vs : List V}, DVb p m G H ds vs → DVb p m G' H' ds vs
  | _, _, .nil => .nil
  | _, _, .cons h t => .cons (by
      rcases hm with rfl | rfl
      · exact RV.dvgrow g h
      · exact RV.grow s g h) (DVb.grow hm s g t)
theorem star_of {e : Expr} {es : List Expr} {env : Env} (h : ∀ a q, e ≠ .Starred a q) : starEach (e :: es) env = (false, eval e env) :: starEach es env := by
  cases e <;> first | rfl | exact absurd rfl (h _ _)
theorem dE_star {a : Expr} {q : Pos} : dE n b C (.Starred a q) = fun ρ => M.st := by
  funext ρ
  cases n <;> rfl
theorem pa_list (h : IH n) (x : XOk p C k W X) (b : Bool) (m : Md) (hm : m = .va ∨ m = .bo) (hb : ∀ e, mdOk m b e = true) : ∀ (es : List Expr), PA X es (tM p W (fun G H ds vs => DVb p m G H ds vs) fun ρ => seqM (es.map fun e => dE n b C e ρ))
  | [] => PA.imp pa_nil fun σ H Q ⟨ρ, G, dc, gs, rs, post⟩ => post [] G H gs (.refl _ _ _) .nil
  | e :: es => by
    by_cases hs : ∃ a q, e = .Starred a q
    · obtain ⟨a, q, rfl⟩ := hs
      refine ⟨fun pos pins s σ H Q I ⟨ρ, G, dc, gs, rs, post⟩ => ?_⟩
      have e : seqM ((Expr.Starred a q :: es).map fun e => dE n b C e ρ) = M.st := by
        rw [List.map_cons, dE_star]
        rfl
      replace post : Post p W (fun G H ds vs => DVb p m G H ds vs) σ G H ((M.st : M (List D)) dc) Q := by rw [← e]; exact post
      exact (show False from post).elim
    refine PA.imp (pa_cons (h.E x b m e (hb e)) (pa_list h x b m hm hb es) (star_of fun a q z => hs ⟨a, q, z⟩)) fun σ H Q ⟨ρ, G, dc, gs, rs, post⟩ => ?_
    refine ⟨ρ, G, dc, gs, rs, Post.seq (show Post p W _ σ G H ((dE n b C e ρ >>= fun y => seqM (es.map fun e => dE n b C e ρ) >>= fun ys => pure (y :: ys)) dc) Q from post) fun d1 dc1 v1 G1 H1 _ gs1 g1 r1 post => ?_⟩
    refine ⟨ρ, G1, dc1, gs1, rs.grow gs g1, Post.seq post fun d2 dc2 v2 G2 H2 _ gs2 g2 r2 post => ?_⟩
    refine post (v1 :: v2) G2 H2 gs2 (.refl _ _ _) (.cons ?_ r2)
    rcases hm with rfl | rfl
    · exact RV.dvgrow g2 r1
    · exact RV.grow gs1 g2 r1
theorem e_tup (h : IH n) (x : XOk p C k W X) {es : List Expr} {j : Nat} {pos : Pos} : PE X (.Tuple es j pos) (tE p W m fun ρ => dE (n + 1) b C (.Tuple es j pos) ρ) := by
  refine PE.imp (pe_tup (pa_list h x false .va (.inl rfl) (fun _ => rfl) es)) fun σ H Q ⟨ρ, G, dc, gs, rs, post⟩ => ?_
  refine ⟨ρ, G, dc, gs, rs, Post.seq post fun ds dc1 vs G1 H1 _ gs1 g1 r1 post => ?_⟩
  obtain ⟨d, e, fin⟩ := Post.lift post
  unfold mkT at e
  split at e
  · rename_i hl
    cases e
    have dv := r1.va
    exact ⟨by rw [dv.length, ← szL_eq]; exact hl, fun q hq => new_tup gs1 hq dv fin⟩
  · cases e
theorem e_lst (h : IH n) (x : XOk p C k W X) {es : List Expr} {pos : Pos} : PE X (.List es pos) (tE p W m fun ρ => dE (n + 1) b C (.List es pos) ρ) := by
  refine PE.imp (pe_lst (pa_list h x false .va (.inl rfl) (fun _ => rfl) es)) fun σ H Q ⟨ρ, G, dc, gs, rs, post⟩ => ?_
  refine ⟨ρ, G, dc, gs, rs, Post.seq post fun ds dc1 vs G1 H1 _ gs1 g1 r1 post => ?_⟩
  obtain ⟨d, e, fin⟩ := Post.lift post
  unfold mkL at e
  split at e
  · rename_i hl
    cases e
    have dv := r1.va
    exact ⟨by rw [dv.length, ← szL_eq]; exact hl, fun q hq => new_lst gs1 ((rs.grow gs g1).hz) hq dv fin⟩
  · cases e
/-! ### fields -/
theorem base_of {o : Expr} {a : Str} {env : Env} (h : ∀ id q q', o ≠ .Call (.Name id q) [] [] q') : attributeBase o a env (eval o env) = eval o env := by
  unfold attributeBase
  split
  · exact absurd rfl (h _ _ _)
  · rfl
theorem fldD_some {fl : List (Str × Str)} {f : Str} {d0 d : D} (h : fldD fl f d0 = some d) : ∃ c fs, d0 = .obj c fs ∧ (c, f) ∈ fl ∧ fs.lookup f = some d := by
  cases d0 with
  | obj c fs =>
    unfold fldD at h
    by_cases hm : (c, f) ∈ fl
    · simp only [hm, if_true] at h
      exact ⟨c, fs, rfl, hm, h⟩
    · simp only [hm, if_false] at h
      cases h
  | _ => cases h
theorem notSup_ne {o : Expr} (h : notSup o = true) : ∀ id q q', o ≠ .Call (.Name id q) [] [] q' := fun id q q' z => by
  rw [z] at h
  cases h
theorem e_fld (h : IH n) (x : XOk p C k W X) {o : Expr} {f : Str} {pos : Pos} (hns : notSup o = true) (hm : mdOk m b (.Attribute o f pos) = true) : PE X (.Attribute o f pos) (tE p W m fun ρ => dE (n + 1) b C (.Attribute o f pos) ρ) := by
  refine PE.imp (pe_fld (h.E x true .bo o rfl) (base_of (notSup_ne hns))) fun σ H Q ⟨ρ, G, dc, gs, rs, post⟩ => ?_
  replace post : Post p W (RV p m) σ G H ((dE n true C o ρ >>= fun d => lift (fldD C.Γ.fl f d)) dc) Q := by
    have e : dE (n + 1) b C (.Attribute o f pos) ρ = (dE n true C o ρ >>= fun d => lift (fldD C.Γ.fl f d)) := by
      show (if notSup o = true then (dE n true C o ρ >>= fun d => lift (fldD C.Γ.fl f d)) else M.st) = _
      rw [if_pos hns]
    rw [← e]; exact post
  refine ⟨ρ, G, dc, gs, rs, Post.seq post fun d1 dc1 v1 G1 H1 _ gs1 g1 r1 post => ?_⟩
  obtain ⟨d, e, fin⟩ := Post.lift post
  obtain ⟨c, fs, rfl, hin, hl⟩ := fldD_some e
  obtain ⟨a, dx, ws, rfl, ha, hf⟩ := r1.obj gs1
  obtain ⟨v, hv, dv⟩ := hf.lookup hl
  have q := x.gm.cls c f hin
  refine ⟨a, _, dx, ws, v, rfl, ha, by rw [x.K]; exact q.1, by rw [x.K]; exact q.2, hv, fin v G1 H1 gs1 (.refl _ _ _) ?_⟩
  cases m with
  | va => exact dv
  | bo => exact .inl dv
  | fr => cases b <;> cases hm
end
end Px
set_option maxRecDepth 100000
set_option maxHeartbeats 4000000
/-! PS5: subscripts, slices, tests. -/
namespace Px
open PySem PySem.Spec PyProof.Rows L2
theorem atD_atI {α : Type} (xs : List α) (i : Int) : atD xs i = atI xs i := rfl
section
variable {p : Pk} {C : Cn} {k : Nat} {W : WX} {X : Cx} {n : Nat} {b : Bool} {m : Md} {G H : Hp}
theorem DVs.at {ds : List D} {vs : List V} {i : Int} {d : D} (h : DVs p.K p.da G ds vs) (e : atD ds i = some d) : ∃ v, atI vs i = some v ∧ DV p.K p.da G d v := by
  unfold atD at e
  obtain ⟨j, h1, h2⟩ := Option.bind_eq_some_iff.mp e
  obtain ⟨v, h3, h4⟩ := h.get h2
  refine ⟨v, ?_, h4⟩
  unfold atI
  rw [show L2.ixN vs.length i = some j by rw [h.length]; exact h1]
  exact h3
def rIxD' (p : Pk) : R2 := fun x y H Q => ∃ dc G d1 d2 d, GS p dc G H ∧ RV p .bo G H d1 x ∧ RV p .bo G H d2 y ∧ ixDc dc d1 d2 = some d ∧ ∀ v, DV p.K p.da G d v → Q v H
theorem ix_D (hK : X.K = p.K) (hu : X.A.units + 65 < cLine) : IxR X (rIxD' p) := by
  intro value slice pins s σ H x y v u Q I rx ry h hs
  obtain ⟨dc, G, d1, d2, d, gs, v1, v2, e, fin⟩ := h
  unfold ixDc at e
  split at e
  · rename_i i
    rcases v1 with ⟨a, e1, rfl⟩ | ⟨_, _, w⟩
    · cases v2.int
      have ha := (gs.dice a e1).1
      obtain ⟨z, h1, h2⟩ := DVs.at (p := p) (G := G) (ds := [.int dc.1, .int dc.2.1, .int dc.2.2]) (vs := [.int dc.1, .int dc.2.1, .int dc.2.2]) ⟨_, _, rfl, rfl, _, _, rfl, rfl, _, _, rfl, rfl, rfl⟩ e
      exact ix_seq value slice pins s σ H _ _ v u Q I rx ry (.inl ⟨a, _, i, z, rfl, rfl, .inl (.inl ha), h1, fin z h2⟩) hs
    · exact w.ow.elim
  rename_i hno
  clear hno
  unfold ixD at e
  split at e
  · rename_i xs i
    obtain ⟨a, vs, rfl, ha, dv⟩ := v1.lst gs
    cases v2.int
    obtain ⟨z, h1, h2⟩ := dv.at e
    exact ix_seq value slice pins s σ H _ _ v u Q I rx ry (.inl ⟨a, vs, i, z, rfl, rfl, .inl (.inl ha), h1, fin z h2⟩) hs
  · rename_i xs i
    obtain ⟨a, vs, rfl, ha, dv⟩ := v1.tup gs
    cases v2.int
    obtain ⟨z, h1, h2⟩ := dv.at e
    exact ix_seq value slice pins s σ H _ _ v u Q I rx ry (.inr (.inl ⟨a, vs, i, z, rfl, rfl, .inl (.inl ha), h1, fin z h2⟩)) hs
  · rename_i xs i
    obtain ⟨a, vs, rfl, ha, dv⟩ := v1.ktup
    cases v2.int
    obtain ⟨z, h1, h2⟩ := dv.at e
    exact ix_seq value slice pins s σ H _ _ v u Q I rx ry (.inr (.inl ⟨a, vs, i, z, rfl, rfl, hK ▸ ha H, h1, fin z h2⟩)) hs
  · rename_i z i
    split at e
    · rename_i hl
      cases v1.str; cases v2.int
      obtain ⟨c, h1, rfl⟩ := Option.map_eq_some_iff.mp e
      exact ix_seq value slice pins s σ H _ _ v u Q I rx ry (.inr (.inr ⟨z, i, c, rfl, rfl, by rw [← szL_eq]; exact hl, h1, fin _ rfl⟩)) hs
    · cases e
  · rename_i kvs
    obtain ⟨a, rfl, o⟩ := v1.dic gs I
    cases (show v = Value.ref a from rx)
    unfold lookD at e
    split at e
    · rename_i hk
      have e : getK d2 kvs = some d := e
      have g := DO.mk' gs hk v2 o
      have ty : s.TypeIs (.ref a) "dict" := by
        cases g with
        | k ws k' o _ _ _ =>
          obtain ⟨_, _, _, _, dd⟩ := o
          exact dd.typeIs
        | t ws k' b o _ _ _ =>
          obtain ⟨_, _, _, _, dd⟩ := okT I.hok o
          exact dd.typeIs
      exact tail_any ty PySem.slot_dict_getitem.lookup (do_getItem (by omega) I g e ry fun v w' s' dv I' rw' => ⟨v, H, I', rw', fin v dv⟩) hs
    · cases e
  · cases e
theorem plainIx_of {i : Expr} (h : ∀ lo hi st q, i ≠ .Slice lo hi st q) : PlainIx i := by
  intro o v
  cases i with
  | Slice lo hi st q => exact absurd rfl (h lo hi st q)
  | _ => rfl
theorem e_ix (h : IH n) (x : XOk p C k W X) {o i : Expr} {pos : Pos} (hs : ∀ lo hi st q, i ≠ .Slice lo hi st q) (hm : mdOk m b (.Subscript o i pos) = true) (he : dE (n + 1) b C (.Subscript o i pos) = fun ρ => (do
      let d ← dE n true C o ρ
      let x ← dE n true C i ρ
      ixM d x)) : PE X (.Subscript o i pos) (tE p W m fun ρ => dE (n + 1) b C (.Subscript o i pos) ρ) := by
  have hmm : m = .va ∨ m = .bo := by
    cases m with
    | va => exact .inl rfl
    | bo => exact .inr rfl
    | fr =>
      exfalso
      cases b with
      | true => cases hm
      | false =>
        have hm : fresh (.Subscript o i pos) = true := hm
        cases i <;> first | (cases hm; done) | exact absurd rfl (hs _ _ _ _)
  refine PE.imp (pe_ix (ix_D (p := p) x.K x.u65) (h.E x true .bo o rfl) (h.E x true .bo i rfl) (plainIx_of hs)) fun σ H Q ⟨ρ, G, dc, gs, rs, post⟩ => ?_
  replace post : Post p W (RV p m) σ G H ((dE n true C o ρ >>= fun d => dE n true C i ρ >>= fun x => ixM d x) dc) Q := by
    have := congrFun he ρ
    show Post p W (RV p m) σ G H _ Q
    rw [show (dE n true C o ρ >>= fun d => dE n true C i ρ >>= fun x => ixM d x) = dE (n + 1) b C (.Subscript o i pos) ρ from this.symm]
    exact post
  refine ⟨ρ, G, dc, gs, rs, Post.seq post fun d1 dc1 v1 G1 H1 _ gs1 g1 r1 post => ?_⟩
  refine ⟨ρ, G1, dc1, gs1, rs.grow gs g1, Post.seq post fun d2 dc2 v2 G2 H2 _ gs2 g2 r2 post => ?_⟩
  obtain ⟨d, e, fin⟩ := Post.lift post
  refine ⟨dc2, G2, d1, d2, d, gs2, r1.grow gs1 g2, r2, e, fun v dv => fin v G2 H2 gs2 (.refl _ _ _) ?_⟩
  rcases hmm with rfl | rfl
  · exact dv
  · exact .inl dv
theorem o_none (h : IH n) (x : XOk p C k W X) : PO X none (tM p W (fun _ _ d v => v = d) fun ρ => dO (n + 1) C none ρ) :=
  ⟨fun pins s σ H Q I ⟨ρ, G, dc, gs, rs, post⟩ => po_none.run pins s σ H Q I (post none G H gs (.refl _ _ _) rfl)⟩
theorem o_some (h : IH n) (x : XOk p C k W X) (e : Expr) : PO X (some e) (tM p W (fun _ _ d v => v = d) fun ρ => dO (n + 1) C (some e) ρ) :=
  ⟨fun pins s σ H Q I ⟨ρ, G, dc, gs, rs, post⟩ => (po_some (h.E x true .bo e rfl)).run pins s σ H Q I ⟨ρ, G, dc, gs, rs, Post.seq post fun d1 dc1 v1 G1 H1 _ gs1 g1 r1 post => by
    obtain ⟨o, e, fin⟩ := Post.lift post
    cases d1 with
    | int i =>
      cases e
      cases r1.int
      exact ⟨i, rfl, fin _ G1 H1 gs1 (.refl _ _ _) rfl⟩
    | _ => cases e⟩⟩
theorem o_all (h : IH n) (x : XOk p C k W X) (e : Option Expr) : PO X e (tM p W (fun _ _ d v => v = d) fun ρ => dO (n + 1) C e ρ) := by
  cases e with
  | none => exact o_none h x
  | some e => exact o_some h x e
/-! ### slices -/
def rSlD (p : Pk) (m : Md) : V → Option Int → Option Int → Hp → VK → Prop := fun x lo hi H Q => ∃ dc G d1 d, GS p dc G H ∧ Hz p H ∧ RV p .bo G H d1 x ∧ slD d1 lo hi = some d ∧ ∀ v G' H', GS p dc G' H' → Grow p.da G H G' H' → RV p m G' H' d v → Q v H'
theorem cut_DVs {ds : List D} {vs : List V} (h : DVs p.K p.da G ds vs) (lo hi : Option Int) : DVs p.K p.da G (cutD ds lo hi) (cutV vs lo hi) := by
  unfold cutD cutV
  rw [h.length]
  exact (h.drop _).take _
theorem sl_D (hK : X.K = p.K) : SlR X (rSlD p m) := by
  intro pins s σ H x v vl vu lo hi sl Q I rx hs pl pu h
  obtain ⟨dc, G, d1, d, gs, hz, v1, e, fin⟩ := h
  unfold slD at e
  split at e
  · rename_i xs
    cases e
    obtain ⟨a, vs, rfl, ha, dv⟩ := v1.lst gs
    exact sl_list pins s σ H _ v vl vu lo hi sl Q I rx hs pl pu ⟨a, vs, rfl, .inl (.inl ha), fun q hq => new_lst gs hz hq (cut_DVs dv lo hi) fin⟩
  · rename_i xs
    cases e
    obtain ⟨a, vs, rfl, ha, dv⟩ := v1.klst
    exact sl_list pins s σ H _ v vl vu lo hi sl Q I rx hs pl pu ⟨a, vs, rfl, hK ▸ gs.sub.sqL ha, fun q hq => new_lst gs hz hq (cut_DVs dv lo hi) fin⟩
  · rename_i xs
    cases e
    have w1 := v1.tupD
    obtain ⟨a, vs, rfl, ha, dv⟩ := v1.tup gs
    refine sl_tupA pins s σ H _ v vl vu lo hi sl Q I rx hs pl pu ⟨a, vs, rfl, .inl (.inl ha), fun hw => ?_, fun _ q hq => new_tup gs hq (cut_DVs dv lo hi) fin⟩
    have e : cutD xs lo hi = xs := by
      unfold cutD
      rw [← dv.length, show sIx vs.length 0 lo = 0 from hw.1, show sIx vs.length vs.length hi = vs.length from hw.2, dv.length]
      simp
    rw [e] at fin
    exact fin _ G H gs (.refl _ _ _) (RV.of w1 rfl)
  · rename_i z
    split at e
    · rename_i hl
      cases e
      cases v1.str
      exact sl_str pins s σ H _ v vl vu lo hi sl Q I rx hs pl pu ⟨z, rfl, by rw [← szL_eq]; exact hl, fin _ G H gs (.refl _ _ _) (RV.of (show V.str (cutS z lo hi) = _ from rfl) rfl)⟩
    · cases e
  · cases e
theorem e_sl (h : IH n) (x : XOk p C k W X) {o : Expr} {lo hi : Option Expr} {q pos : Pos} : PE X (.Subscript o (.Slice lo hi none q) pos) (tE p W m fun ρ => dE (n + 1) b C (.Subscript o (.Slice lo hi none q) pos) ρ) := by
  refine PE.imp (pe_slice (sl_D (p := p) (m := m) x.K) (h.E x true .bo o rfl) (h.O x lo) (h.O x hi)) fun σ H Q ⟨ρ, G, dc, gs, rs, post⟩ => ?_
  refine ⟨ρ, G, dc, gs, rs, Post.seq post fun d1 dc1 v1 G1 H1 _ gs1 g1 r1 post => ?_⟩
  refine ⟨ρ, G1, dc1, gs1, rs.grow gs g1, Post.seq post fun l dc2 l' G2 H2 _ gs2 g2 r2 post => ?_⟩
  cases (show l' = l from r2)
  refine ⟨ρ, G2, dc2, gs2, (rs.grow gs g1).grow gs1 g2, Post.seq post fun u dc3 u' G3 H3 _ gs3 g3 r3 post => ?_⟩
  cases (show u' = u from r3)
  obtain ⟨d, e, fin⟩ := Post.lift post
  exact ⟨dc3, G3, d1, d, gs3, (((rs.grow gs g1).grow gs1 g2).grow gs2 g3).hz, (r1.grow gs1 g2).grow gs2 g3, e, fin⟩
theorem vals_pick {vs : List V} {its : List Value} (r : Vals vs its) : ∀ l : List Nat, Vals (l.filterMap fun j => vs[j]?) (l.filterMap fun j => its[j]?)
  | [] => .nil
  | j :: l => by
    rw [List.filterMap_cons, List.filterMap_cons]
    cases e : vs[j]? with
    | none =>
      rw [r.none_of e]
      exact vals_pick r l
    | some v =>
      obtain ⟨u, h1, h2⟩ := r.get e
      rw [h1]
      exact .cons h2 (vals_pick r l)
theorem dvs_pick {ds : List D} {vs : List V} (r : DVs p.K p.da G ds vs) : ∀ l : List Nat, DVs p.K p.da G (l.filterMap fun j => ds[j]?) (l.filterMap fun j => vs[j]?)
  | [] => rfl
  | j :: l => by
    rw [List.filterMap_cons, List.filterMap_cons]
    cases e : ds[j]? with
    | none =>
      rw [show vs[j]? = none from List.getElem?_eq_none (by rw [r.length]; exact List.getElem?_eq_none_iff.mp e)]
      exact dvs_pick r l
    | some v =>
      obtain ⟨u, h1, h2⟩ := r.get e
      rw [h1]
      exact ⟨u, _, rfl, h2, dvs_pick r l⟩
theorem e_step (h : IH n) (x : XOk p C k W X) {o se : Expr} {lo : Option Expr} {q pos : Pos} : PE X (.Subscript o (.Slice lo none (some se) q) pos) (tE p W m fun ρ => dE (n + 1) b C (.Subscript o (.Slice lo none (some se) q) pos) ρ) := by
  refine ⟨fun pins s σ H Q I ⟨ρ, G, dc, gs, rs, post⟩ => ?_⟩
  refine Subscript_ (thn ((h.E x true .bo o rfl).run pins s σ H _ I ⟨ρ, G, dc, gs, rs, Post.seq (Q' := fun v H1 => ∃ d1 dc1 G1, GS p dc1 G1 H1 ∧ Grow p.da G H G1 H1 ∧ RV p .bo G1 H1 d1 v ∧ Post p W (RV p m) σ G1 H1 ((dO n C lo ρ >>= fun l => dO n C (some se) ρ >>= fun st => lift (st.bind fun c => stD d1 l c)) dc1) Q) post fun d1 dc1 v1 G1 H1 _ gs1 g1 r1 post => ⟨d1, dc1, G1, gs1, g1, r1, post⟩⟩) fun v s1 ⟨xv, H1, I1, r1, d1, dc1, G1, gs1, g1, rv1, post⟩ => ?_)
  have rs1 := rs.grow gs g1
  refine wpAny_Slice (thn ((h.O x lo).run pins s1 σ H1 _ I1 ⟨ρ, G1, dc1, gs1, rs1, Post.seq (Q' := fun l' H2 => ∃ dc2 G2, GS p dc2 G2 H2 ∧ Grow p.da G1 H1 G2 H2 ∧ Post p W (RV p m) σ G2 H2 ((dO n C (some se) ρ >>= fun st => lift (st.bind fun c => stD d1 l' c)) dc2) Q) post fun l dc2 l' G2 H2 _ gs2 g2 r2 post => by
    cases (show l' = l from r2)
    exact ⟨dc2, G2, gs2, g2, post⟩⟩) fun vl s2 ⟨l, H2, I2, pl, dc2, G2, gs2, g2, post⟩ => ?_)
  have rs2 := rs1.grow gs1 g2
  refine thn (po_none.run pins s2 σ H2 (fun o H3 => o = none ∧ H3 = H2) I2 ⟨rfl, rfl⟩) fun vu s3 ⟨u, H3, I3, pu, eu, e3⟩ => ?_
  subst eu e3
  refine thn ((h.O x (some se)).run pins s3 σ H3 _ I3 ⟨ρ, G2, dc2, gs2, rs2, Post.seq (Q' := fun st H4 => ∃ dc4 G4, GS p dc4 G4 H4 ∧ Grow p.da G2 H3 G4 H4 ∧ Post p W (RV p m) σ G4 H4 (lift (st.bind fun c => stD d1 l c) dc4) Q) post fun st dc4 st' G4 H4 _ gs4 g4 r4 post => by
    cases (show st' = st from r4)
    exact ⟨dc4, G4, gs4, g4, post⟩⟩) fun vs s4 ⟨st, H4, I4, ps, dc4, G4, gs4, g4, post⟩ => ?_
  have rs4 := rs2.grow gs2 g4
  obtain ⟨d, e, fin⟩ := Post.lift post
  obtain ⟨c, ec, e⟩ := Option.bind_eq_some_iff.mp e
  subst ec
  cases d1 with
  | lst xs =>
    have e : (if c ≠ 0 ∧ (stepD xs l c).length ≤ szL then some (D.lst (stepD xs l c)) else none) = some d := e
    split at e
    · rename_i hc
      cases e
      obtain ⟨a, ws, rfl, ha, dv⟩ := ((rv1.grow gs1 g2).grow gs2 g4).lst gs4
      cases r1
      have I5 : Inv X pins σ H4 { s4 with heap := s4.heap.push { cls := .type "slice", data := .fields #[vl, vu, vs] } } := I4.kept (t' := s4.toks) fun b ob q => Heap.get?_push_of_some _ q
      obtain ⟨its, r, ht, hz⟩ := I5.list (.inl (.inl ha))
      have hlen := r.length
      show wpAny (model X.prog X.w) X.A (subscriptTail o (.Slice lo none (some se) q) (.ref a) (.ref s4.heap.objs.size)) (EP X pins σ Q) X.xe { s4 with heap := s4.heap.push { cls := .type "slice", data := .fields #[vl, vu, vs] } }
      refine tail_any (ops := [.ref a, .ref s4.heap.objs.size]) ht.isList.typeIs (PySem.slot_list_getitem.lookup) ?_ (by with_unfolding_all rfl)
      refine wpAny_getItem_list_slice ht.isList (Heap.IsSliceOf.new _ vl vu vs) pl pu ps (by intro z; exact hc.1 (Option.some.inj z)) ?_ (by rw [List.size_toArray]; omega)
      have eq : slicePick its.toArray l none (some c) = ((sliceRange (sliceBounds l none (some c) ws.length).1 (sliceBounds l none (some c) ws.length).2.1 (sliceBounds l none (some c) ws.length).2.2).filterMap fun j => its[j]?).toArray := by
        unfold slicePick
        rw [List.size_toArray, ← hlen]
        simp
      rw [eq]
      have dv2 := dvs_pick dv (sliceRange (sliceBounds l none (some c) ws.length).1 (sliceBounds l none (some c) ws.length).2.1 (sliceBounds l none (some c) ws.length).2.2)
      have r2 := vals_pick r (sliceRange (sliceBounds l none (some c) ws.length).1 (sliceBounds l none (some c) ws.length).2.1 (sliceBounds l none (some c) ws.length).2.2)
      have es : stepD xs l c = (sliceRange (sliceBounds l none (some c) ws.length).1 (sliceBounds l none (some c) ws.length).2.1 (sliceBounds l none (some c) ws.length).2.2).filterMap fun j => xs[j]? := by
        unfold stepD
        rw [dv.length]
      rw [es] at fin hc
      have hq := I5.hok.fresh (Nat.le_refl _)
      refine ⟨.ref _, _, I5.laid (t' := s4.toks) (o := .lst _) (fun b ob q => Heap.get?_push_of_some _ q) (Nat.le_refl _) ?_, rfl, new_lst gs4 rs4.hz hq dv2 fin⟩
      exact ⟨by rw [dv2.length, ← szL_eq]; exact hc.2, _, 0, r2, Heap.get?_push_size _ rfl⟩
    · cases e
  | _ => cases e
/-! ### tests -/
theorem truD_ok (hK : X.K = p.K) {dc : Dc} (gs : GS p dc G H) {d : D} {v : V} {c : Bool} (h : RV p .bo G H d v) (e : truD d = some c) : TruV X.K v H c := by
  have le : ∀ {α β : Type} {xs : List α} {ys : List β}, ys.length = xs.length → (xs.length != 0) = !ys.isEmpty := fun {α β xs ys} hl => by
    cases xs <;> cases ys <;> first | rfl | cases hl
  cases d with
  | non =>
    cases e
    cases h.non
    rfl
  | bl b =>
    cases e
    cases h.bl
    rfl
  | int i =>
    cases e
    cases h.int
    rfl
  | str x =>
    cases h.str
    have e : (if x.length ≤ szL then some (x.length != 0) else none) = some c := e
    split at e
    · rename_i hl
      cases e
      refine ⟨by rw [← szL_eq]; exact hl, ?_⟩
      show (x.length != 0) = ((x.length : Int) != 0)
      rw [Bool.eq_iff_iff]
      simp
    · cases e
  | lst xs =>
    cases e
    obtain ⟨a, vs, rfl, ha, dv⟩ := h.lst gs
    exact .inl ⟨vs, .inl (.inl ha), le dv.length⟩
  | tup xs =>
    cases e
    obtain ⟨a, vs, rfl, ha, dv⟩ := h.tup gs
    exact .inr (.inl ⟨vs, .inl (.inl ha), le dv.length⟩)
  | _ => cases e
theorem t_val (h : IH n) (x : XOk p C k W X) {e : Expr} (he : ∀ whole, isTrue e X.env whole = (do let v ← whole; standAt e.pos; holding [v] (truthy v))) {f : En → M Bool}
    (hf : f = fun ρ => (do
      let d ← dE n true C e ρ
      lift (truD d))) : PT X e (tB p W f) := by
  refine PT.imp (pt_truth (h.E x true .bo e rfl) he) fun σ H Q ⟨ρ, G, dc, gs, rs, post⟩ => ?_
  subst hf
  refine ⟨ρ, G, dc, gs, rs, Post.seq (show Post p W (fun _ _ b c => c = b) σ G H ((dE n true C e ρ >>= fun d => lift (truD d)) dc) Q from post) fun d1 dc1 v1 G1 H1 _ gs1 g1 r1 post => ?_⟩
  obtain ⟨c, e, fin⟩ := Post.lift post
  exact ⟨c, truD_ok x.K gs1 r1 e, fin c G1 H1 gs1 (.refl _ _ _) rfl⟩
theorem t_bool (h : IH n) (x : XOk p C k W X) {op : BoolOp} {pos : Pos} : ∀ (vs : List Expr), PW X (.BoolOp op vs pos) (tB p W fun ρ => allT op (vs.map fun e => dT n C e ρ))
  | [] => by
    refine ⟨fun wh pins s σ H Q I ⟨ρ, G, dc, gs, rs, post⟩ => ?_⟩
    cases op with
    | And => exact (show wpAny _ _ (pure true) _ _ _ from wpAny_pure ⟨H, I, post true G H gs (.refl _ _ _) rfl⟩)
    | Or => exact (show wpAny _ _ (pure false) _ _ _ from wpAny_pure ⟨H, I, post false G H gs (.refl _ _ _) rfl⟩)
  | e :: es => by
    have ih := t_bool h x (op := op) (pos := pos) es
    cases op with
    | And =>
      refine ⟨fun wh pins s σ H Q I ⟨ρ, G, dc, gs, rs, post⟩ => ?_⟩
      refine isTrue_and (thn ((h.T x e).run pins s σ H (fun c H1 => if c = true then tB p W (fun ρ => allT .And (es.map fun e => dT n C e ρ)) σ H1 Q else Q false H1) I ⟨ρ, G, dc, gs, rs, Post.seq post fun c dc1 c' G1 H1 _ gs1 g1 r1 post => ?_⟩) fun c s1 ⟨H1, I1, q1⟩ => ?_)
      · cases (show c' = c from r1)
        cases c with
        | true => exact ⟨ρ, G1, dc1, gs1, rs.grow gs g1, post⟩
        | false => exact post _ G1 H1 gs1 (.refl _ _ _) rfl
      · cases c with
        | true => exact ih.run (eval (.BoolOp .And es pos) X.env) pins s1 σ H1 Q I1 q1
        | false => exact ⟨H1, I1, q1⟩
    | Or =>
      refine ⟨fun wh pins s σ H Q I ⟨ρ, G, dc, gs, rs, post⟩ => ?_⟩
      refine isTrue_or (thn ((h.T x e).run pins s σ H (fun c H1 => if c = true then Q true H1 else tB p W (fun ρ => allT .Or (es.map fun e => dT n C e ρ)) σ H1 Q) I ⟨ρ, G, dc, gs, rs, Post.seq post fun c dc1 c' G1 H1 _ gs1 g1 r1 post => ?_⟩) fun c s1 ⟨H1, I1, q1⟩ => ?_)
      · cases (show c' = c from r1)
        cases c with
        | false => exact ⟨ρ, G1, dc1, gs1, rs.grow gs g1, post⟩
        | true => exact post _ G1 H1 gs1 (.refl _ _ _) rfl
      · cases c with
        | false => exact ih.run (eval (.BoolOp .Or es pos) X.env) pins s1 σ H1 Q I1 q1
        | true => exact ⟨H1, I1, q1⟩
theorem t_not (h : IH n) (x : XOk p C k W X) {e : Expr} {pos : Pos} : PT X (.UnaryOp .Not e pos) (tB p W fun ρ => dT (n + 1) C (.UnaryOp .Not e pos) ρ) := by
  refine PT.imp (pt_not (h.T x e)) fun σ H Q ⟨ρ, G, dc, gs, rs, post⟩ => ?_
  refine ⟨ρ, G, dc, gs, rs, Post.seq (show Post p W (fun _ _ b c => c = b) σ G H ((dT n C e ρ >>= fun c => pure (!c)) dc) Q from post) fun c dc1 c' G1 H1 _ gs1 g1 r1 post => ?_⟩
  cases (show c' = c from r1)
  exact post _ G1 H1 gs1 (.refl _ _ _) rfl
theorem pt_no {e : Expr} {t : TT} (h : ∀ σ H Q, ¬ t σ H Q) : PT X e t := ⟨fun pins s σ H Q I q => (h σ H Q q).elim⟩
theorem t_cmp1 (h : IH n) (x : XOk p C k W X) {l r : Expr} {op : CmpOp} {pos : Pos} : PT X (.Compare l [op] [r] pos) (tB p W fun ρ => dT (n + 1) C (.Compare l [op] [r] pos) ρ) := by
  cases hr : isSetE r with
  | true =>
    refine pt_no (tM_no fun ρ => ?_)
    show (if isSetE r = true then M.st else _) = M.st
    rw [if_pos hr]
  | false =>
    refine PT.imp (pt_cmpR (op_cmpG x op) (h.E x true .bo l rfl) (h.E x true .bo r rfl) (nomark (isSetE_ne hr))) fun σ H Q ⟨ρ, G, dc, gs, rs, post⟩ => ?_
    replace post : Post p W (fun _ _ b c => c = b) σ G H ((dE n true C l ρ >>= fun x => dE n true C r ρ >>= fun y => lift (cmpG C.Γ op x y)) dc) Q := by
      have e : dT (n + 1) C (.Compare l [op] [r] pos) ρ = (dE n true C l ρ >>= fun x => dE n true C r ρ >>= fun y => lift (cmpG C.Γ op x y)) := by
        show (if isSetE r = true then M.st else _) = _
        rw [if_neg (by rw [hr]; simp)]
      rw [← e]; exact post
    refine ⟨ρ, G, dc, gs, rs, Post.seq post fun d1 dc1 v1 G1 H1 _ gs1 g1 r1 post => ?_⟩
    refine ⟨ρ, G1, dc1, gs1, rs.grow gs g1, Post.seq post fun d2 dc2 v2 G2 H2 _ gs2 g2 r2 post => ?_⟩
    obtain ⟨c, e, fin⟩ := Post.lift post
    exact ⟨dc2, G2, d1, d2, c, gs2, r1.grow gs1 g2, r2, e, c, rfl, fin c G2 H2 gs2 (.refl _ _ _) rfl⟩
theorem t_cmp2 (h : IH n) (x : XOk p C k W X) {l r r' : Expr} {op op' : CmpOp} {pos : Pos} : PT X (.Compare l [op, op'] [r, r'] pos) (tB p W fun ρ => dT (n + 1) C (.Compare l [op, op'] [r, r'] pos) ρ) := by
  cases hr : isSetE r' with
  | true =>
    refine pt_no (tM_no fun ρ => ?_)
    show (if isSetE r' = true then M.st else _) = M.st
    rw [if_pos hr]
  | false =>
    refine PT.imp (pt_chain (op_cmpG x op) (op_cmpG x op') (h.E x true .bo l rfl) (h.E x true .bo r rfl) (h.E x true .bo r' rfl) (nomark (isSetE_ne hr))) fun σ H Q ⟨ρ, G, dc, gs, rs, post⟩ => ?_
    replace post : Post p W (fun _ _ b c => c = b) σ G H ((dE n true C l ρ >>= fun x => dE n true C r ρ >>= fun y => lift (cmpG C.Γ op x y) >>= fun c => if c then (dE n true C r' ρ >>= fun z => lift (cmpG C.Γ op' y z)) else pure false) dc) Q := by
      have e : dT (n + 1) C (.Compare l [op, op'] [r, r'] pos) ρ = (dE n true C l ρ >>= fun x => dE n true C r ρ >>= fun y => lift (cmpG C.Γ op x y) >>= fun c => if c then (dE n true C r' ρ >>= fun z => lift (cmpG C.Γ op' y z)) else pure false) := by
        show (if isSetE r' = true then M.st else _) = _
        rw [if_neg (by rw [hr]; simp)]
      rw [← e]; exact post
    refine ⟨ρ, G, dc, gs, rs, Post.seq post fun d1 dc1 v1 G1 H1 _ gs1 g1 r1 post => ?_⟩
    refine ⟨ρ, G1, dc1, gs1, rs.grow gs g1, Post.seq post fun d2 dc2 v2 G2 H2 _ gs2 g2 r2 post => ?_⟩
    obtain ⟨c, e, post⟩ := Post.liftB post
    refine ⟨dc2, G2, d1, d2, c, gs2, r1.grow gs1 g2, r2, e, c, rfl, ?_⟩
    cases c with
    | false => exact ⟨false, rfl, post _ G2 H2 gs2 (.refl _ _ _) rfl⟩
    | true =>
      refine ⟨ρ, G2, dc2, gs2, (rs.grow gs g1).grow gs1 g2, Post.seq post fun d3 dc3 v3 G3 H3 _ gs3 g3 r3 post => ?_⟩
      obtain ⟨c, e, fin⟩ := Post.lift post
      exact ⟨dc3, G3, d2, d3, c, gs3, r2.grow gs2 g3, r3, e, c, rfl, fin c G3 H3 gs3 (.refl _ _ _) rfl⟩
theorem ts_all (h : IH n) (x : XOk p C k W X) (es : List Expr) : PTs X es (tB p W fun ρ => dTs (n + 1) C es ρ) := by
  match es with
  | [] => exact ⟨fun pins s σ H Q I ⟨ρ, G, dc, gs, rs, post⟩ => pts_nil.run pins s σ H Q I (post _ G H gs (.refl _ _ _) rfl)⟩
  | [e] => exact pts_one (h.T x e)
  | e :: e' :: es => exact ⟨fun pins s σ H Q I ⟨ρ, G, dc, gs, rs, post⟩ => (show False from post).elim⟩
end
end Px
set_option maxRecDepth 100000
set_option maxHeartbeats 4000000
/-! PS6: built-ins called with values. -/
namespace Px
open PySem PySem.Spec PyProof.Rows L2

/-- a built-in by the evaluator's function -/
def rB (p : Pk) (m : Md) (g : List D → Option D) : List V → Hp → VK → Prop := fun vs H Q => ∃ dc G ds d, GS p dc G H ∧ Hz p H ∧ DVb p .bo G H ds vs ∧ g ds = some d ∧ ∀ v G' H', GS p dc G' H' → Grow p.da G H G' H' → RV p m G' H' d v → Q v H'
section
variable {p : Pk} {C : Cn} {k : Nat} {W : WX} {X : Cx} {n : Nat} {b : Bool} {m : Md} {G H : Hp} {dc : Dc}
theorem DVb.one {G H : Hp} {x : D} {vs : List V} (h : DVb p .bo G H [x] vs) : ∃ v, vs = [v] ∧ RV p .bo G H x v := by
  cases h with
  | cons h t =>
    cases t
    exact ⟨_, rfl, h⟩
theorem DVb.two {G H : Hp} {x y : D} {vs : List V} (h : DVb p .bo G H [x, y] vs) : ∃ v u, vs = [v, u] ∧ RV p .bo G H x v ∧ RV p .bo G H y u := by
  cases h with
  | cons h t =>
    obtain ⟨u, rfl, h2⟩ := DVb.one t
    exact ⟨_, u, rfl, h, h2⟩
theorem len_D (hK : X.K = p.K) : CallR X (.builtin "len") (rB p m lenB) := by
  intro pins s σ H vs us Q I r h
  obtain ⟨dc, G, ds, d, gs, hz, v1, e, fin⟩ := h
  have sc : ∀ {i : Int}, d = .int i → Q (.int i) H := fun {i} ed => by
    subst ed
    exact fin _ G H gs (.refl _ _ _) (RV.of rfl rfl)
  unfold lenB at e
  split at e
  · rename_i x
    obtain ⟨c, e0, rfl⟩ := Option.map_eq_some_iff.mp e
    clear e
    have e := e0
    obtain ⟨v, rfl, rv⟩ := v1.one
    cases x with
    | lst xs =>
      cases e
      obtain ⟨a, ws, rfl, ha, dv⟩ := rv.lst gs
      exact call_len pins s σ H _ us Q I r ⟨_, ws.length, rfl, .inl ⟨ws, .inl (.inl ha), rfl⟩, by rw [dv.length]; exact sc rfl⟩
    | tup xs =>
      cases e
      obtain ⟨a, ws, rfl, ha, dv⟩ := rv.tup gs
      exact call_len pins s σ H _ us Q I r ⟨_, ws.length, rfl, .inr ⟨ws, .inl (.inl ha), rfl⟩, by rw [dv.length]; exact sc rfl⟩
    | ktup xs =>
      cases e
      obtain ⟨a, ws, rfl, ha, dv⟩ := rv.ktup
      exact call_len pins s σ H _ us Q I r ⟨_, ws.length, rfl, .inr ⟨ws, hK ▸ ha H, rfl⟩, by rw [dv.length]; exact sc rfl⟩
    | str z =>
      have e : (if z.length ≤ szL then some z.length else none) = some c := e
      split at e
      · rename_i hl
        cases e
        cases rv.str
        exact call_len pins s σ H _ us Q I r ⟨_, z.length, rfl, ⟨by rw [← szL_eq]; exact hl, rfl⟩, sc rfl⟩
      · cases e
    | dic kvs =>
      cases e
      obtain ⟨a, rfl, o⟩ := rv.dic gs I
      obtain ⟨u, rfl, rx⟩ := vals1 r
      cases (show u = Value.ref a from rx)
      rcases o with ⟨ws, o1, o2⟩ | ⟨ws, o1, o2⟩
      · obtain ⟨z, hd, vs, rel, dd⟩ := o1
        have hl := rel.length
        have h3 := o2.g.length
        have := line63
        refine call_len_dict hd dd (by omega) ?_
        rw [← hl, h3]
        exact ⟨.int _, H, I.tok _, ⟨_, rfl⟩, sc rfl⟩
      · obtain ⟨z, hd, xs, rel, dd⟩ := okT I.hok o1
        have hl := rel.length
        have h3 := o2.g.length
        have := line63
        refine call_len_dictH hd dd (by omega) ?_
        rw [← hl, h3]
        exact ⟨.int _, H, I.tok _, ⟨_, rfl⟩, sc rfl⟩
    | _ => cases e
  · cases e
theorem abs_D : CallR X (.builtin "abs") (rB p m absB) := by
  intro pins s σ H vs us Q I r h
  obtain ⟨dc, G, ds, d, gs, hz, v1, e, fin⟩ := h
  unfold absB at e
  split at e
  · cases e
    obtain ⟨v, rfl, rv⟩ := v1.one
    cases rv.int
    exact call_abs pins s σ H _ us Q I r ⟨_, rfl, fin _ G H gs (.refl _ _ _) (RV.of rfl rfl)⟩
  · cases e
theorem int_D : CallR X (.type "int") (rB p m intB) := by
  intro pins s σ H vs us Q I r h
  obtain ⟨dc, G, ds, d, gs, hz, v1, e, fin⟩ := h
  unfold intB at e
  split at e
  · cases e
    obtain ⟨v, rfl, rv⟩ := v1.one
    cases rv.int
    exact call_int1 pins s σ H _ us Q I r (.inl ⟨_, rfl, fin _ G H gs (.refl _ _ _) (RV.of rfl rfl)⟩)
  · cases e
    obtain ⟨v, rfl, rv⟩ := v1.one
    cases rv.bl
    exact call_int1 pins s σ H _ us Q I r (.inr ⟨_, rfl, fin _ G H gs (.refl _ _ _) (RV.of rfl rfl)⟩)
  · cases e
theorem str_D : CallR X (.type "str") (rB p m strB) := by
  intro pins s σ H vs us Q I r h
  obtain ⟨dc, G, ds, d, gs, hz, v1, e, fin⟩ := h
  unfold strB at e
  split at e
  · split at e
    · rename_i hl
      cases e
      obtain ⟨v, rfl, rv⟩ := v1.one
      cases rv.int
      exact call_str_int pins s σ H _ us Q I r ⟨_, rfl, hl, fin _ G H gs (.refl _ _ _) (RV.of rfl rfl)⟩
    · cases e
  · cases e
/-- a list's, a tuple's items at run time -/
theorem RV.seq (hK : X.K = p.K) {pins : List (Addr × Obj)} {σ : St} {s : Shared} (gs : GS p dc G H) (I : Inv X pins σ H s) {x : D} {l : List D} {v : V} (e : seqD x = some l) (rv : RV p .bo G H x v) :
    ∃ a ws its, v = .ref a ∧ DVs p.K p.da G l ws ∧ Vals ws its ∧ (SqL X.K H a ws ∧ s.heap.IsList a its.toArray ∨ SqT X.K H a ws ∧ s.heap.IsTuple a its.toArray) ∧ ws.length ≤ sizeLine := by
  cases x with
  | lst xs =>
    cases e
    obtain ⟨a, ws, rfl, ha, dv⟩ := rv.lst gs
    have q : SqL X.K H a ws := .inl (.inl ha)
    obtain ⟨its, rr, pl, hz⟩ := I.list q
    exact ⟨a, ws, its, rfl, dv, rr, .inl ⟨q, pl.isList⟩, hz⟩
  | tup xs =>
    cases e
    obtain ⟨a, ws, rfl, ha, dv⟩ := rv.tup gs
    have q : SqT X.K H a ws := .inl (.inl ha)
    obtain ⟨its, rr, pl, hz⟩ := I.tuple q
    exact ⟨a, ws, its, rfl, dv, rr, .inr ⟨q, pl⟩, hz⟩
  | ktup xs =>
    cases e
    obtain ⟨a, ws, rfl, ha, dv⟩ := rv.ktup
    have q : SqT X.K H a ws := hK ▸ ha H
    obtain ⟨its, rr, pl, hz⟩ := I.tuple q
    exact ⟨a, ws, its, rfl, dv, rr, .inr ⟨q, pl⟩, hz⟩
  | _ => cases e
theorem list_D (hK : X.K = p.K) : CallR X (.type "list") (rB p m listB) := by
  intro pins s σ H vs us Q I r h
  obtain ⟨dc, G, ds, d, gs, hz, v1, e, fin⟩ := h
  unfold listB at e
  split at e
  · obtain ⟨l, e0, rfl⟩ := Option.map_eq_some_iff.mp e
    obtain ⟨v, rfl, rv⟩ := v1.one
    obtain ⟨a, ws, its, rfl, dv, _, q, _⟩ := RV.seq hK gs I e0 rv
    exact call_list_of pins s σ H _ us Q I r ⟨a, ws, rfl, q.imp (·.1) (·.1), fun q hq => new_lst gs hz hq dv fin⟩
  · cases e
theorem tuple_D (hK : X.K = p.K) : CallR X (.type "tuple") (rB p m tupleB) := by
  intro pins s σ H vs us Q I r h
  obtain ⟨dc, G, ds, d, gs, hz, v1, e, fin⟩ := h
  unfold tupleB at e
  split at e
  · cases e
    obtain ⟨v, rfl, rv⟩ := v1.one
    obtain ⟨a, ws, rfl, ha, dv⟩ := rv.lst gs
    exact call_tuple_of pins s σ H _ us Q I r ⟨a, ws, rfl, .inl ⟨.inl (.inl ha), fun q hq => new_tup gs hq dv fin⟩⟩
  · cases e
    obtain ⟨v, rfl, rv⟩ := v1.one
    have w1 := rv.tupD
    obtain ⟨a, ws, rfl, ha, dv⟩ := rv.tup gs
    exact call_tuple_of pins s σ H _ us Q I r ⟨a, ws, rfl, .inr ⟨.inl (.inl ha), fin _ G H gs (.refl _ _ _) (RV.of w1 rfl)⟩⟩
  · cases e
/-! ### sums -/
theorem sum_pre : ∀ (xs : List D) (a t : Int), sumD xs a = some t → (∀ i : Nat, i < xs.length → ∃ j, xs[i]? = some (.int j)) ∧ t = a + preSum (fun i => match xs[i]? with | some (.int j) => j | _ => 0) xs.length
  | [], a, t, h => by
    cases h
    exact ⟨fun i hi => absurd hi (Nat.not_lt_zero _), by simp [preSum]⟩
  | x :: xs, a, t, h => by
    cases x with
    | int j =>
      obtain ⟨h1, h2⟩ := sum_pre xs (a + j) t h
      refine ⟨fun i hi => ?_, ?_⟩
      · cases i with
        | zero => exact ⟨j, rfl⟩
        | succ i => simpa using h1 i (by simpa using hi)
      · rw [h2]
        have key : ∀ n, preSum (fun i => match (D.int j :: xs)[i]? with | some (.int j) => j | _ => 0) (n + 1) = j + preSum (fun i => match xs[i]? with | some (.int j) => j | _ => 0) n := by
          intro n
          induction n with
          | zero => simp [preSum]
          | succ n ih =>
            rw [preSum, ih, preSum]
            simp only [List.getElem?_cons_succ]
            omega
        rw [List.length_cons, key]
        omega
    | _ => cases h
theorem sum_D (hK : X.K = p.K) (hc : X.calm = true) : CallR X (.builtin "sum") (rB p m sumB) := by
  intro pins s σ H vs us Q I r h
  obtain ⟨dc, G, ds, d, gs, hz, v1, e, fin⟩ := h
  unfold sumB at e
  split at e
  · obtain ⟨l, e1, e⟩ := Option.bind_eq_some_iff.mp e
    obtain ⟨t, e0, rfl⟩ := Option.map_eq_some_iff.mp e
    obtain ⟨v, rfl, rv⟩ := v1.one
    obtain ⟨u, rfl, rx⟩ := vals1 r
    obtain ⟨a, ws, its, rfl, dv, rr, q, _⟩ := RV.seq hK gs I e1 rv
    cases (show u = Value.ref a from rx)
    obtain ⟨h1, h2⟩ := sum_pre l 0 t e0
    have hlen : its.toArray.size = l.length := by rw [List.size_toArray, ← rr.length, dv.length]
    have val : ∀ (i : Nat) (v : Value), its.toArray[i]? = some v → ∃ t, v = .int (match l[i]? with | some (.int j) => j | _ => 0) t := fun i v hv => by
      have hi : i < l.length := by rw [← hlen]; exact (Array.getElem?_eq_some_iff.mp hv).1
      obtain ⟨j, hj⟩ := h1 i hi
      obtain ⟨w, hw, dw⟩ := dv.get hj
      obtain ⟨u, hu, ru⟩ := rr.get hw
      have : v = u := by
        have hv' : its[i]? = some v := by simpa using hv
        rw [hu] at hv'
        exact (Option.some.inj hv').symm
      subst this
      cases dw
      obtain ⟨t, rfl⟩ := ru
      exact ⟨t, by rw [hj]⟩
    have fin' : ∀ (s₂ s' : Shared) (t' : Nat), s₂.gens = s.gens → s₂.os = s.os → s₂.drawn = s.drawn → (∀ b o, s.heap.get? b = some o → s₂.heap.get? b = some o) → ∀ wr, (∀ b o, s.heap.get? b = some o → b ∉ wr) → Moved wr (fun a b => b = a) s₂ s' → EP X pins σ Q (.int (preSum (fun i => match l[i]? with | some (.int j) => j | _ => 0) its.toArray.size) t') s' := fun s₂ s' t' e1 e2 e3 k wr hw mv => by
      refine ⟨.int t, H, ?_, ?_, fin _ G H gs (.refl _ _ _) (RV.of rfl rfl)⟩
      · have I2 : Inv X pins σ H { s with heap := s'.heap, toks := s'.toks } := I.kept (t' := s'.toks) fun b o q => mv.heap b o (hw b o q) (k b o q)
        have : s' = { s with heap := s'.heap, toks := s'.toks } := by
          obtain ⟨h', g', d', t', o'⟩ := s'
          have m2 := mv.gens; have m3 := mv.drawn; have m4 := mv.os
          simp only at m2 m3 m4
          rw [e1] at m2; rw [e3] at m3; rw [e2] at m4
          subst m2 m3 m4
          rfl
        rw [this]; exact I2
      · exact ⟨t', by rw [hlen, h2]; simp⟩
    refine call_sum_walkAnyS ?_
    rcases q with ⟨_, hl⟩ | ⟨_, hl⟩
    · refine PySem.W.iter_listW (A := X.A.in1) (I.ok.hd hc) hl fun s₂ e W st hfp hw hk => ⟨_, _, _, _, _, _, _, _, rfl, W, st, hfp, val, fun s' t' mv => fin' s₂ s' t' (by rw [e]) (by rw [e]) (by rw [e]) hk _ hw mv⟩
    · refine PySem.W.iter_tupleW (A := X.A.in1) (I.ok.hd hc) hl fun s₂ e W st hfp hw hk => ⟨_, _, _, _, _, _, _, _, rfl, W, st, hfp, val, fun s' t' mv => fin' s₂ s' t' (by rw [e]) (by rw [e]) (by rw [e]) hk _ hw mv⟩
  · cases e
end
end Px
set_option maxRecDepth 100000
set_option maxHeartbeats 4000000
/-! PS7: min, max, sorted, dict. -/
namespace Px
open PySem PySem.Spec PyProof.Rows L2
/-! ### toPy is one to one -/
mutual
theorem toPy_inj : ∀ (a b : D) (q : PyData), noK a = true → noK b = true → toPy a = some q → toPy b = some q → a = b
  | .non, b, q, _, hb, ea, eb => by
    cases ea
    cases b with
    | non => rfl
    | tup ys => simp [toPy] at eb
    | lst ys => simp [toPy] at eb
    | ktup ys => cases hb
    | _ => cases eb
  | .bl v, b, q, _, hb, ea, eb => by
    cases ea
    cases b with
    | bl w => cases eb; rfl
    | tup ys => simp [toPy] at eb
    | lst ys => simp [toPy] at eb
    | ktup ys => cases hb
    | _ => cases eb
  | .int v, b, q, _, hb, ea, eb => by
    cases ea
    cases b with
    | int w => cases eb; rfl
    | tup ys => simp [toPy] at eb
    | lst ys => simp [toPy] at eb
    | ktup ys => cases hb
    | _ => cases eb
  | .str v, b, q, _, hb, ea, eb => by
    cases ea
    cases b with
    | str w => cases eb; rfl
    | tup ys => simp [toPy] at eb
    | lst ys => simp [toPy] at eb
    | ktup ys => cases hb
    | _ => cases eb
  | .tup xs, b, q, ha, hb, ea, eb => by
    have ea : (toPy.toPys xs).map PyData.tuple = some q := ea
    obtain ⟨ps, e1, rfl⟩ := Option.map_eq_some_iff.mp ea
    cases b with
    | tup ys =>
      have eb : (toPy.toPys ys).map PyData.tuple = some (.tuple ps) := eb
      obtain ⟨qs, e2, e3⟩ := Option.map_eq_some_iff.mp eb
      cases e3
      rw [toPys_inj xs ys ps ha hb e1 e2]
    | lst ys =>
      have eb : (toPy.toPys ys).map PyData.list = some (.tuple ps) := eb
      obtain ⟨qs, e2, e3⟩ := Option.map_eq_some_iff.mp eb
      cases e3
    | ktup ys => cases hb
    | _ => cases eb
  | .lst xs, b, q, ha, hb, ea, eb => by
    have ea : (toPy.toPys xs).map PyData.list = some q := ea
    obtain ⟨ps, e1, rfl⟩ := Option.map_eq_some_iff.mp ea
    cases b with
    | lst ys =>
      have eb : (toPy.toPys ys).map PyData.list = some (.list ps) := eb
      obtain ⟨qs, e2, e3⟩ := Option.map_eq_some_iff.mp eb
      cases e3
      rw [toPys_inj xs ys ps ha hb e1 e2]
    | tup ys =>
      have eb : (toPy.toPys ys).map PyData.tuple = some (.list ps) := eb
      obtain ⟨qs, e2, e3⟩ := Option.map_eq_some_iff.mp eb
      cases e3
    | ktup ys => cases hb
    | _ => cases eb
  | .dic _, _, _, _, _, ea, _ => by cases ea
  | .obj _ _, _, _, _, _, ea, _ => by cases ea
  | .dice, _, _, _, _, ea, _ => by cases ea
  | .ktup _, _, _, ha, _, _, _ => by cases ha
  | .kdic _, _, _, _, _, ea, _ => by cases ea
theorem toPys_inj : ∀ (xs ys : List D) (ps : List PyData), noK.noKs xs = true → noK.noKs ys = true → toPy.toPys xs = some ps → toPy.toPys ys = some ps → xs = ys
  | [], ys, ps, _, _, ea, eb => by
    cases ea
    cases ys with
    | nil => rfl
    | cons y ys =>
      unfold toPy.toPys at eb
      split at eb <;> cases eb
  | x :: xs, ys, ps, ha, hb, ea, eb => by
    unfold toPy.toPys at ea
    split at ea
    · rename_i p' ps' h1 h2
      cases ea
      cases ys with
      | nil => cases eb
      | cons y ys =>
        unfold toPy.toPys at eb
        split at eb
        · rename_i q' qs' h3 h4
          cases eb
          have ha' : (noK x && noK.noKs xs) = true := ha
          have hb' : (noK y && noK.noKs ys) = true := hb
          rw [Bool.and_eq_true] at ha' hb'
          rw [toPy_inj x y _ ha'.1 hb'.1 h1 h3, toPys_inj xs ys _ ha'.2 hb'.2 h2 h4]
        · cases eb
    · cases ea
end
theorem toPys_cons {x : D} {xs : List D} {ps : List PyData} (h : toPy.toPys (x :: xs) = some ps) : ∃ q qs, ps = q :: qs ∧ toPy x = some q ∧ toPy.toPys xs = some qs := by
  unfold toPy.toPys at h
  split at h
  · rename_i p' ps' h1 h2
    cases h
    exact ⟨_, _, rfl, h1, h2⟩
  · cases h
theorem toPys_at : ∀ {xs : List D} {ps : List PyData} {i : Nat} {d : D}, toPy.toPys xs = some ps → xs[i]? = some d → ∃ q, ps[i]? = some q ∧ toPy d = some q
  | [], _, _, _, _, e => by simp at e
  | x :: xs, _, 0, d, h, e => by
    obtain ⟨q, qs, rfl, h1, h2⟩ := toPys_cons h
    simp at e
    subst e
    exact ⟨q, rfl, h1⟩
  | x :: xs, _, i + 1, d, h, e => by
    obtain ⟨q, qs, rfl, h1, h2⟩ := toPys_cons h
    simpa using toPys_at (i := i) h2 (by simpa using e)
theorem toPys_len : ∀ {xs : List D} {ps : List PyData}, toPy.toPys xs = some ps → ps.length = xs.length
  | [], _, h => by
    cases h
    rfl
  | x :: xs, _, h => by
    obtain ⟨q, qs, rfl, h1, h2⟩ := toPys_cons h
    rw [List.length_cons, List.length_cons, toPys_len h2]
theorem noKs_at : ∀ {xs : List D} {i : Nat} {d : D}, noK.noKs xs = true → xs[i]? = some d → noK d = true
  | [], _, _, _, e => by simp at e
  | x :: xs, 0, d, h, e => by
    simp at e
    subst e
    have h' : (noK x && noK.noKs xs) = true := h
    rw [Bool.and_eq_true] at h'
    exact h'.1
  | x :: xs, i + 1, d, h, e => by
    have h' : (noK x && noK.noKs xs) = true := h
    rw [Bool.and_eq_true] at h'
    exact noKs_at h'.2 (by simpa using e)
structure OrdOk (xs : List D) (ps : List PyData) : Prop where
  py : toPy.toPys xs = some ps
  nk : noK.noKs xs = true
  al : PySem.W.AlikeAll ps
  dp : PyData.depthAll ps ≤ 64
theorem alikeAll_of {ps : List PyData} (h : alikeAllD ps = true) : ∀ x ∈ ps, ∀ y ∈ ps, PySem.W.alike x y = true := by
  unfold alikeAllD at h
  rw [List.all_eq_true] at h
  exact fun x hx y hy => List.all_eq_true.mp (h x hx) y hy
theorem ordOk_of {xs : List D} (h : ordOk xs = true) : ∃ ps, OrdOk xs ps := by
  unfold ordOk at h
  rw [Bool.and_eq_true] at h
  obtain ⟨h1, h2⟩ := h
  split at h2
  · rename_i ps e
    simp only [Bool.and_eq_true, decide_eq_true_eq, List.all_eq_true] at h2
    exact ⟨ps, e, h1, ⟨alikeAll_of h2.1.1, fun x hx z => by
      have := h2.1.2 x hx
      rw [z] at this
      cases this⟩, h2.2⟩
  · cases h2
theorem depth_mem {p : PyData} : ∀ {ps : List PyData}, p ∈ ps → p.depth ≤ PyData.depthAll ps
  | [], h => nomatch h
  | q :: ps, h => by
    unfold PyData.depthAll
    rcases List.mem_cons.mp h with rfl | h
    · exact Nat.le_max_left _ _
    · exact Nat.le_trans (depth_mem h) (Nat.le_max_right _ _)
theorem ltD_eq {a b : D} {q r : PyData} (h1 : toPy a = some q) (h2 : toPy b = some r) (al : PySem.W.alike q r = true) (dp : q.depth ≤ 64) (nn : q ≠ .none) : ltD a b = some (PySem.W.dataLt q r) := by
  unfold ltD
  rw [h1, h2]
  simp only [al, decide_eq_true dp, Bool.and_self, if_true]
theorem minD_py : ∀ (xs : List D) (qs : List PyData) (b : D) (q : PyData) (all : List PyData), toPy b = some q → toPy.toPys xs = some qs → q ∈ all → (∀ x ∈ qs, x ∈ all) → PySem.W.AlikeAll all → PyData.depthAll all ≤ 64 →
    toPy (minD b xs) = some (PySem.W.minD q qs) ∧ (minD b xs = b ∨ ∃ i : Nat, xs[i]? = some (minD b xs))
  | [], qs, b, q, all, hb, hx, _, _, _, _ => by
    cases hx
    exact ⟨hb, .inl rfl⟩
  | x :: xs, _, b, q, all, hb, hx, hq, hs, al, dp => by
    obtain ⟨r, rs, rfl, h1, h2⟩ := toPys_cons hx
    have hr := hs r List.mem_cons_self
    have e := ltD_eq h1 hb (al.1 r hr q hq) (Nat.le_trans (depth_mem hr) dp) (al.2 r hr)
    have e' : minD b (x :: xs) = if PySem.W.dataLt r q = true then minD x xs else minD b xs := by
      show (if ltD x b = some true then minD x xs else minD b xs) = _
      rw [e]
      simp only [Option.some.injEq]
    have e2 : PySem.W.minD q (r :: rs) = if PySem.W.dataLt r q = true then PySem.W.minD r rs else PySem.W.minD q rs := by
      unfold PySem.W.minD
      rw [List.foldl_cons]
      split <;> rfl
    rw [e', e2]
    split
    · obtain ⟨g1, g2⟩ := minD_py xs rs x r all h1 h2 hr (fun y hy => hs y (List.mem_cons_of_mem _ hy)) al dp
      refine ⟨g1, .inr ?_⟩
      rcases g2 with g2 | ⟨i, g2⟩
      · exact ⟨0, by rw [g2]; rfl⟩
      · exact ⟨i + 1, by simpa using g2⟩
    · obtain ⟨g1, g2⟩ := minD_py xs rs b q all hb h2 hq (fun y hy => hs y (List.mem_cons_of_mem _ hy)) al dp
      refine ⟨g1, ?_⟩
      rcases g2 with g2 | ⟨i, g2⟩
      · exact .inl g2
      · exact .inr ⟨i + 1, by simpa using g2⟩
theorem maxD_py : ∀ (xs : List D) (qs : List PyData) (b : D) (q : PyData) (all : List PyData), toPy b = some q → toPy.toPys xs = some qs → q ∈ all → (∀ x ∈ qs, x ∈ all) → PySem.W.AlikeAll all → PyData.depthAll all ≤ 64 →
    toPy (maxD b xs) = some (PySem.W.maxD q qs) ∧ (maxD b xs = b ∨ ∃ i : Nat, xs[i]? = some (maxD b xs))
  | [], qs, b, q, all, hb, hx, _, _, _, _ => by
    cases hx
    exact ⟨hb, .inl rfl⟩
  | x :: xs, _, b, q, all, hb, hx, hq, hs, al, dp => by
    obtain ⟨r, rs, rfl, h1, h2⟩ := toPys_cons hx
    have hr := hs r List.mem_cons_self
    have e := ltD_eq hb h1 (al.1 q hq r hr) (Nat.le_trans (depth_mem hq) dp) (al.2 q hq)
    have e' : maxD b (x :: xs) = if PySem.W.dataLt q r = true then maxD x xs else maxD b xs := by
      show (if ltD b x = some true then maxD x xs else maxD b xs) = _
      rw [e]
      simp only [Option.some.injEq]
    have e2 : PySem.W.maxD q (r :: rs) = if PySem.W.dataLt q r = true then PySem.W.maxD r rs else PySem.W.maxD q rs := by
      unfold PySem.W.maxD
      rw [List.foldl_cons]
      split <;> rfl
    rw [e', e2]
    split
    · obtain ⟨g1, g2⟩ := maxD_py xs rs x r all h1 h2 hr (fun y hy => hs y (List.mem_cons_of_mem _ hy)) al dp
      refine ⟨g1, .inr ?_⟩
      rcases g2 with g2 | ⟨i, g2⟩
      · exact ⟨0, by rw [g2]; rfl⟩
      · exact ⟨i + 1, by simpa using g2⟩
    · obtain ⟨g1, g2⟩ := maxD_py xs rs b q all hb h2 hq (fun y hy => hs y (List.mem_cons_of_mem _ hy)) al dp
      refine ⟨g1, ?_⟩
      rcases g2 with g2 | ⟨i, g2⟩
      · exact .inl g2
      · exact .inr ⟨i + 1, by simpa using g2⟩
section
variable {p : Pk} {C : Cn} {k : Nat} {W : WX} {X : Cx} {n : Nat} {b : Bool} {m : Md} {G H : Hp} {dc : Dc}
theorem readsAll_get {h : Heap} : ∀ {us : List Value} {ps : List PyData} {as : List Addr} {i : Nat} {u : Value} {q : PyData}, ReadsAll h us ps as → us[i]? = some u → ps[i]? = some q → ∃ bs, Reads h u q bs
  | _, _, _, 0, u, q, .cons r _, e1, e2 => by
    simp at e1 e2
    subst e1 e2
    exact ⟨_, r⟩
  | _, _, _, i + 1, u, q, .cons _ rs, e1, e2 => readsAll_get (i := i) rs (by simpa using e1) (by simpa using e2)
  | _, _, _, _, u, q, .nil, e1, _ => by simp at e1
/-- the chosen value is the chosen thing -/
theorem chosen (hK : X.K = p.K) {pins : List (Addr × Obj)} {σ : St} {s : Shared} {Q : VK} (gs : GS p dc G H) (I : Inv X pins σ H s) {l : List D} {ps : List PyData} {ws : List V} {its : List Value} {d : D} {q : PyData} (ok : OrdOk l ps) (dv : DVs p.K p.da G l ws) (rr : Vals ws its)
    (hd : toPy d = some q) (hm : ∃ i : Nat, l[i]? = some d) (fin : ∀ v G' H', GS p dc G' H' → Grow p.da G H G' H' → RV p m G' H' d v → Q v H') (hmm : cont d = false ∨ m = .va ∨ m = .bo)
    {i : Nat} {v : Value} {h' : Heap} {tk : Nat} {bs : List Addr} (hv : its.toArray[i]? = some v) (hr : Reads h' v q bs) (k : ∀ b o, s.heap.get? b = some o → h'.get? b = some o) : EP X pins σ Q v { s with heap := h', toks := tk } := by
  have hv' : its[i]? = some v := by simpa using hv
  have hi : i < l.length := by
    have := (List.getElem?_eq_some_iff.mp hv').1
    rw [← rr.length, dv.length] at this
    exact this
  obtain ⟨d', hd'⟩ : ∃ d', l[i]? = some d' := ⟨_, List.getElem?_eq_getElem hi⟩
  obtain ⟨w, hw, dw⟩ := dv.get hd'
  obtain ⟨u, hu, ru⟩ := rr.get hw
  rw [hv'] at hu
  cases hu
  obtain ⟨as, ra⟩ := Dp.readsAll I _ _ _ (hK ▸ DVs.dp gs l ws ps ok.py dv) rr
  obtain ⟨q', hq', hq2⟩ := toPys_at ok.py hd'
  obtain ⟨cs, rv⟩ := readsAll_get ra hv' hq'
  have e : q' = q := (PySem.Reads.unique (PyProof.Rows.Reads.keeps k rv) _ _ hr).1
  subst e
  obtain ⟨j, hj⟩ := hm
  have ed : d' = d := toPy_inj _ _ _ (noKs_at ok.nk hd') (noKs_at ok.nk hj) hq2 hd
  subst ed
  refine ⟨w, H, I.kept k, ru, fin w G H gs (.refl _ _ _) ?_⟩
  rcases hmm with hc | rfl | rfl
  · exact RV.of dw hc
  · exact dw
  · exact .inl dw
theorem minmax_mem {l : List D} {b d : D} {r : List D} (e : l = b :: r) (h : d = b ∨ ∃ i : Nat, r[i]? = some d) : ∃ i : Nat, l[i]? = some d := by
  subst e
  rcases h with rfl | ⟨i, h⟩
  · exact ⟨0, rfl⟩
  · exact ⟨i + 1, by simpa using h⟩
theorem min_D (hK : X.K = p.K) (hc : X.calm = true) (hu : X.A.units + 66 < cLine) (hm : m = .va ∨ m = .bo) : CallR X (.builtin "min") (rB p m minB) := by
  intro pins s σ H vs us Q I r h
  obtain ⟨dc, G, ds, d, gs, hz, v1, e, fin⟩ := h
  unfold minB at e
  split at e
  · cases e
    obtain ⟨v, u, rfl, rv, ru⟩ := v1.two
    cases rv.int; cases ru.int
    exact call_min2 hc pins s σ H _ us Q I r ⟨_, _, rfl, fin _ G H gs (.refl _ _ _) (RV.of rfl rfl)⟩
  · obtain ⟨l, e1, e⟩ := Option.bind_eq_some_iff.mp e
    split at e
    · cases e
    · rename_i b rs
      split at e
      · rename_i ho
        cases e
        obtain ⟨ps, ok⟩ := ordOk_of ho
        obtain ⟨v, rfl, rv⟩ := v1.one
        obtain ⟨u, rfl, rx⟩ := vals1 r
        obtain ⟨a, ws, its, rfl, dv, rr, q, _⟩ := RV.seq hK gs I e1 rv
        cases (show u = Value.ref a from rx)
        obtain ⟨q0, qs, rfl, h1, h2⟩ := toPys_cons ok.py
        obtain ⟨g1, g2⟩ := minD_py rs qs b q0 (q0 :: qs) h1 h2 List.mem_cons_self (fun x hx => List.mem_cons_of_mem _ hx) ok.al ok.dp
        obtain ⟨as, ra⟩ := Dp.readsAll I _ _ _ (hK ▸ DVs.dp gs _ ws _ ok.py dv) rr
        have ro : X.A.units + 1 + PyData.depthAll (q0 :: qs) < cLine := by have := ok.dp; omega
        rcases q with ⟨_, hl⟩ | ⟨_, hl⟩
        · exact PySem.W.min_list_data (I.ok.hd hc) hl (by simpa using ra) ok.al ro fun i v h' tk bs hv hr k => chosen hK gs I ok dv rr g1 (minmax_mem rfl g2) fin (.inr hm) hv hr k
        · exact PySem.W.min_tuple_data (I.ok.hd hc) hl (by simpa using ra) ok.al ro fun i v h' tk bs hv hr k => chosen hK gs I ok dv rr g1 (minmax_mem rfl g2) fin (.inr hm) hv hr k
      · cases e
  · cases e
theorem max_D (hK : X.K = p.K) (hc : X.calm = true) (hu : X.A.units + 66 < cLine) (hm : m = .va ∨ m = .bo) : CallR X (.builtin "max") (rB p m maxB) := by
  intro pins s σ H vs us Q I r h
  obtain ⟨dc, G, ds, d, gs, hz, v1, e, fin⟩ := h
  unfold maxB at e
  split at e
  · cases e
    obtain ⟨v, u, rfl, rv, ru⟩ := v1.two
    cases rv.int; cases ru.int
    exact call_max2 hc pins s σ H _ us Q I r ⟨_, _, rfl, fin _ G H gs (.refl _ _ _) (RV.of rfl rfl)⟩
  · obtain ⟨l, e1, e⟩ := Option.bind_eq_some_iff.mp e
    split at e
    · cases e
    · rename_i b rs
      split at e
      · rename_i ho
        cases e
        obtain ⟨ps, ok⟩ := ordOk_of ho
        obtain ⟨v, rfl, rv⟩ := v1.one
        obtain ⟨u, rfl, rx⟩ := vals1 r
        obtain ⟨a, ws, its, rfl, dv, rr, q, _⟩ := RV.seq hK gs I e1 rv
        cases (show u = Value.ref a from rx)
        obtain ⟨q0, qs, rfl, h1, h2⟩ := toPys_cons ok.py
        obtain ⟨g1, g2⟩ := maxD_py rs qs b q0 (q0 :: qs) h1 h2 List.mem_cons_self (fun x hx => List.mem_cons_of_mem _ hx) ok.al ok.dp
        obtain ⟨as, ra⟩ := Dp.readsAll I _ _ _ (hK ▸ DVs.dp gs _ ws _ ok.py dv) rr
        have ro : X.A.units + 1 + PyData.depthAll (q0 :: qs) < cLine := by have := ok.dp; omega
        rcases q with ⟨_, hl⟩ | ⟨_, hl⟩
        · exact PySem.W.max_list_data (I.ok.hd hc) hl (by simpa using ra) ok.al ro fun i v h' tk bs hv hr k => chosen hK gs I ok dv rr g1 (minmax_mem rfl g2) fin (.inr hm) hv hr k
        · exact PySem.W.max_tuple_data (I.ok.hd hc) hl (by simpa using ra) ok.al ro fun i v h' tk bs hv hr k => chosen hK gs I ok dv rr g1 (minmax_mem rfl g2) fin (.inr hm) hv hr k
      · cases e
  · cases e
/-! ### sorted -/
def Bt : Type := PyData × D × V
theorem sort_dvs {zs : List (PyData × D × V)} (h : ∀ z ∈ zs, DV p.K p.da G z.2.1 z.2.2) : DVs p.K p.da G (zs.map (·.2.1)) (zs.map (·.2.2)) := by
  induction zs with
  | nil => exact rfl
  | cons z zs ih => exact ⟨_, _, rfl, h z List.mem_cons_self, ih fun y hy => h y (List.mem_cons_of_mem _ hy)⟩
/-- data, things and values side by side -/
theorem zip3 : ∀ {ds : List D} {ps : List PyData} {ws : List V}, toPy.toPys ds = some ps → DVs p.K p.da G ds ws → ∃ zs : List (PyData × D × V), zs.map (·.1) = ps ∧ zs.map (·.2.1) = ds ∧ zs.map (·.2.2) = ws ∧ (∀ z ∈ zs, DV p.K p.da G z.2.1 z.2.2) ∧ zs.map (fun z => (z.1, z.2.1)) = ps.zip ds
  | [], _, _, h, h' => by
    cases h; cases h'
    exact ⟨[], rfl, rfl, rfl, (fun z hz => by cases hz), rfl⟩
  | d :: ds, _, _, h, ⟨w, r, e, h1, h2⟩ => by
    obtain ⟨q, qs, rfl, g1, g2⟩ := toPys_cons h
    subst e
    obtain ⟨zs, e1, e2, e3, e4, e5⟩ := zip3 g2 h2
    exact ⟨(q, d, w) :: zs, by simp [e1], by simp [e2], by simp [e3], fun z hz => by
      rcases List.mem_cons.mp hz with rfl | hz
      · exact h1
      · exact e4 z hz, by simp [e5]⟩
theorem eachIs_vals : ∀ {us : List Value} {zs : List (PyData × D × V)}, PySem.W.EachIs (fun (u : Value) (z : PyData × D × V) => RelV z.2.2 u) us zs → Vals (zs.map (·.2.2)) us
  | _, _, .nil => .nil
  | _, _, .cons h t => .cons h (eachIs_vals t)
theorem vals_eachIs : ∀ {us : List Value} {zs : List (PyData × D × V)}, Vals (zs.map (·.2.2)) us → PySem.W.EachIs (fun (u : Value) (z : PyData × D × V) => RelV z.2.2 u) us zs
  | _, [], h => by
    cases h
    exact .nil
  | _, z :: zs, h => by
    cases h with
    | cons h t => exact .cons h (vals_eachIs t)
theorem reads_eachIs {h : Heap} : ∀ {us : List Value} {zs : List (PyData × D × V)} {as : List Addr}, ReadsAll h us (zs.map (·.1)) as → PySem.W.EachIs (fun (u : Value) (z : PyData × D × V) => ∃ as, Reads h u z.1 as) us zs
  | _, [], _, h => by
    cases h
    exact .nil
  | _, z :: zs, _, h => by
    cases h with
    | cons h t => exact .cons ⟨_, h⟩ (reads_eachIs t)
theorem sortable_of {ps : List PyData} (h : sortable ps = true) : PySem.W.AllAlike ps ∧ PySem.W.Sortable ps ∧ ps.length ≤ szL ∧ PyData.depthAll ps ≤ 64 := by
  unfold sortable at h
  simp only [Bool.and_eq_true, decide_eq_true_eq, Bool.or_eq_true, List.all_eq_true] at h
  obtain ⟨⟨⟨h1, h2⟩, h3⟩, h4⟩ := h
  refine ⟨fun x hx y hy => alikeAll_of h1 x hx y hy, ?_, h2, h3⟩
  rcases h4 with h4 | h4
  · refine .inl fun d hd => ?_
    have := h4 d hd
    unfold isTupP at this
    split at this
    · exact ⟨_, _, rfl⟩
    · cases this
  · refine .inr fun d hd => ?_
    have := h4 d hd
    unfold isOthP at this
    split at this
    · cases this
    · cases this
    · rename_i a1 a2
      exact ⟨a1, fun xs z => a2 _ z⟩
theorem sorted_D (hK : X.K = p.K) (hu : X.A.units + 70 < cLine) : CallR X (.builtin "sorted") (rB p m sortedB) := by
  intro pins s σ H vs us Q I r h
  obtain ⟨dc, G, ds, d, gs, hz, v1, e, fin⟩ := h
  unfold sortedB at e
  split at e
  · rename_i xs
    obtain ⟨ys, e1, rfl⟩ := Option.map_eq_some_iff.mp e
    unfold sortD at e1
    split at e1
    · rename_i ps hp
      split at e1
      · rename_i hs
        cases e1
        obtain ⟨al, so, hl, dp⟩ := sortable_of hs
        obtain ⟨v, rfl, rv⟩ := v1.one
        obtain ⟨u, rfl, rx⟩ := vals1 r
        obtain ⟨a, ws, its, rfl, dv, rr, q, hws⟩ := RV.seq hK gs I (x := .lst xs) rfl rv
        cases (show u = Value.ref a from rx)
        obtain ⟨zs, z1, z2, z3, z4, z5⟩ := zip3 hp dv
        obtain ⟨as, ra⟩ := Dp.readsAll I _ _ _ (hK ▸ DVs.dp gs _ ws _ hp dv) rr
        have hl' : s.heap.IsList a its.toArray := by
          rcases q with ⟨_, h⟩ | ⟨h, _⟩
          · exact h
          · exfalso
            obtain ⟨a', vs', ea, ha, _⟩ := rv.lst gs
            cases ea
            obtain ⟨_, _, pl, _⟩ := I.list (.inl (.inl ha))
            obtain ⟨_, _, pt, _⟩ := I.tuple h
            obtain ⟨o, ho, hc, _⟩ := pl.isList
            obtain ⟨o', ho', hc', _⟩ := pt
            rw [ho] at ho'
            cases ho'
            rw [hc] at hc'
            exact absurd hc' (by decide)
        rw [← z3] at rr
        rw [← z1] at ra al so dp
        have hzl : zs.length = xs.length := by rw [← z2, List.length_map]
        refine PySem.W.sorted_data (R := fun (u : Value) (z : PyData × D × V) => RelV z.2.2 u) (enc := fun z => z.1) hl' (vals_eachIs rr) (reads_eachIs ra) al so (by rw [hzl, ← dv.length]; exact hws) (fun z hz' => ?_) fun out ho hE => ?_
        · have := depth_mem (List.mem_map_of_mem (f := (·.1)) hz')
          show X.A.units + 2 + z.1.depth < cLine
          omega
        · have ev := eachIs_vals hE
          obtain ⟨c, hc⟩ := PyProof.Rows.sortedAll_at s.heap its out.toArray
          have hmem : ∀ z ∈ zs.mergeSort (PySem.W.dataLe false fun z => z.1), DV p.K p.da G z.2.1 z.2.2 := fun z hz' => z4 z ((List.mergeSort_perm _ _).mem_iff.mp hz')
          have eqs : sortK (ps.zip xs) = (zs.mergeSort (PySem.W.dataLe false fun z => z.1)).map (·.2.1) := by
            unfold sortK
            rw [← z5]
            have := List.map_mergeSort (r := PySem.W.dataLe false fun (z : PyData × D × V) => z.1) (s := fun (a b : PyData × D) => leP a.1 b.1) (f := fun z => (z.1, z.2.1)) (l := zs) (fun a _ b _ => by rw [PySem.W.dataLe_eq]; rfl)
            rw [← this, List.map_map]
            rfl
          rw [eqs] at fin
          have hn := I.hok.fresh (Nat.le_succ s.heap.objs.size)
          refine ⟨.ref _, _, I.laid (t' := s.toks) (o := .lst _) (fun _ _ => PyProof.Rows.sortedAll_old) (Nat.le_succ _) ⟨?_, out, c, ev, hc⟩, rfl, new_lst gs hz hn (sort_dvs hmem) fin⟩
          rw [List.length_map, List.length_mergeSort, hzl, ← dv.length]
          exact hws
      · cases e1
    · cases e1
  · cases e
end
end Px
set_option maxRecDepth 100000
set_option maxHeartbeats 4000000
/-! PS8: calls. -/
namespace Px
open PySem PySem.Spec PyProof.Rows L2
section
variable {p : Pk} {C : Cn} {k : Nat} {W : WX} {X : Cx} {n : Nat} {b : Bool} {m : Md} {G H : Hp} {dc : Dc}
theorem noStar_cons {e : Expr} {es : List Expr} (h : noStar (e :: es) = true) : (∀ a q, e ≠ .Starred a q) ∧ noStar es = true := by
  unfold noStar at h
  rw [List.all_cons, Bool.and_eq_true] at h
  exact ⟨fun a q z => by rw [z] at h; exact absurd h.1 (by simp), h.2⟩
theorem star_cons {e : Expr} {es : List Expr} {env : Env} (h : noStar (e :: es) = true) : starEach (e :: es) env = (false, eval e env) :: starEach es env := star_of (noStar_cons h).1
theorem backTo_any {env : Env} {pos : Pos} : ∀ {es : List Expr}, noStar es = true → (backTo pos (starEach es env)).any (·.1) = false
  | [], _ => rfl
  | e :: es, h => by
    rw [star_cons h]
    show (false || (backTo pos (starEach es env)).any (·.1)) = false
    rw [backTo_any (noStar_cons h).2]
    rfl
theorem backTo_all {env : Env} {pos : Pos} : ∀ {es : List Expr}, noStar es = true → (backTo pos (starEach es env)).all (fun x => !x.1) = true
  | [], _ => rfl
  | e :: es, h => by
    rw [star_cons h]
    show (true && (backTo pos (starEach es env)).all (fun x => !x.1)) = true
    rw [backTo_all (noStar_cons h).2]
    rfl
/-! ### built-ins -/
theorem e_bltF (h : IH n) (x : XOk p C k W X) {f : Str} {id : String} {g : List D → Option D} {e : Expr} {es : List Expr} {p1 pos : Pos} (hf : f ∈ bltT ++ bltF) (hg : gloK C.sc f = true) (hv : bootBuiltins f = some (.builtin id)) (hc : CallR X (.builtin id) (rB p m g)) (hs : noStar (e :: es) = true)
    {F : En → M D} (hF : F = fun ρ => (seqM ((e :: es).map fun e => dE n true C e ρ) >>= fun ds => lift (g ds))) : PE X (.Call (.Name f p1) (e :: es) [] pos) (tE p W m F) := by
  have pl := plain_d (glo_plain hg)
  refine PE.imp (pe_callB hc (x.glo f hg) (x.gm.bl f hf).1 hv (pa_list h x true .bo (.inr rfl) (fun _ => rfl) (e :: es)) pl.2.2 pl.1 (star_cons hs) (backTo_any (noStar_cons hs).2)) fun σ H Q ⟨ρ, G, dc, gs, rs, post⟩ => ?_
  subst hF
  refine ⟨ρ, G, dc, gs, rs, Post.seq (show Post p W (RV p m) σ G H ((seqM ((e :: es).map fun e => dE n true C e ρ) >>= fun ds => lift (g ds)) dc) Q from post) fun ds dc1 vs G1 H1 _ gs1 g1 r1 post => ?_⟩
  obtain ⟨d, e, fin⟩ := Post.lift post
  exact ⟨dc1, G1, ds, d, gs1, (rs.grow gs g1).hz, r1, e, fin⟩
theorem e_bltT (h : IH n) (x : XOk p C k W X) {f : Str} {T : String} {g : List D → Option D} {e : Expr} {es : List Expr} {p1 pos : Pos} (hf : f ∈ bltT ++ bltF) (hg : gloK C.sc f = true) (hv : bootBuiltins f = some (.type T)) (hc : CallR X (.type T) (rB p m g)) (hs : noStar (e :: es) = true)
    {F : En → M D} (hF : F = fun ρ => (seqM ((e :: es).map fun e => dE n true C e ρ) >>= fun ds => lift (g ds))) : PE X (.Call (.Name f p1) (e :: es) [] pos) (tE p W m F) := by
  have pl := plain_d (glo_plain hg)
  refine PE.imp (pe_callTy hc (x.glo f hg) (x.gm.bl f hf).1 hv (pa_list h x true .bo (.inr rfl) (fun _ => rfl) (e :: es)) pl.2.2 pl.1 (star_cons hs) (backTo_any (noStar_cons hs).2)) fun σ H Q ⟨ρ, G, dc, gs, rs, post⟩ => ?_
  subst hF
  refine ⟨ρ, G, dc, gs, rs, Post.seq (show Post p W (RV p m) σ G H ((seqM ((e :: es).map fun e => dE n true C e ρ) >>= fun ds => lift (g ds)) dc) Q from post) fun ds dc1 vs G1 H1 _ gs1 g1 r1 post => ?_⟩
  obtain ⟨d, e, fin⟩ := Post.lift post
  exact ⟨dc1, G1, ds, d, gs1, (rs.grow gs g1).hz, r1, e, fin⟩
theorem bt_len : bootBuiltins "len" = some (.builtin "len") := by with_unfolding_all rfl
theorem bt_abs : bootBuiltins "abs" = some (.builtin "abs") := by with_unfolding_all rfl
theorem bt_min : bootBuiltins "min" = some (.builtin "min") := by with_unfolding_all rfl
theorem bt_max : bootBuiltins "max" = some (.builtin "max") := by with_unfolding_all rfl
theorem bt_sum : bootBuiltins "sum" = some (.builtin "sum") := by with_unfolding_all rfl
theorem bt_sorted : bootBuiltins "sorted" = some (.builtin "sorted") := by with_unfolding_all rfl
theorem bt_int : bootBuiltins "int" = some (.type "int") := by with_unfolding_all rfl
theorem bt_str : bootBuiltins "str" = some (.type "str") := by with_unfolding_all rfl
theorem bt_list : bootBuiltins "list" = some (.type "list") := by with_unfolding_all rfl
theorem bt_tuple : bootBuiltins "tuple" = some (.type "tuple") := by with_unfolding_all rfl
theorem bt_dict : bootBuiltins "dict" = some (.type "dict") := by with_unfolding_all rfl
theorem mkd (h : mdOk m b e = true) (hb : fresh e = false) : m = .va ∨ m = .bo := by
  cases m with
  | va => exact .inl rfl
  | bo => exact .inr rfl
  | fr =>
    unfold mdOk at h
    rw [hb] at h
    cases b <;> cases h
theorem e_blt (hdict : CallR X (.type "dict") (rB p m dictB)) (h : IH n) (x : XOk p C k W X) {f : Str} {e : Expr} {es : List Expr} {p1 pos : Pos} (hg : gloK C.sc f = true) (hi : isBi f = true) (hs : noStar (e :: es) = true) (hm : mdOk m b (.Call (.Name f p1) (e :: es) [] pos) = true) :
    PE X (.Call (.Name f p1) (e :: es) [] pos) (tE p W m fun ρ => (seqM ((e :: es).map fun e => dE n true C e ρ) >>= fun ds => lift (biD f ds))) := by
  have hu : X.A.units + 70 < cLine := by have := x.room.un; omega
  by_cases h1 : f = "len"
  · subst h1
    exact e_bltF h x (by decide) hg bt_len (len_D x.K) hs (by unfold biD; rfl)
  by_cases h2 : f = "abs"
  · subst h2
    exact e_bltF h x (by decide) hg bt_abs abs_D hs (by unfold biD; rfl)
  by_cases h3 : f = "int"
  · subst h3
    exact e_bltT h x (by decide) hg bt_int int_D hs (by unfold biD; rfl)
  by_cases h4 : f = "min"
  · subst h4
    exact e_bltF h x (by decide) hg bt_min (min_D x.K x.calm (by omega) (mkd hm rfl)) hs (by unfold biD; rfl)
  by_cases h5 : f = "max"
  · subst h5
    exact e_bltF h x (by decide) hg bt_max (max_D x.K x.calm (by omega) (mkd hm rfl)) hs (by unfold biD; rfl)
  by_cases h6 : f = "sum"
  · subst h6
    exact e_bltF h x (by decide) hg bt_sum (sum_D x.K x.calm) hs (by unfold biD; rfl)
  by_cases h7 : f = "list"
  · subst h7
    exact e_bltT h x (by decide) hg bt_list (list_D x.K) hs (by unfold biD; rfl)
  by_cases h8 : f = "tuple"
  · subst h8
    exact e_bltT h x (by decide) hg bt_tuple (tuple_D x.K) hs (by unfold biD; rfl)
  by_cases h9 : f = "sorted"
  · subst h9
    exact e_bltF h x (by decide) hg bt_sorted (sorted_D x.K hu) hs (by unfold biD; rfl)
  by_cases h10 : f = "dict"
  · subst h10
    exact e_bltT h x (by decide) hg bt_dict hdict hs (by unfold biD; rfl)
  by_cases h11 : f = "str"
  · subst h11
    exact e_bltT h x (by decide) hg bt_str str_D hs (by unfold biD; rfl)
  · exfalso
    unfold isBi at hi
    simp [h1, h2, h3, h4, h5, h6, h7, h8, h9, h10, h11] at hi
/-! ### calls of defs -/
theorem e_callF (h : IH n) (x : XOk p C k W X) {f : Str} {F : Fn} {args : List Expr} {p1 pos : Pos} (hg : gloK C.sc f = true) (hF : C.Γ.fn.lookup f = some F) (hs : noStar args = true) (hm : m = .va ∨ m = .bo) :
    PE X (.Call (.Name f p1) args [] pos) (tE p W m fun ρ => (seqM (args.map fun e => dE n false C e ρ) >>= fun ds => F ds)) := by
  have pl := plain_d (glo_plain hg)
  obtain ⟨a, fd, ps, j, hj, hmg, hk, hb, F0⟩ := x.gm.fn f F hF
  have F1 : FnOk X.prog X.w X.K X.mg X.base (L2.CX X.prog X.w) j a fd ps (spF p.toQk F) := by rw [x.K]; exact F0
  have key : ∀ {σ : St} {H0 : Hp} {Q : VK} {G : Hp} {dc : Dc} {ds : List D} {vs : List V}, GS p dc G H0 → DVb p .va G H0 ds vs → Post p W (RV p m) σ G H0 (F ds dc) Q → spF p.toQk F vs H0 Q (WE W σ) := fun {σ H0 Q G dc ds vs} gs dv post => by
    refine ⟨ds, G, dc, dv.va, gs, ?_⟩
    cases hF : F ds dc with
    | ok d dc' =>
      rw [hF] at post
      intro v G' H' gs' g' r
      refine post v G' H' gs' g' ?_
      rcases hm with rfl | rfl
      · exact r
      · exact .inl r
    | er c dc' =>
      rw [hF] at post
      exact post
    | st =>
      rw [hF] at post
      exact post
  cases args with
  | nil =>
    refine ⟨fun pins s σ H Q I ⟨ρ, G, dc, gs, rs, post⟩ => ?_⟩
    refine wpAny_Call_Name_kw (ld_glob I (x.glo f hg) hmg ?_ pl.1)
    exact PySem.W.callWith_K0 I.kIn (by rw [x.K]; exact hk) (run_fnS (us := []) (E := WE W) F1 (x.room.mono hj) (by rw [x.K]; exact hb) (passAt x.tk σ) I .nil (key gs .nil post))
  | cons e es =>
    refine PE.imp (pe_callS F1 (x.room.mono hj) (x.glo f hg) hmg (by rw [x.K]; exact hk) (by rw [x.K]; exact hb) (fun σ => passAt x.tk σ) (pa_list h x false .va (.inl rfl) (fun _ => rfl) (e :: es)) pl.1 (star_cons hs) (backTo_any (noStar_cons hs).2)) fun σ H Q ⟨ρ, G, dc, gs, rs, post⟩ => ?_
    exact ⟨ρ, G, dc, gs, rs, Post.seq post fun ds dc1 vs G1 H1 _ gs1 g1 r1 post => key gs1 r1 post⟩
/-! ### methods -/
theorem meth_ht {o : Expr} {mm : Str} {apos pos : Pos} {args : List Expr} (h : mcOk o apos pos args = true) : eval (.Call (.Attribute o mm apos) args [] pos) X.env = (do
      let ov ← eval o X.env
      standAt apos.atName
      let (f, first) ← holding [ov] (getMethod ov mm (do return (← importBound o X.env).getD true))
      callWith pos f first (backTo pos (starEach args X.env)) (backToKw pos (keywordEach [] X.env))) := by
  unfold mcOk at h
  simp only [Bool.and_eq_true, decide_eq_true_eq] at h
  obtain ⟨⟨⟨h1, h2⟩, h3⟩, h4⟩ := h
  rw [arm_eval_Call, base_of (notSup_ne h4)]
  have few : methodCallForm (args.length + ([] : List Keyword).length) (backTo pos (starEach args X.env)) (backToKw pos (keywordEach [] X.env)) = true := by
    unfold methodCallForm
    rw [backTo_all h1]
    show (true && true && decide (args.length + 0 + 0 < 30)) = true
    simp [h2]
  unfold methodCall
  rw [few]
  have hp : methodCallPos true o X.env apos pos = pure pos := by
    unfold methodCallPos
    rw [h3]
    rfl
  rw [hp]
  rfl
theorem rcv_obj {ρ : En} {o : Expr} {c : Str} {fs : List (Str × D)} {dc dc' : Dc} (h : rcvB C o ρ = true) : dE n true C o ρ dc ≠ .ok (.obj c fs) dc' := by
  intro z
  unfold rcvB at h
  split at h
  · rename_i y q
    rw [Bool.and_eq_true] at h
    obtain ⟨h1, h2⟩ := h
    cases n with
    | zero => cases z
    | succ n =>
      have e : dE (n + 1) true C (.Name y q) ρ = rdB (ixOf C.N y) ρ := by
        show (if locK C.sc y = true then rdB (ixOf C.N y) ρ else _) = _
        rw [if_pos h1]
      replace z : rdB (ixOf C.N y) ρ dc = .ok (.obj c fs) dc' := by rw [← e]; exact z
      split at h2
      · rename_i q1
        simp only [rdB, q1] at z
        cases z
      · rename_i q1
        simp only [rdB, q1] at z
        cases z
      · cases h2
  · cases h
theorem e_methO (h : IH n) (x : XOk p C k W X) {o : Expr} {mm c : Str} {F : Fn} {args : List Expr} {apos pos : Pos} (hok : mcOk o apos pos args = true) (hF : C.Γ.me.lookup (c, mm) = some F) (hm : m = .va ∨ m = .bo)
    {pins : List (Addr × Obj)} {s : Shared} {σ : St} {H : Hp} {Q : VK} {ρ : En} {G : Hp} {dc dc1 : Dc} {fs : List (Str × D)} (I : Inv X pins σ H s) (gs : GS p dc G H) (rs : RS p ρ σ G H) (ho : dE n false C o ρ dc = .ok (.obj c fs) dc1) (hn : fs.lookup mm = none)
    (post : Post p W (RV p m) σ G H ((seqM (args.map fun e => dE n false C e ρ) >>= fun ds => F (.obj c fs :: ds)) dc1) Q) : wpAny (model X.prog X.w) X.A (eval (.Call (.Attribute o mm apos) args [] pos) X.env) (EP X pins σ Q) X.xe s := by
  obtain ⟨a0, fd, ps, j, hj, hcl, hme, hb, F0⟩ := x.gm.me c mm F hF
  have F1 : FnOk X.prog X.w X.K X.mg X.base (L2.CX X.prog X.w) j a0 fd ps (spF p.toQk F) := by rw [x.K]; exact F0
  have hs : noStar args = true := by
    unfold mcOk at hok
    simp only [Bool.and_eq_true] at hok
    exact hok.1.1.1
  have key : ∀ {σ : St} {H0 : Hp} {Q : VK} {G : Hp} {dc : Dc} {ds : List D} {vs : List V}, GS p dc G H0 → DVs p.K p.da G ds vs → Post p W (RV p m) σ G H0 (F ds dc) Q → spF p.toQk F vs H0 Q (WE W σ) := fun {σ H0 Q G dc ds vs} gs dv post => by
    refine ⟨ds, G, dc, dv, gs, ?_⟩
    cases hF : F ds dc with
    | ok d dc' =>
      rw [hF] at post
      intro v G' H' gs' g' r
      refine post v G' H' gs' g' ?_
      rcases hm with rfl | rfl
      · exact r
      · exact .inl r
    | er c dc' =>
      rw [hF] at post
      exact post
    | st =>
      rw [hF] at post
      exact post
  refine PySem.W.methodCall_KW (pl := (do return (← importBound o X.env).getD true)) (thn ((h.E x false .va o rfl).run pins s σ H (fun v H1 => ∃ G1, GS p dc1 G1 H1 ∧ Grow p.da G H G1 H1 ∧ DV p.K p.da G1 (.obj c fs) v) I ⟨ρ, G, dc, gs, rs, by
    show Post p W (RV p .va) σ G H (dE n false C o ρ dc) _
    rw [ho]
    exact fun v G' H' gs' g' r => ⟨G', gs', g', r⟩⟩) fun u s1 ⟨xv, H1, I1, rx, G1, gs1, g1, dv⟩ => ?_) (meth_ht hok)
  obtain ⟨a, dx, ws, rfl, ga, gd, df⟩ := id dv
  obtain rfl : u = Value.ref a := rx
  have rs1 := rs.grow gs g1
  have hcl' : Cls X.K (He.ga p.K c) := by rw [x.K]; exact hcl
  have hme' : Meth X.K (He.ga p.K c) mm a0 := by rw [x.K]; exact hme
  refine getmeth_ok I1 (gs1.sub _ _ ga) hcl' hme' (df.lookup_none hn) ?_
  have post1 := Post.grow post g1
  cases args with
  | nil =>
    exact PySem.W.callWith_K0 (first := [.ref a]) I1.kIn hme'.kp (run_fnS (us := [.ref a]) (vs := [.ref a]) (E := WE W) F1 (x.room.mono hj) (by rw [x.K]; exact hb) (passAt x.tk σ) I1 (.cons rfl .nil) (key gs1 (.one dv) post1))
  | cons e es =>
    refine PySem.W.callWith_K (first := [.ref a]) (h₀ := X.base) I1.ok.mod.kin hme'.kp (thn ((pa_list h x false .va (.inl rfl) (fun _ => rfl) (e :: es)).run pos pins s1 σ H1 _ I1 ⟨ρ, G1, dc1, gs1, rs1, Post.seq (Q' := fun vs H2 => spF p.toQk F (.ref a :: vs) H2 Q (WE W σ)) post1 fun ds dc2 vs G2 H2 _ gs2 g2 r2 post => ?_⟩) fun us s2 ⟨vs, H2, I2, r, q2⟩ => ⟨I2.kIn, ?_⟩) (star_cons hs) (backTo_any (noStar_cons hs).2)
    · exact key (ds := .obj c fs :: ds) gs2 ⟨_, _, rfl, DV.mono g2.sub _ _ dv, r2.va⟩ post
    · exact run_fnS (us := .ref a :: us) (vs := .ref a :: vs) (E := WE W) F1 (x.room.mono hj) (by rw [x.K]; exact hb) (passAt x.tk σ) I2 (.cons rfl r) q2
/-! ### a new object -/
/-- a thing of its own becomes a frozen one -/
theorem fin_obj {dc : Dc} {Gb Hb G H : Hp} {a dx : Addr} {c : Str} {fs : List (Str × D)} {ws : List (Str × V)} {Q : V → Hp → Prop} (s : GS p dc G H) (g : Grow p.da Gb Hb G H) (hb : Hb a = none) (hbd : Hb dx = none) (ga : G a = none) (gd : G dx = none) (ha : H a = some (.ins (He.ga p.K c) dx ws)) (hd : H dx = some (.own a)) (ne : dx ≠ a)
    (dv : DVf p.K p.da G fs ws) (hm : m = .va ∨ m = .bo) (fin : ∀ v G' H', GS p dc G' H' → Grow p.da Gb Hb G' H' → RV p m G' H' (.obj c fs) v → Q v H') : Q (.ref a) H := by
  have nd : ∀ x o, H x = some o → (∀ xs, o ≠ .lst xs) → p.da ≠ some x := fun x o e nl z => by
    have := (s.dice x z).1
    rw [e] at this
    exact nl _ (Option.some.inj this)
  have nda := nd a _ ha (fun xs z => by cases z)
  have ndd := nd dx _ hd (fun xs z => by cases z)
  let G' : Hp := upd (upd G dx (.own a)) a (.ins (He.ga p.K c) dx ws)
  have ga' : G' a = some (.ins (He.ga p.K c) dx ws) := upd_same
  have gd' : G' dx = some (.own a) := by
    show upd (upd G dx (.own a)) a _ dx = _
    rw [upd_ne ne, upd_same]
  have gn : ∀ x, x ≠ a → x ≠ dx → G' x = G x := fun x h1 h2 => by
    show upd (upd G dx (.own a)) a _ x = _
    rw [upd_ne h1, upd_ne h2]
  have sub : Sub G G' := fun b u e => by
    rw [gn b (fun z => by subst z; rw [ga] at e; cases e) (fun z => by subst z; rw [gd] at e; cases e)]
    exact e
  have s' : GS p dc G' H := by
    refine ⟨fun b u e => ?_, fun b e => ⟨(s.dice b e).1, ?_⟩, s.tabs, fun q hq => ?_⟩
    · by_cases q : b = a
      · subst q; rw [ga'] at e; cases e; exact ha
      · by_cases q2 : b = dx
        · subst q2; rw [gd'] at e; cases e; exact hd
        · rw [gn b q q2] at e; exact s.sub b u e
    · rw [gn b (fun z => by subst z; exact nda e) (fun z => by subst z; exact ndd e)]
      exact (s.dice b e).2
    · obtain ⟨ps, e, _⟩ := s.tabs q hq
      rw [gn q.1 (fun z => by rw [z, ha] at e; cases e) (fun z => by rw [z, hd] at e; cases e)]
      exact s.tabf q hq
  have g' : Grow p.da Gb Hb G' H := by
    refine ⟨g.sub.trans sub, fun b u h1 h2 h3 h4 => ?_, g.ext⟩
    rw [gn b (fun z => by subst z; rw [hb] at h2; cases h2) (fun z => by subst z; rw [hbd] at h2; cases h2)]
    exact g.nw b u h1 h2 h3 h4
  have dv' : DV p.K p.da G' (.obj c fs) (.ref a) := ⟨a, dx, ws, rfl, ga', gd', DVf.mono sub _ _ dv⟩
  refine fin _ G' H s' g' ?_
  rcases hm with rfl | rfl
  · exact dv'
  · exact .inl dv'
theorem run_makeS {Cl f : Addr} {j : Nat} {fd : FuncData} {ps : List Str} {sp : Sp} {E : XK} {pins : List (Addr × Obj)} {σ : St} {H : Hp} {s : Shared} {Q : VK} {us : List Value} {vs : List V} (M : Mk X.K Cl f) (F : FnOk X.prog X.w X.K X.mg X.base (L2.CX X.prog X.w) j f fd ps sp) (hr : Room (j + 1) X.A) (hb : Binds X.K fd ps [])
    (hx : PassesAt (L2.CX X.prog X.w) X σ E) (I : Inv X pins σ H s) (r : Vals vs us)
    (h : ∀ x dx, H x = none → H dx = none → dx ≠ x → sp (.ref x :: vs) (upd (upd H dx (.own x)) x (.ins Cl dx [])) (fun v H2 => v = .non ∧ Q (.ref x) H2) E) :
    wpAny (model X.prog X.w) X.A (call (.ref Cl) us) (EP X pins σ Q) X.xe s := by
  have hq := h (s.heap.objs.size + 1) s.heap.objs.size (I.hok.fresh (Nat.le_succ _)) (I.hok.fresh (Nat.le_refl _)) (Nat.ne_of_lt (Nat.lt_succ_self _))
  have I2 := Inv.made (C := Cl) I
  have r2 : Vals (V.ref (s.heap.objs.size + 1) :: vs) (Value.ref (s.heap.objs.size + 1) :: us) := .cons rfl r
  have hl : (Value.ref (s.heap.objs.size + 1) :: us ++ []).length = ps.length := by
    have e := r2.length
    rw [F.len _ _ _ _ hq] at e
    rw [List.append_nil]
    exact e.symm
  have bb := hb _ (Value.ref (s.heap.objs.size + 1) :: us) I2.kIn hl
  rw [List.append_nil] at bb
  refine wpAny_call (make_map (f := f) I.kIn M.makes M.init (beq_iff_eq.mp M.fn) (codeAny_mono (F.run _ X.stack _ _ ⟨Value.ref (s.heap.objs.size + 1) :: us, []⟩ (Value.ref (s.heap.objs.size + 1) :: us) _ _ E (hr.make Cl us [])
    (I2.env0.make Cl us []) bb r2 hq) fun r s' hq' => ?_))
  cases r with
  | error e => exact hx pins _ _ e s' I2 hq'
  | ok fl =>
    cases fl with
    | ret u =>
      obtain ⟨v, H', I3, rv, ev, q3⟩ := I2.after hq'
      subst ev
      exact ⟨rv, ⟨V.ref (s.heap.objs.size + 1), H', I3, rfl, q3⟩⟩
    | next => exact False.elim hq'
    | brk => exact False.elim hq'
    | cont => exact False.elim hq'
theorem e_make (h : IH n) (x : XOk p C k W X) {c : Str} {F : Fn} {args : List Expr} {p1 pos : Pos} (hg : gloK C.sc c = true) (hF : C.Γ.mks.lookup c = some F) (hs : noStar args = true) (hm : m = .va ∨ m = .bo) :
    PE X (.Call (.Name c p1) args [] pos) (tE p W m fun ρ => (seqM (args.map fun e => dE n false C e ρ) >>= fun ds => F ds)) := by
  have pl := plain_d (glo_plain hg)
  obtain ⟨a, fd, ps, j, hj, hmg, hk, hb, hob, F0⟩ := x.gm.mak c F hF
  have F1 : FnOk X.prog X.w X.K X.mg X.base (L2.CX X.prog X.w) j a fd ps (spI p.toQk c F) := by rw [x.K]; exact F0
  have hk' : Mk X.K (He.ga p.K c) a := by rw [x.K]; exact hk
  have key : ∀ {σ : St} {H0 : Hp} {Q : VK} {G : Hp} {dc : Dc} {ds : List D} {vs : List V}, GS p dc G H0 → DVb p .va G H0 ds vs → Post p W (RV p m) σ G H0 (F ds dc) Q → ∀ y dx, H0 y = none → H0 dx = none → dx ≠ y → spI p.toQk c F (.ref y :: vs) (upd (upd H0 dx (.own y)) y (.ins (He.ga p.K c) dx [])) (fun v H2 => v = .non ∧ Q (.ref y) H2) (WE W σ) := fun {σ H0 Q G dc ds vs} gs dv post y dx hy hd ne => by
    refine ⟨y, dx, vs, ds, H0, G, dc, rfl, dv.va, gs, hy, hd, ne, rfl, ?_⟩
    cases hF : F ds dc with
    | ok d dc' =>
      rw [hF] at post
      obtain ⟨fs, rfl⟩ := hob _ _ _ _ hF
      exact ⟨fs, rfl, fun ws G' H' gs' g' h1 h2 h3 h4 dv' => ⟨rfl, fin_obj gs' g' hy hd h3 h4 h1 h2 ne dv' hm post⟩⟩
    | er e dc' =>
      rw [hF] at post
      exact post
    | st =>
      rw [hF] at post
      exact post
  cases args with
  | nil =>
    refine ⟨fun pins s σ H Q I ⟨ρ, G, dc, gs, rs, post⟩ => ?_⟩
    refine wpAny_Call_Name_kw (ld_glob I (x.glo c hg) hmg ?_ pl.1)
    exact PySem.W.callWith_K0 I.kIn (by rw [x.K]; exact hk.kp) (run_makeS (us := []) hk' F1 (x.room.mono hj) (by rw [x.K]; exact hb) (passAt x.tk σ) I .nil (key gs .nil post))
  | cons e es =>
    refine ⟨fun pins s σ H Q I ⟨ρ, G, dc, gs, rs, post⟩ => ?_⟩
    refine wpAny_Call_Name_kw (ld_glob I (x.glo c hg) hmg ?_ pl.1)
    refine PySem.W.callWith_K (h₀ := X.base) I.ok.mod.kin (by rw [x.K]; exact hk.kp) (thn ((pa_list h x false .va (.inl rfl) (fun _ => rfl) (e :: es)).run pos pins s σ H _ I ⟨ρ, G, dc, gs, rs, Post.seq post fun ds dc1 vs G1 H1 _ gs1 g1 r1 post => key gs1 r1 post⟩) fun us s1 ⟨vs, H1, I1, r, q⟩ => ⟨I1.kIn, ?_⟩) (star_cons hs) (backTo_any (noStar_cons hs).2)
    exact run_makeS hk' F1 (x.room.mono hj) (by rw [x.K]; exact hb) (passAt x.tk σ) I1 r q
end
end Px
set_option maxRecDepth 100000
set_option maxHeartbeats 4000000
/-! PS9: what is walked; targets; list comprehensions. -/
namespace Px
open PySem PySem.Spec PyProof.Rows L2
theorem bind_ok {α β : Type} {m : M α} {f : α → M β} {dc dc' : Dc} {a : α} (h : m dc = .ok a dc') : (m >>= f) dc = f a dc' := by
  show M.bind m f dc = _
  unfold M.bind
  rw [h]
theorem bind_er {α β : Type} {m : M α} {f : α → M β} {dc dc' : Dc} {c : Str} (h : m dc = .er c dc') : (m >>= f) dc = .er c dc' := by
  show M.bind m f dc = _
  unfold M.bind
  rw [h]
theorem bind_stt {α β : Type} {m : M α} {f : α → M β} {dc : Dc} (h : m dc = .st) : (m >>= f) dc = .st := by
  show M.bind m f dc = _
  unfold M.bind
  rw [h]
/-- how the state may have changed while a thing is walked -/
def Cond (p : Pk) (b : Bool) (G H G' H' : Hp) : Prop := if b then Grow p.da G H G' H' else Sub G G'
theorem Cond.of {p : Pk} {b : Bool} {G H G' H' : Hp} (g : Grow p.da G H G' H') : Cond p b G H G' H' := by
  unfold Cond
  cases b with
  | true => exact g
  | false => exact g.sub
theorem Cond.sub {p : Pk} {b : Bool} {G H G' H' : Hp} (g : Cond p b G H G' H') : Sub G G' := by
  unfold Cond at g
  cases b with
  | true => exact (show Grow p.da G H G' H' from g).sub
  | false => exact g
/-- an iterator gives the things ds -/
def IOk (p : Pk) (b : Bool) (G H : Hp) (ds : List D) (J : It) : Prop := ∃ Gd Y, Walk J ds.length Gd Y ∧ (∀ G' H' dc, GS p dc G' H' → Cond p b G H G' H' → Gd H') ∧
  ∀ (i : Nat) G' H' dc x H'' d, i < ds.length → GS p dc G' H' → Cond p b G H G' H' → Y i H' x H'' → ds[i]? = some d → ∃ G'', GS p dc G'' H'' ∧ Grow p.da G' H' G'' H'' ∧ DV p.K p.da G'' d x
/-- a thing that is walked -/
def RX (p : Pk) (b : Bool) (G H : Hp) (d : D) (v : V) : Prop := DV p.K p.da G d v ∨ (b = true ∧ ∃ a xs, d = .lst xs ∧ v = .ref a ∧ OWn p G H a (.lst xs))
theorem Post.rel {α β : Type} {p : Pk} {W : WX} {r1 r2 : Hp → Hp → α → β → Prop} {σ : St} {G H : Hp} {out : Out α} {Q : β → Hp → Prop} (h : Post p W r2 σ G H out Q) (i : ∀ G H d v, r1 G H d v → r2 G H d v) : Post p W r1 σ G H out Q := by
  cases out with
  | ok d dc => exact fun v G' H' s g r => h v G' H' s g (i _ _ _ _ r)
  | er c dc => exact h
  | st => exact h
theorem noE_post {α β : Type} {p : Pk} {W W' : WX} {r : Hp → Hp → α → β → Prop} {σ : St} {G H : Hp} {m : M α} {dc : Dc} {Q : β → Hp → Prop} (h : Post p W r σ G H (noE m dc) Q) : Post p W' r σ G H (m dc) Q := by
  unfold noE at h
  cases e : m dc with
  | ok d dc =>
    rw [e] at h
    exact h
  | er c dc =>
    rw [e] at h
    exact (show False from h).elim
  | st =>
    rw [e] at h
    exact (show False from h).elim
structure IH2 (n : Nat) : Prop where
  ih : IH n
  I : ∀ {p : Pk} {C : Cn} {k : Nat} {W : WX} {X : Cx}, XOk p C k W X → ∀ (b : Bool) (tg e : Expr), itOk tg e = true → PI X tg e (tM p W (IOk p b) fun ρ => dI n b C e ρ)
section
variable {p : Pk} {C : Cn} {k : Nat} {W : WX} {X : Cx} {n : Nat} {b : Bool} {m : Md} {G H : Hp} {dc : Dc}
theorem rcvL_own {e : Expr} {ρ : En} {d : D} {dc dc' : Dc} (h : rcvL b C e ρ = true) (ho : dE n true C e ρ dc = .ok d dc') : b = true ∧ ∃ xs, d = .lst xs := by
  unfold rcvL at h
  rw [Bool.and_eq_true] at h
  obtain ⟨hb, h⟩ := h
  refine ⟨hb, ?_⟩
  split at h
  · rename_i y q
    rw [Bool.and_eq_true] at h
    obtain ⟨h1, h2⟩ := h
    cases n with
    | zero => cases ho
    | succ n =>
      have e : dE (n + 1) true C (.Name y q) ρ = rdB (ixOf C.N y) ρ := by
        show (if locK C.sc y = true then rdB (ixOf C.N y) ρ else _) = _
        rw [if_pos h1]
      replace ho : rdB (ixOf C.N y) ρ dc = .ok d dc' := by rw [← e]; exact ho
      split at h2
      · rename_i xs q1
        simp only [rdB, q1] at ho
        cases ho
        exact ⟨_, rfl⟩
      · cases h2
  · cases h
theorem pe_X (h : IH n) (x : XOk p C k W X) (b : Bool) (e : Expr) : PE X e (tM p W (RX p b) fun ρ => dE n (rcvL b C e ρ) C e ρ) := by
  refine ⟨fun pins s σ H Q I ⟨ρ, G, dc, gs, rs, post⟩ => ?_⟩
  replace post : Post p W (RX p b) σ G H (dE n (rcvL b C e ρ) C e ρ dc) Q := post
  cases hb : rcvL b C e ρ with
  | false =>
    rw [hb] at post
    exact (h.E x false .va e rfl).run pins s σ H Q I ⟨ρ, G, dc, gs, rs, post.rel fun _ _ _ _ r => .inl r⟩
  | true =>
    rw [hb] at post
    refine (h.E x true .bo e rfl).run pins s σ H Q I ⟨ρ, G, dc, gs, rs, ?_⟩
    show Post p W (RV p .bo) σ G H (dE n true C e ρ dc) Q
    cases ho : dE n true C e ρ dc with
    | ok d dc' =>
      rw [ho] at post
      obtain ⟨h1, xs, rfl⟩ := rcvL_own hb ho
      intro v G' H' s g r
      refine post v G' H' s g ?_
      rcases r with r | ⟨a, rfl, r⟩
      · exact .inl r
      · exact .inr ⟨h1, a, xs, rfl, rfl, r⟩
    | er c dc' =>
      rw [ho] at post
      exact post
    | st =>
      rw [ho] at post
      exact post
theorem grow_at {G H G' H' : Hp} {a : Addr} {d : D} (w : OWn p G H a d) (g : Grow p.da G H G' H') : H' a = H a := by
  obtain ⟨o, e, ow⟩ := w.ow.no_tbl
  rw [e]
  exact g.ext.1 a o e w.nd (ownO_tbl ow)
/-- a list that is walked -/
theorem RX.lst (gs : GS p dc G H) {xs : List D} {v : V} (h : RX p b G H (.lst xs) v) : ∃ a vs, v = .ref a ∧ DVs p.K p.da G xs vs ∧ H a = some (.lst vs) ∧ ∀ G' H' dc, GS p dc G' H' → Cond p b G H G' H' → H' a = some (.lst vs) := by
  rcases h with ⟨a, vs, e, h1, h2⟩ | ⟨hb, a, ys, e, ev, w⟩
  · exact ⟨a, vs, e, h2, gs.sub _ _ h1, fun G' H' dc s c => s.sub _ _ (c.sub _ _ h1)⟩
  · cases e
    obtain ⟨vs, h1, h2⟩ := w.ow
    subst hb
    exact ⟨a, vs, ev, h2, h1, fun G' H' dc s c => (grow_at w c).trans h1⟩
theorem RX.tup {xs : List D} {v : V} (gs : GS p dc G H) (h : RX p b G H (.tup xs) v) : ∃ a vs, v = .ref a ∧ DVs p.K p.da G xs vs ∧ G a = some (.tup vs) := by
  rcases h with ⟨a, vs, e, h1, h2⟩ | ⟨hb, a, ys, e, ev, w⟩
  · exact ⟨a, vs, e, h2, h1⟩
  · cases e
theorem Walk.len {J : It} {n n' : Nat} {Gd : Hp → Prop} {Y : Nat → Hp → V → Hp → Prop} (w : Walk J n Gd Y) (e : n' = n) : Walk J n' Gd Y := by
  subst e
  exact w
/-- a tracked tuple may count as frozen -/
theorem GS.tupG (s : GS p dc G H) {a : Addr} {vs : List V} (h : H a = some (.tup vs)) : ∃ G', G' a = some (.tup vs) ∧ GS p dc G' H ∧ Grow p.da G H G' H := by
  have nd : p.da ≠ some a := fun z => by
    have := (s.dice a z).1
    rw [h] at this
    cases this
  refine ⟨upd G a (.tup vs), upd_same, ⟨fun b u e => ?_, fun b e => ⟨(s.dice b e).1, ?_⟩, s.tabs, fun q hq => ?_⟩, ⟨fun b u e => ?_, fun b u h1 h2 h3 h4 => ?_, .refl _ _⟩⟩
  · by_cases q : b = a
    · subst q; rw [upd_same] at e; cases e; exact h
    · rw [upd_ne q] at e; exact s.sub b u e
  · rw [upd_ne (fun z => by subst z; exact nd e)]
    exact (s.dice b e).2
  · obtain ⟨ps, e, _⟩ := s.tabs q hq
    rw [upd_ne (fun z => by rw [z, h] at e; cases e)]
    exact s.tabf q hq
  · by_cases q : b = a
    · subst q
      have := s.sub _ _ e
      rw [h] at this
      cases this
      exact upd_same
    · rw [upd_ne q]; exact e
  · rw [upd_ne (fun z => by subst z; rw [h] at h2; cases h2; cases h3)]
    exact h1
theorem keyF_DV {d : D} {k : Key} (h : keyF d = some k) : DV p.K p.da G d (kV k) := by
  cases d <;> cases h <;> rfl
theorem keyFs_DVs : ∀ {ds : List D} {ks : List Key}, keyFs ds = some ks → DVs p.K p.da G ds (ks.map kV)
  | [], _, h => by
    cases h
    exact rfl
  | d :: ds, _, h => by
    unfold keyFs at h
    split at h
    · rename_i k ks h1 h2
      cases h
      exact ⟨_, _, rfl, keyF_DV h1, keyFs_DVs h2⟩
    · cases h
theorem DVg.at {κ : Type} {key : D → Option κ} : ∀ {kvs : List (D × D)} {ws : List (κ × V)} {i : Nat} {k : κ} {v : V}, DVg (K := p.K) (da := p.da) (G := G) key kvs ws → ws[i]? = some (k, v) → ∃ a d, kvs[i]? = some (a, d) ∧ key a = some k ∧ DV p.K p.da G d v
  | [], _, _, _, _, h, e => by
    cases h
    simp at e
  | (a, d) :: kvs, _, 0, k, v, ⟨k', v', r, e, h1, h2, h3⟩, q => by
    cases e
    simp at q
    obtain ⟨rfl, rfl⟩ := q
    exact ⟨a, d, rfl, h1, h2⟩
  | (a, d) :: kvs, _, i + 1, k, v, ⟨k', v', r, e, h1, h2, h3⟩, q => by
    cases e
    simpa using DVg.at (i := i) h3 (by simpa using q)
theorem i_val {tg e : Expr} {f : En → M D} (he : PE X e (tM p W (RX p b) f)) (hK : X.K = p.K) : PI X tg e (tM p W (IOk p b) fun ρ => f ρ >>= fun d => lift (itemsD d)) := by
  refine ⟨fun pins s σ H R I ⟨ρ, G, dc, gs, rs, post⟩ => ?_⟩
  have post : Post p W (IOk p b) σ G H ((f ρ >>= fun d => lift (itemsD d)) dc) R := post
  have start : ∀ {Q : V → Hp → Prop}, Post p W (RX p b) σ G H (f ρ dc) Q → tM p W (RX p b) f σ H Q := fun {Q} q => ⟨ρ, G, dc, gs, rs, q⟩
  cases ho : f ρ dc with
  | st =>
    rw [bind_stt ho] at post
    exact (show False from post).elim
  | er c dc' =>
    rw [bind_er ho] at post
    refine (pi_list he).run pins s σ H R I (start ?_)
    rw [ho]
    exact post
  | ok d dc' =>
    rw [bind_ok ho] at post
    obtain ⟨items, ei, fin⟩ := Post.lift post
    cases d with
    | lst xs =>
      cases ei
      refine (pi_list he).run pins s σ H R I (start ?_)
      rw [ho]
      intro v G' H' s' g' r
      obtain ⟨a, vs, rfl, dv, ha, hs⟩ := RX.lst s' r
      refine ⟨a, rfl, ⟨vs, .inl (.inl ha)⟩, fin (Itl X.K a) G' H' s' g' ⟨_, _, Walk.len (walk_list (xs := vs)) dv.length.symm, fun G2 H2 dc2 s2 c2 => .inl (.inl (hs G2 H2 dc2 s2 c2)), fun i G2 H2 dc2 y H3 d' hi s2 c2 hy hd => ?_⟩⟩
      obtain ⟨rfl, hy⟩ := hy
      obtain ⟨u, hu, du⟩ := (DVs.mono c2.sub _ _ dv).get hd
      rw [hy] at hu
      cases hu
      exact ⟨G2, s2, .refl _ _ _, du⟩
    | tup xs =>
      cases ei
      refine (pi_tup he).run pins s σ H R I (start ?_)
      rw [ho]
      intro v G' H' s' g' r
      obtain ⟨a, vs, rfl, dv, ha⟩ := RX.tup s' r
      refine ⟨a, rfl, ⟨vs, .inl (.inl (s'.sub _ _ ha))⟩, fin (Itt X.K a) G' H' s' g' ⟨_, _, Walk.len (walk_tup (xs := vs)) dv.length.symm, fun G2 H2 dc2 s2 c2 => .inl (.inl (s2.sub _ _ (c2.sub _ _ ha))), fun i G2 H2 dc2 y H3 d' hi s2 c2 hy hd => ?_⟩⟩
      obtain ⟨rfl, hy⟩ := hy
      obtain ⟨u, hu, du⟩ := (DVs.mono c2.sub _ _ dv).get hd
      rw [hy] at hu
      cases hu
      exact ⟨G2, s2, .refl _ _ _, du⟩
    | ktup xs =>
      cases ei
      refine (pi_tup he).run pins s σ H R I (start ?_)
      rw [ho]
      intro v G' H' s' g' r
      rcases r with ⟨a, vs, rfl, ha, dv⟩ | ⟨_, _, _, z, _⟩
      · refine ⟨a, rfl, ⟨vs, hK ▸ ha H'⟩, fin (Itt X.K a) G' H' s' g' ⟨_, _, Walk.len (walk_tup (xs := vs)) dv.length.symm, fun G2 H2 dc2 s2 c2 => hK ▸ ha H2, fun i G2 H2 dc2 y H3 d' hi s2 c2 hy hd => ?_⟩⟩
        obtain ⟨rfl, hy⟩ := hy
        obtain ⟨u, hu, du⟩ := (DVs.mono c2.sub _ _ dv).get hd
        rw [hy] at hu
        cases hu
        exact ⟨G2, s2, .refl _ _ _, du⟩
      · cases z
    | str z =>
      cases ei
      refine (pi_str he).run pins s σ H R I (start ?_)
      rw [ho]
      intro v G' H' s' g' r
      rcases r with r | ⟨_, _, _, z, _⟩
      · cases r
        refine ⟨z, rfl, fin (Its z) G' H' s' g' ⟨_, _, Walk.len (walk_str (z := z)) (by unfold signsD; simp), fun G2 H2 dc2 s2 c2 => trivial, fun i G2 H2 dc2 y H3 d' hi s2 c2 hy hd => ?_⟩⟩
        obtain ⟨rfl, c, hc, rfl⟩ := hy
        refine ⟨G2, s2, .refl _ _ _, ?_⟩
        unfold signsD at hd
        rw [List.getElem?_map] at hd
        obtain ⟨c', e1, rfl⟩ := Option.map_eq_some_iff.mp hd
        rw [show z.cps.toList[i]? = some c by simpa using hc] at e1
        cases e1
        rfl
      · cases z
    | dic kvs =>
      cases ei
      refine (pi_keys he).run pins s σ H R I (start ?_)
      rw [ho]
      intro v G' H' s' g' r
      rcases r with ⟨a, od, rfl, r⟩ | ⟨_, _, _, z, _⟩
      · rcases r with ⟨ws, ha, dv⟩ | ⟨ws, ha, dv⟩
        · refine ⟨a, od, rfl, .inl ⟨ws, s'.sub _ _ ha, fin (Itk a od ws) G' H' s' g' ⟨_, _, Walk.len (walk_keys (kvs := ws)) (by rw [List.length_map, dv.g.length]), fun G2 H2 dc2 s2 c2 => s2.sub _ _ (c2.sub _ _ ha), fun i G2 H2 dc2 y H3 d' hi s2 c2 hy hd => ?_⟩⟩⟩
          obtain ⟨rfl, k, v, hk, rfl⟩ := hy
          obtain ⟨a', d'', e1, e2, _⟩ := dv.g.at hk
          rw [List.getElem?_map, e1] at hd
          cases hd
          exact ⟨G2, s2, .refl _ _ _, keyF_DV e2⟩
        · refine ⟨a, od, rfl, .inr ⟨ws, s'.sub _ _ ha, fin (Itkt a od ws) G' H' s' g' ⟨_, _, Walk.len (walk_keysT (kvs := ws)) (by rw [List.length_map, dv.g.length]), fun G2 H2 dc2 s2 c2 => s2.sub _ _ (c2.sub _ _ ha), fun i G2 H2 dc2 y H3 d' hi s2 c2 hy hd => ?_⟩⟩⟩
          obtain ⟨rfl, k, v, q, hk, rfl, hq⟩ := hy
          obtain ⟨a', d'', e1, e2, _⟩ := dv.g.at hk
          rw [List.getElem?_map, e1] at hd
          cases hd
          obtain ⟨ds, rfl, e3⟩ := keyT_tup e2
          obtain ⟨G3, g1, g2, g3⟩ := s2.tupG hq
          exact ⟨G3, g2, g3, q, _, rfl, g1, keyFs_DVs e3⟩
      · cases z
    | _ => cases ei
end
end Px
set_option maxRecDepth 100000
set_option maxHeartbeats 4000000
/-! PS10: items, values of dicts with tuple keys; all that is walked. -/
namespace Px
open PySem PySem.Spec PyProof.Rows L2 RZ
def ItiT (d : Addr) (o : Obj) (kvs : List (List Key × V)) : It :=
  ⟨fun i H => H d = some (.frz o (.dT kvs)) ∧ i < kvs.length, fun i H x H' => ∃ (T q : Addr) (k : List Key) (v : V), kvs[i]? = some (k, v) ∧ x = .ref T ∧ H T = none ∧ H q = some (.tup (k.map kV)) ∧ H' = upd H T (.tup [.ref q, v]), fun i H => H d = some (.frz o (.dT kvs)) ∧ kvs.length ≤ i⟩
def ItdT (d : Addr) (o : Obj) (kvs : List (List Key × V)) : It :=
  ⟨fun i H => H d = some (.frz o (.dT kvs)) ∧ i < kvs.length, fun i H x H' => H' = H ∧ ∃ k, kvs[i]? = some (k, x), fun i H => H d = some (.frz o (.dT kvs)) ∧ kvs.length ≤ i⟩
section
variable {X : Cx} {pins : List (Addr × Obj)} {σ : St} {H : Hp} {s : Shared} {d : Addr} {o : Obj}
theorem frzT2 {kvs : List (List Key × V)} (I : Inv X pins σ H s) (h : H d = some (.frz o (.dT kvs))) :
    (d == sysModules) = false ∧ s.heap.get? d = some o ∧ o.ExactDict ∧ ∃ (es : Array DictEntry) (ep : Nat), o.data = .dict es ep ∧ es.size = kvs.length ∧
      ∀ (i : Nat) (k : List Key) (v : V), kvs[i]? = some (k, v) → ∃ (en : DictEntry) (q : Addr), es[i]? = some en ∧ en.key = .ref q ∧ H q = some (.tup (k.map kV)) ∧ RelV v en.val := by
  obtain ⟨hd, z, hs, xs, pr, o', es, ep, ho, hx, hdt, he, _⟩ := I.hok d _ h
  rw [hd] at ho
  cases ho
  refine ⟨hs, hd, hx, es, ep, hdt, ?_, fun i k v e => ?_⟩
  · have l1 : es.size = xs.length := size_of_entries he
    have l2 : kvs.length = xs.length := Paired.length pr
    omega
  · obtain ⟨b, hb, e1, e2, e3⟩ := paired_get pr e
    have q := entry_at he i
    rw [hb] at q
    obtain ⟨k', a', v'⟩ := b
    simp only at e1 e2 e3
    subst e1
    exact ⟨_, a', q, rfl, e2, e3⟩
end
section
variable {P : Program} {w : World} {K : PySem.W.Frag} {tg : Expr} {d : Addr} {o : Obj} {es : Array DictEntry} {ep : Nat}
theorem turn_itemsT {kvs : List (List Key × V)} {elts : List Expr} {kk : Nat} {tpos : Pos} (it : Addr) (hod : o.data = .dict es ep) :
    Turn P w K (.Tuple elts kk tpos) (ItiT d o kvs) [it] it (fun i h => ∃ ok ov, IsItemIter h it d i kvs.length ep ok ov) where
  mem := by simp
  obj := fun i h st b hb => by
    have e : b = it := by simpa using hb
    subst e
    obtain ⟨ok, ov, e⟩ := st
    exact ⟨_, e, fun v z => nomatch z⟩
  keep := fun i h h' st k => let ⟨ok, ov, e⟩ := st; ⟨ok, ov, k it (by simp) _ e⟩
  item := by
    intro X hP hw hK hc i pins s σ H E I hf st hg
    subst hP hw hK
    obtain ⟨hd, hi⟩ := hg
    obtain ⟨hs, hgd, hx, es', ep', hdt, hsz, ent⟩ := frzT2 I hd
    obtain ⟨rfl, rfl⟩ := dict_ep hod hdt
    obtain ⟨⟨k, v⟩, hkv⟩ : ∃ p, kvs[i]? = some p := ⟨kvs[i], List.getElem?_eq_getElem hi⟩
    obtain ⟨en, q, hen, hkey, hq, hval⟩ := ent i k v hkv
    obtain ⟨hil, rfl⟩ := Array.getElem?_eq_some_iff.mp hen
    obtain ⟨ok, ov, he⟩ := st
    rw [← hsz] at he
    have hlt : it < s.heap.objs.size := Heap.lt_size he
    refine wpAny_pyNext_items_item_raw he ⟨o, hgd, hx, hdt⟩ hil fun h' ho hT hz hk => ?_
    refine ⟨_, rfl, wpAny_letOwnedTupleGo_items (s := { s with heap := h' }) ho fun h'' he' sb => ?_⟩
    have hT2 := (sb.2 _ (Nat.ne_of_gt hlt)).trans hT
    rw [hkey] at hT2
    have new : ObjOk X.prog X.w (upd H s.heap.objs.size (.tup [.ref q, v])) h'' s.heap.objs.size (.tup [.ref q, v]) :=
      ⟨by show 2 ≤ sizeLine; decide, [.ref q, _], .cons rfl (.cons hval .nil), ⟨_, hT2, rfl, _, rfl⟩⟩
    have I1 : Inv X pins σ (upd H s.heap.objs.size (.tup [.ref q, v])) { s with heap := h'' } :=
      I.turnedNew (t' := s.toks) (ch := [it]) (fun b ob hb e => (sb.2 b (by simpa using hb)).trans (hk b ob (by simpa using hb) e)) hf (Nat.le_refl _) new
    refine ⟨.ref s.heap.objs.size, _, I1, rfl, ⟨_, q, k, v, hkv, rfl, I.hok.fresh (Nat.le_refl _), hq, rfl⟩, ⟨es'[i].key, es'[i].val, ?_⟩, fun b hb => ?_⟩
    · rw [← hsz]; exact he'
    · have e : b = it := by simpa using hb
      rw [e, upd_ne (Nat.ne_of_lt hlt)]
      exact (hf it (by simp)).1
  done := by
    intro X hP hw hK hc i pins s σ H E I hf st hg
    subst hP hw hK
    obtain ⟨hd, hi⟩ := hg
    obtain ⟨f0, f1, f2, f3, f4, f5⟩ := hf it (by simp)
    obtain ⟨hs, hgd, hx, es', ep', hdt, hsz, ent⟩ := frzT2 I hd
    obtain ⟨rfl, rfl⟩ := dict_ep hod hdt
    obtain ⟨ok, ov, he⟩ := st
    rw [← hsz] at he
    exact wpAny_pyNext_items_end_raw (I.ok.hd hc) he ⟨o, hgd, hx, hdt⟩ (by omega) fun h' eb => ⟨rfl, I.turned (t' := s.toks) (fun b ob hb e => eb b ob hb e) f0 f1 f3 f4 f5⟩
  self := fun A i s Q E st h => let ⟨_, _, e⟩ := st; PySem.W.kcp_self e h
theorem turn_valsT {kvs : List (List Key × V)} (it : Addr) (hod : o.data = .dict es ep) : Turn P w K tg (ItdT d o kvs) [it] it (fun i h => h.IsValIter it d i kvs.length ep) where
  mem := by simp
  obj := fun i h st b hb => by
    have e : b = it := by simpa using hb
    subst e
    obtain ⟨oi, e, c, dd⟩ := st
    exact ⟨oi, e, fun v z => by rw [dd] at z; cases z⟩
  keep := fun i h h' st k => st.at fun oi e => k it (by simp) oi e
  item := by
    intro X hP hw hK hc i pins s σ H E I hf st hg
    subst hP hw hK
    obtain ⟨hd, hi⟩ := hg
    obtain ⟨f0, f1, f2, f3, f4, f5⟩ := hf it (by simp)
    obtain ⟨hs, hgd, hx, es', ep', hdt, hsz, ent⟩ := frzT2 I hd
    obtain ⟨rfl, rfl⟩ := dict_ep hod hdt
    obtain ⟨⟨k, v⟩, hkv⟩ : ∃ p, kvs[i]? = some p := ⟨kvs[i], List.getElem?_eq_getElem hi⟩
    obtain ⟨en, q, hen, hkey, hq, hval⟩ := ent i k v hkv
    obtain ⟨hil, rfl⟩ := Array.getElem?_eq_some_iff.mp hen
    rw [← hsz] at st
    refine wpAny_pyNext_values_item_raw st ⟨o, hgd, hx, hdt⟩ hil fun h' st' sb => ?_
    have I1 : Inv X pins σ H { s with heap := h' } := I.turned (t' := s.toks) (fun b ob hb e => (sb.2 b hb).trans e) f0 f1 f3 f4 f5
    obtain ⟨oi, e, c, dd⟩ := id st'
    refine ⟨es'[i].val, rfl, go_of (s := { s with heap := h' }) e c dd (by decide) ⟨v, H, I1, hval, ⟨rfl, k, hkv⟩, ?_, fun b hb => (hf b hb).1⟩⟩
    show h'.IsValIter it d (i + 1) kvs.length _
    rw [← hsz]
    exact st'
  done := by
    intro X hP hw hK hc i pins s σ H E I hf st hg
    subst hP hw hK
    obtain ⟨hd, hi⟩ := hg
    obtain ⟨f0, f1, f2, f3, f4, f5⟩ := hf it (by simp)
    obtain ⟨hs, hgd, hx, es', ep', hdt, hsz, ent⟩ := frzT2 I hd
    obtain ⟨rfl, rfl⟩ := dict_ep hod hdt
    rw [← hsz] at st
    exact wpAny_pyNext_values_end_raw (I.ok.hd hc) st ⟨o, hgd, hx, hdt⟩ (by omega) fun h' eb => ⟨rfl, I.turned (t' := s.toks) (fun b ob hb e => eb b ob hb e) f0 f1 f3 f4 f5⟩
  self := fun A i s Q E st h => wpAny_pyIter_valiter st h
end
def iItemsA (td : TE) : TI := fun σ H R => td σ H fun x H1 => ∃ d o, x = .ref d ∧ ((∃ kvs, H1 d = some (.frz o (.dK kvs)) ∧ R (Iti d o kvs) H1) ∨ ∃ kvs, H1 d = some (.frz o (.dT kvs)) ∧ R (ItiT d o kvs) H1)
def iValsA (td : TE) : TI := fun σ H R => td σ H fun x H1 => ∃ d o, x = .ref d ∧ ((∃ kvs, H1 d = some (.frz o (.dK kvs)) ∧ R (Itd d o kvs) H1) ∨ ∃ kvs, H1 d = some (.frz o (.dT kvs)) ∧ R (ItdT d o kvs) H1)
section
variable {X : Cx} {tg e : Expr} {td : TE} {apos cpos : Pos}
theorem pi_itemsA {elts : List Expr} {kk : Nat} {tpos : Pos} (he : PE X e td) (hbase : attributeBase e "items" X.env (eval e X.env) = eval e X.env) (hline : (apos.endLine == cpos.line) = true) :
    PI X (.Tuple elts kk tpos) (.Call (.Attribute e "items" apos) [] [] cpos) (iItemsA td) := by
  refine ⟨fun pins s σ H R I h => ?_⟩
  refine wpAny_Call_method (T := "dict") (id := "dict.items") hbase rfl hline F.plainAttrs_dict F.slot_dict_items F.type_dict_items (thn (he.run pins s σ H _ I h) fun u s1 ⟨x, H1, I1, rx, d, o, ex, q⟩ => ?_)
  subst ex
  obtain rfl : u = Value.ref d := rx
  rcases q with ⟨kvs, hd, q⟩ | ⟨kvs, hd, q⟩
  · obtain ⟨hs, hgd, hx, es, ep, vs, hdt, hsz, kv, hm⟩ := I1.frzK hd
    have hl : kvs.length = vs.length := Paired.length kv
    refine ⟨hm.dictOf.typeIs, hm.dictOf.mapOf.noDict, ?_⟩
    have I2 : Inv X pins σ H1 { s1 with heap := s1.heap.push { cls := .type "dict_items", data := .fields #[.ref d] } } := I1.kept (t' := s1.toks) fun b ob q => Heap.get?_push_of_some _ q
    have fin : wpAny (model X.prog X.w) X.A (pyIter (.ref s1.heap.objs.size)) (PIE X pins σ (.Tuple elts kk tpos) R) X.xe { s1 with heap := s1.heap.push { cls := .type "dict_items", data := .fields #[.ref d] } } := by
      refine wpAny_pyIter_items (d := d) (knd := mixKind X.prog X.w) ⟨_, Heap.get?_push_size _ rfl, rfl, rfl⟩ (hm.push _) (pi_one (tk := s1.toks) I2 _ (turn_items _ hdt) ⟨.none, .none, ?_⟩ q)
      rw [hl]
      exact Heap.get?_push_size _ rfl
    show wpAny _ _ (callWith cpos (.builtin "dict.items") [.ref d] [] []) _ X.xe s1
    exact method_meetsIn F.slot_dict_items F.entry_dict_items rfl (PySem.evalArgs_none ⟨rfl, hm.dictOf.typeIs, F.args_dict_items_1 _, _, meets_dict_items (mixKind X.prog X.w) d hs, ⟨vs, hm.dictOf⟩, fin⟩)
  · obtain ⟨hs, hgd, hx, es, ep, hdt, hsz, ent⟩ := frzT2 I1 hd
    have raw : s1.heap.DictRaw d es ep := ⟨o, hgd, hx, hdt⟩
    refine ⟨raw.typeIs, fun a ea => by cases ea; exact ⟨o, hgd, hx.2.1⟩, ?_⟩
    have I2 : Inv X pins σ H1 { s1 with heap := s1.heap.push { cls := .type "dict_items", data := .fields #[.ref d] } } := I1.kept (t' := s1.toks) fun b ob q => Heap.get?_push_of_some _ q
    have raw2 : (s1.heap.push { cls := .type "dict_items", data := .fields #[.ref d] }).DictRaw d es ep := raw.at fun ob q => Heap.get?_push_of_some _ q
    have fin : wpAny (model X.prog X.w) X.A (pyIter (.ref s1.heap.objs.size)) (PIE X pins σ (.Tuple elts kk tpos) R) X.xe { s1 with heap := s1.heap.push { cls := .type "dict_items", data := .fields #[.ref d] } } := by
      refine wpAny_pyIter_items_raw (d := d) ⟨_, Heap.get?_push_size _ rfl, rfl, rfl⟩ raw2 (pi_one (tk := s1.toks) I2 _ (turn_itemsT _ hdt) ⟨.none, .none, ?_⟩ q)
      rw [← hsz]
      exact Heap.get?_push_size _ rfl
    show wpAny _ _ (callWith cpos (.builtin "dict.items") [.ref d] [] []) _ X.xe s1
    exact method_meetsIn F.slot_dict_items F.entry_dict_items rfl (PySem.evalArgs_none ⟨rfl, raw.typeIs, F.args_dict_items_1 _, _, meets_dict_items_raw d hs, ⟨es, ep, raw⟩, fin⟩)
theorem pi_valuesA (he : PE X e td) (hbase : attributeBase e "values" X.env (eval e X.env) = eval e X.env) (hline : (apos.endLine == cpos.line) = true) : PI X tg (.Call (.Attribute e "values" apos) [] [] cpos) (iValsA td) := by
  refine ⟨fun pins s σ H R I h => ?_⟩
  refine wpAny_Call_method (T := "dict") (id := "dict.values") hbase rfl hline F.plainAttrs_dict F.slot_dict_values F.type_dict_values (thn (he.run pins s σ H _ I h) fun u s1 ⟨x, H1, I1, rx, d, o, ex, q⟩ => ?_)
  subst ex
  obtain rfl : u = Value.ref d := rx
  rcases q with ⟨kvs, hd, q⟩ | ⟨kvs, hd, q⟩
  · obtain ⟨hs, hgd, hx, es, ep, vs, hdt, hsz, kv, hm⟩ := I1.frzK hd
    have hl : kvs.length = vs.length := Paired.length kv
    refine ⟨hm.dictOf.typeIs, hm.dictOf.mapOf.noDict, ?_⟩
    have I2 : Inv X pins σ H1 { s1 with heap := s1.heap.push { cls := .type "dict_values", data := .fields #[.ref d] } } := I1.kept (t' := s1.toks) fun b ob q => Heap.get?_push_of_some _ q
    have fin : wpAny (model X.prog X.w) X.A (pyIter (.ref s1.heap.objs.size)) (PIE X pins σ tg R) X.xe { s1 with heap := s1.heap.push { cls := .type "dict_values", data := .fields #[.ref d] } } := by
      refine wpAny_pyIter_values (d := d) (knd := mixKind X.prog X.w) ⟨_, Heap.get?_push_size _ rfl, rfl, rfl⟩ (hm.push _) (pi_one (tk := s1.toks) I2 _ (turn_vals _ hdt) ⟨_, Heap.get?_push_size _ rfl, rfl, ?_⟩ q)
      rw [hl] <;> rfl
    show wpAny _ _ (callWith cpos (.builtin "dict.values") [.ref d] [] []) _ X.xe s1
    exact method_meetsIn F.slot_dict_values F.entry_dict_values rfl (PySem.evalArgs_none ⟨rfl, hm.dictOf.typeIs, F.args_dict_values_1 _, _, meets_dict_values (mixKind X.prog X.w) d hs, ⟨vs, hm.dictOf⟩, fin⟩)
  · obtain ⟨hs, hgd, hx, es, ep, hdt, hsz, ent⟩ := frzT2 I1 hd
    have raw : s1.heap.DictRaw d es ep := ⟨o, hgd, hx, hdt⟩
    refine ⟨raw.typeIs, fun a ea => by cases ea; exact ⟨o, hgd, hx.2.1⟩, ?_⟩
    have I2 : Inv X pins σ H1 { s1 with heap := s1.heap.push { cls := .type "dict_values", data := .fields #[.ref d] } } := I1.kept (t' := s1.toks) fun b ob q => Heap.get?_push_of_some _ q
    have raw2 : (s1.heap.push { cls := .type "dict_values", data := .fields #[.ref d] }).DictRaw d es ep := raw.at fun ob q => Heap.get?_push_of_some _ q
    have fin : wpAny (model X.prog X.w) X.A (pyIter (.ref s1.heap.objs.size)) (PIE X pins σ tg R) X.xe { s1 with heap := s1.heap.push { cls := .type "dict_values", data := .fields #[.ref d] } } := by
      refine wpAny_pyIter_values_raw (d := d) ⟨_, Heap.get?_push_size _ rfl, rfl, rfl⟩ raw2 (pi_one (tk := s1.toks) I2 _ (turn_valsT _ hdt) ⟨_, Heap.get?_push_size _ rfl, rfl, ?_⟩ q)
      rw [← hsz] <;> rfl
    show wpAny _ _ (callWith cpos (.builtin "dict.values") [.ref d] [] []) _ X.xe s1
    exact method_meetsIn F.slot_dict_values F.entry_dict_values rfl (PySem.evalArgs_none ⟨rfl, raw.typeIs, F.args_dict_values_1 _, _, meets_dict_values_raw d hs, ⟨es, ep, raw⟩, fin⟩)
end
section
variable {p : Pk} {C : Cn} {k : Nat} {W : WX} {X : Cx} {n : Nat} {b : Bool} {m : Md} {G H : Hp} {dc : Dc}
theorem mcOk_parts {o : Expr} {apos pos : Pos} {args : List Expr} (h : mcOk o apos pos args = true) : noStar args = true ∧ (apos.endLine == pos.line) = true ∧ notSup o = true := by
  unfold mcOk at h
  simp only [Bool.and_eq_true] at h
  exact ⟨h.1.1.1, h.1.2, h.2⟩
/-- a dict that is walked is frozen -/
theorem RX.dic {kvs : List (D × D)} {v : V} (h : RX p b G H (.dic kvs) v) : ∃ a od, v = .ref a ∧ ((∃ ws, G a = some (.frz od (.dK ws)) ∧ DVk p.K p.da G kvs ws) ∨ ∃ ws, G a = some (.frz od (.dT ws)) ∧ DVt p.K p.da G kvs ws) := by
  rcases h with h | ⟨_, _, _, z, _⟩
  · exact h
  · cases z
theorem walk_itemsT {d : Addr} {o : Obj} {kvs : List (List Key × V)} : Walk (ItiT d o kvs) kvs.length (fun H => H d = some (.frz o (.dT kvs))) (fun i H x H' => ∃ (T q : Addr) (k : List Key) (v : V), kvs[i]? = some (k, v) ∧ x = .ref T ∧ H T = none ∧ H q = some (.tup (k.map kV)) ∧ H' = upd H T (.tup [.ref q, v])) :=
  ⟨fun _ _ hi q => ⟨q, hi⟩, fun _ q => ⟨q, Nat.le_refl _⟩, fun _ _ _ _ _ _ y => y⟩
theorem walk_valsT {d : Addr} {o : Obj} {kvs : List (List Key × V)} : Walk (ItdT d o kvs) kvs.length (fun H => H d = some (.frz o (.dT kvs))) (fun i H x H' => H' = H ∧ ∃ k, kvs[i]? = some (k, x)) :=
  ⟨fun _ _ hi q => ⟨q, hi⟩, fun _ q => ⟨q, Nat.le_refl _⟩, fun _ _ _ _ _ _ y => y⟩
theorem DV.pair {d e : D} {v u : V} {T : Addr} (s : GS p dc G H) (h : DV p.K p.da G d v) (h' : DV p.K p.da G e u) (hT : H T = none) : ∃ G'', GS p dc G'' (upd H T (.tup [v, u])) ∧ Grow p.da G H G'' (upd H T (.tup [v, u])) ∧ DV p.K p.da G'' (.tup [d, e]) (.ref T) := by
  refine ⟨_, s.newG hT, Grow.newG s hT, T, _, rfl, upd_same, _, _, rfl, DV.mono (Grow.newG s hT).sub _ _ h, _, _, rfl, DV.mono (Grow.newG s hT).sub _ _ h', rfl⟩
theorem i_items (h : IH n) (x : XOk p C k W X) {elts : List Expr} {kk : Nat} {tpos : Pos} {o : Expr} {apos pos : Pos} (hok : mcOk o apos pos [] = true) :
    PI X (.Tuple elts kk tpos) (.Call (.Attribute o "items" apos) [] [] pos) (tM p W (IOk p b) fun ρ => dE n (rcvL b C o ρ) C o ρ >>= fun d => (match d with
        | .dic kvs => pure (kvs.map fun p => .tup [p.1, p.2])
        | _ => M.st)) := by
  obtain ⟨_, hl, hns⟩ := mcOk_parts hok
  refine ⟨fun pins s σ H R I ⟨ρ, G, dc, gs, rs, post⟩ => (pi_itemsA (pe_X h x b o) (base_of (notSup_ne hns)) hl).run pins s σ H R I ⟨ρ, G, dc, gs, rs, Post.seq post fun d dc1 v G1 H1 _ gs1 g1 r1 post => ?_⟩⟩
  cases d with
  | dic kvs =>
    obtain ⟨a, od, rfl, r⟩ := r1.dic
    refine ⟨a, od, rfl, ?_⟩
    rcases r with ⟨ws, ha, dv⟩ | ⟨ws, ha, dv⟩
    · refine .inl ⟨ws, gs1.sub _ _ ha, post _ G1 H1 gs1 (.refl _ _ _) ⟨_, _, Walk.len (walk_items (kvs := ws)) (by rw [List.length_map, dv.g.length]), fun G2 H2 dc2 s2 c2 => s2.sub _ _ (c2.sub _ _ ha), fun i G2 H2 dc2 y H3 d' hi s2 c2 hy hd => ?_⟩⟩
      obtain ⟨T, y1, y2, rfl, hT, rfl, e1, e2⟩ := hy
      replace e1 : (ws[i]?).map (fun kv => kV kv.1) = some y1 := e1
      replace e2 : (ws[i]?).map Prod.snd = some y2 := e2
      cases hw : ws[i]? with
      | none =>
        rw [hw] at e1
        cases e1
      | some kv =>
        obtain ⟨k, v⟩ := kv
        rw [hw] at e1 e2
        cases e1
        cases e2
        obtain ⟨a', d'', e1, e2, e3⟩ := dv.g.at hw
        rw [List.getElem?_map, e1] at hd
        cases hd
        exact DV.pair s2 (keyF_DV e2) (DV.mono c2.sub _ _ e3) hT
    · refine .inr ⟨ws, gs1.sub _ _ ha, post _ G1 H1 gs1 (.refl _ _ _) ⟨_, _, Walk.len (walk_itemsT (kvs := ws)) (by rw [List.length_map, dv.g.length]), fun G2 H2 dc2 s2 c2 => s2.sub _ _ (c2.sub _ _ ha), fun i G2 H2 dc2 y H3 d' hi s2 c2 hy hd => ?_⟩⟩
      obtain ⟨T, q, k, v, hw, rfl, hT, hq, rfl⟩ := hy
      obtain ⟨a', d'', e1, e2, e3⟩ := dv.g.at hw
      rw [List.getElem?_map, e1] at hd
      cases hd
      obtain ⟨ds, rfl, e4⟩ := keyT_tup e2
      obtain ⟨G3, g1', g2', g3'⟩ := s2.tupG hq
      obtain ⟨G4, s4, g4, d4⟩ := DV.pair (T := T) g2' (d := .tup ds) ⟨q, _, rfl, g1', keyFs_DVs e4⟩ (DV.mono (c2.sub.trans g3'.sub) _ _ e3) hT
      exact ⟨G4, s4, g3'.trans g4, d4⟩
  | _ => exact (show False from post).elim
theorem i_values (h : IH n) (x : XOk p C k W X) {tg o : Expr} {apos pos : Pos} (hok : mcOk o apos pos [] = true) :
    PI X tg (.Call (.Attribute o "values" apos) [] [] pos) (tM p W (IOk p b) fun ρ => dE n (rcvL b C o ρ) C o ρ >>= fun d => (match d with
        | .dic kvs => pure (kvs.map (·.2))
        | _ => M.st)) := by
  obtain ⟨_, hl, hns⟩ := mcOk_parts hok
  refine ⟨fun pins s σ H R I ⟨ρ, G, dc, gs, rs, post⟩ => (pi_valuesA (pe_X h x b o) (base_of (notSup_ne hns)) hl).run pins s σ H R I ⟨ρ, G, dc, gs, rs, Post.seq post fun d dc1 v G1 H1 _ gs1 g1 r1 post => ?_⟩⟩
  cases d with
  | dic kvs =>
    obtain ⟨a, od, rfl, r⟩ := r1.dic
    refine ⟨a, od, rfl, ?_⟩
    rcases r with ⟨ws, ha, dv⟩ | ⟨ws, ha, dv⟩
    · refine .inl ⟨ws, gs1.sub _ _ ha, post _ G1 H1 gs1 (.refl _ _ _) ⟨_, _, Walk.len (walk_values (kvs := ws)) (by rw [List.length_map, dv.g.length]), fun G2 H2 dc2 s2 c2 => s2.sub _ _ (c2.sub _ _ ha), fun i G2 H2 dc2 y H3 d' hi s2 c2 hy hd => ?_⟩⟩
      obtain ⟨rfl, k, hw⟩ := hy
      obtain ⟨a', d'', e1, e2, e3⟩ := dv.g.at hw
      rw [List.getElem?_map, e1] at hd
      cases hd
      exact ⟨G2, s2, .refl _ _ _, DV.mono c2.sub _ _ e3⟩
    · refine .inr ⟨ws, gs1.sub _ _ ha, post _ G1 H1 gs1 (.refl _ _ _) ⟨_, _, Walk.len (walk_valsT (kvs := ws)) (by rw [List.length_map, dv.g.length]), fun G2 H2 dc2 s2 c2 => s2.sub _ _ (c2.sub _ _ ha), fun i G2 H2 dc2 y H3 d' hi s2 c2 hy hd => ?_⟩⟩
      obtain ⟨rfl, k, hw⟩ := hy
      obtain ⟨a', d'', e1, e2, e3⟩ := dv.g.at hw
      rw [List.getElem?_map, e1] at hd
      cases hd
      exact ⟨G2, s2, .refl _ _ _, DV.mono c2.sub _ _ e3⟩
  | _ => exact (show False from post).elim
/-! ### range, zip, enumerate -/
theorem rangeD_walk {lo : Int} {hi : Nat} {G H : Hp} : IOk p b G H (rangeD lo (lo + hi)) (Itr lo hi) := by
  have e : (lo + (hi : Int) - lo).toNat = hi := by omega
  refine ⟨_, _, Walk.len walk_range (by unfold rangeD; rw [e]; simp), fun _ _ _ _ _ => trivial, fun i G2 H2 dc2 y H3 d' hi' s2 c2 hy hd => ?_⟩
  obtain ⟨rfl, rfl⟩ := hy
  unfold rangeD at hd
  rw [e, List.getElem?_map] at hd
  obtain ⟨j, hj, rfl⟩ := Option.map_eq_some_iff.mp hd
  have : j = i := by
    have := List.getElem?_eq_some_iff.mp hj
    obtain ⟨h1, h2⟩ := this
    simpa using h2.symm
  subst this
  exact ⟨G2, s2, .refl _ _ _, rfl⟩
theorem i_range1 (h : IH n) (x : XOk p C k W X) {tg a : Expr} {p1 pos : Pos} (hg : gloK C.sc "range" = true) (hs : noStar [a] = true) :
    PI X tg (.Call (.Name "range" p1) [a] [] pos) (tM p W (IOk p b) fun ρ => dE n true C a ρ >>= fun d => (match d with
          | .int j => if -(2 ^ 62) ≤ j ∧ j < 2 ^ 62 then pure (rangeD 0 j) else M.st
          | _ => M.st)) := by
  refine ⟨fun pins s σ H R I ⟨ρ, G, dc, gs, rs, post⟩ => (pi_range1 (x.glo _ hg) (x.gm.bl "range" (by decide)).1 (pa_cons (h.E x true .bo a rfl) pa_nil (star_cons hs)) (star_cons hs)).run pins s σ H R I ⟨ρ, G, dc, gs, rs, Post.seq post fun d dc1 v G1 H1 _ gs1 g1 r1 post => ?_⟩⟩
  cases d with
  | int j =>
    cases r1.int
    have post : Post p W (IOk p b) σ G1 H1 ((if -(2 ^ 62) ≤ j ∧ j < 2 ^ 62 then pure (rangeD 0 j) else M.st : M (List D)) dc1) R := post
    split at post
    · rename_i hj
      refine ⟨j, rfl, hj.1, hj.2, post _ G1 H1 gs1 (.refl _ _ _) ?_⟩
      have := rangeD_walk (p := p) (b := b) (lo := 0) (hi := j.toNat) (G := G1) (H := H1)
      have e : rangeD 0 j = rangeD 0 (0 + (j.toNat : Int)) := by
        unfold rangeD
        have : (j - 0).toNat = (0 + (j.toNat : Int) - 0).toNat := by omega
        rw [this]
      rw [e]
      exact this
    · exact (show False from post).elim
  | _ => exact (show False from post).elim
theorem i_range2 (h : IH n) (x : XOk p C k W X) {tg a c : Expr} {p1 pos : Pos} (hg : gloK C.sc "range" = true) (hs : noStar [a, c] = true) :
    PI X tg (.Call (.Name "range" p1) [a, c] [] pos) (tM p W (IOk p b) fun ρ => dE n true C a ρ >>= fun d => dE n true C c ρ >>= fun e => (match d, e with
          | .int i, .int j => if -(2 ^ 62) ≤ i ∧ i < 2 ^ 62 ∧ -(2 ^ 62) ≤ j ∧ j < 2 ^ 62 then pure (rangeD i j) else M.st
          | _, _ => M.st)) := by
  have hs2 := (noStar_cons hs).2
  refine ⟨fun pins s σ H R I ⟨ρ, G, dc, gs, rs, post⟩ => (pi_range2 (x.glo _ hg) (x.gm.bl "range" (by decide)).1 (pa_cons (h.E x true .bo a rfl) (pa_cons (h.E x true .bo c rfl) pa_nil (star_cons hs2)) (star_cons hs)) ((star_cons hs).trans (by rw [star_cons hs2]; rfl)) (star_cons hs2)).run pins s σ H R I ⟨ρ, G, dc, gs, rs, Post.seq post fun d dc1 v G1 H1 _ gs1 g1 r1 post => ?_⟩⟩
  refine ⟨ρ, G1, dc1, gs1, rs.grow gs g1, Post.seq post fun e dc2 u G2 H2 _ gs2 g2 r2 post => ?_⟩
  cases d with
  | int i =>
    cases e with
    | int j =>
      cases r1.int; cases r2.int
      have post : Post p W (IOk p b) σ G2 H2 ((if -(2 ^ 62) ≤ i ∧ i < 2 ^ 62 ∧ -(2 ^ 62) ≤ j ∧ j < 2 ^ 62 then pure (rangeD i j) else M.st : M (List D)) dc2) R := post
      split at post
      · rename_i hj
        refine ⟨i, j, rfl, hj, post _ G2 H2 gs2 (.refl _ _ _) ?_⟩
        have := rangeD_walk (p := p) (b := b) (lo := i) (hi := (j - i).toNat) (G := G2) (H := H2)
        have e : rangeD i j = rangeD i (i + ((j - i).toNat : Int)) := by
          unfold rangeD
          have : (j - i).toNat = (i + ((j - i).toNat : Int) - i).toNat := by omega
          rw [← this]
        rw [e]
        exact this
      · exact (show False from post).elim
    | _ => exact (show False from post).elim
  | _ => exact (show False from post).elim
theorem i_enum (h : IH n) (x : XOk p C k W X) {elts : List Expr} {kk : Nat} {tpos : Pos} {a : Expr} {p1 pos : Pos} (hg : gloK C.sc "enumerate" = true) (hs : noStar [a] = true) :
    PI X (.Tuple elts kk tpos) (.Call (.Name "enumerate" p1) [a] [] pos) (tM p W (IOk p b) fun ρ => dE n (rcvL b C a ρ) C a ρ >>= fun d => (match d with
          | .lst xs => pure (enumD xs)
          | _ => M.st)) := by
  refine ⟨fun pins s σ H R I ⟨ρ, G, dc, gs, rs, post⟩ => (pi_enum (x.glo _ hg) (x.gm.bl "enumerate" (by decide)).1 (pa_cons (pe_X h x b a) pa_nil (star_cons hs)) (star_cons hs)).run pins s σ H R I ⟨ρ, G, dc, gs, rs, Post.seq post fun d dc1 v G1 H1 _ gs1 g1 r1 post => ?_⟩⟩
  cases d with
  | lst xs =>
    obtain ⟨a, vs, rfl, dv, ha, hst⟩ := RX.lst gs1 r1
    refine ⟨a, vs, rfl, .inl (.inl ha), post _ G1 H1 gs1 (.refl _ _ _) ⟨_, _, Walk.len (walk_enum (xs := vs)) (by unfold enumD; simp [dv.length]), fun G2 H2 dc2 s2 c2 => .inl (.inl (hst G2 H2 dc2 s2 c2)), fun i G2 H2 dc2 y H3 d' hi s2 c2 hy hd => ?_⟩⟩
    obtain ⟨T, y1, y2, rfl, hT, rfl, e1, e2⟩ := hy
    cases e1
    replace e2 : vs[i]? = some y2 := e2
    unfold enumD at hd
    rw [List.getElem?_map] at hd
    obtain ⟨z, hz, rfl⟩ := Option.map_eq_some_iff.mp hd
    rw [List.getElem?_zipIdx] at hz
    obtain ⟨w, hw, rfl⟩ := Option.map_eq_some_iff.mp hz
    obtain ⟨u, hu, du⟩ := (DVs.mono c2.sub _ _ dv).get hw
    rw [e2] at hu
    cases hu
    exact DV.pair s2 (d := .int ((0 + i : Nat) : Int)) (by show V.int _ = V.int _; simp) du hT
  | _ => exact (show False from post).elim
theorem zip_at {α β : Type} {xs : List α} {ys : List β} {i : Nat} {z : α × β} (h : (xs.zip ys)[i]? = some z) : xs[i]? = some z.1 ∧ ys[i]? = some z.2 := by
  rw [List.getElem?_zip_eq_some] at h
  exact h
theorem walk_zipT {K : PySem.W.Frag} {a b : Addr} {xs ys : List V} {n : Nat} (hn : n = min xs.length ys.length) : Walk (ItzT K a b) n (fun H => SqT K H a xs ∧ SqT K H b ys) (YPair (fun i => xs[i]?) (fun i => ys[i]?)) := by
  subst hn
  refine ⟨fun i _ hi q => ?_, fun _ q => ⟨xs, ys, q.1, q.2, by omega⟩, fun i H v H' _ q y => ?_⟩
  · have h1 : i < xs.length := by omega
    have h2 : i < ys.length := by omega
    exact ⟨xs, ys, xs[i], ys[i], q.1, q.2, by simp [h1], by simp [h2]⟩
  · obtain ⟨T, x, z, h1, h2, h3, h4, h5⟩ := y
    exact ⟨T, x, z, h1, h2, h3, h4 xs q.1, h5 ys q.2⟩
theorem RX.grow {d : D} {v : V} {G' H' : Hp} (gs : GS p dc G H) (g : Grow p.da G H G' H') (h : RX p b G H d v) : RX p b G' H' d v := by
  rcases h with h | ⟨hb, a, xs, e1, e2, w⟩
  · exact .inl (DV.mono g.sub _ _ h)
  · exact .inr ⟨hb, a, xs, e1, e2, w.grow g gs.hd⟩
theorem i_zip (h : IH n) (x : XOk p C k W X) {elts : List Expr} {kk : Nat} {tpos : Pos} {a c : Expr} {p1 pos : Pos} (hg : gloK C.sc "zip" = true) (hs : noStar [a, c] = true) :
    PI X (.Tuple elts kk tpos) (.Call (.Name "zip" p1) [a, c] [] pos) (tM p W (IOk p b) fun ρ => dE n (rcvL b C a ρ) C a ρ >>= fun d => dE n (rcvL b C c ρ) C c ρ >>= fun e => (match d, e with
          | .lst xs, .lst ys => pure (zip2D xs ys)
          | .tup xs, .tup ys => pure (zip2D xs ys)
          | _, _ => M.st)) := by
  have hs2 := (noStar_cons hs).2
  refine ⟨fun pins s σ H R I ⟨ρ, G, dc, gs, rs, post⟩ => (pi_zipA (x.glo _ hg) (x.gm.bl "zip" (by decide)).1 (pa_cons (pe_X h x b a) (pa_cons (pe_X h x b c) pa_nil (star_cons hs2)) (star_cons hs)) (star_cons hs) (backTo_any hs2)).run pins s σ H R I ⟨ρ, G, dc, gs, rs, Post.seq post fun d dc1 v G1 H1 _ gs1 g1 r1 post => ?_⟩⟩
  refine ⟨ρ, G1, dc1, gs1, rs.grow gs g1, Post.seq post fun e dc2 u G2 H2 _ gs2 g2 r2 post => ?_⟩
  have r1 := r1.grow gs1 g2
  cases d with
  | lst xs =>
    cases e with
    | lst ys =>
      obtain ⟨a1, vs, rfl, dv, ha, hst⟩ := RX.lst gs2 r1
      obtain ⟨a2, us, rfl, du, hb, hsu⟩ := RX.lst gs2 r2
      refine ⟨a1, a2, vs, us, rfl, .inl ⟨.inl (.inl ha), .inl (.inl hb), post _ G2 H2 gs2 (.refl _ _ _) ⟨_, _, Walk.len (walk_zip (xs := vs) (ys := us) rfl) (by unfold zip2D; simp [dv.length, du.length]), fun G3 H3 dc3 s3 c3 => ⟨.inl (.inl (hst G3 H3 dc3 s3 c3)), .inl (.inl (hsu G3 H3 dc3 s3 c3))⟩, fun i G3 H3 dc3 y H4 d' hi s3 c3 hy hd => ?_⟩⟩⟩
      obtain ⟨T, y1, y2, rfl, hT, rfl, e1, e2⟩ := hy
      replace e1 : vs[i]? = some y1 := e1
      replace e2 : us[i]? = some y2 := e2
      unfold zip2D at hd
      rw [List.getElem?_map] at hd
      obtain ⟨z, hz, rfl⟩ := Option.map_eq_some_iff.mp hd
      obtain ⟨z1, z2⟩ := zip_at hz
      obtain ⟨w1, hw1, dw1⟩ := (DVs.mono c3.sub _ _ dv).get z1
      obtain ⟨w2, hw2, dw2⟩ := (DVs.mono c3.sub _ _ du).get z2
      rw [hw1] at e1; cases e1
      rw [hw2] at e2; cases e2
      exact DV.pair s3 dw1 dw2 hT
    | _ => exact (show False from post).elim
  | tup xs =>
    cases e with
    | tup ys =>
      obtain ⟨a1, vs, rfl, dv, ha⟩ := RX.tup gs2 r1
      obtain ⟨a2, us, rfl, du, hb⟩ := RX.tup gs2 r2
      refine ⟨a1, a2, vs, us, rfl, .inr ⟨.inl (.inl (gs2.sub _ _ ha)), .inl (.inl (gs2.sub _ _ hb)), post _ G2 H2 gs2 (.refl _ _ _) ⟨_, _, Walk.len (walk_zipT (xs := vs) (ys := us) rfl) (by unfold zip2D; simp [dv.length, du.length]), fun G3 H3 dc3 s3 c3 => ⟨.inl (.inl (s3.sub _ _ (c3.sub _ _ ha))), .inl (.inl (s3.sub _ _ (c3.sub _ _ hb)))⟩, fun i G3 H3 dc3 y H4 d' hi s3 c3 hy hd => ?_⟩⟩⟩
      obtain ⟨T, y1, y2, rfl, hT, rfl, e1, e2⟩ := hy
      replace e1 : vs[i]? = some y1 := e1
      replace e2 : us[i]? = some y2 := e2
      unfold zip2D at hd
      rw [List.getElem?_map] at hd
      obtain ⟨z, hz, rfl⟩ := Option.map_eq_some_iff.mp hd
      obtain ⟨z1, z2⟩ := zip_at hz
      obtain ⟨w1, hw1, dw1⟩ := (DVs.mono c3.sub _ _ dv).get z1
      obtain ⟨w2, hw2, dw2⟩ := (DVs.mono c3.sub _ _ du).get z2
      rw [hw1] at e1; cases e1
      rw [hw2] at e2; cases e2
      exact DV.pair s3 dw1 dw2 hT
    | _ => exact (show False from post).elim
  | _ => exact (show False from post).elim
end
end Px
set_option maxRecDepth 100000
set_option maxHeartbeats 4000000
/-! PS11: all that is walked; targets. -/
namespace Px
open PySem PySem.Spec PyProof.Rows L2 RZ
section
variable {p : Pk} {C : Cn} {k : Nat} {W : WX} {X : Cx} {n : Nat} {b : Bool} {m : Md} {G H : Hp} {dc : Dc}
theorem pi_no {tg e : Expr} {t : TI} (h : ∀ σ H R, ¬ t σ H R) : PI X tg e t := ⟨fun pins s σ H R I q => (h σ H R q).elim⟩
theorem pi_st {tg e : Expr} {f : En → M (List D)} (h : ∀ ρ, f ρ = M.st) : PI X tg e (tM p W (IOk p b) f) := pi_no (tM_no h)
theorem pi_eq {tg e : Expr} {f g : En → M (List D)} (h : PI X tg e (tM p W (IOk p b) g)) (eq : ∀ ρ, f ρ = g ρ) : PI X tg e (tM p W (IOk p b) f) := by
  have : f = g := funext eq
  rw [this]
  exact h
theorem i_dflt (h : IH n) (x : XOk p C k W X) {tg e : Expr} (hd : ∀ ρ, dI (n + 1) b C e ρ = (dE n (rcvL b C e ρ) C e ρ >>= fun d => lift (itemsD d))) : PI X tg e (tM p W (IOk p b) fun ρ => dI (n + 1) b C e ρ) :=
  pi_eq (i_val (pe_X h x b e) x.K) hd
theorem tgt_tup {tg it : Expr} (h : itOk tg it = true) : (∀ f p args kws q, it = .Call (.Name f p) args kws q → f = "zip" ∨ f = "enumerate" → ∃ es j q, tg = .Tuple es j q) ∧ (∀ o p args kws q, it = .Call (.Attribute o "items" p) args kws q → ∃ es j q, tg = .Tuple es j q) := by
  have key : ∀ {t : Expr}, isTupE t = true → ∃ es j q, t = .Tuple es j q := fun {t} h => by
    cases t with
    | Tuple es j q => exact ⟨es, j, q, rfl⟩
    | _ => cases h
  refine ⟨fun f p args kws q e hf => ?_, fun o p args kws q e => ?_⟩
  · subst e
    have h' : (!(f = "zip" || f = "enumerate") || isTupE tg) = true := h
    rcases hf with rfl | rfl
    · exact key (by simpa using h')
    · exact key (by simpa using h')
  · subst e
    have h' : (!(("items" : Str) = "items") || isTupE tg) = true := h
    exact key (by simpa using h')
theorem i_call (h : IH n) (x : XOk p C k W X) {tg : Expr} {f : Str} {p1 pos : Pos} {args : List Expr} (ht : itOk tg (.Call (.Name f p1) args [] pos) = true) :
    PI X tg (.Call (.Name f p1) args [] pos) (tM p W (IOk p b) fun ρ => dI (n + 1) b C (.Call (.Name f p1) args [] pos) ρ) := by
  have tt := (tgt_tup ht).1 f p1 args [] pos rfl
  by_cases h1 : (gloK C.sc f && f = "range" && (C.Γ.fn.lookup f).isNone && (C.Γ.mks.lookup f).isNone) = true
  · have hp := h1
    simp only [Bool.and_eq_true, decide_eq_true_eq] at hp
    obtain ⟨⟨⟨hg, rfl⟩, _⟩, _⟩ := hp
    match args with
    | [] =>
      refine pi_st fun ρ => ?_
      show (if _ then _ else _) = _
      rw [if_pos h1]
    | [a] =>
      by_cases hs : noStar [a] = true
      · refine pi_eq (i_range1 h x hg hs) fun ρ => ?_
        show (if _ then _ else _) = _
        rw [if_pos h1]
        show (if (!noStar [a]) = true then _ else _) = _
        rw [hs]
        rfl
      · refine pi_st fun ρ => ?_
        show (if _ then _ else _) = _
        rw [if_pos h1]
        show (if (!noStar [a]) = true then _ else _) = _
        rw [if_pos (by simpa using hs)]
    | [a, c] =>
      by_cases hs : noStar [a, c] = true
      · refine pi_eq (i_range2 h x hg hs) fun ρ => ?_
        show (if _ then _ else _) = _
        rw [if_pos h1]
        show (if (!noStar [a, c]) = true then _ else _) = _
        rw [hs]
        rfl
      · refine pi_st fun ρ => ?_
        show (if _ then _ else _) = _
        rw [if_pos h1]
        show (if (!noStar [a, c]) = true then _ else _) = _
        rw [if_pos (by simpa using hs)]
    | _ :: _ :: _ :: _ =>
      refine pi_st fun ρ => ?_
      show (if _ then _ else _) = _
      rw [if_pos h1]
  by_cases h2 : (gloK C.sc f && f = "zip" && (C.Γ.fn.lookup f).isNone && (C.Γ.mks.lookup f).isNone) = true
  · have hp := h2
    simp only [Bool.and_eq_true, decide_eq_true_eq] at hp
    obtain ⟨⟨⟨hg, rfl⟩, _⟩, _⟩ := hp
    obtain ⟨es, j, q, rfl⟩ := tt (.inl rfl)
    match args with
    | [] =>
      refine pi_st fun ρ => ?_
      show (if _ then _ else (if _ then _ else _)) = _
      rw [if_neg h1, if_pos h2]
    | [a] =>
      refine pi_st fun ρ => ?_
      show (if _ then _ else (if _ then _ else _)) = _
      rw [if_neg h1, if_pos h2]
    | [a, c] =>
      by_cases hs : noStar [a, c] = true
      · refine pi_eq (i_zip h x hg hs) fun ρ => ?_
        show (if _ then _ else (if _ then _ else _)) = _
        rw [if_neg h1, if_pos h2]
        show (if (!noStar [a, c]) = true then _ else _) = _
        rw [hs]
        rfl
      · refine pi_st fun ρ => ?_
        show (if _ then _ else (if _ then _ else _)) = _
        rw [if_neg h1, if_pos h2]
        show (if (!noStar [a, c]) = true then _ else _) = _
        rw [if_pos (by simpa using hs)]
    | _ :: _ :: _ :: _ =>
      refine pi_st fun ρ => ?_
      show (if _ then _ else (if _ then _ else _)) = _
      rw [if_neg h1, if_pos h2]
  by_cases h3 : (gloK C.sc f && f = "enumerate" && (C.Γ.fn.lookup f).isNone && (C.Γ.mks.lookup f).isNone) = true
  · have hp := h3
    simp only [Bool.and_eq_true, decide_eq_true_eq] at hp
    obtain ⟨⟨⟨hg, rfl⟩, _⟩, _⟩ := hp
    obtain ⟨es, j, q, rfl⟩ := tt (.inr rfl)
    match args with
    | [] =>
      refine pi_st fun ρ => ?_
      show (if _ then _ else (if _ then _ else (if _ then _ else _))) = _
      rw [if_neg h1, if_neg h2, if_pos h3]
    | [a] =>
      by_cases hs : noStar [a] = true
      · refine pi_eq (i_enum h x hg hs) fun ρ => ?_
        show (if _ then _ else (if _ then _ else (if _ then _ else _))) = _
        rw [if_neg h1, if_neg h2, if_pos h3]
        show (if (!noStar [a]) = true then _ else _) = _
        rw [hs]
        rfl
      · refine pi_st fun ρ => ?_
        show (if _ then _ else (if _ then _ else (if _ then _ else _))) = _
        rw [if_neg h1, if_neg h2, if_pos h3]
        show (if (!noStar [a]) = true then _ else _) = _
        rw [if_pos (by simpa using hs)]
    | _ :: _ :: _ =>
      refine pi_st fun ρ => ?_
      show (if _ then _ else (if _ then _ else (if _ then _ else _))) = _
      rw [if_neg h1, if_neg h2, if_pos h3]
  · refine i_dflt h x fun ρ => ?_
    show (if _ then _ else (if _ then _ else (if _ then _ else _))) = _
    rw [if_neg h1, if_neg h2, if_neg h3]
theorem i_meth (h : IH n) (x : XOk p C k W X) {tg o : Expr} {mm : Str} {apos pos : Pos} (ht : itOk tg (.Call (.Attribute o mm apos) [] [] pos) = true) :
    PI X tg (.Call (.Attribute o mm apos) [] [] pos) (tM p W (IOk p b) fun ρ => dI (n + 1) b C (.Call (.Attribute o mm apos) [] [] pos) ρ) := by
  by_cases h0 : mcOk o apos pos [] = true
  · by_cases h1 : mm = "items"
    · subst h1
      obtain ⟨es, j, q, rfl⟩ := (tgt_tup ht).2 o apos [] [] pos rfl
      refine pi_eq (i_items h x h0) fun ρ => ?_
      show (if (!mcOk o apos pos []) = true then _ else (if ("items" : Str) = "items" then _ else _)) = _
      rw [h0]
      rfl
    · by_cases h2 : mm = "values"
      · subst h2
        refine pi_eq (i_values h x h0) fun ρ => ?_
        show (if (!mcOk o apos pos []) = true then _ else (if _ then _ else (if ("values" : Str) = "values" then _ else _))) = _
        rw [h0, if_neg h1]
        rfl
      · refine i_dflt h x fun ρ => ?_
        show (if (!mcOk o apos pos []) = true then _ else (if _ then _ else (if _ then _ else _))) = _
        rw [h0, if_neg h1, if_neg h2]
        rfl
  · refine pi_st fun ρ => ?_
    show (if (!mcOk o apos pos []) = true then _ else _) = _
    rw [if_pos (by simpa using h0)]
theorem i_all (h : IH n) (x : XOk p C k W X) (b : Bool) (tg e : Expr) (ht : itOk tg e = true) : PI X tg e (tM p W (IOk p b) fun ρ => dI (n + 1) b C e ρ) := by
  cases e with
  | Call func args kws pos =>
    cases func with
    | Name f p1 =>
      cases kws with
      | nil => exact i_call h x ht
      | cons _ _ => exact i_dflt h x fun ρ => rfl
    | Attribute o mm apos =>
      cases args with
      | nil =>
        cases kws with
        | nil => exact i_meth h x ht
        | cons _ _ => exact i_dflt h x fun ρ => rfl
      | cons _ _ => exact i_dflt h x fun ρ => rfl
    | _ => exact i_dflt h x fun ρ => rfl
  | _ => exact i_dflt h x fun ρ => rfl
theorem ih2 (h : IH n) (h2 : ∀ {p : Pk} {C : Cn} {k : Nat} {W : WX} {X : Cx}, XOk p C k W X → ∀ (b : Bool) (tg e : Expr), itOk tg e = true → PI X tg e (tM p W (IOk p b) fun ρ => dI n b C e ρ)) : IH2 n := ⟨h, h2⟩
/-! ### targets -/
theorem set_at {α : Type} {l : List α} {i j : Nat} {a : α} (h : i < l.length) : (l.set i a)[j]? = if j = i then some a else l[j]? := by
  by_cases e : j = i
  · subst e
    rw [if_pos rfl, List.getElem?_set_self h]
  · rw [if_neg e, List.getElem?_set_ne (Ne.symm e)]
theorem RS.setVa {ρ : En} {σ : St} {i : Nat} {d : D} {v : V} (r : RS p ρ σ G H) (h : DV p.K p.da G d v) : RS p (ρ.set i (.va d)) (σ.set i (some v)) G H := by
  by_cases hi : i < ρ.length
  · have hi' : i < σ.length := by rw [← r.len]; exact hi
    refine ⟨by rw [List.length_set, List.length_set]; exact r.len, fun j e q => ?_, fun j e q => ?_, fun j e q => ?_, fun j l e f a q1 q2 q3 q4 => ?_, r.ent, r.hb⟩
    · rw [set_at hi] at q
      rw [set_at hi']
      by_cases ej : j = i
      · rw [if_pos ej] at q ⊢
        cases q
        exact ⟨v, rfl, h⟩
      · rw [if_neg ej] at q ⊢
        exact r.va j e q
    · rw [set_at hi] at q
      rw [set_at hi']
      by_cases ej : j = i
      · rw [if_pos ej] at q
        cases q
      · rw [if_neg ej] at q ⊢
        exact r.la j e q
    · rw [set_at hi] at q
      rw [set_at hi']
      by_cases ej : j = i
      · rw [if_pos ej] at q
        cases q
      · rw [if_neg ej] at q ⊢
        exact r.ow j e q
    · rw [set_at hi] at q1 q2
      rw [set_at hi'] at q3 q4
      by_cases ej : j = i
      · rw [if_pos ej] at q1
        cases q1
      · by_cases el : l = i
        · rw [if_pos el] at q2
          cases q2
        · rw [if_neg ej] at q1 q3
          rw [if_neg el] at q2 q4
          exact r.dj j l e f a q1 q2 q3 q4
  · rw [List.set_eq_of_length_le (by omega), List.set_eq_of_length_le (by rw [← r.len]; omega)]
    exact r
/-- a target's reading; vs: what it may set -/
def gT (p : Pk) (f : D → En → Option En) (vs : List Nat) : TG := fun v σ H Q => ∃ ρ G dc d ρ', GS p dc G H ∧ RS p ρ σ G H ∧ DV p.K p.da G d v ∧ f d ρ = some ρ' ∧
  ∀ σ', RS p ρ' σ' G H → (∀ i, i ∉ vs → σ'[i]? = σ[i]?) → σ'.length = σ.length → Q σ' H
def gTs (p : Pk) (f : List D → En → Option En) (vs : List Nat) : TGs := fun us σ H Q => ∃ ρ G dc ds ρ', GS p dc G H ∧ RS p ρ σ G H ∧ DVs p.K p.da G ds us ∧ f ds ρ = some ρ' ∧
  ∀ σ', RS p ρ' σ' G H → (∀ i, i ∉ vs → σ'[i]? = σ[i]?) → σ'.length = σ.length → Q σ' H
theorem PG.imp {e : Expr} {t t' : TG} (h : PG X e t) (i : ∀ v σ H Q, t' v σ H Q → t v σ H Q) : PG X e t' := ⟨fun pins s σ H v u Q I r q => h.run pins s σ H v u Q I r (i v σ H Q q)⟩
theorem PGs.imp {es : List Expr} {t t' : TGs} (h : PGs X es t) (i : ∀ v σ H Q, t' v σ H Q → t v σ H Q) : PGs X es t' := ⟨fun pins s σ H v u Q I r q => h.run pins s σ H v u Q I r (i v σ H Q q)⟩
theorem pg_no {e : Expr} {t : TG} (h : ∀ v σ H Q, ¬ t v σ H Q) : PG X e t := ⟨fun pins s σ H v u Q I r q => (h v σ H Q q).elim⟩
theorem gT_no {f : D → En → Option En} {vs : List Nat} (h : ∀ d ρ, f d ρ = none) : ∀ v σ H Q, ¬ gT p f vs v σ H Q := fun v σ H Q ⟨ρ, G, dc, d, ρ', _, _, _, e, _⟩ => by
  rw [h] at e
  cases e
theorem assignEach_star {env : Env} : ∀ {es : List Expr}, noStar es = true → (assignEach es env).length = es.length ∧ (assignEach es env).findIdx? (·.1) = none
  | [], _ => ⟨rfl, rfl⟩
  | e :: es, h => by
    obtain ⟨h1, h2⟩ := noStar_cons h
    obtain ⟨i1, i2⟩ := assignEach_star (env := env) h2
    have e1 : assignEach (e :: es) env = (false, assign e env) :: assignEach es env := by
      cases e <;> first | rfl | exact absurd rfl (h1 _ _)
    rw [e1]
    refine ⟨by rw [List.length_cons, List.length_cons, i1], ?_⟩
    rw [List.findIdx?_cons, i2]
    rfl
theorem assignEach_cons {env : Env} {e : Expr} {es : List Expr} (h : noStar (e :: es) = true) : (assignEach (e :: es) env).map (·.2) = assign e env :: (assignEach es env).map (·.2) := by
  have h1 := (noStar_cons h).1
  cases e <;> first | rfl | exact absurd rfl (h1 _ _)
theorem tpTs_len : ∀ {ts : List (D → En → Option En)} {ds : List D} {ρ ρ' : En}, tpTs ts ds ρ = some ρ' → ds.length = ts.length
  | [], [], _, _, _ => rfl
  | t :: ts, d :: ds, ρ, ρ', h => by
    have h : (t d ρ).bind (fun ρ' => tpTs ts ds ρ') = some ρ' := h
    obtain ⟨r, _, h2⟩ := Option.bind_eq_some_iff.mp h
    rw [List.length_cons, List.length_cons, tpTs_len h2]
  | [], _ :: _, _, _, h => by cases h
  | _ :: _, [], _, _, h => by cases h
theorem tpM_len {f : Expr → D → En → Option En} {es : List Expr} {ds : List D} {ρ ρ' : En} (h : tpTs (es.map f) ds ρ = some ρ') : ds.length = es.length := by
  have := tpTs_len h
  rwa [List.length_map] at this
theorem stoN_parts {y : Str} (h : stoN C y = true) : stoK C.sc y = true ∧ y ∈ C.N := by
  unfold stoN at h
  rw [Bool.and_eq_true, decide_eq_true_eq] at h
  exact h
theorem ixOf_at {N : List Str} {y : Str} (h : y ∈ N) : N[ixOf N y]? = some y := by
  unfold ixOf
  have := List.idxOf_lt_length_of_mem h
  rw [List.getElem?_eq_getElem this, List.getElem_idxOf this]
theorem pgs_list (f : Expr → D → En → Option En) (vs : List Nat) (h : ∀ e, PG X e (gT p (f e) vs)) : ∀ es, noStar es = true → PGs X es (gTs p (tpTs (es.map f)) vs)
  | [], _ => by
    refine PGs.imp pgs_nil fun us σ H Q ⟨ρ, G, dc, ds, ρ', gs, rs, dv, e, q⟩ => ?_
    cases ds with
    | nil =>
      cases dv
      cases e
      exact ⟨rfl, q σ rs (fun _ _ => rfl) rfl⟩
    | cons _ _ => cases e
  | e :: es, hs => by
    refine PGs.imp (pgs_cons (h e) (pgs_list f vs h es (noStar_cons hs).2) (assignEach_cons hs)) fun us σ H Q ⟨ρ, G, dc, ds, ρ', gs, rs, dv, e', q⟩ => ?_
    cases ds with
    | nil => cases e'
    | cons d ds =>
      obtain ⟨v, r, rfl, h1, h2⟩ := dv
      have e' : (f e d ρ).bind (fun ρ1 => tpTs (es.map f) ds ρ1) = some ρ' := e'
      obtain ⟨ρ1, e1, e2⟩ := Option.bind_eq_some_iff.mp e'
      refine ⟨v, r, rfl, ρ, G, dc, d, ρ1, gs, rs, h1, e1, fun σ1 rs1 k1 l1 => ?_⟩
      exact ⟨ρ1, G, dc, ds, ρ', gs, rs1, h2, e2, fun σ2 rs2 k2 l2 => q σ2 rs2 (fun i hi => (k2 i hi).trans (k1 i hi)) (l2.trans l1)⟩
theorem pg_both (x : XOk p C k W X) (vs : List Nat) (hv : ∀ y, stoN C y = true → ixOf C.N y ∈ vs) : ∀ (n : Nat) (e : Expr), PG X e (gT p (tgN n C e) vs)
  | 0, e => pg_no (gT_no fun d ρ => rfl)
  | n + 1, e => by
    have ih1 := pg_both x vs hv n
    have ih2 := pgs_list (tgN n C) vs ih1
    · cases e with
      | Name y pos =>
        by_cases hs : stoN C y = true
        · obtain ⟨h1, h2⟩ := stoN_parts hs
          obtain ⟨hl, hf⟩ := x.sto y h1
          refine PG.imp (pg_name (i := ixOf C.N y) (by rw [x.N]; exact x.nd) (by rw [x.N]; exact ixOf_at h2) hl hf) fun v σ H Q ⟨ρ, G, dc, d, ρ', gs, rs, dv, e, q⟩ => ?_
          have e : (if stoN C y = true then nmT (ixOf C.N y) else noT) d ρ = some ρ' := e
          rw [if_pos hs] at e
          cases e
          exact q _ (rs.setVa dv) (fun i hi => List.getElem?_set_ne (fun z => hi (by rw [← z]; exact hv y hs))) (List.length_set ..)
        · refine pg_no (gT_no fun d ρ => ?_)
          show (if stoN C y = true then nmT _ else noT) d ρ = none
          rw [if_neg hs]
          rfl
      | Tuple es j pos =>
        by_cases hs : noStar es = true
        · obtain ⟨a1, a2⟩ := assignEach_star (env := X.env) hs
          refine ⟨fun pins s σ H v u Q I r ⟨ρ, G, dc, d, ρ', gs, rs, dv, e, q⟩ => ?_⟩
          have e : (if noStar es = true then tpT (es.map fun e => tgN n C e) else noT) d ρ = some ρ' := e
          rw [if_pos hs] at e
          cases d with
          | tup ds =>
            obtain ⟨a, us, rfl, ha, du⟩ := dv
            exact (pg_tup (n := es.length) x.calm (ih2 es hs) a1 a2).run pins s σ H _ u Q I r ⟨a, us, rfl, .inl (.inl (gs.sub _ _ ha)), by rw [du.length]; exact tpM_len (f := tgN n C) e, ρ, G, dc, ds, ρ', gs, rs, du, e, q⟩
          | ktup ds =>
            obtain ⟨a, us, rfl, ha, du⟩ := dv
            exact (pg_tup (n := es.length) x.calm (ih2 es hs) a1 a2).run pins s σ H _ u Q I r ⟨a, us, rfl, x.K ▸ ha H, by rw [du.length]; exact tpM_len (f := tgN n C) e, ρ, G, dc, ds, ρ', gs, rs, du, e, q⟩
          | lst ds =>
            obtain ⟨a, us, rfl, ha, du⟩ := dv
            exact (pg_lst (n := es.length) x.calm (ih2 es hs) a1 a2).run pins s σ H _ u Q I r ⟨a, us, rfl, .inl (.inl (gs.sub _ _ ha)), by rw [du.length]; exact tpM_len (f := tgN n C) e, ρ, G, dc, ds, ρ', gs, rs, du, e, q⟩
          | _ => cases e
        · refine pg_no (gT_no fun d ρ => ?_)
          show (if noStar es = true then tpT _ else noT) d ρ = none
          rw [if_neg hs]
          rfl
      | _ => exact pg_no (gT_no fun d ρ => rfl)
theorem pg_T (x : XOk p C k W X) (vs : List Nat) (hv : ∀ y, stoN C y = true → ixOf C.N y ∈ vs) (n : Nat) (e : Expr) : PG X e (gT p (tgN n C e) vs) := pg_both x vs hv n e
end
end Px
set_option maxRecDepth 100000
set_option maxHeartbeats 4000000
/-! PS12: list comprehensions. -/
namespace Px
open PySem PySem.Spec PyProof.Rows L2 RZ
theorem bind_assocM {α β γ : Type} (m : M α) (f : α → M β) (g : β → M γ) : ((m >>= f) >>= g) = (m >>= fun a => f a >>= g) := by
  funext dc
  show M.bind (M.bind m f) g dc = M.bind m (fun a => M.bind (f a) g) dc
  unfold M.bind
  cases m dc <;> rfl
theorem pure_bindM {α β : Type} (a : α) (f : α → M β) : ((pure a : M α) >>= f) = f a := rfl
section
variable {p : Pk} {C : Cn} {k : Nat} {W : WX} {X : Cx} {n : Nat} {b : Bool} {m : Md} {G H : Hp} {dc : Dc}
/-- nothing raised within a block -/
def W0 : WX := fun _ _ _ _ => False
theorem XOk.blk (x : XOk p C k W X) {scope : Scope} (s : Shared) (H : Hp) (Ca : Addr) (cl : List (Str × Addr)) (fp : List Addr) : XOk p ⟨C.N, scope, C.Γ, C.g, false, C.lp⟩ k W0 (X.blk s H scope (compEnvC scope cl Ca X.env) fp) := by
  have keep : ∀ {y : Str} {kk : NameKind}, kk ≠ .free → scope.names.lookup y = some kk → (relS scope X.env.scope).names.lookup y = some kk := fun h1 h2 => lookup_relS_keep h1 h2
  have free : ∀ {y : Str}, scope.names.lookup y = some .free → (relS scope X.env.scope).names.lookup y = some .free ∨ (relS scope X.env.scope).names.lookup y = some .cell := fun {y} h => by
    have key : ∀ (l : List (Str × NameKind)), l.lookup y = some .free → ((l.map fun (n, k) => if (k == NameKind.free && X.env.scope.kind == .function && X.env.scope.names.lookup n == some .cell) then (n, NameKind.cell) else (n, k)).lookup y = some .free ∨ (l.map fun (n, k) => if (k == NameKind.free && X.env.scope.kind == .function && X.env.scope.names.lookup n == some .cell) then (n, NameKind.cell) else (n, k)).lookup y = some .cell) := fun l => by
      induction l with
      | nil => intro h; simp at h
      | cons z l ih =>
        obtain ⟨a, kk⟩ := z
        intro h
        rw [List.map_cons]
        dsimp only
        rw [List.lookup_cons] at h
        cases e : (y == a) with
        | true =>
          rw [e] at h
          cases h
          by_cases hc : (NameKind.free == NameKind.free && X.env.scope.kind == .function && X.env.scope.names.lookup a == some .cell) = true
          · right
            rw [if_pos hc, List.lookup_cons, e]
          · left
            rw [if_neg hc, List.lookup_cons, e]
        | false =>
          rw [e] at h
          have := ih h
          by_cases hc : (kk == NameKind.free && X.env.scope.kind == .function && X.env.scope.names.lookup a == some .cell) = true
          · rw [if_pos hc, List.lookup_cons, e]; exact this
          · rw [if_neg hc, List.lookup_cons, e]; exact this
    exact key scope.names h
  refine ⟨x.K, x.N, x.nd, x.calm, x.room', ?_, fun y h => ?_, fun y h => ?_, fun y h => ?_, fun y h => ?_, x.gm, x.tab, fun z => by cases z⟩
  · rintro u s' ⟨_, _, _, _, _, _, _, _, _, _, _, _, _, _, _, _, w⟩
    exact w
  · unfold locK at h
    rw [Bool.and_eq_true] at h
    have h := h.2
    show Vis (relS scope X.env.scope) y
    split at h
    · rename_i q; exact .inl (keep (by decide) q)
    · rename_i q; exact .inr (.inl (keep (by decide) q))
    · rename_i q
      rcases free q with q | q
      · exact .inr (.inr q)
      · exact .inr (.inl q)
    · cases h
  · unfold gloK at h
    rw [Bool.and_eq_true] at h
    have h := h.2
    split at h
    · rename_i q; exact keep (by decide) q
    · cases h
  · unfold stoK at h
    rw [Bool.and_eq_true] at h
    have h := h.2
    show Loc (relS scope X.env.scope) y ∧ ((scope.names.lookup y == some .cell) = true ∨ (relS scope X.env.scope).names.lookup y = some .local)
    split at h
    · rename_i q; exact ⟨.inl (keep (by decide) q), .inr (keep (by decide) q)⟩
    · rename_i q; exact ⟨.inr (keep (by decide) q), .inl (by rw [show scope.names.lookup y = some .cell from q]; rfl)⟩
    · cases h
  · show (relS scope X.env.scope).names.lookup y = some .cell ∨ (relS scope X.env.scope).names.lookup y = some .free
    rcases h with q | q
    · exact .inl (keep (by decide) q)
    · exact (free q).symm
theorem blk_ok (x : XOk p C k W X) {scope : Scope} (h : blkB C.N C.sc scope = true) : BlkOk X.N X.env.scope scope (ownL C.N scope) := by
  have q := blkOk_by h
  rw [x.N]
  exact ⟨q.kind, q.uniq, q.ix, fun y hy e => x.fre _ (q.free y hy e), q.own⟩
theorem own_mem {N : List Str} {sc scope : Scope} {Γ : Gm} {g : Nat} {tp : Bool} {lp : List (Nat × Nat)} {y : Str} (h : stoN ⟨N, scope, Γ, g, tp, lp⟩ y = true) (hu : ∀ z ∈ scope.names, scope.names.lookup z.1 = some z.2) : ixOf N y ∈ (ownL N scope).map (·.2) := by
  obtain ⟨h1, h2⟩ := stoN_parts h
  have hm : y ∈ N := h2
  have key : ∃ kk, scope.names.lookup y = some kk ∧ (kk = .local ∨ kk = .cell) := by
    unfold stoK at h1
    rw [Bool.and_eq_true] at h1
    have h := h1.2
    split at h
    · rename_i q; exact ⟨_, q, .inl rfl⟩
    · rename_i q; exact ⟨_, q, .inr rfl⟩
    · cases h
  obtain ⟨kk, e, hk⟩ := key
  have hin : (y, kk) ∈ scope.names := PySem.mem_of_lookup e
  refine List.mem_map.mpr ⟨(y, N.idxOf y), ?_, rfl⟩
  unfold ownL
  refine List.mem_filterMap.mpr ⟨(y, kk), hin, ?_⟩
  rcases hk with rfl | rfl
  · show (if y ∈ N then some (y, N.idxOf y) else none) = _
    rw [if_pos hm]
  · show (if y ∈ N then some (y, N.idxOf y) else none) = _
    rw [if_pos hm]
theorem fold_of {it : Expr} {env : Env} (h : ∀ es j q, it ≠ .Set es j q) : ∀ v, foldedSetIterable it env v = pure v := fun v => by
  unfold foldedSetIterable
  split
  · exact absurd rfl (h _ _ _)
  · rfl
theorem itOk_set {tg it : Expr} (h : itOk tg it = true) : ∀ es j q, it ≠ .Set es j q := fun es j q z => by
  rw [z] at h
  cases h
theorem wipe_len (ρ : En) : ∀ vs, (wipeE ρ vs).length = ρ.length
  | [] => rfl
  | v :: vs => by unfold wipeE; rw [List.length_set, wipe_len ρ vs]
theorem wipe_in {ρ : En} {i : Nat} {sl : Slot} : ∀ {vs : List Nat}, (wipeE ρ vs)[i]? = some sl → sl = .no ∨ (i ∉ vs ∧ ρ[i]? = some sl)
  | [], h => .inr ⟨by simp, h⟩
  | v :: vs, h => by
    unfold wipeE at h
    by_cases hi : i = v
    · subst hi
      by_cases hl : i < (wipeE ρ vs).length
      · rw [List.getElem?_set_self hl] at h
        cases h
        exact .inl rfl
      · rw [List.getElem?_eq_none (by rw [List.length_set]; omega)] at h
        cases h
    · rw [List.getElem?_set_ne (Ne.symm hi)] at h
      rcases wipe_in h with h | ⟨h1, h2⟩
      · exact .inl h
      · exact .inr ⟨by simp [hi, h1], h2⟩
theorem RS.wipe {ρ : En} {σ : St} (r : RS p ρ σ G H) (vs : List Nat) : RS p (wipeE ρ vs) (L2.wipe σ vs) G H := by
  have at_ : ∀ {i : Nat}, i ∉ vs → (L2.wipe σ vs)[i]? = σ[i]? := fun {i} h => wipe_out h
  refine ⟨by rw [wipe_len, wipe_length]; exact r.len, fun i d e => ?_, fun i d e => ?_, fun i d e => ?_, fun i j d e a h1 h2 h3 h4 => ?_, r.ent, r.hb⟩
  · rcases wipe_in e with z | ⟨h1, h2⟩
    · cases z
    · rw [at_ h1]; exact r.va i d h2
  · rcases wipe_in e with z | ⟨h1, h2⟩
    · cases z
    · rw [at_ h1]; exact r.la i d h2
  · rcases wipe_in e with z | ⟨h1, h2⟩
    · cases z
    · rw [at_ h1]; exact r.ow i d h2
  · rcases wipe_in h1 with z | ⟨a1, a2⟩
    · cases z
    · rcases wipe_in h2 with z | ⟨b1, b2⟩
      · cases z
      · rw [at_ a1] at h3
        rw [at_ b1] at h4
        exact r.dj i j d e a a2 b2 h3 h4
theorem wipe_same {σ σ' : St} {vs : List Nat} (h : ∀ i, i ∉ vs → σ'[i]? = (L2.wipe σ vs)[i]?) (hl : σ'.length = (L2.wipe σ vs).length) : L2.wipe σ' vs = L2.wipe σ vs := by
  refine List.ext_getElem? fun i => ?_
  by_cases hi : i ∈ vs
  · have key : ∀ τ : St, i < τ.length → (L2.wipe τ vs)[i]? = some none := fun τ ht => by
      have hl : i < (L2.wipe τ vs).length := by rw [wipe_length]; exact ht
      cases e : (L2.wipe τ vs)[i]? with
      | none =>
        rw [List.getElem?_eq_none_iff] at e
        omega
      | some o =>
        cases o with
        | none => rfl
        | some v => exact absurd hi (wipe_some e).2
    rw [wipe_length] at hl
    by_cases ht : i < σ.length
    · rw [key σ' (by omega), key σ ht]
    · rw [List.getElem?_eq_none (by rw [wipe_length]; omega), List.getElem?_eq_none (by rw [wipe_length]; omega)]
  · rw [wipe_out hi]
    exact h i hi
/-- one's own new object is written -/
theorem GS.setO (s : GS p dc G H) {a : Addr} {o o' : HO} (ga : G a = none) (nd : p.da ≠ some a) (ha : H a = some o) (ho : ownO o = true) : GS p dc G (upd H a o') := by
  refine ⟨fun b u e => ?_, fun b e => ⟨?_, (s.dice b e).2⟩, fun q hq => ?_, s.tabf⟩
  · rw [upd_ne (fun z => by subst z; rw [ga] at e; cases e)]
    exact s.sub b u e
  · rw [upd_ne (fun z => by subst z; exact nd e)]
    exact (s.dice b e).1
  · obtain ⟨ps, e, t⟩ := s.tabs q hq
    refine ⟨ps, by rw [upd_ne (fun z => by rw [z, ha] at e; cases e; cases ho)]; exact e, t.1, fun pos cv hc hp => ?_⟩
    obtain ⟨c, e1, e2⟩ := t.2 pos cv hc hp
    exact ⟨c, e1, by rw [upd_ne (fun z => by rw [z, ha] at e2; cases e2; cases ho)]; exact e2⟩
theorem Grow.setO {Gb Hb : Hp} {a : Addr} {o' : HO} (g : Grow p.da Gb Hb G H) (hb : Hb a = none) : Grow p.da Gb Hb G (upd H a o') := by
  refine ⟨g.sub, g.nw, fun b u e h1 h2 => ?_, fun b e => ?_⟩
  · rw [upd_ne (fun z => by subst z; rw [hb] at e; cases e)]
    exact g.ext.1 b u e h1 h2
  · rw [upd_ne (fun z => by subst z; exact e hb)]
    exact g.ext.2 b e
/-- a step that cannot raise, ahead of the rest -/
theorem Post.seqN {α β γ δ : Type} {W W' : WX} {rel : Hp → Hp → α → β → Prop} {rel2 : Hp → Hp → γ → δ → Prop} {σ σ' : St} {Gb Hb G H : Hp} {dc : Dc} {Q : δ → Hp → Prop} {Q' : β → Hp → Prop} {m : M α} {kk : α → M γ}
    (h : Post p W rel2 σ Gb Hb ((noE m >>= kk) dc) Q) (c : ∀ d dc1 v G1 H1, GS p dc1 G1 H1 → Grow p.da G H G1 H1 → rel G1 H1 d v → Post p W rel2 σ Gb Hb (kk d dc1) Q → Q' v H1) : Post p W' rel σ' G H (m dc) Q' := by
  have e : (noE m >>= kk) dc = match m dc with
    | .ok a d' => kk a d'
    | .er _ _ => .st
    | .st => .st := by
    show M.bind (noE m) kk dc = _
    unfold M.bind noE
    cases m dc <;> rfl
  rw [e] at h
  cases hm : m dc with
  | ok d dc1 =>
    rw [hm] at h
    exact fun v G1 H1 s g r => c d dc1 v G1 H1 s g r h
  | er c dc1 =>
    rw [hm] at h
    exact (show False from h).elim
  | st =>
    rw [hm] at h
    exact (show False from h).elim
/-- a comprehension's list fits -/
theorem noE_ner {α : Type} {m : M α} {dc : Dc} {c : Str} {dc' : Dc} : noE m dc ≠ .er c dc' := by
  unfold noE
  cases m dc <;> intro z <;> cases z
theorem lift_ner {α : Type} {o : Option α} {dc : Dc} {c : Str} {dc' : Dc} : (lift o : M α) dc ≠ .er c dc' := by
  cases o <;> intro z <;> cases z
theorem bind_ner {α β : Type} {m : M α} {f : α → M β} {dc : Dc} (h1 : ∀ c dc', m dc ≠ .er c dc') (h2 : ∀ a dc1, m dc = .ok a dc1 → ∀ c dc', f a dc1 ≠ .er c dc') : ∀ c dc', (m >>= f) dc ≠ .er c dc' := by
  intro c dc' z
  cases e : m dc with
  | ok a dc1 =>
    rw [bind_ok e] at z
    exact h2 a dc1 e c dc' z
  | er c1 dc1 => exact h1 _ _ e
  | st =>
    rw [bind_stt e] at z
    cases z
theorem lcM_ner {tg : D → En → Option En} {tt : En → M Bool} {te : En → M D} {ρ : En} : ∀ (xs : List D) (dc : Dc) c dc', lcM tg (fun ρ => noE (tt ρ)) (fun ρ => noE (te ρ)) ρ xs dc ≠ .er c dc'
  | [], dc, c, dc' => fun z => by cases z
  | x :: xs, dc, c, dc' => by
    unfold lcM
    refine bind_ner (fun _ _ => lift_ner) (fun ρ' dc1 _ => bind_ner (fun _ _ => noE_ner) (fun b dc2 _ => ?_)) c dc'
    intro c dc'
    cases b with
    | false => exact lcM_ner xs dc2 c dc'
    | true => exact bind_ner (fun _ _ => noE_ner) (fun y dc3 _ => bind_ner (lcM_ner xs dc3) fun ys dc4 _ c dc' z => by cases z) c dc'
theorem fits {α : Type} {W : WX} {rel : Hp → Hp → D → α → Prop} {σ : St} {m : M (List D)} {as : List D} {Q : α → Hp → Prop} (hn : ∀ c dc', m dc ≠ .er c dc') (h : Post p W rel σ G H ((m >>= fun ys => lift (mkL (as ++ ys))) dc) Q) : as.length ≤ szL := by
  cases e : m dc with
  | ok ys dc1 =>
    rw [bind_ok e] at h
    obtain ⟨d, e2, _⟩ := Post.lift h
    unfold mkL at e2
    split at e2
    · rename_i hl
      rw [List.length_append] at hl
      omega
    · cases e2
  | er c dc1 => exact absurd e (hn _ _)
  | st =>
    rw [bind_stt e] at h
    exact (show False from h).elim
/-- what stands while the list is made -/
def PvL (p : Pk) (W : WX) (m : Md) (σ : St) (G1 H1 : Hp) (Dl : Addr) (Q : VK) (R : Nat → M (List D)) (i : Nat) (H' : Hp) : Prop := ∃ G' dcx as vs', GS p dcx G' H' ∧ Grow p.da G1 H1 G' H' ∧ G' Dl = none ∧ H' Dl = some (.lst vs') ∧ DVs p.K p.da G' as vs' ∧
  Post p W (RV p m) σ G1 H1 ((R i >>= fun ys => lift (mkL (as ++ ys))) dcx) Q
theorem lc_imp (x : XOk p C k W X) {elt tg it : Expr} {ifs : List Expr} {scope : Scope} {pos : Pos} (hT : toldS C tg it ifs = none) (hb : blkB C.N C.sc scope = true) (hi : itOk tg it = true) : ∀ (σ : St) (H : Hp) (Q : VK), tE p W m (fun ρ => dE (n + 1) b C (.ListComp elt [⟨tg, it, ifs, 0⟩] scope pos) ρ) σ H Q →
    tLc (tM p W (IOk p true) fun ρ => dI n true C it ρ) (gT p (tgN n ⟨C.N, scope, C.Γ, C.g, false, C.lp⟩ tg) (ownN C.N scope)) (tB p W0 fun ρ => dTs n ⟨C.N, scope, C.Γ, C.g, false, C.lp⟩ ifs ρ) (tE p W0 .va fun ρ => dE n false ⟨C.N, scope, C.Γ, C.g, false, C.lp⟩ elt ρ) (ownN C.N scope) σ H Q := fun σ H Q ⟨ρ, G, dc, gs, rs, post⟩ => by
  replace post : Post p W (RV p m) σ G H ((dI n true C it ρ >>= fun items => lcM (tgN n ⟨C.N, scope, C.Γ, C.g, false, C.lp⟩ tg) (fun ρ => noE (dTs n ⟨C.N, scope, C.Γ, C.g, false, C.lp⟩ ifs ρ)) (fun ρ => noE (dE n false ⟨C.N, scope, C.Γ, C.g, false, C.lp⟩ elt ρ)) (wipeE ρ (ownN C.N scope)) items >>= fun ys => lift (mkL ys)) dc) Q := by
    have e : dE (n + 1) b C (.ListComp elt [⟨tg, it, ifs, 0⟩] scope pos) ρ = (dI n true C it ρ >>= fun items => lcM (tgN n ⟨C.N, scope, C.Γ, C.g, false, C.lp⟩ tg) (fun ρ => noE (dTs n ⟨C.N, scope, C.Γ, C.g, false, C.lp⟩ ifs ρ)) (fun ρ => noE (dE n false ⟨C.N, scope, C.Γ, C.g, false, C.lp⟩ elt ρ)) (wipeE ρ (ownN C.N scope)) items >>= fun ys => lift (mkL ys)) := by
      show (if (toldS C tg it ifs).isSome = true then _ else if (0 : Int) = 0 ∧ blkB C.N C.sc scope = true ∧ itOk tg it = true then _ else M.st) = _
      rw [if_neg (by rw [hT]; simp), if_pos ⟨rfl, hb, hi⟩]
    rw [← e]; exact post
  refine ⟨ρ, G, dc, gs, rs, Post.seq post fun items dc1 J G1 H1 _ gs1 g1 iok post1 => fun Dl hD => ?_⟩
  obtain ⟨Gd, Y, w, hGd, hY⟩ := iok
  have rs1 := (rs.grow gs g1)
  have nd := gs1.ndice hD
  refine lc_it w (PvL p W m σ G1 H1 Dl Q fun i => lcM (tgN n ⟨C.N, scope, C.Γ, C.g, false, C.lp⟩ tg) (fun ρ => noE (dTs n ⟨C.N, scope, C.Γ, C.g, false, C.lp⟩ ifs ρ)) (fun ρ => noE (dE n false ⟨C.N, scope, C.Γ, C.g, false, C.lp⟩ elt ρ)) (wipeE ρ (ownN C.N scope)) (items.drop i)) ?_ (fun i H' _ ⟨G', dcx, as, vs', s', g', _⟩ => hGd G' H' dcx s' (Cond.of g')) ?_ ?_
  · exact ⟨G1, dc1, [], [], gs1.newH hD, Grow.newH p.da hD, gs1.gnone hD, upd_same, rfl, post1⟩
  · rintro i xv H' H'' hi' ⟨G', dcx, as, vs', s', g', gn, hl, dv, post'⟩ hy
    dsimp only at post'
    have hd := List.getElem?_eq_getElem hi'
    obtain ⟨G2, s2, g2, dv2⟩ := hY i G' H' dcx xv H'' _ hi' s' (Cond.of g') hy hd
    rw [List.drop_eq_getElem_cons hi'] at post'
    unfold lcM at post'
    rw [bind_assocM] at post'
    obtain ⟨ρ', e, post'⟩ := Post.liftB post'
    rw [bind_assocM] at post'
    have gg := g'.trans g2
    have gn2 : G2 Dl = none := g2.nw Dl _ gn hl rfl nd
    have hl2 : H'' Dl = some (.lst vs') := g2.ext.1 Dl _ hl nd (fun ps z => by cases z)
    refine ⟨wipeE ρ (ownN C.N scope), G2, dcx, _, ρ', s2, ((rs1.grow gs1 gg).wipe _), dv2, e, fun σ2 rs2 k2 l2 => ⟨wipe_same k2 l2, ?_⟩⟩
    refine ⟨ρ', G2, dcx, s2, rs2, Post.seqN post' fun c dc3 c' G3 H3 s3 g3 r3 post' => ?_⟩
    cases (show c' = c from r3)
    have gn3 : G3 Dl = none := g3.nw Dl _ gn2 hl2 rfl nd
    have hl3 : H3 Dl = some (.lst vs') := g3.ext.1 Dl _ hl2 nd (fun ps z => by cases z)
    cases c with
    | false => exact ⟨G3, dc3, as, vs', s3, gg.trans g3, gn3, hl3, DVs.mono (g2.trans g3).sub _ _ dv, post'⟩
    | true =>
      simp only [if_true] at post' ⊢
      rw [bind_assocM] at post'
      refine ⟨ρ', G3, dc3, s3, rs2.grow s2 g3, Post.seqN post' fun d dc4 y G4 H4 s4 g4 r4 post' => ?_⟩
      rw [bind_assocM] at post'
      have gn4 : G4 Dl = none := g4.nw Dl _ gn3 hl3 rfl nd
      have hl4 : H4 Dl = some (.lst vs') := g4.ext.1 Dl _ hl3 nd (fun ps z => by cases z)
      have post2 : Post p W (RV p m) σ G1 H1 ((lcM (tgN n ⟨C.N, scope, C.Γ, C.g, false, C.lp⟩ tg) (fun ρ => noE (dTs n ⟨C.N, scope, C.Γ, C.g, false, C.lp⟩ ifs ρ)) (fun ρ => noE (dE n false ⟨C.N, scope, C.Γ, C.g, false, C.lp⟩ elt ρ)) (wipeE ρ (ownN C.N scope)) (items.drop (i + 1)) >>= fun ys => lift (mkL ((as ++ [d]) ++ ys))) dc4) Q := by
        have e : (fun ys : List D => lift (mkL ((as ++ [d]) ++ ys))) = fun ys => lift (mkL (as ++ d :: ys)) := by
          funext ys
          rw [List.append_assoc]
          rfl
        rw [e]
        exact post'
      have hf := fits (lcM_ner _ _) post2
      rw [List.length_append] at hf
      have hlen := dv.length
      refine ⟨vs', hl4, by rw [hlen, ← szL_eq]; simp at hf; omega, G4, dc4, as ++ [d], vs' ++ [y], s4.setO gn4 nd hl4 rfl, ((gg.trans g3).trans g4).setO hD, gn4, upd_same, (DVs.mono ((g2.trans g3).trans g4).sub _ _ dv).snoc r4, post2⟩
  · rintro H' ⟨G', dcx, as, vs', s', g', gn, hl, dv, post'⟩
    dsimp only at post'
    rw [List.drop_length] at post'
    obtain ⟨d, e, fin⟩ := Post.lift (show Post p W (RV p m) σ G1 H1 ((lift (mkL (as ++ [])) : M D) dcx) Q from post')
    rw [List.append_nil] at e
    unfold mkL at e
    split at e
    · cases e
      exact fin_lst s' g' hD (rs1.hz Dl hD) gn hl nd dv fin
    · cases e
theorem own_all {scope : Scope} (hb : blkB C.N C.sc scope = true) : ∀ y, stoN ⟨C.N, scope, C.Γ, C.g, false, C.lp⟩ y = true → ixOf C.N y ∈ ownN C.N scope := fun y hy => own_mem (sc := C.sc) hy (blkOk_by hb).uniq
theorem e_lc (h2 : IH2 n) (x : XOk p C k W X) {elt tg it : Expr} {ifs : List Expr} {a : Int} {scope : Scope} {pos : Pos} (hT : toldS C tg it ifs = none) : PE X (.ListComp elt [⟨tg, it, ifs, a⟩] scope pos) (tE p W m fun ρ => dE (n + 1) b C (.ListComp elt [⟨tg, it, ifs, a⟩] scope pos) ρ) := by
  by_cases hc : a = 0 ∧ blkB C.N C.sc scope = true ∧ itOk tg it = true
  · obtain ⟨rfl, hb, hi⟩ := hc
    have hv : ∀ y, stoN ⟨C.N, scope, C.Γ, C.g, false, C.lp⟩ y = true → ixOf C.N y ∈ ownN C.N scope := own_all hb
    exact PE.imp (pe_lc x.calm (by rw [x.N]; exact x.nd) (h2.I x true tg it hi) (blk_ok x hb)
      (fun s H Ca cl fp => pg_T (x.blk s H Ca cl fp) _ hv n tg) (fun s H Ca cl fp => h2.ih.Ts (x.blk s H Ca cl fp) ifs) (fun s H Ca cl fp => h2.ih.E (x.blk s H Ca cl fp) false .va elt rfl) (fold_of (itOk_set hi))) (lc_imp x hT hb hi)
  · refine pe_no (tM_no fun ρ => ?_)
    show (if (toldS C tg it ifs).isSome = true then _ else if a = 0 ∧ blkB C.N C.sc scope = true ∧ itOk tg it = true then _ else M.st) = M.st
    rw [if_neg (by rw [hT]; simp), if_neg hc]
end
end Px
set_option maxRecDepth 100000
set_option maxHeartbeats 4000000
/-! PS13: methods of built-in types; all expressions. -/
namespace Px
open PySem PySem.Spec PyProof.Rows L2 RZ
def rMt (p : Pk) (m : Md) (g : D → List D → Option D) : V → List V → Hp → VK → Prop := fun v vs H Q => ∃ dc G d ds d', GS p dc G H ∧ Hz p H ∧ RV p .bo G H d v ∧ DVb p .bo G H ds vs ∧ g d ds = some d' ∧ ∀ v G' H', GS p dc G' H' → Grow p.da G H G' H' → RV p m G' H' d' v → Q v H'
section
variable {p : Pk} {C : Cn} {k : Nat} {W : WX} {X : Cx} {n : Nat} {b : Bool} {m : Md} {G H : Hp} {dc : Dc}
/-- what may be called as a value of that type -/
def Typ (s : Shared) (u : Value) (T : String) : Prop := s.TypeIs u T ∧ ∀ a, u = .ref a → ∃ ob, s.heap.get? a = some ob ∧ ob.dict = none
theorem e_mtB (h : IH n) (x : XOk p C k W X) {o : Expr} {mm : Str} {T id : String} {g : D → List D → Option D} {e : Expr} {es : List Expr} {apos pos : Pos} (hok : mcOk o apos pos (e :: es) = true) (pa : PlainAttrs T) (slot : PySem.Slot T mm id) (ty : typeOf (.builtin id) = pure (.type "method_descriptor")) (rule : MtR X id (rMt p m g))
    {pins : List (Addr × Obj)} {s : Shared} {σ : St} {H : Hp} {Q : VK} {ρ : En} {G : Hp} {dc dc1 : Dc} {d : D} (I : Inv X pins σ H s) (gs : GS p dc G H) (rs : RS p ρ σ G H) (hb : ∃ b', dE n b' C o ρ dc = .ok d dc1)
    (hT : ∀ G1 H1 dc1 s1 v u, GS p dc1 G1 H1 → Inv X pins σ H1 s1 → RV p .bo G1 H1 d v → RelV v u → Typ s1 u T)
    (post : Post p W (RV p m) σ G H ((seqM ((e :: es).map fun e => dE n true C e ρ) >>= fun ds => lift (g d ds)) dc1) Q) : wpAny (model X.prog X.w) X.A (eval (.Call (.Attribute o mm apos) (e :: es) [] pos) X.env) (EP X pins σ Q) X.xe s := by
  have hok' := hok
  unfold mcOk at hok'
  simp only [Bool.and_eq_true, decide_eq_true_eq] at hok'
  obtain ⟨⟨⟨hs, hlen⟩, hline⟩, hns⟩ := hok'
  obtain ⟨b', hb⟩ := hb
  have hfew : ((backTo pos (starEach (e :: es) X.env)).all (fun x => !x.1) && (backToKw pos (keywordEach [] X.env)).all (fun x => x.1.isSome)
      && decide ((e :: es).length + ([] : List Keyword).length + (if ([] : List Keyword).isEmpty then 0 else 1) < 30)) = true := by
    rw [backTo_all hs]
    show (true && true && decide ((e :: es).length + 0 + 0 < 30)) = true
    simp only [Bool.true_and, decide_eq_true_eq]
    omega
  refine wpAny_Call_method (base_of (notSup_ne hns)) hfew hline pa slot ty (thn ((h.E x b' .bo o rfl).run pins s σ H (fun v H1 => ∃ G1, GS p dc1 G1 H1 ∧ Grow p.da G H G1 H1 ∧ RV p .bo G1 H1 d v) I ⟨ρ, G, dc, gs, rs, by
    show Post p W (RV p .bo) σ G H (dE n b' C o ρ dc) _
    rw [hb]
    exact fun v G' H' gs' g' r => ⟨G', gs', g', r⟩⟩) fun u s1 ⟨v, H1, I1, rv, G1, gs1, g1, r1⟩ => ?_)
  have tt := hT G1 H1 dc1 s1 v u gs1 I1 r1 rv
  refine ⟨tt.1, tt.2, ?_⟩
  have rs1 := rs.grow gs g1
  have q := (pa_list h x true .bo (.inr rfl) (fun _ => rfl) (e :: es)).run pos pins s1 σ H1 (fun vs H2 => rMt p m g v vs H2 Q) I1 ⟨ρ, G1, dc1, gs1, rs1, Post.seq (Post.grow post g1) fun ds dc2 vs G2 H2 _ gs2 g2 r2 post => by
    obtain ⟨d', e2, fin⟩ := Post.lift post
    exact ⟨dc2, G2, d, ds, d', gs2, (rs1.grow gs1 g2).hz, r1.grow gs1 g2, r2, e2, fin⟩⟩
  have hany : (backTo pos (starEach (e :: es) X.env)).any (·.1) = false := backTo_any hs
  refine Calls.callWith_builtin hany ?_
  rw [star_cons hs] at q ⊢
  exact Calls.evalArgs_plain (thn q fun us s2 ⟨vs, H2, I2, r2, q2⟩ => rule pins s2 σ H2 v vs u us Q I2 rv r2 q2)
theorem typ_str {s1 : Shared} {x : Str} {v : V} {u : Value} (h : RV p .bo G H (.str x) v) (r : RelV v u) : Typ s1 u "str" := by
  cases h.str
  obtain ⟨t, rfl⟩ := r
  exact ⟨typeIs_str _ _ _, fun a e => by cases e⟩
theorem typ_lst {pins : List (Addr × Obj)} {σ : St} {s1 : Shared} {xs : List D} {v : V} {u : Value} (gs : GS p dc G H) (I : Inv X pins σ H s1) (h : RV p .bo G H (.lst xs) v) (r : RelV v u) : Typ s1 u "list" := by
  obtain ⟨a, vs, rfl, ha, dv⟩ := h.lst gs
  cases (show u = Value.ref a from r)
  obtain ⟨its, rr, pl, hz⟩ := I.list (.inl (.inl ha))
  obtain ⟨o, n, ho, hc, hd, hdat⟩ := pl
  exact ⟨⟨o, ho, hc⟩, fun b e => by cases e; exact ⟨o, ho, hd⟩⟩
theorem typ_dic {pins : List (Addr × Obj)} {σ : St} {s1 : Shared} {xs : List (D × D)} {v : V} {u : Value} (gs : GS p dc G H) (I : Inv X pins σ H s1) (h : RV p .bo G H (.dic xs) v) (r : RelV v u) : Typ s1 u "dict" := by
  obtain ⟨a, rfl, o⟩ := h.dic gs I
  cases (show u = Value.ref a from r)
  rcases o with ⟨ws, o1, _⟩ | ⟨ws, o1, _⟩
  · obtain ⟨_, _, _, _, dd⟩ := o1
    exact ⟨dd.typeIs, dd.mapOf.noDict⟩
  · obtain ⟨_, _, _, _, o, es, ep, ho, hx, _⟩ := o1
    exact ⟨⟨o, ho, hx.1⟩, fun b e => by cases e; exact ⟨o, ho, hx.2.1⟩⟩
/-! ### the methods -/
theorem strsD_vs {G : Hp} : ∀ {l : List D} {ys : List Str} {vs : List V}, strsD l = some ys → DVs p.K p.da G l vs → vs = ys.map V.str
  | [], _, _, h, h' => by
    cases h; cases h'
    rfl
  | x :: l, ys, vs, h, ⟨v, r, e, h1, h2⟩ => by
    cases x with
    | str z =>
      have h : (strsD l).map (z :: ·) = some ys := h
      obtain ⟨zs, e1, rfl⟩ := Option.map_eq_some_iff.mp h
      subst e
      cases h1
      rw [strsD_vs e1 h2]
      rfl
    | _ => cases h
theorem mt_joinD (hK : X.K = p.K) : MtR X "str.join" (rMt p m joinB) := by
  intro pins s σ H v vs u us Q I rv rs h
  obtain ⟨dc, G, d, ds, d', gs, hz, v1, v2, e, fin⟩ := h
  unfold joinB at e
  split at e
  · obtain ⟨ys, e1, e⟩ := Option.bind_eq_some_iff.mp e
    split at e
    · rename_i hl
      cases e
      cases v1.str
      obtain ⟨w, rfl, rw'⟩ := v2.one
      obtain ⟨a, ws, rfl, ha, dv⟩ := rw'.lst gs
      exact mt_join pins s σ H _ _ u us Q I rv rs ⟨_, a, ys, rfl, rfl, .inl (by rw [← strsD_vs e1 dv]; exact .inl (.inl ha)), hl, fin _ G H gs (.refl _ _ _) (RV.of rfl rfl)⟩
    · cases e
  · obtain ⟨ys, e1, e⟩ := Option.bind_eq_some_iff.mp e
    split at e
    · rename_i hl
      cases e
      cases v1.str
      obtain ⟨w, rfl, rw'⟩ := v2.one
      obtain ⟨a, ws, rfl, ha, dv⟩ := rw'.tup gs
      exact mt_join pins s σ H _ _ u us Q I rv rs ⟨_, a, ys, rfl, rfl, .inr (by rw [← strsD_vs e1 dv]; exact .inl (.inl ha)), hl, fin _ G H gs (.refl _ _ _) (RV.of rfl rfl)⟩
    · cases e
  · cases e
theorem strs_DVs {G : Hp} : ∀ (ys : List Str), DVs p.K p.da G (ys.map D.str) (ys.map V.str)
  | [] => rfl
  | _ :: ys => ⟨_, _, rfl, rfl, strs_DVs ys⟩
theorem mt_splitD : MtR X "str.split" (rMt p m splitB) := by
  intro pins s σ H v vs u us Q I rv rs h
  obtain ⟨dc, G, d, ds, d', gs, hz, v1, v2, e, fin⟩ := h
  unfold splitB at e
  split at e
  · split at e
    · cases e
    · rename_i hb
      split at e
      · rename_i hl
        cases e
        cases v1.str
        obtain ⟨w, rfl, rw'⟩ := v2.one
        cases rw'.str
        exact mt_split pins s σ H _ _ u us Q I rv rs ⟨_, _, rfl, rfl, beq_eq_false_iff_ne.mpr hb, by rw [← szL_eq]; exact hl, fun q hq => new_lst gs hz hq (strs_DVs _) fin⟩
      · cases e
  · cases e
theorem mt_startsD : MtR X "str.startswith" (rMt p m startsB) := by
  intro pins s σ H v vs u us Q I rv rs h
  obtain ⟨dc, G, d, ds, d', gs, hz, v1, v2, e, fin⟩ := h
  unfold startsB at e
  split at e
  · cases e
    cases v1.str
    obtain ⟨w, rfl, rw'⟩ := v2.one
    cases rw'.str
    exact mt_startswith pins s σ H _ _ u us Q I rv rs ⟨_, _, rfl, rfl, fin _ G H gs (.refl _ _ _) (RV.of rfl rfl)⟩
  · cases e
def indexBs : D → List D → Option D
  | .str a, ds => indexS a ds
  | _, _ => none
def indexBl : D → List D → Option D
  | .lst a, ds => indexL a ds
  | _, _ => none
theorem mt_indexSD : MtR X "str.index" (rMt p m indexBs) := by
  intro pins s σ H v vs u us Q I rv rs h
  obtain ⟨dc, G, d, ds, d', gs, hz, v1, v2, e, fin⟩ := h
  cases d with
  | str a =>
    cases v1.str
    have e : indexS a ds = some d' := e
    unfold indexS at e
    split at e
    · obtain ⟨w, rfl, rw'⟩ := v2.one
      cases rw'.str
      split at e
      · rename_i i rest ho
        cases e
        exact mt_sindex pins s σ H _ _ u us Q I rv rs ⟨_, _, i, rest, rfl, rfl, ho, fin _ G H gs (.refl _ _ _) (RV.of rfl rfl)⟩
      · cases e
    · cases e
  | _ => cases e
theorem mt_indexLD (hK : X.K = p.K) (hu : X.A.units + 65 < cLine) : MtR X "list.index" (rMt p m indexBl) := by
  intro pins s σ H v vs u us Q I rv rs h
  obtain ⟨dc, G, d, ds, d', gs, hz, v1, v2, e, fin⟩ := h
  cases d with
  | lst l =>
    have e : indexL l ds = some d' := e
    unfold indexL at e
    split at e
    · rename_i dd
      obtain ⟨vv, rfl, r⟩ := v2.one
      split at e
      · rename_i q ps h1 h2
        split at e
        · rename_i hs
          rw [Bool.and_eq_true] at hs
          obtain ⟨j, hj, rfl⟩ := Option.map_eq_some_iff.mp e
          obtain ⟨a, ws, rfl, ha, dv⟩ := id (v1.lst gs)
          rw [List.findIdx?_eq_some_iff_getElem] at hj
          obtain ⟨hl, hj1, hj2⟩ := hj
          refine mt_indexD hu pins s σ H _ _ u us Q I rv rs ⟨a, vv, q, ps, j, ps[j], rfl, rfl, hK ▸ v1.dp gs (by show (toPy.toPys l).map _ = _; rw [h2]; rfl), hK ▸ r.dp gs h1, hs.2, hs.1, List.getElem?_eq_getElem hl, hj1, fun i z' hi hz' => ?_, fin _ G H gs (.refl _ _ _) (RV.of rfl rfl)⟩
          obtain ⟨h5, rfl⟩ := List.getElem?_eq_some_iff.mp hz'
          have := hj2 i hi
          simpa using this
        · cases e
      · cases e
    · cases e
  | _ => cases e
theorem mt_getD (hu : X.A.units + 65 < cLine) (hmm : m = .va ∨ m = .bo) : MtR X "dict.get" (rMt p m getB) := by
  intro pins s σ H v vs u us Q I rv rs h
  obtain ⟨dc, G, d, ds, d', gs, hz, v1, v2, e, fin⟩ := h
  have fin' : ∀ w, DV p.K p.da G d' w → Q w H := fun w dw => fin w G H gs (.refl _ _ _) (by
    rcases hmm with rfl | rfl
    · exact dw
    · exact .inl dw)
  unfold getB at e
  split at e
  · obtain ⟨o, e1, rfl⟩ := Option.map_eq_some_iff.mp e
    obtain ⟨w, rfl, rw'⟩ := v2.one
    obtain ⟨a, rfl, ob⟩ := v1.dic gs I
    cases (show u = Value.ref a from rv)
    obtain ⟨u', rfl, ru⟩ := vals1 rs
    unfold lookD at e1
    split at e1
    · rename_i hk
      cases e1
      exact do_get1 (by omega) I (DO.mk' gs hk rw' ob) ru fun v w' s' dv I' r' => ⟨v, H, I', r', fin' v dv⟩
    · cases e1
  · rename_i kk xx
    split at e
    · cases e
    · rename_i hcx
      obtain ⟨o, e1, rfl⟩ := Option.map_eq_some_iff.mp e
      obtain ⟨w, w2, rfl, rw', rx⟩ := v2.two
      obtain ⟨a, rfl, ob⟩ := v1.dic gs I
      cases (show u = Value.ref a from rv)
      obtain ⟨u', u2, rfl, ru, ru2⟩ := vals2 rs
      have dx : DV p.K p.da G xx w2 := by
        rcases rx with rx | ⟨a', _, w⟩
        · exact rx
        · have := w.ow
          cases xx with
          | lst _ => exact absurd rfl hcx
          | dic _ => exact absurd rfl hcx
          | obj _ _ => exact absurd rfl hcx
          | _ => exact this.elim
      unfold lookD at e1
      split at e1
      · rename_i hk
        cases e1
        exact do_get2 (by omega) I (DO.mk' gs hk rw' ob) ru dx ru2 fun v w' s' dv I' r' => ⟨v, H, I', r', fin' v dv⟩
      · cases e1
  · cases e
/-! ### all methods -/
theorem e_meth (h : IH n) (x : XOk p C k W X) {o : Expr} {mm : Str} {args : List Expr} {apos pos : Pos} (hm : mdOk m b (.Call (.Attribute o mm apos) args [] pos) = true) :
    PE X (.Call (.Attribute o mm apos) args [] pos) (tE p W m fun ρ => dE (n + 1) b C (.Call (.Attribute o mm apos) args [] pos) ρ) := by
  have hmm : m = .va ∨ m = .bo := mkd hm rfl
  have hu := x.u65
  by_cases hok : mcOk o apos pos args = true
  · refine ⟨fun pins s σ H Q I ⟨ρ, G, dc, gs, rs, post⟩ => ?_⟩
    replace post : Post p W (RV p m) σ G H ((dE n (rcvB C o ρ) C o ρ >>= fun d => (match d with
        | .obj c fs => (match C.Γ.me.lookup (c, mm) with
          | some F => if (fs.lookup mm).isNone then (seqM (args.map fun e => dE n false C e ρ) >>= fun ds => F (.obj c fs :: ds)) else M.st
          | none => M.st)
        | d => if smT mm d && !args.isEmpty then (seqM (args.map fun e => dE n true C e ρ) >>= fun ds => lift (smD mm d ds)) else M.st)) dc) Q := by
      have e : dE (n + 1) b C (.Call (.Attribute o mm apos) args [] pos) ρ = (dE n (rcvB C o ρ) C o ρ >>= fun d => (match d with
        | .obj c fs => (match C.Γ.me.lookup (c, mm) with
          | some F => if (fs.lookup mm).isNone then (seqM (args.map fun e => dE n false C e ρ) >>= fun ds => F (.obj c fs :: ds)) else M.st
          | none => M.st)
        | d => if smT mm d && !args.isEmpty then (seqM (args.map fun e => dE n true C e ρ) >>= fun ds => lift (smD mm d ds)) else M.st)) := by
        show (if mcOk o apos pos args = true then _ else M.st) = _
        rw [if_pos hok] <;> rfl
      rw [← e]; exact post
    cases ho : dE n (rcvB C o ρ) C o ρ dc with
    | st =>
      rw [bind_stt ho] at post
      exact (show False from post).elim
    | er c dc' =>
      rw [bind_er ho] at post
      refine PySem.W.methodCall_KW (pl := (do return (← importBound o X.env).getD true)) (thn ((h.E x (rcvB C o ρ) .bo o rfl).run pins s σ H (fun _ _ => False) I ⟨ρ, G, dc, gs, rs, ?_⟩) fun u s1 ⟨v, H1, I1, rv, f⟩ => f.elim) (meth_ht hok)
      show Post p W (RV p .bo) σ G H (dE n (rcvB C o ρ) C o ρ dc) _
      rw [ho]
      exact post
    | ok d dc1 =>
      rw [bind_ok ho] at post
      have blt : ∀ {T id : String} {g : D → List D → Option D}, PlainAttrs T → PySem.Slot T mm id → typeOf (.builtin id) = pure (.type "method_descriptor") → MtR X id (rMt p m g) → (∀ ds, smD mm d ds = g d ds) →
          (∀ G1 H1 dc1 s1 v u, GS p dc1 G1 H1 → Inv X pins σ H1 s1 → RV p .bo G1 H1 d v → RelV v u → Typ s1 u T) →
          Post p W (RV p m) σ G H ((if smT mm d && !args.isEmpty then (seqM (args.map fun e => dE n true C e ρ) >>= fun ds => lift (smD mm d ds)) else M.st : M D) dc1) Q → wpAny (model X.prog X.w) X.A (eval (.Call (.Attribute o mm apos) args [] pos) X.env) (EP X pins σ Q) X.xe s := fun {T id g} pa slot ty rule hg hT q => by
        split at q
        · rename_i hc
          cases args with
          | nil => simp at hc
          | cons e es =>
            refine e_mtB h x hok pa slot ty rule I gs rs ⟨_, ho⟩ hT ?_
            have : (fun ds => (lift (smD mm d ds) : M D)) = fun ds => lift (g d ds) := funext fun ds => by rw [hg]
            rw [← this]
            exact q
        · exact (show False from q).elim
      have dead : smT mm d = false → Post p W (RV p m) σ G H ((if smT mm d && !args.isEmpty then (seqM (args.map fun e => dE n true C e ρ) >>= fun ds => lift (smD mm d ds)) else M.st : M D) dc1) Q → False := fun hf q => by
        rw [hf] at q
        exact q
      cases d with
      | obj c fs =>
        have hb : rcvB C o ρ = false := by
          cases e : rcvB C o ρ with
          | false => rfl
          | true =>
            rw [e] at ho
            exact absurd ho (rcv_obj e)
        rw [hb] at ho
        have post : Post p W (RV p m) σ G H ((match C.Γ.me.lookup (c, mm) with
          | some F => if (fs.lookup mm).isNone then (seqM (args.map fun e => dE n false C e ρ) >>= fun ds => F (.obj c fs :: ds)) else M.st
          | none => M.st) dc1) Q := post
        cases hF : C.Γ.me.lookup (c, mm) with
        | none =>
          rw [hF] at post
          exact (show False from post).elim
        | some F =>
          rw [hF] at post
          have post : Post p W (RV p m) σ G H ((if (fs.lookup mm).isNone then (seqM (args.map fun e => dE n false C e ρ) >>= fun ds => F (.obj c fs :: ds)) else M.st : M D) dc1) Q := post
          split at post
          · rename_i hn
            exact e_methO h x hok hF hmm I gs rs ho (Option.isNone_iff_eq_none.mp hn) post
          · exact (show False from post).elim
      | str a =>
        by_cases h1 : mm = "join"
        · subst h1
          exact blt F.plainAttrs_str F.slot_str_join F.type_str_join (mt_joinD x.K) (fun ds => rfl) (fun G1 H1 dc1 s1 v u _ _ r rv => typ_str r rv) post
        by_cases h2 : mm = "split"
        · subst h2
          exact blt F.plainAttrs_str F.slot_str_split F.type_str_split mt_splitD (fun ds => rfl) (fun G1 H1 dc1 s1 v u _ _ r rv => typ_str r rv) post
        by_cases h3 : mm = "startswith"
        · subst h3
          exact blt F.plainAttrs_str F.slot_str_startswith F.type_str_startswith mt_startsD (fun ds => rfl) (fun G1 H1 dc1 s1 v u _ _ r rv => typ_str r rv) post
        by_cases h4 : mm = "index"
        · subst h4
          exact blt F.plainAttrs_str F.slot_str_index F.type_str_index mt_indexSD (fun ds => rfl) (fun G1 H1 dc1 s1 v u _ _ r rv => typ_str r rv) post
        · exact (dead (by simp [smT, h1, h2, h3, h4]) post).elim
      | lst a =>
        by_cases h4 : mm = "index"
        · subst h4
          exact blt F.plainAttrs_list F.slot_list_index F.type_list_index (mt_indexLD x.K hu) (fun ds => rfl) (fun G1 H1 dc1 s1 v u g i r rv => typ_lst g i r rv) post
        · exact (dead (by simp [smT, h4]) post).elim
      | dic a =>
        by_cases h4 : mm = "get"
        · subst h4
          exact blt F.plainAttrs_dict F.slot_dict_get F.type_dict_get (mt_getD hu hmm) (fun ds => rfl) (fun G1 H1 dc1 s1 v u g i r rv => typ_dic g i r rv) post
        · exact (dead (by simp [smT, h4]) post).elim
      | _ => exact (dead rfl post).elim
  · refine pe_no (tM_no fun ρ => ?_)
    show (if mcOk o apos pos args = true then _ else M.st) = M.st
    rw [if_neg hok]
/-! ### an empty dict -/
theorem fin_dic0 {dc : Dc} {G H : Hp} {a : Addr} {Q : V → Hp → Prop} (s : GS p dc G H) (hz : Hz p H) (hp : H a = none) (hv : ∀ od, m = .va → Q (.ref a) (upd H a (.frz od (.dK [])))) (fin : ∀ v G' H', GS p dc G' H' → Grow p.da G H G' H' → RV p m G' H' (.dic []) v → Q v H') (hm : m = .fr ∨ m = .bo) : Q (.ref a) (upd H a (.dK [])) := by
  have own : OWn p G (upd H a (.dK [])) a (.dic []) := ⟨.inl ⟨[], upd_same, rfl⟩, s.gnone hp, s.ndice hp, (hz a hp).1⟩
  rcases hm with rfl | rfl
  · exact fin _ _ _ (s.newH hp) (Grow.newH p.da hp) ⟨a, rfl, own, (hz a hp).2⟩
  · exact fin _ _ _ (s.newH hp) (Grow.newH p.da hp) (.inr ⟨a, rfl, own⟩)
end
end Px
set_option maxRecDepth 100000
set_option maxHeartbeats 4000000
/-! PG1: generator expressions: the frame, the loop. -/
namespace Px
open PySem PySem.Spec PyProof.Rows L2 RZ LamX GenW
/-- who walks the generator: its own list, what that holds of what is out; what is said of an item; whether it goes on; what is said at the end -/
structure Csm where
  S : Option Addr
  Sr : List V → List Value → Prop
  inf : List V → V → Hp → Prop
  cont : V → Prop
  fin : List V → Hp → Prop
def Held (Z : Csm) (ys : List V) (s : Shared) : Prop := ∀ S, Z.S = some S → ∃ acc c, s.heap.get? S = some (lstObj acc c) ∧ Z.Sr ys acc.toList
/-- while the generator sleeps -/
structure Slp (Z : Csm) (ys : List V) (s s' : Shared) : Prop where
  os : s'.os = s.os
  bare : AllBare s'.gens
  keep : ∀ b o, Z.S ≠ some b → s.heap.get? b = some o → s'.heap.get? b = some o
  held : Held Z ys s'
/-- it runs: what is out stands in the consumer's list -/
def GJ (X : Cx) (Z : Csm) (ys : List V) (ip : List (Addr × Obj)) (σ : L2.St) (H : Hp) (s : Shared) : Prop := ∃ pc : List (Addr × Obj), Inv X (pc ++ ip) σ H s ∧ match Z.S with
  | none => pc = []
  | some S => ∃ acc c, pc = [(S, lstObj acc c)] ∧ Z.Sr ys acc.toList
section
variable {X : Cx} {Z : Csm} {ys : List V} {ip : List (Addr × Obj)} {σ : L2.St} {H : Hp} {s s' : Shared}
theorem GJ.inv (h : GJ X Z ys ip σ H s) : Inv X ip σ H s := by
  obtain ⟨pc, I, _⟩ := h
  exact I.pins_of fun p hp => I.pin p (List.mem_append_right _ (List.mem_append_right _ hp))
theorem GJ.held (h : GJ X Z ys ip σ H s) : Held Z ys s := fun S hS => by
  obtain ⟨pc, I, q⟩ := h
  rw [hS] at q
  obtain ⟨acc, c, rfl, q⟩ := q
  exact ⟨acc, c, (I.pin (S, lstObj acc c) (List.mem_append_right _ (List.mem_append_left _ (List.mem_singleton.mpr rfl)))).1, q⟩
/-- the consumer's list is none of the frame's -/
theorem GJ.mk' (I : Inv X ip σ H s) (hh : Held Z ys s) (hA : ∀ S, Z.S = some S → H S = none ∧ S ≠ X.env.locals ∧ S ∉ X.fs) : GJ X Z ys ip σ H s := by
  cases hS : Z.S with
  | none => exact ⟨[], I, by rw [hS]⟩
  | some S =>
    obtain ⟨acc, c, e, r⟩ := hh S hS
    obtain ⟨a1, a2, a3⟩ := hA S hS
    refine ⟨[(S, lstObj acc c)], I.pins_of fun p hp => ?_, ?_⟩
    · rcases List.mem_append.mp hp with z | z
      · rw [List.mem_singleton.mp z]
        exact ⟨e, a1, a2, a3, fun v q => by cases q⟩
      · exact I.pin p (List.mem_append_right _ z)
    · rw [hS]
      exact ⟨acc, c, rfl, r⟩
theorem GJ.apart (h : GJ X Z ys ip σ H s) : ∀ S, Z.S = some S → H S = none ∧ S ≠ X.env.locals ∧ S ∉ X.fs := fun S hS => by
  obtain ⟨pc, I, q⟩ := h
  rw [hS] at q
  obtain ⟨acc, c, rfl, q⟩ := q
  obtain ⟨_, h2, h3, h4, _⟩ := I.pin (S, lstObj acc c) (List.mem_append_right _ (List.mem_append_left _ (List.mem_singleton.mpr rfl)))
  exact ⟨h2, h3, h4⟩
/-- woken again -/
theorem GJ.woken {zs : List V} (hpn : ∀ p ∈ X.pn, Z.S ≠ some p.1) (hip : ∀ p ∈ ip, Z.S ≠ some p.1) (hA : ∀ S, Z.S = some S → Apart X S) (h : GJ X Z ys ip σ H s) (z : Slp Z zs s s') : GJ X Z zs ip σ H s' := by
  have ap := h.apart
  have I0 := h.inv
  obtain ⟨z1, z2, z3, z4⟩ := z
  obtain ⟨hh, g, d, t, o⟩ := s'
  have ho : o = s.os := z1
  subst ho
  have nt : ∀ b u, H b = some u → Z.S ≠ some b := fun b u q hb => by
    rw [(ap b hb).1] at q; cases q
  have J : Inv X ip σ H { s with heap := hh, gens := g, drawn := d, toks := t } := by
    cases hS : Z.S with
    | none =>
      have kp : ∀ b ob, s.heap.get? b = some ob → hh.get? b = some ob := fun b ob q => z3 b ob (by rw [hS]; simp) q
      exact I0.call (g' := g) (t' := t) (d' := d) (ch := []) (Un.kept kp) (I0.hok.kept kp) z2 fun b hb => absurd hb (by simp)
    | some S =>
      obtain ⟨hS0, hSL, hSf⟩ := ap S hS
      have nc : ∀ b, b ∉ [S] → Z.S ≠ some b := fun b hb e => hb (by rw [hS] at e; cases e; exact List.mem_singleton.mpr rfl)
      refine I0.step (g' := g) (t' := t) (d' := d) (ch := [S]) (fun b hb => ?_)
        (fun b ob _ _ hc q _ => z3 b ob (nc b hc) q) (fun b ob _ _ hc q _ => ⟨ob.slots, z3 b ob (nc b hc) q⟩) (fun _ _ _ _ n => n) (fun b ob hc q => ⟨ob, z3 b ob (nc b hc) q⟩)
        (fun _ _ q => q) (fun _ _ _ q => q) (fun b ps q => ⟨#[], by rw [q]; simp⟩) (fun m hm => ?_) (fun b u q => ?_) z2
      · rw [List.mem_singleton.mp hb]
        obtain ⟨a1, a2, a3⟩ := hA S hS
        refine ⟨.inr a1, a2, a3, fun p hp e => ?_⟩
        rcases List.mem_append.mp hp with hp | hp
        · exact hpn p hp (by rw [e]; exact hS)
        · exact hip p hp (by rw [e]; exact hS)
      · obtain ⟨ob, es, ep, ho, r⟩ := hm
        exact ⟨ob, es, ep, z3 _ ob (fun e => by rw [hS] at e; cases e; exact hSL rfl) ho, r⟩
      · refine (I0.hok b u q).stay (fun c v hc y => z3 c v ?_ y) (fun _ y => y) fun _ _ y => y
        rcases hc with y | y
        · rw [y]; exact nt b u q
        · exact nt c _ y
  exact GJ.mk' J z4 ap
end
/-- the names of a generator expression: its own (with their places in N), captured ones, globals; the walked thing at «.0» -/
structure GnOk (N : List Str) (sc scope : Scope) (own : List (Str × Nat)) : Prop where
  kind : scope.kind = .function
  co : scope.isCoroutine = false
  uniq : ∀ y ∈ scope.names, scope.names.lookup y.1 = some y.2
  cell : ∀ y ∈ scope.names, y.2 ≠ .cell
  dot : scope.names.lookup (".0" : Str) = some NameKind.local
  ix : ∀ p ∈ own, N[p.2]? = some p.1
  free : ∀ y ∈ scope.names, y.2 = .free → sc.names.lookup y.1 = some .cell ∨ sc.names.lookup y.1 = some .free
  own : ∀ y ∈ scope.names, y.2 = .local → y.1 ∈ own.map (·.1) ∨ y.1 ∉ N
/-- the context of the generator's code -/
abbrev gnX (X : Cx) (A : Around) (s : Shared) (H : Hp) (cenv : Env) (fp : List Addr) (pn : List (Addr × Obj)) : Cx := { X with A := A, s_0 := s, H_0 := H, env := cenv, outer := X.stack, stack := cenv :: X.stack, ex := fp, fn := fun _ => false, pn := pn, xe := fun _ _ => False }
section
variable {X : Cx} {pins : List (Addr × Obj)} {σ : L2.St} {H : Hp} {s : Shared}
/-- at its first waking; s, H: when its frame was about to be made -/
theorem gn_start {scope : Scope} {own : List (Str × Nat)} {fp : List Addr} {A : Around} {code : Value} {bi : Addr} {pn : List (Addr × Obj)} {s' : Shared} {m0 : Str → Option Value} (I : Inv X pins σ H s) (ok : GnOk X.N X.env.scope scope own) (hN : X.N.Nodup) (hfp : ∀ b ∈ fp, FpOk X pins H b ∧ b < s.heap.objs.size)
    (hbi : bi = builtinsNs) (hd : A.handled = none) (hfr : A.frames = some (genEnv scope (cloFrom X.env.cells scope.names []) s.heap.objs.size code bi X.env :: X.stack)) (hos : s'.os = s.os) (hba : AllBare s'.gens) (kp : ∀ b o, s.heap.get? b = some o → s'.heap.get? b = some o) (hns : s'.heap.Ns s.heap.objs.size m0)
    (hpn : ∀ p ∈ pn, s'.heap.get? p.1 = some p.2 ∧ H p.1 = none ∧ p.1 ≠ s.heap.objs.size ∧ p.1 ∉ frs X.stack ∧ ∀ v, p.2.data ≠ .cell v) :
    Inv (gnX X A s H (genEnv scope (cloFrom X.env.cells scope.names []) s.heap.objs.size code bi X.env) fp pn) [] (wipe σ (own.map (·.2))) H s' := by
  have hfree : ∀ y ∈ scope.names, y.2 = .free → ∃ c, X.env.cells.lookup y.1 = some c := fun y hy e => by
    rcases ok.free y hy e with k | k
    · exact I.ok.has _ (.inl k)
    · exact I.ok.has _ (.inr k)
  have cm : ∀ {y c}, (cloFrom X.env.cells scope.names []).lookup y = some c → X.env.cells.lookup y = some c := fun {y c} e => by
    rcases cloFrom_mem (PySem.mem_of_lookup e) with hm | ⟨h1, h2⟩
    · cases hm
    · obtain ⟨c1, hc⟩ := hfree _ h1 rfl
      have hc : X.env.cells.lookup y = some c1 := hc
      have e2 : c = c1 := by
        rw [h2, hc] <;> rfl
      rw [e2]
      exact hc
  have look : ∀ {y}, scope.names.lookup y = some .free → ∃ c, (cloFrom X.env.cells scope.names []).lookup y = some c := fun {y} hl => by
    have hy : (y, NameKind.free) ∈ scope.names := PySem.mem_of_lookup hl
    exact mem_lookup (cloFrom_has (cells := X.env.cells) (acc := []) hy)
  generalize hcenv : genEnv scope (cloFrom X.env.cells scope.names []) s.heap.objs.size code bi X.env = cenv at hfr ⊢
  have hL : cenv.locals = s.heap.objs.size := by rw [← hcenv]; rfl
  have hcl : cenv.cells = cloFrom X.env.cells scope.names [] := by rw [← hcenv]; rfl
  have hsc : cenv.scope = scope := by rw [← hcenv]; rfl
  have hff : cenv.frame = some cenv.locals := by rw [← hcenv]; rfl
  have hbl : cenv.builtins = builtinsNs := by rw [← hcenv]; exact hbi
  have nfr : ∀ b ∈ fp, b ∉ frs X.stack := fun b hb z => by
    rcases List.mem_cons.mp (I.stkSub b z) with z | z
    · exact (hfp b hb).1.2.1 z
    · exact (hfp b hb).1.2.2.1 z
  have okG : (gnX X A s H cenv fp pn).Ok := by
    refine ⟨I.ok.mod, by show cenv.scope.kind = _; rw [hsc]; exact ok.kind, by show cenv.globals = _; rw [← hcenv]; exact I.ok.glob, hbl, by show s.heap.objs.size ≤ cenv.locals; rw [hL]; exact Nat.le_refl _,
      fun y z c e1 e2 => ?_, fun y hy => ?_, fun y c z e => ?_, fun _ => hd, hfr, .inr ⟨rfl, hff⟩, fun b hb => ⟨?_, fun y c e z => ?_⟩, I.bs, Nat.le_trans I.ok.bsz I.sz, fun b o e hb => ?_, fun b hb => nfr b hb, I.stack, I.stkFree⟩
    · have e1 : cenv.cells.lookup y = some c := e1
      have e2 : cenv.cells.lookup z = some c := e2
      rw [hcl] at e1 e2
      exact I.ok.inj y z c (cm e1) (cm e2)
    · have hy : cenv.kindOf y = some .cell ∨ cenv.kindOf y = some .free := hy
      unfold Env.kindOf at hy
      rw [hsc] at hy
      show ∃ c, cenv.cells.lookup y = some c
      rw [hcl]
      rcases hy with hy | hy
      · exact absurd rfl (ok.cell _ (PySem.mem_of_lookup hy))
      · exact look hy
    · cases z
    · show b ≠ cenv.locals
      rw [hL]; exact Nat.ne_of_lt (hfp b hb).2
    · have e : cenv.cells.lookup y = some c := e
      rw [hcl] at e
      exact (hfp b hb).1.2.2.2.2.1 y c (cm e) z
    · rcases (hfp b hb).1.2.2.2.1 with z | z
      · exact I.ok.noex b o e z
      · exact absurd (Nat.lt_of_lt_of_le (Heap.lt_size e) (Nat.le_trans I.ok.bsz z)) (Nat.lt_irrefl _)
  refine ⟨okG, hos, hba, Un.kept kp, ⟨m0, ?_, fun i y av e1 e2 e3 => ?_⟩, fun y c e => ?_, ?_, fun y c e => ?_, fun p hp => ?_, I.hok.kept kp, by rw [wipe_length]; exact I.len⟩
  · show Heap.Ns _ cenv.locals _
    rw [hL]
    exact hns
  · obtain ⟨e2, hne⟩ := wipe_some e2
    have e3 : Vis cenv.scope y := e3
    rw [hsc] at e3
    rcases e3 with k | k | k
    · exfalso
      rcases ok.own _ (PySem.mem_of_lookup k) rfl with e' | e'
      · obtain ⟨p, hp, hpy⟩ := List.mem_map.mp e'
        have e3 := ok.ix p hp
        have : p.1 = y := hpy
        rw [this] at e3
        exact hne (List.mem_map.mpr ⟨p, hp, nodup_ix hN e3 e1⟩)
      · exact e' (List.mem_of_getElem? e1)
    · exact absurd rfl (ok.cell _ (PySem.mem_of_lookup k))
    · obtain ⟨m, hn, hl⟩ := I.loc
      have hvis : Vis X.env.scope y := (ok.free _ (PySem.mem_of_lookup k) rfl).elim (fun k => .inr (.inl k)) (fun k => .inr (.inr k))
      obtain ⟨w, r, q⟩ := hl i y av e1 e2 hvis
      obtain ⟨c2, h2⟩ := look k
      refine ⟨w, r, .inr ⟨.inr (by show cenv.kindOf y = _; unfold Env.kindOf; rw [hsc]; exact k), c2, by rw [hcl]; exact h2, ?_⟩⟩
      have c1 := cm h2
      rcases q with ⟨k', _⟩ | ⟨_, c3, e', z⟩
      · have k' : X.env.scope.names.lookup y = some .local := k'
        rcases ok.free _ (PySem.mem_of_lookup k) rfl with k2 | k2 <;> rw [show X.env.scope.names.lookup y = _ from k2] at k' <;> cases k'
      · rw [c1] at e'
        cases e'
        exact z.keeps kp
  · have e : cenv.cells.lookup y = some c := e
    rw [hcl] at e
    obtain ⟨w', z⟩ := I.cell y c (cm e)
    exact ⟨w', z.keeps kp⟩
  · show H cenv.locals = none
    rw [hL]; exact I.hok.fresh (Nat.le_refl _)
  · have e : cenv.cells.lookup y = some c := e
    rw [hcl] at e
    exact I.freeC y c (cm e)
  · have hp : p ∈ pn := by
      have hp : p ∈ pn ++ [] := hp
      simpa using hp
    obtain ⟨a1, a2, a3, a4, a5⟩ := hpn p hp
    exact ⟨a1, a2, by show p.1 ≠ cenv.locals; rw [hL]; exact a3, a4, a5⟩
end
end Px
set_option maxRecDepth 100000
set_option maxHeartbeats 4000000
/-! PG2: a generator expression with one for: its code. -/
namespace Px
open PySem PySem.Spec PyProof.Rows L2 RZ LamX GenW
/-- an item is handed out -/
def GnY (X : Cx) (pins : List (Addr × Obj)) (σ : L2.St) (Z : Csm) (a : Addr) (g : Nat) : Protocol := fun n s₀ v s kap =>
  ∃ ys y H', RelV y v ∧ s.heap.IsGen a g ∧ Held Z ys s ∧ Inv X pins σ H' s ∧ Z.inf ys y H' ∧ (∀ S, Z.S = some S → H' S = none) ∧ (∀ S, Z.S = some S → s.heap.get? S = s₀.heap.get? S) ∧ (Z.cont y → ∀ s', Slp Z (ys ++ [y]) s s' → kap (.send .none) s')
/-- the end -/
def GnP (X : Cx) (pins : List (Addr × Obj)) (σ : L2.St) (Z : Csm) (a : Addr) (g : Nat) (s₀ s : Shared) : Prop :=
  ∃ ys H', (∀ S, Z.S = some S → s.heap.get? S = s₀.heap.get? S) ∧ s.heap.IsGen a g ∧ Held Z ys s ∧ Inv X pins σ H' s ∧ (∀ S, Z.S = some S → H' S = none) ∧ Z.fin ys H'
abbrev GnR (X : Cx) (pins : List (Addr × Obj)) (σ : L2.St) (Z : Csm) (a : Addr) (g : Nat) : GenEnd := fun n s₀ r s => r = .ok .next ∧ GnP X pins σ Z a g s₀ s
/-- what the walk over J asks -/
def GnW (J : It) (g : TG) (tt : TT) (te : TE) (vs : List Nat) (σ : L2.St) (Z : Csm) (W : Nat → Nat → List V → Hp → Prop) : Prop := ∀ i m ys H, W i m ys H → (J.stop i H ∧ Z.fin ys H) ∨ (J.go i H ∧ 0 < m ∧ ∃ Nx : List V → Hp → Prop, (∀ ys' H', Nx ys' H' → ∃ m', m' < m ∧ W (i + 1) m' ys' H') ∧
  ∀ x H', J.yld i H x H' → g x (wipe σ vs) H' fun σ2 H2 => wipe σ2 vs = wipe σ vs ∧ tt σ2 H2 fun b H3 => if b = true then te σ2 H3 fun y H4 => Z.inf ys y H4 ∧ (Z.cont y → Nx (ys ++ [y]) H4) else Nx ys H3)
theorem over_gen {A : Around} {elt : Expr} {gens : List Comprehension} {scope : Scope} {pos : Pos} {it acc : Value} {env : Env} : A.over (.compLoop (.GeneratorExp elt gens scope pos) 0 it acc env) [] = A.deeper env := by
  first
    | rfl
    | (obtain ⟨hd, d, fr, gs, u⟩ := A; simp [Around.over, Around.deeper, marksOver, frameCount, unitsOf, envsOf, guardsOf, pushEnvs, pushGuards, Code.envs, Code.env?, Code.isFrame, Code.guards, Code.isGuard, Code.weight, Code.frames, Code.isCreation, Code.isCaller, Code.cUnits])
theorem over_genS {A : Around} {elt : Expr} {gens : List Comprehension} {scope : Scope} {pos : Pos} {it acc : Value} {env : Env} : A.over (.compStart (.GeneratorExp elt gens scope pos) 0 it acc env) [] = A.deeper env := by
  first
    | rfl
    | (obtain ⟨hd, d, fr, gs, u⟩ := A; simp [Around.over, Around.deeper, marksOver, frameCount, unitsOf, envsOf, guardsOf, pushEnvs, pushGuards, Code.envs, Code.env?, Code.isFrame, Code.guards, Code.isGuard, Code.weight, Code.frames, Code.isCreation, Code.isCaller, Code.cUnits])
section
variable {X : Cx} {pins : List (Addr × Obj)} {σ : L2.St} {H : Hp} {s0 : Shared} {Z : Csm} {a : Addr} {g : Nat}
theorem gn_loop {A : Around} {cenv : Env} {fp : List Addr} {go : Obj} {elt tg iter : Expr} {ifs : List Expr} {scope : Scope} {pos : Pos} {own : List Nat} {it : Addr} {tn : Nat → Heap → Prop} {J : It} {gg : TG} {tt : TT} {te : TE} {W : Nat → Nat → List V → Hp → Prop}
    (I0 : Inv X pins σ H s0) (hc : X.calm = true) (hch : ∀ b ∈ fp, FpOk X pins H b) (hco : cenv.scope.isCoroutine = false) (hgo : ∀ h : Heap, h.get? a = some go → h.IsGen a g) (hpa : Z.S ≠ some a) (hfa : a ∉ fp) (hSf : ∀ S, Z.S = some S → S ∉ fp)
    (hA : ∀ S, Z.S = some S → Apart (gnX X (A.deeper cenv) s0 H cenv fp [(a, go)]) S)
    (T : Turn X.prog X.w X.K tg J fp it tn) (hg : PG (gnX X (A.deeper cenv) s0 H cenv fp [(a, go)]) tg gg) (ht : PTs (gnX X (A.deeper cenv) s0 H cenv fp [(a, go)]) ifs tt) (he : PE (gnX X (A.deeper cenv) s0 H cenv fp [(a, go)]) elt te)
    (turn : GnW J gg tt te own σ Z W) :
    ∀ (m n i : Nat) (ys : List V) (s₀ s : Shared) (H' : Hp), m ≤ n → W i m ys H' → GJ (gnX X (A.deeper cenv) s0 H cenv fp [(a, go)]) Z ys [] (wipe σ own) H' s → tn i s.heap → (∀ b ∈ fp, H' b = none) → (∀ S, Z.S = some S → s.heap.get? S = s₀.heap.get? S) →
      Seg (model X.prog X.w) A (GnR X pins σ Z a g) (GnY X pins σ Z a g) n s₀ (.compLoop (.GeneratorExp elt [⟨tg, iter, ifs, 0⟩] scope pos) 0 (.ref it) .none cenv)
        ((model X.prog X.w).den (.compLoop (.GeneratorExp elt [⟨tg, iter, ifs, 0⟩] scope pos) 0 (.ref it) .none cenv)) [] s := by
  -- back in the maker's context
  have back : ∀ {ys : List V} {ip : List (Addr × Obj)} {σ' : L2.St} {H' : Hp} {s : Shared}, GJ (gnX X (A.deeper cenv) s0 H cenv fp [(a, go)]) Z ys ip σ' H' s → s.heap.IsGen a g ∧ Held Z ys s ∧ Inv X pins σ H' s ∧ (∀ S, Z.S = some S → H' S = none) := fun {ys ip σ' H' s} hJ => by
    have J := hJ.inv
    refine ⟨hgo _ (J.pin (a, go) (List.mem_append_left _ (List.mem_singleton.mpr rfl))).1, hJ.held, ?_, fun S hS => (hJ.apart S hS).1⟩
    exact I0.call' (ch := fp) J.os J.base J.hok J.bare fun b hb => ⟨(hch b hb).2.2.2.1, (hch b hb).2.1, (hch b hb).2.2.2.2.1, (hch b hb).2.2.2.2.2⟩
  have stat : ∀ {pc : List (Addr × Obj)} {σ' : L2.St} {H' : Hp} {s' : Shared}, Inv (gnX X (A.deeper cenv) s0 H cenv fp [(a, go)]) pc σ' H' s' → (∀ b ∈ fp, H' b = none) → (∀ p ∈ pc, p.1 ∉ fp) → ∀ b ∈ fp, FpOk (gnX X (A.deeper cenv) s0 H cenv fp [(a, go)]) pc H' b := fun {pc σ' H' s'} I' hn hpc b hb =>
    ⟨hn b hb, (I'.ok.exf b hb).1, I'.ok.exfs b hb, .inl hb, fun x c e => (I'.ok.exf b hb).2 x c e, fun p hp e => by
      have hp : p ∈ [(a, go)] ++ pc := hp
      rcases List.mem_append.mp hp with z | z
      · rw [List.mem_singleton.mp z] at e
        exact hfa (by rw [show a = b from e]; exact hb)
      · exact hpc p z (by rw [e]; exact hb)⟩
  intro m
  induction m using Nat.strongRecOn with
  | ind m ih =>
    intro n i ys s₀ s H' hmn w hJ st nf hs0
    show Seg _ A _ _ n s₀ _ ((compTurn (.GeneratorExp elt [⟨tg, iter, ifs, 0⟩] scope pos) 0 (.ref it) .none cenv).onRaise (leaving cenv)) [] s
    rw [compTurn_gen, Sem.onRaise_eq_wrap]
    obtain ⟨pc, I5, hpc⟩ := hJ
    rw [List.append_nil] at I5
    have pcf : ∀ p ∈ pc, p.1 ∉ fp := fun p hp => by
      cases hS : Z.S with
      | none =>
        rw [hS] at hpc
        subst hpc
        cases hp
      | some S =>
        rw [hS] at hpc
        obtain ⟨acc, c, rfl, _⟩ := hpc
        rw [List.mem_singleton.mp hp]
        exact hSf S hS
    have same : ∀ {ip : List (Addr × Obj)} {σ' : L2.St} {H'' : Hp} {s' : Shared}, Inv (gnX X (A.deeper cenv) s0 H cenv fp [(a, go)]) (pc ++ ip) σ' H'' s' → ∀ S, Z.S = some S → s'.heap.get? S = s₀.heap.get? S := fun {ip σ' H'' s'} I' S hS => by
      rw [← hs0 S hS]
      rw [hS] at hpc
      obtain ⟨acc, c, rfl, _⟩ := hpc
      rw [(I'.pin (S, lstObj acc c) (List.mem_append_right _ (List.mem_append_left _ (List.mem_singleton.mpr rfl)))).1, (I5.pin (S, lstObj acc c) (List.mem_append_right _ (List.mem_singleton.mpr rfl))).1]
    refine seg_bind_wrap (wpAny_standAt ?_)
    rcases turn i m ys H' w with ⟨stop, fin⟩ | ⟨gog, m0, Nx, hNx, step⟩
    · have td := T.done (gnX X (A.deeper cenv) s0 H cenv fp [(a, go)]) rfl rfl rfl hc i pc s _ H' (fun _ _ => False) I5 (stat I5 nf pcf) st stop
      rw [← over_gen (A := A) (elt := elt) (gens := [⟨tg, iter, ifs, 0⟩]) (scope := scope) (pos := pos) (it := .ref it) (acc := .none)] at td
      refine seg_bind_wrap (thnF td fun r s6 ⟨hr, I6⟩ => ?_)
      subst hr
      have hJ6 : GJ (gnX X (A.deeper cenv) s0 H cenv fp [(a, go)]) Z ys [] (wipe σ own) H' s6 := ⟨pc, by rw [List.append_nil]; exact I6, hpc⟩
      obtain ⟨b1, b2, b3, b4⟩ := back hJ6
      exact seg_end (.ok .next) ⟨rfl, ys, H', same (ip := []) (by rw [List.append_nil]; exact I6), b1, b2, b3, b4, fin⟩
    · have ti := T.item (gnX X (A.deeper cenv) s0 H cenv fp [(a, go)]) rfl rfl rfl hc i pc s _ H' (fun _ _ => False) I5 (stat I5 nf pcf) st gog
      rw [← over_gen (A := A) (elt := elt) (gens := [⟨tg, iter, ifs, 0⟩]) (scope := scope) (pos := pos) (it := .ref it) (acc := .none)] at ti
      refine seg_bind_wrap (thnF ti fun r s6 ⟨u, hr, h6⟩ => ?_)
      subst hr
      refine seg_bind_wrap (thnF h6 fun _ s7 ⟨x, H7, I7, r7, y7, st7, n7⟩ => ?_)
      have I7' := I7.pinned (stat I7 n7 pcf) (T.obj _ _ st7)
      have rg := hg.run _ s7 _ H7 x u _ I7' r7 (step x H7 y7)
      have eA : (gnX X (A.deeper cenv) s0 H cenv fp [(a, go)]).A = A.over (.compLoop (.GeneratorExp elt [⟨tg, iter, ifs, 0⟩] scope pos) 0 (.ref it) .none cenv) [] := over_gen.symm
      rw [eA] at rg
      refine seg_bind_wrap (thnF rg fun _ s8 ⟨σ8, H8, I8, hw8, q8⟩ => ?_)
      have rt := ht.run _ s8 σ8 H8 _ I8 q8
      rw [eA] at rt
      refine seg_bind_wrap (thnF rt fun b s9 ⟨H9, I9, q9⟩ => ?_)
      have fin : ∀ {s' : Shared} {H'' : Hp} {ys' : List V} (n' : Nat) (s₀' : Shared), GJ (gnX X (A.deeper cenv) s0 H cenv fp [(a, go)]) Z ys' (pinsAt fp s7.heap) σ8 H'' s' → Nx ys' H'' → m ≤ n' + 1 → (∀ S, Z.S = some S → s'.heap.get? S = s₀'.heap.get? S) → Seg (model X.prog X.w) A (GnR X pins σ Z a g) (GnY X pins σ Z a g) n' s₀' (.compLoop (.GeneratorExp elt [⟨tg, iter, ifs, 0⟩] scope pos) 0 (.ref it) .none cenv)
          ((model X.prog X.w).den (.compLoop (.GeneratorExp elt [⟨tg, iter, ifs, 0⟩] scope pos) 0 (.ref it) .none cenv)) [] s' := fun {s' H'' ys'} n' s₀' hJ' nx hmn' hs' => by
        obtain ⟨m', hm, w'⟩ := hNx ys' H'' nx
        obtain ⟨pc', I', hpc'⟩ := hJ'
        have pin' : ∀ b ∈ fp, ∀ o, s7.heap.get? b = some o → s'.heap.get? b = some o ∧ H'' b = none := fun b hb o e =>
          let z := I'.pin (b, o) (List.mem_append_right _ (List.mem_append_right _ (mem_pinsAt hb e)))
          ⟨z.1, z.2.1⟩
        have hl : (wipe σ own).length = σ8.length := by rw [← hw8, wipe_length]
        refine ih m' hm n' (i + 1) ys' s₀' s' H'' (by omega) w' ⟨pc', ?_, hpc'⟩ (T.keep _ _ _ st7 fun b hb o e => (pin' b hb o e).1) (fun b hb => ?_) hs'
        · rw [List.append_nil]
          refine (I'.unpinned (pins := pc')).weak hl fun j v e => ?_
          rw [← hw8] at e
          exact (wipe_some e).1
        · obtain ⟨o, e, _⟩ := T.obj _ _ st7 b hb
          exact (pin' b hb o e).2
      cases b with
      | false =>
        simp only [Bool.false_eq_true, if_false] at q9 ⊢
        exact seg_again rfl (fin n s₀ ⟨pc, I9, hpc⟩ q9 (by omega) (same I9))
      | true =>
        simp only [if_true] at q9 ⊢
        have hy : ∀ v, yieldOut cenv v = yieldValue v := fun v => by simp only [yieldOut, hco, Bool.false_eq_true, if_false]
        simp only [hy]
        rw [Sem.bind_eq_wrap', Sem.bind_eq_wrap', Sem.wrap_wrap, Sem.wrap_wrap]
        have re := he.run _ s9 σ8 H9 _ I9 q9
        rw [eA] at re
        refine seg_wrap (thnF re fun z s10 ⟨yv, H10, I10, r10, hinf, nx⟩ => ?_)
        have hJ10 : GJ (gnX X (A.deeper cenv) s0 H cenv fp [(a, go)]) Z ys (pinsAt fp s7.heap) σ8 H10 s10 := ⟨pc, I10, hpc⟩
        obtain ⟨b1, b2, b3, b4⟩ := back hJ10
        obtain ⟨n', rfl⟩ : ∃ n', n = n' + 1 := ⟨n - 1, by omega⟩
        refine seg_at (seg_yield rfl rfl rfl ⟨ys, yv, H10, r10, b1, b2, b3, hinf, b4, same I10, fun hcont s' hz => ?_⟩)
        refine seg_again rfl (fin n' s' (GJ.woken (fun p hp e => ?_) (fun p hp e => ?_) hA hJ10 hz) (nx hcont) (by omega) (fun S hS => rfl))
        · have hp : p ∈ [(a, go)] := hp
          rw [List.mem_singleton.mp hp] at e
          exact hpa e
        · exact hSf _ e (of_pinsAt hp).1
/-- it begins -/
theorem gn_begin {A : Around} {cenv : Env} {fp : List Addr} {elt tg iter : Expr} {ifs : List Expr} {scope : Scope} {pos : Pos} {it : Addr} {tn : Nat → Heap → Prop} {J : It} {R : GenEnd} {Y : Protocol} {n : Nat} {s₀ s : Shared}
    (T : Turn X.prog X.w X.K tg J fp it tn) (st : tn 0 s.heap)
    (loop : Seg (model X.prog X.w) A R Y n s₀ (.compLoop (.GeneratorExp elt [⟨tg, iter, ifs, 0⟩] scope pos) 0 (.ref it) .none cenv)
        ((model X.prog X.w).den (.compLoop (.GeneratorExp elt [⟨tg, iter, ifs, 0⟩] scope pos) 0 (.ref it) .none cenv)) [] s) :
    Seg (model X.prog X.w) A R Y n s₀ (.compStart (.GeneratorExp elt [⟨tg, iter, ifs, 0⟩] scope pos) 0 (.ref it) .none cenv)
        ((model X.prog X.w).den (.compStart (.GeneratorExp elt [⟨tg, iter, ifs, 0⟩] scope pos) 0 (.ref it) .none cenv)) [] s := by
  show Seg _ A _ _ _ s₀ _ ((compStart (.GeneratorExp elt [⟨tg, iter, ifs, 0⟩] scope pos) 0 (.ref it) .none cenv).onRaise (leaving cenv)) [] s
  unfold compStart
  rw [Sem.onRaise_eq_wrap]
  show Seg _ A _ _ _ s₀ _ ((ask >>= _).wrap _ _ _ _) [] s
  refine seg_bind_wrap (wpAny_askSetting ?_)
  split
  · exact seg_again rfl loop
  · first
      | exact seg_bind_wrap (wpAny_rule (seg_bind_wrap (wpAny_standAt (seg_bind_wrap (T.self _ 0 s _ _ st (seg_again rfl loop))))))
      | (refine seg_bind_wrap (wpAny_rule ?_); show Seg _ A _ _ _ s₀ _ ((standAt iter.pos >>= _).wrap _ _ _ _) [] s; exact seg_bind_wrap (wpAny_standAt (seg_bind_wrap (T.self _ 0 s _ _ st (seg_again rfl loop)))))
/-- the generator sleeps, n more items at most -/
def GSt (X : Cx) (pins : List (Addr × Obj)) (σ : L2.St) (Z : Csm) (A : Around) (a : Addr) (g n : Nat) (s : Shared) : Prop :=
  s.heap.IsGen a g ∧ s.heap.NoLimit ∧ ∃ gs, s.gens[g]? = some gs ∧ gs.Goes (model X.prog X.w) A (GnR X pins σ Z a g) (GnY X pins σ Z a g) n (.send .none) (s.setGen g .running)
/-- the state behind an item -/
structure GIt (X : Cx) (pins : List (Addr × Obj)) (σ : L2.St) (Z : Csm) (A : Around) (a : Addr) (g n : Nat) (s₀ s : Shared) (ys : List V) (y : V) (v : Value) (H' : Hp) : Prop where
  rel : RelV y v
  held : Held Z ys s
  inv : Inv X pins σ H' s
  inf : Z.inf ys y H'
  ap : ∀ S, Z.S = some S → H' S = none
  same : ∀ S, Z.S = some S → s.heap.get? S = s₀.heap.get? S
  go : Z.cont y → ∀ s', s'.gens = s.gens → Slp Z (ys ++ [y]) s s' → ∃ n', n' < n ∧ GSt X pins σ Z A a g n' s'
theorem setGen_inv {s : Shared} {H' : Hp} {gs : GenState} (I : Inv X pins σ H' s) (hb : gs.bare = true) : Inv X pins σ H' (s.setGen g gs) :=
  I.call' (s' := s.setGen g gs) (ch := []) rfl (Un.kept fun b o q => q) (I.hok.kept fun b o q => q) (allBare_setGen I.bare hb) fun b z => by simp at z
theorem gn_next {A : Around} {n : Nat} {s : Shared} {Q : Option Value → Shared → Prop} {E : Value → Shared → Prop} (hh : A.handled = none) (hroom : A.depth < recursionLimit) (hSa : Z.S ≠ some a) (hS0 : ∀ S, Z.S = some S → S ≠ cStatics) (h : GSt X pins σ Z A.in1 a g n s)
    (hY : ∀ v s1 ys y H', GIt X pins σ Z A.in1 a g n s s1 ys y v H' → Q (some v) s1) (hP : ∀ s1, GnP X pins σ Z a g s s1 → Q none s1) : wpAny (model X.prog X.w) A (pyNext (.ref a)) Q E s := by
  obtain ⟨hg, hl, gs, hgs, hgo⟩ := h
  have hgl : g < s.gens.size := (Array.getElem?_eq_some_iff.mp hgs).1
  refine wpAny_mono (wpAny_gsz (n := g + 1) (E := E) hgl (wpAny_pyNext_genexpQ (E := fun e s' => g + 1 ≤ s'.gens.size → E e s') (P := fun n s₀ s₁ => GnP X pins σ Z a g s₀ s₁) (Q := fun o s' => g + 1 ≤ s'.gens.size → Q o s') hh hl hroom hg hgs hgo (fun v s₁ gs' hb hv => ?_) (fun s₁ hp h' hk => ?_))) (fun _ _ q => q) fun _ _ q => q
  · intro hsz
    obtain ⟨ys, y, H', rv, hg1, hd, I, inf, ap, sm, kap⟩ := hv
    have hsz1 : g < s₁.gens.size := by
      have q : (s₁.setGen g gs').gens.size = s₁.gens.size := setGen_size _ _ _
      have hsz' : g + 1 ≤ (s₁.setGen g gs').gens.size := hsz
      omega
    refine hY v _ ys y H' ⟨rv, hd, setGen_inv I hb, inf, ap, sm, fun hc s' hgn hz => ?_⟩
    have hz1 : Slp Z (ys ++ [y]) s₁ (s'.setGen g .running) := ⟨hz.os, allBare_setGen hz.bare rfl, hz.keep, hz.held⟩
    cases n with
    | zero => exact (show False from kap hc _ hz1).elim
    | succ n' =>
      refine ⟨n', Nat.lt_succ_self _, ?_, ?_, gs', ?_, kap hc _ hz1⟩
      · obtain ⟨o, nm, qn, ho, r⟩ := hg1
        exact ⟨o, nm, qn, hz.keep a o hSa ho, r⟩
      · obtain ⟨mc, hns, hnn⟩ := I.nolimit
        exact ⟨mc, hns.at' fun o e => hz.keep _ o (fun z => hS0 _ z rfl) e, hnn⟩
      · rw [hgn]
        exact setGen_at hsz1
  · intro hsz
    obtain ⟨ys, H', sm, hg1, hd, I, ap, fin⟩ := hp
    refine hP _ ⟨ys, H', fun S hS => ?_, ?_, ?_, ?_, ap, fin⟩
    · obtain ⟨acc, c, e, r⟩ := hd S hS
      rw [hk _ _ e]
      exact e.symm.trans (sm S hS)
    · exact hg1.keeps hk
    · intro S hS
      obtain ⟨acc, c, e, r⟩ := hd S hS
      exact ⟨acc, c, hk _ _ e, r⟩
    · exact (setGen_inv (g := g) (gs := .finished) I rfl).kept (t' := s₁.toks) hk
end
end Px
set_option maxRecDepth 100000
set_option maxHeartbeats 4000000
/-! PG3: a generator expression is made. -/
namespace Px
open PySem PySem.Spec PyProof.Rows L2 RZ LamX GenW
/-- the table at P has grown -/
def TGrow (P : Addr) (H H' : Hp) : Prop := (∃ ps more, H P = some (.tbl ps) ∧ H' P = some (.tbl (ps ++ more))) ∧ ∀ b, b ≠ P → H' b = H b
section
variable {X : Cx} {pins : List (Addr × Obj)} {σ : L2.St} {H : Hp} {s : Shared}
/-- ready to be walked -/
structure Ready (X : Cx) (pins : List (Addr × Obj)) (σ : L2.St) (H2 : Hp) (J : It) (gg : TG) (tt : TT) (te : TE) (own : List Nat) (k : Nat) (a : Addr) (s5 : Shared) : Prop where
  inv : Inv X pins σ H2 s5
  lt : a < s5.heap.objs.size
  go : ∃ g, s5.heap.IsGen a g ∧ g < s5.gens.size ∧ ∀ (A : Around) (Z : Csm) (W : Nat → Nat → List V → Hp → Prop) (m : Nat) (s6 : Shared), Room (k + 1) A → A.frames = some X.stack → (∀ b o, s5.heap.get? b = some o → s6.heap.get? b = some o) → s6.os = s5.os → AllBare s6.gens → s6.gens[g]? = s5.gens[g]? →
    (∀ S, Z.S = some S → s5.heap.objs.size ≤ S) → Held Z [] s6 → W 0 m [] H2 → GnW J gg tt te own σ Z W → GSt X pins σ Z A a g m s6
theorem TGrow.tabq {P : Addr} {H H' : Hp} {t : Addr × List (Nat × Nat) × Str} (g : TGrow P H H') (ht : t.1 ≠ P) (x : TabQ H t) : TabQ H' t := by
  obtain ⟨⟨p0, more, h0, _⟩, hb⟩ := g
  obtain ⟨ps, h1, h2, h3⟩ := x
  refine ⟨ps, by rw [hb _ ht]; exact h1, h2, fun pos cv hc hp => ?_⟩
  obtain ⟨c, e1, e2⟩ := h3 pos cv hc hp
  exact ⟨c, e1, by rw [hb _ (fun z => by rw [z, h0] at e2; cases e2)]; exact e2⟩
theorem gn_make {T : List (Addr × List (Nat × Nat) × Str)} {lp : List (Nat × Nat)} {c P : Addr} {elt tg iter : Expr} {ifs : List Expr} {scope : Scope} {gpos : Pos} {own : List (Str × Nat)} {wi : TI} {gg : TG} {tt : TT} {te : TE} {k : Nat} {Q' : Value → Shared → Prop} {K : It → Hp → Prop}
    (hr : Room (k + 3) X.A) (hc : X.calm = true) (hN : X.N.Nodup) (TB : LamX.TabB X.base X.mg c P) (hcode : X.env.code = .ref c) (hm : (P, lp, X.env.qual) ∈ T) (hu : ∀ t ∈ T, t.1 = P → t = (P, lp, X.env.qual)) (hlp : (gpos.line, gpos.col) ∉ lp)
    (S : GnOk X.N X.env.scope scope own) (hi : PI X tg iter wi)
    (hg : ∀ (A : Around) (s : Shared) (H : Hp) (C : Addr) (code : Value) (fp : List Addr) (pn : List (Addr × Obj)), Room k A → PG (gnX X A s H (genEnv scope (cloFrom X.env.cells scope.names []) C code builtinsNs X.env) fp pn) tg gg)
    (ht : ∀ (A : Around) (s : Shared) (H : Hp) (C : Addr) (code : Value) (fp : List Addr) (pn : List (Addr × Obj)), Room k A → PTs (gnX X A s H (genEnv scope (cloFrom X.env.cells scope.names []) C code builtinsNs X.env) fp pn) ifs tt)
    (he : ∀ (A : Around) (s : Shared) (H : Hp) (C : Addr) (code : Value) (fp : List Addr) (pn : List (Addr × Obj)), Room k A → PE (gnX X A s H (genEnv scope (cloFrom X.env.cells scope.names []) C code builtinsNs X.env) fp pn) elt te)
    (hs : ∀ v, genFold iter X.env v = pure v) (I : Inv X pins σ H s) (h : wi σ H fun J H1 => (∀ t ∈ T, TabQ H1 t) ∧ ∀ H2, TGrow P H1 H2 → (∀ t ∈ T, TabQ H2 t) → K J H2)
    (hQ : ∀ J H2 a s5, K J H2 → Ready X pins σ H2 J gg tt te (own.map (·.2)) k a s5 → Q' (.ref a) s5) :
    wpAny (model X.prog X.w) X.A (eval (.GeneratorExp elt [⟨tg, iter, ifs, 0⟩] scope gpos) X.env) Q' X.xe s := by
  have hfree : ∀ y ∈ scope.names, y.2 = .free → ∃ c, X.env.cells.lookup y.1 = some c := fun y hy e => by
    rcases S.free y hy e with k | k
    · exact I.ok.has _ (.inl k)
    · exact I.ok.has _ (.inr k)
  refine wpAny_GeneratorExp_make S.co (closure_ok hfree) S.cell S.dot S.kind hr.depth (thn (hi.run pins s σ H _ I h) fun xv s1 hx => thn hx fun itv s2 h2 => ?_) hs
  obtain ⟨it, fp, tn, J, H1, e, I1, Tn, st1, f1, hT, hK⟩ := h2
  subst e
  obtain ⟨ps, hP, htr, ha⟩ := (show TabQ H1 (P, lp, X.env.qual) from hT _ hm)
  have hP : H1 P = some (.tbl ps) := hP
  have hPs : s2.heap.get? P = some { cls := .none, data := .fields ps } := I1.hok P _ hP
  have hPlt : P < s2.heap.objs.size := Heap.lt_size hPs
  have cd : PySem.W.CodeHd s2.heap c P := TB.code.keeps fun b u e => I1.bk b u e
  refine ⟨I1.nolimit, ?_⟩
  have fsz : ∀ b ∈ fp, b < s2.heap.objs.size := fun b hb => by
    obtain ⟨o, e, _⟩ := Tn.obj _ _ st1 b hb
    exact Heap.lt_size e
  have cont : ∀ (code : Value) (h3 : Heap) (tk : Nat) (more : Array Value), (∀ b o, b ≠ P → s2.heap.get? b = some o → h3.get? b = some o) → s2.heap.objs.size ≤ h3.objs.size → h3.get? P = some { cls := .none, data := .fields (ps ++ more) } →
      TGrow P H1 (upd H1 P (.tbl (ps ++ more))) → (∀ t ∈ T, TabQ (upd H1 P (.tbl (ps ++ more))) t) →
      wpAny (model X.prog X.w) X.A (builtinsFor X.env.globals X.env.builtins) (fun bi s₄ => ∀ h', h'.Ns s₄.heap.objs.size (fun y => if y = ".0" then some (.ref it) else none) → Heap.SameBut s₄.heap.objs.size (s₄.heap.push { cls := .type "frame", data := .dict #[] }) h' →
          Q' (.ref h'.objs.size) { s₄ with
            gens := s₄.gens.push (.fresh (.compStart (.GeneratorExp elt [⟨tg, iter, ifs, 0⟩] scope gpos) 0 (.ref it) .none (genEnv scope (cloFrom X.env.cells scope.names []) s₄.heap.objs.size code bi X.env))),
            toks := s₄.toks + 1 + 1 + 1,
            heap := h'.push { cls := .type "generator", data := .fields #[.int s₄.gens.size 0, .str "<genexpr>" (s₄.toks + 1), .str (X.env.qual ++ "<genexpr>") (s₄.toks + 1 + 1)] } }) X.xe { s2 with heap := h3, toks := tk } := by
    intro code h3 tk more hx hsz hP3 tg3 tq3
    obtain ⟨bm, ob, e1, e2, e3, e4, e5, e6, e7, e8⟩ := TB.bm
    refine wpAny_builtinsFor (m := X.mg) (by rw [I1.ok.glob]; exact (I1.mod.glob.keeps I1.bk).at' fun o e => hx _ o TB.gP e) e1 e2 (hx _ _ e4 (I1.bk _ _ e5)) e6 e7 e8 ?_
    have I3 : Inv X pins σ (upd H1 P (.tbl (ps ++ more))) { s2 with heap := h3, toks := tk } := GxR.inv_tab (g' := s2.gens) (d' := s2.drawn) I1 hP hx hP3 I1.bare
    intro h' hns hsb
    have nfpP : ∀ b ∈ fp, b ≠ P := fun b hb z => by
      have q := (f1 b hb).1
      rw [z, hP] at q
      cases q
    have sz' : h'.objs.size = h3.objs.size + 1 := by rw [hsb.1, Heap.size_push]
    have kp' : ∀ b o, h3.get? b = some o → h'.get? b = some o := fun b o e => hsb.extBut b o (Nat.ne_of_lt (Heap.lt_size e)) (Heap.get?_push_of_some _ e)
    generalize hgo : ({ cls := .type "generator", data := .fields #[.int s2.gens.size 0, .str "<genexpr>" (tk + 1), .str (X.env.qual ++ "<genexpr>") (tk + 1 + 1)] } : Obj) = go
    have hgen : ∀ h : Heap, h.get? h'.objs.size = some go → h.IsGen h'.objs.size s2.gens.size := fun h e => ⟨go, _, _, e, by rw [← hgo], by rw [← hgo], by rw [← hgo]⟩
    have pushed : (h'.push go).get? h'.objs.size = some go := by rw [← hgo]; exact Heap.get?_push_size _ rfl
    have kp5 : ∀ b o, h3.get? b = some o → (h'.push go).get? b = some o := fun b o e => Heap.get?_push_of_some _ (kp' b o e)
    have f3 : ∀ b ∈ fp, FpOk X pins (upd H1 P (.tbl (ps ++ more))) b ∧ b < h3.objs.size := fun b hb => ⟨⟨by rw [upd_ne (nfpP b hb)]; exact (f1 b hb).1, (f1 b hb).2⟩, Nat.lt_of_lt_of_le (fsz b hb) hsz⟩
    have st3 : tn 0 h3 := Tn.keep _ _ _ st1 fun b hb o e => hx b o (nfpP b hb) e
    have young : ∀ b, h3.objs.size ≤ b → upd H1 P (.tbl (ps ++ more)) b = none ∧ b ∉ frs X.stack ∧ X.s_0.heap.objs.size ≤ b := fun b hb => by
      refine ⟨I3.hok.fresh hb, fun z => ?_, Nat.le_trans I3.sz hb⟩
      rcases List.mem_cons.mp (I3.stkSub b z) with z | z
      · have := I3.lt
        rw [← z] at this
        exact absurd (Nat.lt_of_lt_of_le this hb) (Nat.lt_irrefl _)
      · exact I3.nofs hb z
    have bare5 : AllBare (s2.gens.push (.fresh (.compStart (.GeneratorExp elt [⟨tg, iter, ifs, 0⟩] scope gpos) 0 (.ref it) .none (genEnv scope (cloFrom X.env.cells scope.names []) h3.objs.size code builtinsNs X.env)))) := AllBare.push I1.bare rfl
    refine hQ J _ h'.objs.size _ (hK _ tg3 tq3) ⟨?_, ?_, s2.gens.size, hgen _ pushed, ?_, fun A Z W m s6 hrA hfr k6 os6 ba6 g6 hS6 held6 w6 turn => ?_⟩
    · exact I3.call (t' := tk + 1 + 1 + 1) (g' := _) (d' := s2.drawn) (ch := []) (Un.kept kp5) (I3.hok.kept kp5) bare5 fun b hb => absurd hb (by simp)
    · show _ < (h'.push go).objs.size
      rw [Heap.size_push]; exact Nat.lt_succ_self _
    · show s2.gens.size < (s2.gens.push _).size
      rw [Array.size_push]; exact Nat.lt_succ_self _
    have g6 : s6.gens[s2.gens.size]? = some (.fresh (.compStart (.GeneratorExp elt [⟨tg, iter, ifs, 0⟩] scope gpos) 0 (.ref it) .none (genEnv scope (cloFrom X.env.cells scope.names []) h3.objs.size code builtinsNs X.env))) := by
      rw [g6]
      exact Array.getElem?_push_size ..
    have k36 : ∀ b o, h3.get? b = some o → s6.heap.get? b = some o := fun b o e => k6 b o (kp5 b o e)
    have go6 : s6.heap.get? h'.objs.size = some go := k6 _ _ pushed
    have lim6 : s6.heap.NoLimit := I3.nolimit.keeps k36
    refine ⟨hgen _ go6, lim6, _, g6, rfl, ?_⟩
    have hdA : Room k (A.deeper (genEnv scope (cloFrom X.env.cells scope.names []) h3.objs.size code builtinsNs X.env)) := hrA.deeper _
    have szC : h'.objs.size ≠ h3.objs.size := by rw [sz']; exact Nat.succ_ne_self _
    have yg := young h'.objs.size (by rw [sz']; exact Nat.le_succ _)
    have ns6 : (s6.setGen s2.gens.size .running).heap.Ns h3.objs.size (fun y => if y = ".0" then some (.ref it) else none) := hns.keeps fun b o e => k6 b o (Heap.get?_push_of_some _ e)
    have start := gn_start (s' := s6.setGen s2.gens.size .running) (A := A.deeper (genEnv scope (cloFrom X.env.cells scope.names []) h3.objs.size code builtinsNs X.env)) (code := code) (bi := builtinsNs) (pn := [(h'.objs.size, go)]) I3 S hN f3 rfl hrA.hd (Around.frames_deeper hfr) os6 (allBare_setGen ba6 rfl) k36 ns6 (fun p hp => by
      rw [List.mem_singleton.mp hp]
      exact ⟨go6, yg.1, szC, yg.2.1, fun v q => by rw [← hgo] at q; cases q⟩)
    refine gn_begin Tn (Tn.keep _ _ _ st3 fun b _ o e => k36 b o e) ?_
    have cellN : ∀ x c, (genEnv scope (cloFrom X.env.cells scope.names []) h3.objs.size code builtinsNs X.env).cells.lookup x = some c → c < h3.objs.size := fun x c e => by
      obtain ⟨v, z⟩ := start.cell x c e
      have e : (cloFrom X.env.cells scope.names []).lookup x = some c := e
      rcases cloFrom_mem (PySem.mem_of_lookup e) with hm | ⟨h1, h2⟩
      · cases hm
      · obtain ⟨c1, hc1⟩ := hfree _ h1 rfl
        have hc1 : X.env.cells.lookup x = some c1 := hc1
        have e2 : c = c1 := by
          rw [h2, hc1] <;> rfl
        subst e2
        obtain ⟨v, z⟩ := I3.cell _ _ hc1
        exact z.lt
    have apS : ∀ S, Z.S = some S → h'.objs.size < S := fun S hS => by
      have := hS6 S hS
      have q : (h'.push go).objs.size ≤ S := this
      rw [Heap.size_push] at q
      exact q
    have apS3 : ∀ S, Z.S = some S → h3.objs.size < S := fun S hS => Nat.lt_trans (by rw [sz']; exact Nat.lt_succ_self _) (apS S hS)
    refine gn_loop I3 hc (fun b hb => (f3 b hb).1) S.co hgen (fun z => Nat.lt_irrefl _ (apS _ z)) (fun hb => ?_) (fun S hS hb => ?_) (fun S hS => ?_) Tn (hg _ _ _ _ _ _ _ hdA) (ht _ _ _ _ _ _ _ hdA) (he _ _ _ _ _ _ _ hdA) turn m m 0 [] _ _ _ (Nat.le_refl _) w6 ?_ (Tn.keep _ _ _ st3 fun b _ o e => k36 b o e) (fun b hb => (f3 b hb).1.1) (fun S hS => rfl)
    · have := (f3 _ hb).2
      rw [sz'] at this
      exact absurd this (Nat.not_lt.mpr (Nat.le_succ _))
    · exact Nat.lt_asymm (f3 _ hb).2 (apS3 S hS)
    · refine ⟨Nat.le_of_lt (apS3 S hS), Nat.ne_of_gt (apS3 S hS), fun x c e z => ?_⟩
      have := cellN x c e
      rw [z] at this
      exact Nat.lt_asymm this (apS3 S hS)
    · refine GJ.mk' start held6 fun S hS => ?_
      exact ⟨(young S (Nat.le_of_lt (apS3 S hS))).1, Nat.ne_of_gt (apS3 S hS), (young S (Nat.le_of_lt (apS3 S hS))).2.1⟩
  cases hf : codeAmong gpos ps.toList with
  | none =>
    refine wpAny_genexprCodeX hcode (cd.code hPs htr) (cd.tab hPs) hf fun c' h' tk hx hge hlt hco' _ htab' _ => ?_
    have hP3 : h'.get? P = some { cls := .none, data := .fields (ps ++ #[rawInt gpos.line, rawInt gpos.col, .ref c']) } := htab'.2
    have tg3 : TGrow P H1 (upd H1 P (.tbl (ps ++ #[rawInt gpos.line, rawInt gpos.col, .ref c']))) := ⟨⟨ps, _, hP, upd_same⟩, fun b hb => upd_ne hb⟩
    have eL : (ps ++ #[rawInt gpos.line, rawInt gpos.col, .ref c']).toList = ps.toList ++ [rawInt gpos.line, rawInt gpos.col, .ref c'] := by simp
    refine cont _ h' tk _ (fun b o hb e => hx b o hb e) (Nat.le_trans hge (Nat.le_of_lt hlt)) hP3 tg3 fun t ht' => ?_
    by_cases hb : t.1 = P
    · obtain rfl := hu t ht' hb
      refine ⟨_, upd_same, by rw [eL]; exact PySem.TriplesOk_snoc _ _ _ _ htr, fun p' cv hcv hp' => ?_⟩
      rw [eL] at hcv
      rcases NdefX.among_app2 _ htr hcv with z | ⟨_, z1, z2⟩
      · obtain ⟨c0, e1, e2⟩ := ha p' cv z hp'
        exact ⟨c0, e1, by rw [upd_ne (fun z => by rw [z, hP] at e2; cases e2)]; exact e2⟩
      · exact absurd (by rw [z1, z2]; exact hp') hlp
    · exact tg3.tabq hb (hT t ht')
  | some cv =>
    refine wpAny_genexprCode_hit hcode (cd.code hPs htr) hf ?_
    have hPs' : s2.heap.get? P = some { cls := .none, data := .fields (ps ++ #[]) } := by simpa using hPs
    have e0 : upd H1 P (.tbl (ps ++ #[])) = H1 := by
      funext b
      by_cases hb : b = P
      · rw [hb, upd_same, hP]; simp
      · rw [upd_ne hb]
    refine cont cv s2.heap s2.toks #[] (fun b o _ e => e) (Nat.le_refl _) hPs' ⟨⟨ps, #[], hP, upd_same⟩, fun b hb => upd_ne hb⟩ fun t ht' => ?_
    rw [e0]
    exact hT t ht'
end
end Px
set_option maxRecDepth 100000
set_option maxHeartbeats 4000000
/-! PG4: what takes a generator's items: any, all, lists. -/
namespace Px
open PySem PySem.Spec PyProof.Rows L2 RZ LamX GenW
section
variable {X : Cx} {pins : List (Addr × Obj)} {σ : L2.St} {H : Hp} {s : Shared} {a : Addr} {g n : Nat}
theorem Slp.refl {Z : Csm} {ys : List V} {s : Shared} (hS : Z.S = none) (hb : AllBare s.gens) : Slp Z ys s s := ⟨rfl, hb, fun _ _ _ e => e, fun S q => by rw [hS] at q; cases q⟩
/-- the consumer that looks at each item and keeps none -/
def lookZ (stop : Bool) (Q : Bool → Hp → Prop) : Csm := ⟨none, fun _ _ => True, fun _ y H => ∃ b, y = .bl b ∧ (b = stop → Q stop H), fun y => y = .bl (!stop), fun _ H => Q (!stop) H⟩
theorem gn_any {Q : Bool → Hp → Prop} {A : Around} {R : Result → Shared → Prop} (hh : A.handled = none) (hroom : A.in1.depth < recursionLimit)
    (hR : ∀ b H' s', Inv X pins σ H' s' → Q b H' → R (.ok (.ret (.bool b))) s') :
    ∀ (n : Nat) (s : Shared), GSt X pins σ (lookZ true Q) A.in1.in1 a g n s → codeAny (model X.prog X.w) A (.builtin "any.loop" ⟨[.ref a], []⟩) R s := by
  intro n
  induction n using Nat.strongRecOn with
  | ind n ih =>
    intro s h
    refine codeAny_builtin F.entry_any_loop ?_
    rw [Around.under_plainId F.plain_any_loop _]
    show wpAny _ A.in1 (pyNext (.ref a) >>= _) _ _ s
    refine wpAny_bind (gn_next (A := A.in1) hh hroom (fun z => by cases z) (fun S z => by cases z) h (fun v s1 ys y H' it => ?_) fun s1 p => ?_)
    · obtain ⟨b, rfl, hq⟩ := it.inf
      obtain rfl := (show v = Value.bool b from it.rel)
      refine wpAny_bind (wpAny_holding (wpAny_truthy_bool ?_))
      refine wpAny_bind (wpAny_letGo ?_)
      cases b with
      | false =>
        obtain ⟨n', h1, h2⟩ := it.go rfl s1 rfl (Slp.refl rfl it.inv.bare)
        simp only [Bool.false_eq_true, if_false]
        exact wpAny_pure ⟨plainId_quiet F.plain_any_loop _, ih n' h1 s1 h2⟩
      | true =>
        simp only [if_true]
        exact wpAny_bind (wpAny_rule (wpAny_pure (hR _ _ _ it.inv (hq rfl))))
    · obtain ⟨ys, H', _, _, _, I, _, fin⟩ := p
      exact wpAny_bind (wpAny_rule (wpAny_pure (hR _ _ _ I fin)))
theorem gn_all {Q : Bool → Hp → Prop} {A : Around} {R : Result → Shared → Prop} (hh : A.handled = none) (hroom : A.in1.depth < recursionLimit)
    (hR : ∀ b H' s', Inv X pins σ H' s' → Q b H' → R (.ok (.ret (.bool b))) s') :
    ∀ (n : Nat) (s : Shared), GSt X pins σ (lookZ false Q) A.in1.in1 a g n s → codeAny (model X.prog X.w) A (.builtin "all.loop" ⟨[.ref a], []⟩) R s := by
  intro n
  induction n using Nat.strongRecOn with
  | ind n ih =>
    intro s h
    refine codeAny_builtin F.entry_all_loop ?_
    rw [Around.under_plainId F.plain_all_loop _]
    show wpAny _ A.in1 (pyNext (.ref a) >>= _) _ _ s
    refine wpAny_bind (gn_next (A := A.in1) hh hroom (fun z => by cases z) (fun S z => by cases z) h (fun v s1 ys y H' it => ?_) fun s1 p => ?_)
    · obtain ⟨b, rfl, hq⟩ := it.inf
      obtain rfl := (show v = Value.bool b from it.rel)
      refine wpAny_bind (wpAny_holding (wpAny_truthy_bool ?_))
      refine wpAny_bind (wpAny_letGo ?_)
      cases b with
      | false =>
        simp only [Bool.false_eq_true, if_false]
        exact wpAny_bind (wpAny_rule (wpAny_pure (hR _ _ _ it.inv (hq rfl))))
      | true =>
        obtain ⟨n', h1, h2⟩ := it.go rfl s1 rfl (Slp.refl rfl it.inv.bare)
        simp only [if_true]
        exact wpAny_pure ⟨plainId_quiet F.plain_all_loop _, ih n' h1 s1 h2⟩
    · obtain ⟨ys, H', _, _, _, I, _, fin⟩ := p
      exact wpAny_bind (wpAny_rule (wpAny_pure (hR _ _ _ I fin)))
theorem gn_call_any {Q : Value → Shared → Prop} {E : Value → Shared → Prop} {A : Around} {B : Bool → Hp → Prop} (hh : A.handled = none) (hroom : A.in1.depth < recursionLimit) (h : GSt X pins σ (lookZ true B) A.in1.in1 a g n s)
    (hR : ∀ b H' s', Inv X pins σ H' s' → B b H' → Q (.bool b) s') : wpAny (model X.prog X.w) A (call (.builtin "any") [.ref a]) Q E s := by
  refine call_function_tree F.kind_any F.plain_any F.entry_any (F.args_any1 _) ?_
  unfold Builtin.«any»
  refine wpAny_bind (m := oneArg "any" _) (wpAny_pure ?_)
  refine wpAny_bind (wpAny_pyIter_gen h.1 ?_)
  exact wpAny_pure ⟨plainId_quiet F.plain_any_loop _, gn_any hh hroom (fun b H' s' I hb => hR b H' s' I hb) n s h⟩
theorem gn_call_all {Q : Value → Shared → Prop} {E : Value → Shared → Prop} {A : Around} {B : Bool → Hp → Prop} (hh : A.handled = none) (hroom : A.in1.depth < recursionLimit) (h : GSt X pins σ (lookZ false B) A.in1.in1 a g n s)
    (hR : ∀ b H' s', Inv X pins σ H' s' → B b H' → Q (.bool b) s') : wpAny (model X.prog X.w) A (call (.builtin "all") [.ref a]) Q E s := by
  refine call_function_tree F.kind_all F.plain_all F.entry_all (F.args_all1 _) ?_
  unfold Builtin.«all»
  refine wpAny_bind (m := oneArg "all" _) (wpAny_pure ?_)
  refine wpAny_bind (wpAny_pyIter_gen h.1 ?_)
  exact wpAny_pure ⟨plainId_quiet F.plain_all_loop _, gn_all hh hroom (fun b H' s' I hb => hR b H' s' I hb) n s h⟩
end
end Px
set_option maxRecDepth 100000
set_option maxHeartbeats 4000000
/-! PG5: sum, tuple of a generator. -/
namespace Px
open PySem PySem.Spec PyProof.Rows L2 RZ LamX GenW
section
variable {X : Cx} {pins : List (Addr × Obj)} {σ : L2.St} {H : Hp} {s : Shared} {a : Addr} {g n : Nat}
/-- ready for a consumer that makes its own list -/
def Wk (X : Cx) (pins : List (Addr × Obj)) (σ : L2.St) (Z : Addr → Csm) (A : Around) (a : Addr) (n : Nat) (s : Shared) : Prop :=
  AllBare s.gens ∧ a < s.heap.objs.size ∧ ∃ g, s.heap.IsGen a g ∧ ∀ S s6, (∀ b o, s.heap.get? b = some o → s6.heap.get? b = some o) → s6.os = s.os → s6.gens = s.gens → s.heap.objs.size ≤ S → Held (Z S) [] s6 → GSt X pins σ (Z S) A a g n s6
def vint : V → Int
  | .int j => j
  | _ => 0
def sumV (ys : List V) : Int := (ys.map vint).sum
theorem sumV_app (ys : List V) (j : Int) : sumV (ys ++ [.int j]) = sumV ys + j := by simp [sumV, vint]
def sumZ (Q : Int → Hp → Prop) (S : Addr) : Csm := ⟨some S, fun ys us => ∃ t, us = [.int (sumV ys) t], fun _ y _ => ∃ j, y = .int j, fun _ => True, fun ys H => Q (sumV ys) H⟩
theorem Slp.upd {Z : Csm} {S : Addr} {zs : List V} {s s' : Shared} {acc' : Array Value} {c' : Nat} (hS : Z.S = some S) (os : s'.os = s.os) (hb : AllBare s'.gens) (k : ∀ b o, S ≠ b → s.heap.get? b = some o → s'.heap.get? b = some o) (hn : s'.heap.get? S = some (lstObj acc' c')) (hr : Z.Sr zs acc'.toList) : Slp Z zs s s' :=
  ⟨os, hb, fun b o hz e => k b o (fun z => hz (by rw [hS, z])) e, fun S' q => by
    rw [hS] at q
    cases q
    exact ⟨acc', c', hn, hr⟩⟩
theorem gn_sum {Q : Int → Hp → Prop} {A : Around} {R : Result → Shared → Prop} {S : Addr} (hSa : S ≠ a) (hS0 : S ≠ cStatics) (hh : A.handled = none) (hroom : A.in1.depth < recursionLimit)
    (hR : ∀ j t H' s', Inv X pins σ H' s' → Q j H' → R (.ok (.ret (.int j t))) s') :
    ∀ (n : Nat) (s : Shared) (st : Int) (ys : List V), (st = 0 ∨ st = 2) → Held (sumZ Q S) ys s → GSt X pins σ (sumZ Q S) A.in1.in1 a g n s → codeAny (model X.prog X.w) A (.builtin "sum.loop" ⟨[.ref a, .ref S, rawInt st, rawInt 0], []⟩) R s := by
  intro n
  induction n using Nat.strongRecOn with
  | ind n ih =>
    intro s st ys hst hld h
    obtain ⟨acc, c, hS, t, hacc⟩ := hld S rfl
    obtain ⟨acc⟩ := acc
    obtain rfl : acc = [.int (sumV ys) t] := hacc
    have det : ∀ {ys' : List V} {s1 : Shared}, Held (sumZ Q S) ys' s1 → s1.heap.get? S = s.heap.get? S → sumV ys' = sumV ys := fun {ys' s1} hd e => by
      obtain ⟨acc', c', e', t', h'⟩ := hd S rfl
      rw [e, hS] at e'
      cases e'
      have h2 : [Value.int (sumV ys) t] = [Value.int (sumV ys') t'] := h'
      injection h2 with h3 _
      injection h3 with h4 _
      exact h4.symm
    refine codeAny_builtin F.entry_sum_loop ?_
    rw [Around.under_plainId F.plain_sum_loop _]
    show wpAny _ A.in1 (seqItems? (.ref S) >>= _) _ _ s
    refine wpAny_bind (wpAny_seqItems hS rfl ?_)
    show wpAny _ A.in1 (tryCatch (pyNext (.ref a)) _ >>= _) _ _ s
    refine wpAny_bind (wpAny_tryCatch (gn_next (A := A.in1) hh hroom (fun z => by cases z; exact hSa rfl) (fun S' z => by cases z; exact hS0) h (fun v s1 ys1 y H' it => ?_) fun s1 p => ?_))
    · obtain ⟨j, rfl⟩ := it.inf
      obtain ⟨tj, rfl⟩ := (show ∃ t, v = Value.int j t from it.rel)
      have e1 := det it.held (it.same S rfl)
      have hS1 : s1.heap.get? S = some (lstObj #[.int (sumV ys) t] c) := (it.same S rfl).trans hS
      have next : ∀ (s2 : Shared) (st' : Int) (tk : Tok) (c' : Nat), (st' = 0 ∨ st' = 2) → s2.os = s1.os → s2.gens = s1.gens → (∀ b o, S ≠ b → s1.heap.get? b = some o → s2.heap.get? b = some o) → s2.heap.get? S = some (lstObj #[.int (sumV ys + j) tk] c') →
          codeAny (model X.prog X.w) A (.builtin "sum.loop" ⟨[.ref a, .ref S, rawInt st', rawInt 0], []⟩) R s2 := fun s2 st' tk c' hst' os gn k e2 => by
        have sl : Slp (sumZ Q S) (ys1 ++ [.int j]) s1 s2 := Slp.upd rfl os (by rw [gn]; exact it.inv.bare) k e2 ⟨tk, by rw [sumV_app, e1]⟩
        obtain ⟨n', h1, h2⟩ := it.go trivial s2 gn sl
        exact ih n' h1 s2 st' _ hst' sl.held h2
      rcases hst with rfl | rfl
      · show wpAny _ A.in1 (if (_ : Bool) = true then (mkInt (sumV ys + j) >>= _) else _) _ _ _
        split
        · refine wpAny_bind (wpAny_mkInt ?_)
          show wpAny _ A.in1 (updateSeq S (fun _ => #[.int (sumV ys + j) s1.toks]) >>= _) _ _ _
          refine wpAny_bind ?_
          refine wpAny_updateSeq hS1 rfl (wpAny_pure ⟨plainId_quiet F.plain_sum_loop _, next _ 0 s1.toks c (.inl rfl) rfl rfl (fun b o hb e => (Heap.get?_update_other _ _ hb).trans e) (Heap.get?_update_self _ hS1 rfl)⟩)
        · refine wpAny_bind (wpAny_rule ?_)
          refine wpAny_bind (wpAny_attempt (wpAny_holding (wpAny_add_int ?_)))
          show wpAny _ A.in1 (updateSeq S (fun _ => #[.int (sumV ys + j) s1.toks]) >>= _) _ _ _
          refine wpAny_bind (wpAny_updateSeq hS1 rfl ?_)
          have hS₂ := Heap.get?_update_self (Obj.mapSeq fun _ => #[Value.int (sumV ys + j) s1.toks]) hS1 rfl
          refine wpAny_bind (wpAny_letGo ?_)
          refine wpAny_bind (wpAny_updateSeq hS₂ rfl (wpAny_pure ⟨plainId_quiet F.plain_sum_loop _, next _ 2 s1.toks c (.inr rfl) rfl rfl (fun b o hb e => ?_) (Heap.get?_update_self _ hS₂ rfl)⟩))
          exact (Heap.get?_update_other _ _ hb).trans ((Heap.get?_update_other _ _ hb).trans e)
      · show wpAny _ A.in1 ((holding [Value.int j tj] (binaryOp .Add (.int (sumV ys) t) (.int j tj))).attempt >>= _) _ _ _
        refine wpAny_bind (wpAny_attempt (wpAny_holding (wpAny_add_int ?_)))
        show wpAny _ A.in1 (updateSeq S (fun _ => #[.int (sumV ys + j) s1.toks]) >>= _) _ _ _
        refine wpAny_bind (wpAny_updateSeq hS1 rfl ?_)
        have hS₂ := Heap.get?_update_self (Obj.mapSeq fun _ => #[Value.int (sumV ys + j) s1.toks]) hS1 rfl
        refine wpAny_bind (wpAny_letGo ?_)
        refine wpAny_bind (wpAny_updateSeq hS₂ rfl (wpAny_pure ⟨plainId_quiet F.plain_sum_loop _, next _ 2 s1.toks c (.inr rfl) rfl rfl (fun b o hb e => ?_) (Heap.get?_update_self _ hS₂ rfl)⟩))
        exact (Heap.get?_update_other _ _ hb).trans ((Heap.get?_update_other _ _ hb).trans e)
    · obtain ⟨ys', H', sm, _, hd, I, _, fin⟩ := p
      have fin : Q (sumV ys') H' := fin
      rw [det hd (sm S rfl)] at fin
      exact wpAny_pure (hR _ _ _ _ I fin)
theorem gn_call_sum {B : Int → Hp → Prop} {Q : Value → Shared → Prop} {E : Value → Shared → Prop} {A : Around} (hh : A.handled = none) (hroom : A.in1.depth < recursionLimit) (hc : cStatics < s.heap.objs.size) (h : Wk X pins σ (sumZ B) A.in1.in1 a n s)
    (hR : ∀ j t H' s', Inv X pins σ H' s' → B j H' → Q (.int j t) s') : wpAny (model X.prog X.w) A (call (.builtin "sum") [.ref a]) Q E s := by
  obtain ⟨hb, ha, g, hg, hgo⟩ := h
  refine call_function_tree F.kind_sum F.plain_sum F.entry_sum (F.args_sum1 _) ?_
  unfold Builtin.«sum»
  simp only [List.length_cons, List.length_nil]
  rw [if_neg (by decide)]
  refine wpAny_bind (wpAny_of_eq (show Builtin.Builtins.bindParams "sum" ["start"] 0 { } = pure [none] from rfl) ?_)
  refine wpAny_bind (wpAny_pyIter_gen hg ?_)
  refine wpAny_bind (wpAny_mkInt ?_)
  refine wpAny_bind (wpAny_pure ?_)
  simp only [List.forIn_cons, List.forIn_nil]
  refine wpAny_bind (wpAny_bind (wpAny_bind (wpAny_isInstance (T := "int") (b := false) (typeIs_int _ _ _) PySem.sub_int_str ?_)))
  simp only [Bool.false_eq_true, if_false]
  refine wpAny_pure (wpAny_bind (wpAny_bind (wpAny_isInstance (T := "int") (b := false) (typeIs_int _ _ _) PySem.sub_int_bytes ?_)))
  simp only [Bool.false_eq_true, if_false]
  refine wpAny_pure (wpAny_bind (wpAny_bind (wpAny_isInstance (T := "int") (b := false) (typeIs_int _ _ _) PySem.sub_int_bytearray ?_)))
  simp only [Bool.false_eq_true, if_false]
  refine wpAny_pure (wpAny_pure ?_)
  refine wpAny_bind (wpAny_newObj_type ?_)
  have hd : Held (sumZ B s.heap.objs.size) [] { s with heap := s.heap.push { cls := .type "list", data := .seq #[Value.int 0 s.toks] }, toks := s.toks + 1 } := fun S hS => by
    cases hS
    exact ⟨_, _, Heap.get?_push_size _ rfl, s.toks, rfl⟩
  refine wpAny_pure ⟨plainId_quiet F.plain_sum_loop _, gn_sum (g := g) (Nat.ne_of_gt ha) (Nat.ne_of_gt hc) hh hroom (fun j t H' s' I hb => hR j t H' s' I hb) n _ 0 [] (.inl rfl) hd (hgo _ _ (fun b o e => Heap.get?_push_of_some _ e) rfl rfl (Nat.le_refl _) hd)⟩
end
end Px
set_option maxRecDepth 100000
set_option maxHeartbeats 4000000
/-! PG6: tuple of a generator. -/
namespace Px
open PySem PySem.Spec PyProof.Rows L2 RZ LamX GenW
section
variable {X : Cx} {pins : List (Addr × Obj)} {σ : L2.St} {H : Hp} {s : Shared} {a : Addr} {g n : Nat}
def colZ (B : List V → Hp → Prop) (S : Addr) : Csm := ⟨some S, fun ys us => Vals ys us ∧ ys.length ≤ sizeLine, fun ys _ _ => ys.length < sizeLine, fun _ => True, B⟩
theorem gn_extend {B : List V → Hp → Prop} {A : Around} {R : Result → Shared → Prop} {S : Addr} {res : Value} (hSa : S ≠ a) (hS0 : S ≠ cStatics) (hh : A.handled = none) (hroom : A.in1.depth < recursionLimit)
    (hR : ∀ ys acc c H' s', Inv X pins σ H' s' → s'.heap.get? S = some (lstObj acc c) → Vals ys acc.toList → ys.length ≤ sizeLine → H' S = none → B ys H' → R (.ok (.ret res)) s') :
    ∀ (n : Nat) (s : Shared), GSt X pins σ (colZ B S) A.in1.in1 a g n s → codeAny (model X.prog X.w) A (.builtin "list.extend.loop" ⟨[.ref S, .ref a, res], []⟩) R s := by
  intro n
  induction n using Nat.strongRecOn with
  | ind n ih =>
    intro s h
    refine codeAny_builtin F.entry_extend_loop ?_
    rw [Around.under_plainId F.plain_extend_loop _]
    show wpAny _ A.in1 (pyNext (.ref a) >>= _) _ _ s
    refine wpAny_bind (gn_next (A := A.in1) hh hroom (fun z => by cases z; exact hSa rfl) (fun S' z => by cases z; exact hS0) h (fun v s1 ys y H' it => ?_) fun s1 p => ?_)
    · obtain ⟨acc, c, hS1, hv, hl⟩ := it.held S rfl
      have hlt : ys.length < sizeLine := it.inf
      have hsz : acc.size = ys.length := by
        have := hv.length
        rw [this, Array.length_toList]
      show wpAny _ A.in1 (updateSeq S (·.push v) >>= _) _ _ _
      refine wpAny_bind ?_
      refine wpAny_updateSeq hS1 rfl (wpAny_pure ⟨plainId_quiet F.plain_extend_loop _, ?_⟩) (by rw [hsz]; exact hl) (by show (acc.push v).size ≤ sizeLine + 1; rw [Array.size_push, hsz]; omega)
      have sl : Slp (colZ B S) (ys ++ [y]) s1 { s1 with heap := s1.heap.update S (Obj.mapSeq (·.push v)) } := Slp.upd (acc' := acc.push v) (c' := _) rfl rfl it.inv.bare (fun b o hb e => (Heap.get?_update_other _ _ hb).trans e) (Heap.get?_update_self (Obj.mapSeq (·.push v)) hS1 rfl)
        ⟨by rw [Array.toList_push]; exact Vals.append hv (.cons it.rel .nil), by rw [List.length_append]; exact hlt⟩
      obtain ⟨n', h1, h2⟩ := it.go trivial { s1 with heap := s1.heap.update S (Obj.mapSeq (·.push v)) } rfl sl
      exact ih n' h1 _ h2
    · obtain ⟨ys, H', sm, _, hd, I, hn, fin⟩ := p
      obtain ⟨acc, c, hS1, hv, hl⟩ := hd S rfl
      exact wpAny_pure (hR _ _ _ _ _ I hS1 hv hl (hn S rfl) fin)
theorem gn_collect {B : List V → Hp → Prop} {Q : List Value → Shared → Prop} {E : Value → Shared → Prop} {A : Around} (hh : A.handled = none) (hroom : A.in1.depth < recursionLimit) (hc : cStatics < s.heap.objs.size) (h : Wk X pins σ (colZ B) A.in1.in1 a n s)
    (hQ : ∀ ys us H' s', Inv X pins σ H' s' → Vals ys us → ys.length ≤ sizeLine → B ys H' → Q us s') : wpAny (model X.prog X.w) A (collect (.ref a)) Q E s := by
  obtain ⟨hb, ha, g, hg, hgo⟩ := h
  unfold collect
  refine wpAny_bind (wpAny_runValue (codeAny_builtin F.entry_proto_collect ?_))
  rw [Around.under_plainId F.plain_proto_collect _]
  show wpAny _ A.in1 (newList [] >>= fun l => again (.builtin "list.__iadd__" ⟨[l, .ref a], []⟩)) _ _ s
  refine wpAny_bind (wpAny_newObj_type ?_)
  refine wpAny_pure ⟨plainId_quiet F.plain_list_iadd _, codeAny_builtin F.entry_list_iadd ?_⟩
  rw [Around.under_plainId F.plain_list_iadd _]
  have hT : (Shared.TypeIs { s with heap := s.heap.push { cls := .type "list", data := .seq ([] : List Value).toArray } } (.ref a) "generator") := by
    obtain ⟨o, nm, qn, ho, r⟩ := hg
    exact ⟨o, Heap.get?_push_of_some _ ho, r.1⟩
  have hg1 : (s.heap.push { cls := .type "list", data := .seq ([] : List Value).toArray }).IsGen a g := by
    obtain ⟨o, nm, qn, ho, r⟩ := hg
    exact ⟨o, nm, qn, Heap.get?_push_of_some _ ho, r⟩
  show wpAny _ A.in1 (Builtin.List.listExtendWith (.ref s.heap.objs.size) (.ref a) (.ref s.heap.objs.size)) _ _ _
  unfold Builtin.List.listExtendWith
  refine wpAny_bind (wpAny_typeOf hT ?_)
  have hSI : s.heap.objs.size ≠ a := Nat.ne_of_gt ha
  have h1 : Builtin.List.listSameRef (.ref s.heap.objs.size) (.ref a) = false := by simp [Builtin.List.listSameRef, hSI]
  have h2 : (Value.type "generator" == Value.type "list") = false := by decide
  have h3 : (Value.type "generator" == Value.type "tuple") = false := by decide
  simp only [h1, h2, h3, Bool.or_false, Bool.false_eq_true, if_false]
  refine wpAny_bind (wpAny_pyIter_gen hg1 ?_)
  refine wpAny_bind (wpAny_holding ?_)
  unfold Builtin.List.listLengthHint
  refine wpAny_bind (wpAny_specialOf hT F.gen_no_len ?_)
  show wpAny _ A.in1 (specialOf (Value.ref a) (Str.ofString "__length_hint__") >>= _) _ _ _
  refine wpAny_bind (wpAny_specialOf hT F.gen_no_hint ?_)
  refine wpAny_pure ?_
  show wpAny _ A.in1 (rule "list.extend.makes-room" >>= fun _ => Builtin.List.listTouch (.ref s.heap.objs.size) >>= fun _ =>
    again (.builtin "list.extend.loop" ⟨[.ref s.heap.objs.size, .ref a, .ref s.heap.objs.size], []⟩)) _ _ _
  refine wpAny_bind (wpAny_rule ?_)
  have hS₁ : (s.heap.push { cls := .type "list", data := .seq ([] : List Value).toArray }).get? s.heap.objs.size = some { cls := .type "list", data := .seq ([] : List Value).toArray } := Heap.get?_push_size _ rfl
  refine wpAny_bind ?_
  show wpAny _ A.in1 (updateSeq s.heap.objs.size (·.push .none) >>= fun _ => updateSeq s.heap.objs.size (·.pop)) _ _ _
  refine wpAny_bind (wpAny_updateSeq hS₁ rfl ?_)
  have hS₂ := Heap.get?_update_self (Obj.mapSeq (·.push Value.none)) hS₁ rfl
  refine wpAny_updateSeq hS₂ rfl ?_
  have hS₃ := Heap.get?_update_self (Obj.mapSeq (·.pop)) hS₂ rfl
  have oth : ∀ b o, b ≠ s.heap.objs.size → (s.heap.push { cls := .type "list", data := .seq ([] : List Value).toArray }).get? b = some o →
      (((s.heap.push { cls := .type "list", data := .seq ([] : List Value).toArray }).update s.heap.objs.size (Obj.mapSeq (·.push Value.none))).update s.heap.objs.size (Obj.mapSeq (·.pop))).get? b = some o :=
    fun b o hb e => (Heap.get?_update_other _ _ (Ne.symm hb)).trans ((Heap.get?_update_other _ _ (Ne.symm hb)).trans e)
  refine wpAny_pure ⟨plainId_quiet F.plain_extend_loop _, gn_extend (B := B) (g := g) hSI (Nat.ne_of_gt hc) hh hroom (fun ys acc c H' s' I e hv hl hn hB => ?_) n _
    (hgo s.heap.objs.size _ (fun b o e => oth b o (Nat.ne_of_lt (Heap.lt_size e)) (Heap.get?_push_of_some _ e)) rfl rfl (Nat.le_refl _) fun S hS => ?_)⟩
  · show wpAny _ A (load s.heap.objs.size >>= _) _ _ s'
    refine wpAny_bind (wpAny_load e ?_)
    exact wpAny_pure (hQ ys acc.toList H' s' I hv hl hB)
  · cases hS
    exact ⟨_, _, hS₃, .nil, Nat.zero_le _⟩
theorem gn_call_tuple {B : List V → Hp → Prop} {Q : Value → Shared → Prop} {E : Value → Shared → Prop} {A : Around} (hh : A.handled = none) (hroom : A.in1.in1.in1.depth < recursionLimit) (hc : cStatics < s.heap.objs.size) (h : Wk X pins σ (colZ B) A.in1.in1.in1.in1 a n s)
    (hQ : ∀ ys us H' s', Inv X pins σ H' s' → Vals ys us → ys.length ≤ sizeLine → B ys H' → Q (.ref s'.heap.objs.size) { s' with heap := s'.heap.push { cls := .type "tuple", data := .seq us.toArray } }) :
    wpAny (model X.prog X.w) A (call (.type "tuple") [.ref a]) Q E s := by
  have hT : s.TypeIs (.ref a) "generator" := by
    obtain ⟨_, _, g, ⟨o, nm, qn, ho, r⟩, _⟩ := h
    exact ⟨o, ho, r.1⟩
  refine callType_codes (Q₁ := fun obj s₁ => s₁.TypeIs obj "tuple" ∧ Q obj s₁) F.called_tuple (F.typeCall_tuple_1 _) F.entry_object_init ?_ fun obj s₁ h₁ => ?_
  · refine codeAny_of_tree ?_
    show wpAny _ A.in1.in1 (do checkBuiltinCall "tuple.__new__" ⟨[.type "tuple", .ref a], []⟩; again (.builtin "tuple.__new__" ⟨[.type "tuple", .ref a], []⟩)) _ _ s
    refine wpAny_bind (wpAny_of_eq (F.newCall_tuple_1 _) (wpAny_pure ⟨plainId_quiet F.plain_tuple_new _, codeAny_builtin F.entry_tuple_new ?_⟩))
    rw [Around.under_plainId F.plain_tuple_new _]
    have hsub := sub_tuple_self
    have hinit := init_tuple_lookup
    have hmh := madeHere_tuple
    wp_walk using wpAny_typeOf hT, gn_collect (B := B) (A := A.in1.in1) hh hroom hc h
    intro ys us H' s' I hv hl hB
    show wpAny _ _ (Builtin.Tuple.tupleExact us.toArray >>= fun v => ret v) _ _ _
    unfold Builtin.Tuple.tupleExact
    refine wpAny_bind (wpAny_newObj_type ?_ (by show us.toArray.size ≤ sizeLine; rw [List.size_toArray, ← hv.length]; exact hl))
    refine wpAny_pure ?_
    exact ⟨⟨_, Heap.get?_push_size _ rfl, rfl⟩, hQ ys us H' s' I hv hl hB⟩
  · exact ⟨h₁.1, F.args_object_init_2 obj _, object_init_meets F.called_tuple.init.lookup F.called_tuple.made (by decide) _ _ _ _ s₁ ⟨h₁.1, rfl, h₁.2⟩⟩
end
end Px
set_option maxRecDepth 100000
set_option maxHeartbeats 4000000
/-! PG7: built-ins called with a generator expression, by the evaluator's function. -/
namespace Px
open PySem PySem.Spec PyProof.Rows L2 RZ LamX GenW
section
variable {p : Pk} {C : Cn} {k : Nat} {W : WX} {X : Cx} {n : Nat} {b : Bool} {m : Md} {G H G1 H1 : Hp} {dc : Dc} {σ : L2.St}
theorem gnOk_by (x : XOk p C k W X) {scope : Scope} {own : List (Str × Nat)} (h : gnC C.N C.sc scope own = true) : GnOk X.N X.env.scope scope own := by
  unfold gnC at h
  simp only [Bool.and_eq_true, Bool.or_eq_true, Bool.not_eq_true', decide_eq_true_eq, decide_eq_false_iff_not, List.all_eq_true] at h
  obtain ⟨⟨⟨⟨⟨⟨⟨h1, h2⟩, h3⟩, h4⟩, h5⟩, h6⟩, h7⟩, h8⟩ := h
  rw [x.N]
  refine ⟨h1, h2, h3, h4, h5, h6, fun y hy e => ?_, fun y hy e => ?_⟩
  · rcases h7 y hy with (z | z) | z
    · exact absurd e z
    · exact (x.fre _ (.inl z))
    · exact (x.fre _ (.inr z))
  · rcases h8 y hy with (z | z) | z
    · exact absurd e z
    · exact .inl z
    · exact .inr z
theorem XOk.gn (x : XOk p C k W X) {scope : Scope} (ok : ∀ y ∈ scope.names, y.2 ≠ .cell) {A : Around} (hr : Room k A) (s : Shared) (H : Hp) (Ca : Addr) (code : Value) (fp : List Addr) (pn : List (Addr × Obj)) :
    XOk p ⟨C.N, scope, C.Γ, 0, false, C.lp⟩ k W0 (gnX X A s H (genEnv scope (cloFrom X.env.cells scope.names []) Ca code builtinsNs X.env) fp pn) := by
  refine ⟨x.K, x.N, x.nd, x.calm, hr, ?_, fun y h => ?_, fun y h => ?_, fun y h => ?_, fun y h => h, x.gm, fun z => absurd rfl z, fun z => by cases z⟩
  · rintro u s' ⟨_, _, _, _, _, _, _, _, _, _, _, _, _, _, _, _, w⟩
    exact w
  · unfold locK at h
    rw [Bool.and_eq_true] at h
    have h := h.2
    show Vis scope y
    split at h
    · rename_i q; exact .inl q
    · rename_i q; exact .inr (.inl q)
    · rename_i q; exact .inr (.inr q)
    · cases h
  · unfold gloK at h
    rw [Bool.and_eq_true] at h
    have h := h.2
    split at h
    · rename_i q; exact q
    · cases h
  · unfold stoK at h
    rw [Bool.and_eq_true] at h
    have h := h.2
    show Loc scope y ∧ (false = true ∨ scope.names.lookup y = some .local)
    split at h
    · rename_i q; exact ⟨.inl q, .inr q⟩
    · rename_i q; exact absurd rfl (ok _ (PySem.mem_of_lookup q))
    · cases h
theorem TGrow.gs {P : Addr} {lp : List (Nat × Nat)} {q : Str} {H2 : Hp} (gs : GS p dc G H) (hm : (P, lp, q) ∈ p.T) (t : TGrow P H H2) (tq : ∀ t ∈ p.T, TabQ H2 t) : GS p dc G H2 ∧ Grow p.da G H G H2 := by
  obtain ⟨⟨ps, more, h1, h2⟩, ho⟩ := t
  have gP : G P = none := gs.tabf _ hm
  have ext : Ext p.da H H2 := ⟨fun b u z _ nt => by rw [ho b (fun y => by subst y; rw [h1] at z; cases z; exact nt _ rfl)]; exact z, fun b z => by
    by_cases hb : b = P
    · subst hb; rw [h2]; simp
    · rw [ho b hb]; exact z⟩
  refine ⟨⟨fun b u z => ?_, fun b z => ?_, tq, gs.tabf⟩, ⟨.refl _, fun b u z1 _ _ _ => z1, ext⟩⟩
  · rw [ho b (fun y => by subst y; rw [gP] at z; cases z)]
    exact gs.sub b u z
  · obtain ⟨d1, d2⟩ := gs.dice b z
    exact ⟨by rw [ho b (fun y => by subst y; rw [h1] at d1; cases d1)]; exact d1, d2⟩
theorem gn_it {J : It} {N : Nat} {Gd : Hp → Prop} {Y : Nat → Hp → V → Hp → Prop} (w : Walk J N Gd Y) {g : TG} {tt : TT} {te : TE} {vs : List Nat} {Z : Csm} (Pv : Nat → List V → Hp → Prop) (hG : ∀ i ys H, i ≤ N → Pv i ys H → Gd H)
    (hs : ∀ i ys x H H', i < N → Pv i ys H → Y i H x H' → g x (wipe σ vs) H' fun σ2 H2 => wipe σ2 vs = wipe σ vs ∧ tt σ2 H2 fun b H3 => if b = true then te σ2 H3 fun y H4 => Z.inf ys y H4 ∧ (Z.cont y → Pv (i + 1) (ys ++ [y]) H4) else Pv (i + 1) ys H3)
    (hd : ∀ ys H, Pv N ys H → Z.fin ys H) : GnW J g tt te vs σ Z (fun i m ys H => m = N - i ∧ i ≤ N ∧ Pv i ys H) := by
  rintro i m ys H ⟨rfl, hi, q⟩
  have hg := hG i ys H hi q
  by_cases hlt : i < N
  · exact .inr ⟨w.goes i H hlt hg, by omega, Pv (i + 1), fun ys' H' p' => ⟨N - (i + 1), by omega, rfl, hlt, p'⟩, fun x H' y => hs i ys x H H' hlt q (w.yields i H x H' hlt hg y)⟩
  · have e : i = N := by omega
    subst e
    exact .inl ⟨w.stops H hg, hd ys H q⟩
/-- the walk, the items thrown away -/
def PvA (p : Pk) (W : WX) (m : Md) (σ : L2.St) (G1 H1 : Hp) (Q : VK) (R : Nat → M D) (i : Nat) (ys : List V) (H' : Hp) : Prop := ∃ G' dcx, GS p dcx G' H' ∧ Grow p.da G1 H1 G' H' ∧ Post p W (RV p m) σ G1 H1 (R i dcx) Q
theorem gn_anyW {tgf : D → En → Option En} {ttf : En → M Bool} {tef : En → M D} {vs : List Nat} {ρ : En} {items : List D} {J : It} {Q : VK} (gs1 : GS p dc G1 H1) (rs1 : RS p (wipeE ρ vs) (wipe σ vs) G1 H1) (iok : IOk p true G1 H1 items J) :
    GnW J (gT p tgf vs) (tB p W0 ttf) (tE p W0 .va tef) vs σ (lookZ true fun b H => Q (.bl b) H) (fun i mm ys H => mm = items.length - i ∧ i ≤ items.length ∧ PvA p W m σ G1 H1 Q (fun i => anyM tgf (fun ρ => noE (ttf ρ)) (fun ρ => noE (tef ρ)) (wipeE ρ vs) (items.drop i) >>= fun b => pure (.bl b)) i ys H) := by
  obtain ⟨Gd, Y, w, hGd, hY⟩ := iok
  refine gn_it w _ (fun i ys H' _ ⟨G', dcx, s', g', _⟩ => hGd G' H' dcx s' (Cond.of g')) ?_ ?_
  · rintro i ys xv H' H'' hi' ⟨G', dcx, s', g', post'⟩ hy
    have hd := List.getElem?_eq_getElem hi'
    obtain ⟨G2, s2, g2, dv2⟩ := hY i G' H' dcx xv H'' _ hi' s' (Cond.of g') hy hd
    dsimp only at post'
    rw [List.drop_eq_getElem_cons hi'] at post'
    unfold anyM at post'
    rw [bind_assocM] at post'
    obtain ⟨ρ', e, post'⟩ := Post.liftB post'
    rw [bind_assocM] at post'
    have gg := g'.trans g2
    refine ⟨wipeE ρ vs, G2, dcx, _, ρ', s2, rs1.grow gs1 gg, dv2, e, fun σ2 rs2 k2 l2 => ⟨wipe_same k2 l2, ?_⟩⟩
    refine ⟨ρ', G2, dcx, s2, rs2, Post.seqN post' fun c dc3 c' G3 H3 s3 g3 r3 post' => ?_⟩
    cases (show c' = c from r3)
    cases c with
    | false => exact ⟨G3, dc3, s3, gg.trans g3, post'⟩
    | true =>
      simp only [if_true] at post' ⊢
      rw [bind_assocM] at post'
      refine ⟨ρ', G3, dc3, s3, rs2.grow s2 g3, Post.seqN post' fun d dc4 y G4 H4 s4 g4 r4 post' => ?_⟩
      rw [bind_assocM] at post'
      obtain ⟨c, ec, post'⟩ := Post.liftB post'
      cases d with
      | bl v =>
        cases ec
        have r4 : y = .bl c := r4
        subst r4
        cases c with
        | false => exact ⟨⟨false, rfl, fun z => by cases z⟩, fun _ => ⟨G4, dc4, s4, (gg.trans g3).trans g4, post'⟩⟩
        | true => exact ⟨⟨true, rfl, fun _ => post' _ _ _ s4 ((gg.trans g3).trans g4) (RV.of rfl rfl)⟩, fun z => by cases z⟩
      | _ => cases ec
  · rintro ys H' ⟨G', dcx, s', g', post'⟩
    dsimp only at post'
    rw [List.drop_length] at post'
    exact post' _ _ _ s' g' (RV.of rfl rfl)
theorem gn_allW {tgf : D → En → Option En} {ttf : En → M Bool} {tef : En → M D} {vs : List Nat} {ρ : En} {items : List D} {J : It} {Q : VK} (gs1 : GS p dc G1 H1) (rs1 : RS p (wipeE ρ vs) (wipe σ vs) G1 H1) (iok : IOk p true G1 H1 items J) :
    GnW J (gT p tgf vs) (tB p W0 ttf) (tE p W0 .va tef) vs σ (lookZ false fun b H => Q (.bl b) H) (fun i mm ys H => mm = items.length - i ∧ i ≤ items.length ∧ PvA p W m σ G1 H1 Q (fun i => allM tgf (fun ρ => noE (ttf ρ)) (fun ρ => noE (tef ρ)) (wipeE ρ vs) (items.drop i) >>= fun b => pure (.bl b)) i ys H) := by
  obtain ⟨Gd, Y, w, hGd, hY⟩ := iok
  refine gn_it w _ (fun i ys H' _ ⟨G', dcx, s', g', _⟩ => hGd G' H' dcx s' (Cond.of g')) ?_ ?_
  · rintro i ys xv H' H'' hi' ⟨G', dcx, s', g', post'⟩ hy
    have hd := List.getElem?_eq_getElem hi'
    obtain ⟨G2, s2, g2, dv2⟩ := hY i G' H' dcx xv H'' _ hi' s' (Cond.of g') hy hd
    dsimp only at post'
    rw [List.drop_eq_getElem_cons hi'] at post'
    unfold allM at post'
    rw [bind_assocM] at post'
    obtain ⟨ρ', e, post'⟩ := Post.liftB post'
    rw [bind_assocM] at post'
    have gg := g'.trans g2
    refine ⟨wipeE ρ vs, G2, dcx, _, ρ', s2, rs1.grow gs1 gg, dv2, e, fun σ2 rs2 k2 l2 => ⟨wipe_same k2 l2, ?_⟩⟩
    refine ⟨ρ', G2, dcx, s2, rs2, Post.seqN post' fun c dc3 c' G3 H3 s3 g3 r3 post' => ?_⟩
    cases (show c' = c from r3)
    cases c with
    | false => exact ⟨G3, dc3, s3, gg.trans g3, post'⟩
    | true =>
      simp only [if_true] at post' ⊢
      rw [bind_assocM] at post'
      refine ⟨ρ', G3, dc3, s3, rs2.grow s2 g3, Post.seqN post' fun d dc4 y G4 H4 s4 g4 r4 post' => ?_⟩
      rw [bind_assocM] at post'
      obtain ⟨c, ec, post'⟩ := Post.liftB post'
      cases d with
      | bl v =>
        cases ec
        have r4 : y = .bl c := r4
        subst r4
        cases c with
        | true => exact ⟨⟨true, rfl, fun z => by cases z⟩, fun _ => ⟨G4, dc4, s4, (gg.trans g3).trans g4, post'⟩⟩
        | false => exact ⟨⟨false, rfl, fun _ => post' _ _ _ s4 ((gg.trans g3).trans g4) (RV.of rfl rfl)⟩, fun z => by cases z⟩
      | _ => cases ec
  · rintro ys H' ⟨G', dcx, s', g', post'⟩
    dsimp only at post'
    rw [List.drop_length] at post'
    exact post' _ _ _ s' g' (RV.of rfl rfl)
/-- the walk, the items kept -/
def PvC (p : Pk) (W : WX) (m : Md) (σ : L2.St) (G1 H1 : Hp) (Q : VK) (F : List D → M D) (R : Nat → M (List D)) (i : Nat) (ys : List V) (H' : Hp) : Prop := ∃ G' dcx as, GS p dcx G' H' ∧ Grow p.da G1 H1 G' H' ∧ DVs p.K p.da G' as ys ∧ Post p W (RV p m) σ G1 H1 ((R i >>= fun zs => F (as ++ zs)) dcx) Q
theorem gn_colW {tgf : D → En → Option En} {ttf : En → M Bool} {tef : En → M D} {vs : List Nat} {ρ : En} {items : List D} {J : It} {Q : VK} {F : List D → M D} {Z : Csm} (gs1 : GS p dc G1 H1) (rs1 : RS p (wipeE ρ vs) (wipe σ vs) G1 H1) (iok : IOk p true G1 H1 items J)
    (hinf : ∀ as d zs ys y G' H' dcx dcy, GS p dcx G' H' → Grow p.da G1 H1 G' H' → DVs p.K p.da G' as ys → DV p.K p.da G' d y → Post p W (RV p m) σ G1 H1 (F (as ++ d :: zs) dcy) Q → Z.inf ys y H')
    (hfin : ∀ as ys G' H' dcx, GS p dcx G' H' → Grow p.da G1 H1 G' H' → DVs p.K p.da G' as ys → Post p W (RV p m) σ G1 H1 (F as dcx) Q → Z.fin ys H') :
    GnW J (gT p tgf vs) (tB p W0 ttf) (tE p W0 .va tef) vs σ Z (fun i mm ys H => mm = items.length - i ∧ i ≤ items.length ∧ PvC p W m σ G1 H1 Q F (fun i => lcM tgf (fun ρ => noE (ttf ρ)) (fun ρ => noE (tef ρ)) (wipeE ρ vs) (items.drop i)) i ys H) := by
  obtain ⟨Gd, Y, w, hGd, hY⟩ := iok
  refine gn_it w _ (fun i ys H' _ ⟨G', dcx, as, s', g', _⟩ => hGd G' H' dcx s' (Cond.of g')) ?_ ?_
  · rintro i ys xv H' H'' hi' ⟨G', dcx, as, s', g', dv, post'⟩ hy
    have hd := List.getElem?_eq_getElem hi'
    obtain ⟨G2, s2, g2, dv2⟩ := hY i G' H' dcx xv H'' _ hi' s' (Cond.of g') hy hd
    dsimp only at post'
    rw [List.drop_eq_getElem_cons hi'] at post'
    unfold lcM at post'
    rw [bind_assocM] at post'
    obtain ⟨ρ', e, post'⟩ := Post.liftB post'
    rw [bind_assocM] at post'
    have gg := g'.trans g2
    refine ⟨wipeE ρ vs, G2, dcx, _, ρ', s2, rs1.grow gs1 gg, dv2, e, fun σ2 rs2 k2 l2 => ⟨wipe_same k2 l2, ?_⟩⟩
    refine ⟨ρ', G2, dcx, s2, rs2, Post.seqN post' fun c dc3 c' G3 H3 s3 g3 r3 post' => ?_⟩
    cases (show c' = c from r3)
    cases c with
    | false => exact ⟨G3, dc3, as, s3, gg.trans g3, DVs.mono (g2.trans g3).sub _ _ dv, post'⟩
    | true =>
      simp only [if_true] at post' ⊢
      rw [bind_assocM] at post'
      refine ⟨ρ', G3, dc3, s3, rs2.grow s2 g3, Post.seqN post' fun d dc4 y G4 H4 s4 g4 r4 post' => ?_⟩
      rw [bind_assocM] at post'
      have dv4 := DVs.mono ((g2.trans g3).trans g4).sub _ _ dv
      have post2 : Post p W (RV p m) σ G1 H1 ((lcM tgf (fun ρ => noE (ttf ρ)) (fun ρ => noE (tef ρ)) (wipeE ρ vs) (items.drop (i + 1)) >>= fun zs => F (as ++ d :: zs)) dc4) Q := post'
      refine ⟨?_, fun _ => ⟨G4, dc4, as ++ [d], s4, (gg.trans g3).trans g4, dv4.snoc r4, ?_⟩⟩
      · cases e : lcM tgf (fun ρ => noE (ttf ρ)) (fun ρ => noE (tef ρ)) (wipeE ρ vs) (items.drop (i + 1)) dc4 with
        | ok zs dc5 =>
          rw [bind_ok e] at post2
          exact hinf as d zs ys y G4 H4 dc4 dc5 s4 ((gg.trans g3).trans g4) dv4 r4 post2
        | er c dc' => exact absurd e (lcM_ner _ _ _ _)
        | st =>
          rw [bind_stt e] at post2
          exact (show False from post2).elim
      · have e : (fun zs : List D => F ((as ++ [d]) ++ zs)) = fun zs => F (as ++ d :: zs) := by
          funext zs
          rw [List.append_assoc]
          rfl
        rw [e]
        exact post2
  · rintro ys H' ⟨G', dcx, as, s', g', dv, post'⟩
    dsimp only at post'
    rw [List.drop_length] at post'
    refine hfin as ys G' H' dcx s' g' dv ?_
    have post' : Post p W (RV p m) σ G1 H1 (F (as ++ []) dcx) Q := post'
    rw [List.append_nil] at post'
    exact post'
theorem sumD_V : ∀ (as : List D) (ys : List V) (a t : Int), sumD as a = some t → DVs p.K p.da G as ys → t = a + sumV ys
  | [], ys, a, t, h, dv => by
    cases h
    cases (show ys = [] from dv)
    simp [sumV]
  | d :: as, ys, a, t, h, dv => by
    obtain ⟨w, r, rfl, h1, h2⟩ := dv
    cases d with
    | int j =>
      have := sumD_V as r (a + j) t h h2
      cases (show w = .int j from h1)
      rw [this]
      simp [sumV, vint]
      omega
    | _ => cases h
theorem sumD_int : ∀ (as : List D) (d : D) (zs : List D) (a t : Int), sumD (as ++ d :: zs) a = some t → ∃ j, d = .int j
  | [], d, zs, a, t, h => by
    cases d with
    | int j => exact ⟨j, rfl⟩
    | _ => cases h
  | x :: as, d, zs, a, t, h => by
    cases x with
    | int j => exact sumD_int as d zs (a + j) t h
    | _ => cases h
end
end Px
set_option maxRecDepth 100000
set_option maxHeartbeats 4000000
/-! PG8: f(elt for tg in it if ..). -/
namespace Px
open PySem PySem.Spec PyProof.Rows L2 RZ LamX GenW
section
variable {p : Pk} {C : Cn} {k : Nat} {W : WX} {X : Cx} {n : Nat} {b : Bool} {m : Md} {pins : List (Addr × Obj)} {σ : L2.St} {H : Hp} {s : Shared} {Q : VK}
/-- the generator's own context -/
abbrev gnN (C : Cn) (g : GA) : Cn := ⟨C.N, g.scope, C.Γ, 0, false, C.lp⟩
abbrev gnE (g : GA) : Expr := .GeneratorExp g.elt [⟨g.tg, g.it, g.ifs, 0⟩] g.scope g.pos
theorem IOk.on {G1 H1 H2 : Hp} {items : List D} {J : It} (h : IOk p true G1 H1 items J) (g : Grow p.da G1 H1 G1 H2) : IOk p true G1 H2 items J := by
  obtain ⟨Gd, Y, w, h1, h2⟩ := h
  exact ⟨Gd, Y, w, fun G' H' dc s c => h1 G' H' dc s (Cond.of (g.trans (show Grow p.da G1 H2 G' H' from c))), fun i G' H' dc x H'' d hi s c => h2 i G' H' dc x H'' d hi s (Cond.of (g.trans (show Grow p.da G1 H2 G' H' from c)))⟩
theorem gn_eval (h2 : IH2 n) (x : XOk p C k W X) {g : GA} (hB : gnB C g = true) {R : En → List D → M D} {Q' : Value → Shared → Prop} (I : Inv X pins σ H s) (q : tE p W m (fun ρ => dI n true C g.it ρ >>= fun items => R ρ items) σ H Q)
    (hQ : ∀ ρ items dc1 G1 H1 J a s5, GS p dc1 G1 H1 → RS p ρ σ G1 H1 → IOk p true G1 H1 items J → Post p W (RV p m) σ G1 H1 (R ρ items dc1) Q →
      Ready X pins σ H1 J (gT p (tgN n (gnN C g) g.tg) (ownN C.N g.scope)) (tB p W0 fun ρ => dTs n (gnN C g) g.ifs ρ) (tE p W0 .va fun ρ => dE n false (gnN C g) g.elt ρ) (ownN C.N g.scope) k a s5 → Q' (.ref a) s5) :
    wpAny (model X.prog X.w) X.A (eval (gnE g) X.env) Q' X.xe s := by
  unfold gnB at hB
  simp only [Bool.and_eq_true, decide_eq_true_eq] at hB
  obtain ⟨⟨⟨⟨hc, hlp⟩, h8⟩, hi⟩, hl⟩ := hB
  have ok := gnOk_by x hc
  obtain ⟨c, P, hcode, TB, hm, hu⟩ := x.tab (by omega)
  have hv : ∀ y, stoN (gnN C g) y = true → ixOf C.N y ∈ ownN C.N g.scope := fun y hy => own_mem (sc := C.sc) hy ok.uniq
  obtain ⟨ρ, G, dc, gs, rs, post⟩ := q
  refine gn_make (K := fun J H2 => ∃ ρ items dc1 G1, GS p dc1 G1 H2 ∧ RS p ρ σ G1 H2 ∧ IOk p true G1 H2 items J ∧ Post p W (RV p m) σ G1 H2 (R ρ items dc1) Q) (x.room'.mono (by omega)) x.calm (by rw [x.N]; exact x.nd) TB hcode hm hu hlp ok (h2.I x true g.tg g.it hi)
    (fun A s H Ca code fp pn hrA => pg_T (x.gn ok.cell hrA s H Ca code fp pn) _ hv n g.tg) (fun A s H Ca code fp pn hrA => h2.ih.Ts (x.gn ok.cell hrA s H Ca code fp pn) g.ifs) (fun A s H Ca code fp pn hrA => h2.ih.E (x.gn ok.cell hrA s H Ca code fp pn) false .va g.elt rfl)
    (fun v => ?_) I ⟨ρ, G, dc, gs, rs, Post.seq post fun items dc1 J G1 H1 _ gs1 g1 iok post1 => ⟨gs1.tabs, fun H2 tg tq => ?_⟩⟩ fun J H2 a s5 ⟨ρ, items, dc1, G1, a1, a2, a3, a4⟩ rd => hQ ρ items dc1 G1 H2 J a s5 a1 a2 a3 a4 rd
  · have hs := itOk_set hi
    unfold genFold
    split
    · rename_i es q e
      rw [e] at hl
      cases hl
    · exact fold_of hs v
  · obtain ⟨gs2, g2⟩ := TGrow.gs gs1 hm tg tq
    exact ⟨ρ, items, dc1, G1, gs2, (rs.grow gs g1).grow gs1 g2, iok.on g2, post1.grow g2⟩
theorem bt_any : bootBuiltins "any" = some (.builtin "any") := by with_unfolding_all rfl
theorem bt_all : bootBuiltins "all" = some (.builtin "all") := by with_unfolding_all rfl
theorem e_gen (h2 : IH2 n) (x : XOk p C k W X) {f : Str} {g : GA} {p1 pos : Pos} (hg : gloK C.sc f = true) (hB : gnB C g = true) (hf : isGn f = true) (hm : m = .va ∨ m = .bo) :
    PE X (.Call (.Name f p1) [gnE g] [] pos) (tE p W m fun ρ => dI n true C g.it ρ >>= fun items => genM f (tgN n (gnN C g) g.tg) (fun ρ => noE (dTs n (gnN C g) g.ifs ρ)) (fun ρ => noE (dE n false (gnN C g) g.elt ρ)) (wipeE ρ (ownN C.N g.scope)) items) := by
  have pl := plain_d (glo_plain hg)
  have he : starEach [gnE g] X.env = (false, eval (gnE g) X.env) :: starEach [] X.env := rfl
  have h8 : 8 ≤ C.g := by
    unfold gnB at hB
    simp only [Bool.and_eq_true, decide_eq_true_eq] at hB
    exact hB.1.1.2
  have r8 : Room (k + 8) X.A := x.room'.mono (by omega)
  have r7 : Room (k + 7) X.A.in1 := r8.in1
  have r6 : Room (k + 6) X.A.in1.in1 := r7.in1
  have r5 : Room (k + 5) X.A.in1.in1.in1 := r6.in1
  have r4 : Room (k + 4) X.A.in1.in1.in1.in1 := r5.in1
  have cst : ∀ {σ' : L2.St} {H' : Hp} {s' : Shared}, Inv X [] σ' H' s' → cStatics < s'.heap.objs.size := fun I => let ⟨_, hns, _⟩ := I.nolimit; hns.lt
  have wk : ∀ {pins : List (Addr × Obj)} {σ : L2.St} {H1 : Hp} {a : Addr} {s5 : Shared} {J : It} {Z : Addr → Csm} {W' : Nat → Nat → List V → Hp → Prop} {mm : Nat} {A : Around}, Room (k + 1) A → A.frames = some X.stack →
      Ready X pins σ H1 J (gT p (tgN n (gnN C g) g.tg) (ownN C.N g.scope)) (tB p W0 fun ρ => dTs n (gnN C g) g.ifs ρ) (tE p W0 .va fun ρ => dE n false (gnN C g) g.elt ρ) (ownN C.N g.scope) k a s5 → (∀ S S', (Z S).S = some S' → S' = S) → W' 0 mm [] H1 →
      (∀ S, GnW J (gT p (tgN n (gnN C g) g.tg) (ownN C.N g.scope)) (tB p W0 fun ρ => dTs n (gnN C g) g.ifs ρ) (tE p W0 .va fun ρ => dE n false (gnN C g) g.elt ρ) (ownN C.N g.scope) σ (Z S) W') → Wk X pins σ Z A a mm s5 := fun {pins σ H1 a s5 J Z W' mm A} hr hf rd hS hw hW => by
    obtain ⟨gn, h1, h2, go⟩ := rd.go
    exact ⟨rd.inv.bare, rd.lt, gn, h1, fun S s6 k6 os g6 hs hd => go A (Z S) W' mm s6 hr hf k6 os (by rw [g6]; exact rd.inv.bare) (by rw [g6]) (fun S' e => by rw [hS S S' e]; exact hs) hd hw (hW S)⟩
  refine ⟨fun pins s σ H Q I q => ?_⟩
  by_cases f1 : f = "any"
  · subst f1
    refine wpAny_Call_Name_kw (ld_blt I (x.glo _ hg) (x.gm.bl "any" (by decide)).1 bt_any ?_ pl.2.2 pl.1)
    refine PyProof.Rows.callWith_builtin1 ?_ he (by rfl)
    rw [he]
    show wpAny _ _ (spliced ((false, eval (gnE g) X.env) :: backTo pos (starEach [] X.env))) _ _ s
    refine Calls.spliced_cons (gn_eval h2 x hB I q fun ρ items dc1 G1 H1 J a s5 gs1 rs1 iok post rd => Calls.spliced_nil ?_)
    obtain ⟨gn, g1, g2, go⟩ := rd.go
    refine gn_call_any (n := items.length) r8.hd r7.depth (go X.A.in1.in1 (lookZ true fun b H => Q (.bl b) H) _ _ s5 (r6.mono (by omega)) I.ok.frames (fun _ _ e => e) rfl rd.inv.bare rfl (fun S z => by cases z) (fun S z => by cases z) ?_ (gn_anyW (m := m) (W := W) gs1 (rs1.wipe _) iok)) fun b H' s' I' hq => ⟨.bl b, H', I', rfl, hq⟩
    exact ⟨by simp, Nat.zero_le _, G1, dc1, gs1, .refl _ _ _, post⟩
  by_cases f2 : f = "all"
  · subst f2
    refine wpAny_Call_Name_kw (ld_blt I (x.glo _ hg) (x.gm.bl "all" (by decide)).1 bt_all ?_ pl.2.2 pl.1)
    refine PyProof.Rows.callWith_builtin1 ?_ he (by rfl)
    rw [he]
    show wpAny _ _ (spliced ((false, eval (gnE g) X.env) :: backTo pos (starEach [] X.env))) _ _ s
    refine Calls.spliced_cons (gn_eval h2 x hB I q fun ρ items dc1 G1 H1 J a s5 gs1 rs1 iok post rd => Calls.spliced_nil ?_)
    obtain ⟨gn, g1, g2, go⟩ := rd.go
    refine gn_call_all (n := items.length) r8.hd r7.depth (go X.A.in1.in1 (lookZ false fun b H => Q (.bl b) H) _ _ s5 (r6.mono (by omega)) I.ok.frames (fun _ _ e => e) rfl rd.inv.bare rfl (fun S z => by cases z) (fun S z => by cases z) ?_ (gn_allW (m := m) (W := W) gs1 (rs1.wipe _) iok)) fun b H' s' I' hq => ⟨.bl b, H', I', rfl, hq⟩
    exact ⟨by simp, Nat.zero_le _, G1, dc1, gs1, .refl _ _ _, post⟩
  by_cases f3 : f = "sum"
  · subst f3
    refine wpAny_Call_Name_kw (ld_blt I (x.glo _ hg) (x.gm.bl "sum" (by decide)).1 bt_sum ?_ pl.2.2 pl.1)
    refine PyProof.Rows.callWith_builtin1 ?_ he (by rfl)
    rw [he]
    show wpAny _ _ (spliced ((false, eval (gnE g) X.env) :: backTo pos (starEach [] X.env))) _ _ s
    refine Calls.spliced_cons (gn_eval h2 x hB I q fun ρ items dc1 G1 H1 J a s5 gs1 rs1 iok post rd => Calls.spliced_nil ?_)
    refine gn_call_sum (B := fun j H => Q (.int j) H) (n := items.length) r8.hd r7.depth (let ⟨_, hns, _⟩ := rd.inv.nolimit; hns.lt) (wk (r6.mono (by omega)) I.ok.frames rd (fun S S' z => by cases z; rfl) (W' := fun i mm ys H => mm = items.length - i ∧ i ≤ items.length ∧ PvC p W m σ G1 H1 Q (fun ys => lift ((sumD ys 0).map .int)) (fun i => lcM (tgN n (gnN C g) g.tg) (fun ρ => noE (dTs n (gnN C g) g.ifs ρ)) (fun ρ => noE (dE n false (gnN C g) g.elt ρ)) (wipeE ρ (ownN C.N g.scope)) (items.drop i)) i ys H) ⟨by simp, Nat.zero_le _, G1, dc1, [], gs1, .refl _ _ _, rfl, post⟩ fun S => gn_colW gs1 (rs1.wipe _) iok ?_ ?_) fun j t H' s' I' hq => ⟨.int j, H', I', ⟨t, rfl⟩, hq⟩
    · intro as d zs ys y G' H' dcx dcy s' g' dv dvy pt
      obtain ⟨r, e, _⟩ := Post.lift pt
      obtain ⟨t, e, _⟩ := Option.map_eq_some_iff.mp e
      obtain ⟨j, rfl⟩ := sumD_int _ _ _ _ _ e
      exact ⟨j, dvy⟩
    · intro as ys G' H' dcx s' g' dv pt
      obtain ⟨r, e, fin⟩ := Post.lift pt
      obtain ⟨t, e1, rfl⟩ := Option.map_eq_some_iff.mp e
      have e2 := sumD_V as ys 0 t e1 dv
      show Q (.int (sumV ys)) H'
      rw [Int.zero_add] at e2
      rw [← e2]
      exact fin _ G' H' s' g' (RV.of rfl rfl)
  by_cases f4 : f = "tuple"
  · subst f4
    refine wpAny_Call_Name_kw (ld_blt I (x.glo _ hg) (x.gm.bl "tuple" (by decide)).1 bt_tuple ?_ pl.2.2 pl.1)
    refine PyProof.Rows.callWith_type1 ?_ he (by rfl)
    rw [he]
    show wpAny _ _ (spliced ((false, eval (gnE g) X.env) :: backTo pos (starEach [] X.env))) _ _ s
    refine Calls.spliced_cons (gn_eval h2 x hB I q fun ρ items dc1 G1 H1 J a s5 gs1 rs1 iok post rd => Calls.spliced_nil ?_)
    refine gn_call_tuple (B := fun ys H' => ∃ G' dcx as, GS p dcx G' H' ∧ Grow p.da G1 H1 G' H' ∧ DVs p.K p.da G' as ys ∧ Post p W (RV p m) σ G1 H1 (lift (mkT as) dcx) Q) (n := items.length) r8.hd r5.depth (let ⟨_, hns, _⟩ := rd.inv.nolimit; hns.lt) (wk (r4.mono (by omega)) I.ok.frames rd (fun S S' z => by cases z; rfl) (W' := fun i mm ys H => mm = items.length - i ∧ i ≤ items.length ∧ PvC p W m σ G1 H1 Q (fun ys => lift (mkT ys)) (fun i => lcM (tgN n (gnN C g) g.tg) (fun ρ => noE (dTs n (gnN C g) g.ifs ρ)) (fun ρ => noE (dE n false (gnN C g) g.elt ρ)) (wipeE ρ (ownN C.N g.scope)) (items.drop i)) i ys H) ⟨by simp, Nat.zero_le _, G1, dc1, [], gs1, .refl _ _ _, rfl, post⟩ fun S => gn_colW gs1 (rs1.wipe _) iok ?_ ?_) fun ys us H' s' I' hv hl hq => ?_
    · intro as d zs ys y G' H' dcx dcy s' g' dv dvy pt
      obtain ⟨r, e, _⟩ := Post.lift pt
      unfold mkT at e
      split at e
      · rename_i hl
        rw [List.length_append, List.length_cons] at hl
        have := dv.length
        show ys.length < sizeLine
        rw [this, ← szL_eq]
        omega
      · cases e
    · intro as ys G' H' dcx s' g' dv pt
      exact ⟨G', dcx, as, s', g', dv, pt⟩
    · obtain ⟨G', dcx, as, gs', g', dv, pt⟩ := hq
      obtain ⟨r, e, fin⟩ := Post.lift pt
      unfold mkT at e
      split at e
      · cases e
        have hn : H' s'.heap.objs.size = none := I'.hok.fresh (Nat.le_refl _)
        exact ⟨.ref _, _, I'.laid (t' := s'.toks) (o := .tup ys) (fun b o e => Heap.get?_push_of_some _ e) (Nat.le_refl _) ⟨hl, us, hv, IsTup.new _ _⟩, rfl, new_tup gs' hn dv fun v G2 H2 s2 g2 r2 => fin v G2 H2 s2 (g'.trans g2) r2⟩
      · cases e
  · exfalso
    unfold isGn at hf
    simp [f1, f2, f3, f4] at hf
end
end Px
set_option maxRecDepth 100000
set_option maxHeartbeats 4000000
/-! PL1: a lambda is made. -/
namespace Px
open PySem PySem.Spec PyProof.Rows L2 RZ LamX
section
variable {X : Cx} {pins : List (Addr × Obj)} {σ : L2.St} {H : Hp} {s : Shared}
theorem lamO_ne {f c : Addr} {q : Str} {body : Expr} {scope : Scope} {cl : List (Str × Addr)} (ps : Array Value) : LamO f q body scope cl c ≠ .tbl ps := fun z => by
  unfold LamO at z
  cases z
/-- what grows: all but the tables stay, what is new was not there -/
structure ExtC (P : Addr) (H H' : Hp) : Prop where
  ext : ∀ b o, b ≠ P → H b = some o → H' b = some o
  some : ∀ b, H b ≠ none → H' b ≠ none
theorem lam_track {f : Addr} {q : Str} {body : Expr} {scope : Scope} {cl : List (Str × Addr)} {pm ctv : Value} {c' : Addr} {t' : Nat} (I : Inv X pins σ H s) (h' : Heap) (hk : ∀ b o, s.heap.get? b = some o → h'.get? b = some o) (hf : s.heap.objs.size ≤ f)
    (ho : h'.get? f = some (PySem.W.kla_obj "<lambda>" q noArgs body scope cl pm c' ctv)) : Inv X pins σ (upd H f (LamO f q body scope cl c')) { s with heap := h', toks := t' } :=
  I.laid hk hf ⟨⟨pm, ctv, ho⟩, ⟨_, ho⟩, fun h1 h2 ⟨pm, ctv, z⟩ st => ⟨pm, ctv, st _ z⟩⟩
theorem lam_mk {T : List (Addr × List (Nat × Nat) × Str)} {lp : List (Nat × Nat)} {c P : Addr} {body : Expr} {scope : Scope} {pos : Pos} {E : Value → Shared → Prop} {Q : Value → Shared → Prop} (I : Inv X pins σ H s) (TB : TabB X.base X.mg c P) (hcode : X.env.code = .ref c)
    (hm : (P, lp, X.env.qual) ∈ T) (hu : ∀ t ∈ T, t.1 = P → t = (P, lp, X.env.qual)) (hT : ∀ t ∈ T, TabQ H t) (hlp : (pos.line, pos.col) ∈ lp) (hfree : ∀ y ∈ scope.names, y.2 = .free → ∃ c, X.env.cells.lookup y.1 = some c)
    (h : ∀ (f c' : Addr) (H1 : Hp) (s' : Shared), Inv X pins σ H1 s' → ExtC P H H1 → (∀ t ∈ T, TabQ H1 t) → H f = none → f ≠ c' → H1 f = some (LamO f (X.env.qual ++ "<lambda>") body scope (cloFrom X.env.cells scope.names []) c') → H1 c' = some (CodeO c' (X.env.qual ++ "<lambda>")) → Q (.ref f) s') :
    wpAny (model X.prog X.w) X.A (eval (.Lambda noArgs body scope pos) X.env) Q E s := by
  obtain ⟨ps, hP, ht, ha⟩ := (show TabQ H (P, lp, X.env.qual) from hT _ hm)
  have hP : H P = some (.tbl ps) := hP
  refine PySem.W.kla_eval rfl ?_
  have bP : s.heap.BuiltinsAt X.mg P := TB.bm.keeps I.bk
  have hP' : s.heap.get? P = some { cls := .none, data := .fields ps } := I.hok P _ hP
  cases hc : codeAmong pos ps.toList with
  | none =>
    refine PySem.W.kla_makeFunction (mg := X.mg) (c := c) (P := P) (ps := ps) (closure_ok hfree) I.ok.glob (I.mod.glob.keeps I.bk) hcode (TB.code.keeps I.bk) hP' ht hc TB.gP bP fun c' ctv h' tk hx hge hlt hrec htb => ?_
    obtain ⟨c2, oc, vs, t, e2, hoc, hd, hv⟩ := hrec
    cases e2
    have hsz : s.heap.objs.size ≤ h'.objs.size := Nat.le_trans hge (Nat.le_of_lt hlt)
    have nC : H c' = none := I.hok.fresh hge
    have I1 := inv_table (t' := tk) (more := #[rawInt pos.line, rawInt pos.col, .ref c']) (h' := h') I hP (fun b o hb e => hx b o hb e) htb hge ⟨oc, vs, t, hoc, hd, hv⟩
    have I2 := lam_track (t' := tk) I1 (h'.push (PySem.W.kla_obj "<lambda>" (X.env.qual ++ "<lambda>") noArgs body scope (cloFrom X.env.cells scope.names []) ((X.mg "__name__").getD .none) c' ctv)) (fun b o e => Heap.get?_push_of_some _ e) (Nat.le_refl _) (Heap.get?_push_size _ rfl)
    have nf0 : H h'.objs.size = none := I.hok.fresh hsz
    have nP : ∀ {b : Addr} {q : Str}, H b = some (CodeO b q) → b ≠ P := fun {b q} e z => by rw [z, hP] at e; cases e
    have n1 : h'.objs.size ≠ c' := Nat.ne_of_gt hlt
    have n2 : h'.objs.size ≠ P := Nat.ne_of_gt (Nat.lt_of_lt_of_le (Heap.lt_size hP') hsz)
    have n3 : P ≠ c' := ne_of_none hP nC
    have eP : upd (upd (upd H P (.tbl (ps ++ #[rawInt pos.line, rawInt pos.col, .ref c']))) c' (CodeO c' (X.env.qual ++ "<lambda>"))) h'.objs.size (LamO h'.objs.size (X.env.qual ++ "<lambda>") body scope (cloFrom X.env.cells scope.names []) c') P = some (.tbl (ps ++ #[rawInt pos.line, rawInt pos.col, .ref c'])) := by
      rw [upd_ne (Ne.symm n2), upd_ne n3, upd_same]
    have eC : upd (upd (upd H P (.tbl (ps ++ #[rawInt pos.line, rawInt pos.col, .ref c']))) c' (CodeO c' (X.env.qual ++ "<lambda>"))) h'.objs.size (LamO h'.objs.size (X.env.qual ++ "<lambda>") body scope (cloFrom X.env.cells scope.names []) c') c' = some (CodeO c' (X.env.qual ++ "<lambda>")) := by
      rw [upd_ne (Ne.symm n1), upd_same]
    have at_ : ∀ b, b ≠ P → b ≠ c' → b ≠ h'.objs.size → upd (upd (upd H P (.tbl (ps ++ #[rawInt pos.line, rawInt pos.col, .ref c']))) c' (CodeO c' (X.env.qual ++ "<lambda>"))) h'.objs.size (LamO h'.objs.size (X.env.qual ++ "<lambda>") body scope (cloFrom X.env.cells scope.names []) c') b = H b := fun b h1 h2 h3 => by
      rw [upd_ne h3, upd_ne h2, upd_ne h1]
    have eL : (ps ++ #[rawInt pos.line, rawInt pos.col, .ref c']).toList = ps.toList ++ [rawInt pos.line, rawInt pos.col, .ref c'] := by simp
    have ext : ExtC P H (upd (upd (upd H P (.tbl (ps ++ #[rawInt pos.line, rawInt pos.col, .ref c']))) c' (CodeO c' (X.env.qual ++ "<lambda>"))) h'.objs.size (LamO h'.objs.size (X.env.qual ++ "<lambda>") body scope (cloFrom X.env.cells scope.names []) c')) := by
      refine ⟨fun b o n e => ?_, fun b e => ?_⟩
      · rw [at_ b n (ne_of_none e nC) (ne_of_none e nf0)]
        exact e
      · by_cases z : b = P
        · subst z; rw [eP]; simp
        · rw [at_ b z (fun q => by subst q; exact e nC) (fun q => by subst q; exact e nf0)]; exact e
    refine h h'.objs.size c' _ _ I2 ext (fun t ht' => ?_) nf0 n1 upd_same eC
    by_cases hb : t.1 = P
    · obtain rfl := hu t ht' hb
      refine ⟨_, eP, by rw [eL]; exact PySem.TriplesOk_snoc _ _ _ _ ht, fun p' cv hcv hp' => ?_⟩
      rw [eL] at hcv
      rcases among_app _ ht hcv with z | z
      · obtain ⟨c0, e1, e2⟩ := ha p' cv z hp'
        exact ⟨c0, e1, ext.ext _ _ (nP e2) e2⟩
      · exact ⟨c', z, eC⟩
    · obtain ⟨ps', a1, a2, a3⟩ := hT t ht'
      refine ⟨ps', by rw [at_ _ hb (ne_of_none a1 nC) (ne_of_none a1 nf0)]; exact a1, a2, fun p' cv hcv hp' => ?_⟩
      obtain ⟨c0, e1, e2⟩ := a3 p' cv hcv hp'
      exact ⟨c0, e1, ext.ext _ _ (nP e2) e2⟩
  | some cv =>
    obtain ⟨c', e, hco⟩ := ha pos cv hc hlp
    subst e
    refine PySem.W.kla_makeFunctionHit (mg := X.mg) (c := c) (P := P) (ps := ps) (closure_ok hfree) I.ok.glob (I.mod.glob.keeps I.bk) hcode (TB.code.keeps I.bk) hP' ht hc bP fun ctv h' tk hx hsz => ?_
    have nf0 : H h'.objs.size = none := I.hok.fresh hsz
    have I2 := lam_track (t' := tk) I (h'.push (PySem.W.kla_obj "<lambda>" (X.env.qual ++ "<lambda>") noArgs body scope (cloFrom X.env.cells scope.names []) ((X.mg "__name__").getD .none) c' ctv)) (fun b o e => Heap.get?_push_of_some _ (hx b o e)) hsz (Heap.get?_push_size _ rfl)
    have ext : ∀ b o, H b = some o → upd H h'.objs.size (LamO h'.objs.size (X.env.qual ++ "<lambda>") body scope (cloFrom X.env.cells scope.names []) c') b = some o := fun b o e => by
      rw [upd_ne (ne_of_none e nf0)]; exact e
    refine h h'.objs.size c' _ _ I2 ⟨fun b o _ e => ext b o e, fun b e => ?_⟩ (fun t ht' => (hT t ht').ext ext) nf0 (ne_of_none hco nf0).symm upd_same (ext _ _ hco)
    by_cases z : b = h'.objs.size
    · subst z; exact absurd nf0 e
    · rw [upd_ne z]; exact e
end
section
variable {p : Pk} {C : Cn} {k : Nat} {W : WX} {X : Cx} {n : Nat} {b : Bool} {m : Md} {G H H1 : Hp} {dc : Dc} {ρ : En} {σ : L2.St}
/-- the lambda's object and its code stand, frozen -/
theorem lam_grow {P f c' : Addr} {q q' : Str} {lp : List (Nat × Nat)} {body : Expr} {scope : Scope} {cl : List (Str × Addr)} (gs : GS p dc G H) (e : ExtC P H H1) (tq : ∀ t ∈ p.T, TabQ H1 t) (hm : (P, lp, q') ∈ p.T) (nf : H f = none) (hf : H1 f = some (LamO f q body scope cl c')) (hc : H1 c' = some (CodeO c' q)) :
    GS p dc (upd (upd G c' (CodeO c' q)) f (LamO f q body scope cl c')) H1 ∧ Grow p.da G H (upd (upd G c' (CodeO c' q)) f (LamO f q body scope cl c')) H1 := by
  obtain ⟨ps, hP, _⟩ := gs.tabs _ hm
  obtain ⟨ps1, hP1, _⟩ := tq _ hm
  have hP : H P = some (.tbl ps) := hP
  have hP1 : H1 P = some (.tbl ps1) := hP1
  have gP : G P = none := gs.tabf _ hm
  have cP : c' ≠ P := fun z => by rw [z, hP1] at hc; cases hc
  have gf : G f = none := by
    cases z : G f with
    | none => rfl
    | some u => rw [gs.sub _ _ z] at nf; cases nf
  have hfP : f ≠ P := fun z => by rw [z, hP] at nf; cases nf
  have at_ : ∀ x, x ≠ f → x ≠ c' → upd (upd G c' (CodeO c' q)) f (LamO f q body scope cl c') x = G x := fun x h1 h2 => by rw [upd_ne h1, upd_ne h2]
  have sc : ∀ u, G c' = some u → u = CodeO c' q := fun u z => by
    have z1 := e.ext _ _ cP (gs.sub _ _ z)
    rw [hc] at z1
    exact (Option.some.inj z1).symm
  have sub : Sub G (upd (upd G c' (CodeO c' q)) f (LamO f q body scope cl c')) := fun x u z => by
    have n1 : x ≠ f := fun y => by subst y; rw [gf] at z; cases z
    by_cases n2 : x = c'
    · subst n2
      rw [upd_ne n1, upd_same, sc u z]
    · rw [at_ x n1 n2]; exact z
  have ext : Ext p.da H H1 := ⟨fun x u z _ n => e.ext x u (fun y => by subst y; rw [hP] at z; cases z; exact n _ rfl) z, e.some⟩
  refine ⟨⟨fun x u z => ?_, fun x z => ?_, tq, fun t ht => ?_⟩, ⟨sub, fun x u z1 z2 z3 z4 => ?_, ext⟩⟩
  · by_cases n1 : x = f
    · subst n1; rw [upd_same] at z; cases z; exact hf
    · by_cases n2 : x = c'
      · subst n2; rw [upd_ne n1, upd_same] at z; cases z; exact hc
      · rw [at_ x n1 n2] at z
        exact e.ext x u (fun y => by subst y; rw [gP] at z; cases z) (gs.sub _ _ z)
  · obtain ⟨d1, d2⟩ := gs.dice x z
    have n0 : x ≠ P := fun y => by subst y; rw [hP] at d1; cases d1
    have d3 := e.ext x _ n0 d1
    have n1 : x ≠ f := fun y => by subst y; rw [nf] at d1; cases d1
    have n2 : x ≠ c' := fun y => by subst y; rw [hc] at d3; cases d3
    exact ⟨d3, by rw [at_ x n1 n2]; exact d2⟩
  · obtain ⟨qs, h1, _⟩ := tq t ht
    rw [at_ _ (fun y => by rw [y, hf] at h1; cases h1) (fun y => by rw [y, hc] at h1; cases h1)]
    exact gs.tabf t ht
  · have n1 : x ≠ f := fun y => by subst y; rw [nf] at z2; cases z2
    by_cases n2 : x = c'
    · subst n2
      have z5 := e.ext _ _ cP z2
      rw [hc] at z5
      cases z5
      cases z3
    · rw [at_ x n1 n2]; exact z1
end
end Px
set_option maxRecDepth 100000
set_option maxHeartbeats 4000000
/-! PT1: a lambda called by a def that tells an error. -/
namespace Px
open PySem PySem.Spec PyProof.Rows L2 RZ LamX
section
variable {p : Pk} {C : Cn} {k : Nat} {W : WX} {X : Cx} {n : Nat} {b : Bool} {m : Md} {G H HZ : Hp} {dc : Dc} {ρ : En} {σ : L2.St} {pins : List (Addr × Obj)} {s : Shared}
abbrev lamN (C : Cn) (scope : Scope) : Cn := ⟨C.N, scope, C.Γ, 0, false, C.lp⟩
theorem XOk.lam (x : XOk p C k W X) {A : Around} {outer : List Env} {s : Shared} {H : Hp} {E : XK} {scope : Scope} {f c' : Addr} (hs : ∀ y ∈ scope.names, y.2 ≠ .local ∧ y.2 ≠ .cell) (hr : Room k (A.deeper (lamEnv X scope s.heap.objs.size f c'))) :
    XOk p (lamN C scope) k (fun cls d _ H => E cls d H) (lamCx X A outer s H E scope f c') := by
  refine ⟨x.K, x.N, x.nd, rfl, hr, takes_of rfl rfl rfl rfl, fun y h => ?_, fun y h => ?_, fun y h => ?_, fun y h => h, x.gm, fun z => absurd rfl z, fun z => by cases z⟩
  · unfold locK at h
    rw [Bool.and_eq_true] at h
    have h := h.2
    show Vis scope y
    split at h
    · rename_i q; exact .inl q
    · rename_i q; exact .inr (.inl q)
    · rename_i q; exact .inr (.inr q)
    · cases h
  · unfold gloK at h
    rw [Bool.and_eq_true] at h
    have h := h.2
    split at h
    · rename_i q; exact q
    · cases h
  · unfold stoK at h
    rw [Bool.and_eq_true] at h
    have h := h.2
    split at h
    · rename_i q; exact absurd rfl (hs _ (PySem.mem_of_lookup q)).1
    · rename_i q; exact absurd rfl (hs _ (PySem.mem_of_lookup q)).2
    · cases h
/-- a(), in the def that got the lambda at f -/
theorem lam_act {CXg : CXT} {Eg : XK} {Ng : List Str} {qg : Str} {sg : Scope} {g f c' : Addr} {cdg : Value} {body : Expr} {scope : Scope} {i : Nat} {a : Str} {pn : List (Addr × Obj)} {xe : Value → Shared → Prop} {W : WX} {E : XK} {tb : TE} {p1 p2 : Pos}
    (I : Inv X pins σ H s) (L : LamS X.env.scope scope) (tk : Takes ((cxOf CXg X.prog X.w X.K X.mg X.base Ng qg sg g cdg X.A X.stack s H Eg).tr pn xe) W) (hW : ∀ cls d σ' H', E cls d H' → W cls d σ' H') (hr : Room (k + 1) (X.A.deeper (envOfC qg sg s.heap.objs.size g cdg)))
    (hbody : ∀ (A : Around) (outer : List Env) (s : Shared) (H : Hp), Room k (A.deeper (lamEnv X scope s.heap.objs.size f c')) → PE (lamCx X A outer s H E scope f c') body tb)
    (hN : Ng[i]? = some a) (hv : Vis sg a) (hd : (a == ("__debug__" : Str)) = false) (hcd : (a == ("__classdict__" : Str)) = false) :
    PE ((cxOf CXg X.prog X.w X.K X.mg X.base Ng qg sg g cdg X.A X.stack s H Eg).tr pn xe) (.Call (.Name a p1) [] [] p2)
      (fun σZ HZ Q => σZ[i]? = some (some (.ref f)) ∧ HZ c' = some (CodeO c' (X.env.qual ++ "<lambda>")) ∧ HZ f = some (LamO f (X.env.qual ++ "<lambda>") body scope (cloFrom X.env.cells scope.names []) c') ∧ tb σ HZ Q) := by
  refine ⟨fun pinsZ sZ σZ HZ Q IZ h => ?_⟩
  obtain ⟨hs, hc, hf, ht⟩ := h
  refine wpAny_Call_Name_kw (thn ((pe_var (pos := p1) (i := i) hN hv hd hcd).run pinsZ sZ σZ HZ (fun v H1 => v = .ref f ∧ H1 = HZ) IZ ⟨.ref f, hs, rfl, rfl⟩) fun u s1 ⟨v, H1, I1, r1, q1⟩ => ?_)
  obtain ⟨ev, eH⟩ := q1
  subst ev
  rw [eH] at I1
  obtain rfl : u = Value.ref f := r1
  obtain ⟨⟨pm, ctv, of1⟩, _, _⟩ := I1.hok f _ hf
  refine PySem.W.callWith_F0 ⟨_, _, _, _, of1⟩ ?_
  have un : Un (frs X.stack) [] H HZ s.heap s1.heap := I1.base
  obtain ⟨⟨oc, vs, t, hoc, hdc, hvc⟩, _, _⟩ := I1.hok c' _ hc
  have rc : codeAny (model X.prog X.w) (X.A.deeper (envOfC qg sg s.heap.objs.size g cdg)) (.call (.ref f) ⟨[], []⟩) (CR (L2.CX X.prog X.w) (envOfC qg sg s.heap.objs.size g cdg :: X.stack) X.prog X.w HZ s1 Q E) s1 := by
    refine PySem.W.kla_callFunE hr.depth of1 rfl L.co L.gen rfl ⟨c', oc, vs, t, rfl, hoc, hdc, hvc⟩ ?_
    rw [show bindArgs (PySem.W.kla_fn "<lambda>" (X.env.qual ++ "<lambda>") noArgs body scope (cloFrom X.env.cells scope.names []) pm (.ref c') ctv) ⟨[], []⟩ = pure [] from rfl]
    refine wpAny_pure (wpAny_newFunctionEnv (fun y hy => (L.own y hy).2) (fun y hy => absurd hy (by simp)) (fun h₁ hns hsb => ⟨I1.nolimit.fresh _ hsb, ?_⟩) L.kind)
    show codeAny _ _ (.expr body (lamEnv X scope s1.heap.objs.size f c')) _ _
    have kp : ∀ b o, s1.heap.get? b = some o → h₁.get? b = some o := fun b o e => hsb.extBut b o (Nat.ne_of_lt (Heap.lt_size e)) (Heap.get?_push_of_some _ e)
    have J : Inv (lamCx X (X.A.deeper (envOfC qg sg s.heap.objs.size g cdg)) (envOfC qg sg s.heap.objs.size g cdg :: X.stack) s1 HZ E scope f c') [] σ HZ { s1 with heap := h₁, toks := s1.toks + ([] : List (Str × Value)).length } :=
      lam_start2 I L I1.env0 hr.hd un hns kp
    refine PySem.W.kla_codeExpr (wpAny_mono ((hbody _ _ s1 HZ (hr.deeper _)).run [] _ _ HZ Q J ht) (fun v s' hq => ?_) fun e s' hq => hq)
    obtain ⟨w', H', J', rv, q⟩ := hq
    exact ⟨w', H', J'.os, J'.bare, J'.base, J'.hok, rv, q⟩
  have hx : Passes (L2.CX X.prog X.w) ((cxOf CXg X.prog X.w X.K X.mg X.base Ng qg sg g cdg X.A X.stack s H Eg).tr pn xe) E := passes_call tk hW
  refine wpAny_call (codeAny_mono rc fun r s' hq => ?_)
  cases r with
  | error e => exact hx pinsZ σZ HZ s1 e s' I1 hq
  | ok fl =>
    cases fl with
    | ret u => exact I1.after hq
    | next => exact False.elim hq
    | brk => exact False.elim hq
    | cont => exact False.elim hq
/-- the def that tells, called with the lambda at f -/
theorem told_call (I : Inv X pins σ H s) {tn : Str} {pr : Str → Bool} {wd : Str} {g CS : Addr} {a e : Str} {pg : Arguments} {bg : List Stmt} {sg : Scope} {dV kV doc pm cdv ct oc : Value} {an od : Option Addr} {osl : Array (Option Value)} {Ng : List Str}
    (T : ToldOk X.K X.mg tn pr wd g CS a e pg bg sg dV kV doc pm cdv ct oc an od osl Ng) {body : Expr} {scope : Scope} {f c' : Addr} {Q : VK} {t : XK → TE} (L : LamS X.env.scope scope) (hr : Room (k + 2) X.A)
    (hbody : ∀ (A : Around) (outer : List Env) (s : Shared) (H : Hp) (E : XK), Room k (A.deeper (lamEnv X scope s.heap.objs.size f c')) → PE (lamCx X A outer s H E scope f c') body (t E))
    (hf : H f = some (LamO f (X.env.qual ++ "<lambda>") body scope (cloFrom X.env.cells scope.names []) c')) (hc : H c' = some (CodeO c' (X.env.qual ++ "<lambda>")))
    (h : t (fun cls _ H' => ∃ b, PySem.W.exmOne X.K cls (.ref CS) = some b ∧ (b = true → Q (.str wd) H') ∧ (b = false → False)) σ H Q) :
    codeAny (model X.prog X.w) X.A (.call (.ref g) ⟨[.ref f], []⟩) (CR C8.CX0 X.stack X.prog X.w H s Q C8.E0) s := by
  obtain ⟨j, p1, p2, p3, p4, p5, p6, p7, p8, rfl⟩ := T.body
  refine run_ofS (N := Ng) (ps := [a]) (us := [.ref f]) (vs := [.ref f]) T.lk T.code T.scope hr I.env0 (T.binds s [.ref f] I.kIn rfl) (.cons rfl .nil) rfl fun hr' => ?_
  obtain ⟨t', ht', hq'⟩ := told_gives (j := j) (p1 := p1) (p2 := p2) (p3 := p3) (p4 := p4) (p5 := p5) (p6 := p6) (p7 := p7) (p8 := p8) (q := X.env.qual ++ "<lambda>") (ret := wd) T.glo T.err T.de (fun f => T.st (.ref f)) f c' s H Q
    (fun E H' Q' => H' f = some (LamO f (X.env.qual ++ "<lambda>") body scope (cloFrom X.env.cells scope.names []) c') ∧ t E σ H' Q')
    (fun W pn xe E p1 p2 tk hW => lam_act (i := 0) (k := k) I L tk hW hr' (fun A outer s H hr2 => hbody A outer s H E hr2) T.ix T.vis T.da T.dk) hc ⟨hf, h⟩
  exact ⟨t', ht'.nox, hq'⟩
/-- behind it -/
theorem told_done {u : Value} {r : Result} {Q : VK} {s' : Shared} (h : CR C8.CX0 X.stack X.prog X.w H s Q C8.E0 r s') : ∃ u, r = .ok (.ret u) ∧ CE X.stack X.prog X.w H s Q u s' := by
  cases r with
  | error e => exact (show False from h).elim
  | ok fl =>
    cases fl with
    | ret u => exact ⟨u, rfl, h⟩
    | next => exact False.elim h
    | brk => exact False.elim h
    | cont => exact False.elim h
end
end Px
set_option maxRecDepth 100000
set_option maxHeartbeats 4000000
/-! PT2: told(lambda: ..); a list comprehension whose tests know the def's own state. -/
namespace Px
open PySem PySem.Spec PyProof.Rows L2 RZ LamX
section
variable {p : Pk} {C : Cn} {k : Nat} {W : WX} {X : Cx} {n : Nat} {b : Bool} {m : Md} {G H HZ : Hp} {dc : Dc} {ρ : En} {σ : L2.St} {pins : List (Addr × Obj)} {s : Shared}
theorem noPar_eq {ps : Arguments} (h : noPar ps = true) : ps = noArgs := by
  obtain ⟨a, b, c, d, e, f, g⟩ := ps
  unfold noPar at h
  split at h
  · rename_i q
    cases q
    rfl
  · cases h
/-- what the def's telling makes of the body's outcome -/
theorem told_post {K : PySem.W.Frag} {CS : Addr} {pr : Str → Bool} {wd : Str} {body : M D} {Q : VK} (hK : K = p.K) (ht : ∀ c, pr c = true → PySem.W.exmOne K (.ref (He.ga K c)) (.ref CS) = some true) (hm : m = .va ∨ m = .bo) (post : Post p W (RV p m) σ G H (toldM pr wd body dc) Q) :
    Post p (fun cls d _ H => ∃ b, PySem.W.exmOne K cls (.ref CS) = some b ∧ (b = true → Q (.str wd) H) ∧ (b = false → False)) (RV p .va) σ G H (body dc) Q := by
  unfold toldM at post
  cases e : body dc with
  | ok d dc' =>
    rw [e] at post
    intro v G' H' s' g' r
    refine post v G' H' s' g' ?_
    rcases hm with rfl | rfl
    · exact r
    · exact .inl r
  | st =>
    rw [e] at post
    exact post
  | er c dc' =>
    rw [e] at post
    dsimp only at post
    cases hp : pr c with
    | false =>
      rw [hp] at post
      exact (show False from post).elim
    | true =>
      rw [hp] at post
      intro G' H' s' g'
      subst hK
      exact ⟨true, ht c hp, fun _ => post _ _ _ s' g' (RV.of rfl rfl), fun z => by cases z⟩
theorem lamsE_one {lp : List (Nat × Nat)} {args : List Expr} {l : Expr × Scope} (h : lamsE lp args = some [l]) : ∃ pos, args = [.Lambda noArgs l.1 l.2 pos] ∧ (pos.line, pos.col) ∈ lp := by
  unfold lamsE at h
  split at h
  · cases h
  · rename_i ps body scope pos r
    split at h
    · rename_i hc
      rw [Bool.and_eq_true, decide_eq_true_eq] at hc
      obtain ⟨ls, e1, e2⟩ := Option.map_eq_some_iff.mp h
      cases e2
      obtain rfl := noPar_eq hc.1
      have : r = [] := by
        unfold lamsE at e1
        split at e1
        · rfl
        · split at e1
          · obtain ⟨_, _, e⟩ := Option.map_eq_some_iff.mp e1
            cases e
          · cases e1
        · cases e1
      subst this
      exact ⟨pos, rfl, hc.2⟩
    · cases h
  · cases h
theorem e_told (h2 : IH n) (x : XOk p C k W X) {f : Str} {q : (Str → Bool) × Str} {l : Expr × Scope} {p1 lpos pos : Pos} (hg : gloK C.sc f = true) (hq : C.Γ.told.lookup f = some q) (hl : (lpos.line, lpos.col) ∈ C.lp) (h3 : 3 ≤ C.g) (hs : lamSB C.sc l.2 = true) (hm : m = .va ∨ m = .bo)
    (hsc : LamS X.env.scope l.2) : PE X (.Call (.Name f p1) [.Lambda noArgs l.1 l.2 lpos] [] pos) (tE p W m fun ρ => toldM q.1 q.2 (dE n false (lamN C l.2) l.1 ρ)) := by
  obtain ⟨g, CS, a, e, pg, bg, sg, dV, kV, doc, pm, cdv, ct, oc, an, od, osl, Ng, T0⟩ := x.gm.told f q.1 q.2 hq
  have T : ToldOk X.K X.mg f q.1 q.2 g CS a e pg bg sg dV kV doc pm cdv ct oc an od osl Ng := by rw [x.K]; exact T0
  obtain ⟨c, P, hcode, TB, hT, hu⟩ := x.tab (by omega)
  refine ⟨fun pins s σ H Q I ⟨ρ, G, dc, gs, rs, post⟩ => ?_⟩
  refine wpAny_Call_Name_kw (ld_glob I (x.glo f hg) T.at_ ?_ (plain_d (glo_plain hg)).1)
  refine PySem.W.callWith_K (h₀ := X.base) I.ok.mod.kin T.keep ?_ (by rfl) (by rfl)
  show wpAny _ _ (spliced ((false, eval (.Lambda noArgs l.1 l.2 lpos) X.env) :: backTo pos (starEach [] X.env))) _ _ s
  refine Calls.spliced_cons (lam_mk I TB hcode hT hu gs.tabs hl (hsc.has I.ok) fun f' c' H1 s' I1 ex tq nf ne hf hc => ?_)
  obtain ⟨gs1, g1⟩ := lam_grow gs ex tq hT nf hf hc
  refine Calls.spliced_nil ⟨I1.kIn, ?_⟩
  refine wpAny_call (codeAny_mono (told_call (k := k) (Q := Q) (t := fun E => tM p (fun cls d _ H => E cls d H) (RV p .va) (fun ρ => dE n false (lamN C l.2) l.1 ρ)) I1 T hsc (x.room'.mono (by omega)) (fun A outer s H E hr => h2.E (x.lam hsc.own hr) false .va l.1 rfl) hf hc
    ⟨ρ, _, dc, gs1, rs.grow gs g1, told_post x.K T.tells hm (post.grow g1)⟩) fun r s2 hq => ?_)
  obtain ⟨u, rfl, ce⟩ := told_done (u := Value.none) hq
  exact I1.after ce
end
end Px
set_option maxRecDepth 100000
set_option maxHeartbeats 4000000
/-! PT3: a list of lambdas, each told. -/
namespace Px
open PySem PySem.Spec PyProof.Rows L2 RZ LamX
section
variable {X : Cx}
/-- a list comprehension whose tests may know what the def's own frame holds (as lc_core of HandS.Comp, the tests asked with the def's state in hand) -/
theorem pe_lcT {elt tg iter : Expr} {ifs : List Expr} {scope : Scope} {own : List (Str × Nat)} {pos : Pos} {wi : TI} {g : TG} {tt : L2.St → TT} {te : TE} (hc : X.calm = true) (hN : X.N.Nodup) (hi : PI X tg iter wi) (ok : BlkOk X.N X.env.scope scope own)
    (hg : ∀ (s : Shared) (H : Hp) (C : Addr) (cl : List (Str × Addr)) (fp : List Addr), PG (X.blk s H scope (compEnvC scope cl C X.env) fp) tg g)
    (ht : ∀ (pins : List (Addr × Obj)) (σ : L2.St) (s : Shared) (H : Hp) (C : Addr) (cl : List (Str × Addr)) (fp : List Addr), Inv X pins σ H s → (∀ b ∈ fp, FpOk X pins H b) → PTs (X.blk s H scope (compEnvC scope cl C X.env) fp) ifs (tt σ))
    (he : ∀ (s : Shared) (H : Hp) (C : Addr) (cl : List (Str × Addr)) (fp : List Addr), PE (X.blk s H scope (compEnvC scope cl C X.env) fp) elt te) (hs : ∀ x, foldedSetIterable iter X.env x = pure x) :
    PE X (.ListComp elt [⟨tg, iter, ifs, 0⟩] scope pos) (fun σ H Q => tLc wi g (tt σ) te (own.map (·.2)) σ H Q) := by
  refine ⟨fun pins s σ H Q I h => ?_⟩
  rw [eval_ListComp]
  have hfree : ∀ y ∈ scope.names, y.2 = .free → ∃ c, X.env.cells.lookup y.1 = some c := fun y hy e => by
    rcases ok.free y hy e with k | k
    · exact I.ok.has _ (.inl k)
    · exact I.ok.has _ (.inr k)
  refine wpAny_comprehension_free (use := none) rfl hs (closure_ok hfree) ok.kind (fun y hy e => by rw [ok.uniq y hy, e])
    (thn (hi.run pins s σ H _ I h) fun xv s1 hx => thn hx fun itv s2 h2 => ?_)
  obtain ⟨it, fp, tn, J, H2, e, I2, T, st2, f2, q⟩ := h2
  subst e
  refine wpAny_newObj_type (newEnv_comp ?_) (by show 0 ≤ sizeLine; decide)
  generalize hD : s2.heap.objs.size = D
  have hDn : H2 D = none := I2.hok.fresh (Nat.le_of_eq hD)
  obtain ⟨W, ⟨m0, w0⟩, turn⟩ := q D hDn
  generalize hs3 : ({ s2 with heap := s2.heap.push { cls := .type "list", data := .seq ([] : List Value).toArray } } : Shared) = s3
  have I3 : Inv X pins σ (upd H2 D (.lst [])) s3 := by
    rw [← hs3]
    refine I2.laid (t' := s2.toks) (fun b o e => Heap.get?_push_of_some _ e) (Nat.le_of_eq hD) ⟨Nat.zero_le _, [], 0, .nil, ?_⟩
    rw [← hD]
    exact Heap.get?_push_size _ rfl
  have h3 : s3.heap = s2.heap.push { cls := .type "list", data := .seq ([] : List Value).toArray } := by rw [← hs3]
  have sz : ∀ b ∈ fp, b < s2.heap.objs.size := fun b hb => by
    obtain ⟨o, e, _⟩ := T.obj _ _ st2 b hb
    exact Heap.lt_size e
  have f3 : ∀ b ∈ fp, FpOk X pins (upd H2 D (.lst [])) b ∧ b < s3.heap.objs.size := fun b hb => by
    have hlt := sz b hb
    refine ⟨⟨?_, (f2 b hb).2⟩, by rw [h3, Heap.size_push]; exact Nat.lt_succ_of_lt hlt⟩
    rw [upd_ne (by rw [← hD]; exact Nat.ne_of_lt hlt)]
    exact (f2 b hb).1
  have st3 : tn 0 s3.heap := T.keep _ _ _ st2 fun b _ o e => by rw [h3]; exact Heap.get?_push_of_some _ e
  have I4 := block_start I3 ok hN f3
  have pg := hg s3 (upd H2 D (.lst [])) s3.heap.objs.size (cellsFrom (s3.heap.objs.size + 1) scope.names (cloFrom X.env.cells scope.names [])) fp
  have pt := ht pins σ s3 (upd H2 D (.lst [])) s3.heap.objs.size (cellsFrom (s3.heap.objs.size + 1) scope.names (cloFrom X.env.cells scope.names [])) fp I3 fun b hb => (f3 b hb).1
  have pe := he s3 (upd H2 D (.lst [])) s3.heap.objs.size (cellsFrom (s3.heap.objs.size + 1) scope.names (cloFrom X.env.cells scope.names [])) fp
  show codeAny _ _ (.compStart (.ListComp elt [⟨tg, iter, ifs, 0⟩] scope pos) 0 (.ref it) (.ref D) (compEnvC scope (cellsFrom (s3.heap.objs.size + 1) scope.names (cloFrom X.env.cells scope.names [])) s3.heap.objs.size X.env)) (compPost (model X.prog X.w) X.A X.xe none _ (.ref D) s3.heap.objs.size) { s3 with heap := pushCells (s3.heap.push { cls := .type "dict", data := .dict #[] }) scope.names }
  have nfp : ∀ b ∈ fp, (upd H2 D (.lst [])) b = none := fun b hb => (f3 b hb).1.1
  generalize hce : compEnvC scope (cellsFrom (s3.heap.objs.size + 1) scope.names (cloFrom X.env.cells scope.names [])) s3.heap.objs.size X.env = ce at I4 pg pt pe ⊢
  have cL : ce.locals = s3.heap.objs.size := by subst hce; rfl
  generalize hH3 : upd H2 D (.lst []) = H3 at I3 I4 pg pt pe w0 nfp f3
  generalize hs4 : ({ s3 with heap := pushCells (s3.heap.push { cls := .type "dict", data := .dict #[] }) scope.names } : Shared) = s4 at I4 ⊢
  have st4 : tn 0 s4.heap := T.keep _ _ _ st3 fun b _ o e => by rw [← hs4]; exact pushCells_keeps _ _ _ _ (Heap.get?_push_of_some _ e)
  have stat : ∀ {σ' : L2.St} {H' : Hp} {s' : Shared}, Inv (X.blk s3 H3 scope ce fp) [] σ' H' s' → (∀ b ∈ fp, H' b = none) → ∀ b ∈ fp, FpOk (X.blk s3 H3 scope ce fp) [] H' b := fun {σ' H' s'} I' hn b hb =>
    ⟨hn b hb, (I'.ok.exf b hb).1, I'.ok.exfs b hb, .inl hb, fun x c e => (I'.ok.exf b hb).2 x c e, fun p hp => absurd (show p ∈ ([] : List (Addr × Obj)) ++ [] from hp) (by simp)⟩
  have loop : codeAny (model X.prog X.w) X.A (.compLoop (.ListComp elt [⟨tg, iter, ifs, 0⟩] scope pos) 0 (.ref it) (.ref D) ce) (compPost (model X.prog X.w) X.A X.xe none (EP X pins σ Q) (.ref D) s3.heap.objs.size) s4 := by
    refine compLoop_any (fun n s' => ∃ i H', Inv (X.blk s3 H3 scope ce fp) [] (wipe σ (own.map (·.2))) H' s' ∧ tn i s'.heap ∧ (∀ b ∈ fp, H' b = none) ∧ W i n H') ?_ m0 ⟨0, H3, I4, st4, nfp, w0⟩
    rintro n s5 ⟨i, H5, I5, st5, n5, w5⟩
    rcases turn i n H5 w5 with ⟨stop, qq⟩ | ⟨go, Nx, hNx, step⟩
    · have td := T.done (X.blk s3 H3 scope ce fp) rfl rfl rfl hc i [] s5 _ H5 (fun _ _ => False) I5 (stat I5 n5) st5 stop
      refine thnF td fun r s6 ⟨hr, I6⟩ => ?_
      subst hr
      have I7 : Inv X pins σ H5 s6 := I3.call' (ch := fp) I6.os I6.base I6.hok I6.bare fun b hb => ⟨(f3 b hb).1.2.2.2.1, (f3 b hb).1.2.1, (f3 b hb).1.2.2.2.2.1, (f3 b hb).1.2.2.2.2.2⟩
      have nC : H5 s3.heap.objs.size = none := by
        have z : H5 ce.locals = none := I6.free
        rw [cL] at z
        exact z
      obtain ⟨m, hn, _⟩ := I6.loc
      have hn : s6.heap.Ns ce.locals m := hn
      rw [cL] at hn
      obtain ⟨f0, f1, f2, f3, f4, f5⟩ := I3.fpOk (Nat.le_refl _) nC
      exact ⟨m, hn, fun h'' sb => ⟨.ref D, H5, I7.turned (t' := s6.toks) (fun b o hb e => (sb.2 b hb).trans e) f0 f1 f3 f4 f5, rfl, qq⟩⟩
    · have ti := T.item (X.blk s3 H3 scope ce fp) rfl rfl rfl hc i [] s5 _ H5 (fun _ _ => False) I5 (stat I5 n5) st5 go
      refine thnF ti fun r s6 ⟨u, hr, h6⟩ => ?_
      subst hr
      refine thnF h6 fun _ s7 ⟨x, H7, I7, r7, y7, st7, n7⟩ => ?_
      have I7' := I7.pinned (stat I7 n7) (T.obj _ _ st7)
      refine thnF (pg.run _ s7 _ H7 x u _ I7' r7 (step x H7 y7)) fun _ s8 ⟨σ8, H8, I8, hw8, q8⟩ => ?_
      refine thnF (pt.run _ s8 σ8 H8 _ I8 q8) fun b s9 ⟨H9, I9, q9⟩ => ?_
      have fin : ∀ {s' : Shared} {H' : Hp}, Inv (X.blk s3 H3 scope ce fp) ([] ++ pinsAt fp s7.heap) σ8 H' s' → Nx H' → ∃ m, m < n ∧ ∃ i H', Inv (X.blk s3 H3 scope ce fp) [] (wipe σ (own.map (·.2))) H' s' ∧ tn i s'.heap ∧ (∀ b ∈ fp, H' b = none) ∧ W i m H' := fun {s' H'} I' nx => by
        obtain ⟨m', hm, w'⟩ := hNx H' nx
        have pin' : ∀ b ∈ fp, ∀ o, s7.heap.get? b = some o → s'.heap.get? b = some o ∧ H' b = none := fun b hb o e =>
          let z := I'.pin (b, o) (List.mem_append_right _ (List.mem_append_right _ (mem_pinsAt hb e)))
          ⟨z.1, z.2.1⟩
        have hl : (wipe σ (own.map (·.2))).length = σ8.length := by rw [← hw8, wipe_length]
        refine ⟨m', hm, i + 1, H', (I'.unpinned (pins := [])).weak hl (fun j v e => ?_), T.keep _ _ _ st7 fun b hb o e => (pin' b hb o e).1, fun b hb => ?_, w'⟩
        · rw [← hw8] at e
          exact (wipe_some e).1
        · obtain ⟨o, e, _⟩ := T.obj _ _ st7 b hb
          exact (pin' b hb o e).2
      cases b with
      | false =>
        simp only [Bool.false_eq_true, if_false] at q9 ⊢
        exact fin I9 q9
      | true =>
        simp only [if_true] at q9 ⊢
        refine thnF (pe.run _ s9 σ8 H9 _ I9 q9) fun z s10 ⟨yv, H10, I10, r10, acc, hD10, hz10, nx⟩ => ?_
        exact app_ok (X := X.blk s3 H3 scope ce fp) I10 hD10 hz10 r10 fun s11 I11 => fin I11 nx
  exact codeAny_compStart_list loop (T.self X.A 0 _ _ _ st4 loop)
end
end Px
set_option maxRecDepth 100000
set_option maxHeartbeats 4000000
/-! PT4: [.. for y in z if f(y) != w]. -/
namespace Px
open PySem PySem.Spec PyProof.Rows L2 RZ LamX
section
variable {p : Pk} {C : Cn} {k : Nat} {W : WX} {X : Cx} {n : Nat} {b : Bool} {m : Md} {G H HZ : Hp} {dc : Dc} {ρ : En} {σ : L2.St} {pins : List (Addr × Obj)} {s : Shared}
/-- f(y): y holds a lambda that raises what f tells -/
def tTold (p : Pk) (C : Cn) (n : Nat) (q : Str) (cl : List (Str × Addr)) (t : TL) (i : Nat) (σ : L2.St) : TE := fun σ2 H2 Q => ∃ (f c' : Addr) (l : Expr × Scope) (ρ : En) (G : Hp) (dc : Dc) (c : Str) (dc' : Dc), σ2[i]? = some (some (.ref f)) ∧ H2 f = some (LamO f (q ++ "<lambda>") l.1 l.2 (cloFrom cl l.2.names []) c') ∧ H2 c' = some (CodeO c' (q ++ "<lambda>")) ∧ lamSB C.sc l.2 = true ∧
  GS p dc G H2 ∧ RS p ρ σ G H2 ∧ dE n false (lamN C l.2) l.1 ρ dc = .er c dc' ∧ t.pr c = true ∧ ∀ G' H', GS p dc' G' H' → Grow p.da G H2 G' H' → Q (.str t.w) H'
theorem pe_toldL (h2 : IH n) (x : XOk p C k W X) {t : TL} {scope : Scope} {p1 p2 pos : Pos} (hq : C.Γ.told.lookup t.f = some (t.pr, t.w)) (h3 : 3 ≤ C.g) (hsc : C.sc = X.env.scope) (hcl : X.env.cells = p.cl) (hql : X.env.qual = p.q) (hf : gloK scope t.f = true) (hy : locK scope t.y = true) (hyN : t.y ∈ C.N)
    {pins : List (Addr × Obj)} {σ : L2.St} {s : Shared} {H : Hp} {Ca : Addr} {cl : List (Str × Addr)} {fp : List Addr} (I0 : Inv X pins σ H s) (f0 : ∀ b ∈ fp, FpOk X pins H b) :
    PE (X.blk s H scope (compEnvC scope cl Ca X.env) fp) (.Call (.Name t.f p1) [.Name t.y p2] [] pos) (tTold p C n p.q p.cl t (ixOf C.N t.y) σ) := by
  have xb := x.blk (scope := scope) s H Ca cl fp
  obtain ⟨g, CS, a, e, pg, bg, sg, dV, kV, doc, pm, cdv, ct, oc, an, od, osl, Ng, T0⟩ := x.gm.told t.f t.pr t.w hq
  have T : ToldOk X.K X.mg t.f t.pr t.w g CS a e pg bg sg dV kV doc pm cdv ct oc an od osl Ng := by rw [x.K]; exact T0
  have hNy : (X.blk s H scope (compEnvC scope cl Ca X.env) fp).N[ixOf C.N t.y]? = some t.y := by
    show X.N[_]? = _
    rw [x.N]
    have hl : C.N.idxOf t.y < C.N.length := List.idxOf_lt_length_of_mem hyN
    unfold ixOf
    rw [List.getElem?_eq_getElem hl, List.getElem_idxOf hl]
  have pl := plain_d (loc_plain hy)
  refine ⟨fun pins' s' σ' H' Q J ⟨f, c', l, ρ, G, dc, c, dc', h1, h4, h5, hs, gs, rs, hE, hp, fin⟩ => ?_⟩
  have L : LamS X.env.scope l.2 := lamS_by (by rw [← hsc]; exact hs)
  refine wpAny_Call_Name_kw (ld_glob J (xb.glo t.f hf) T.at_ ?_ (plain_d (glo_plain hf)).1)
  refine PySem.W.callWith_K (h₀ := X.base) J.ok.mod.kin T.keep ?_ (by rfl) (by rfl)
  show wpAny _ _ (spliced ((false, eval (.Name t.y p2) _) :: backTo pos (starEach [] _))) _ _ s'
  refine Calls.spliced_cons (thn ((pe_var (pos := p2) hNy (xb.vis t.y hy) pl.1 pl.2.1).run pins' s' σ' H' (fun v H1 => v = .ref f ∧ H1 = H') J ⟨.ref f, h1, rfl, rfl⟩) fun u s1 ⟨v, H1, J1, r1, ev, eH⟩ => ?_)
  subst ev eH
  obtain rfl : u = Value.ref f := r1
  have I1 : Inv X pins σ H1 s1 := I0.call' (ch := fp) J1.os J1.base J1.hok J1.bare fun b hb => ⟨(f0 b hb).2.2.2.1, (f0 b hb).2.1, (f0 b hb).2.2.2.2.1, (f0 b hb).2.2.2.2.2⟩
  refine Calls.spliced_nil ⟨J1.kIn, ?_⟩
  refine wpAny_call (codeAny_mono (told_call (k := k) (Q := Q) (t := fun E => tM p (fun cls d _ H => E cls d H) (RV p .va) (fun ρ => dE n false (lamN C l.2) l.1 ρ)) I1 T L (x.room'.mono (by omega)) (fun A outer s H E hr => h2.E (x.lam L.own hr) false .va l.1 rfl) (by rw [hql, hcl]; exact h4) (by rw [hql]; exact h5)
    ⟨ρ, G, dc, gs, rs, ?_⟩) fun r s2 hq => ?_)
  · dsimp only
    rw [hE]
    intro G' H' s' g'
    exact ⟨true, by have := T.tells c hp; rw [x.K] at this ⊢; exact this, fun _ => fin G' H' s' g', fun z => by cases z⟩
  · obtain ⟨u, rfl, ce⟩ := told_done (u := Value.none) hq
    exact J1.after ce
theorem Lams.get {q : Str} {cl : List (Str × Addr)} : ∀ {ls : List (Expr × Scope)} {vs : List V} {i : Nat} {l : Expr × Scope}, Lams q cl G ls vs → ls[i]? = some l → ∃ f c', vs[i]? = some (.ref f) ∧ G f = some (LamO f (q ++ "<lambda>") l.1 l.2 (cloFrom cl l.2.names []) c') ∧ G c' = some (CodeO c' (q ++ "<lambda>"))
  | [], _, i, l, _, h => by simp at h
  | l0 :: ls, _, 0, l, ⟨f, c', r, e, h1, h2, h3⟩, h => by
    simp at h
    subst h e
    exact ⟨f, c', rfl, h1, h2⟩
  | l0 :: ls, _, i + 1, l, ⟨f, c', r, e, h1, h2, h3⟩, h => by
    subst e
    simpa using Lams.get (i := i) h3 (by simpa using h)
theorem Lams.len {q : Str} {cl : List (Str × Addr)} : ∀ {ls : List (Expr × Scope)} {vs : List V}, Lams q cl G ls vs → vs.length = ls.length
  | [], _, h => by
    cases h
    rfl
  | _ :: _, _, ⟨f, c', r, e, _, _, h⟩ => by
    cases e
    show r.length + 1 = _
    rw [Lams.len h]
    rfl
theorem toldS_of {tg it : Expr} {ifs : List Expr} {t : TL} (h : toldS C tg it ifs = some t) : ∃ q1 q2 q3 q4 q5 q6 q7 j, tg = .Name t.y q1 ∧ it = .Name t.z q2 ∧ ifs = [.Compare (.Call (.Name t.f q3) [.Name t.y q4] [] q5) [.NotEq] [.Constant (.str t.w) j q6] q7] ∧ C.Γ.told.lookup t.f = some (t.pr, t.w) := by
  unfold toldS at h
  split at h
  · split at h
    · split at h
      · rename_i hc
        obtain ⟨rfl, rfl⟩ := hc
        cases h
        exact ⟨_, _, _, _, _, _, _, _, rfl, rfl, rfl, by assumption⟩
      · cases h
    · cases h
  · cases h
/-- what stands while it is walked -/
def PvT (p : Pk) (W : WX) (m : Md) (σ : L2.St) (G1 H1 : Hp) (Dl : Addr) (Q : VK) (R : Nat → M Unit) (i : Nat) (H' : Hp) : Prop := ∃ G' dcx, GS p dcx G' H' ∧ Grow p.da G1 H1 G' H' ∧ G' Dl = none ∧ H' Dl = some (.lst []) ∧ Post p W (RV p m) σ G1 H1 ((R i >>= fun _ => pure (.lst [])) dcx) Q
theorem e_toldL (h2 : IH n) (x : XOk p C k W X) {elt tg it : Expr} {ifs : List Expr} {a : Int} {scope : Scope} {pos : Pos} {t : TL} (ht : toldS C tg it ifs = some t) : PE X (.ListComp elt [⟨tg, it, ifs, a⟩] scope pos) (tE p W m fun ρ => dE (n + 1) b C (.ListComp elt [⟨tg, it, ifs, a⟩] scope pos) ρ) := by
  obtain ⟨q1, q2, q3, q4, q5, q6, q7, j, rfl, rfl, rfl, hq⟩ := toldS_of ht
  have unf : ∀ ρ, dE (n + 1) b C (.ListComp elt [⟨.Name t.y q1, .Name t.z q2, [.Compare (.Call (.Name t.f q3) [.Name t.y q4] [] q5) [.NotEq] [.Constant (.str t.w) j q6] q7], a⟩] scope pos) ρ = (match (ρ[ixOf C.N t.z]? : Option Slot) with
        | some (.la ls) => if a = 0 ∧ toldT C scope t ls = true then (toldAll t.pr (ls.map fun (l : Expr × Scope) => dE n false (lamN C l.2) l.1 ρ) >>= fun _ => (pure (.lst []) : M D)) else M.st
        | _ => M.st) := fun ρ => by
    show (if (toldS C (.Name t.y q1) (.Name t.z q2) [.Compare (.Call (.Name t.f q3) [.Name t.y q4] [] q5) [.NotEq] [.Constant (.str t.w) j q6] q7]).isSome = true then (match toldS C (.Name t.y q1) (.Name t.z q2) [.Compare (.Call (.Name t.f q3) [.Name t.y q4] [] q5) [.NotEq] [.Constant (.str t.w) j q6] q7] with
      | some t => (match (ρ[ixOf C.N t.z]? : Option Slot) with
        | some (.la ls) => if a = 0 ∧ toldT C scope t ls = true then (toldAll t.pr (ls.map fun (l : Expr × Scope) => dE n false (lamN C l.2) l.1 ρ) >>= fun _ => (pure (.lst []) : M D)) else M.st
        | _ => M.st)
      | none => M.st) else _) = _
    rw [if_pos (by rw [ht]; rfl)]
    rw [ht]
  rw [show (fun ρ => dE (n + 1) b C (.ListComp elt [⟨.Name t.y q1, .Name t.z q2, [.Compare (.Call (.Name t.f q3) [.Name t.y q4] [] q5) [.NotEq] [.Constant (.str t.w) j q6] q7], a⟩] scope pos) ρ) = _ from funext unf]
  refine ⟨fun pins s σ H Q I ⟨ρ, G, dc, gs, rs, post⟩ => ?_⟩
  dsimp only at post
  cases hz : (ρ[ixOf C.N t.z]? : Option Slot) with
  | none =>
    rw [hz] at post
    exact (show False from post).elim
  | some sl =>
  rw [hz] at post
  cases sl with
  | la ls =>
    by_cases hT : a = 0 ∧ toldT C scope t ls = true
    · dsimp only at post
      rw [if_pos hT] at post
      obtain ⟨rfl, hT⟩ := hT
      unfold toldT at hT
      simp only [Bool.and_eq_true, decide_eq_true_eq, List.all_eq_true] at hT
      obtain ⟨⟨⟨⟨⟨⟨⟨⟨⟨hb, htop⟩, h3⟩, hzl⟩, hzN⟩, hyl⟩, hyS⟩, hfg⟩, hself⟩, hls⟩ := hT
      obtain ⟨hcl, hql, hsc⟩ := x.top htop
      have hyN : t.y ∈ C.N := by
        unfold stoN at hyS
        rw [Bool.and_eq_true, decide_eq_true_eq] at hyS
        exact hyS.2
      have ix_ : ∀ {y : Str}, y ∈ C.N → C.N[ixOf C.N y]? = some y := fun {y} h => by
        have hl : C.N.idxOf y < C.N.length := List.idxOf_lt_length_of_mem h
        unfold ixOf
        rw [List.getElem?_eq_getElem hl, List.getElem_idxOf hl]
      have plz := plain_d (loc_plain hzl)
      have hown : ixOf C.N t.y ∈ ownN C.N scope := own_all hb t.y hyS
      have stk : stoK scope t.y = true := by
        unfold stoN at hyS
        rw [Bool.and_eq_true] at hyS
        exact hyS.1
      have PL : PE X (.ListComp elt [⟨.Name t.y q1, .Name t.z q2, [.Compare (.Call (.Name t.f q3) [.Name t.y q4] [] q5) [.NotEq] [.Constant (.str t.w) j q6] q7], 0⟩] scope pos)
          (fun σ H Q => tLc (iList X.K (tVar (ixOf C.N t.z))) (gName (ixOf C.N t.y)) (tTest (tOp (rC p (cmpD .NotEq)) (tTold p C n p.q p.cl t (ixOf C.N t.y) σ) (tC (.str t.w)))) (fun _ _ _ => False) (ownN C.N scope) σ H Q) :=
        pe_lcT (own := ownL C.N scope) x.calm (by rw [x.N]; exact x.nd) (pi_list (pe_var (by rw [x.N]; exact ix_ hzN) (x.vis t.z hzl) plz.1 plz.2.1)) (blk_ok x hb)
          (fun s H Ca cl fp => pg_name (by show X.N.Nodup; rw [x.N]; exact x.nd) (by show X.N[_]? = _; rw [x.N]; exact ix_ hyN) ((x.blk s H Ca cl fp).sto t.y stk).1 ((x.blk s H Ca cl fp).sto t.y stk).2)
          (fun pins σ s H Ca cl fp I0 f0 => pts_one (pt_cmpR (op_cmpD (p := p) (X := X.blk s H scope (compEnvC scope cl Ca X.env) fp) x.K (x.blk (scope := scope) s H Ca cl fp).u65 .NotEq) (pe_toldL h2 x hq h3 hsc.symm hcl hql hfg hyl hyN I0 f0) pe_str (nomark (fun _ _ _ z => by cases z))))
          (fun s H Ca cl fp => pe_no fun σ H Q z => z) (fun v => rfl)
      refine PL.run pins s σ H Q I ?_
      obtain ⟨v, hv, a', vs, rfl, hG, hL⟩ := rs.la _ _ hz
      have hlen := hL.len
      refine ⟨.ref a', hv, a', rfl, ⟨vs, .inl (.inl (gs.sub _ _ hG))⟩, fun Dl hD => ?_⟩
      have nd := gs.ndice hD
      have rdG : ∀ {G' H' : Hp} {dcx : Dc}, GS p dcx G' H' → Grow p.da G H G' H' → SqL X.K H' a' vs := fun s' g' => .inl (.inl (s'.sub _ _ (g'.sub _ _ hG)))
      refine lc_it (g := gName (ixOf C.N t.y)) (tt := tTest (tOp (rC p (cmpD .NotEq)) (tTold p C n p.q p.cl t (ixOf C.N t.y) σ) (tC (.str t.w)))) (te := fun _ _ _ => False) (vs := ownN C.N scope) (σ := σ) (H1 := H) (D := Dl) (Qd := fun H => Q (.ref Dl) H) (Walk.len (walk_list (K := X.K) (a := a') (xs := vs)) hlen.symm) (PvT p W m σ G H Dl Q fun i => toldAll t.pr ((ls.drop i).map fun l => dE n false (lamN C l.2) l.1 ρ)) ?_ (fun i H' _ ⟨G', dcx, s', g', _⟩ => rdG s' g') ?_ ?_
      · exact ⟨G, dc, gs.newH hD, Grow.newH p.da hD, gs.gnone hD, upd_same, post⟩
      · rintro i xv H' H'' hi' ⟨G', dcx, s', g', gn, hl, post'⟩ ⟨rfl, hy⟩
        have hd := List.getElem?_eq_getElem hi'
        obtain ⟨f, c', e1, e2, e3⟩ := (hL.mono g'.sub).get hd
        rw [hy] at e1
        cases e1
        dsimp only at post'
        rw [List.drop_eq_getElem_cons hi', List.map_cons] at post'
        have rs1 := rs.grow gs g'
        show wipe ((wipe σ (ownN C.N scope)).set (ixOf C.N t.y) (some (.ref f))) (ownN C.N scope) = _ ∧ _
        have hlt : ixOf C.N t.y < (wipe σ (ownN C.N scope)).length := by
          rw [wipe_length, I.len, x.N]
          exact List.idxOf_lt_length_of_mem hyN
        refine ⟨wipe_same (fun i hi => ?_) (by rw [List.length_set]), ?_⟩
        · rw [List.getElem?_set_ne (fun z => hi (by rw [← z]; exact hown))]
        have key : ∃ c dc', dE n false (lamN C ls[i].2) ls[i].1 ρ dcx = .er c dc' ∧ t.pr c = true ∧ Post p W (RV p m) σ G H ((toldAll t.pr ((ls.drop (i + 1)).map fun l => dE n false (lamN C l.2) l.1 ρ) >>= fun _ => pure (.lst [])) dc') Q := by
          have e : (toldAll t.pr (dE n false (lamN C ls[i].2) ls[i].1 ρ :: (ls.drop (i + 1)).map fun l => dE n false (lamN C l.2) l.1 ρ) >>= fun _ => (pure (.lst []) : M D)) dcx = match dE n false (lamN C ls[i].2) ls[i].1 ρ dcx with
              | .er c dc' => if t.pr c = true then (toldAll t.pr ((ls.drop (i + 1)).map fun l => dE n false (lamN C l.2) l.1 ρ) >>= fun _ => (pure (.lst []) : M D)) dc' else .st
              | _ => .st := by
            show M.bind (toldAll t.pr (_ :: _)) _ dcx = _
            unfold M.bind
            conv => lhs; unfold toldAll
            cases dE n false (lamN C ls[i].2) ls[i].1 ρ dcx with
            | er c dc' =>
              dsimp only
              cases hc : t.pr c with
              | true => rfl
              | false => rfl
            | ok _ _ => rfl
            | st => rfl
          rw [e] at post'
          split at post'
          · rename_i c dc' hE
            split at post'
            · rename_i hp
              exact ⟨c, dc', hE, hp, post'⟩
            · exact (show False from post').elim
          · exact (show False from post').elim
        obtain ⟨c, dc', hE, hp, post'⟩ := key
        refine ⟨f, c', ls[i], ρ, G', dcx, c, dc', ?_, s'.sub _ _ e2, s'.sub _ _ e3, hls _ (List.getElem_mem hi'), s', rs1, hE, hp, fun G2 H2 s2 g2 => ?_⟩
        · rw [List.getElem?_set_self hlt]
        refine ⟨dc', G2, .str t.w, .str t.w, false, s2, RV.of rfl rfl, RV.of rfl rfl, ?_, false, rfl, ?_⟩
        · show (eqD (.str t.w) (.str t.w)).map (!·) = some false
          rw [hself]
          rfl
        · exact ⟨G2, dc', s2, g'.trans g2, g2.nw Dl _ gn hl rfl nd, g2.ext.1 Dl _ hl nd (fun ps z => by cases z), post'⟩
      · rintro H' ⟨G', dcx, s', g', gn, hl, post'⟩
        dsimp only at post'
        rw [List.drop_length] at post'
        exact fin_lst (ds := []) s' g' hD (rs.hz Dl hD) gn hl nd (rfl : DVs p.K p.da G' [] []) fun v G2 H2 s2 g2 r2 => post' v G2 H2 s2 g2 r2
    · dsimp only at post
      rw [if_neg hT] at post
      exact (show False from post).elim
  | _ => exact (show False from post).elim
end
end Px
set_option maxRecDepth 100000
set_option maxHeartbeats 4000000
/-! PX1: locks; dicts of either kind. -/
namespace Px
open PySem PySem.Spec PyProof.Rows L2 RZ
/-- k, behind some locks -/
inductive LkP (k : Hp → Prop) : Hp → Prop
  | done {H : Hp} : k H → LkP k H
  | lock {H : Hp} (a : Addr) (u : HO) : H a = some u → Mut (some u) → (∀ od, LkP k (upd H a (.frz od u))) → LkP k H
theorem inv_lk {X : Cx} {pins : List (Addr × Obj)} {σ : St} {s : Shared} {k : Hp → Prop} {H : Hp} (h : LkP k H) (I : Inv X pins σ H s) : ∃ H', Inv X pins σ H' s ∧ k H' := by
  induction h with
  | done q => exact ⟨_, I, q⟩
  | lock a u hu mu _ ih =>
    obtain ⟨od, I1⟩ := I.lock hu mu
    exact ih od I1
/-- an expression, then locks -/
theorem pe_lk {X : Cx} {e : Expr} {t : TE} (h : PE X e t) : PE X e (fun σ H Q => t σ H fun v H1 => LkP (fun H2 => Q v H2) H1) := by
  refine ⟨fun pins s σ H Q I hw => thn (h.run pins s σ H _ I hw) fun u s1 ⟨v, H1, I1, r, q⟩ => ?_⟩
  obtain ⟨H2, I2, q⟩ := inv_lk q I1
  exact ⟨v, H2, I2, r, q⟩
/-- locks, then a statement -/
theorem ps_lk {X : Cx} {st : Stmt} {t : TS} (h : PS X st t) : PS X st (fun D σ H => LkP (fun H2 => t D σ H2) H) := by
  refine ⟨fun pins s σ H D I hw => ?_⟩
  obtain ⟨H2, I2, q⟩ := inv_lk hw I
  exact h.run pins s σ H2 D I2 q
section
variable {p : Pk} {C : Cn} {k : Nat} {W : WX} {X : Cx} {n : Nat} {b : Bool} {m : Md} {G H : Hp} {dc : Dc}
/-- a dict of its own is locked and frozen -/
theorem froze {Gb Hb : Hp} {a : Addr} {u : HO} {d : D} (od : Obj) (s : GS p dc G H) (g : Grow p.da Gb Hb G H) (hb : Hb a = none ∨ (Gb a = none ∧ p.H0 a = none)) (ga : G a = none) (nd : p.da ≠ some a) (ha : H a = some u) (ho : ownO u = true)
    (dv : ∀ G', Sub G G' → G' a = some (.frz od u) → DV p.K p.da G' d (.ref a)) : GS p dc (upd G a (.frz od u)) (upd H a (.frz od u)) ∧ DV p.K p.da (upd G a (.frz od u)) d (.ref a) ∧ Sub G (upd G a (.frz od u)) := by
  have sub : Sub G (upd G a (.frz od u)) := fun b o e => by
    rw [upd_ne (fun z => by subst z; rw [ga] at e; cases e)]
    exact e
  refine ⟨⟨fun b o e => ?_, fun b e => ⟨?_, ?_⟩, fun q hq => ?_, fun q hq => ?_⟩, dv _ sub upd_same, sub⟩
  · by_cases q : b = a
    · subst q; rw [upd_same] at e ⊢; exact e
    · rw [upd_ne q] at e ⊢; exact s.sub b o e
  · rw [upd_ne (fun z => by subst z; exact nd e)]; exact (s.dice b e).1
  · rw [upd_ne (fun z => by subst z; exact nd e)]; exact (s.dice b e).2
  · obtain ⟨ps, e, t⟩ := s.tabs q hq
    refine ⟨ps, by rw [upd_ne (fun z => by rw [z, ha] at e; cases e; cases ho)]; exact e, t.1, fun pos cv hc hp => ?_⟩
    obtain ⟨c, e1, e2⟩ := t.2 pos cv hc hp
    exact ⟨c, e1, by rw [upd_ne (fun z => by rw [z, ha] at e2; cases e2; cases ho)]; exact e2⟩
  · obtain ⟨ps, e, _⟩ := s.tabs q hq
    rw [upd_ne (fun z => by rw [z, ha] at e; cases e; cases ho)]
    exact s.tabf q hq
/-- a new dict: built since (Gb, Hb) -/
theorem fin_dic {Gb Hb : Hp} {a : Addr} {u : HO} {kvs : List (D × D)} {Q : V → Hp → Prop} (s : GS p dc G H) (g : Grow p.da Gb Hb G H) (hb : Hb a = none) (z : p.H0 a = none ∧ p.Hb a = none) (ga : G a = none) (ha : H a = some u) (nd : p.da ≠ some a) (mu : Mut (some u))
    (dv : (∃ ws, u = .dK ws ∧ DVk p.K p.da G kvs ws) ∨ ∃ ws, u = .dT ws ∧ DVt p.K p.da G kvs ws) (fin : ∀ v G' H', GS p dc G' H' → Grow p.da Gb Hb G' H' → RV p m G' H' (.dic kvs) v → Q v H') : LkP (fun H2 => Q (.ref a) H2) H := by
  have own : OWn p G H a (.dic kvs) := ⟨by
    rcases dv with ⟨ws, rfl, dv⟩ | ⟨ws, rfl, dv⟩
    · exact .inl ⟨ws, ha, dv⟩
    · exact .inr ⟨ws, ha, dv⟩, ga, nd, z.1⟩
  have ho : ownO u = true := by
    rcases dv with ⟨ws, rfl, dv⟩ | ⟨ws, rfl, dv⟩ <;> rfl
  cases m with
  | fr => exact .done (fin _ _ _ s g ⟨a, rfl, own, z.2⟩)
  | bo => exact .done (fin _ _ _ s g (.inr ⟨a, rfl, own⟩))
  | va =>
    refine .lock a u ha mu fun od => .done ?_
    obtain ⟨s', dv', sub⟩ := froze (p := p) (dc := dc) (d := .dic kvs) od s g (.inl hb) ga nd ha ho (fun G' sb e => by
      rcases dv with ⟨ws, rfl, dv⟩ | ⟨ws, rfl, dv⟩
      · exact ⟨a, od, rfl, .inl ⟨ws, e, DVk.mono sb _ _ dv⟩⟩
      · exact ⟨a, od, rfl, .inr ⟨ws, e, DVt.mono sb _ _ dv⟩⟩)
    refine fin _ _ _ s' ⟨g.sub.trans sub, fun b o h1 h2 h3 h4 => ?_, fun b o e h1 h2 => ?_, fun b e => ?_⟩ dv'
    · rw [upd_ne (fun z => by subst z; rw [hb] at h2; cases h2)]
      exact g.nw b o h1 h2 h3 h4
    · rw [upd_ne (fun z => by subst z; rw [hb] at e; cases e)]
      exact g.ext.1 b o e h1 h2
    · rw [upd_ne (fun z => by subst z; exact e hb)]
      exact g.ext.2 b e
theorem e_dic0 {pos : Pos} : PE X (.Dict [] [] pos) (tE p W m fun ρ => dE (n + 1) b C (.Dict [] [] pos) ρ) := by
  refine PE.imp (pe_lk pe_dnewK) fun σ H Q ⟨ρ, G, dc, gs, rs, post⟩ => fun q hq => ?_
  exact fin_dic (kvs := []) (gs.newH hq) (Grow.newH p.da hq) hq (rs.hz q hq) (gs.gnone hq) upd_same (gs.ndice hq) trivial (.inl ⟨[], rfl, (rfl : ([] : List (Key × V)) = [])⟩) post
end
theorem upd_upd {H : Hp} {a : Addr} {o o' : HO} : upd (upd H a o) a o' = upd H a o' := by
  funext b
  by_cases e : b = a
  · subst e; rw [upd_same, upd_same]
  · rw [upd_ne e, upd_ne e, upd_ne e]
section
variable {p : Pk} {C : Cn} {k : Nat} {W : WX} {X : Cx} {n : Nat} {b : Bool} {m : Md} {G H G1 H1 : Hp} {dc : Dc} {ρ : En} {σ : St} {D : Ends} {pins : List (Addr × Obj)} {s : Shared} {a : Addr}
/-- an empty dict is of either kind -/
theorem inv_cast {u u' : HO} (I : Inv X pins σ H s) (h : H a = some u) (mu : Mut (some u)) (ex : ∃ od, s.heap.get? a = some od) (cast : ∀ H', ObjOk X.prog X.w H' s.heap a u → ObjOk X.prog X.w H' s.heap a u') : Inv X pins σ (upd H a u') s := by
  obtain ⟨od, e⟩ := ex
  have x := I.hok a u h
  refine I.write (x := a) (e := a) (t' := s.toks) (h' := s.heap) (by rw [h]; exact mu) (.inl rfl) (fun b v _ q => q) ⟨od, e⟩ (cast _ ?_)
  refine x.stay (fun b v _ q => q) (fun b q => ?_) fun b xs q => ?_
  · rw [upd_ne (fun z => by rw [z, h] at q; cases q; exact mu)]; exact q
  · rw [upd_ne (fun z => by rw [z, h] at q; cases q; exact mu)]; exact q
theorem inv_dT (I : Inv X pins σ H s) (h : H a = some (.dK [])) : Inv X pins σ (upd H a (.dT [])) s := by
  refine inv_cast I h trivial ?_ fun H' q => ok_dKT q
  obtain ⟨_, _, _, _, o, _, _, e, _⟩ := I.hok a _ h
  exact ⟨o, e⟩
theorem inv_dK (I : Inv X pins σ H s) (h : H a = some (.dT [])) : Inv X pins σ (upd H a (.dK [])) s := by
  refine inv_cast I h trivial ?_ fun H' q => ok_dTK q
  obtain ⟨_, _, _, _, o, _, _, e, _⟩ := I.hok a _ h
  exact ⟨o, e⟩
/-- a dict and a key -/
inductive DK (X : Cx) (pins : List (Addr × Obj)) (σ : St) (p : Pk) (G H : Hp) (s : Shared) (a : Addr) (kvs : List (Px.D × Px.D)) (kD : Px.D) (y : V) : Prop where
  | k (H' : Hp) (ws : List (Key × V)) (k' : Key) : Inv X pins σ H' s → H' a = some (.dK ws) → (∀ o, upd H' a o = upd H a o) → (∀ b, b ≠ a → H' b = H b) → DVg (K := p.K) (da := p.da) (G := G) keyF kvs ws → keyF kD = some k' → y = kV k' → DK X pins σ p G H s a kvs kD y
  | t (H' : Hp) (ws : List (List Key × V)) (k' : List Key) (b : Addr) : Inv X pins σ H' s → H' a = some (.dT ws) → (∀ o, upd H' a o = upd H a o) → (∀ b, b ≠ a → H' b = H b) → DVg (K := p.K) (da := p.da) (G := G) keyT kvs ws → keyT kD = some k' → y = .ref b → H' b = some (.tup (k'.map kV)) → DK X pins σ p G H s a kvs kD y
theorem DK.of {kvs : List (Px.D × Px.D)} {kD : Px.D} {y : V} (I : Inv X pins σ H s) (gs : GS p dc G H) (hk : homK kD kvs = true) (kd : DV p.K p.da G kD y) (gn : G a = none) (o : OW p G H a (.dic kvs)) : DK X pins σ p G H s a kvs kD y := by
  unfold homK at hk
  rw [Bool.and_eq_true] at hk
  obtain ⟨h1, h2⟩ := hk
  by_cases ht : isTupD kD = true
  · cases kD with
    | tup ds =>
      obtain ⟨b, vs, e, g1, g2⟩ := kd
      obtain ⟨ks, q1, q2⟩ := keyFs_kV g2 h1
      have eT : keyT (.tup ds) = some ks := q1
      have hb : H b = some (.tup (ks.map kV)) := by rw [← q2]; exact gs.sub _ _ g1
      have nb : b ≠ a := fun z => by rw [z, gn] at g1; cases g1
      rcases o with ⟨ws, o1, o2⟩ | ⟨ws, o1, o2⟩
      · cases kvs with
        | nil =>
          cases o2
          exact .t (upd H a (.dT [])) [] ks b (inv_dT I o1) upd_same (fun o => upd_upd) (fun b hb => upd_ne hb) rfl eT e (by rw [upd_ne nb]; exact hb)
        | cons r kvs =>
          obtain ⟨x, d⟩ := r
          obtain ⟨k', v', r', _, e1, _⟩ := o2
          have h2' : (isTupD x == true) = true := h2
          rw [show isTupD x = false from keyF_isTup e1] at h2'
          cases h2'
      · exact .t H ws ks b I o1 (fun _ => rfl) (fun _ _ => rfl) o2.g eT e hb
    | _ => cases ht
  · have hf : flatD kD = true := by
      cases kD with
      | tup _ => exact absurd rfl ht
      | _ => exact h1
    obtain ⟨k', q1, q2⟩ := keyF_kV kd hf
    rcases o with ⟨ws, o1, o2⟩ | ⟨ws, o1, o2⟩
    · exact .k H ws k' I o1 (fun _ => rfl) (fun _ _ => rfl) o2.g q1 q2
    · cases kvs with
      | nil =>
        cases o2
        exact .k (upd H a (.dK [])) [] k' (inv_dK I o1) upd_same (fun o => upd_upd) (fun b hb => upd_ne hb) rfl q1 q2
      | cons r kvs =>
        obtain ⟨x, d⟩ := r
        obtain ⟨k2, v', r', _, e1, _⟩ := o2
        have h2' : (isTupD x == isTupD kD) = true := h2
        rw [show isTupD x = true from keyT_isTup e1] at h2'
        cases hq : isTupD kD with
        | true => exact absurd hq ht
        | false => rw [hq] at h2'; cases h2'
end
end Px
set_option maxRecDepth 100000
set_option maxHeartbeats 4000000
/-! PX2: dict displays. -/
namespace Px
open PySem PySem.Spec PyProof.Rows L2 RZ
section
variable {p : Pk} {C : Cn} {k : Nat} {W : WX} {X : Cx} {n : Nat} {b : Bool} {m : Md} {G H G1 H1 : Hp} {dc : Dc} {ρ : En} {σ : St} {pins : List (Addr × Obj)} {s : Shared} {a : Addr}
/-- d[k] = v at a new dict of either kind -/
theorem dset_any (hu : X.A.units + 1 < cLine) (I : Inv X pins σ H s) (gs : GS p dc G H) {kvs kvs' : List (Px.D × Px.D)} {kD vD : Px.D} {y z : V} {u r : Value} {Q : Unit → Shared → Prop} {E : Value → Shared → Prop} (ow : OW p G H a (.dic kvs)) (gn : G a = none) (dk : DV p.K p.da G kD y) (dv : DV p.K p.da G vD z) (ry : RelV y u) (rz : RelV z r) (e : putD kD vD kvs = some kvs')
    (h : ∀ o' s', ownO o' = true → Mut (some o') → Inv X pins σ (upd H a o') s' → OW p G (upd H a o') a (.dic kvs') → Q () s') : wpAny (model X.prog X.w) X.A (dictSet a u r) Q E s := by
  unfold putD at e
  split at e
  · rename_i hc
    cases e
    rw [Bool.and_eq_true, decide_eq_true_eq] at hc
    rcases DK.of I gs hc.1 dk gn ow with ⟨H', ws, k', I', h1, h2, h3, g1, g2, rfl⟩ | ⟨H', ws, k', b, I', h1, h2, h3, g1, g2, rfl, h4⟩
    · have hl := g1.length
      refine d_dictSet I' h1 (by rw [hl, ← szL_eq]; exact hc.2) ry rz fun s' I2 => ?_
      rw [h2] at I2
      exact h (.dK (L2.putK ws k' z)) s' rfl trivial I2 (.inl ⟨_, upd_same, (DVg.put sameK_flat g2 dv g1).k⟩)
    · have hl := g1.length
      have hz0 : ws.length < sizeLine := by rw [hl, ← szL_eq]; exact hc.2
      obtain ⟨hz, hd, xs, rel, dd⟩ := dt_of I'.hok h1
      have hzx : xs.length ≤ sizeLine := by rw [← Paired.length rel]; exact hz
      have hlp : (L2.putK ws k' z).length ≤ sizeLine := by have := L2.length_putK ws k' z; omega
      cases (show u = Value.ref b from ry)
      refine wpAny_dictSet_heap (hsz := hzx) (knd := tupleKind (mixKind X.prog X.w)) (by show X.A.units < cLine; omega) (key_of I'.hok h4) dd fun h' dd' hs => ?_
      obtain ⟨q, es, ep, hq, i2, i3, i4, _, i5⟩ := dd'
      have I2 := fun tk => d_write (ob := .dT (L2.putK ws k' z)) (t' := tk) I' (by rw [h1]; exact True.intro) hs ⟨q, hq⟩ ⟨hlp, hd, _, (rel.put k' h4 rz).keeps fun c ys ec => by
        rw [upd_ne (ne_of ec h1 (fun z => nomatch z))]
        exact ec, q, es, ep, hq, i2, i3, i4, i5⟩
      rw [h2] at I2
      exact h (.dT (L2.putK ws k' z)) _ rfl trivial (I2 _) (.inr ⟨_, upd_same, (DVg.put sameK_tup g2 dv g1).t⟩)
  · cases e
/-- a step, the rest still told from the start -/
theorem Post.seqB {α β γ δ : Type} {rel : Hp → Hp → α → β → Prop} {rel2 : Hp → Hp → γ → δ → Prop} {Gb Hb : Hp} {Q : δ → Hp → Prop} {Q' : β → Hp → Prop} {mm : M α} {kk : α → M γ}
    (h : Post p W rel2 σ Gb Hb ((mm >>= kk) dc) Q) (gb : Grow p.da Gb Hb G H) (c : ∀ d dc1 v G1 H1, mm dc = .ok d dc1 → GS p dc1 G1 H1 → Grow p.da G H G1 H1 → rel G1 H1 d v → Post p W rel2 σ Gb Hb (kk d dc1) Q → Q' v H1) : Post p W rel σ G H (mm dc) Q' := by
  cases e : mm dc with
  | ok d dc1 =>
    rw [bind_ok e] at h
    exact fun v G1 H1 s g r => c d dc1 v G1 H1 e s g r h
  | er c dc1 =>
    rw [bind_er e] at h
    exact fun G' H' s g => h G' H' s (gb.trans g)
  | st =>
    rw [bind_stt e] at h
    exact h
/-- pairs of things and values -/
def DPs (K : PySem.W.Frag) (da : Option Addr) (G : Hp) : List (Px.D × Px.D) → List (V × V) → Prop := Paired fun d v => DV K da G d.1 v.1 ∧ DV K da G d.2 v.2
theorem DPs.mono {K : PySem.W.Frag} {da : Option Addr} {G G' : Hp} (h : Sub G G') : ∀ {ds : List (Px.D × Px.D)} {vs : List (V × V)}, DPs K da G ds vs → DPs K da G' ds vs
  | _, _, .nil => .nil
  | _, _, .cons a b => .cons ⟨DV.mono h _ _ a.1, DV.mono h _ _ a.2⟩ (DPs.mono h b)
theorem pps_list (ih : IH n) (x : XOk p C k W X) {pos : Pos} : ∀ (ks : List (Option Expr)) (vs : List Expr), ks.all (·.isSome) = true → ks.length = vs.length →
    ∃ trs, PPs X pos ks vs trs ∧ ∀ σ H (Q : List (V × V) → Hp → Prop), tM p W (fun G _ => DPs p.K p.da G) (fun ρ => pairsM ((ks.filterMap id).map fun e => dE n false C e ρ) (vs.map fun e => dE n false C e ρ)) σ H Q → tPairs trs σ H Q
  | [], [], _, _ => ⟨[], pps_nil, fun σ H Q ⟨ρ, G, dc, gs, rs, post⟩ => post [] G H gs (.refl _ _ _) .nil⟩
  | [], _ :: _, _, h => by cases h
  | _ :: _, [], _, h => by cases h
  | none :: _, _ :: _, h, _ => by simp at h
  | some e :: ks, v :: vs, h, hl => by
    obtain ⟨trs, h1, h2⟩ := pps_list ih x ks vs (by simpa using h) (by simpa using hl)
    refine ⟨_, pps_cons (ih.E x false .va e rfl) (ih.E x false .va v rfl) h1, fun σ H Q ⟨ρ, G, dc, gs, rs, post⟩ => ?_⟩
    replace post : Post p W (fun G _ => DPs p.K p.da G) σ G H ((dE n false C e ρ >>= fun x => dE n false C v ρ >>= fun y => pairsM ((ks.filterMap id).map fun e => dE n false C e ρ) (vs.map fun e => dE n false C e ρ) >>= fun ps => pure ((x, y) :: ps)) dc) Q := post
    refine ⟨ρ, G, dc, gs, rs, Post.seq post fun d1 dc1 v1 G1 H1 _ gs1 g1 r1 post => ?_⟩
    refine ⟨ρ, G1, dc1, gs1, rs.grow gs g1, Post.seq post fun d2 dc2 v2 G2 H2 _ gs2 g2 r2 post => ?_⟩
    refine h2 σ H2 _ ⟨ρ, G2, dc2, gs2, (rs.grow gs g1).grow gs1 g2, Post.seq post fun ps dc3 vs3 G3 H3 _ gs3 g3 r3 post => ?_⟩
    exact post _ G3 H3 gs3 (.refl _ _ _) (.cons ⟨DV.mono (g2.trans g3).sub _ _ r1, DV.mono g3.sub _ _ r2⟩ r3)
/-- the pairs are stored -/
theorem store_all (hu : X.A.units + 1 < cLine) {E : Value → Shared → Prop} : ∀ {ds : List (Px.D × Px.D)} {vs : List (V × V)} {us : List (Value × Value)} {H : Hp} {s : Shared} {acc acc' : List (Px.D × Px.D)} {u : HO} {Q : PUnit → Shared → Prop}, VV vs us → DPs p.K p.da G ds vs → mergeD acc ds = some acc' → Inv X pins σ H s → GS p dc G H → G a = none → p.da ≠ some a → H a = some u → ownO u = true → Mut (some u) → OW p G H a (.dic acc) →
    (∀ u' H' s', ownO u' = true → Mut (some u') → Inv X pins σ H' s' → GS p dc G H' → (∀ b, b ≠ a → H' b = H b) → H' a = some u' → OW p G H' a (.dic acc') → Q PUnit.unit s') →
    wpAny (model X.prog X.w) X.A (forIn us PUnit.unit fun (x : Value × Value) (_ : PUnit) => (do dictSet a x.1 x.2; pure (ForInStep.yield PUnit.unit) : Sem (ForInStep PUnit))) Q E s
  | _, _, _, H, s, acc, acc', u, Q, .nil, .nil, e, I, gs, gn, nd, hH, ho, mu, ow, h => by
    cases e
    rw [List.forIn_nil]
    exact wpAny_pure (h u H s ho mu I gs (fun _ _ => rfl) hH ow)
  | _, _, _, H, s, acc, acc', u, Q, .cons rv rvs, .cons (a := d) dv dvs, e, I, gs, gn, nd, hH, ho, mu, ow, h => by
    obtain ⟨kd, vd⟩ := d
    have e : (putD kd vd acc).bind (fun kvs' => mergeD kvs' _) = some acc' := e
    obtain ⟨acc1, e1, e2⟩ := Option.bind_eq_some_iff.mp e
    rw [List.forIn_cons]
    refine wpAny_bind (wpAny_bind (dset_any hu I gs ow gn dv.1 dv.2 rv.1 rv.2 e1 fun o' s' ho' mu' I' ow' => wpAny_pure ?_))
    exact store_all hu rvs dvs e2 I' (gs.setO gn nd hH ho) gn nd upd_same ho' mu' ow' fun u' H' s'' ho'' mu'' I'' gs'' hb hH'' ow'' => h u' H' s'' ho'' mu'' I'' gs'' (fun b hb' => by rw [hb b hb', upd_ne hb']) hH'' ow''
theorem e_disp (ih : IH n) (x : XOk p C k W X) {k0 : Option Expr} {ks : List (Option Expr)} {vs : List Expr} {pos : Pos} : PE X (.Dict (k0 :: ks) vs pos) (tE p W m fun ρ => dE (n + 1) b C (.Dict (k0 :: ks) vs pos) ρ) := by
  by_cases hd : dispOk (k0 :: ks) vs = true
  · have hd' := hd
    unfold dispOk at hd'
    rw [Bool.and_eq_true, Bool.and_eq_true, decide_eq_true_eq, decide_eq_true_eq] at hd'
    obtain ⟨⟨hall, hl⟩, h15⟩ := hd'
    have unf : ∀ ρ, dE (n + 1) b C (.Dict (k0 :: ks) vs pos) ρ = (pairsM (((k0 :: ks).filterMap id).map fun e => dE n false C e ρ) (vs.map fun e => dE n false C e ρ) >>= fun ps => lift ((mergeD [] ps).map .dic)) := fun ρ => by
      show (if dispOk (k0 :: ks) vs = true then _ else M.st) = _
      rw [if_pos hd]
    rw [show (fun ρ => dE (n + 1) b C (.Dict (k0 :: ks) vs pos) ρ) = _ from funext unf]
    obtain ⟨trs, hp, himp⟩ := pps_list ih x (pos := pos) (k0 :: ks) vs hall hl
    refine ⟨fun pins s σ H Q I ⟨ρ, G, dc, gs, rs, post⟩ => ?_⟩
    have hu : X.A.units + 1 < cLine := by have := x.u65; omega
    have hn := I.hok.fresh (Nat.le_refl s.heap.objs.size)
    have I1 := I.laid (a := s.heap.objs.size) (o := .dK []) (h' := s.heap.push { cls := .type "dict", data := .dict #[] }) (t' := s.toks) (fun _ _ q => Heap.get?_push_of_some _ q) (Nat.le_refl _) (dk_empty s.heap I.big)
    have gs1 := gs.newH (o := .dK []) hn
    have g1 := Grow.newH (o := .dK []) (G := G) p.da hn
    have nd := gs.ndice hn
    have hpn := pairTrees_length (k0 :: ks) vs X.env pos hall hl
    rw [arm_eval_Dict, zip_pairTrees (k0 :: ks) vs X.env pos hall hl, dictDisplay_pairs (pairTrees (k0 :: ks) vs X.env pos) (fun he => by rw [he] at hpn; cases hpn) (by omega)]
    refine wpAny_bind (wpAny_standAt (wpAny_bind ?_))
    unfold subDict
    refine wpAny_bind (wpAny_alloc ?_)
    refine wpAny_bind (wpAny_holding ?_)
    rw [if_pos (by omega)]
    have ev := hp.run pins { s with heap := s.heap.push { cls := .type "dict", data := .dict #[] } } σ _ (fun ps H2 => ∃ G2 dc2 ds, GS p dc2 G2 H2 ∧ Grow p.da G H G2 H2 ∧ Grow p.da G (upd H s.heap.objs.size (.dK [])) G2 H2 ∧ DPs p.K p.da G2 ds ps ∧ Post p W (RV p m) σ G H (lift ((mergeD [] ds).map Px.D.dic) dc2) Q) I1
      (himp σ _ _ ⟨ρ, G, dc, gs1, rs.grow gs g1, Post.seqB post g1 fun ds dc2 ps G2 H2 _ gs2 g2 r2 post2 => ⟨G2, dc2, ds, gs2, g1.trans g2, g2, r2, post2⟩⟩)
    refine wpAny_bind (thn ev fun us s2 ⟨ps, H2, I2, rel, G2, dc2, ds, gs2, g02, g12, dps, post2⟩ => ?_)
    obtain ⟨d, e, fin⟩ := Post.lift post2
    obtain ⟨acc', e2, rfl⟩ := Option.map_eq_some_iff.mp e
    have hD2 : H2 s.heap.objs.size = some (.dK []) := g12.ext.1 _ _ upd_same nd (fun ps z => by cases z)
    have gn2 : G2 s.heap.objs.size = none := g12.nw _ _ (gs.gnone hn) upd_same rfl nd
    refine wpAny_holding ?_
    refine wpAny_bind (store_all hu rel dps e2 I2 gs2 gn2 nd hD2 rfl trivial (.inl ⟨[], hD2, rfl⟩) fun u' H' s' ho mu I' gs' hb hH' ow' => wpAny_pure (wpAny_pure (wpAny_pure ?_)))
    have g' : Grow p.da G H G2 H' := by
      refine ⟨g02.sub, g02.nw, fun c o z1 z2 z3 => ?_, fun c z => ?_⟩
      · rw [hb c (fun z => by rw [z, hn] at z1; cases z1)]
        exact g02.ext.1 c o z1 z2 z3
      · rw [hb c (fun y => by rw [y] at z; exact z hn)]
        exact g02.ext.2 c z
    have lk : LkP (fun H2 => Q (.ref s.heap.objs.size) H2) H' := fin_dic (kvs := acc') gs' g' hn (rs.hz _ hn) gn2 hH' nd mu (by
      rcases ow' with ⟨ws, q1, q2⟩ | ⟨ws, q1, q2⟩
      · rw [hH'] at q1; cases q1; exact .inl ⟨ws, rfl, q2⟩
      · rw [hH'] at q1; cases q1; exact .inr ⟨ws, rfl, q2⟩) fin
    obtain ⟨H3, I3, q3⟩ := inv_lk lk I'
    exact ⟨.ref s.heap.objs.size, H3, I3, rfl, q3⟩
  · refine pe_no (tM_no fun ρ => ?_)
    show (if dispOk (k0 :: ks) vs = true then _ else M.st) = M.st
    rw [if_neg hd]
end
end Px
set_option maxRecDepth 100000
set_option maxHeartbeats 4000000
/-! PX3: dict comprehensions, keys of either kind. -/
namespace Px
open PySem PySem.Spec PyProof.Rows L2 RZ
section
variable {X : Cx} {p : Pk}
/-- what storing an item asks -/
def PutA (p : Pk) (D : Addr) (y z : V) (H : Hp) (Nx : Hp → Prop) : Prop := ∃ G dc kvs kvs' kD vD, GS p dc G H ∧ OW p G H D (.dic kvs) ∧ G D = none ∧ DV p.K p.da G kD y ∧ DV p.K p.da G vD z ∧ putD kD vD kvs = some kvs' ∧
  ∀ o', ownO o' = true → Mut (some o') → OW p G (upd H D o') D (.dic kvs') → Nx (upd H D o')
def tDcA (p : Pk) (wi : TI) (g : TG) (tt : TT) (tk tv : TE) (vs : List Nat) : TE := fun σ H Q => wi σ H fun J H1 => ∀ D, H1 D = none → ∃ W : Nat → Nat → Hp → Prop, (∃ m, W 0 m (upd H1 D (.dK []))) ∧ ∀ i m H, W i m H →
  (J.stop i H ∧ Q (.ref D) H) ∨ (J.go i H ∧ ∃ Nx : Hp → Prop, (∀ H', Nx H' → ∃ m', m' < m ∧ W (i + 1) m' H') ∧ ∀ x H', J.yld i H x H' → g x (wipe σ vs) H' fun σ2 H2 => wipe σ2 vs = wipe σ vs ∧ tt σ2 H2 fun b H3 =>
    if b = true then tk σ2 H3 fun y H4 => tv σ2 H4 fun z H5 => PutA p D y z H5 Nx else Nx H3)
/-- as dc_core of HandS.DictComp, the keys of either kind -/
theorem dcA_core {pins : List (Addr × Obj)} {s : Shared} {σ : St} {H : Hp} {Q : VK} {kx vx tg iter : Expr} {ifs : List Expr} {scope : Scope} {own : List (Str × Nat)} {pos pos' : Pos} {wi : TI} {g : TG} {tt : TT} {tk tv : TE} {use : Option (Value → Sem Unit)} {Qf : Value → Shared → Prop}
    (hu : X.A.units + 1 < cLine) (hc : X.calm = true) (hN : X.N.Nodup) (I : Inv X pins σ H s) (hi : PI X tg iter wi) (ok : BlkOk X.N X.env.scope scope own)
    (hg : ∀ (s : Shared) (H : Hp) (C : Addr) (cl : List (Str × Addr)) (fp : List Addr), PG (X.blk s H scope (compEnvC scope cl C X.env) fp) tg g) (ht : ∀ (s : Shared) (H : Hp) (C : Addr) (cl : List (Str × Addr)) (fp : List Addr), PTs (X.blk s H scope (compEnvC scope cl C X.env) fp) ifs tt)
    (hk : ∀ (s : Shared) (H : Hp) (C : Addr) (cl : List (Str × Addr)) (fp : List Addr), PE (X.blk s H scope (compEnvC scope cl C X.env) fp) kx tk)
    (he : ∀ (s : Shared) (H : Hp) (C : Addr) (cl : List (Str × Addr)) (fp : List Addr), PE (X.blk s H scope (compEnvC scope cl C X.env) fp) vx tv) (hs : ∀ x, foldedSetIterable iter X.env x = pure x)
    (h : tDcA p wi g tt tk tv (own.map (·.2)) σ H Q)
    (hRR : ∀ D C s' m H', Inv X pins σ H' s' → Q (.ref D) H' → s'.heap.Ns C m → FpOk X pins H' C → compPost (model X.prog X.w) X.A X.xe use Qf (.ref D) C (.ok .next) s') :
    wpAny (model X.prog X.w) X.A (comprehension (.DictComp kx vx [⟨tg, iter, ifs, 0⟩] scope pos) scope X.env pos' newDict false (eval iter X.env) use) Qf X.xe s := by
  have hfree : ∀ y ∈ scope.names, y.2 = .free → ∃ c, X.env.cells.lookup y.1 = some c := fun y hy e => by
    rcases ok.free y hy e with k | k
    · exact I.ok.has _ (.inl k)
    · exact I.ok.has _ (.inr k)
  refine wpAny_comprehension_free (use := use) rfl hs (closure_ok hfree) ok.kind (fun y hy e => by rw [ok.uniq y hy, e])
    (thn (hi.run pins s σ H _ I h) fun xv s1 hx => thn hx fun itv s2 h2 => ?_)
  obtain ⟨it, fp, tn, J, H2, e, I2, T, st2, f2, q⟩ := h2
  subst e
  refine wpAny_newObj_type (newEnv_comp ?_)
  generalize hD : s2.heap.objs.size = D
  have hDn : H2 D = none := I2.hok.fresh (Nat.le_of_eq hD)
  obtain ⟨W, ⟨m0, w0⟩, turn⟩ := q D hDn
  generalize hs3 : ({ s2 with heap := s2.heap.push { cls := .type "dict", data := .dict #[] } } : Shared) = s3
  have I3 : Inv X pins σ (upd H2 D (.dK [])) s3 := by
    rw [← hs3]
    refine I2.laid (t' := s2.toks) (fun b o e => Heap.get?_push_of_some _ e) (Nat.le_of_eq hD) ?_
    rw [← hD]
    exact dk_empty s2.heap I2.big
  have h3 : s3.heap = s2.heap.push { cls := .type "dict", data := .dict #[] } := by rw [← hs3]
  have sz : ∀ b ∈ fp, b < s2.heap.objs.size := fun b hb => by
    obtain ⟨o, e, _⟩ := T.obj _ _ st2 b hb
    exact Heap.lt_size e
  have f3 : ∀ b ∈ fp, FpOk X pins (upd H2 D (.dK [])) b ∧ b < s3.heap.objs.size := fun b hb => by
    have hlt := sz b hb
    refine ⟨⟨?_, (f2 b hb).2⟩, by rw [h3, Heap.size_push]; exact Nat.lt_succ_of_lt hlt⟩
    rw [upd_ne (by rw [← hD]; exact Nat.ne_of_lt hlt)]
    exact (f2 b hb).1
  have st3 : tn 0 s3.heap := T.keep _ _ _ st2 fun b _ o e => by rw [h3]; exact Heap.get?_push_of_some _ e
  have I4 := block_start I3 ok hN f3
  have pg := hg s3 (upd H2 D (.dK [])) s3.heap.objs.size (cellsFrom (s3.heap.objs.size + 1) scope.names (cloFrom X.env.cells scope.names [])) fp
  have pt := ht s3 (upd H2 D (.dK [])) s3.heap.objs.size (cellsFrom (s3.heap.objs.size + 1) scope.names (cloFrom X.env.cells scope.names [])) fp
  have pk := hk s3 (upd H2 D (.dK [])) s3.heap.objs.size (cellsFrom (s3.heap.objs.size + 1) scope.names (cloFrom X.env.cells scope.names [])) fp
  have pe := he s3 (upd H2 D (.dK [])) s3.heap.objs.size (cellsFrom (s3.heap.objs.size + 1) scope.names (cloFrom X.env.cells scope.names [])) fp
  show codeAny _ _ (.compStart (.DictComp kx vx [⟨tg, iter, ifs, 0⟩] scope pos) 0 (.ref it) (.ref D) (compEnvC scope (cellsFrom (s3.heap.objs.size + 1) scope.names (cloFrom X.env.cells scope.names [])) s3.heap.objs.size X.env)) (compPost (model X.prog X.w) X.A X.xe use Qf (.ref D) s3.heap.objs.size) { s3 with heap := pushCells (s3.heap.push { cls := .type "dict", data := .dict #[] }) scope.names }
  have nfp : ∀ b ∈ fp, (upd H2 D (.dK [])) b = none := fun b hb => (f3 b hb).1.1
  generalize hce : compEnvC scope (cellsFrom (s3.heap.objs.size + 1) scope.names (cloFrom X.env.cells scope.names [])) s3.heap.objs.size X.env = ce at I4 pg pt pk pe ⊢
  have cL : ce.locals = s3.heap.objs.size := by subst hce; rfl
  generalize hH3 : upd H2 D (.dK []) = H3 at I3 I4 pg pt pk pe w0 nfp f3
  generalize hs4 : ({ s3 with heap := pushCells (s3.heap.push { cls := .type "dict", data := .dict #[] }) scope.names } : Shared) = s4 at I4 ⊢
  have st4 : tn 0 s4.heap := T.keep _ _ _ st3 fun b _ o e => by rw [← hs4]; exact pushCells_keeps _ _ _ _ (Heap.get?_push_of_some _ e)
  have stat : ∀ {σ' : St} {H' : Hp} {s' : Shared}, Inv (X.blk s3 H3 scope ce fp) [] σ' H' s' → (∀ b ∈ fp, H' b = none) → ∀ b ∈ fp, FpOk (X.blk s3 H3 scope ce fp) [] H' b := fun {σ' H' s'} I' hn b hb =>
    ⟨hn b hb, (I'.ok.exf b hb).1, I'.ok.exfs b hb, .inl hb, fun x c e => (I'.ok.exf b hb).2 x c e, fun p hp => absurd (show p ∈ ([] : List (Addr × Obj)) ++ [] from hp) (by simp)⟩
  have loop : codeAny (model X.prog X.w) X.A (.compLoop (.DictComp kx vx [⟨tg, iter, ifs, 0⟩] scope pos) 0 (.ref it) (.ref D) ce) (compPost (model X.prog X.w) X.A X.xe use Qf (.ref D) s3.heap.objs.size) s4 := by
    refine compLoop_anyD (fun n s' => ∃ i H', Inv (X.blk s3 H3 scope ce fp) [] (wipe σ (own.map (·.2))) H' s' ∧ tn i s'.heap ∧ (∀ b ∈ fp, H' b = none) ∧ W i n H') ?_ m0 ⟨0, H3, I4, st4, nfp, w0⟩
    rintro n s5 ⟨i, H5, I5, st5, n5, w5⟩
    rcases turn i n H5 w5 with ⟨stop, qq⟩ | ⟨go, Nx, hNx, step⟩
    · have td := T.done (X.blk s3 H3 scope ce fp) rfl rfl rfl hc i [] s5 _ H5 (fun _ _ => False) I5 (stat I5 n5) st5 stop
      refine thnF td fun r s6 ⟨hr, I6⟩ => ?_
      subst hr
      have I7 : Inv X pins σ H5 s6 := I3.call' (ch := fp) I6.os I6.base I6.hok I6.bare fun b hb => ⟨(f3 b hb).1.2.2.2.1, (f3 b hb).1.2.1, (f3 b hb).1.2.2.2.2.1, (f3 b hb).1.2.2.2.2.2⟩
      have nC : H5 s3.heap.objs.size = none := by
        have z : H5 ce.locals = none := I6.free
        rw [cL] at z
        exact z
      obtain ⟨m, hn, _⟩ := I6.loc
      have hn : s6.heap.Ns ce.locals m := hn
      rw [cL] at hn
      exact hRR D s3.heap.objs.size s6 m H5 I7 qq hn (I3.fpOk (Nat.le_refl _) nC)
    · have ti := T.item (X.blk s3 H3 scope ce fp) rfl rfl rfl hc i [] s5 _ H5 (fun _ _ => False) I5 (stat I5 n5) st5 go
      refine thnF ti fun r s6 ⟨u, hr, h6⟩ => ?_
      subst hr
      refine thnF h6 fun _ s7 ⟨x, H7, I7, r7, y7, st7, n7⟩ => ?_
      have I7' := I7.pinned (stat I7 n7) (T.obj _ _ st7)
      refine thnF (pg.run _ s7 _ H7 x u _ I7' r7 (step x H7 y7)) fun _ s8 ⟨σ8, H8, I8, hw8, q8⟩ => ?_
      refine thnF (pt.run _ s8 σ8 H8 _ I8 q8) fun b s9 ⟨H9, I9, q9⟩ => ?_
      have fin : ∀ {s' : Shared} {H' : Hp}, Inv (X.blk s3 H3 scope ce fp) ([] ++ pinsAt fp s7.heap) σ8 H' s' → Nx H' → ∃ m, m < n ∧ ∃ i H', Inv (X.blk s3 H3 scope ce fp) [] (wipe σ (own.map (·.2))) H' s' ∧ tn i s'.heap ∧ (∀ b ∈ fp, H' b = none) ∧ W i m H' := fun {s' H'} I' nx => by
        obtain ⟨m', hm, w'⟩ := hNx H' nx
        have pin' : ∀ b ∈ fp, ∀ o, s7.heap.get? b = some o → s'.heap.get? b = some o ∧ H' b = none := fun b hb o e =>
          let z := I'.pin (b, o) (List.mem_append_right _ (List.mem_append_right _ (mem_pinsAt hb e)))
          ⟨z.1, z.2.1⟩
        have hl : (wipe σ (own.map (·.2))).length = σ8.length := by rw [← hw8, wipe_length]
        refine ⟨m', hm, i + 1, H', (I'.unpinned (pins := [])).weak hl (fun j v e => ?_), T.keep _ _ _ st7 fun b hb o e => (pin' b hb o e).1, fun b hb => ?_, w'⟩
        · rw [← hw8] at e
          exact (wipe_some e).1
        · obtain ⟨o, e, _⟩ := T.obj _ _ st7 b hb
          exact (pin' b hb o e).2
      cases b with
      | false =>
        simp only [Bool.false_eq_true, if_false] at q9 ⊢
        exact fin I9 q9
      | true =>
        simp only [if_true] at q9 ⊢
        refine thnF (pk.run _ s9 σ8 H9 _ I9 q9) fun z s10 ⟨yk, H10, I10, r10, q10⟩ => ?_
        refine thnF (pe.run _ s10 σ8 H10 _ I10 q10) fun z2 s11 ⟨yv, H11, I11, r11, G, dc, kvs, kvs', kD, vD, gs, ow, gn, dk, dv, e, nx⟩ => ?_
        exact dset_any (X := X.blk s3 H3 scope ce fp) hu I11 gs ow gn dk dv r10 r11 e fun o' s12 ho mu I12 ow' => fin I12 (nx o' ho mu ow')
  exact codeAny_compStart_dict loop (T.self X.A 0 _ _ _ st4 loop)
end
end Px
set_option maxRecDepth 100000
set_option maxHeartbeats 4000000
/-! PX4: dict comprehensions by the evaluator's function. -/
namespace Px
open PySem PySem.Spec PyProof.Rows L2 RZ
section
variable {p : Pk} {C : Cn} {k : Nat} {W : WX} {X : Cx} {n : Nat} {b : Bool} {m : Md} {G H : Hp} {dc : Dc}
theorem ow_dic {a : Addr} {kvs : List (Px.D × Px.D)} (h : OW p G H a (.dic kvs)) : ∃ u, H a = some u ∧ ownO u = true ∧ Mut (some u) ∧ ((∃ ws, u = .dK ws ∧ DVk p.K p.da G kvs ws) ∨ ∃ ws, u = .dT ws ∧ DVt p.K p.da G kvs ws) := by
  rcases h with ⟨ws, h1, h2⟩ | ⟨ws, h1, h2⟩
  · exact ⟨_, h1, rfl, trivial, .inl ⟨ws, rfl, h2⟩⟩
  · exact ⟨_, h1, rfl, trivial, .inr ⟨ws, rfl, h2⟩⟩
/-- what stands while the dict is made -/
def PvD (p : Pk) (W : WX) (m : Md) (σ : St) (G1 H1 : Hp) (Dl : Addr) (Q : VK) (R : List (Px.D × Px.D) → Nat → M (List (Px.D × Px.D))) (i : Nat) (H' : Hp) : Prop := ∃ G' dcx acc, GS p dcx G' H' ∧ Grow p.da G1 H1 G' H' ∧ OWn p G' H' Dl (.dic acc) ∧
  Post p W (RV p m) σ G1 H1 ((R acc i >>= fun kvs => pure (.dic kvs)) dcx) Q
theorem dc_it {J : It} {N : Nat} {Gd : Hp → Prop} {Y : Nat → Hp → V → Hp → Prop} (w : Walk J N Gd Y) {g : TG} {tt : TT} {tk tv : TE} {vs : List Nat} {σ : St} {H1 : Hp} {Dl : Addr} {Qd : Hp → Prop} (Pv : Nat → Hp → Prop) (h0 : Pv 0 (upd H1 Dl (.dK []))) (hG : ∀ i H, i ≤ N → Pv i H → Gd H)
    (hs : ∀ i x H H', i < N → Pv i H → Y i H x H' → g x (wipe σ vs) H' fun σ2 H2 => wipe σ2 vs = wipe σ vs ∧ tt σ2 H2 fun b H3 => if b = true then tk σ2 H3 fun y H4 => tv σ2 H4 fun z H5 => PutA p Dl y z H5 (Pv (i + 1)) else Pv (i + 1) H3) (hd : ∀ H, Pv N H → Qd H) :
    ∃ W : Nat → Nat → Hp → Prop, (∃ m, W 0 m (upd H1 Dl (.dK []))) ∧ ∀ i m H, W i m H →
      (J.stop i H ∧ Qd H) ∨ (J.go i H ∧ ∃ Nx : Hp → Prop, (∀ H', Nx H' → ∃ m', m' < m ∧ W (i + 1) m' H') ∧ ∀ x H', J.yld i H x H' → g x (wipe σ vs) H' fun σ2 H2 => wipe σ2 vs = wipe σ vs ∧ tt σ2 H2 fun b H3 =>
        if b = true then tk σ2 H3 fun y H4 => tv σ2 H4 fun z H5 => PutA p Dl y z H5 Nx else Nx H3) := by
  refine ⟨fun i m H => m = N - i ∧ i ≤ N ∧ Pv i H, ⟨N, by simp, Nat.zero_le _, h0⟩, ?_⟩
  rintro i m H ⟨rfl, hi, q⟩
  have hg := hG i H hi q
  by_cases hlt : i < N
  · exact .inr ⟨w.goes i H hlt hg, Pv (i + 1), fun H' p' => ⟨N - (i + 1), by omega, rfl, hlt, p'⟩, fun x H' y => hs i x H H' hlt q (w.yields i H x H' hlt hg y)⟩
  · have e : i = N := by omega
    subst e
    exact .inl ⟨w.stops H hg, hd H q⟩
theorem dc_imp (x : XOk p C k W X) {ke ve tg it : Expr} {ifs : List Expr} {scope : Scope} {pos : Pos} (hb : blkB C.N C.sc scope = true) (hi : itOk tg it = true) {Q' : VK → VK}
    (hQ' : ∀ (Q : VK) Dl u H1 G1 H' G' dcx acc σ, GS p dcx G' H' → Grow p.da G1 H1 G' H' → H1 Dl = none → (p.H0 Dl = none ∧ p.Hb Dl = none) → G' Dl = none → H' Dl = some u → p.da ≠ some Dl → Mut (some u) → ((∃ ws, u = .dK ws ∧ DVk p.K p.da G' acc ws) ∨ ∃ ws, u = .dT ws ∧ DVt p.K p.da G' acc ws) → Post p W (RV p m) σ G1 H1 (.ok (.dic acc) dcx) Q → Q' Q (.ref Dl) H') :
    ∀ (σ : St) (H : Hp) (Q : VK), tE p W m (fun ρ => dE (n + 1) b C (.DictComp ke ve [⟨tg, it, ifs, 0⟩] scope pos) ρ) σ H Q →
    tDcA p (tM p W (IOk p true) fun ρ => dI n true C it ρ) (gT p (tgN n ⟨C.N, scope, C.Γ, C.g, false, C.lp⟩ tg) (ownN C.N scope)) (tB p W0 fun ρ => dTs n ⟨C.N, scope, C.Γ, C.g, false, C.lp⟩ ifs ρ) (tE p W0 .va fun ρ => dE n false ⟨C.N, scope, C.Γ, C.g, false, C.lp⟩ ke ρ) (tE p W0 .va fun ρ => dE n false ⟨C.N, scope, C.Γ, C.g, false, C.lp⟩ ve ρ) (ownN C.N scope) σ H (Q' Q) := fun σ H Q ⟨ρ, G, dc, gs, rs, post⟩ => by
  replace post : Post p W (RV p m) σ G H ((dI n true C it ρ >>= fun items => dcM (tgN n ⟨C.N, scope, C.Γ, C.g, false, C.lp⟩ tg) (fun ρ => noE (dTs n ⟨C.N, scope, C.Γ, C.g, false, C.lp⟩ ifs ρ)) (fun ρ => noE (dE n false ⟨C.N, scope, C.Γ, C.g, false, C.lp⟩ ke ρ)) (fun ρ => noE (dE n false ⟨C.N, scope, C.Γ, C.g, false, C.lp⟩ ve ρ)) (wipeE ρ (ownN C.N scope)) items [] >>= fun kvs => pure (.dic kvs)) dc) Q := by
    have e : dE (n + 1) b C (.DictComp ke ve [⟨tg, it, ifs, 0⟩] scope pos) ρ = (dI n true C it ρ >>= fun items => dcM (tgN n ⟨C.N, scope, C.Γ, C.g, false, C.lp⟩ tg) (fun ρ => noE (dTs n ⟨C.N, scope, C.Γ, C.g, false, C.lp⟩ ifs ρ)) (fun ρ => noE (dE n false ⟨C.N, scope, C.Γ, C.g, false, C.lp⟩ ke ρ)) (fun ρ => noE (dE n false ⟨C.N, scope, C.Γ, C.g, false, C.lp⟩ ve ρ)) (wipeE ρ (ownN C.N scope)) items [] >>= fun kvs => pure (.dic kvs)) := by
      show (if (0 : Int) = 0 ∧ blkB C.N C.sc scope = true ∧ itOk tg it = true then _ else M.st) = _
      rw [if_pos ⟨rfl, hb, hi⟩]
    rw [← e]; exact post
  refine ⟨ρ, G, dc, gs, rs, Post.seq post fun items dc1 J G1 H1 _ gs1 g1 iok post1 => fun Dl hD => ?_⟩
  obtain ⟨Gd, Y, w, hGd, hY⟩ := iok
  have rs1 := (rs.grow gs g1)
  have nd := gs1.ndice hD
  refine dc_it w (PvD p W m σ G1 H1 Dl Q fun acc i => dcM (tgN n ⟨C.N, scope, C.Γ, C.g, false, C.lp⟩ tg) (fun ρ => noE (dTs n ⟨C.N, scope, C.Γ, C.g, false, C.lp⟩ ifs ρ)) (fun ρ => noE (dE n false ⟨C.N, scope, C.Γ, C.g, false, C.lp⟩ ke ρ)) (fun ρ => noE (dE n false ⟨C.N, scope, C.Γ, C.g, false, C.lp⟩ ve ρ)) (wipeE ρ (ownN C.N scope)) (items.drop i) acc) ?_ (fun i H' _ ⟨G', dcx, acc, s', g', _⟩ => hGd G' H' dcx s' (Cond.of g')) ?_ ?_
  · exact ⟨G1, dc1, [], gs1.newH hD, Grow.newH p.da hD, ⟨.inl ⟨[], upd_same, rfl⟩, gs1.gnone hD, nd, (rs1.hz Dl hD).1⟩, post1⟩
  · rintro i xv H' H'' hi' ⟨G', dcx, acc, s', g', ow, post'⟩ hy
    dsimp only at post'
    have hd := List.getElem?_eq_getElem hi'
    obtain ⟨G2, s2, g2, dv2⟩ := hY i G' H' dcx xv H'' _ hi' s' (Cond.of g') hy hd
    rw [List.drop_eq_getElem_cons hi'] at post'
    unfold dcM at post'
    rw [bind_assocM] at post'
    obtain ⟨ρ', e, post'⟩ := Post.liftB post'
    rw [bind_assocM] at post'
    have gg := g'.trans g2
    have ow2 := ow.grow g2 s'.hd
    refine ⟨wipeE ρ (ownN C.N scope), G2, dcx, _, ρ', s2, ((rs1.grow gs1 gg).wipe _), dv2, e, fun σ2 rs2 k2 l2 => ⟨wipe_same k2 l2, ?_⟩⟩
    refine ⟨ρ', G2, dcx, s2, rs2, Post.seqN post' fun c dc3 c' G3 H3 s3 g3 r3 post' => ?_⟩
    cases (show c' = c from r3)
    have ow3 := ow2.grow g3 s2.hd
    cases c with
    | false => exact ⟨G3, dc3, acc, s3, gg.trans g3, ow3, post'⟩
    | true =>
      simp only [if_true] at post' ⊢
      rw [bind_assocM] at post'
      refine ⟨ρ', G3, dc3, s3, rs2.grow s2 g3, Post.seqN post' fun kd dc4 y G4 H4 s4 g4 r4 post' => ?_⟩
      rw [bind_assocM] at post'
      refine ⟨ρ', G4, dc4, s4, (rs2.grow s2 g3).grow s3 g4, Post.seqN post' fun vd dc5 z G5 H5 s5 g5 r5 post' => ?_⟩
      rw [bind_assocM] at post'
      obtain ⟨acc', e2, post'⟩ := Post.liftB post'
      have ow5 := (ow3.grow g4 s3.hd).grow g5 s4.hd
      obtain ⟨u, hu, hou, mu, _⟩ := ow_dic ow5.ow
      exact ⟨G5, dc5, acc, acc', kd, vd, s5, ow5.ow, ow5.gn, DV.mono g5.sub _ _ r4, r5, e2, fun o' ho' mu' ow' => ⟨G5, dc5, acc', s5.setO ow5.gn nd hu hou, (((gg.trans g3).trans g4).trans g5).setO hD, ⟨ow', ow5.gn, nd, ow5.h0⟩, post'⟩⟩
  · rintro H' ⟨G', dcx, acc, s', g', ow, post'⟩
    dsimp only at post'
    rw [List.drop_length] at post'
    obtain ⟨u, hu, hou, mu, dv⟩ := ow_dic ow.ow
    exact hQ' Q Dl u H1 G1 H' G' dcx acc σ s' g' hD (rs1.hz Dl hD) ow.gn hu nd mu dv post'
theorem e_dc (h2 : IH2 n) (x : XOk p C k W X) {ke ve tg it : Expr} {ifs : List Expr} {a : Int} {scope : Scope} {pos : Pos} : PE X (.DictComp ke ve [⟨tg, it, ifs, a⟩] scope pos) (tE p W m fun ρ => dE (n + 1) b C (.DictComp ke ve [⟨tg, it, ifs, a⟩] scope pos) ρ) := by
  by_cases hc : a = 0 ∧ blkB C.N C.sc scope = true ∧ itOk tg it = true
  · obtain ⟨rfl, hb, hi⟩ := hc
    have hv : ∀ y, stoN ⟨C.N, scope, C.Γ, C.g, false, C.lp⟩ y = true → ixOf C.N y ∈ ownN C.N scope := own_all hb
    have pd : PE X (.DictComp ke ve [⟨tg, it, ifs, 0⟩] scope pos) (tDcA p (tM p W (IOk p true) fun ρ => dI n true C it ρ) (gT p (tgN n ⟨C.N, scope, C.Γ, C.g, false, C.lp⟩ tg) (ownN C.N scope)) (tB p W0 fun ρ => dTs n ⟨C.N, scope, C.Γ, C.g, false, C.lp⟩ ifs ρ) (tE p W0 .va fun ρ => dE n false ⟨C.N, scope, C.Γ, C.g, false, C.lp⟩ ke ρ) (tE p W0 .va fun ρ => dE n false ⟨C.N, scope, C.Γ, C.g, false, C.lp⟩ ve ρ) (ownN C.N scope)) := by
      refine ⟨fun pins s σ H Q I h => ?_⟩
      rw [arm_eval_DictComp]
      refine dcA_core (own := ownL C.N scope) (by have := x.u65; omega) x.calm (by rw [x.N]; exact x.nd) I (h2.I x true tg it hi) (blk_ok x hb)
        (fun s H Ca cl fp => pg_T (x.blk s H Ca cl fp) _ hv n tg) (fun s H Ca cl fp => h2.ih.Ts (x.blk s H Ca cl fp) ifs) (fun s H Ca cl fp => h2.ih.E (x.blk s H Ca cl fp) false .va ke rfl) (fun s H Ca cl fp => h2.ih.E (x.blk s H Ca cl fp) false .va ve rfl) (fold_of (itOk_set hi)) h fun D C s' m H' I' q hn f => ⟨m, hn, fun h'' sb => ?_⟩
      obtain ⟨f0, f1, f2, f3, f4, f5⟩ := f
      exact ⟨.ref D, H', I'.turned (t' := s'.toks) (fun b o hb e => (sb.2 b hb).trans e) f0 f1 f3 f4 f5, rfl, q⟩
    refine PE.imp (pe_lk pd) fun σ H Q q => dc_imp x hb hi (Q' := fun Q v H1 => LkP (fun H2 => Q v H2) H1) (fun Q Dl u H1 G1 H' G' dcx acc σ s' g' hD hz gn hu nd mu dv post' => fin_dic (kvs := acc) s' g' hD hz gn hu nd mu dv post') σ H Q q
  · refine pe_no (tM_no fun ρ => ?_)
    show (if a = 0 ∧ blkB C.N C.sc scope = true ∧ itOk tg it = true then _ else M.st) = M.st
    rw [if_neg hc]
/-- name = {..} on one line, the name a local -/
theorem ps_setDc {i : Nat} {y : Str} {py : Pos} {kx vx tg iter : Expr} {ifs : List Expr} {scope : Scope} {own : List (Str × Nat)} {pos spos : Pos} {wi : TI} {g : TG} {tt : TT} {tk tv : TE} (hu : X.A.units + 1 < cLine) (hc : X.calm = true) (hN : X.N.Nodup) (hy : X.N[i]? = some y) (hyl : X.env.scope.names.lookup y = some .local)
    (hsw : swapsWith (.DictComp kx vx [⟨tg, iter, ifs, 0⟩] scope pos) (some (.Name y py)) spos.line X.env = pure true) (hi : PI X tg iter wi) (ok : BlkOk X.N X.env.scope scope own)
    (hg : ∀ (s : Shared) (H : Hp) (C : Addr) (cl : List (Str × Addr)) (fp : List Addr), PG (X.blk s H scope (compEnvC scope cl C X.env) fp) tg g) (ht : ∀ (s : Shared) (H : Hp) (C : Addr) (cl : List (Str × Addr)) (fp : List Addr), PTs (X.blk s H scope (compEnvC scope cl C X.env) fp) ifs tt)
    (hk : ∀ (s : Shared) (H : Hp) (C : Addr) (cl : List (Str × Addr)) (fp : List Addr), PE (X.blk s H scope (compEnvC scope cl C X.env) fp) kx tk)
    (he : ∀ (s : Shared) (H : Hp) (C : Addr) (cl : List (Str × Addr)) (fp : List Addr), PE (X.blk s H scope (compEnvC scope cl C X.env) fp) vx tv) (hs : ∀ x, foldedSetIterable iter X.env x = pure x) :
    PS X (.Assign [.Name y py] (.DictComp kx vx [⟨tg, iter, ifs, 0⟩] scope pos) spos) (tAsg (tDcA p wi g tt tk tv (own.map (·.2))) (gName i)) := by
  refine ⟨fun pins s σ H D I h => ?_⟩
  rw [exec_Assign_Name_used _ _ _ _ hsw]
  refine wpAny_bind (wpAny_standAt (wpAny_bind ?_))
  show wpAny _ X.A (do let _ ← comprehension (.DictComp kx vx [⟨tg, iter, ifs, 0⟩] scope pos) scope X.env (firstIterPos [⟨tg, iter, ifs, 0⟩] pos) newDict false (eval iter X.env) (some (assign (.Name y py) X.env))) _ _ s
  have h : tDcA p wi g tt tk tv (own.map (·.2)) σ H (fun x H1 => gName i x σ H1 D.nx) := h
  refine wpAny_bind (thn (dcA_core (Qf := fun _ s' => SP X pins D .next s') hu hc hN I hi ok hg ht hk he hs h fun L C s' m H' I' q hn f => ?_) fun _ s' hq => wpAny_pure (wpAny_pure hq))
  show wpAny _ _ (assign (.Name y py) X.env (.ref L)) _ _ _
  refine wpAny_assign_Name (store_ok2 (v := V.ref L) I' hN hy (.inl hyl) rfl (fun s2 I2 ⟨a, sb, ha⟩ => ?_) (.inr hyl))
  obtain ⟨f0, f1, f2, f3, f4, f5⟩ := f
  have haC : C ≠ a := by
    rcases ha with z | z
    · rw [z]; exact f1
    · exact fun e => f4 y a z e.symm
  refine ⟨m, hn.sameBut sb haC, fun h3 sb3 => ?_⟩
  exact ⟨_, H', I2.turned (t' := s2.toks) (fun b o hb e => (sb3.2 b hb).trans e) f0 f1 f3 f4 f5, q⟩
end
end Px
set_option maxRecDepth 100000
set_option maxHeartbeats 4000000
/-! PX5: list comprehensions with two for. -/
namespace Px
open PySem PySem.Spec PyProof.Rows L2 RZ
section
variable {p : Pk} {C : Cn} {k : Nat} {W : WX} {X : Cx} {n : Nat} {b : Bool} {m : Md} {G H : Hp} {dc : Dc}
theorem gT_mono {f : D → En → Option En} {vs ws : List Nat} (h : ∀ i ∈ vs, i ∈ ws) {v : V} {σ : St} {H : Hp} {Q : St → Hp → Prop} (q : gT p f ws v σ H Q) : gT p f vs v σ H Q := by
  obtain ⟨ρ, G, dc, d, ρ', gs, rs, dv, e, q⟩ := q
  exact ⟨ρ, G, dc, d, ρ', gs, rs, dv, e, fun σ' r k l => q σ' r (fun i hi => k i fun z => hi (h i z)) l⟩
theorem pgs_ixl (f : Expr → D → En → Option En) (g : Expr → List Nat) (h : ∀ e, PG X e (gT p (f e) (g e))) : ∀ es, noStar es = true → PGs X es (gTs p (tpTs (es.map f)) (es.flatMap g))
  | [], _ => by
    refine PGs.imp pgs_nil fun us σ H Q ⟨ρ, G, dc, ds, ρ', gs, rs, dv, e, q⟩ => ?_
    cases ds with
    | nil =>
      cases dv
      cases e
      exact ⟨rfl, q σ rs (fun _ _ => rfl) rfl⟩
    | cons _ _ => cases e
  | e :: es, hs => by
    refine PGs.imp (pgs_cons (h e) (pgs_ixl f g h es (noStar_cons hs).2) (assignEach_cons hs)) fun us σ H Q ⟨ρ, G, dc, ds, ρ', gs, rs, dv, e', q⟩ => ?_
    cases ds with
    | nil => cases e'
    | cons d ds =>
      obtain ⟨v, r, rfl, h1, h2⟩ := dv
      have e' : (f e d ρ).bind (fun ρ1 => tpTs (es.map f) ds ρ1) = some ρ' := e'
      obtain ⟨ρ1, e1, e2⟩ := Option.bind_eq_some_iff.mp e'
      refine ⟨v, r, rfl, ρ, G, dc, d, ρ1, gs, rs, h1, e1, fun σ1 rs1 k1 l1 => ?_⟩
      rw [List.flatMap_cons] at q
      exact ⟨ρ1, G, dc, ds, ρ', gs, rs1, h2, e2, fun σ2 rs2 k2 l2 => q σ2 rs2 (fun i hi => (k2 i fun z => hi (List.mem_append_right _ z)).trans (k1 i fun z => hi (List.mem_append_left _ z))) (l2.trans l1)⟩
/-- a target's reading: only what it names is set -/
theorem pg_ixs (x : XOk p C k W X) : ∀ (n : Nat) (e : Expr), PG X e (gT p (tgN n C e) (tgIx n C e))
  | 0, e => pg_no (gT_no fun d ρ => rfl)
  | n + 1, e => by
    have ih1 := pg_ixs x n
    have ih2 := pgs_ixl (tgN n C) (tgIx n C) ih1
    · cases e with
      | Name y pos =>
        by_cases hs : stoN C y = true
        · obtain ⟨h1, h2⟩ := stoN_parts hs
          obtain ⟨hl, hf⟩ := x.sto y h1
          refine PG.imp (pg_name (i := ixOf C.N y) (by rw [x.N]; exact x.nd) (by rw [x.N]; exact ixOf_at h2) hl hf) fun v σ H Q ⟨ρ, G, dc, d, ρ', gs, rs, dv, e, q⟩ => ?_
          have e : (if stoN C y = true then nmT (ixOf C.N y) else noT) d ρ = some ρ' := e
          rw [if_pos hs] at e
          cases e
          exact q _ (rs.setVa dv) (fun i hi => List.getElem?_set_ne (fun z => hi (by rw [← z]; exact List.mem_singleton.mpr rfl))) (List.length_set ..)
        · refine pg_no (gT_no fun d ρ => ?_)
          show (if stoN C y = true then nmT _ else noT) d ρ = none
          rw [if_neg hs]
          rfl
      | Tuple es j pos =>
        by_cases hs : noStar es = true
        · obtain ⟨a1, a2⟩ := assignEach_star (env := X.env) hs
          refine ⟨fun pins s σ H v u Q I r ⟨ρ, G, dc, d, ρ', gs, rs, dv, e, q⟩ => ?_⟩
          have e : (if noStar es = true then tpT (es.map fun e => tgN n C e) else noT) d ρ = some ρ' := e
          rw [if_pos hs] at e
          cases d with
          | tup ds =>
            obtain ⟨a, us, rfl, ha, du⟩ := dv
            exact (pg_tup (n := es.length) x.calm (ih2 es hs) a1 a2).run pins s σ H _ u Q I r ⟨a, us, rfl, .inl (.inl (gs.sub _ _ ha)), by rw [du.length]; exact tpM_len (f := tgN n C) e, ρ, G, dc, ds, ρ', gs, rs, du, e, q⟩
          | ktup ds =>
            obtain ⟨a, us, rfl, ha, du⟩ := dv
            exact (pg_tup (n := es.length) x.calm (ih2 es hs) a1 a2).run pins s σ H _ u Q I r ⟨a, us, rfl, x.K ▸ ha H, by rw [du.length]; exact tpM_len (f := tgN n C) e, ρ, G, dc, ds, ρ', gs, rs, du, e, q⟩
          | lst ds =>
            obtain ⟨a, us, rfl, ha, du⟩ := dv
            exact (pg_lst (n := es.length) x.calm (ih2 es hs) a1 a2).run pins s σ H _ u Q I r ⟨a, us, rfl, .inl (.inl (gs.sub _ _ ha)), by rw [du.length]; exact tpM_len (f := tgN n C) e, ρ, G, dc, ds, ρ', gs, rs, du, e, q⟩
          | _ => cases e
        · refine pg_no (gT_no fun d ρ => ?_)
          show (if noStar es = true then tpT _ else noT) d ρ = none
          rw [if_neg hs]
          rfl
      | _ => exact pg_no (gT_no fun d ρ => rfl)
/-- a target owns nothing new -/
theorem tpTs_ow : ∀ {ts : List (D → En → Option En)}, (∀ t ∈ ts, ∀ (d : D) (ρ ρ' : En) (i : Nat) (y : D), t d ρ = some ρ' → ρ'[i]? = some (.ow y) → ρ[i]? = some (.ow y)) → ∀ (ds : List D) (ρ ρ' : En) (i : Nat) (y : D), tpTs ts ds ρ = some ρ' → ρ'[i]? = some (.ow y) → ρ[i]? = some (.ow y)
  | [], _, [], _, _, _, _, h, h' => by cases h; exact h'
  | [], _, _ :: _, _, _, _, _, h, _ => by cases h
  | _ :: _, _, [], _, _, _, _, h, _ => by cases h
  | t :: ts, ih, d :: ds, ρ, ρ', i, y, h, h' => by
    have h : (t d ρ).bind (fun ρ' => tpTs ts ds ρ') = some ρ' := h
    obtain ⟨ρ1, e1, e2⟩ := Option.bind_eq_some_iff.mp h
    exact ih t List.mem_cons_self _ _ _ _ _ e1 (tpTs_ow (fun t ht => ih t (List.mem_cons_of_mem _ ht)) _ _ _ _ _ e2 h')
theorem tgN_ow : ∀ (n : Nat) (e : Expr) (d : D) (ρ ρ' : En) (i : Nat) (y : D), tgN n C e d ρ = some ρ' → ρ'[i]? = some (.ow y) → ρ[i]? = some (.ow y)
  | 0, _, _, _, _, _, _, h, _ => (by cases h)
  | n + 1, e, d, ρ, ρ', i, y, h, h' => by
    have ih := tgN_ow n
    cases e with
    | Name z pos =>
      have h : (if stoN C z = true then nmT (ixOf C.N z) else noT) d ρ = some ρ' := h
      split at h
      · cases h
        by_cases e : i = ixOf C.N z
        · subst e
          by_cases hl : ixOf C.N z < ρ.length
          · rw [List.getElem?_set_self hl] at h'
            cases h'
          · rw [List.getElem?_eq_none (by rw [List.length_set]; omega)] at h'
            cases h'
        · rw [List.getElem?_set_ne (Ne.symm e)] at h'
          exact h'
      · cases h
    | Tuple es j pos =>
      have h : (if noStar es = true then tpT (es.map fun e => tgN n C e) else noT) d ρ = some ρ' := h
      have all : ∀ t ∈ (es.map fun e => tgN n C e), ∀ (d : D) (ρ ρ' : En) (i : Nat) (y : D), t d ρ = some ρ' → ρ'[i]? = some (.ow y) → ρ[i]? = some (.ow y) := fun t ht => by
        obtain ⟨e, _, rfl⟩ := List.mem_map.mp ht
        exact ih e
      split at h
      · unfold tpT at h
        split at h
        · exact tpTs_ow all _ _ _ _ _ h h'
        · exact tpTs_ow all _ _ _ _ _ h h'
        · exact tpTs_ow all _ _ _ _ _ h h'
        · cases h
      · cases h
    | _ => cases h
/-- a list that no slot owns is written -/
theorem RS.updD {ρ : En} {σ : St} {a : Addr} {vs ws : List V} (r : RS p ρ σ G H) (ha : H a = some (.lst vs)) (h0 : p.H0 a = none) (hne : ∀ (i : Nat) (x : Px.D) (v : V), ρ[i]? = some (.ow x) → σ[i]? = some (some v) → v ≠ .ref a) : RS p ρ σ G (upd H a (.lst ws)) := by
  refine ⟨r.len, r.va, r.la, fun i d e => ?_, r.dj, ⟨fun b u e h1 h2 => ?_, fun b e => ?_⟩, fun b e => ?_⟩
  · obtain ⟨c, h1, h2⟩ := r.ow i d e
    have nc : c ≠ a := fun z => hne i d _ e h1 (by rw [z])
    refine ⟨c, h1, ?_, h2.gn, h2.nd, h2.h0⟩
    have w := h2.ow
    cases d with
    | lst ds =>
      obtain ⟨us, e1, e2⟩ := w
      exact ⟨us, by rw [upd_ne nc]; exact e1, e2⟩
    | dic kvs =>
      rcases w with ⟨us, e1, e2⟩ | ⟨us, e1, e2⟩
      · exact .inl ⟨us, by rw [upd_ne nc]; exact e1, e2⟩
      · exact .inr ⟨us, by rw [upd_ne nc]; exact e1, e2⟩
    | obj c fs =>
      obtain ⟨dx, us, e1, e2, e3, e4, e5⟩ := w
      exact ⟨dx, us, by rw [upd_ne nc]; exact e1, e2, by rw [upd_ne (fun z => by rw [z, ha] at e3; cases e3)]; exact e3, e4, e5⟩
    | _ => exact w.elim
  · rw [upd_ne (fun z => by rw [z, h0] at e; cases e)]
    exact r.ent.1 b u e h1 h2
  · by_cases z : b = a
    · rw [z, upd_same]; simp
    · rw [upd_ne z]; exact r.ent.2 b e
  · by_cases z : b = a
    · rw [z, upd_same]; simp
    · rw [upd_ne z]; exact r.hb b e
theorem fits2 {α : Type} {rel : Hp → Hp → D → α → Prop} {σ : St} {m1 m2 : M (List D)} {as : List D} {Q : α → Hp → Prop} (h1 : ∀ dc c dc', m1 dc ≠ .er c dc') (h2 : ∀ dc c dc', m2 dc ≠ .er c dc') (h : Post p W rel σ G H ((m1 >>= fun ys => m2 >>= fun zs => lift (mkL (as ++ (ys ++ zs)))) dc) Q) : as.length ≤ szL := by
  cases e : m1 dc with
  | ok ys dc1 =>
    rw [bind_ok e] at h
    cases e2 : m2 dc1 with
    | ok zs dc2 =>
      rw [bind_ok e2] at h
      obtain ⟨d, e3, _⟩ := Post.lift h
      unfold mkL at e3
      split at e3
      · rename_i hl
        rw [List.length_append] at hl
        omega
      · cases e3
    | er c dc1 => exact absurd e2 (h2 _ _ _)
    | st =>
      rw [bind_stt e2] at h
      exact (show False from h).elim
  | er c dc1 => exact absurd e (h1 _ _ _)
  | st =>
    rw [bind_stt e] at h
    exact (show False from h).elim
theorem lc2M_ner {tg tg1 : D → En → Option En} {tt tt1 : En → M Bool} {te : En → M D} {ti : En → M (List D)} {vs1 : List Nat} {ρ : En} : ∀ (xs : List D) (dc : Dc) c dc', lc2M tg (fun ρ => noE (tt ρ)) (fun ρ => noE (ti ρ)) vs1 tg1 (fun ρ => noE (tt1 ρ)) (fun ρ => noE (te ρ)) ρ xs dc ≠ .er c dc'
  | [], dc, c, dc' => fun z => by cases z
  | x :: xs, dc, c, dc' => by
    unfold lc2M
    refine bind_ner (fun _ _ => lift_ner) (fun ρ' dc1 _ => bind_ner (fun _ _ => noE_ner) (fun b dc2 _ => ?_)) c dc'
    intro c dc'
    cases b with
    | false => exact lc2M_ner xs dc2 c dc'
    | true => exact bind_ner (fun _ _ => noE_ner) (fun items dc3 _ => bind_ner (lcM_ner items dc3) fun ys dc4 _ => bind_ner (lc2M_ner xs dc4) fun zs dc5 _ c dc' z => by cases z) c dc'
/-- the second clause's own loop -/
theorem lc_it2 {J : It} {N : Nat} {Gd : Hp → Prop} {Y : Nat → Hp → V → Hp → Prop} (w : Walk J N Gd Y) {g : TG} {tt : TT} {te : TE} {vs : List Nat} {σ : St} {H1 : Hp} {Dl : Addr} {Nx : Hp → Prop} (Pv : Nat → Hp → Prop) (h0 : Pv 0 H1) (hG : ∀ i H, i ≤ N → Pv i H → Gd H)
    (hs : ∀ i x H H', i < N → Pv i H → Y i H x H' → g x (wipe σ vs) H' fun σ2 H2 => wipe σ2 vs = wipe σ vs ∧ tt σ2 H2 fun b H3 =>
      if b = true then te σ2 H3 fun y H4 => ∃ acc, H4 Dl = some (.lst acc) ∧ acc.length < sizeLine ∧ Pv (i + 1) (upd H4 Dl (.lst (acc ++ [y]))) else Pv (i + 1) H3) (hd : ∀ H, Pv N H → Nx H) :
    ∃ W : Nat → Nat → Hp → Prop, (∃ m, W 0 m H1) ∧ ∀ i m H, W i m H →
      (J.stop i H ∧ Nx H) ∨ (J.go i H ∧ ∃ Nx1 : Hp → Prop, (∀ H', Nx1 H' → ∃ m', m' < m ∧ W (i + 1) m' H') ∧ ∀ x H', J.yld i H x H' → g x (wipe σ vs) H' fun σ2 H2 => wipe σ2 vs = wipe σ vs ∧ tt σ2 H2 fun b H3 =>
        if b = true then te σ2 H3 fun y H4 => ∃ acc, H4 Dl = some (.lst acc) ∧ acc.length < sizeLine ∧ Nx1 (upd H4 Dl (.lst (acc ++ [y]))) else Nx1 H3) := by
  refine ⟨fun i m H => m = N - i ∧ i ≤ N ∧ Pv i H, ⟨N, by simp, Nat.zero_le _, h0⟩, ?_⟩
  rintro i m H ⟨rfl, hi, q⟩
  have hg := hG i H hi q
  by_cases hlt : i < N
  · exact .inr ⟨w.goes i H hlt hg, Pv (i + 1), fun H' p' => ⟨N - (i + 1), by omega, rfl, hlt, p'⟩, fun x H' y => hs i x H H' hlt q (w.yields i H x H' hlt hg y)⟩
  · have e : i = N := by omega
    subst e
    exact .inl ⟨w.stops H hg, hd H q⟩
/-- the first clause's loop -/
theorem lc2_it0 {J : It} {N : Nat} {Gd : Hp → Prop} {Y : Nat → Hp → V → Hp → Prop} (w : Walk J N Gd Y) {g : TG} {tt : TT} {T2 : (Hp → Prop) → St → Hp → Prop} {vs : List Nat} {σ : St} {H1 : Hp} {Dl : Addr} {Qd : Hp → Prop} (Pv : Nat → Hp → Prop) (h0 : Pv 0 (upd H1 Dl (.lst []))) (hG : ∀ i H, i ≤ N → Pv i H → Gd H)
    (hs : ∀ i x H H', i < N → Pv i H → Y i H x H' → g x (wipe σ vs) H' fun σ2 H2 => wipe σ2 vs = wipe σ vs ∧ tt σ2 H2 fun b H3 => if b = true then T2 (Pv (i + 1)) σ2 H3 else Pv (i + 1) H3) (hd : ∀ H, Pv N H → Qd H) :
    ∃ W : Nat → Nat → Hp → Prop, (∃ m, W 0 m (upd H1 Dl (.lst []))) ∧ ∀ i m H, W i m H →
      (J.stop i H ∧ Qd H) ∨ (J.go i H ∧ ∃ Nx : Hp → Prop, (∀ H', Nx H' → ∃ m', m' < m ∧ W (i + 1) m' H') ∧ ∀ x H', J.yld i H x H' → g x (wipe σ vs) H' fun σ2 H2 => wipe σ2 vs = wipe σ vs ∧ tt σ2 H2 fun b H3 =>
        if b = true then T2 Nx σ2 H3 else Nx H3) := by
  refine ⟨fun i m H => m = N - i ∧ i ≤ N ∧ Pv i H, ⟨N, by simp, Nat.zero_le _, h0⟩, ?_⟩
  rintro i m H ⟨rfl, hi, q⟩
  have hg := hG i H hi q
  by_cases hlt : i < N
  · exact .inr ⟨w.goes i H hlt hg, Pv (i + 1), fun H' p' => ⟨N - (i + 1), by omega, rfl, hlt, p'⟩, fun x H' y => hs i x H H' hlt q (w.yields i H x H' hlt hg y)⟩
  · have e : i = N := by omega
    subst e
    exact .inl ⟨w.stops H hg, hd H q⟩
end
end Px
set_option maxRecDepth 100000
set_option maxHeartbeats 4000000
/-! PX6: [.. for .. in .. for .. in ..] by the evaluator's function. -/
namespace Px
open PySem PySem.Spec PyProof.Rows L2 RZ
section
variable {p : Pk} {C : Cn} {k : Nat} {W : WX} {X : Cx} {n : Nat} {b : Bool} {m : Md} {G H : Hp} {dc : Dc}
abbrev lcN (C : Cn) (scope : Scope) : Cn := ⟨C.N, scope, C.Γ, C.g, false, C.lp⟩
/-- what stands while the second clause is walked -/
def PvI (p : Pk) (W : WX) (m : Md) (σ : St) (G1 H1 G3 : Hp) (ρi : En) (σi : St) (Dl : Addr) (Q : VK) (R : Nat → M (List D)) (R2 : M (List D)) (i : Nat) (H' : Hp) : Prop := ∃ G' dcx as vs', RS p ρi σi G' H' ∧ GS p dcx G' H' ∧ Grow p.da G1 H1 G' H' ∧ Sub G3 G' ∧ G' Dl = none ∧ H' Dl = some (.lst vs') ∧ DVs p.K p.da G' as vs' ∧
  Post p W (RV p m) σ G1 H1 ((R i >>= fun ys => R2 >>= fun zs => lift (mkL (as ++ (ys ++ zs)))) dcx) Q
theorem lc2_imp (x : XOk p C k W X) {elt tg it tg1 it1 : Expr} {ifs ifs1 : List Expr} {scope : Scope} {pos : Pos} (hb : blkB C.N C.sc scope = true) (hi : itOk tg it = true) (hi1 : itOk tg1 it1 = true) (hv1 : (tgIx n (lcN C scope) tg1).all (fun i => decide (i ∈ ownN C.N scope)) = true) :
    ∀ (σ : St) (H : Hp) (Q : VK), tE p W m (fun ρ => dE (n + 1) b C (.ListComp elt [⟨tg, it, ifs, 0⟩, ⟨tg1, it1, ifs1, 0⟩] scope pos) ρ) σ H Q →
    tLc2 (tM p W (IOk p true) fun ρ => dI n true C it ρ) (gT p (tgN n (lcN C scope) tg) (ownN C.N scope)) (tB p W0 fun ρ => dTs n (lcN C scope) ifs ρ) (tM p W0 (IOk p false) fun ρ => dI n false (lcN C scope) it1 ρ) (gT p (tgN n (lcN C scope) tg1) (tgIx n (lcN C scope) tg1)) (tB p W0 fun ρ => dTs n (lcN C scope) ifs1 ρ) (tE p W0 .va fun ρ => dE n false (lcN C scope) elt ρ) (ownN C.N scope) (tgIx n (lcN C scope) tg1) σ H Q := fun σ H Q ⟨ρ, G, dc, gs, rs, post⟩ => by
  generalize hLC : (fun (l : List D) => lc2M (tgN n (lcN C scope) tg) (fun ρ => noE (dTs n (lcN C scope) ifs ρ)) (fun ρ => noE (dI n false (lcN C scope) it1 ρ)) (tgIx n (lcN C scope) tg1) (tgN n (lcN C scope) tg1) (fun ρ => noE (dTs n (lcN C scope) ifs1 ρ)) (fun ρ => noE (dE n false (lcN C scope) elt ρ)) (wipeE ρ (ownN C.N scope)) l) = LC
  have nerLC : ∀ l dc c dc', LC l dc ≠ .er c dc' := fun l dc c dc' => by rw [← hLC]; exact lc2M_ner _ _ _ _
  have consLC : ∀ y l, LC (y :: l) = (lift (tgN n (lcN C scope) tg y (wipeE ρ (ownN C.N scope))) >>= fun ρ' => noE (dTs n (lcN C scope) ifs ρ') >>= fun b => if b then (noE (dI n false (lcN C scope) it1 ρ') >>= fun items => lcM (tgN n (lcN C scope) tg1) (fun ρ => noE (dTs n (lcN C scope) ifs1 ρ)) (fun ρ => noE (dE n false (lcN C scope) elt ρ)) (wipeE ρ' (tgIx n (lcN C scope) tg1)) items >>= fun ys => LC l >>= fun zs => pure (ys ++ zs)) else LC l) := fun y l => by rw [← hLC]; rfl
  have nilLC : LC [] = pure [] := by rw [← hLC]; rfl
  replace post : Post p W (RV p m) σ G H ((dI n true C it ρ >>= fun items => LC items >>= fun ys => lift (mkL ys)) dc) Q := by
    have e : dE (n + 1) b C (.ListComp elt [⟨tg, it, ifs, 0⟩, ⟨tg1, it1, ifs1, 0⟩] scope pos) ρ = (dI n true C it ρ >>= fun items => LC items >>= fun ys => lift (mkL ys)) := by
      rw [← hLC]
      show (if (0 : Int) = 0 ∧ (0 : Int) = 0 ∧ blkB C.N C.sc scope = true ∧ itOk tg it = true ∧ itOk tg1 it1 = true ∧ (tgIx n (lcN C scope) tg1).all (fun i => decide (i ∈ ownN C.N scope)) = true then _ else M.st) = _
      rw [if_pos ⟨rfl, rfl, hb, hi, hi1, hv1⟩]
    rw [← e]; exact post
  refine ⟨ρ, G, dc, gs, rs, Post.seq post fun items dc1 J G1 H1 _ gs1 g1 iok post1 => fun Dl hD => ?_⟩
  obtain ⟨Gd, Y, w, hGd, hY⟩ := iok
  have rs1 := (rs.grow gs g1)
  have nd := gs1.ndice hD
  refine lc2_it0 w (PvL p W m σ G1 H1 Dl Q fun i => LC (items.drop i)) ?_ (fun i H' _ ⟨G', dcx, as, vs', s', g', _⟩ => hGd G' H' dcx s' (Cond.of g')) ?_ ?_
  · exact ⟨G1, dc1, [], [], gs1.newH hD, Grow.newH p.da hD, gs1.gnone hD, upd_same, rfl, post1⟩
  · rintro i xv H' H'' hi' ⟨G', dcx, as, vs', s', g', gn, hl, dv, post'⟩ hy
    dsimp only at post'
    have hd := List.getElem?_eq_getElem hi'
    obtain ⟨G2, s2, g2, dv2⟩ := hY i G' H' dcx xv H'' _ hi' s' (Cond.of g') hy hd
    rw [List.drop_eq_getElem_cons hi', consLC, bind_assocM] at post'
    obtain ⟨ρ', e, post'⟩ := Post.liftB post'
    rw [bind_assocM] at post'
    have gg := g'.trans g2
    have gn2 : G2 Dl = none := g2.nw Dl _ gn hl rfl nd
    have hl2 : H'' Dl = some (.lst vs') := g2.ext.1 Dl _ hl nd (fun ps z => by cases z)
    refine ⟨wipeE ρ (ownN C.N scope), G2, dcx, _, ρ', s2, ((rs1.grow gs1 gg).wipe _), dv2, e, fun σ2 rs2 k2 l2 => ⟨wipe_same k2 l2, ?_⟩⟩
    refine ⟨ρ', G2, dcx, s2, rs2, Post.seqN post' fun c dc3 c' G3 H3 s3 g3 r3 post' => ?_⟩
    cases (show c' = c from r3)
    have gn3 : G3 Dl = none := g3.nw Dl _ gn2 hl2 rfl nd
    have hl3 : H3 Dl = some (.lst vs') := g3.ext.1 Dl _ hl2 nd (fun ps z => by cases z)
    cases c with
    | false => exact ⟨G3, dc3, as, vs', s3, gg.trans g3, gn3, hl3, DVs.mono (g2.trans g3).sub _ _ dv, post'⟩
    | true =>
      simp only [if_true] at post' ⊢
      rw [bind_assocM] at post'
      refine ⟨ρ', G3, dc3, s3, rs2.grow s2 g3, Post.seqN post' fun items1 dc4 J1 G4 H4 s4 g4 iok1 post' => ?_⟩
      rw [bind_assocM] at post'
      obtain ⟨Gd1, Y1, w1, hGd1, hY1⟩ := iok1
      have gn4 : G4 Dl = none := g4.nw Dl _ gn3 hl3 rfl nd
      have hl4 : H4 Dl = some (.lst vs') := g4.ext.1 Dl _ hl3 nd (fun ps z => by cases z)
      have rs4 := (rs2.grow s2 g3).grow s3 g4
      have g14 := (gg.trans g3).trans g4
      have hne : ∀ (i : Nat) (x : Px.D) (v : V), (wipeE ρ' (tgIx n (lcN C scope) tg1))[i]? = some (.ow x) → (wipe σ2 (tgIx n (lcN C scope) tg1))[i]? = some (some v) → v ≠ .ref Dl := fun i x v h1 h2 hz => by
        rcases wipe_in h1 with z | ⟨n1, h1⟩
        · cases z
        rw [wipe_out n1] at h2
        have h3 := tgN_ow n _ _ _ _ _ _ e h1
        rcases wipe_in h3 with z | ⟨n2, h3⟩
        · cases z
        rw [k2 i n2, wipe_out n2] at h2
        obtain ⟨a, ha, ow⟩ := rs1.ow i x h3
        rw [ha] at h2
        cases h2
        cases hz
        obtain ⟨o, ho, _⟩ := ow.ow.no_tbl
        rw [hD] at ho
        cases ho
      refine lc_it2 w1 (PvI p W m σ G1 H1 G4 (wipeE ρ' (tgIx n (lcN C scope) tg1)) (wipe σ2 (tgIx n (lcN C scope) tg1)) Dl Q (fun j => lcM (tgN n (lcN C scope) tg1) (fun ρ => noE (dTs n (lcN C scope) ifs1 ρ)) (fun ρ => noE (dE n false (lcN C scope) elt ρ)) (wipeE ρ' (tgIx n (lcN C scope) tg1)) (items1.drop j)) (LC (items.drop (i + 1)))) ?_ (fun j H' _ ⟨G', dcx, as, vs', _, s', g', sb, _⟩ => hGd1 G' H' dcx s' sb) ?_ ?_
      · refine ⟨G4, dc4, as, vs', rs4.wipe _, s4, g14, .refl _, gn4, hl4, DVs.mono ((g2.trans g3).trans g4).sub _ _ dv, ?_⟩
        have e : (fun ys : List D => (LC (items.drop (i + 1)) >>= fun zs => (pure (ys ++ zs) : M (List D))) >>= fun ys => lift (mkL (as ++ ys))) = fun ys => LC (items.drop (i + 1)) >>= fun zs => lift (mkL (as ++ (ys ++ zs))) := by
          funext ys
          rw [bind_assocM]
          rfl
        rw [e] at post'
        exact post'
      · rintro j xv1 H5 H6 hj ⟨G5, dc5, as5, vs5, rs5, s5, g15, sb5, gn5, hl5, dv5, post5⟩ hy1
        dsimp only at post5
        have hd1 := List.getElem?_eq_getElem hj
        obtain ⟨G6, s6, g6, dv6⟩ := hY1 j G5 H5 dc5 xv1 H6 _ hj s5 sb5 hy1 hd1
        rw [List.drop_eq_getElem_cons hj] at post5
        unfold lcM at post5
        rw [bind_assocM] at post5
        obtain ⟨ρ6, e6, post5⟩ := Post.liftB post5
        rw [bind_assocM] at post5
        have gn6 : G6 Dl = none := g6.nw Dl _ gn5 hl5 rfl nd
        have hl6 : H6 Dl = some (.lst vs5) := g6.ext.1 Dl _ hl5 nd (fun ps z => by cases z)
        have rs6 : RS p (wipeE ρ' (tgIx n (lcN C scope) tg1)) (wipe σ2 (tgIx n (lcN C scope) tg1)) G6 H6 := rs5.grow s5 g6
        refine ⟨_, G6, dc5, _, ρ6, s6, rs6, dv6, e6, fun σ3 rs3 k3 l3 => ⟨wipe_same k3 l3, ?_⟩⟩
        refine ⟨ρ6, G6, dc5, s6, rs3, Post.seqN post5 fun c dc7 c' G7 H7 s7 g7 r7 post5 => ?_⟩
        cases (show c' = c from r7)
        have gn7 : G7 Dl = none := g7.nw Dl _ gn6 hl6 rfl nd
        have hl7 : H7 Dl = some (.lst vs5) := g7.ext.1 Dl _ hl6 nd (fun ps z => by cases z)
        cases c with
        | false => exact ⟨G7, dc7, as5, vs5, rs6.grow s6 g7, s7, (g15.trans g6).trans g7, sb5.trans (g6.trans g7).sub, gn7, hl7, DVs.mono (g6.trans g7).sub _ _ dv5, post5⟩
        | true =>
          simp only [if_true] at post5 ⊢
          rw [bind_assocM] at post5
          refine ⟨ρ6, G7, dc7, s7, rs3.grow s6 g7, Post.seqN post5 fun d dc8 y G8 H8 s8 g8 r8 post5 => ?_⟩
          rw [bind_assocM] at post5
          have gn8 : G8 Dl = none := g8.nw Dl _ gn7 hl7 rfl nd
          have hl8 : H8 Dl = some (.lst vs5) := g8.ext.1 Dl _ hl7 nd (fun ps z => by cases z)
          have post2 : Post p W (RV p m) σ G1 H1 ((lcM (tgN n (lcN C scope) tg1) (fun ρ => noE (dTs n (lcN C scope) ifs1 ρ)) (fun ρ => noE (dE n false (lcN C scope) elt ρ)) (wipeE ρ' (tgIx n (lcN C scope) tg1)) (items1.drop (j + 1)) >>= fun ys => LC (items.drop (i + 1)) >>= fun zs => lift (mkL ((as5 ++ [d]) ++ (ys ++ zs)))) dc8) Q := by
            have e : (fun ys : List D => LC (items.drop (i + 1)) >>= fun zs => lift (mkL ((as5 ++ [d]) ++ (ys ++ zs)))) = fun ys => LC (items.drop (i + 1)) >>= fun zs => lift (mkL (as5 ++ (d :: ys ++ zs))) := by
              funext ys
              congr 1
              funext zs
              rw [List.append_assoc]
              rfl
            rw [e]
            exact post5
          have hf := fits2 (fun _ _ _ => lcM_ner _ _ _ _) (nerLC _) post2
          rw [List.length_append] at hf
          have hlen := dv5.length
          have g18 := ((g15.trans g6).trans g7).trans g8
          refine ⟨vs5, hl8, by rw [hlen, ← szL_eq]; simp at hf; omega, G8, dc8, as5 ++ [d], vs5 ++ [y], ((rs6.grow s6 g7).grow s7 g8).updD hl8 (rs1.hz Dl hD).1 hne, s8.setO gn8 nd hl8 rfl, g18.setO hD, sb5.trans ((g6.trans g7).trans g8).sub, gn8, upd_same, (DVs.mono ((g6.trans g7).trans g8).sub _ _ dv5).snoc r8, post2⟩
      · rintro H5 ⟨G5, dc5, as5, vs5, rs5, s5, g15, sb5, gn5, hl5, dv5, post5⟩
        dsimp only at post5
        rw [List.drop_length] at post5
        exact ⟨G5, dc5, as5, vs5, s5, g15, gn5, hl5, dv5, post5⟩
  · rintro H' ⟨G', dcx, as, vs', s', g', gn, hl, dv, post'⟩
    dsimp only at post'
    rw [List.drop_length, nilLC] at post'
    obtain ⟨d, e, fin⟩ := Post.lift (show Post p W (RV p m) σ G1 H1 ((lift (mkL (as ++ [])) : M D) dcx) Q from post')
    rw [List.append_nil] at e
    unfold mkL at e
    split at e
    · cases e
      exact fin_lst s' g' hD (rs1.hz Dl hD) gn hl nd dv fin
    · cases e
theorem e_lc2 (h2 : IH2 n) (x : XOk p C k W X) {elt tg it tg1 it1 : Expr} {ifs ifs1 : List Expr} {a a1 : Int} {scope : Scope} {pos : Pos} : PE X (.ListComp elt [⟨tg, it, ifs, a⟩, ⟨tg1, it1, ifs1, a1⟩] scope pos) (tE p W m fun ρ => dE (n + 1) b C (.ListComp elt [⟨tg, it, ifs, a⟩, ⟨tg1, it1, ifs1, a1⟩] scope pos) ρ) := by
  by_cases hc : a = 0 ∧ a1 = 0 ∧ blkB C.N C.sc scope = true ∧ itOk tg it = true ∧ itOk tg1 it1 = true ∧ (tgIx n (lcN C scope) tg1).all (fun i => decide (i ∈ ownN C.N scope)) = true
  · obtain ⟨rfl, rfl, hb, hi, hi1, hv1⟩ := hc
    have hv : ∀ y, stoN (lcN C scope) y = true → ixOf C.N y ∈ ownN C.N scope := own_all hb
    have hv1' : ∀ i ∈ tgIx n (lcN C scope) tg1, i ∈ (ownL C.N scope).map (·.2) := fun i hi => by
      have := List.all_eq_true.mp hv1 i hi
      exact of_decide_eq_true this
    exact PE.imp (pe_lc2 (own := ownL C.N scope) (vs1 := tgIx n (lcN C scope) tg1) x.calm (by rw [x.N]; exact x.nd) (h2.I x true tg it hi) (blk_ok x hb) hv1'
      (fun s H Ca cl fp => pg_T (x.blk s H Ca cl fp) _ hv n tg) (fun s H Ca cl fp => h2.ih.Ts (x.blk s H Ca cl fp) ifs) (fun s H Ca cl fp => h2.I (x.blk s H Ca cl fp) false tg1 it1 hi1)
      (fun s H Ca cl fp => pg_ixs (x.blk s H Ca cl fp) n tg1) (fun s H Ca cl fp => h2.ih.Ts (x.blk s H Ca cl fp) ifs1) (fun s H Ca cl fp => h2.ih.E (x.blk s H Ca cl fp) false .va elt rfl) (fold_of (itOk_set hi)) (fun env => fold_of (itOk_set hi1))) (lc2_imp x hb hi hi1 hv1)
  · refine pe_no (tM_no fun ρ => ?_)
    show (if a = 0 ∧ a1 = 0 ∧ blkB C.N C.sc scope = true ∧ itOk tg it = true ∧ itOk tg1 it1 = true ∧ (tgIx n (lcN C scope) tg1).all (fun i => decide (i ∈ ownN C.N scope)) = true then _ else M.st) = M.st
    rw [if_neg hc]
end
end Px
set_option maxRecDepth 100000
set_option maxHeartbeats 4000000
/-! PS14: all expressions. -/
namespace Px
open PySem PySem.Spec PyProof.Rows L2 RZ
section
variable {p : Pk} {C : Cn} {k : Nat} {W : WX} {X : Cx} {n : Nat} {b : Bool} {m : Md} {G H : Hp} {dc : Dc}
/-! ### all expressions -/
theorem genArg_of {args : List Expr} {g : GA} (h : genArg args = some g) : args = [gnE g] := by
  unfold genArg at h
  split at h
  · split at h
    · rename_i e
      subst e
      cases h
      rfl
    · cases h
  · cases h
theorem told_ne (x : XOk p C k W X) {f : Str} {q : (Str → Bool) × Str} {args : List Expr} {p1 pos : Pos} (h : C.Γ.told.lookup f = some q) : fresh (.Call (.Name f p1) args [] pos) = false := by
  have key : ∀ g ∈ bltT ++ bltF, f ≠ g := fun g hg z => by
    have := (x.gm.bl g hg).2.2.2
    rw [← z, h] at this
    cases this
  simp [fresh, key "list" (by decide), key "sorted" (by decide), key "dict" (by decide)]
theorem e_callN (h2' : IH2 n) (h : IH n) (hdict : CallR X (.type "dict") (rB p m dictB)) (x : XOk p C k W X) {f : Str} {args : List Expr} {p1 pos : Pos} (hm : mdOk m b (.Call (.Name f p1) args [] pos) = true) :
    PE X (.Call (.Name f p1) args [] pos) (tE p W m fun ρ => dE (n + 1) b C (.Call (.Name f p1) args [] pos) ρ) := by
  by_cases hc : (gloK C.sc f && noStar args) = true
  · have hcc := hc
    rw [Bool.and_eq_true] at hcc
    obtain ⟨hg, hs⟩ := hcc
    have unf : ∀ ρ, dE (n + 1) b C (.Call (.Name f p1) args [] pos) ρ = (match C.Γ.told.lookup f with
        | some q => (match lamsE C.lp args with
          | some [l] => if 3 ≤ C.g ∧ LamX.lamSB C.sc l.2 = true then toldM q.1 q.2 (dE n false (lamN C l.2) l.1 ρ) else M.st
          | _ => M.st)
        | none => (match C.Γ.fn.lookup f with
          | some F => (seqM (args.map fun e => dE n false C e ρ) >>= fun ds => F ds)
          | none => (match C.Γ.mks.lookup f with
            | some F => (seqM (args.map fun e => dE n false C e ρ) >>= fun ds => F ds)
            | none => (match genArg args with
              | some g => if gnB C g && isGn f then (dI n true C g.it ρ >>= fun items => genM f (tgN n (gnN C g) g.tg) (fun ρ => noE (dTs n (gnN C g) g.ifs ρ)) (fun ρ => noE (dE n false (gnN C g) g.elt ρ)) (wipeE ρ (ownN C.N g.scope)) items) else M.st
              | none => if isBi f && !args.isEmpty then (seqM (args.map fun e => dE n true C e ρ) >>= fun ds => lift (biD f ds)) else M.st)))) := fun ρ => by
      show (if (gloK C.sc f && noStar args) = true then _ else M.st) = _
      rw [if_pos hc] <;> rfl
    have eqf : (fun ρ => dE (n + 1) b C (.Call (.Name f p1) args [] pos) ρ) = _ := funext unf
    rw [eqf]
    cases h1 : C.Γ.told.lookup f with
    | some q =>
      dsimp only
      split
      · rename_i l hl
        by_cases hd2 : 3 ≤ C.g ∧ LamX.lamSB C.sc l.2 = true
        · obtain ⟨lpos, rfl, hlp⟩ := lamsE_one hl
          have e : (fun ρ => (if 3 ≤ C.g ∧ LamX.lamSB C.sc l.2 = true then toldM q.1 q.2 (dE n false (lamN C l.2) l.1 ρ) else M.st : M D)) = fun ρ => toldM q.1 q.2 (dE n false (lamN C l.2) l.1 ρ) := funext fun ρ => if_pos hd2
          refine (congrArg (fun t => PE X (.Call (.Name f p1) [.Lambda noArgs l.1 l.2 lpos] [] pos) (tE p W m t)) e).mpr ?_
          exact e_told h x hg h1 hlp hd2.1 hd2.2 (mkd hm (told_ne x h1)) ⟨(LamX.lamS_by hd2.2).kind, (LamX.lamS_by hd2.2).co, (LamX.lamS_by hd2.2).gen, (LamX.lamS_by hd2.2).own, fun y hy e => x.fre _ ((LamX.lamS_by hd2.2).free y hy e)⟩
        · exact pe_no (tM_no fun ρ => if_neg hd2)
      · exact pe_st
    | none =>
      cases h2 : C.Γ.fn.lookup f with
      | some F =>
        refine e_callF h x hg h2 hs ?_
        cases m with
        | va => exact .inl rfl
        | bo => exact .inr rfl
        | fr =>
          exfalso
          cases b with
          | true => cases hm
          | false =>
            have hm : (f = "list" || f = "sorted" || f = "dict") = true := by simpa [mdOk, fresh] using hm
            simp only [Bool.or_eq_true, decide_eq_true_eq] at hm
            rcases hm with (rfl | rfl) | rfl
            · rw [(x.gm.bl "list" (by decide)).2.1] at h2; cases h2
            · rw [(x.gm.bl "sorted" (by decide)).2.1] at h2; cases h2
            · rw [(x.gm.bl "dict" (by decide)).2.1] at h2; cases h2
      | none =>
        cases h3 : C.Γ.mks.lookup f with
        | some F =>
          refine e_make h x hg h3 hs ?_
          cases m with
          | va => exact .inl rfl
          | bo => exact .inr rfl
          | fr =>
            exfalso
            cases b with
            | true => cases hm
            | false =>
              have hm : (f = "list" || f = "sorted" || f = "dict") = true := by simpa [mdOk, fresh] using hm
              simp only [Bool.or_eq_true, decide_eq_true_eq] at hm
              rcases hm with (rfl | rfl) | rfl
              · rw [(x.gm.bl "list" (by decide)).2.2.1] at h3; cases h3
              · rw [(x.gm.bl "sorted" (by decide)).2.2.1] at h3; cases h3
              · rw [(x.gm.bl "dict" (by decide)).2.2.1] at h3; cases h3
        | none =>
          cases h4 : genArg args with
          | some g =>
            by_cases hB : (gnB C g && isGn f) = true
            · have hB2 := hB
              rw [Bool.and_eq_true] at hB2
              have ea := genArg_of h4
              have ef : (fun ρ => (if (gnB C g && isGn f) = true then (dI n true C g.it ρ >>= fun items => genM f (tgN n (gnN C g) g.tg) (fun ρ => noE (dTs n (gnN C g) g.ifs ρ)) (fun ρ => noE (dE n false (gnN C g) g.elt ρ)) (wipeE ρ (ownN C.N g.scope)) items) else M.st : M D)) = fun ρ => (dI n true C g.it ρ >>= fun items => genM f (tgN n (gnN C g) g.tg) (fun ρ => noE (dTs n (gnN C g) g.ifs ρ)) (fun ρ => noE (dE n false (gnN C g) g.elt ρ)) (wipeE ρ (ownN C.N g.scope)) items) := by
                funext ρ
                rw [if_pos hB]
              refine (congrArg (fun t => PE X (.Call (.Name f p1) args [] pos) (tE p W m t)) ef).mpr ?_
              rw [ea]
              refine e_gen h2' x hg hB2.1 hB2.2 (mkd hm ?_)
              have hf := hB2.2
              by_cases z1 : f = "list"
              · subst z1; cases hf
              by_cases z2 : f = "sorted"
              · subst z2; cases hf
              by_cases z3 : f = "dict"
              · subst z3; cases hf
              simp [fresh, z1, z2, z3]
            · refine pe_no (tM_no fun ρ => ?_)
              show (if (gnB C g && isGn f) = true then _ else M.st) = M.st
              rw [if_neg hB]
          | none =>
          cases args with
          | nil =>
            refine pe_no (tM_no fun ρ => ?_)
            show (if (isBi f && !([] : List Expr).isEmpty) = true then _ else M.st) = M.st
            rw [if_neg (by simp)]
          | cons e es =>
            by_cases hi : isBi f = true
            · have : (fun ρ => (if (isBi f && !(e :: es).isEmpty) = true then (seqM ((e :: es).map fun e => dE n true C e ρ) >>= fun ds => lift (biD f ds)) else M.st : M D)) = fun ρ => (seqM ((e :: es).map fun e => dE n true C e ρ) >>= fun ds => lift (biD f ds)) := by
                funext ρ
                rw [if_pos (by rw [hi]; rfl)]
              exact (congrArg (fun t => PE X (.Call (.Name f p1) (e :: es) [] pos) (tE p W m t)) this).mpr (e_blt hdict h x hg hi hs hm)
            · refine pe_no (tM_no fun ρ => ?_)
              show (if (isBi f && !(e :: es).isEmpty) = true then _ else M.st) = M.st
              rw [if_neg (by simp [hi])]
  · refine pe_no (tM_no fun ρ => ?_)
    show (if (gloK C.sc f && noStar args) = true then _ else M.st) = M.st
    rw [if_neg hc]
theorem e_subs (h : IH n) (x : XOk p C k W X) {o i : Expr} {pos : Pos} (hm : mdOk m b (.Subscript o i pos) = true) : PE X (.Subscript o i pos) (tE p W m fun ρ => dE (n + 1) b C (.Subscript o i pos) ρ) := by
  cases i with
  | Slice lo hi st q =>
    cases st with
    | none => exact e_sl h x
    | some se =>
      cases hi with
      | none => exact e_step h x
      | some _ => exact pe_st
  | _ => exact e_ix h x (fun _ _ _ _ z => by cases z) hm rfl
theorem e_cmpA (h : IH n) (x : XOk p C k W X) {l : Expr} {ops : List CmpOp} {rs : List Expr} {pos : Pos} : PE X (.Compare l ops rs pos) (tE p W m fun ρ => dE (n + 1) b C (.Compare l ops rs pos) ρ) := by
  match ops, rs with
  | [op], [r] => exact e_cmp1 h x
  | [op, op'], [r, r'] => exact e_cmp2 h x
  | [], _ => exact pe_st
  | [_], [] => exact pe_st
  | [_], _ :: _ :: _ => exact pe_st
  | [_, _], [] => exact pe_st
  | [_, _], [_] => exact pe_st
  | [_, _], _ :: _ :: _ :: _ => exact pe_st
  | _ :: _ :: _ :: _, _ => exact pe_st
theorem e_all (hdict : ∀ {p : Pk} {m : Md} {X : Cx}, X.K = p.K → X.calm = true → CallR X (.type "dict") (rB p m dictB)) (h2 : IH2 n) (x : XOk p C k W X) (b : Bool) (m : Md) (e : Expr) (hm : mdOk m b e = true) : PE X e (tE p W m fun ρ => dE (n + 1) b C e ρ) := by
  have h := h2.ih
  cases e with
  | Constant c j pos => exact e_const
  | Name y pos => exact e_name x hm
  | BinOp l op r pos => exact e_bin h x
  | UnaryOp op l pos =>
    cases op with
    | USub => exact e_neg h x
    | Not => exact e_not h x
    | _ => exact pe_st
  | BoolOp op vs pos => exact e_bool h x vs
  | Compare l ops rs pos => exact e_cmpA h x
  | IfExp t a c pos => exact e_if h x hm
  | Tuple es j pos => exact e_tup h x
  | List es pos => exact e_lst h x
  | Dict ks vs pos =>
    cases ks with
    | nil =>
      cases vs with
      | nil => exact e_dic0
      | cons _ _ => exact pe_st
    | cons k0 ks => exact e_disp h x
  | DictComp ke ve gens scope pos =>
    match gens with
    | [] => exact pe_st
    | [⟨tg, it, ifs, a⟩] => exact e_dc h2 x
    | ⟨_, _, _, _⟩ :: _ :: _ => exact pe_st
  | Attribute o f pos =>
    by_cases hs : notSup o = true
    · exact e_fld h x hs hm
    · refine pe_no (tM_no fun ρ => ?_)
      show (if notSup o = true then _ else M.st) = M.st
      rw [if_neg hs]
  | Subscript o i pos => exact e_subs h x hm
  | ListComp elt gens scope pos =>
    match gens with
    | [] => exact pe_st
    | [⟨tg, it, ifs, a⟩] =>
      cases ht : toldS C tg it ifs with
      | some t => exact e_toldL h x ht
      | none => exact e_lc h2 x ht
    | [⟨tg, it, ifs, a⟩, ⟨tg1, it1, ifs1, a1⟩] => exact e_lc2 h2 x
    | ⟨_, _, _, _⟩ :: ⟨_, _, _, _⟩ :: _ :: _ => exact pe_st
  | Call func args kws pos =>
    cases kws with
    | cons _ _ => cases func <;> exact pe_st
    | nil =>
      cases func with
      | Name f p1 => exact e_callN h2 h (hdict x.K x.calm) x hm
      | Attribute o mm apos => exact e_meth h x hm
      | _ => exact pe_st
  | _ => exact pe_st
theorem t_all (h : IH n) (x : XOk p C k W X) (e : Expr) : PT X e (tB p W fun ρ => dT (n + 1) C e ρ) := by
  cases e with
  | UnaryOp op l pos =>
    cases op with
    | Not => exact t_not h x
    | _ => exact t_val h x (fun _ => rfl) rfl
  | BoolOp op vs pos => exact (t_bool h x vs).pt
  | IfExp _ _ _ _ => exact pt_no (tM_no fun ρ => rfl)
  | Compare l ops rs pos =>
    match ops, rs with
    | [op], [r] => exact t_cmp1 h x
    | [op, op'], [r, r'] => exact t_cmp2 h x
    | [], _ => exact pt_no (tM_no fun ρ => rfl)
    | [_], [] => exact pt_no (tM_no fun ρ => rfl)
    | [_], _ :: _ :: _ => exact pt_no (tM_no fun ρ => rfl)
    | [_, _], [] => exact pt_no (tM_no fun ρ => rfl)
    | [_, _], [_] => exact pt_no (tM_no fun ρ => rfl)
    | [_, _], _ :: _ :: _ :: _ => exact pt_no (tM_no fun ρ => rfl)
    | _ :: _ :: _ :: _, _ => exact pt_no (tM_no fun ρ => rfl)
  | _ => exact t_val h x (fun _ => rfl) rfl
end
end Px
set_option maxRecDepth 100000
set_option maxHeartbeats 4000000
/-! PS15: dict of pairs; the induction over expressions. -/
namespace Px
open PySem PySem.Spec PyProof.Rows L2 RZ
theorem cr_lk {X : Cx} {f : Value} {r : List V → Hp → VK → Prop} (h : CallR X f r) : CallR X f (fun xs H Q => r xs H fun v H1 => LkP (fun H2 => Q v H2) H1) := by
  intro pins s σ H xs us Q I rs hw
  refine thn (h pins s σ H xs us _ I rs hw) fun u s1 ⟨v, H1, I1, r, q⟩ => ?_
  obtain ⟨H2, I2, q⟩ := inv_lk q I1
  exact ⟨v, H2, I2, r, q⟩
section
variable {p : Pk} {C : Cn} {k : Nat} {W : WX} {X : Cx} {n : Nat} {b : Bool} {m : Md} {G H : Hp} {dc : Dc}
theorem pairs_dv (gs : GS p dc G H) : ∀ {l : List D} {ps : List (D × D)} {vs : List V}, pairsD l = some ps → (ps.all fun q => flatD q.1) = true → DVs p.K p.da G l vs →
    ∃ (as : List Addr) (kvs : List (Key × V)), vs = as.map V.ref ∧ Paired (fun a kv => H a = some (.tup [kV kv.1, kv.2])) as kvs ∧ Paired (fun (q : D × D) (kv : Key × V) => keyF q.1 = some kv.1 ∧ DV p.K p.da G q.2 kv.2) ps kvs
  | [], _, _, h, _, h' => by
    cases h; cases h'
    exact ⟨[], [], rfl, .nil, .nil⟩
  | d :: l, ps, vs, h, hf, ⟨v, r, e, h1, h2⟩ => by
    subst e
    unfold pairsD at h
    split at h
    · rename_i hq
      cases hq
    · rename_i kd vd l' heq
      cases heq
      obtain ⟨ps', e1, rfl⟩ := Option.map_eq_some_iff.mp h
      rw [List.all_cons, Bool.and_eq_true] at hf
      obtain ⟨as, kvs, e2, p1, p2⟩ := pairs_dv gs e1 hf.2 h2
      obtain ⟨a, us, rfl, ga, du⟩ := h1
      obtain ⟨k1, r1, rfl, dk, du⟩ := du
      obtain ⟨v1, r2, rfl, dv, du⟩ := du
      cases du
      obtain ⟨kk, ek, rfl⟩ := keyF_kV dk hf.1
      exact ⟨a :: as, (kk, v1) :: kvs, by rw [e2]; rfl, .cons (gs.sub _ _ ga) p1, .cons ⟨ek, dv⟩ p2⟩
    · cases h
theorem merge_dv : ∀ {ps : List (D × D)} {kvs : List (Key × V)} {acc acc' : List (D × D)} {ws : List (Key × V)}, Paired (fun (q : D × D) (kv : Key × V) => keyF q.1 = some kv.1 ∧ DV p.K p.da G q.2 kv.2) ps kvs → mergeD acc ps = some acc' → DVg (K := p.K) (da := p.da) (G := G) keyF acc ws → DVg (K := p.K) (da := p.da) (G := G) keyF acc' (mergeK ws kvs)
  | _, _, _, _, _, .nil, h, h' => by
    cases h
    exact h'
  | _, _, acc, acc', ws, .cons (a := q) (b := kv) h t, e, h' => by
    obtain ⟨kd, vd⟩ := q
    have e : (putD kd vd acc).bind (fun kvs' => mergeD kvs' _) = some acc' := e
    obtain ⟨acc1, e1, e2⟩ := Option.bind_eq_some_iff.mp e
    unfold putD at e1
    split at e1
    · cases e1
      have := merge_dv (ws := L2.putK ws kv.1 kv.2) t e2 (DVg.put hkF h.1 h.2 h')
      exact this
    · cases e1
theorem dict_D (hK : X.K = p.K) (hc : X.calm = true) : CallR X (.type "dict") (rB p m dictB) := by
  intro pins s σ H vs us Q I r h
  obtain ⟨dc, G, ds, d, gs, hz, v1, e, fin⟩ := h
  unfold dictB at e
  split at e
  · rename_i l
    obtain ⟨ps, e1, e⟩ := Option.bind_eq_some_iff.mp e
    split at e
    · rename_i hf
      rw [Bool.and_eq_true, decide_eq_true_eq] at hf
      obtain ⟨acc', e2, rfl⟩ := Option.map_eq_some_iff.mp e
      obtain ⟨v, rfl, rv⟩ := v1.one
      obtain ⟨a, ws, rfl, ha, dv⟩ := rv.lst gs
      obtain ⟨as, kvs, rfl, p1, p2⟩ := pairs_dv gs e1 hf.1 dv
      have md := merge_dv (acc := []) (ws := []) p2 e2 rfl
      refine cr_lk (call_dictP hc) pins s σ H _ us Q I r ⟨a, as, kvs, rfl, .inl (.inl ha), Paired.mapP p1 fun x y q => .inl (.inl q), fun q hq => ?_⟩
      exact fin_dic (kvs := acc') (gs.newH hq) (Grow.newH p.da hq) hq (hz q hq) (gs.gnone hq) upd_same (gs.ndice hq) trivial (.inl ⟨_, rfl, md.k⟩) fin
    · cases e
  · cases e
theorem ih_zero : IH2 0 := by
  refine ⟨⟨fun x b m e _ => pe_st, fun x e => ⟨fun pins s σ H Q I ⟨ρ, G, dc, gs, rs, post⟩ => (show False from post).elim⟩, fun x e => pt_no (tM_no fun ρ => rfl), fun x es => ⟨fun pins s σ H Q I ⟨ρ, G, dc, gs, rs, post⟩ => (show False from post).elim⟩⟩, fun x b tg e _ => pi_st fun ρ => rfl⟩
theorem ih_all : ∀ n, IH2 n
  | 0 => ih_zero
  | n + 1 => by
    have h2 := ih_all n
    exact ⟨⟨fun x b m e hm => e_all (fun hK hc => dict_D hK hc) h2 x b m e hm, fun x e => o_all h2.ih x e, fun x e => t_all h2.ih x e, fun x es => ts_all h2.ih x es⟩, fun x b tg e ht => i_all h2.ih x b tg e ht⟩
end
end Px
set_option maxRecDepth 100000
set_option maxHeartbeats 4000000
/-! PS16: what is let out of the slots; statements. -/
namespace Px
open PySem PySem.Spec PyProof.Rows L2 RZ
def GrowS (p : Pk) (G G' : Hp) : Prop := Sub G G' ∧ ∀ a o, G a = none → p.H0 a = some o → ownO o = true → p.da ≠ some a → G' a = none
theorem GrowS.refl (p : Pk) (G : Hp) : GrowS p G G := ⟨.refl G, fun _ _ h _ _ _ => h⟩
theorem GrowS.trans {p : Pk} {G G1 G2 : Hp} (a : GrowS p G G1) (b : GrowS p G1 G2) : GrowS p G G2 := ⟨a.1.trans b.1, fun x o h1 h2 h3 h4 => b.2 x o (a.2 x o h1 h2 h3 h4) h2 h3 h4⟩
theorem GrowS.of {p : Pk} {G H G' H' : Hp} (e : Ext p.da p.H0 H) (g : Grow p.da G H G' H') : GrowS p G G' := ⟨g.sub, fun a o h1 h2 h3 h4 => g.nw a o h1 (e.1 a o h2 h4 (ownO_tbl h3)) h3 h4⟩
section
variable {p : Pk} {C : Cn} {k : Nat} {W : WX} {X : Cx} {n : Nat} {b : Bool} {m : Md} {G H : Hp} {dc : Dc} {ρ : En} {σ : St}
/-- a slot's thing becomes a frozen one -/
theorem RS.freeze {G' H' : Hp} {i : Nat} {d : D} {a : Addr} (r : RS p ρ σ G H) (hi : ρ[i]? = some (.ow d)) (ha : σ[i]? = some (some (.ref a))) (sub : Sub G G') (ot : ∀ b e, b ≠ a → OWn p G H b e → OWn p G' H' b e) (dv : DV p.K p.da G' d (.ref a)) (ent : Ext p.da p.H0 H') (hb : ∀ a, H a ≠ none → H' a ≠ none) : RS p (ρ.set i (.va d)) σ G' H' := by
  have hl : i < ρ.length := (List.getElem?_eq_some_iff.mp hi).1
  refine ⟨by rw [List.length_set]; exact r.len, fun j e q => ?_, fun j e q => ?_, fun j e q => ?_, fun j l e f c q1 q2 q3 q4 => ?_, ent, fun a h => hb a (r.hb a h)⟩
  · rw [set_at hl] at q
    by_cases ej : j = i
    · rw [if_pos ej] at q
      cases q
      subst ej
      exact ⟨_, ha, dv⟩
    · rw [if_neg ej] at q
      obtain ⟨v, h1, h2⟩ := r.va j e q
      exact ⟨v, h1, DV.mono sub _ _ h2⟩
  · rw [set_at hl] at q
    by_cases ej : j = i
    · rw [if_pos ej] at q
      cases q
    · rw [if_neg ej] at q
      obtain ⟨v, h1, h2⟩ := r.la j e q
      exact ⟨v, h1, h2.mono sub⟩
  · rw [set_at hl] at q
    by_cases ej : j = i
    · rw [if_pos ej] at q
      cases q
    · rw [if_neg ej] at q
      obtain ⟨c, h1, h2⟩ := r.ow j e q
      exact ⟨c, h1, ot c e (fun z => by subst z; exact ej (r.dj j i e d c q hi h1 ha)) h2⟩
  · rw [set_at hl] at q1 q2
    by_cases ej : j = i
    · rw [if_pos ej] at q1
      cases q1
    · by_cases el : l = i
      · rw [if_pos el] at q2
        cases q2
      · rw [if_neg ej] at q1
        rw [if_neg el] at q2
        exact r.dj j l e f c q1 q2 q3 q4
/-- a list, an object is frozen where it stands -/
theorem OWn.other {G' : Hp} {b : Addr} {e : D} (w : OWn p G H b e) (sub : Sub G G') (h1 : G' b = none) (h2 : ∀ dx, H dx = some (.own b) → G dx = none → G' dx = none) : OWn p G' H b e := by
  refine ⟨?_, h1, w.nd, w.h0⟩
  have o := w.ow
  cases e with
  | lst ds =>
    obtain ⟨vs, e1, e2⟩ := o
    exact ⟨vs, e1, DVs.mono sub _ _ e2⟩
  | dic kvs =>
    rcases o with ⟨ws, e1, e2⟩ | ⟨ws, e1, e2⟩
    · exact .inl ⟨ws, e1, DVk.mono sub _ _ e2⟩
    · exact .inr ⟨ws, e1, DVt.mono sub _ _ e2⟩
  | obj c fs =>
    obtain ⟨dx, ws, e1, e2, e3, e4, e5⟩ := o
    exact ⟨dx, ws, e1, h2 dx e3 e2, e3, e4, DVf.mono sub _ _ e5⟩
  | _ => exact o.elim
theorem OWn.setH {a : Addr} {o o' : HO} {b : Addr} {e : D} (w : OWn p G H b e) (ha : H a = some o) (no : ∀ x, o ≠ .own x) (ne : b ≠ a) : OWn p G (upd H a o') b e := by
  refine ⟨?_, w.gn, w.nd, w.h0⟩
  have ow := w.ow
  cases e with
  | lst ds =>
    obtain ⟨vs, e1, e2⟩ := ow
    exact ⟨vs, by rw [upd_ne ne]; exact e1, e2⟩
  | dic kvs =>
    rcases ow with ⟨ws, e1, e2⟩ | ⟨ws, e1, e2⟩
    · exact .inl ⟨ws, by rw [upd_ne ne]; exact e1, e2⟩
    · exact .inr ⟨ws, by rw [upd_ne ne]; exact e1, e2⟩
  | obj c fs =>
    obtain ⟨dx, ws, e1, e2, e3, e4, e5⟩ := ow
    exact ⟨dx, ws, by rw [upd_ne ne]; exact e1, e2, by rw [upd_ne (fun z => by subst z; rw [ha] at e3; cases e3; exact no _ rfl)]; exact e3, e4, e5⟩
  | _ => exact ow.elim
theorem Ext.setO {da : Option Addr} {H0 H : Hp} {a : Addr} {o : HO} (e : Ext da H0 H) (hb : H0 a = none) : Ext da H0 (upd H a o) :=
  ⟨fun b u e1 h1 h2 => by rw [upd_ne (fun z => by subst z; rw [hb] at e1; cases e1)]; exact e.1 b u e1 h1 h2, fun b h => by rw [upd_ne (fun z => by subst z; exact h hb)]; exact e.2 b h⟩
theorem frz_cons {ρ : En} {i : Nat} {kd : Bool} {is : Es} : frz ρ ((i, kd) :: is) = (match ρ[i]?, kd with
    | some (.ow (.dic d)), _ => frz (ρ.set i (.va (.dic d))) is
    | some (.ow d), true => frz (ρ.set i (.va d)) is
    | _, _ => frz ρ is) := rfl
/-- all that is let out is frozen -/
theorem frz_ok : ∀ (is : Es) (ρ : En) (G H : Hp), GS p dc G H → RS p ρ σ G H → ∀ (k : Hp → Prop), (∀ G' H', GS p dc G' H' → GrowS p G G' → RS p (frz ρ is) σ G' H' → (∀ a, H a ≠ none → H' a ≠ none) → k H') → LkP k H
  | [], ρ, G, H, gs, rs, k, h => .done (h G H gs (.refl p G) rs fun _ h => h)
  | (i, kd) :: is, ρ, G, H, gs, rs, k, h => by
    have skip : frz ρ ((i, kd) :: is) = frz ρ is → LkP k H := fun e => frz_ok is ρ G H gs rs k (by rw [e] at h; exact h)
    have next : ∀ {d : D} {G1 H1 : Hp}, frz ρ ((i, kd) :: is) = frz (ρ.set i (.va d)) is → GS p dc G1 H1 → GrowS p G G1 → RS p (ρ.set i (.va d)) σ G1 H1 → (∀ a, H a ≠ none → H1 a ≠ none) → LkP k H1 := fun {d G1 H1} e gs1 g1 rs1 hb =>
      frz_ok is _ G1 H1 gs1 rs1 k fun G2 H2 gs2 g2 rs2 hb2 => h G2 H2 gs2 (g1.trans g2) (by rw [e]; exact rs2) fun a q => hb2 a (hb a q)
    cases hr : ρ[i]? with
    | none => exact skip (by rw [frz_cons, hr])
    | some sl =>
      cases sl with
      | no => exact skip (by cases kd <;> (rw [frz_cons, hr]))
      | va d => exact skip (by cases kd <;> (rw [frz_cons, hr]))
      | la d => exact skip (by cases kd <;> (rw [frz_cons, hr]))
      | ow d =>
        obtain ⟨a, ha, w⟩ := rs.ow i d hr
        have nw : ∀ (o : HO) (x : Addr), p.H0 x = none → GrowS p G (upd G x o) ∨ True := fun _ _ _ => .inr trivial
        cases d with
        | dic kvs =>
          have e : frz ρ ((i, kd) :: is) = frz (ρ.set i (.va (.dic kvs))) is := by cases kd <;> (rw [frz_cons, hr])
          obtain ⟨u, hu, ho, mu, dvu⟩ : ∃ u, H a = some u ∧ ownO u = true ∧ Mut (some u) ∧ ((∃ ws, u = .dK ws ∧ DVk p.K p.da G kvs ws) ∨ ∃ ws, u = .dT ws ∧ DVt p.K p.da G kvs ws) := by
            rcases w.ow with ⟨ws, e1, e2⟩ | ⟨ws, e1, e2⟩
            · exact ⟨_, e1, rfl, trivial, .inl ⟨ws, rfl, e2⟩⟩
            · exact ⟨_, e1, rfl, trivial, .inr ⟨ws, rfl, e2⟩⟩
          have no : ∀ x, u ≠ .own x := fun x z => by
            subst z
            rcases dvu with ⟨_, z, _⟩ | ⟨_, z, _⟩ <;> cases z
          refine .lock a u hu mu fun od => ?_
          obtain ⟨s', dv', sub⟩ := froze (p := p) (dc := dc) (d := .dic kvs) (Gb := G) (Hb := H) od gs (.refl _ _ _) (.inr ⟨w.gn, w.h0⟩) w.gn w.nd hu ho (fun G' sb e => by
            rcases dvu with ⟨ws, rfl, dv⟩ | ⟨ws, rfl, dv⟩
            · exact ⟨a, od, rfl, .inl ⟨ws, e, DVk.mono sb _ _ dv⟩⟩
            · exact ⟨a, od, rfl, .inr ⟨ws, e, DVt.mono sb _ _ dv⟩⟩)
          have hb : ∀ x, H x ≠ none → upd H a (.frz od u) x ≠ none := fun x q => by
            by_cases z : x = a
            · subst z; rw [upd_same]; simp
            · rw [upd_ne z]; exact q
          refine next e s' ⟨sub, fun x o h1 h2 h3 h4 => ?_⟩ (rs.freeze hr ha sub (fun b f ne wb => ?_) dv' (rs.ent.setO w.h0) hb) hb
          · rw [upd_ne (fun z => by subst z; rw [w.h0] at h2; cases h2)]; exact h1
          · have w1 := wb.setH (o' := .frz od u) hu no ne
            exact w1.other sub (by rw [upd_ne ne]; exact w1.gn) fun dx h1 h2 => by
              rw [upd_ne (fun z => by subst z; rw [upd_same] at h1; cases h1)]; exact h2
        | lst ds =>
          cases kd with
          | false => exact skip (by rw [frz_cons, hr])
          | true =>
            have e : frz ρ ((i, true) :: is) = frz (ρ.set i (.va (.lst ds))) is := by rw [frz_cons, hr]
            obtain ⟨vs, h1, h2⟩ := w.ow
            have sub : Sub G (upd G a (.lst vs)) := fun x o q => by
              rw [upd_ne (fun z => by subst z; rw [w.gn] at q; cases q)]; exact q
            have s' : GS p dc (upd G a (.lst vs)) H := by
              refine ⟨fun x o q => ?_, fun x q => ⟨(gs.dice x q).1, ?_⟩, gs.tabs, fun q hq => ?_⟩
              · by_cases z : x = a
                · subst z; rw [upd_same] at q; cases q; exact h1
                · rw [upd_ne z] at q; exact gs.sub x o q
              · rw [upd_ne (fun z => by subst z; exact w.nd q)]; exact (gs.dice x q).2
              · obtain ⟨ps, e, _⟩ := gs.tabs q hq
                rw [upd_ne (fun z => by rw [z, h1] at e; cases e)]
                exact gs.tabf q hq
            refine next e s' ⟨sub, fun x o q1 q2 q3 q4 => ?_⟩ (rs.freeze hr ha sub (fun b f ne wb => ?_) ⟨a, vs, rfl, upd_same, DVs.mono sub _ _ h2⟩ rs.ent fun _ q => q) fun _ q => q
            · rw [upd_ne (fun z => by subst z; rw [w.h0] at q2; cases q2)]; exact q1
            · exact wb.other sub (by rw [upd_ne ne]; exact wb.gn) fun dx q1 q2 => by
                rw [upd_ne (fun z => by subst z; rw [h1] at q1; cases q1)]; exact q2
        | obj c fs =>
          cases kd with
          | false => exact skip (by rw [frz_cons, hr])
          | true =>
            have e : frz ρ ((i, true) :: is) = frz (ρ.set i (.va (.obj c fs))) is := by rw [frz_cons, hr]
            obtain ⟨dx, ws, h1, h2, h3, h4, h5⟩ := w.ow
            have ne : dx ≠ a := fun z => by subst z; rw [h1] at h3; cases h3
            have ndd : p.da ≠ some dx := fun z => by
              have := (gs.dice dx z).1
              rw [h3] at this
              cases this
            let G' : Hp := upd (upd G dx (.own a)) a (.ins (He.ga p.K c) dx ws)
            have ga' : G' a = some (.ins (He.ga p.K c) dx ws) := upd_same
            have gd' : G' dx = some (.own a) := by
              show upd (upd G dx (.own a)) a _ dx = _
              rw [upd_ne ne, upd_same]
            have gn : ∀ x, x ≠ a → x ≠ dx → G' x = G x := fun x q1 q2 => by
              show upd (upd G dx (.own a)) a _ x = _
              rw [upd_ne q1, upd_ne q2]
            have sub : Sub G G' := fun x o q => by
              rw [gn x (fun z => by subst z; rw [w.gn] at q; cases q) (fun z => by subst z; rw [h2] at q; cases q)]; exact q
            have s' : GS p dc G' H := by
              refine ⟨fun x o q => ?_, fun x q => ⟨(gs.dice x q).1, ?_⟩, gs.tabs, fun q hq => ?_⟩
              · by_cases z : x = a
                · subst z; rw [ga'] at q; cases q; exact h1
                · by_cases z2 : x = dx
                  · subst z2; rw [gd'] at q; cases q; exact h3
                  · rw [gn x z z2] at q; exact gs.sub x o q
              · rw [gn x (fun z => by subst z; exact w.nd q) (fun z => by subst z; exact ndd q)]; exact (gs.dice x q).2
              · obtain ⟨ps, e, _⟩ := gs.tabs q hq
                rw [gn q.1 (fun z => by rw [z, h1] at e; cases e) (fun z => by rw [z, h3] at e; cases e)]
                exact gs.tabf q hq
            refine next e s' ⟨sub, fun x o q1 q2 q3 q4 => ?_⟩ (rs.freeze hr ha sub (fun b f neb wb => ?_) ⟨a, dx, ws, rfl, ga', gd', DVf.mono sub _ _ h5⟩ rs.ent fun _ q => q) fun _ q => q
            · rw [gn x (fun z => by subst z; rw [w.h0] at q2; cases q2) (fun z => by subst z; rw [h4.1] at q2; cases q2)]; exact q1
            · have nb : b ≠ dx := fun z => by
                subst z
                obtain ⟨o, eo, oo⟩ := wb.ow.no_tbl
                have := wb.ow
                rw [h3] at eo
                cases eo
                cases f with
                | lst _ => obtain ⟨_, q, _⟩ := this; rw [h3] at q; cases q
                | dic _ => rcases this with ⟨_, q, _⟩ | ⟨_, q, _⟩ <;> (rw [h3] at q; cases q)
                | obj _ _ => obtain ⟨_, _, q, _⟩ := this; rw [h3] at q; cases q
                | _ => exact this.elim
              refine wb.other sub (by rw [gn b neb nb]; exact wb.gn) fun dy q1 q2 => ?_
              rw [gn dy (fun z => by subst z; rw [h1] at q1; cases q1) (fun z => by subst z; rw [h3] at q1; cases q1; exact neb rfl)]
              exact q2
        | _ => exact (w.ow).elim
end
end Px
set_option maxRecDepth 100000
set_option maxHeartbeats 4000000
/-! PS17: statements. -/
namespace Px
open PySem PySem.Spec PyProof.Rows L2 RZ
/-- what is wanted behind a statement -/
def POut (p : Pk) (W : WX) (D : Ends) (G : Hp) (out : Out Fl) : Prop := match out with
  | .ok (.nx ρ') dc' => ∀ σ' G' H', GS p dc' G' H' → GrowS p G G' → RS p ρ' σ' G' H' → D.nx σ' H'
  | .ok (.bk ρ') dc' => ∀ σ' G' H', GS p dc' G' H' → GrowS p G G' → RS p ρ' σ' G' H' → D.bk σ' H'
  | .ok (.ct ρ') dc' => ∀ σ' G' H', GS p dc' G' H' → GrowS p G G' → RS p ρ' σ' G' H' → D.ct σ' H'
  | .ok (.rt d ρ') dc' => ∀ v σ' G' H', GS p dc' G' H' → GrowS p G G' → RS p ρ' σ' G' H' → DV p.K p.da G' d v → D.rt v H'
  | .er c dc' => ∀ σ' G' H', GS p dc' G' H' → GrowS p G G' → Ext p.da p.H0 H' → W (.ref (He.ga p.K c)) none σ' H'
  | .st => False
def sS (p : Pk) (W : WX) (f : En → M Fl) : TS := fun D σ H => ∃ ρ G dc, GS p dc G H ∧ RS p ρ σ G H ∧ POut p W D G (f ρ dc)
theorem PS.imp {X : Cx} {st : Stmt} {t t' : TS} (h : PS X st t) (i : ∀ D σ H, t' D σ H → t D σ H) : PS X st t' := ⟨fun pins s σ H D I q => h.run pins s σ H D I (i D σ H q)⟩
theorem PSs.imp {X : Cx} {st : List Stmt} {t t' : TS} (h : PSs X st t) (i : ∀ D σ H, t' D σ H → t D σ H) : PSs X st t' := ⟨fun pins s σ H D I q => h.run pins s σ H D I (i D σ H q)⟩
theorem ps_no {X : Cx} {st : Stmt} {t : TS} (h : ∀ D σ H, ¬ t D σ H) : PS X st t := ⟨fun pins s σ H D I q => (h D σ H q).elim⟩
theorem sS_no {p : Pk} {W : WX} {f : En → M Fl} (h : ∀ ρ, f ρ = M.st) : ∀ D σ H, ¬ sS p W f D σ H := fun D σ H ⟨ρ, G, dc, _, _, q⟩ => by
  rw [h ρ] at q
  exact q
theorem ps_st {X : Cx} {st : Stmt} {p : Pk} {W : WX} : PS X st (sS p W fun _ => M.st) := ps_no (sS_no fun _ => rfl)
/-- the context of a def's own statements -/
structure SOk (p : Pk) (C : Cn) (k : Nat) (W : WX) (X : Cx) : Prop extends XOk p C k W X where
  hsc : X.env.scope = C.sc
  hp : PassesOwn (model X.prog X.w) X.A X.env X.xe
  exs : ∀ c ∈ C.Γ.ex, ∀ x pos, gloK C.sc c = true → ∀ j p2 (msg : Str), PMk X (.Call (.Name c x) [.Constant (.str msg) j p2] [] pos) (fun _ H Q => Q (.ref (He.ga p.K c)) none H)
section
variable {p : Pk} {C : Cn} {k : Nat} {W : WX} {X : Cx} {n : Nat} {b : Bool} {m : Md} {G H : Hp} {dc : Dc} {ρ : En} {σ : St} {D : Ends}
theorem POut.grow {G1 : Hp} {out : Out Fl} (h : POut p W D G out) (g : GrowS p G G1) : POut p W D G1 out := by
  unfold POut at *
  split
  · exact fun σ' G' H' s g' r => h σ' G' H' s (g.trans g') r
  · exact fun σ' G' H' s g' r => h σ' G' H' s (g.trans g') r
  · exact fun σ' G' H' s g' r => h σ' G' H' s (g.trans g') r
  · exact fun v σ' G' H' s g' r => h v σ' G' H' s (g.trans g') r
  · exact fun σ' G' H' s g' r => h σ' G' H' s (g.trans g') r
  · exact h
/-- an expression, then the rest -/
theorem POut.seq {α β : Type} {rel : Hp → Hp → α → β → Prop} {Q' : β → Hp → Prop} {mm : M α} {kk : α → M Fl} (rs : RS p ρ σ G H) (h : POut p W D G ((mm >>= kk) dc))
    (c : ∀ d dc1 v G1 H1, GS p dc1 G1 H1 → Grow p.da G H G1 H1 → rel G1 H1 d v → POut p W D G1 (kk d dc1) → Q' v H1) : Post p W rel σ G H (mm dc) Q' := by
  cases hm : mm dc with
  | ok d dc1 =>
    rw [bind_ok hm] at h
    exact fun v G1 H1 s g r => c d dc1 v G1 H1 s g r (h.grow (.of rs.ent g))
  | er e dc1 =>
    rw [bind_er hm] at h
    exact fun G1 H1 s g => h σ G1 H1 s (.of rs.ent g) (rs.ent.trans g.ext)
  | st =>
    rw [bind_stt hm] at h
    exact (show False from h).elim
theorem POut.lift {o : Option Fl} (h : POut p W D G ((lift o : M Fl) dc)) : ∃ f, o = some f ∧ POut p W D G (.ok f dc) := by
  cases o with
  | some f => exact ⟨f, rfl, h⟩
  | none => exact (show False from h).elim
theorem POut.liftB {α : Type} {o : Option α} {kk : α → M Fl} (h : POut p W D G ((Px.lift o >>= kk) dc)) : ∃ f, o = some f ∧ POut p W D G (kk f dc) := by
  cases o with
  | some f => exact ⟨f, rfl, h⟩
  | none => exact (show False from h).elim
/-- what is let out first, then the statement -/
theorem ps_frz {st : Stmt} {t : TS} {es : Es} {f : En → M Fl} (h : PS X st t) (i : ∀ D σ H ρ G dc, GS p dc G H → RS p (frz ρ es) σ G H → POut p W D G (f (frz ρ es) dc) → t D σ H) : PS X st (sS p W fun ρ => f (frz ρ es)) :=
  PS.imp (ps_lk h) fun D σ H ⟨ρ, G, dc, gs, rs, post⟩ => frz_ok es ρ G H gs rs _ fun G' H' gs' g' rs' _ => i D σ H' ρ G' dc gs' rs' (POut.grow post g')
theorem s_ret (h : IH n) (x : XOk p C k W X) {e : Expr} {pos : Pos} : PS X (.Return (some e) pos) (sS p W fun ρ => dS (n + 1) C (.Return (some e) pos) ρ) := by
  refine ps_frz (es := esc n C false e) (f := fun ρ => dE n false C e ρ >>= fun d => pure (.rt d ρ)) (ps_ret (h.E x false .va e rfl)) fun D σ H ρ G dc gs rs post => ?_
  exact ⟨_, G, dc, gs, rs, POut.seq rs post fun d dc1 v G1 H1 gs1 g1 r1 post => post v σ G1 H1 gs1 (.refl _ _) (rs.grow gs g1) r1⟩
theorem s_retN {pos : Pos} : PS X (.Return none pos) (sS p W fun ρ => dS (n + 1) C (.Return none pos) ρ) :=
  PS.imp ps_retN fun D σ H ⟨ρ, G, dc, gs, rs, post⟩ => post .non σ G H gs (.refl _ _) rs rfl
theorem s_pass {pos : Pos} : PS X (.Pass pos) (sS p W fun ρ => dS (n + 1) C (.Pass pos) ρ) :=
  PS.imp ps_pass fun D σ H ⟨ρ, G, dc, gs, rs, post⟩ => post σ G H gs (.refl _ _) rs
theorem s_break {pos : Pos} : PS X (.Break pos) (sS p W fun ρ => dS (n + 1) C (.Break pos) ρ) :=
  PS.imp ps_break fun D σ H ⟨ρ, G, dc, gs, rs, post⟩ => post σ G H gs (.refl _ _) rs
theorem s_cont {pos : Pos} : PS X (.Continue pos) (sS p W fun ρ => dS (n + 1) C (.Continue pos) ρ) :=
  PS.imp ps_continue fun D σ H ⟨ρ, G, dc, gs, rs, post⟩ => post σ G H gs (.refl _ _) rs
/-- a value that is dropped, stored: not a comprehension that swaps -/
theorem swaps_of {e : Expr} {o : Option Expr} {l : Nat} {env : Env} (h : isComp e = false) : swapsWith e o l env = pure false := by
  cases e <;> first | rfl | cases h
theorem s_expr (h : IH n) (x : XOk p C k W X) {e : Expr} {pos : Pos} (hc : isComp e = false) (hd : ∀ ρ, dS (n + 1) C (.Expr e pos) ρ = (dE n false C e (frz ρ (esc n C false e)) >>= fun _ => pure (.nx (frz ρ (esc n C false e))))) : PS X (.Expr e pos) (sS p W fun ρ => dS (n + 1) C (.Expr e pos) ρ) := by
  have e1 : (fun ρ => dS (n + 1) C (.Expr e pos) ρ) = fun ρ => (fun ρ1 => dE n false C e ρ1 >>= fun _ => pure (.nx ρ1)) (frz ρ (esc n C false e)) := funext hd
  rw [e1]
  refine ps_frz (es := esc n C false e) (f := fun ρ1 => dE n false C e ρ1 >>= fun _ => pure (.nx ρ1)) (ps_expr (h.E x false .va e rfl) (swaps_of hc)) fun D σ H ρ G dc gs rs post => ?_
  exact ⟨_, G, dc, gs, rs, POut.seq rs post fun d dc1 v G1 H1 gs1 g1 r1 post => post σ G1 H1 gs1 (.refl _ _) (rs.grow gs g1)⟩
theorem s_if (h : IH n) (x : XOk p C k W X) {t : Expr} {a c : List Stmt} {pos : Pos} (ha : PSs X a (sS p W fun ρ => dSs n C a ρ)) (hc : PSs X c (sS p W fun ρ => dSs n C c ρ)) : PS X (.If t a c pos) (sS p W fun ρ => dS (n + 1) C (.If t a c pos) ρ) := by
  refine ps_frz (es := esc n C true t) (f := fun ρ1 => dT n C t ρ1 >>= fun c' => if c' then dSs n C a ρ1 else dSs n C c ρ1) (ps_if (h.T x t) ha hc) fun D σ H ρ G dc gs rs post => ?_
  refine ⟨_, G, dc, gs, rs, POut.seq rs post fun c' dc1 v G1 H1 gs1 g1 r1 post => ?_⟩
  cases (show v = c' from r1)
  cases c' with
  | true => exact ⟨_, G1, dc1, gs1, rs.grow gs g1, post⟩
  | false => exact ⟨_, G1, dc1, gs1, rs.grow gs g1, post⟩
theorem s_nil : PSs X [] (sS p W fun ρ => dSs (n + 1) C [] ρ) :=
  PSs.imp pss_nil fun D σ H ⟨ρ, G, dc, gs, rs, post⟩ => post σ G H gs (.refl _ _) rs
theorem s_cons {st : Stmt} {sts : List Stmt} (h1 : PS X st (sS p W fun ρ => dS n C st ρ)) (h2 : PSs X sts (sS p W fun ρ => dSs n C sts ρ)) : PSs X (st :: sts) (sS p W fun ρ => dSs (n + 1) C (st :: sts) ρ) := by
  refine PSs.imp (pss_cons h1 h2) fun D σ H ⟨ρ, G, dc, gs, rs, post⟩ => ⟨ρ, G, dc, gs, rs, ?_⟩
  have post : POut p W D G ((dS n C st ρ >>= fun f => match f with
    | .nx ρ' => dSs n C sts ρ'
    | f => pure f) dc) := post
  show POut p W _ G (dS n C st ρ dc)
  cases hm : dS n C st ρ dc with
  | st =>
    rw [bind_stt hm] at post
    exact post
  | er c dc' =>
    rw [bind_er hm] at post
    exact post
  | ok f dc' =>
    rw [bind_ok hm] at post
    cases f with
    | nx ρ' => exact fun σ' G' H' gs' g' rs' => ⟨ρ', G', dc', gs', rs', post.grow g'⟩
    | rt d ρ'' => exact post
    | bk ρ' => exact post
    | ct ρ' => exact post
theorem s_raise (x : SOk p C k W X) {c msg : Str} {p1 p2 p3 pos : Pos} {j : Nat} : PS X (.Raise (some (.Call (.Name c p1) [.Constant (.str msg) j p2] [] p3)) none pos) (sS p W fun ρ => dS (n + 1) C (.Raise (some (.Call (.Name c p1) [.Constant (.str msg) j p2] [] p3)) none pos) ρ) := by
  by_cases hc : (gloK C.sc c && decide (c ∈ C.Γ.ex)) = true
  · have hcc := hc
    rw [Bool.and_eq_true, decide_eq_true_eq] at hcc
    refine PS.imp (ps_raise x.calm x.tk (x.exs c hcc.2 p1 p3 hcc.1 j p2 msg)) fun D σ H ⟨ρ, G, dc, gs, rs, post⟩ => ?_
    have post : POut p W D G ((if (gloK C.sc c && decide (c ∈ C.Γ.ex)) = true then M.er c else M.st : M Fl) dc) := post
    rw [if_pos hc] at post
    exact post σ G H gs (.refl _ _) rs.ent
  · refine ps_no (sS_no fun ρ => ?_)
    show (if (gloK C.sc c && decide (c ∈ C.Γ.ex)) = true then _ else M.st) = M.st
    rw [if_neg hc]
end
end Px
set_option maxRecDepth 100000
set_option maxHeartbeats 4000000
/-! PS18: stores to names. -/
namespace Px
open PySem PySem.Spec PyProof.Rows L2 RZ
def Pk.at' (p : Pk) (H : Hp) : Pk := { p with Hb := H }
/-- an expression, what it makes being newer than the heap here -/
def tEf (p : Pk) (W : WX) (m : Md) (f : En → M D) : TE := fun σ H Q => tE (p.at' H) W m f σ H Q
section
variable {p : Pk} {C : Cn} {k : Nat} {W : WX} {X : Cx} {n : Nat} {b : Bool} {m : Md} {G H G1 H1 : Hp} {dc : Dc} {ρ : En} {σ : St} {D : Ends}
theorem XOk.at' (x : XOk p C k W X) (H : Hp) : XOk (p.at' H) C k W X := ⟨x.K, x.N, x.nd, x.calm, x.room', x.tk, x.vis, x.glo, x.sto, x.fre, x.gm, x.tab, x.top⟩
theorem OWn.at' {a : Addr} {d : Px.D} {H0 : Hp} (w : OWn p G H a d) : OWn (p.at' H0) G H a d := ⟨w.ow, w.gn, w.nd, w.h0⟩
theorem OWn.off {a : Addr} {d : Px.D} {H0 : Hp} (w : OWn (p.at' H0) G H a d) : OWn p G H a d := ⟨w.ow, w.gn, w.nd, w.h0⟩
theorem RS.at' (r : RS p ρ σ G H) : RS (p.at' H) ρ σ G H :=
  ⟨r.len, r.va, r.la, fun i d e => let ⟨a, h1, h2⟩ := r.ow i d e; ⟨a, h1, h2.at'⟩, r.dj, r.ent, fun a h => h⟩
theorem pe_f {e : Expr} {f : En → M Px.D} (h : ∀ H, PE X e (tE (p.at' H) W m f)) : PE X e (tEf p W m f) := ⟨fun pins s σ H Q I q => (h H).run pins s σ H Q I q⟩
theorem ps_f {st : Stmt} {t : Hp → TS} (h : ∀ H, PS X st (t H)) : PS X st (fun D σ H => t H D σ H) := ⟨fun pins s σ H D I q => (h H).run pins s σ H D I q⟩
theorem RS.setOw {i : Nat} {a : Addr} {d : Px.D} (r0 : RS p ρ σ G H) (hn : H a = none) (r : RS p ρ σ G1 H1) (w : OWn p G1 H1 a d) : RS p (ρ.set i (.ow d)) (σ.set i (some (.ref a))) G1 H1 := by
  by_cases hi : i < ρ.length
  · have hi' : i < σ.length := by rw [← r.len]; exact hi
    have no : ∀ (j : Nat) (e : Px.D), ρ[j]? = some (.ow e) → σ[j]? = some (some (.ref a)) → False := fun j e q1 q2 => by
      obtain ⟨c, h1, h2⟩ := r0.ow j e q1
      rw [q2] at h1
      cases h1
      obtain ⟨o, h3, _⟩ := h2.ow.no_tbl
      rw [hn] at h3
      cases h3
    refine ⟨by rw [List.length_set, List.length_set]; exact r.len, fun j e q => ?_, fun j e q => ?_, fun j e q => ?_, fun j l e f c q1 q2 q3 q4 => ?_, r.ent, r.hb⟩
    · rw [set_at hi] at q
      rw [set_at hi']
      by_cases ej : j = i
      · rw [if_pos ej] at q
        cases q
      · rw [if_neg ej] at q ⊢
        exact r.va j e q
    · rw [set_at hi] at q
      rw [set_at hi']
      by_cases ej : j = i
      · rw [if_pos ej] at q
        cases q
      · rw [if_neg ej] at q ⊢
        exact r.la j e q
    · rw [set_at hi] at q
      rw [set_at hi']
      by_cases ej : j = i
      · rw [if_pos ej] at q ⊢
        cases q
        exact ⟨a, rfl, w⟩
      · rw [if_neg ej] at q ⊢
        exact r.ow j e q
    · rw [set_at hi] at q1 q2
      rw [set_at hi'] at q3 q4
      by_cases ej : j = i
      · by_cases el : l = i
        · rw [ej, el]
        · rw [if_pos ej] at q3
          cases q3
          rw [if_neg el] at q2 q4
          exact (no l f q2 q4).elim
      · rw [if_neg ej] at q1 q3
        by_cases el : l = i
        · rw [if_pos el] at q4
          cases q4
          exact (no j e q1 q3).elim
        · rw [if_neg el] at q2 q4
          exact r.dj j l e f c q1 q2 q3 q4
  · rw [List.set_eq_of_length_le (by omega), List.set_eq_of_length_le (by rw [← r.len]; omega)]
    exact r
def mdOf (e : Expr) : Md := if fresh e then .fr else .va
theorem mdOf_ok (e : Expr) : mdOk (mdOf e) false e = true := by
  unfold mdOf
  cases h : fresh e
  · rfl
  · show (!false && fresh e) = true
    rw [h]
    rfl
theorem RS.store {i : Nat} {e : Expr} {d : Px.D} {v : V} (r0 : RS p ρ σ G H) (r : RS p ρ σ G1 H1) (rv : RV (p.at' H) (mdOf e) G1 H1 d v) : RS p (ρ.set i (slotOf e d)) (σ.set i (some v)) G1 H1 := by
  unfold slotOf
  unfold mdOf at rv
  cases hf : fresh e with
  | false =>
    rw [hf] at rv
    exact r.setVa rv
  | true =>
    rw [hf] at rv
    have rv : if cont d then ∃ a, v = .ref a ∧ OWn (p.at' H) G1 H1 a d ∧ H a = none else DV p.K p.da G1 d v := rv
    cases hc : cont d with
    | false =>
      rw [hc] at rv
      exact r.setVa rv
    | true =>
      rw [hc] at rv
      obtain ⟨a, rfl, w, hn⟩ := (show ∃ a, v = .ref a ∧ OWn (p.at' H) G1 H1 a d ∧ H a = none from rv)
      exact r0.setOw hn r w.off
theorem set_imp {y : Str} {e : Expr} {f : En → M Px.D} (hs : stoN C y = true) (gs : GS p dc G H) (rs : RS p ρ σ G H) (post : POut p W D G ((f ρ >>= fun d => lift ((storeN C y (slotOf e d) ρ).map .nx)) dc)) :
    tEf p W (mdOf e) f σ H fun v H1 => D.nx (σ.set (ixOf C.N y) (some v)) H1 := by
  refine ⟨ρ, G, dc, gs, rs.at', ?_⟩
  have key := POut.seq (p := p) (W := W) (rel := RV (p.at' H) (mdOf e)) (Q' := fun v H1 => D.nx (σ.set (ixOf C.N y) (some v)) H1) rs post fun d dc1 v G1 H1 gs1 g1 r1 post => by
    obtain ⟨fl, e1, post⟩ := POut.lift post
    unfold storeN at e1
    rw [if_pos hs] at e1
    cases e1
    exact post _ G1 H1 gs1 (.refl _ _) (rs.store (rs.grow gs g1) r1)
  exact key
theorem sto_ix {C : Cn} {y : Str} (h : stoN C y = true) : stoK C.sc y = true ∧ C.N[ixOf C.N y]? = some y := by
  unfold stoN at h
  rw [Bool.and_eq_true, decide_eq_true_eq] at h
  refine ⟨h.1, ?_⟩
  have hl : C.N.idxOf y < C.N.length := List.idxOf_lt_length_of_mem h.2
  show C.N[C.N.idxOf y]? = some y
  rw [List.getElem?_eq_getElem hl, List.getElem_idxOf hl]
/-- an expression's value to a name -/
theorem ps_name (h2 : IH2 n) (x : SOk p C k W X) {y : Str} {py pos : Pos} {e : Expr} (hy : stoN C y = true) (htc : tcE C e = false) : PS X (.Assign [.Name y py] e pos) (tAsg (tEf p W (mdOf e) fun ρ => dE n false C e ρ) (gName (ixOf C.N y))) := by
  obtain ⟨hk, hi⟩ := sto_ix hy
  obtain ⟨hl, hf⟩ := x.sto y hk
  have hN : X.N.Nodup := by rw [x.N]; exact x.nd
  have hi' : X.N[ixOf C.N y]? = some y := by rw [x.N]; exact hi
  have he : PE X e (tEf p W (mdOf e) fun ρ => dE n false C e ρ) := pe_f fun H => h2.ih.E (x.toXOk.at' H) false (mdOf e) e (mdOf_ok e)
  by_cases hs : swapsWith e (some (.Name y py)) pos.line X.env = pure false
  · exact ps_set hN hi' hl he hs hf
  · cases e with
    | ListComp elt gs scope pos' =>
      have none : (∀ ρ, dE n false C (.ListComp elt gs scope pos') ρ = M.st) → PS X (.Assign [.Name y py] (.ListComp elt gs scope pos') pos) (tAsg (tEf p W (mdOf (.ListComp elt gs scope pos')) fun ρ => dE n false C (.ListComp elt gs scope pos') ρ) (gName (ixOf C.N y))) := fun h0 =>
        ps_no fun D σ H ⟨ρ, G, dc, _, _, q⟩ => by
          dsimp only at q
          rw [h0] at q
          exact q
      cases n with
      | zero => exact none fun _ => rfl
      | succ n =>
        match gs with
        | [] => exact none fun _ => rfl
        | [⟨tg, it, ifs, a⟩] =>
          have htn : toldS C tg it ifs = Option.none := by
            have htc : (toldS C tg it ifs).isSome = false := htc
            cases hh : toldS C tg it ifs with
            | none => rfl
            | some _ => rw [hh] at htc; cases htc
          by_cases hc : a = 0 ∧ blkB C.N C.sc scope = true ∧ itOk tg it = true
          · obtain ⟨rfl, hb, ht⟩ := hc
            have sw : swapsWith (.ListComp elt [⟨tg, it, ifs, 0⟩] scope pos') (some (.Name y py)) pos.line X.env = pure true := by
              have q : swapsWith (.ListComp elt [⟨tg, it, ifs, 0⟩] scope pos') (some (.Name y py)) pos.line X.env = pure (X.env.blockKind == .function && X.env.kindOf y == some .local && py.line == pos'.line
                && !(scope.names.any fun (n, k) => n == y && (k == .local || k == .cell))) := rfl
              rw [q] at hs ⊢
              cases hv : (X.env.blockKind == .function && X.env.kindOf y == some .local && py.line == pos'.line
                && !(scope.names.any fun (n, k) => n == y && (k == .local || k == .cell))) with
              | true => rfl
              | false => rw [hv] at hs; exact absurd rfl hs
            have hyl : X.env.scope.names.lookup y = some .local := by
              have q : swapsWith (.ListComp elt [⟨tg, it, ifs, 0⟩] scope pos') (some (.Name y py)) pos.line X.env = pure (X.env.blockKind == .function && X.env.kindOf y == some .local && py.line == pos'.line
                && !(scope.names.any fun (n, k) => n == y && (k == .local || k == .cell))) := rfl
              rw [q] at hs
              cases hv : (X.env.kindOf y == some .local) with
              | true =>
                have := eq_of_beq hv
                exact this
              | false => rw [hv] at hs; exact absurd (by simp) hs
            have h3 : IH2 n := ih_all n
            have hv : ∀ z, stoN ⟨C.N, scope, C.Γ, C.g, false, C.lp⟩ z = true → ixOf C.N z ∈ ownN C.N scope := own_all hb
            refine ps_f (t := fun H0 D σ H => tE (p.at' H0) W (mdOf (.ListComp elt [⟨tg, it, ifs, 0⟩] scope pos')) (fun ρ => dE (n + 1) false C (.ListComp elt [⟨tg, it, ifs, 0⟩] scope pos') ρ) σ H fun v H1 => gName (ixOf C.N y) v σ H1 D.nx) fun H0 => ?_
            have x0 := x.toXOk.at' H0
            have ps := ps_setLc x0.calm hN hi' hyl sw (h3.I x0 true tg it ht) (blk_ok x0 hb)
              (fun s H Ca cl fp => pg_T (x0.blk s H Ca cl fp) _ hv n tg) (fun s H Ca cl fp => h3.ih.Ts (x0.blk s H Ca cl fp) ifs) (fun s H Ca cl fp => h3.ih.E (x0.blk s H Ca cl fp) false .va elt rfl) (fold_of (itOk_set ht))
            exact PS.imp ps fun D σ H q => lc_imp (p := p.at' H0) x0 htn hb ht σ H _ q
          · exact none fun ρ => by
              show (if (toldS C tg it ifs).isSome = true then _ else if a = 0 ∧ blkB C.N C.sc scope = true ∧ itOk tg it = true then _ else M.st) = M.st
              rw [if_neg (by rw [htn]; simp), if_neg hc]
        | [⟨tg, it, ifs, a⟩, ⟨tg1, it1, ifs1, a1⟩] =>
          by_cases hc : a = 0 ∧ a1 = 0 ∧ blkB C.N C.sc scope = true ∧ itOk tg it = true ∧ itOk tg1 it1 = true ∧ (tgIx n (lcN C scope) tg1).all (fun i => decide (i ∈ ownN C.N scope)) = true
          · obtain ⟨rfl, rfl, hb, ht, ht1, hv1⟩ := hc
            have sw : swapsWith (.ListComp elt [⟨tg, it, ifs, 0⟩, ⟨tg1, it1, ifs1, 0⟩] scope pos') (some (.Name y py)) pos.line X.env = pure true := by
              have q : swapsWith (.ListComp elt [⟨tg, it, ifs, 0⟩, ⟨tg1, it1, ifs1, 0⟩] scope pos') (some (.Name y py)) pos.line X.env = pure (X.env.blockKind == .function && X.env.kindOf y == some .local && py.line == pos'.line
                && !(scope.names.any fun (n, k) => n == y && (k == .local || k == .cell))) := rfl
              rw [q] at hs ⊢
              cases hv : (X.env.blockKind == .function && X.env.kindOf y == some .local && py.line == pos'.line
                && !(scope.names.any fun (n, k) => n == y && (k == .local || k == .cell))) with
              | true => rfl
              | false => rw [hv] at hs; exact absurd rfl hs
            have hyl : X.env.scope.names.lookup y = some .local := by
              have q : swapsWith (.ListComp elt [⟨tg, it, ifs, 0⟩, ⟨tg1, it1, ifs1, 0⟩] scope pos') (some (.Name y py)) pos.line X.env = pure (X.env.blockKind == .function && X.env.kindOf y == some .local && py.line == pos'.line
                && !(scope.names.any fun (n, k) => n == y && (k == .local || k == .cell))) := rfl
              rw [q] at hs
              cases hv : (X.env.kindOf y == some .local) with
              | true =>
                have := eq_of_beq hv
                exact this
              | false => rw [hv] at hs; exact absurd (by simp) hs
            have h3 : IH2 n := ih_all n
            have hv : ∀ z, stoN ⟨C.N, scope, C.Γ, C.g, false, C.lp⟩ z = true → ixOf C.N z ∈ ownN C.N scope := own_all hb
            have hv1' : ∀ i ∈ tgIx n (lcN C scope) tg1, i ∈ (ownL C.N scope).map (·.2) := fun i hi => by
              have := List.all_eq_true.mp hv1 i hi
              exact of_decide_eq_true this
            refine ps_f (t := fun H0 D σ H => tE (p.at' H0) W (mdOf (.ListComp elt [⟨tg, it, ifs, 0⟩, ⟨tg1, it1, ifs1, 0⟩] scope pos')) (fun ρ => dE (n + 1) false C (.ListComp elt [⟨tg, it, ifs, 0⟩, ⟨tg1, it1, ifs1, 0⟩] scope pos') ρ) σ H fun v H1 => gName (ixOf C.N y) v σ H1 D.nx) fun H0 => ?_
            have x0 := x.toXOk.at' H0
            have ps := ps_setLc2 (own := ownL C.N scope) (vs1 := tgIx n (lcN C scope) tg1) x0.calm hN hi' hyl sw (h3.I x0 true tg it ht) (blk_ok x0 hb) hv1'
              (fun s H Ca cl fp => pg_T (x0.blk s H Ca cl fp) _ hv n tg) (fun s H Ca cl fp => h3.ih.Ts (x0.blk s H Ca cl fp) ifs) (fun s H Ca cl fp => h3.I (x0.blk s H Ca cl fp) false tg1 it1 ht1)
              (fun s H Ca cl fp => pg_ixs (x0.blk s H Ca cl fp) n tg1) (fun s H Ca cl fp => h3.ih.Ts (x0.blk s H Ca cl fp) ifs1) (fun s H Ca cl fp => h3.ih.E (x0.blk s H Ca cl fp) false .va elt rfl) (fold_of (itOk_set ht)) (fun env => fold_of (itOk_set ht1))
            exact PS.imp ps fun D σ H q => lc2_imp (p := p.at' H0) x0 hb ht ht1 hv1 σ H _ q
          · exact none fun ρ => by
              show (if a = 0 ∧ a1 = 0 ∧ blkB C.N C.sc scope = true ∧ itOk tg it = true ∧ itOk tg1 it1 = true ∧ (tgIx n (lcN C scope) tg1).all (fun i => decide (i ∈ ownN C.N scope)) = true then _ else M.st) = M.st
              rw [if_neg hc]
        | ⟨_, _, _, _⟩ :: ⟨_, _, _, _⟩ :: _ :: _ => exact none fun _ => rfl
    | SetComp elt gs scope pos' => exact ps_no fun D σ H ⟨ρ, G, dc, _, _, q⟩ => by cases n <;> exact q
    | DictComp ke ve gs scope pos' =>
      have none : (∀ ρ, dE n false C (.DictComp ke ve gs scope pos') ρ = M.st) → PS X (.Assign [.Name y py] (.DictComp ke ve gs scope pos') pos) (tAsg (tEf p W (mdOf (.DictComp ke ve gs scope pos')) fun ρ => dE n false C (.DictComp ke ve gs scope pos') ρ) (gName (ixOf C.N y))) := fun h0 =>
        ps_no fun D σ H ⟨ρ, G, dc, _, _, q⟩ => by
          dsimp only at q
          rw [h0] at q
          exact q
      cases n with
      | zero => exact none fun _ => rfl
      | succ n =>
        match gs with
        | [] => exact none fun _ => rfl
        | [⟨tg, it, ifs, a⟩] =>
          by_cases hc : a = 0 ∧ blkB C.N C.sc scope = true ∧ itOk tg it = true
          · obtain ⟨rfl, hb, ht⟩ := hc
            have sw : swapsWith (.DictComp ke ve [⟨tg, it, ifs, 0⟩] scope pos') (some (.Name y py)) pos.line X.env = pure true := by
              have q : swapsWith (.DictComp ke ve [⟨tg, it, ifs, 0⟩] scope pos') (some (.Name y py)) pos.line X.env = pure (X.env.blockKind == .function && X.env.kindOf y == some .local && py.line == pos'.line
                && !(scope.names.any fun (n, k) => n == y && (k == .local || k == .cell))) := rfl
              rw [q] at hs ⊢
              cases hv : (X.env.blockKind == .function && X.env.kindOf y == some .local && py.line == pos'.line
                && !(scope.names.any fun (n, k) => n == y && (k == .local || k == .cell))) with
              | true => rfl
              | false => rw [hv] at hs; exact absurd rfl hs
            have hyl : X.env.scope.names.lookup y = some .local := by
              have q : swapsWith (.DictComp ke ve [⟨tg, it, ifs, 0⟩] scope pos') (some (.Name y py)) pos.line X.env = pure (X.env.blockKind == .function && X.env.kindOf y == some .local && py.line == pos'.line
                && !(scope.names.any fun (n, k) => n == y && (k == .local || k == .cell))) := rfl
              rw [q] at hs
              cases hv : (X.env.kindOf y == some .local) with
              | true =>
                have := eq_of_beq hv
                exact this
              | false => rw [hv] at hs; exact absurd (by simp) hs
            have h3 : IH2 n := ih_all n
            have hv : ∀ z, stoN ⟨C.N, scope, C.Γ, C.g, false, C.lp⟩ z = true → ixOf C.N z ∈ ownN C.N scope := own_all hb
            refine ps_f (t := fun H0 D σ H => tE (p.at' H0) W (mdOf (.DictComp ke ve [⟨tg, it, ifs, 0⟩] scope pos')) (fun ρ => dE (n + 1) false C (.DictComp ke ve [⟨tg, it, ifs, 0⟩] scope pos') ρ) σ H fun v H1 => gName (ixOf C.N y) v σ H1 D.nx) fun H0 => ?_
            have x0 := x.toXOk.at' H0
            have ps := ps_setDc (p := p.at' H0) (by have := x0.u65; omega) x0.calm hN hi' hyl sw (h3.I x0 true tg it ht) (blk_ok x0 hb)
              (fun s H Ca cl fp => pg_T (x0.blk s H Ca cl fp) _ hv n tg) (fun s H Ca cl fp => h3.ih.Ts (x0.blk s H Ca cl fp) ifs) (fun s H Ca cl fp => h3.ih.E (x0.blk s H Ca cl fp) false .va ke rfl) (fun s H Ca cl fp => h3.ih.E (x0.blk s H Ca cl fp) false .va ve rfl) (fold_of (itOk_set ht))
            exact PS.imp ps fun D σ H q => dc_imp (p := p.at' H0) (m := .fr) x0 hb ht (Q' := fun Q => Q) (fun Q Dl u H1 G1 H' G' dcx acc σ s' g' hD hz gn hu nd mu dv post' => post' (.ref Dl) G' H' s' g' ⟨Dl, rfl, ⟨by
                rcases dv with ⟨ws, rfl, q⟩ | ⟨ws, rfl, q⟩
                · exact .inl ⟨ws, hu, q⟩
                · exact .inr ⟨ws, hu, q⟩, gn, nd, hz.1⟩, hz.2⟩) σ H _ q
          · exact none fun ρ => by
              show (if a = 0 ∧ blkB C.N C.sc scope = true ∧ itOk tg it = true then _ else M.st) = M.st
              rw [if_neg hc]
        | ⟨_, _, _, _⟩ :: ⟨_, _, _, _⟩ :: _ => exact none fun _ => rfl
    | _ => exact absurd rfl hs
theorem s_setN (h2 : IH2 n) (x : SOk p C k W X) {y : Str} {py pos : Pos} {e : Expr} (hd : ∀ ρ, dS (n + 1) C (.Assign [.Name y py] e pos) ρ = if (stoN C y && !tcE C e) = true then (dE n false C e (frz ρ (esc n C false e)) >>= fun d => lift ((storeN C y (slotOf e d) (frz ρ (esc n C false e))).map .nx)) else M.st) :
    PS X (.Assign [.Name y py] e pos) (sS p W fun ρ => dS (n + 1) C (.Assign [.Name y py] e pos) ρ) := by
  by_cases hyt : (stoN C y && !tcE C e) = true
  · have hyt' := hyt
    rw [Bool.and_eq_true, Bool.not_eq_true'] at hyt'
    obtain ⟨hy, htc⟩ := hyt'
    have e1 : (fun ρ => dS (n + 1) C (.Assign [.Name y py] e pos) ρ) = fun ρ => (fun ρ1 => dE n false C e ρ1 >>= fun d => lift ((storeN C y (slotOf e d) ρ1).map .nx)) (frz ρ (esc n C false e)) := funext fun ρ => by rw [hd, if_pos hyt]
    rw [e1]
    exact ps_frz (es := esc n C false e) (f := fun ρ1 => dE n false C e ρ1 >>= fun d => lift ((storeN C y (slotOf e d) ρ1).map .nx)) (ps_name h2 x hy htc) fun D σ H ρ G dc gs rs post => set_imp (f := fun ρ => dE n false C e ρ) hy gs rs post
  · exact ps_no (sS_no fun ρ => by rw [hd, if_neg hyt])
end
end Px
set_option maxRecDepth 100000
set_option maxHeartbeats 4000000
/-! PS19: tuple targets, for, while. -/
namespace Px
open PySem PySem.Spec PyProof.Rows L2 RZ
section
variable {p : Pk} {C : Cn} {k : Nat} {W : WX} {X : Cx} {n : Nat} {b : Bool} {m : Md} {G H G1 H1 : Hp} {dc : Dc} {ρ : En} {σ : St} {D : Ends}
def vsN (C : Cn) : List Nat := List.range (C.N.length + 1)
theorem vsN_mem {y : Str} : stoN C y = true → ixOf C.N y ∈ vsN C := fun _ => List.mem_range.mpr (Nat.lt_succ_of_le (List.idxOf_le_length))
theorem s_setT (h2 : IH2 n) (x : SOk p C k W X) {ts : List Expr} {j} {pt pos : Pos} {e : Expr} (ht : ∀ es j p, e ≠ .Tuple es j p) (hd : ∀ ρ, dS (n + 1) C (.Assign [.Tuple ts j pt] e pos) ρ = (dE n false C e (frz ρ (esc n C false e)) >>= fun d => lift ((tgN n C (.Tuple ts j pt) d (frz ρ (esc n C false e))).map .nx))) :
    PS X (.Assign [.Tuple ts j pt] e pos) (sS p W fun ρ => dS (n + 1) C (.Assign [.Tuple ts j pt] e pos) ρ) := by
  have e1 : (fun ρ => dS (n + 1) C (.Assign [.Tuple ts j pt] e pos) ρ) = fun ρ => (fun ρ1 => dE n false C e ρ1 >>= fun d => lift ((tgN n C (.Tuple ts j pt) d ρ1).map .nx)) (frz ρ (esc n C false e)) := funext hd
  rw [e1]
  have sw : swappedStores [.Tuple ts j pt] e X.env = pure none := by
    cases e <;> first | rfl | exact absurd rfl (ht _ _ _)
  have sl : swapsWithSole [.Tuple ts j pt] e pos.line X.env = pure false := by cases e <;> rfl
  refine ps_frz (es := esc n C false e) (f := fun ρ1 => dE n false C e ρ1 >>= fun d => lift ((tgN n C (.Tuple ts j pt) d ρ1).map .nx)) (ps_asg (h2.ih.E x.toXOk false .va e rfl) (pg_T x.toXOk (vsN C) (fun y => vsN_mem) n (.Tuple ts j pt)) sl sw) fun D σ H ρ G dc gs rs post => ?_
  refine ⟨_, G, dc, gs, rs, POut.seq rs post fun d dc1 v G1 H1 gs1 g1 r1 post => ?_⟩
  obtain ⟨fl, e1, post⟩ := POut.lift post
  obtain ⟨ρ', e2, rfl⟩ := Option.map_eq_some_iff.mp e1
  exact ⟨_, G1, dc1, d, ρ', gs1, rs.grow gs g1, r1, e2, fun σ' rs' _ _ => post σ' G1 H1 gs1 (.refl _ _) rs'⟩
def PvF (p : Pk) (W : WX) (D : Ends) (G1 : Hp) (f : Nat → En → M Fl) : Nat → St → Hp → Prop := fun i σ' H' => ∃ ρ' G' dc', GS p dc' G' H' ∧ GrowS p G1 G' ∧ RS p ρ' σ' G' H' ∧ POut p W D G' (f i ρ' dc')
theorem POut.liftC {α : Type} {o : Option α} {kk : α → M Fl} (h : POut p W D G ((Px.lift o >>= kk) dc)) : ∃ f, o = some f ∧ POut p W D G (kk f dc) := POut.liftB h
theorem s_for (h2 : IH2 n) (x : SOk p C k W X) {tg it : Expr} {body : List Stmt} {pos : Pos} (hb : PSs X body (sS p W fun ρ => dSs n C body ρ)) : PS X (.For tg it body [] pos) (sS p W fun ρ => dS (n + 1) C (.For tg it body [] pos) ρ) := by
  by_cases ht : itOk tg it = true
  · have e1 : (fun ρ => dS (n + 1) C (.For tg it body [] pos) ρ) = fun ρ => (fun ρ1 => dI n false C it ρ1 >>= fun items => forM' (tgN n C tg) (dSs n C body) items ρ1) (frz ρ (esc n C false it ++ escI n C it)) := funext fun ρ => by
      show (if (!itOk tg it) = true then M.st else _) = _
      rw [ht]
      rfl
    rw [e1]
    refine ps_frz (es := esc n C false it ++ escI n C it) (f := fun ρ1 => dI n false C it ρ1 >>= fun items => forM' (tgN n C tg) (dSs n C body) items ρ1) (ps_for x.hp x.calm (h2.I x.toXOk false tg it ht) (pg_T x.toXOk (vsN C) (fun y => vsN_mem) n tg) hb (fold_of (itOk_set ht))) fun D σ H ρ G dc gs rs post => ?_
    refine ⟨_, G, dc, gs, rs, POut.seq rs post fun items dc1 J G1 H1 gs1 g1 iok post => ?_⟩
    obtain ⟨Gd, Y, w, hGd, hY⟩ := iok
    refine for_it w (PvF p W D G1 fun i ρ => forM' (tgN n C tg) (dSs n C body) (items.drop i) ρ) ⟨_, G1, dc1, gs1, .refl _ _, rs.grow gs g1, post⟩ (fun i σ' H' _ ⟨ρ', G', dc', s', g', _⟩ => hGd G' H' dc' s' g'.1) ?_ ?_
    · rintro i xv σ' H' H'' hi ⟨ρ', G', dc', s', g', rs', post'⟩ hy
      have hd := List.getElem?_eq_getElem hi
      obtain ⟨G2, s2, g2, dv2⟩ := hY i G' H' dc' xv H'' _ hi s' g'.1 hy hd
      dsimp only at post'
      rw [List.drop_eq_getElem_cons hi] at post'
      unfold forM' at post'
      obtain ⟨ρ2, e2, post'⟩ := POut.liftC post'
      have rs2 := rs'.grow s' g2
      have gw := g'.trans (.of rs'.ent g2)
      refine ⟨ρ', G2, dc', _, ρ2, s2, rs2, dv2, e2, fun σ2 rs3 _ _ => ⟨ρ2, G2, dc', s2, rs3, ?_⟩⟩
      have post' := post'.grow (GrowS.of rs'.ent g2)
      show POut p W _ G2 (dSs n C body ρ2 dc')
      cases hm : dSs n C body ρ2 dc' with
      | st =>
        rw [bind_stt hm] at post'
        exact post'
      | er c dc2 =>
        rw [bind_er hm] at post'
        exact post'
      | ok f dc2 =>
        rw [bind_ok hm] at post'
        cases f with
        | nx ρ3 => exact fun σ3 G3 H3 s3 g3 rs3 => ⟨ρ3, G3, dc2, s3, gw.trans g3, rs3, post'.grow g3⟩
        | ct ρ3 => exact fun σ3 G3 H3 s3 g3 rs3 => ⟨ρ3, G3, dc2, s3, gw.trans g3, rs3, post'.grow g3⟩
        | bk ρ3 => exact post'
        | rt d ρ'' => exact post'
    · rintro σ' H' ⟨ρ', G', dc', s', g', rs', post'⟩
      dsimp only at post'
      rw [List.drop_length] at post'
      exact post' σ' G' H' s' (.refl _ _) rs'
  · exact ps_no (sS_no fun ρ => by
      show (if (!itOk tg it) = true then M.st else _) = _
      rw [if_pos (by simpa using ht)])
theorem s_while (h : IH n) (x : SOk p C k W X) {t : Expr} {body : List Stmt} {pos : Pos} (hb : PSs X body (sS p W fun ρ => dSs n C body ρ)) : PS X (.While t body [] pos) (sS p W fun ρ => dS (n + 1) C (.While t body [] pos) ρ) := by
  refine ps_frz (es := esc n C true t) (f := fun ρ1 => whileM (fun ρ => dT n C t ρ) (dSs n C body) 1000000 ρ1) (ps_while x.hp (h.T x.toXOk t) hb) fun D σ H ρ G dc gs rs post => ?_
  refine ⟨PvF p W D G fun i ρ => whileM (fun ρ => dT n C t ρ) (dSs n C body) i ρ, ⟨1000000, _, G, dc, gs, .refl _ _, rs, post⟩, ?_⟩
  rintro m σ' H' ⟨ρ', G', dc', s', g', rs', post'⟩
  dsimp only at post'
  cases m with
  | zero => exact (show False from post').elim
  | succ m =>
    unfold whileM at post'
    refine ⟨ρ', G', dc', s', rs', POut.seq rs' post' fun c dc1 v G1 H1 gs1 g1 r1 post => ?_⟩
    cases (show v = c from r1)
    have rs1 := rs'.grow s' g1
    have gw := g'.trans (.of rs'.ent g1)
    cases c with
    | false =>
      rw [if_neg (by decide)]
      exact post σ' G1 H1 gs1 (.refl _ _) rs1
    | true =>
      rw [if_pos rfl]
      rw [if_pos rfl] at post
      refine ⟨PvF p W D G (fun i ρ => whileM (fun ρ => dT n C t ρ) (dSs n C body) i ρ) m, fun σ3 H3 q => ⟨m, Nat.lt_succ_self m, q⟩, ρ', G1, dc1, gs1, rs1, ?_⟩
      show POut p W _ G1 (dSs n C body ρ' dc1)
      cases hm : dSs n C body ρ' dc1 with
      | st =>
        rw [bind_stt hm] at post
        exact post
      | er c dc2 =>
        rw [bind_er hm] at post
        exact post
      | ok f dc2 =>
        rw [bind_ok hm] at post
        cases f with
        | nx ρ3 => exact fun σ3 G3 H3 s3 g3 rs3 => ⟨ρ3, G3, dc2, s3, gw.trans g3, rs3, post.grow g3⟩
        | ct ρ3 => exact fun σ3 G3 H3 s3 g3 rs3 => ⟨ρ3, G3, dc2, s3, gw.trans g3, rs3, post.grow g3⟩
        | bk ρ3 => exact post
        | rt d ρ'' => exact post
end
end Px
set_option maxRecDepth 100000
set_option maxHeartbeats 4000000
/-! PS20: several names at once. -/
namespace Px
open PySem PySem.Spec PyProof.Rows L2 RZ
section
variable {p : Pk} {C : Cn} {k : Nat} {W : WX} {X : Cx} {n : Nat} {b : Bool} {m : Md} {G H G1 H1 : Hp} {dc : Dc} {ρ : En} {σ : St} {D : Ends}
theorem RS.setOw2 {i : Nat} {a : Addr} {d : Px.D} (no : ∀ (j : Nat) (e : Px.D), ρ[j]? = some (.ow e) → σ[j]? = some (some (.ref a)) → False) (r : RS p ρ σ G1 H1) (w : OWn p G1 H1 a d) : RS p (ρ.set i (.ow d)) (σ.set i (some (.ref a))) G1 H1 := by
  by_cases hi : i < ρ.length
  · have hi' : i < σ.length := by rw [← r.len]; exact hi
    refine ⟨by rw [List.length_set, List.length_set]; exact r.len, fun j e q => ?_, fun j e q => ?_, fun j e q => ?_, fun j l e f c q1 q2 q3 q4 => ?_, r.ent, r.hb⟩
    · rw [set_at hi] at q
      rw [set_at hi']
      by_cases ej : j = i
      · rw [if_pos ej] at q
        cases q
      · rw [if_neg ej] at q ⊢
        exact r.va j e q
    · rw [set_at hi] at q
      rw [set_at hi']
      by_cases ej : j = i
      · rw [if_pos ej] at q
        cases q
      · rw [if_neg ej] at q ⊢
        exact r.la j e q
    · rw [set_at hi] at q
      rw [set_at hi']
      by_cases ej : j = i
      · rw [if_pos ej] at q ⊢
        cases q
        exact ⟨a, rfl, w⟩
      · rw [if_neg ej] at q ⊢
        exact r.ow j e q
    · rw [set_at hi] at q1 q2
      rw [set_at hi'] at q3 q4
      by_cases ej : j = i
      · by_cases el : l = i
        · rw [ej, el]
        · rw [if_pos ej] at q3
          cases q3
          rw [if_neg el] at q2 q4
          exact (no l f q2 q4).elim
      · rw [if_neg ej] at q1 q3
        by_cases el : l = i
        · rw [if_pos el] at q4
          cases q4
          exact (no j e q1 q3).elim
        · rw [if_neg el] at q2 q4
          exact r.dj j l e f c q1 q2 q3 q4
  · rw [List.set_eq_of_length_le (by omega), List.set_eq_of_length_le (by rw [← r.len]; omega)]
    exact r
/-- what is to be stored, and is not at B -/
def Pend (p : Pk) (G H : Hp) : (Addr → Prop) → List Expr → List Px.D → List V → Prop
  | _, [], [], vs => vs = []
  | B, e :: es, d :: ds, vs => ∃ v r, vs = v :: r ∧ ((∃ a, v = .ref a ∧ (fresh e && cont d) = true ∧ OWn p G H a d ∧ ¬ B a) ∨ ((fresh e && cont d) = false ∧ DV p.K p.da G d v)) ∧ Pend p G H (fun a => B a ∨ ((fresh e && cont d) = true ∧ v = .ref a)) es ds r
  | _, _, _, _ => False
theorem Pend.mono : ∀ {es : List Expr} {ds : List Px.D} {vs : List V} {B B' : Addr → Prop}, Pend p G H B es ds vs → (∀ a, B' a → B a) → Pend p G H B' es ds vs
  | [], [], _, _, _, h, _ => h
  | e :: es, d :: ds, _, _, _, ⟨v, r, e1, h1, h2⟩, i => ⟨v, r, e1, by
      rcases h1 with ⟨a, q1, q2, q3, q4⟩ | h1
      · exact .inl ⟨a, q1, q2, q3, fun z => q4 (i a z)⟩
      · exact .inr h1, h2.mono fun a z => z.elim (fun z => .inl (i a z)) .inr⟩
  | [], _ :: _, _, _, _, h, _ => h.elim
  | _ :: _, [], _, _, _, h, _ => h.elim
theorem Pend.length : ∀ {es : List Expr} {ds : List Px.D} {vs : List V} {B : Addr → Prop}, Pend p G H B es ds vs → vs.length = es.length ∧ ds.length = es.length
  | [], [], _, _, h => by cases h; exact ⟨rfl, rfl⟩
  | e :: es, d :: ds, _, _, ⟨v, r, e1, h1, h2⟩ => by
    subst e1
    obtain ⟨q1, q2⟩ := h2.length
    exact ⟨by rw [List.length_cons, List.length_cons, q1], by rw [List.length_cons, List.length_cons, q2]⟩
  | [], _ :: _, _, _, h => h.elim
  | _ :: _, [], _, _, h => h.elim
def setAll : St → List Nat → List V → St
  | σ, i :: is, v :: vs => setAll (σ.set i (some v)) is vs
  | σ, _, _ => σ
theorem par_store : ∀ {ys : List Str} {es : List Expr} {ds : List Px.D} {vs : List V} {B : Addr → Prop} {ρ ρ' : En} {σ : St}, RS p ρ σ G H → (∀ (j : Nat) e a, ρ[j]? = some (.ow e) → σ[j]? = some (some (.ref a)) → B a) → Pend p G H B es ds vs → parS C ys es ds ρ = some ρ' → RS p ρ' (setAll σ (ys.map (ixOf C.N)) vs) G H
  | [], [], [], _, _, _, _, _, rs, _, h, e => by
    cases h
    cases e
    exact rs
  | y :: ys, e :: es, d :: ds, _, B, ρ, ρ', σ, rs, hB, ⟨v, r, e1, h1, h2⟩, q => by
    subst e1
    have q : (storeN C y (slotOf e d) ρ).bind (fun ρ' => parS C ys es ds ρ') = some ρ' := q
    obtain ⟨ρ1, q1, q2⟩ := Option.bind_eq_some_iff.mp q
    unfold storeN at q1
    split at q1
    · cases q1
      have rs1 : RS p (ρ.set (ixOf C.N y) (slotOf e d)) (σ.set (ixOf C.N y) (some v)) G H := by
        unfold slotOf
        rcases h1 with ⟨a, rfl, hf, w, nb⟩ | ⟨hf, dv⟩
        · rw [if_pos hf]
          exact rs.setOw2 (fun j f z1 z2 => nb (hB j f a z1 z2)) w
        · rw [if_neg (by rw [hf]; decide)]
          exact rs.setVa dv
      show RS p ρ' (setAll (σ.set (ixOf C.N y) (some v)) (ys.map (ixOf C.N)) r) G H
      refine par_store (ys := ys) rs1 (fun j f a z1 z2 => ?_) h2 q2
      by_cases hi : ixOf C.N y < ρ.length
      · have hi' : ixOf C.N y < σ.length := by rw [← rs.len]; exact hi
        rw [set_at hi] at z1
        rw [set_at hi'] at z2
        by_cases ej : j = ixOf C.N y
        · rw [if_pos ej] at z1 z2
          cases z2
          refine .inr ⟨?_, rfl⟩
          rcases h1 with ⟨a, _, hf, _⟩ | ⟨hf, _⟩
          · exact hf
          · unfold slotOf at z1
            rw [if_neg (by rw [hf]; decide)] at z1
            cases z1
        · rw [if_neg ej] at z1 z2
          exact .inl (hB j f a z1 z2)
      · rw [List.set_eq_of_length_le (by omega)] at z1
        rw [List.set_eq_of_length_le (by rw [← rs.len]; omega)] at z2
        exact .inl (hB j f a z1 z2)
    · cases q1
  | [], [], _ :: _, _, _, _, _, _, _, _, h, _ => h.elim
  | [], _ :: _, _, _, _, _, _, _, _, _, _, q => by cases q
  | _ :: _, [], _, _, _, _, _, _, _, _, _, q => by cases q
  | _ :: _, _ :: _, [], _, _, _, _, _, _, _, h, _ => h.elim
/-- the values, one after another, each newer than the heap where it begins -/
def tAf (p : Pk) (W : WX) (n : Nat) (C : Cn) : List Expr → TA
  | [] => tNil
  | e :: es => tCons (tEf p W (mdOf e) fun ρ => dE n false C e ρ) (tAf p W n C es)
theorem pa_f (h : IH n) (x : XOk p C k W X) : ∀ (es : List Expr), noStar es = true → PA X es (tAf p W n C es)
  | [], _ => pa_nil
  | e :: es, hs => pa_cons (pe_f fun H => h.E (x.at' H) false (mdOf e) e (mdOf_ok e)) (pa_f h x es (noStar_cons hs).2) (star_cons hs)
theorem Pend.grow (gs : GS p dc G H) (g : Grow p.da G H G1 H1) : ∀ {es : List Expr} {ds : List Px.D} {vs : List V} {B : Addr → Prop}, Pend p G H B es ds vs → Pend p G1 H1 B es ds vs
  | [], [], _, _, h => h
  | e :: es, d :: ds, _, _, ⟨v, r, e1, h1, h2⟩ => ⟨v, r, e1, by
      rcases h1 with ⟨a, q1, q2, q3, q4⟩ | ⟨q1, q2⟩
      · exact .inl ⟨a, q1, q2, q3.grow g gs.hd, q4⟩
      · exact .inr ⟨q1, DV.mono g.sub _ _ q2⟩, Pend.grow gs g h2⟩
  | [], _ :: _, _, _, h => h.elim
  | _ :: _, [], _, _, h => h.elim
theorem rv_item {e : Expr} {d : Px.D} {v : V} (rv : RV (p.at' H) (mdOf e) G1 H1 d v) : (∃ a, v = .ref a ∧ (fresh e && cont d) = true ∧ OWn p G1 H1 a d ∧ ¬ H a ≠ none) ∨ ((fresh e && cont d) = false ∧ DV p.K p.da G1 d v) := by
  unfold mdOf at rv
  cases hf : fresh e with
  | false =>
    rw [hf] at rv
    exact .inr ⟨rfl, rv⟩
  | true =>
    rw [hf] at rv
    have rv : if cont d then ∃ a, v = .ref a ∧ OWn (p.at' H) G1 H1 a d ∧ H a = none else DV p.K p.da G1 d v := rv
    cases hc : cont d with
    | false =>
      rw [hc] at rv
      exact .inr ⟨rfl, rv⟩
    | true =>
      rw [hc] at rv
      obtain ⟨a, e, w, hn⟩ := (show ∃ a, v = .ref a ∧ OWn (p.at' H) G1 H1 a d ∧ H a = none from rv)
      exact .inl ⟨a, e, rfl, w.off, fun z => z hn⟩
theorem par_imp : ∀ {es : List Expr} {kk : List Px.D → M Fl} {G H : Hp} {dc : Dc} {Q : List V → Hp → Prop}, GS p dc G H → RS p ρ σ G H → POut p W D G ((seqM (es.map fun e => dE n false C e ρ) >>= kk) dc) →
    (∀ ds vs G1 H1 dc1, GS p dc1 G1 H1 → Grow p.da G H G1 H1 → Pend p G1 H1 (fun a => H a ≠ none) es ds vs → POut p W D G1 (kk ds dc1) → Q vs H1) → tAf p W n C es σ H Q
  | [], kk, G, H, dc, Q, gs, rs, post, fin => fin [] [] G H dc gs (.refl _ _ _) rfl post
  | e :: es, kk, G, H, dc, Q, gs, rs, post, fin => by
    have post : POut p W D G ((dE n false C e ρ >>= fun y => seqM (es.map fun e => dE n false C e ρ) >>= fun ys => kk (y :: ys)) dc) := by
      have e1 : (seqM ((e :: es).map fun e => dE n false C e ρ) >>= kk) = (dE n false C e ρ >>= fun y => seqM (es.map fun e => dE n false C e ρ) >>= fun ys => kk (y :: ys)) := by
        rw [List.map_cons]
        show ((dE n false C e ρ >>= fun y => seqM (es.map fun e => dE n false C e ρ) >>= fun ys => pure (y :: ys)) >>= kk) = _
        rw [bind_assocM]
        congr 1
        funext y
        rw [bind_assocM]
        rfl
      rw [← e1]
      exact post
    refine ⟨ρ, G, dc, gs, rs.at', ?_⟩
    have key := POut.seq (p := p) (W := W) (rel := RV (p.at' H) (mdOf e)) (Q' := fun v H1 => tAf p W n C es σ H1 fun vs H2 => Q (v :: vs) H2) rs post fun d dc1 v G1 H1 gs1 g1 r1 post => by
      refine par_imp gs1 (rs.grow gs g1) post fun ds vs G2 H2 dc2 gs2 g2 pd post => ?_
      refine fin (d :: ds) (v :: vs) G2 H2 dc2 gs2 (g1.trans g2) ⟨v, vs, rfl, ?_, ?_⟩ post
      · rcases rv_item r1 with ⟨a, q1, q2, q3, q4⟩ | ⟨q1, q2⟩
        · exact .inl ⟨a, q1, q2, q3.grow g2 gs1.hd, q4⟩
        · exact .inr ⟨q1, DV.mono g2.sub _ _ q2⟩
      · refine pd.mono fun a z => ?_
        rcases z with z | ⟨z1, z2⟩
        · exact g1.ext.2 a z
        · rcases rv_item r1 with ⟨c, q1, q2, q3, q4⟩ | ⟨q1, q2⟩
          · rw [z2] at q1
            cases q1
            obtain ⟨o, q, _⟩ := q3.ow.no_tbl
            rw [q]
            simp
          · rw [q1] at z1
            cases z1
    exact key
theorem nmL_some : ∀ {ts : List Expr} {ys : List Str}, nmL ts = some ys → (ts = [] ∧ ys = []) ∨ ∃ y q r ys', ts = .Name y q :: r ∧ ys = y :: ys' ∧ nmL r = some ys'
  | [], _, h => by cases h; exact .inl ⟨rfl, rfl⟩
  | .Name y q :: r, _, h => by
    have h : (nmL r).map (fun xs => y :: xs) = some _ := h
    obtain ⟨ys', h1, h2⟩ := Option.map_eq_some_iff.mp h
    exact .inr ⟨y, q, r, ys', rfl, h2.symm, h1⟩
def gNs (is : List Nat) : TGs := fun vs σ H Q => vs.length = is.length ∧ Q (setAll σ is vs) H
theorem pgs_names (x : XOk p C k W X) : ∀ {ts : List Expr} {ys : List Str}, nmL ts = some ys → ys.all (stoN C) = true → PGs X ts (gNs (ys.map (ixOf C.N)))
  | [], _, h, _ => by
    cases h
    exact PGs.imp pgs_nil fun vs σ H Q ⟨h1, h2⟩ => by
      cases vs with
      | nil => exact ⟨rfl, h2⟩
      | cons _ _ => cases h1
  | t :: ts, ys, h, ha => by
    rcases nmL_some h with ⟨z, _⟩ | ⟨y, q, r, ys', z, rfl, h1⟩
    · cases z
    · cases z
      rw [List.all_cons, Bool.and_eq_true] at ha
      obtain ⟨hk, hi⟩ := sto_ix ha.1
      obtain ⟨hl, hf⟩ := x.sto y hk
      refine PGs.imp (pgs_cons (pg_name (i := ixOf C.N y) (by rw [x.N]; exact x.nd) (by rw [x.N]; exact hi) hl hf) (pgs_names x h1 ha.2) rfl) fun vs σ H Q ⟨z1, z2⟩ => ?_
      cases vs with
      | nil => cases z1
      | cons v vs => exact ⟨v, vs, rfl, Nat.succ.inj z1, z2⟩
theorem nm_noStar : ∀ {ts : List Expr} {ys : List Str}, nmL ts = some ys → noStar ts = true ∧ ts.length = ys.length
  | [], _, h => by cases h; exact ⟨rfl, rfl⟩
  | t :: ts, ys, h => by
    rcases nmL_some h with ⟨z, _⟩ | ⟨y, q, r, ys', z, rfl, h1⟩
    · cases z
    · cases z
      obtain ⟨a, b⟩ := nm_noStar h1
      exact ⟨by
        unfold noStar
        rw [List.all_cons, Bool.and_eq_true]
        exact ⟨rfl, a⟩, by rw [List.length_cons, List.length_cons, b]⟩
end
end Px
set_option maxRecDepth 100000
set_option maxHeartbeats 4000000
/-! PS21: several names at once: the statement. -/
namespace Px
open PySem PySem.Spec PyProof.Rows L2 RZ
def swF (env : Env) (line : Nat) : Expr → Option Str
  | .Name id pos => if env.kindOf id == some .local && pos.line == line then some id else none
  | _ => none
theorem swF_all {env : Env} {line : Nat} : ∀ {ts : List Expr} {ys : List Str}, nmL ts = some ys → (ts.filterMap (swF env line)).length = ts.length → ts.filterMap (swF env line) = ys ∧ ∀ y ∈ ys, env.scope.names.lookup y = some .local
  | [], _, h, _ => by cases h; exact ⟨rfl, fun _ h => by cases h⟩
  | t :: ts, ys, h, hl => by
    rcases nmL_some h with ⟨z, _⟩ | ⟨y, q, r, ys', z, rfl, h1⟩
    · cases z
    · cases z
      rw [List.filterMap_cons] at hl ⊢
      have hle := List.length_filterMap_le (swF env line) ts
      cases hs : swF env line (.Name y q) with
      | none =>
        rw [hs] at hl
        have hl : (ts.filterMap (swF env line)).length = ts.length + 1 := hl
        omega
      | some z =>
        rw [hs] at hl
        obtain ⟨e1, e2⟩ := swF_all h1 (Nat.succ.inj hl)
        have hs' : (if env.kindOf y == some .local && q.line == line then some y else none) = some z := hs
        split at hs'
        · rename_i hc
          cases hs'
          rw [Bool.and_eq_true] at hc
          refine ⟨by dsimp only; rw [e1], fun w hw => ?_⟩
          rcases List.mem_cons.mp hw with rfl | hw
          · exact eq_of_beq hc.1
          · exact e2 w hw
        · cases hs'
theorem sw_cases {ts es : List Expr} {ys : List Str} {kt pt k2 pt2} {env : Env} (hn : nmL ts = some ys) (hs : noStar es = true) (hf : (es.all (foldedForSure 8) || !es.all (constantsAlone 8)) = true) :
    swappedStores [.Tuple ts kt pt] (.Tuple es k2 pt2) env = pure none ∨ (swappedStores [.Tuple ts kt pt] (.Tuple es k2 pt2) env = pure (some ys) ∧ (ys.length = 2 ∨ ys.length = 3) ∧ es.length = ys.length ∧ ys.eraseDups.length = ys.length ∧ ∀ y ∈ ys, env.scope.names.lookup y = some .local) := by
  have e : swappedStores [.Tuple ts kt pt] (.Tuple es k2 pt2) env = (if !(ts.length == 2 || ts.length == 3) || es.length != ts.length || env.blockKind != .function then pure none else
    if (es.any fun | .Starred .. => true | _ => false) then pure none else
    if (ts.filterMap (swF env ((ts.head?.map (·.pos.line)).getD 0))).length != ts.length || (ts.filterMap (swF env ((ts.head?.map (·.pos.line)).getD 0))).eraseDups.length != (ts.filterMap (swF env ((ts.head?.map (·.pos.line)).getD 0))).length then pure none else
    if es.all (foldedForSure 8) then pure none else if es.all (constantsAlone 8) then unsupported "assign.tuple-of-constant-expressions:order-of-the-stores" else
    pure (some (ts.filterMap (swF env ((ts.head?.map (·.pos.line)).getD 0))))) := by
    have fe : (fun x : Expr => match x with
      | .Name id pos => if env.kindOf id == some .local && pos.line == ((ts.head?.map (·.pos.line)).getD 0) then some id else none
      | _ => none) = swF env ((ts.head?.map (·.pos.line)).getD 0) := by
      funext x
      cases x <;> rfl
    rw [← fe]
    unfold swappedStores
    rfl
  rw [e]
  split
  · exact .inl rfl
  · rename_i c1
    split
    · exact .inl rfl
    · split
      · exact .inl rfl
      · rename_i c3
        split
        · exact .inl rfl
        · rename_i c4
          split
          · rename_i c5
            rw [c5] at hf
            simp at hf
            simp at c4
            obtain ⟨z, hz, q⟩ := c4
            rw [hf z hz] at q
            cases q
          · refine .inr ?_
            simp only [Bool.or_eq_true, bne_iff_ne, ne_eq, not_or, Decidable.not_not, Bool.not_eq_true', Bool.or_eq_false_iff, beq_eq_false_iff_ne, not_and] at c1 c3
            obtain ⟨q1, q2⟩ := swF_all hn c3.1
            have hl := (nm_noStar hn).2
            refine ⟨by rw [q1], ?_, by rw [← hl]; exact c1.1.2, by rw [q1] at c3; exact c3.2, q2⟩
            rw [← hl]
            by_cases h2 : ts.length = 2
            · exact .inl h2
            · exact .inr (c1.1.1 h2)
section
variable {p : Pk} {C : Cn} {k : Nat} {W : WX} {X : Cx} {n : Nat} {b : Bool} {m : Md} {G H G1 H1 : Hp} {dc : Dc} {ρ : En} {σ : St} {D : Ends}
theorem dup2 {x y : Str} (h : [x, y].eraseDups.length = 2) : x ≠ y := fun z => by
  subst z
  simp [List.eraseDups_cons] at h
theorem one_dup {z : Str} : [z].eraseDups.length = 1 := by simp [List.eraseDups_cons]
theorem dup3 {x y z : Str} (h : [x, y, z].eraseDups.length = 3) : x ≠ y ∧ x ≠ z ∧ y ≠ z := by
  rw [List.eraseDups_cons] at h
  have hle : ∀ l : List Str, l.length ≤ 1 → l.eraseDups.length ≤ 1 := fun l hl => by
    match l, hl with
    | [], _ => simp
    | [w], _ => rw [one_dup]; decide
  have h' := Nat.succ.inj h
  by_cases e1 : x = y
  · subst e1
    have : (List.filter (fun b => !b == x) [x, z]).length ≤ 1 := by
      rw [List.filter_cons]
      simp
      exact List.length_filter_le _ [z]
    have := hle _ this
    omega
  · by_cases e2 : x = z
    · subst e2
      have : (List.filter (fun b => !b == x) [y, x]).length ≤ 1 := by
        rw [List.filter_cons, List.filter_cons]
        simp
        split <;> simp
      have := hle _ this
      omega
    · refine ⟨e1, e2, fun e3 => ?_⟩
      subst e3
      have e : List.filter (fun b => !b == x) [y, y] = [y, y] := by
        have : (y == x) = false := by simp; exact fun z => e1 z.symm
        simp [List.filter_cons, this]
      rw [e] at h'
      exact dup2 h' rfl
theorem len2 {α : Type} {l : List α} (h : l.length = 2) : ∃ a b, l = [a, b] := by
  match l, h with
  | [a, b], _ => exact ⟨a, b, rfl⟩
theorem len3 {α : Type} {l : List α} (h : l.length = 3) : ∃ a b c, l = [a, b, c] := by
  match l, h with
  | [a, b, c], _ => exact ⟨a, b, c, rfl⟩
theorem nm0 {ts : List Expr} (h : nmL ts = some []) : ts = [] := by
  rcases nmL_some h with ⟨z, _⟩ | ⟨_, _, _, _, _, z, _⟩
  · exact z
  · cases z
theorem nmC {ts : List Expr} {y : Str} {ys : List Str} (h : nmL ts = some (y :: ys)) : ∃ q r, ts = .Name y q :: r ∧ nmL r = some ys := by
  rcases nmL_some h with ⟨_, z⟩ | ⟨_, q, r, _, rfl, z, h1⟩
  · cases z
  · cases z
    exact ⟨q, r, rfl, h1⟩
theorem ix_ne {N : List Str} {x y : Str} (hx : N[ixOf N x]? = some x) (hy : N[ixOf N y]? = some y) (h : x ≠ y) : ixOf N x ≠ ixOf N y := fun z => by
  rw [z, hy] at hx
  cases hx
  exact h rfl
/-- behind the values -/
theorem par_fin {ys : List Str} {es : List Expr} (gs : GS p dc G H) (rs : RS p ρ σ G H) (post : POut p W D G ((seqM (es.map fun e => dE n false C e ρ) >>= fun ds => lift ((parS C ys es ds ρ).map .nx)) dc)) {Q : List V → Hp → Prop}
    (fin : ∀ vs H1, vs.length = es.length → (D.nx (setAll σ (ys.map (ixOf C.N)) vs) H1) → (∀ q, H1 q = none → D.nx (setAll σ (ys.map (ixOf C.N)) vs) (upd H1 q (.tup vs))) → Q vs H1) : tAf p W n C es σ H Q := by
  refine par_imp gs rs post fun ds vs G1 H1 dc1 gs1 g1 pd post => ?_
  obtain ⟨fl, e1, post⟩ := POut.lift post
  obtain ⟨ρ', e2, rfl⟩ := Option.map_eq_some_iff.mp e1
  have hB : ∀ (j : Nat) e a, ρ[j]? = some (.ow e) → σ[j]? = some (some (.ref a)) → H a ≠ none := fun j e a z1 z2 => by
    obtain ⟨c, h1, h2⟩ := rs.ow j e z1
    rw [z2] at h1
    cases h1
    obtain ⟨o, q, _⟩ := h2.ow.no_tbl
    rw [q]
    simp
  have rs1 := rs.grow gs g1
  refine fin vs H1 pd.length.1 (post _ G1 H1 gs1 (.refl _ _) (par_store rs1 hB pd e2)) fun q hq => ?_
  exact post _ G1 _ (gs1.newH hq) (.refl _ _) (par_store (rs1.grow gs1 (Grow.newH p.da hq)) hB (pd.grow gs1 (Grow.newH p.da hq)) e2)
theorem s_par (h2 : IH2 n) (x : SOk p C k W X) {ts es : List Expr} {ys : List Str} {j j2} {pt p2 pos : Pos} (hn : nmL ts = some ys) :
    PS X (.Assign [.Tuple ts j pt] (.Tuple es j2 p2) pos) (sS p W fun ρ => dS (n + 1) C (.Assign [.Tuple ts j pt] (.Tuple es j2 p2) pos) ρ) := by
  have hd : ∀ ρ, dS (n + 1) C (.Assign [.Tuple ts j pt] (.Tuple es j2 p2) pos) ρ = if parOk C ys es = true then (seqM (es.map fun e => dE n false C e (frz ρ (es.flatMap fun e => esc n C false e))) >>= fun ds => lift ((parS C ys es ds (frz ρ (es.flatMap fun e => esc n C false e))).map .nx)) else M.st := fun ρ => by
    show sTupF n C ts j pt (.Tuple es j2 p2) ρ = _
    unfold sTupF
    rw [hn]
    show (if parOk C ys es = true then _ else _) = _
    by_cases hp : parOk C ys es = true
    · rw [if_pos hp, if_pos hp]
      have hp' := hp
      unfold parOk at hp'
      simp only [Bool.and_eq_true] at hp'
      have q : (fun ds => (lift ((parS C ys es ds (frz ρ (es.flatMap fun e => esc n C false e))).map .nx) : M Fl)) = fun ds => lift ((parQ (parL C ys es) ds (frz ρ (es.flatMap fun e => esc n C false e))).map .nx) := funext fun ds => by rw [parS_eq hp'.1.1.1.1 (of_decide_eq_true hp'.1.1.1.2)]
      rw [q]
    · rw [if_neg hp, if_neg hp]
  by_cases hp : parOk C ys es = true
  · have e1 : (fun ρ => dS (n + 1) C (.Assign [.Tuple ts j pt] (.Tuple es j2 p2) pos) ρ) = fun ρ => (fun ρ1 => seqM (es.map fun e => dE n false C e ρ1) >>= fun ds => lift ((parS C ys es ds ρ1).map .nx)) (frz ρ (es.flatMap fun e => esc n C false e)) := funext fun ρ => by rw [hd, if_pos hp]
    rw [e1]
    have hp' := hp
    unfold parOk at hp'
    simp only [Bool.and_eq_true] at hp'
    obtain ⟨⟨⟨⟨ha, hl⟩, hk⟩, hf⟩, hs⟩ := hp'
    have hl := of_decide_eq_true hl
    have hk := of_decide_eq_true hk
    have pa := pa_f h2.ih x.toXOk es hs
    rcases sw_cases (kt := j) (pt := pt) (k2 := j2) (pt2 := p2) (env := X.env) hn hs hf with sw | ⟨sw, h23, hel, hdup, hloc⟩
    · obtain ⟨a1, a2⟩ := assignEach_star (env := X.env) (nm_noStar hn).1
      refine ps_frz (es := es.flatMap fun e => esc n C false e) (f := fun ρ1 => seqM (es.map fun e => dE n false C e ρ1) >>= fun ds => lift ((parS C ys es ds ρ1).map .nx)) (ps_asg (pe_tup pa) (pg_tup (n := ts.length) x.calm (pgs_names x.toXOk hn ha) a1 a2) rfl sw) fun D σ H ρ G dc gs rs post => ?_
      refine par_fin gs rs post fun vs H1 h1 h3 h4 => ⟨by rw [h1, hl]; exact Nat.le_trans hk (by decide), fun q hq => ⟨q, vs, rfl, .inl (.inl upd_same), by rw [h1, hl, (nm_noStar hn).2], by rw [List.length_map, h1, hl], h4 q hq⟩⟩
    · have at' : ∀ y ∈ ys, C.N[ixOf C.N y]? = some y := fun y hy => (sto_ix (List.all_eq_true.mp ha y hy)).2
      have hN : X.N.Nodup := by rw [x.N]; exact x.nd
      have atX : ∀ y ∈ ys, X.N[ixOf C.N y]? = some y := fun y hy => by rw [x.N]; exact at' y hy
      rcases h23 with h | h
      · obtain ⟨y1, y2, rfl⟩ := len2 h
        obtain ⟨q1, r1, rfl, hn1⟩ := nmC hn
        obtain ⟨q2, r2, rfl, hn2⟩ := nmC hn1
        obtain rfl := nm0 hn2
        obtain ⟨a, b, rfl⟩ := len2 (hl.trans h)
        have m1 : y1 ∈ [y1, y2] := by simp
        have m2 : y2 ∈ [y1, y2] := by simp
        refine ps_frz (es := [a, b].flatMap fun e => esc n C false e) (f := fun ρ1 => seqM ([a, b].map fun e => dE n false C e ρ1) >>= fun ds => lift ((parS C [y1, y2] [a, b] ds ρ1).map .nx))
          (ps_par x.calm hN (atX _ m1) (atX _ m2) (ix_ne (at' _ m1) (at' _ m2) (dup2 hdup)) (hloc _ m1) (hloc _ m2) pa sw rfl) fun D σ H ρ G dc gs rs post => ?_
        refine par_fin gs rs post fun vs H1 h1 h3 h4 => ?_
        obtain ⟨v, w, rfl⟩ := len2 h1
        exact ⟨v, w, rfl, h3⟩
      · obtain ⟨y1, y2, y3, rfl⟩ := len3 h
        obtain ⟨q1, r1, rfl, hn1⟩ := nmC hn
        obtain ⟨q2, r2, rfl, hn2⟩ := nmC hn1
        obtain ⟨q3, r3, rfl, hn3⟩ := nmC hn2
        obtain rfl := nm0 hn3
        obtain ⟨a, b, c, rfl⟩ := len3 (hl.trans h)
        have m1 : y1 ∈ [y1, y2, y3] := by simp
        have m2 : y2 ∈ [y1, y2, y3] := by simp
        have m3 : y3 ∈ [y1, y2, y3] := by simp
        obtain ⟨d1, d2, d3⟩ := dup3 hdup
        refine ps_frz (es := [a, b, c].flatMap fun e => esc n C false e) (f := fun ρ1 => seqM ([a, b, c].map fun e => dE n false C e ρ1) >>= fun ds => lift ((parS C [y1, y2, y3] [a, b, c] ds ρ1).map .nx))
          (ps_par3 x.calm hN (atX _ m1) (atX _ m2) (atX _ m3) (ix_ne (at' _ m1) (at' _ m2) d1) (ix_ne (at' _ m1) (at' _ m3) d2) (ix_ne (at' _ m2) (at' _ m3) d3) (hloc _ m1) (hloc _ m2) (hloc _ m3) pa sw rfl) fun D σ H ρ G dc gs rs post => ?_
        refine par_fin gs rs post fun vs H1 h1 h3 h4 => ?_
        obtain ⟨u, v, w, rfl⟩ := len3 h1
        exact ⟨u, v, w, rfl, h3⟩
  · exact ps_no (sS_no fun ρ => by rw [hd, if_neg hp])
end
end Px
set_option maxRecDepth 100000
set_option maxHeartbeats 4000000
/-! PS22: changes in place. -/
namespace Px
open PySem PySem.Spec PyProof.Rows L2 RZ
section
variable {p : Pk} {C : Cn} {k : Nat} {W : WX} {X : Cx} {n : Nat} {b : Bool} {m : Md} {G H G1 H1 : Hp} {dc : Dc} {ρ : En} {σ : St} {D : Ends} {pins : List (Addr × Obj)} {s : Shared} {a : Addr}
/-- o[i] = v at a thing of its own -/
def rSet (p : Pk) : TSet := fun o i v H Q => ∃ a G dc c kD vD c', GS p dc G H ∧ o = .ref a ∧ OWn p G H a c ∧ DV p.K p.da G kD i ∧ DV p.K p.da G vD v ∧ setC c kD vD = some c' ∧
  ∀ o', ownO o' = true → OWn p G (upd H a o') a c' → Q (upd H a o')
theorem set_any (hu : X.A.units + 1 < cLine) : PSet X (rSet p) := by
  intro pins s σ H o i v ov iv u Q I ro ri rv ⟨a, G, dc, c, kD, vD, c', gs, eo, w, dk, dv, e, q⟩
  subst eo
  have own : ∀ {o'}, OW p G (upd H a o') a c' → OWn p G (upd H a o') a c' := fun h => ⟨h, w.gn, w.nd, w.h0⟩
  cases c with
  | lst xs =>
    obtain ⟨vs, h1, h2⟩ := w.ow
    cases kD with
    | int j =>
      cases (show i = .int j from dk)
      have e : (ixN xs.length j).map (fun j => Px.D.lst (xs.set j vD)) = some c' := e
      obtain ⟨jj, e1, rfl⟩ := Option.map_eq_some_iff.mp e
      refine set_list pins s σ H _ _ v ov iv u Q I ro ri rv ⟨a, vs, j, jj, rfl, rfl, h1, ?_, ?_⟩
      · rw [h2.length]; exact e1
      · exact q _ rfl (own ⟨_, upd_same, h2.set jj dv⟩)
    | _ => cases e
  | dic kvs =>
    have e : (putD kD vD kvs).map Px.D.dic = some c' := by cases kD <;> exact e
    obtain ⟨kvs', e1, rfl⟩ := Option.map_eq_some_iff.mp e
    unfold putD at e1
    split at e1
    · rename_i hc
      cases e1
      rw [Bool.and_eq_true, decide_eq_true_eq] at hc
      rcases DK.of I gs hc.1 dk w.gn w.ow with ⟨H', ws, k', I', h1, h2, h3, g1, g2, rfl⟩ | ⟨H', ws, k', b, I', h1, h2, h3, g1, g2, rfl, h4⟩
      · have hl := g1.length
        refine set_dict hu pins s σ H' _ _ v ov iv u Q I' ro ri rv ⟨a, _, rfl, DPut.k h1 (by rw [hl, ← szL_eq]; exact hc.2), ?_⟩
        rw [h2]
        exact q _ rfl (own (.inl ⟨_, upd_same, (DVg.put sameK_flat g2 dv g1).k⟩))
      · have hl := g1.length
        refine set_dict hu pins s σ H' _ _ v ov iv u Q I' ro ri rv ⟨a, _, rfl, DPut.t h1 h4 (by rw [hl, ← szL_eq]; exact hc.2), ?_⟩
        rw [h2]
        exact q _ rfl (own (.inr ⟨_, upd_same, (DVg.put sameK_tup g2 dv g1).t⟩))
    · cases e1
  | _ => cases kD <;> cases e
/-- the dice too -/
def rSetM (p : Pk) : TSet := fun o i v H Q => rSet p o i v H Q ∨ ∃ a G dc dc' kD vD, GS p dc G H ∧ p.da = some a ∧ o = .ref a ∧ DV p.K p.da G kD i ∧ DV p.K p.da G vD v ∧ setDc dc kD vD = some dc' ∧ (H a = some (.lst [.int dc.1, .int dc.2.1, .int dc.2.2]) → Q (upd H a (.lst [.int dc'.1, .int dc'.2.1, .int dc'.2.2])))
theorem set_anyM (hu : X.A.units + 1 < cLine) : PSet X (rSetM p) := by
  intro pins s σ H o i v ov iv u Q I ro ri rv h
  rcases h with h | ⟨a, G, dc, dc', kD, vD, gs, ea, eo, dk, dv, e, q⟩
  · exact set_any (p := p) hu pins s σ H o i v ov iv u Q I ro ri rv h
  · subst eo
    have ha := (gs.dice a ea).1
    have q := q ha
    unfold setDc at e
    split at e
    · rename_i w
      cases e
      cases (show i = .int 0 from dk)
      cases (show v = .int w from dv)
      exact set_list pins s σ H _ _ _ ov iv u Q I ro ri rv ⟨a, _, 0, 0, rfl, rfl, ha, rfl, q⟩
    · rename_i w
      cases e
      cases (show i = .int 1 from dk)
      cases (show v = .int w from dv)
      exact set_list pins s σ H _ _ _ ov iv u Q I ro ri rv ⟨a, _, 1, 1, rfl, rfl, ha, rfl, q⟩
    · rename_i w
      cases e
      cases (show i = .int 2 from dk)
      cases (show v = .int w from dv)
      exact set_list pins s σ H _ _ _ ov iv u Q I ro ri rv ⟨a, _, 2, 2, rfl, rfl, ha, rfl, q⟩
    · cases e
end
end Px
set_option maxRecDepth 100000
set_option maxHeartbeats 4000000
/-! PS23: stores to subscripts, attributes; append, pop. -/
namespace Px
open PySem PySem.Spec PyProof.Rows L2 RZ
section
variable {p : Pk} {C : Cn} {k : Nat} {W : WX} {X : Cx} {n : Nat} {b : Bool} {m : Md} {G H G1 H1 : Hp} {dc : Dc} {ρ : En} {σ : St} {D : Ends} {a : Addr}
theorem RS.updO {i : Nat} {c c' : Px.D} {o' : HO} (rs : RS p ρ σ G H) (hi : ρ[i]? = some (.ow c)) (ha : σ[i]? = some (some (.ref a))) (w : OWn p G H a c) (no : ∀ o x, H a = some o → o ≠ .own x) (w' : OWn p G (upd H a o') a c') : RS p (ρ.set i (.ow c')) σ G (upd H a o') := by
  have hl : i < ρ.length := (List.getElem?_eq_some_iff.mp hi).1
  obtain ⟨o, ho, _⟩ := w.ow.no_tbl
  refine ⟨by rw [List.length_set]; exact rs.len, fun j e q => ?_, fun j e q => ?_, fun j e q => ?_, fun j l e f c q1 q2 q3 q4 => ?_, rs.ent.setO w.h0, fun x h => ?_⟩
  · rw [set_at hl] at q
    by_cases ej : j = i
    · rw [if_pos ej] at q
      cases q
    · rw [if_neg ej] at q
      exact rs.va j e q
  · rw [set_at hl] at q
    by_cases ej : j = i
    · rw [if_pos ej] at q
      cases q
    · rw [if_neg ej] at q
      exact rs.la j e q
  · rw [set_at hl] at q
    by_cases ej : j = i
    · rw [if_pos ej] at q
      cases q
      subst ej
      exact ⟨a, ha, w'⟩
    · rw [if_neg ej] at q
      obtain ⟨x, h1, h2⟩ := rs.ow j e q
      exact ⟨x, h1, h2.setH ho (fun x z => no o x ho z) fun z => by subst z; exact ej (rs.dj j i e c _ q hi h1 ha)⟩
  · have old : ∀ (j : Nat) e, (ρ.set i (.ow c'))[j]? = some (.ow e) → ∃ e', ρ[j]? = some (.ow e') := fun j e q => by
      rw [set_at hl] at q
      by_cases ej : j = i
      · rw [ej]; exact ⟨_, hi⟩
      · rw [if_neg ej] at q
        exact ⟨e, q⟩
    obtain ⟨e1, z1⟩ := old j e q1
    obtain ⟨e2, z2⟩ := old l f q2
    exact rs.dj j l e1 e2 c z1 z2 q3 q4
  · by_cases e : x = a
    · subst e; rw [upd_same]; simp
    · rw [upd_ne e]; exact rs.hb x h
theorem OW.notOwn {c : Px.D} (h : OW p G H a c) : ∀ o x, H a = some o → o ≠ .own x := fun o x e z => by
  subst z
  cases c with
  | lst ds => obtain ⟨_, q, _⟩ := h; rw [e] at q; cases q
  | dic ds => rcases h with ⟨_, q, _⟩ | ⟨_, q, _⟩ <;> (rw [e] at q; cases q)
  | obj _ _ => obtain ⟨_, _, q, _⟩ := h; rw [e] at q; cases q
  | _ => exact h.elim
/-- a name's slot, as it is -/
def tVr (i : Nat) : TE := fun σ H Q => ∃ v, σ[i]? = some (some v) ∧ Q v H
theorem pe_vr (x : XOk p C k W X) {y : Str} {pos : Pos} (hl : locK C.sc y = true) (hm : y ∈ C.N) : PE X (.Name y pos) (tVr (ixOf C.N y)) := by
  have pl := plain_d (loc_plain hl)
  exact PE.imp (pe_var (by rw [x.N]; exact ixOf_at hm) (x.vis y hl) pl.1 pl.2.1) fun σ H Q q => q
theorem POut.owned {i : Nat} {kk : Px.D → M Fl} (h : POut p W D G ((owned ρ i >>= kk) dc)) : ∃ c, ρ[i]? = some (.ow c) ∧ POut p W D G (kk c dc) := by
  unfold Px.owned at h
  split at h
  · rename_i c e
    exact ⟨c, e, h⟩
  · exact (show False from h).elim
theorem lm_parts {y : Str} (h : (locK C.sc y && decide (y ∈ C.N)) = true) : locK C.sc y = true ∧ y ∈ C.N := by
  rw [Bool.and_eq_true, decide_eq_true_eq] at h
  exact h
theorem sub_as {o i : Expr} {ps : Pos} (hi : notSl i = true) : ∀ v, assign (.Subscript o i ps) X.env v = (do
      let ov ← holding [v] (eval o X.env)
      let iv ← holding [v, ov] (eval i X.env)
      standAt ps
      holding [v, ov, iv] (setItem ov iv v)
      release [v, ov, iv] []) := fun v => by
  cases i <;> first | rfl | cases hi
theorem POut.aimed {i : Nat} {kk : Option Px.D → M Fl} (h : POut p W D G ((aimed ρ i >>= kk) dc)) : (∃ c, ρ[i]? = some (.ow c) ∧ POut p W D G (kk (some c) dc)) ∨ (ρ[i]? = some (.va .dice) ∧ POut p W D G (kk none dc)) := by
  unfold Px.aimed at h
  split at h
  · rename_i c e
    exact .inl ⟨c, e, h⟩
  · rename_i e
    exact .inr ⟨e, h⟩
  · exact (show False from h).elim
/-- the dice change -/
theorem GSq.setD {p : Pk} {G H : Hp} {dc dc' : Dc} {a : Addr} (s : GS p dc G H) (ea : p.da = some a) : GS p dc' G (upd H a (.lst [.int dc'.1, .int dc'.2.1, .int dc'.2.2])) := by
  obtain ⟨ha, ga⟩ := s.dice a ea
  refine ⟨fun b u e => ?_, fun b e => ?_, fun q hq => ?_, s.tabf⟩
  · rw [upd_ne (fun z => by subst z; rw [ga] at e; cases e)]
    exact s.sub b u e
  · rw [ea] at e
    cases e
    exact ⟨by rw [upd_same], ga⟩
  · obtain ⟨ps, e, t⟩ := s.tabs q hq
    refine ⟨ps, by rw [upd_ne (fun z => by rw [z, ha] at e; cases e)]; exact e, t.1, fun pos cv hc hp => ?_⟩
    obtain ⟨c, e1, e2⟩ := t.2 pos cv hc hp
    exact ⟨c, e1, by rw [upd_ne (fun z => by rw [z, ha] at e2; cases e2)]; exact e2⟩
theorem RS.setD {dc' : Dc} (rs : RS p ρ σ G H) (gs : GS p dc G H) (ea : p.da = some a) : RS p ρ σ G (upd H a (.lst [.int dc'.1, .int dc'.2.1, .int dc'.2.2])) := by
  obtain ⟨ha, ga⟩ := gs.dice a ea
  refine ⟨rs.len, rs.va, rs.la, fun j e q => ?_, rs.dj, ⟨fun b u e1 h1 h2 => ?_, fun b h => ?_⟩, fun b h => ?_⟩
  · obtain ⟨x, h1, h2⟩ := rs.ow j e q
    exact ⟨x, h1, h2.setH ha (fun x z => by cases z) fun z => by subst z; exact h2.nd ea⟩
  · rw [upd_ne (fun z => by subst z; exact h1 ea)]
    exact rs.ent.1 b u e1 h1 h2
  · by_cases e : b = a
    · subst e; rw [upd_same]; simp
    · rw [upd_ne e]; exact rs.ent.2 b h
  · by_cases e : b = a
    · subst e; rw [upd_same]; simp
    · rw [upd_ne e]; exact rs.hb b h
theorem s_setS (h : IH n) (x : SOk p C k W X) {y : Str} {i e : Expr} {py ps pos : Pos} : PS X (.Assign [.Subscript (.Name y py) i ps] e pos) (sS p W fun ρ => dS (n + 1) C (.Assign [.Subscript (.Name y py) i ps] e pos) ρ) := by
  by_cases hc : (locK C.sc y && decide (y ∈ C.N) && notSl i) = true
  · have e1 : (fun ρ => dS (n + 1) C (.Assign [.Subscript (.Name y py) i ps] e pos) ρ) = fun ρ => (fun ρ1 => dE n false C e ρ1 >>= fun v => Px.aimed ρ1 (ixOf C.N y) >>= fun c => dE n false C i ρ1 >>= fun k => setM ρ1 (ixOf C.N y) c k v) (frz ρ (esc n C false e ++ esc n C false i)) := funext fun ρ => by
      show (if (locK C.sc y && decide (y ∈ C.N) && notSl i) = true then _ else M.st) = _
      rw [if_pos hc]
    rw [e1]
    obtain ⟨hl, hm⟩ := lm_parts (by rw [Bool.and_eq_true] at hc; exact hc.1)
    have hi : notSl i = true := by
      rw [Bool.and_eq_true] at hc
      exact hc.2
    have sl : swapsWithSole [.Subscript (.Name y py) i ps] e pos.line X.env = pure false := by cases e <;> rfl
    have sw : swappedStores [.Subscript (.Name y py) i ps] e X.env = pure none := by cases e <;> rfl
    refine ps_frz (es := esc n C false e ++ esc n C false i) (f := fun ρ1 => dE n false C e ρ1 >>= fun v => Px.aimed ρ1 (ixOf C.N y) >>= fun c => dE n false C i ρ1 >>= fun k => setM ρ1 (ixOf C.N y) c k v)
      (ps_asg (h.E x.toXOk false .va e rfl) (pg_sub (pe_vr x.toXOk hl hm) (h.E x.toXOk false .va i rfl) (set_anyM (p := p) (by have := x.toXOk.u65; omega)) (sub_as hi)) sl sw) fun D σ H ρ G dc gs rs post => ?_
    refine ⟨_, G, dc, gs, rs, POut.seq rs post fun vD dc1 v G1 H1 gs1 g1 dv post => ?_⟩
    have rs1 := rs.grow gs g1
    rcases POut.aimed post with ⟨c, hcρ, post⟩ | ⟨hcρ, post⟩
    · obtain ⟨a, ha, w⟩ := rs1.ow _ _ hcρ
      refine ⟨_, ha, _, G1, dc1, gs1, rs1, POut.seq rs1 post fun kD dc2 kv G2 H2 gs2 g2 dk post => ?_⟩
      obtain ⟨fl, e2, post⟩ := POut.lift (o := (setC c kD vD).map fun c' => .nx ((frz ρ (esc n C false e ++ esc n C false i)).set (ixOf C.N y) (.ow c'))) post
      obtain ⟨c', e3, rfl⟩ := Option.map_eq_some_iff.mp e2
      have rs2 := rs1.grow gs1 g2
      have w2 := w.grow g2 gs1.hd
      obtain ⟨o, ho, oo⟩ := w2.ow.no_tbl
      refine .inl ⟨a, G2, dc2, c, kD, vD, c', gs2, rfl, w2, dk, DV.mono g2.sub _ _ dv, e3, fun o' ho' w' => ?_⟩
      exact post σ G2 _ (gs2.setO w2.gn w2.nd ho oo) (.refl _ _) (rs2.updO hcρ ha w2 w2.ow.notOwn w')
    · obtain ⟨_, ha, a, ea, rfl⟩ := rs1.va _ _ hcρ
      refine ⟨_, ha, _, G1, dc1, gs1, rs1, POut.seq rs1 post fun kD dc2 kv G2 H2 gs2 g2 dk post => ?_⟩
      have rs2 := rs1.grow gs1 g2
      unfold setM at post
      dsimp only at post
      cases hs : setDc dc2 kD vD with
      | none =>
        rw [hs] at post
        exact (show False from post).elim
      | some dc' =>
        rw [hs] at post
        refine .inr ⟨a, G2, dc2, dc', kD, vD, gs2, ea, rfl, dk, DV.mono g2.sub _ _ dv, hs, fun _ => ?_⟩
        exact post σ G2 _ (gs2.setD ea) (.refl _ _) (rs2.setD gs2 ea)
  · exact ps_no (sS_no fun ρ => by
      show (if (locK C.sc y && decide (y ∈ C.N) && notSl i) = true then _ else M.st) = _
      rw [if_neg hc])
theorem s_setA (h : IH n) (x : SOk p C k W X) {y f : Str} {e : Expr} {py ps pos : Pos} : PS X (.Assign [.Attribute (.Name y py) f ps] e pos) (sS p W fun ρ => dS (n + 1) C (.Assign [.Attribute (.Name y py) f ps] e pos) ρ) := by
  by_cases hc : (locK C.sc y && decide (y ∈ C.N)) = true
  · have e1 : (fun ρ => dS (n + 1) C (.Assign [.Attribute (.Name y py) f ps] e pos) ρ) = fun ρ => (fun ρ1 => dE n false C e ρ1 >>= fun v => owned ρ1 (ixOf C.N y) >>= fun c => lift ((fldC C.Γ.fl f v c).map fun c' => .nx (ρ1.set (ixOf C.N y) (.ow c')))) (frz ρ (esc n C false e)) := funext fun ρ => by
      show (if (locK C.sc y && decide (y ∈ C.N)) = true then _ else M.st) = _
      rw [if_pos hc]
    rw [e1]
    obtain ⟨hl, hm⟩ := lm_parts hc
    have sl : swapsWith e (some (.Attribute (.Name y py) f ps)) pos.line X.env = pure false := by cases e <;> rfl
    refine ps_frz (es := esc n C false e) (f := fun ρ1 => dE n false C e ρ1 >>= fun v => owned ρ1 (ixOf C.N y) >>= fun c => lift ((fldC C.Γ.fl f v c).map fun c' => .nx (ρ1.set (ixOf C.N y) (.ow c'))))
      (ps_fld (pe_vr x.toXOk hl hm) (h.E x.toXOk false .va e rfl) sl) fun D σ H ρ G dc gs rs post => ?_
    refine ⟨_, G, dc, gs, rs, POut.seq rs post fun vD dc1 v G1 H1 gs1 g1 dv post => ?_⟩
    obtain ⟨c, hcρ, post⟩ := POut.owned post
    have rs1 := rs.grow gs g1
    obtain ⟨a, ha, w⟩ := rs1.ow _ _ hcρ
    obtain ⟨fl, e2, post⟩ := POut.lift post
    obtain ⟨c', e3, rfl⟩ := Option.map_eq_some_iff.mp e2
    cases c with
    | obj cn fs =>
      have e3 : (if (cn, f) ∈ C.Γ.fl ∧ fs.length < 1000 then some (Px.D.obj cn (Px.putF f vD fs)) else none) = some c' := e3
      split at e3
      · rename_i hlt
        cases e3
        obtain ⟨dx, ws, q1, q2, q3, q4, q5⟩ := w.ow
        obtain ⟨k1, k2⟩ := x.gm.cls cn f hlt.1
        refine ⟨_, ha, a, _, dx, ws, rfl, q1, x.K.symm ▸ k1, x.K.symm ▸ k2, by rw [q5.length]; exact hlt.2, ?_⟩
        have ne : dx ≠ a := fun z => by subst z; rw [q1] at q3; cases q3
        have w' : OWn p G1 (upd H1 a (.ins (He.ga p.K cn) dx (L2.putF f v ws))) a (.obj cn (Px.putF f vD fs)) := ⟨⟨dx, _, upd_same, q2, by rw [upd_ne ne]; exact q3, q4, q5.putF dv⟩, w.gn, w.nd, w.h0⟩
        exact post σ G1 _ (gs1.setO w.gn w.nd q1 rfl) (.refl _ _) (rs1.updO hcρ ha w w.ow.notOwn w')
      · cases e3
    | _ => cases e3
  · exact ps_no (sS_no fun ρ => by
      show (if (locK C.sc y && decide (y ∈ C.N)) = true then _ else M.st) = _
      rw [if_neg hc])
end
end Px
set_option maxRecDepth 100000
set_option maxHeartbeats 4000000
/-! PS24: append and other statements of a value. -/
namespace Px
open PySem PySem.Spec PyProof.Rows L2 RZ
section
variable {p : Pk} {C : Cn} {k : Nat} {W : WX} {X : Cx} {n : Nat} {b : Bool} {m : Md} {G H G1 H1 : Hp} {dc : Dc} {ρ : En} {σ : St} {D : Ends} {a : Addr}
theorem ps_or2 {st : Stmt} {f f1 f2 : En → M Fl} (h1 : PS X st (sS p W f1)) (h2 : PS X st (sS p W f2)) (h : ∀ ρ, f ρ = f1 ρ ∨ f ρ = f2 ρ ∨ f ρ = M.st) : PS X st (sS p W f) :=
  ⟨fun pins s σ H D I ⟨ρ, G, dc, gs, rs, post⟩ => by
    rcases h ρ with e | e | e
    · rw [e] at post
      exact h1.run pins s σ H D I ⟨ρ, G, dc, gs, rs, post⟩
    · rw [e] at post
      exact h2.run pins s σ H D I ⟨ρ, G, dc, gs, rs, post⟩
    · rw [e] at post
      exact (show False from post).elim⟩
theorem s_expr0 (h : IH n) (x : XOk p C k W X) {e : Expr} {pos : Pos} (hc : isComp e = false) : PS X (.Expr e pos) (sS p W fun ρ => dE n false C e (frz ρ (esc n C false e)) >>= fun _ => pure (.nx (frz ρ (esc n C false e)))) := by
  refine ps_frz (es := esc n C false e) (f := fun ρ1 => dE n false C e ρ1 >>= fun _ => pure (.nx ρ1)) (ps_expr (h.E x false .va e rfl) (swaps_of hc)) fun D σ H ρ G dc gs rs post => ?_
  exact ⟨_, G, dc, gs, rs, POut.seq rs post fun d dc1 v G1 H1 gs1 g1 r1 post => post σ G1 H1 gs1 (.refl _ _) (rs.grow gs g1)⟩
def appF (n : Nat) (C : Cn) (x : Str) (a : Expr) (ρ1 : En) : M Fl := owned ρ1 (ixOf C.N x) >>= fun c => match c with
  | .lst xs => dE n false C a ρ1 >>= fun y => if xs.length < szL then pure (.nx (ρ1.set (ixOf C.N x) (.ow (.lst (xs ++ [y]))))) else M.st
  | _ => M.st
theorem s_append (h : IH n) (x : SOk p C k W X) {y : Str} {a : Expr} {px p1 p2 pos : Pos} (hl : locK C.sc y = true) (hm : y ∈ C.N) (hok : mcOk (.Name y px) p1 p2 [a] = true) :
    PS X (.Expr (.Call (.Attribute (.Name y px) "append" p1) [a] [] p2) pos) (sS p W fun ρ => appF n C y a (frz ρ (esc n C false a))) := by
  have hok' := hok
  unfold mcOk at hok'
  simp only [Bool.and_eq_true, decide_eq_true_eq] at hok'
  obtain ⟨⟨⟨hs, hlen⟩, hline⟩, hns⟩ := hok'
  have hfew : ((backTo p2 (starEach [a] X.env)).all (fun x => !x.1) && (backToKw p2 (keywordEach [] X.env)).all (fun x => x.1.isSome)
      && decide (([a] : List Expr).length + ([] : List Keyword).length + (if ([] : List Keyword).isEmpty then 0 else 1) < 30)) = true := by
    rw [backTo_all hs]
    rfl
  have hany : (backTo p2 (starEach [] X.env)).any (·.1) = false := rfl
  refine ps_frz (es := esc n C false a) (f := fun ρ1 => appF n C y a ρ1) (ps_expr (pe_bm PySem.F.plainAttrs_list PySem.F.slot_list_append PySem.F.type_list_append mt_append (pe_vr x.toXOk hl hm) (pa_cons (h.E x.toXOk false .va a rfl) pa_nil (star_cons hs)) (base_of (notSup_ne hns)) hfew hline (star_cons hs) hany) rfl) fun D σ H ρ G dc gs rs post => ?_
  obtain ⟨c, hcρ, post⟩ := POut.owned post
  obtain ⟨ad, ha, w⟩ := rs.ow _ _ hcρ
  cases c with
  | lst xs =>
    obtain ⟨vs, h1, h2⟩ := w.ow
    refine ⟨_, ha, .inl ⟨rfl, vs, .inl (.inl h1)⟩, _, G, dc, gs, rs, POut.seq rs post fun d dc1 v G1 H1 gs1 g1 r1 post => ?_⟩
    split at post
    · rename_i hlt
      have rs1 := rs.grow gs g1
      have w1 := w.grow g1 gs.hd
      obtain ⟨vs1, h3, h4⟩ := w1.ow
      have w' : OWn p G1 (upd H1 ad (.lst (vs1 ++ [v]))) ad (.lst (xs ++ [d])) := ⟨⟨_, upd_same, h4.snoc r1⟩, w1.gn, w1.nd, w1.h0⟩
      refine ⟨ad, vs1, v, rfl, rfl, h3, by rw [h4.length, ← szL_eq]; exact hlt, ?_⟩
      exact post σ G1 _ (gs1.setO w1.gn w1.nd h3 rfl) (.refl _ _) (rs1.updO hcρ ha w1 w1.ow.notOwn w')
    · exact (show False from post).elim
  | _ => exact (show False from post).elim
end
end Px
set_option maxRecDepth 100000
set_option maxHeartbeats 4000000
/-! PS25: augmented stores to names. -/
namespace Px
open PySem PySem.Spec PyProof.Rows L2 RZ
section
variable {p : Pk} {C : Cn} {k : Nat} {W : WX} {X : Cx} {n : Nat} {b : Bool} {m : Md} {G H G1 H1 : Hp} {dc : Dc} {ρ : En} {σ : St} {D : Ends} {a : Addr}
/-- what += does -/
def rAug : TIp := fun x y H Q => rI0 (fun i j => .int (i + j)) x y H Q ∨ (∃ i j, x = .str i ∧ y = .str j ∧ i.length + j.length ≤ sizeLine ∧ Q (.str (i ++ j)) H) ∨ rExt2 x y H Q
theorem ip_aug : PIp X .Add rAug := by
  intro pins s σ H x y v u Q I r1 r2 h
  rcases h with h | h | h
  · exact iop_add pins s σ H x y v u Q I r1 r2 h
  · exact iop_add_str pins s σ H x y v u Q I r1 r2 h
  · exact iop_ext pins s σ H x y v u Q I r1 r2 h
theorem POut.rdB {i : Nat} {kk : Px.D → M Fl} (h : POut p W D G ((rdB i ρ >>= kk) dc)) : ∃ d, (ρ[i]? = some (.va d) ∨ ρ[i]? = some (.ow d)) ∧ POut p W D G (kk d dc) := by
  unfold Px.rdB at h
  split at h
  · rename_i c e
    exact ⟨c, .inl e, h⟩
  · rename_i c e
    exact ⟨c, .inr e, h⟩
  · exact (show False from h).elim
theorem s_aug (h : IH n) (x : SOk p C k W X) {y : Str} {op : Operator} {e : Expr} {py pos : Pos} : PS X (.AugAssign (.Name y py) op e pos) (sS p W fun ρ => dS (n + 1) C (.AugAssign (.Name y py) op e pos) ρ) := by
  by_cases hc : (isAdd op && stoN C y) = true
  · have hc' := hc
    rw [Bool.and_eq_true] at hc'
    obtain ⟨hop, hy⟩ := hc'
    obtain rfl : op = .Add := by cases op <;> first | rfl | cases hop
    have e1 : (fun ρ => dS (n + 1) C (.AugAssign (.Name y py) .Add e pos) ρ) = fun ρ => (fun ρ1 => rdB (ixOf C.N y) ρ1 >>= fun old => dE n true C e ρ1 >>= fun v => lift ((augS (isOw ρ1 (ixOf C.N y)) .Add old v).map fun z => .nx (ρ1.set (ixOf C.N y) z))) (frz ρ (esc n C true e)) := funext fun ρ => by
      show (if (isAdd .Add && stoN C y) = true then _ else M.st) = _
      rw [if_pos hc]
    rw [e1]
    obtain ⟨hk, hi⟩ := sto_ix hy
    obtain ⟨hl, hf⟩ := x.sto y hk
    refine ps_frz (es := esc n C true e) (f := fun ρ1 => rdB (ixOf C.N y) ρ1 >>= fun old => dE n true C e ρ1 >>= fun v => lift ((augS (isOw ρ1 (ixOf C.N y)) .Add old v).map fun z => .nx (ρ1.set (ixOf C.N y) z)))
      (ps_aug (by rw [x.N]; exact x.nd) (by rw [x.N]; exact hi) hl (h.E x.toXOk true .bo e rfl) ip_aug hf) fun D σ H ρ G dc gs rs post => ?_
    obtain ⟨old, ho, post⟩ := POut.rdB post
    have rv : ∃ v, σ[ixOf C.N y]? = some (some v) ∧ RV p .bo G H old v := by
      rcases ho with ho | ho
      · obtain ⟨v, h1, h2⟩ := rs.va _ _ ho
        exact ⟨v, h1, .inl h2⟩
      · obtain ⟨a, h1, h2⟩ := rs.ow _ _ ho
        exact ⟨_, h1, .inr ⟨a, rfl, h2⟩⟩
    obtain ⟨v, hv, rv⟩ := rv
    refine ⟨v, hv, _, G, dc, gs, rs, POut.seq rs post fun d dc1 w G1 H1 gs1 g1 r1 post => ?_⟩
    obtain ⟨fl, e2, post⟩ := POut.lift post
    obtain ⟨z, e3, rfl⟩ := Option.map_eq_some_iff.mp e2
    have rs1 := rs.grow gs g1
    have rv1 : RV p .bo G1 H1 old v := RV.grow gs g1 rv
    have scI : ∀ {i : Int} {v : V}, RV p .bo G1 H1 (.int i) v → v = .int i := fun q => by
      rcases q with q | ⟨a, e, w⟩
      · exact q
      · exact w.ow.elim
    have scS : ∀ {i : Str} {v : V}, RV p .bo G1 H1 (.str i) v → v = .str i := fun q => by
      rcases q with q | ⟨a, e, w⟩
      · exact q
      · exact w.ow.elim
    unfold augS at e3
    split at e3
    · cases e3
      cases scI rv1
      cases scI r1
      exact .inl ⟨_, _, rfl, rfl, post _ G1 H1 gs1 (.refl _ _) (rs1.setVa rfl)⟩
    · split at e3
      · rename_i hz
        cases e3
        cases scS rv1
        cases scS r1
        exact .inr (.inl ⟨_, _, rfl, rfl, by rw [← szL_eq]; exact hz, post _ G1 H1 gs1 (.refl _ _) (rs1.setVa rfl)⟩)
      · cases e3
    · rename_i xs ys hio _ _
      split at e3
      · rename_i hz
        cases e3
        have hr : (frz ρ (esc n C true e))[ixOf C.N y]? = some (.ow (.lst xs)) := by
          rcases ho with ho | ho
          · unfold isOw at hio
            rw [ho] at hio
            cases hio
          · exact ho
        obtain ⟨a, ha, wn⟩ := rs1.ow _ _ hr
        rw [hv] at ha
        cases ha
        obtain ⟨vs, h3, h4⟩ := wn.ow
        obtain ⟨bb, us, rfl, h5, h6⟩ : ∃ bb us, w = .ref bb ∧ H1 bb = some (.lst us) ∧ DVs p.K p.da G1 ys us := by
          rcases r1 with ⟨bb, us, q1, q2, q3⟩ | ⟨bb, q1, q2⟩
          · exact ⟨bb, us, q1, gs1.sub _ _ q2, q3⟩
          · obtain ⟨us, q3, q4⟩ := q2.ow
            exact ⟨bb, us, q1, q3, q4⟩
        refine .inr (.inr ⟨a, bb, vs, us, rfl, rfl, h3, h5, by rw [h4.length, h6.length, ← szL_eq]; exact hz, ?_⟩)
        have w' : OWn p G1 (upd H1 a (.lst (vs ++ us))) a (.lst (xs ++ ys)) := ⟨⟨_, upd_same, h4.append h6⟩, wn.gn, wn.nd, wn.h0⟩
        have e5 : σ.set (ixOf C.N y) (some (.ref a)) = σ := by
          have hlt := (List.getElem?_eq_some_iff.mp hv).1
          have hge := (List.getElem?_eq_some_iff.mp hv).2
          rw [← hge]
          exact List.set_getElem_self hlt
        show D.nx (σ.set (ixOf C.N y) (some (.ref a))) _
        rw [e5]
        exact post _ G1 _ (gs1.setO wn.gn wn.nd h3 rfl) (.refl _ _) (rs1.updO hr hv wn wn.ow.notOwn w')
      · cases e3
    · cases e3
  · exact ps_no (sS_no fun ρ => by
      show (if (isAdd op && stoN C y) = true then _ else M.st) = _
      rw [if_neg hc])
end
end Px
set_option maxRecDepth 100000
set_option maxHeartbeats 4000000
/-! PS26: pop. -/
namespace Px
open PySem PySem.Spec PyProof.Rows L2 RZ
section
variable {p : Pk} {C : Cn} {k : Nat} {W : WX} {X : Cx} {n : Nat} {b : Bool} {m : Md} {G H G1 H1 : Hp} {dc : Dc} {ρ : En} {σ : St} {D : Ends} {a : Addr}
theorem s_pop (x : SOk p C k W X) {z y : Str} {pz py pa pc pos : Pos} : PS X (.Assign [.Name z pz] (.Call (.Attribute (.Name y py) "pop" pa) [] [] pc) pos) (sS p W fun ρ => dS (n + 1) C (.Assign [.Name z pz] (.Call (.Attribute (.Name y py) "pop" pa) [] [] pc) pos) ρ) := by
  by_cases hc : (locK C.sc y && decide (y ∈ C.N) && decide (z ≠ y) && stoN C z && mcOk (.Name y py) pa pc []) = true
  · have hc' := hc
    unfold mcOk at hc'
    simp only [Bool.and_eq_true, decide_eq_true_eq] at hc'
    obtain ⟨⟨⟨⟨hl, hm⟩, hne⟩, hz⟩, ⟨⟨_, hline⟩, hns⟩⟩ := hc'
    obtain ⟨hk, hi⟩ := sto_ix hz
    obtain ⟨hlz, hf⟩ := x.sto z hk
    refine PS.imp (ps_set (by rw [x.N]; exact x.nd) (by rw [x.N]; exact hi) hlz (pe_bm0 PySem.F.plainAttrs_list PySem.F.slot_list_pop PySem.F.type_list_pop mt_pop (pe_vr x.toXOk hl hm) (base_of (notSup_ne hns)) hline) rfl hf) fun D σ H ⟨ρ, G, dc, gs, rs, post⟩ => ?_
    have post : POut p W D G ((owned ρ (ixOf C.N y) >>= fun c => lift ((popD c).map fun q => .nx ((ρ.set (ixOf C.N y) (.ow q.2)).set (ixOf C.N z) (.va q.1)))) dc) := by
      have e : dS (n + 1) C (.Assign [.Name z pz] (.Call (.Attribute (.Name y py) "pop" pa) [] [] pc) pos) ρ = (if (locK C.sc y && decide (y ∈ C.N) && decide (z ≠ y) && stoN C z && mcOk (.Name y py) pa pc []) = true then (owned ρ (ixOf C.N y) >>= fun c => lift ((popD c).map fun q => .nx ((ρ.set (ixOf C.N y) (.ow q.2)).set (ixOf C.N z) (.va q.1)))) else M.st) := rfl
      rw [if_pos hc] at e
      rw [← e]
      exact post
    obtain ⟨c, hcρ, post⟩ := POut.owned post
    obtain ⟨fl, e2, post⟩ := POut.lift post
    obtain ⟨⟨d, c'⟩, e3, rfl⟩ := Option.map_eq_some_iff.mp e2
    obtain ⟨ad, ha, w⟩ := rs.ow _ _ hcρ
    cases c with
    | lst xs =>
      have e3 : xs.getLast?.map (fun d => (d, Px.D.lst xs.dropLast)) = some (d, c') := e3
      obtain ⟨d0, e4, e5⟩ := Option.map_eq_some_iff.mp e3
      cases e5
      obtain ⟨vs, h1, h2⟩ := w.ow
      have hlast : xs[xs.length - 1]? = some d := by rw [← List.getLast?_eq_getElem?]; exact e4
      obtain ⟨v, h3, h4⟩ := h2.get hlast
      refine ⟨_, ha, .inl ⟨rfl, vs, .inl (.inl h1)⟩, ad, vs, v, rfl, rfl, h1, by rw [h2.length]; exact h3, ?_⟩
      have dl : DVs p.K p.da G xs.dropLast vs.dropLast := by
        rw [List.dropLast_eq_take, List.dropLast_eq_take, h2.length]
        exact h2.take _
      have w' : OWn p G (upd H ad (.lst vs.dropLast)) ad (.lst xs.dropLast) := ⟨⟨_, upd_same, dl⟩, w.gn, w.nd, w.h0⟩
      exact post _ G _ (gs.setO w.gn w.nd h1 rfl) (.refl _ _) ((rs.updO hcρ ha w w.ow.notOwn w').setVa h4)
    | _ => cases e3
  · exact ps_no (sS_no fun ρ => by
      show (if (locK C.sc y && decide (y ∈ C.N) && decide (z ≠ y) && stoN C z && mcOk (.Name y py) pa pc []) = true then _ else M.st) = _
      rw [if_neg hc])
end
end Px
set_option maxRecDepth 100000
set_option maxHeartbeats 4000000
/-! PL2: a list of lambdas given to a name. -/
namespace Px
open PySem PySem.Spec PyProof.Rows L2 RZ LamX
section
variable {p : Pk} {C : Cn} {k : Nat} {W : WX} {X : Cx} {n : Nat} {b : Bool} {m : Md} {G H H1 : Hp} {dc : Dc} {ρ : En} {σ : L2.St}
theorem e_lam (x : XOk p C k W X) (ht : C.top = true) (hg : C.g ≠ 0) {body : Expr} {scope : Scope} {pos : Pos} (hs : lamSB C.sc scope = true) (hp : (pos.line, pos.col) ∈ C.lp) :
    PE X (.Lambda noArgs body scope pos) (tM p W (fun G _ (l : Expr × Scope) v => ∃ f c', v = .ref f ∧ G f = some (LamO f (p.q ++ "<lambda>") l.1 l.2 (cloFrom p.cl l.2.names []) c') ∧ G c' = some (CodeO c' (p.q ++ "<lambda>"))) fun _ => pure (body, scope)) := by
  obtain ⟨c, P, h1, h2, h3, h4⟩ := x.tab hg
  obtain ⟨h5, h6, h7⟩ := x.top ht
  refine ⟨fun pins s σ H Q I ⟨ρ, G, dc, gs, rs, post⟩ => ?_⟩
  refine lam_mk I h2 h1 h3 h4 gs.tabs hp ((lamS_by (by rw [h7]; exact hs)).has I.ok) fun f c' H1 s' I1 e tq nf ne hf hc => ?_
  obtain ⟨gs1, g1⟩ := lam_grow gs e tq h3 nf hf hc
  have nce : c' ≠ f := Ne.symm ne
  refine ⟨.ref f, H1, I1, rfl, post (.ref f) _ H1 gs1 g1 ⟨f, c', rfl, ?_, ?_⟩⟩
  · rw [upd_same, h5, h6]
  · rw [upd_ne nce, upd_same, h6]
theorem pa_lams (x : XOk p C k W X) (ht : C.top = true) (hg : C.g ≠ 0) : ∀ (es : List Expr) (ls : List (Expr × Scope)), lamsE C.lp es = some ls → ls.all (fun l => lamSB C.sc l.2) = true → PA X es (tM p W (fun G _ ls vs => Lams p.q p.cl G ls vs) fun _ => pure ls)
  | [], ls, h, _ => by
    cases h
    refine PA.imp pa_nil fun σ H Q ⟨ρ, G, dc, gs, rs, post⟩ => ?_
    exact post [] G H gs (.refl _ _ _) rfl
  | e :: es, ls, h, ha => by
    unfold lamsE at h
    split at h
    · cases (show False by simp at *)
    · rename_i ps body scope pos r heq
      cases heq
      split at h
      · rename_i hc
        rw [Bool.and_eq_true, decide_eq_true_eq] at hc
        obtain ⟨ls', e1, rfl⟩ := Option.map_eq_some_iff.mp h
        rw [List.all_cons, Bool.and_eq_true] at ha
        obtain rfl := noPar_eq hc.1
        refine PA.imp (pa_cons (e_lam x ht hg ha.1 hc.2) (pa_lams x ht hg _ ls' e1 ha.2)) fun σ H Q ⟨ρ, G, dc, gs, rs, post⟩ => ?_
        refine ⟨ρ, G, dc, gs, rs, fun v G1 H1 gs1 g1 ⟨f, c', e2, e3, e4⟩ => ?_⟩
        refine ⟨ρ, G1, dc, gs1, rs.grow gs g1, fun vs G2 H2 gs2 g2 l2 => ?_⟩
        exact post (v :: vs) G2 H2 gs2 (g1.trans g2) ⟨f, c', vs, by rw [e2], g2.sub _ _ e3, g2.sub _ _ e4, l2⟩
      · cases h
    · cases h
theorem RS.setLa {i : Nat} {ls : List (Expr × Scope)} {v : V} (r : RS p ρ σ G H) (h : LA p G ls v) : RS p (ρ.set i (.la ls)) (σ.set i (some v)) G H := by
  by_cases hi : i < ρ.length
  · have hi' : i < σ.length := by rw [← r.len]; exact hi
    refine ⟨by rw [List.length_set, List.length_set]; exact r.len, fun j e q => ?_, fun j e q => ?_, fun j e q => ?_, fun j l e f a q1 q2 q3 q4 => ?_, r.ent, r.hb⟩
    · rw [set_at hi] at q
      rw [set_at hi']
      by_cases ej : j = i
      · rw [if_pos ej] at q
        cases q
      · rw [if_neg ej] at q ⊢
        exact r.va j e q
    · rw [set_at hi] at q
      rw [set_at hi']
      by_cases ej : j = i
      · rw [if_pos ej] at q ⊢
        cases q
        exact ⟨v, rfl, h⟩
      · rw [if_neg ej] at q ⊢
        exact r.la j e q
    · rw [set_at hi] at q
      rw [set_at hi']
      by_cases ej : j = i
      · rw [if_pos ej] at q
        cases q
      · rw [if_neg ej] at q ⊢
        exact r.ow j e q
    · rw [set_at hi] at q1 q2
      rw [set_at hi'] at q3 q4
      by_cases ej : j = i
      · rw [if_pos ej] at q1
        cases q1
      · by_cases el : l = i
        · rw [if_pos el] at q2
          cases q2
        · rw [if_neg ej] at q1 q3
          rw [if_neg el] at q2 q4
          exact r.dj j l e f a q1 q2 q3 q4
  · rw [List.set_eq_of_length_le (by omega), List.set_eq_of_length_le (by rw [← r.len]; omega)]
    exact r
theorem s_lams (x : SOk p C k W X) {y : Str} {py pos : Pos} {e : Expr} {ls : List (Expr × Scope)} (hls : lamsOf C.lp e = some ls) : PS X (.Assign [.Name y py] e pos) (sS p W fun ρ => if C.top && C.g != 0 && stoN C y && ls.all (fun l => LamX.lamSB C.sc l.2) && decide (ls.length ≤ szL) then pure (.nx ((frz ρ (esc n C false e)).set (ixOf C.N y) (.la ls))) else M.st) := by
  by_cases hc : (C.top && C.g != 0 && stoN C y && ls.all (fun l => LamX.lamSB C.sc l.2) && decide (ls.length ≤ szL)) = true
  · have hc' := hc
    simp only [Bool.and_eq_true, bne_iff_ne, decide_eq_true_eq] at hc'
    obtain ⟨⟨⟨⟨ht, hg⟩, hy⟩, ha⟩, hl⟩ := hc'
    obtain ⟨hk, hi⟩ := sto_ix hy
    obtain ⟨hlo, hf⟩ := x.sto y hk
    have e0 : ∃ e1 es q, e = .List (e1 :: es) q ∧ lamsE C.lp (e1 :: es) = some ls := by
      unfold lamsOf at hls
      split at hls
      · exact ⟨_, _, _, rfl, hls⟩
      · cases hls
    obtain ⟨e1, es, q, rfl, hls⟩ := e0
    have e2 : (fun ρ => if (C.top && C.g != 0 && stoN C y && ls.all (fun l => LamX.lamSB C.sc l.2) && decide (ls.length ≤ szL)) = true then (pure (.nx ((frz ρ (esc n C false (.List (e1 :: es) q))).set (ixOf C.N y) (.la ls))) : M Fl) else M.st) = fun ρ => (fun ρ1 => (pure (.nx (ρ1.set (ixOf C.N y) (.la ls))) : M Fl)) (frz ρ (esc n C false (.List (e1 :: es) q))) := funext fun ρ => by rw [if_pos hc]
    rw [e2]
    refine ps_frz (es := esc n C false (.List (e1 :: es) q)) (f := fun ρ1 => (pure (.nx (ρ1.set (ixOf C.N y) (.la ls))) : M Fl)) (ps_set (by rw [x.N]; exact x.nd) (by rw [x.N]; exact hi) hlo (pe_lst (pa_lams x.toXOk ht hg _ ls hls ha)) rfl hf) fun D σ H ρ G dc gs rs post => ?_
    refine ⟨_, G, dc, gs, rs, fun vs G1 H1 gs1 g1 l1 => ⟨by rw [l1.len, ← szL_eq]; exact hl, fun a hn => ?_⟩⟩
    have rs1 := rs.grow gs g1
    have gs2 := gs1.newG (o := .lst vs) hn
    have g2 := Grow.newG (o := .lst vs) gs1 hn
    exact post _ _ _ gs2 (GrowS.of rs.ent (g1.trans g2)) ((rs1.grow gs1 g2).setLa ⟨a, vs, rfl, upd_same, l1.mono g2.sub⟩)
  · exact ps_no (sS_no fun ρ => by rw [if_neg hc])
end
end Px
set_option maxRecDepth 100000
set_option maxHeartbeats 4000000
/-! PS27: all statements. -/
namespace Px
open PySem PySem.Spec PyProof.Rows L2 RZ
section
variable {p : Pk} {C : Cn} {k : Nat} {W : WX} {X : Cx} {n : Nat} {b : Bool} {m : Md} {G H G1 H1 : Hp} {dc : Dc} {ρ : En} {σ : St} {D : Ends} {a : Addr}
/-- a statement of a method's call -/
theorem s_exprM (h : IH n) (x : SOk p C k W X) {y mm : Str} {a : Expr} {px p1 p2 pos : Pos} : PS X (.Expr (.Call (.Attribute (.Name y px) mm p1) [a] [] p2) pos) (sS p W fun ρ => dS (n + 1) C (.Expr (.Call (.Attribute (.Name y px) mm p1) [a] [] p2) pos) ρ) := by
  by_cases hc : (decide (mm = "append") && decide (y ∈ C.N) && mcOk (.Name y px) p1 p2 [a]) = true ∧ locK C.sc y = true
  · obtain ⟨h1, hl⟩ := hc
    have h1' := h1
    rw [Bool.and_eq_true, Bool.and_eq_true, decide_eq_true_eq, decide_eq_true_eq] at h1'
    obtain ⟨⟨rfl, hm⟩, hok⟩ := h1'
    refine ps_or2 (s_append h x hl hm hok) (s_expr0 h x.toXOk rfl) fun ρ => ?_
    show (if (locK C.sc y && isOw ρ (ixOf C.N y)) = true then _ else _) = _ ∨ (if (locK C.sc y && isOw ρ (ixOf C.N y)) = true then _ else _) = _ ∨ _
    by_cases hq : (locK C.sc y && isOw ρ (ixOf C.N y)) = true
    · refine .inl ?_
      rw [if_pos hq]
      show (if (decide (_ = _) && decide (y ∈ C.N) && mcOk (.Name y px) p1 p2 [a]) = true then _ else M.st) = _
      rw [if_pos h1]
      rfl
    · refine .inr (.inl ?_)
      rw [if_neg hq]
  · refine ps_or2 (s_expr0 h x.toXOk rfl) (s_expr0 h x.toXOk rfl) fun ρ => ?_
    show (if (locK C.sc y && isOw ρ (ixOf C.N y)) = true then _ else _) = _ ∨ _ ∨ (if (locK C.sc y && isOw ρ (ixOf C.N y)) = true then _ else _) = _
    by_cases hq : (locK C.sc y && isOw ρ (ixOf C.N y)) = true
    · refine .inr (.inr ?_)
      rw [if_pos hq]
      show (if (decide (_ = _) && decide (y ∈ C.N) && mcOk (.Name y px) p1 p2 [a]) = true then _ else M.st) = _
      rw [if_neg fun z => hc ⟨z, by rw [Bool.and_eq_true] at hq; exact hq.1⟩]
    · refine .inl ?_
      rw [if_neg hq]
theorem s_none {st : Stmt} (h : ∀ ρ, dS (n + 1) C st ρ = M.st) : PS X st (sS p W fun ρ => dS (n + 1) C st ρ) := ps_no (sS_no h)
theorem s_exprA (h : IH n) (x : SOk p C k W X) {e : Expr} {pos : Pos} (hd : ∀ ρ, dS (n + 1) C (.Expr e pos) ρ = if isComp e = true then M.st else (dE n false C e (frz ρ (esc n C false e)) >>= fun _ => pure (.nx (frz ρ (esc n C false e))))) : PS X (.Expr e pos) (sS p W fun ρ => dS (n + 1) C (.Expr e pos) ρ) := by
  cases hc : isComp e with
  | true => exact s_none fun ρ => by rw [hd, hc, if_pos rfl]
  | false => exact s_expr h x.toXOk hc fun ρ => by rw [hd, hc, if_neg (by decide)]
theorem s_exprAll (h : IH n) (x : SOk p C k W X) {e : Expr} {pos : Pos} : PS X (.Expr e pos) (sS p W fun ρ => dS (n + 1) C (.Expr e pos) ρ) := by
  cases e with
  | Call f as ks cp =>
    cases f with
    | Attribute o mm ap =>
      cases o with
      | Name y px =>
        match as, ks with
        | [a], [] => exact s_exprM h x
        | [], _ => exact s_exprA h x fun ρ => rfl
        | _ :: _ :: _, _ => exact s_exprA h x fun ρ => rfl
        | [_], _ :: _ => exact s_exprA h x fun ρ => rfl
      | _ => exact s_exprA h x fun ρ => rfl
    | _ => exact s_exprA h x fun ρ => rfl
  | _ => exact s_exprA h x fun ρ => rfl
theorem isPop_some {e : Expr} {y : Str} {py pa pc : Pos} (h : isPop e = some (y, py, pa, pc)) : e = .Call (.Attribute (.Name y py) "pop" pa) [] [] pc := by
  unfold isPop at h
  split at h
  · split at h
    · rename_i hm
      cases h
      rw [hm]
    · cases h
  · cases h
theorem s_nameAll (h2 : IH2 n) (x : SOk p C k W X) {y : Str} {e : Expr} {py pos : Pos} : PS X (.Assign [.Name y py] e pos) (sS p W fun ρ => dS (n + 1) C (.Assign [.Name y py] e pos) ρ) := by
  have e0 : ∀ ρ, dS (n + 1) C (.Assign [.Name y py] e pos) ρ = sNameF n C y e ρ := fun ρ => rfl
  cases hp : isPop e with
  | some q =>
    obtain ⟨z, q1, q2, q3⟩ := q
    obtain rfl := isPop_some hp
    exact s_pop x
  | none =>
    cases hl : lamsOf C.lp e with
    | some ls =>
      have := s_lams (p := p) (W := W) (n := n) x (y := y) (py := py) (pos := pos) hl
      refine PS.imp this fun D σ H ⟨ρ, G, dc, gs, rs, post⟩ => ⟨ρ, G, dc, gs, rs, ?_⟩
      dsimp only at post
      rw [e0] at post
      unfold sNameF at post
      rw [hp] at post
      dsimp only at post
      rw [hl] at post
      exact post
    | none =>
      refine s_setN h2 x fun ρ => ?_
      rw [e0]
      unfold sNameF
      rw [hp]
      dsimp only
      rw [hl]
theorem sTup_not {ts : List Expr} {j : Nat} {e : Expr} {pt : Pos} {ρ : En} (h : ∀ es j p, e ≠ .Tuple es j p) : sTupF n C ts j pt e ρ = (dE n false C e (frz ρ (esc n C false e)) >>= fun d => lift ((tgN n C (.Tuple ts j pt) d (frz ρ (esc n C false e))).map .nx)) := by
  unfold sTupF
  cases nmL ts with
  | none => cases e <;> first | rfl | exact absurd rfl (h _ _ _)
  | some ys => cases e <;> first | rfl | exact absurd rfl (h _ _ _)
theorem s_tupAll (h2 : IH2 n) (x : SOk p C k W X) {ts : List Expr} {j : Nat} {e : Expr} {pt pos : Pos} : PS X (.Assign [.Tuple ts j pt] e pos) (sS p W fun ρ => dS (n + 1) C (.Assign [.Tuple ts j pt] e pos) ρ) := by
  by_cases he : ∀ es j p, e ≠ .Tuple es j p
  · exact s_setT h2 x he fun ρ => sTup_not he
  · cases e with
    | Tuple es j2 p2 =>
      cases hn : nmL ts with
      | some ys => exact s_par h2 x hn
      | none => exact ps_no (sS_no fun ρ => show sTupF n C ts j pt (.Tuple es j2 p2) ρ = M.st by unfold sTupF; rw [hn])
    | _ => exact absurd (fun _ _ _ z => by cases z) he
theorem s_asgAll (h2 : IH2 n) (x : SOk p C k W X) {ts : List Expr} {e : Expr} {pos : Pos} : PS X (.Assign ts e pos) (sS p W fun ρ => dS (n + 1) C (.Assign ts e pos) ρ) := by
  match ts with
  | [] => exact s_none fun ρ => rfl
  | _ :: _ :: _ => exact s_none fun ρ => rfl
  | [t] =>
    cases t with
    | Name y py => exact s_nameAll h2 x
    | Tuple ts j pt => exact s_tupAll h2 x
    | Subscript o i ps =>
      cases o with
      | Name y py => exact s_setS h2.ih x
      | _ => exact s_none fun ρ => rfl
    | Attribute o f ps =>
      cases o with
      | Name y py => exact s_setA h2.ih x
      | _ => exact s_none fun ρ => rfl
    | _ => exact s_none fun ρ => rfl
theorem s_rse (x : SOk p C k W X) {e : Expr} {pos : Pos} : PS X (.Raise (some e) none pos) (sS p W fun ρ => dS (n + 1) C (.Raise (some e) none pos) ρ) := by
  by_cases h : ∃ c p1 msg j p2 p3, e = .Call (.Name c p1) [.Constant (.str msg) j p2] [] p3
  · obtain ⟨c, p1, msg, j, p2, p3, rfl⟩ := h
    exact s_raise x
  · refine s_none fun ρ => ?_
    show raiF C e = M.st
    unfold raiF
    split
    · exact absurd ⟨_, _, _, _, _, _, rfl⟩ h
    · rfl
theorem s_all (h2 : IH2 n) (x : SOk p C k W X) (ihs : ∀ ss, PSs X ss (sS p W fun ρ => dSs n C ss ρ)) (st : Stmt) : PS X st (sS p W fun ρ => dS (n + 1) C st ρ) := by
  cases st with
  | Pass pos => exact s_pass
  | Break pos => exact s_break
  | Continue pos => exact s_cont
  | Return o pos =>
    cases o with
    | none => exact s_retN
    | some e => exact s_ret h2.ih x.toXOk
  | Expr e pos => exact s_exprAll h2.ih x
  | Assign ts e pos => exact s_asgAll h2 x
  | AugAssign t op e pos =>
    cases t with
    | Name y py => exact s_aug h2.ih x
    | _ => exact s_none fun ρ => rfl
  | If t a c pos => exact s_if h2.ih x.toXOk (ihs a) (ihs c)
  | While t body els pos =>
    cases els with
    | nil => exact s_while h2.ih x (ihs body)
    | cons _ _ => exact s_none fun ρ => rfl
  | For tg it body els pos =>
    cases els with
    | nil => exact s_for h2 x (ihs body)
    | cons _ _ => exact s_none fun ρ => rfl
  | Raise e c pos =>
    match e, c with
    | some (.Call (.Name cn p1) [.Constant (.str msg) j p2] [] p3), none => exact s_raise x
    | none, _ => exact s_none fun ρ => rfl
    | some e, some _ => exact s_none fun ρ => by cases e <;> rfl
    | some e, none => exact s_rse x
  | _ => exact s_none fun ρ => rfl
theorem ss_all : ∀ n, ∀ {p : Pk} {C : Cn} {k : Nat} {W : WX} {X : Cx}, SOk p C k W X → ∀ ss, PSs X ss (sS p W fun ρ => dSs n C ss ρ)
  | 0, _, _, _, _, _, _, ss => ⟨fun pins s σ H D I ⟨ρ, G, dc, gs, rs, post⟩ => (show False from post).elim⟩
  | 1, _, _, _, _, _, _, [] => s_nil
  | 1, _, _, _, _, _, _, s :: ss => s_cons (ps_no (sS_no fun ρ => rfl)) (ss_all 0 ‹_› ss)
  | n + 2, _, _, _, _, _, x, [] => s_nil
  | n + 2, _, _, _, _, _, x, s :: ss => s_cons (s_all (ih_all n) x (fun ss => ss_all n x ss) s) (ss_all (n + 1) x ss)
end
end Px
set_option maxRecDepth 100000
set_option maxHeartbeats 4000000
/-! PF1: defs and constructors keep their promises. -/
namespace Px
open PySem PySem.Spec PyProof.Rows L2 RZ LamX
section
variable {P : Program} {w : World} {mg : Str → Option Value} {base : Heap}
/-- the code object of a def and its table -/
def TabF (p : Qk) (mg : Str → Option Value) (base : Heap) (lp : List (Nat × Nat)) (qual : Str) (cdv : Value) : Prop := ∃ c P, cdv = .ref c ∧ LamX.TabB base mg c P ∧ (P, lp, qual) ∈ p.T ∧ ∀ t ∈ p.T, t.1 = P → t = (P, lp, qual)
theorem sok_cx {p : Qk} {Γ : Gm} {k g : Nat} {lp : List (Nat × Nat)} {N ps : List Str} {scope : Scope} {qual : Str} {f : Addr} {cdv : Value} {A : Around} {outer : List Env} {s : Shared} {H H0 Hb : Hp} {E : XK} {sa : Option (Addr × Addr)}
    (S : FnScope N ps scope) (gm : GmOk p Γ k P w mg base) (hT : g ≠ 0 → TabF p mg base lp (qual ++ ".<locals>.") cdv) (hr : Room (k + g) (A.deeper (envOfC qual scope s.heap.objs.size f cdv))) :
    SOk ⟨p, H0, Hb, (envOfC qual scope s.heap.objs.size f cdv).cells, qual ++ ".<locals>.", sa⟩ ⟨N, scope, Γ, g, true, lp⟩ k (fun cls d _ H => E cls d H) (cxOf (L2.CX P w) P w p.K mg base N qual scope f cdv A outer s H E) := by
  refine ⟨⟨rfl, rfl, S.nd, rfl, hr, takes_of rfl rfl rfl rfl, fun x h => ?_, fun x h => ?_, fun x h => ?_, fun x h => h, gm, fun hg => hT hg, fun _ => ⟨rfl, rfl, rfl⟩⟩, rfl, passes_of rfl, fun c hc x pos hg j p2 msg => ?_⟩
  · unfold locK at h
    rw [Bool.and_eq_true] at h
    have h := h.2
    show Vis scope x
    split at h
    · rename_i q; exact .inl q
    · rename_i q; exact .inr (.inl q)
    · rename_i q; exact .inr (.inr q)
    · cases h
  · unfold gloK at h
    rw [Bool.and_eq_true] at h
    have h := h.2
    split at h
    · rename_i q; exact q
    · cases h
  · unfold stoK at h
    rw [Bool.and_eq_true] at h
    have h := h.2
    show Loc scope x ∧ _
    split at h
    · rename_i q; exact ⟨.inl q, .inl rfl⟩
    · rename_i q; exact ⟨.inr q, .inl rfl⟩
    · cases h
  · obtain ⟨e1, e2, e3, e4, e5⟩ := gm.ex c hc
    have hgl : Gl (cxOf (L2.CX P w) P w p.K mg base N qual scope f cdv A outer s H E) c := by
      have h := hg
      unfold gloK at h
      rw [Bool.and_eq_true] at h
      have h := h.2
      split at h
      · rename_i q; exact q
      · cases h
    exact pmk_own (C := He.ga p.K c) F.excBase_ValueError e2 e1 e3 (raises_own e4 e5) hgl (plain_d (glo_plain hg)).1
theorem DVs.back {K : PySem.W.Frag} {da : Option Addr} {G : Hp} {ds : List Px.D} {vs : List V} {i : Nat} {d : Px.D} (h : DVs K da G ds vs) (hi : ds[i]? = some d) : ∃ v, vs[i]? = some v ∧ DV K da G d v := h.get hi
theorem Grow.ofS {p : Pk} {G H G' H' : Hp} (hH : p.H0 = H) (g : GrowS p G G') (e : Ext p.da p.H0 H') : Grow p.da G H G' H' := ⟨g.1, fun a o h1 h2 h3 h4 => g.2 a o h1 (by rw [hH]; exact h2) h3 h4, by rw [← hH]; exact e⟩
/-- a def -/
theorem fn_runF {p : Qk} {Γ : Gm} {k g n : Nat} {lp : List (Nat × Nat)} {f : Addr} {name qual : Str} {params : Arguments} {body : List Stmt} {scope : Scope} {dV kV doc pm cdv ct oc : Value} {an od : Option Addr}
    {osl : Array (Option Value)} {N ps : List Str} (lk : p.K.lookup f = some ⟨oc, od, .func (PySem.W.fnOf name qual params body scope dV kV doc pm an cdv ct), osl⟩) (hcd : PySem.W.codeIn p.K cdv qual = true) (S : FnScope N ps scope)
    (gm : GmOk p Γ k P w mg base) (hT : g ≠ 0 → TabF p mg base lp (qual ++ ".<locals>.") cdv) :
    FnOk P w p.K mg base (L2.CX P w) (k + g + 1) f (PySem.W.fnOf name qual params body scope dV kV doc pm an cdv ct) ps (spF p (runF ⟨N, scope, Γ, g, true, lp⟩ ps.length (dSs n ⟨N, scope, Γ, g, true, lp⟩ body))) := by
  have hlen : ∀ vs H Q E, spF p (runF ⟨N, scope, Γ, g, true, lp⟩ ps.length (dSs n ⟨N, scope, Γ, g, true, lp⟩ body)) vs H Q E → ∃ ds G dc, ds.length = ps.length ∧ DVs p.K p.da G ds vs ∧ GSq p dc G H ∧ vs.length = ps.length := fun vs H Q E ⟨ds, G, dc, dv, gs, q⟩ => by
    have hl : ds.length = ps.length := by
      by_cases h : ds.length = ps.length
      · exact h
      · unfold runF at q
        rw [if_neg h] at q
        exact (show False from q).elim
    exact ⟨ds, G, dc, hl, dv, gs, by rw [dv.length]; exact hl⟩
  refine fn_of lk hcd S (fun vs H Q E h => ?_) fun A outer s H vs Q E hr hsp => ?_
  · obtain ⟨_, _, _, _, _, _, h⟩ := hlen vs H Q E h
    exact h
  obtain ⟨ds, G, dc, dv, gs, q⟩ := hsp
  have hl : ds.length = ps.length := by
    by_cases h : ds.length = ps.length
    · exact h
    · unfold runF at q
      rw [if_neg h] at q
      exact (show False from q).elim
  have so := sok_cx (P := P) (w := w) (H0 := H) (Hb := fun _ => none) (sa := none) (H := H) (outer := outer) (E := E) (lp := lp) S gm hT hr
  refine ⟨_, ss_all n so body, ds.map .va ++ List.replicate (N.length - ds.length) .no, G, dc, gs, ?_, ?_⟩
  · have hlv := dv.length
    refine ⟨by unfold L2.start; simp [hlv], fun i d e => ?_, fun i d e => ?_, fun i d e => ?_, fun i j d e a h1 => ?_, .refl _ _, fun a h => absurd rfl h⟩
    · by_cases hi : i < ds.length
      · rw [List.getElem?_append_left (by simpa using hi), List.getElem?_map] at e
        cases hd : ds[i]? with
        | none => rw [hd] at e; cases e
        | some d' =>
          rw [hd] at e
          cases e
          obtain ⟨v, h1, h2⟩ := dv.get hd
          refine ⟨v, ?_, h2⟩
          unfold L2.start
          rw [List.getElem?_append_left (by simp; omega), List.getElem?_map, h1]
          rfl
      · rw [List.getElem?_append_right (by simpa using hi), List.getElem?_replicate] at e
        split at e <;> cases e
    · exfalso
      by_cases hi : i < ds.length
      · rw [List.getElem?_append_left (by simpa using hi), List.getElem?_map] at e
        cases hd : ds[i]? with
        | none => rw [hd] at e; cases e
        | some d' => rw [hd] at e; cases e
      · rw [List.getElem?_append_right (by simpa using hi), List.getElem?_replicate] at e
        split at e <;> cases e
    · exfalso
      by_cases hi : i < ds.length
      · rw [List.getElem?_append_left (by simpa using hi), List.getElem?_map] at e
        cases hd : ds[i]? with
        | none => rw [hd] at e; cases e
        | some d' => rw [hd] at e; cases e
      · rw [List.getElem?_append_right (by simpa using hi), List.getElem?_replicate] at e
        split at e <;> cases e
    · exfalso
      by_cases hi : i < ds.length
      · rw [List.getElem?_append_left (by simpa using hi), List.getElem?_map] at h1
        cases hd : ds[i]? with
        | none => rw [hd] at h1; cases h1
        | some d' => rw [hd] at h1; cases h1
      · rw [List.getElem?_append_right (by simpa using hi), List.getElem?_replicate] at h1
        split at h1 <;> cases h1
  · unfold runF at q
    rw [if_pos hl] at q
    show POut _ _ _ _ (dSs n ⟨N, scope, Γ, g, true, lp⟩ body (ds.map .va ++ List.replicate (N.length - ds.length) .no) dc)
    cases hm : dSs n ⟨N, scope, Γ, g, true, lp⟩ body (ds.map .va ++ List.replicate (N.length - ds.length) .no) dc with
    | st =>
      rw [bind_stt hm] at q
      exact q
    | er c dc' =>
      rw [bind_er hm] at q
      exact fun σ' G' H' s' g' e' => q G' H' s' (Grow.ofS rfl g' e')
    | ok fl dc' =>
      rw [bind_ok hm] at q
      cases fl with
      | nx ρ' => exact fun σ' G' H' s' g' r' => q .non G' H' s' (Grow.ofS rfl g' r'.ent) rfl
      | rt d ρ' => exact fun v σ' G' H' s' g' r' dv' => q v G' H' s' (Grow.ofS rfl g' r'.ent) dv'
      | bk ρ' => exact (show False from q).elim
      | ct ρ' => exact (show False from q).elim
theorem ins_ne {H : Hp} {a dx : Addr} (ne : dx ≠ a) {o o' : HO} : upd (upd H dx o) a o' dx = some o := by rw [upd_ne ne, upd_same]
/-- a class's __init__ upon a new object -/
theorem fn_runI {p : Qk} {Γ : Gm} {k g n : Nat} {lp : List (Nat × Nat)} {f : Addr} {cls name qual : Str} {params : Arguments} {body : List Stmt} {scope : Scope} {dV kV doc pm cdv ct oc : Value} {an od : Option Addr}
    {osl : Array (Option Value)} {N ps : List Str} (lk : p.K.lookup f = some ⟨oc, od, .func (PySem.W.fnOf name qual params body scope dV kV doc pm an cdv ct), osl⟩) (hcd : PySem.W.codeIn p.K cdv qual = true) (S : FnScope N ps scope) (hN : 0 < N.length)
    (gm : GmOk p Γ k P w mg base) (hT : g ≠ 0 → TabF p mg base lp (qual ++ ".<locals>.") cdv) :
    FnOk P w p.K mg base (L2.CX P w) (k + g + 1) f (PySem.W.fnOf name qual params body scope dV kV doc pm an cdv ct) ps (spI p cls (runI ⟨N, scope, Γ, g, true, lp⟩ cls ps.length (dSs n ⟨N, scope, Γ, g, true, lp⟩ body))) := by
  have hlq : ∀ {ds : List Px.D} {dc : Dc} {α : Prop}, (match runI ⟨N, scope, Γ, g, true, lp⟩ cls ps.length (dSs n ⟨N, scope, Γ, g, true, lp⟩ body) ds dc with | .st => False | _ => α) → ds.length + 1 = ps.length := fun {ds dc α} q => by
    by_cases h : ds.length + 1 = ps.length
    · exact h
    · unfold runI at q
      rw [if_neg h] at q
      exact (show False from q).elim
  have hl0 : ∀ {ds : List Px.D} {dc : Dc}, runI ⟨N, scope, Γ, g, true, lp⟩ cls ps.length (dSs n ⟨N, scope, Γ, g, true, lp⟩ body) ds dc ≠ .st → ds.length + 1 = ps.length := fun {ds dc} q => by
    by_cases h : ds.length + 1 = ps.length
    · exact h
    · exfalso
      apply q
      unfold runI
      rw [if_neg h]
      rfl
  refine fn_of lk hcd S (fun vs H Q E ⟨a, dx, us, ds, H0, G, dc, e, dv, gs, _, _, _, _, q⟩ => ?_) fun A outer s H vs Q E hr ⟨a, dx, us, ds, H0, G, dc, e, dv, gs, na, ndx, ne, eH, q⟩ => ?_
  · have h := hl0 (ds := ds) (dc := dc) fun z => by rw [z] at q; exact q
    rw [e]
    show us.length + 1 = _
    rw [dv.length]
    exact h
  have hl := hl0 (ds := ds) (dc := dc) fun z => by rw [z] at q; exact q
  have so := sok_cx (P := P) (w := w) (H0 := H0) (Hb := fun _ => none) (sa := some (a, dx)) (H := H) (outer := outer) (E := E) (lp := lp) S gm hT hr
  have gs1 : GSq p dc G H := by
    rw [eH]
    exact GS.newH (p := ⟨p, H0, fun _ => none, [], qual, none⟩) (GS.newH (p := ⟨p, H0, fun _ => none, [], qual, none⟩) gs ndx) (by rw [upd_ne (Ne.symm ne)]; exact na)
  have ga : G a = none := by
    cases z : G a with
    | none => rfl
    | some u => rw [gs.sub _ _ z] at na; cases na
  have gdx : G dx = none := by
    cases z : G dx with
    | none => rfl
    | some u => rw [gs.sub _ _ z] at ndx; cases ndx
  have nda : p.da ≠ some a := fun z => by rw [(gs.dice a z).1] at na; cases na
  have ent : Ext p.da H0 H := by
    rw [eH]
    exact (Ext.new p.da ndx).trans (Ext.new p.da (by rw [upd_ne (Ne.symm ne)]; exact na))
  have hlv := dv.length
  have hpl : ps.length ≤ N.length := by have := congrArg List.length S.pre; rw [List.length_take] at this; omega
  have ow : OWn ⟨p, H0, fun _ => none, (envOfC qual scope s.heap.objs.size f cdv).cells, qual ++ ".<locals>.", some (a, dx)⟩ G H a (.obj cls []) := by
    refine ⟨⟨dx, [], by rw [eH, upd_same], gdx, by rw [eH, ins_ne ne], ⟨ndx, rfl⟩, rfl⟩, ga, nda, na⟩
  refine ⟨_, ss_all n so body, .ow (.obj cls []) :: (ds.map .va ++ List.replicate (N.length - ps.length) .no), G, dc, gs1, ?_, ?_⟩
  · subst e
    have est : L2.start N (.ref a :: us) = some (.ref a) :: (us.map some ++ List.replicate (N.length - ps.length) none) := by
      unfold L2.start
      rw [List.map_cons, List.cons_append, List.length_cons, hlv, hl]
    rw [est]
    have tail : ∀ (i : Nat) (sl : Slot), (ds.map Slot.va ++ List.replicate (N.length - ps.length) Slot.no)[i]? = some sl → (∃ d, sl = .va d ∧ ds[i]? = some d) ∨ sl = .no := fun i sl e => by
      by_cases hi : i < ds.length
      · rw [List.getElem?_append_left (by simpa using hi), List.getElem?_map] at e
        cases hd : ds[i]? with
        | none => rw [hd] at e; cases e
        | some d' => rw [hd] at e; cases e; exact .inl ⟨d', rfl, rfl⟩
      · rw [List.getElem?_append_right (by simpa using hi), List.getElem?_replicate] at e
        split at e
        · cases e; exact .inr rfl
        · cases e
    refine ⟨by simp [hlv], fun i d e => ?_, fun i d e => ?_, fun i d e => ?_, fun i j d e b h1 h2 _ _ => ?_, ent, fun a h => absurd rfl h⟩
    · cases i with
      | zero => cases e
      | succ i =>
        rw [List.getElem?_cons_succ] at e ⊢
        rcases tail i _ e with ⟨d', e1, hd⟩ | e1
        · cases e1
          obtain ⟨v, h1, h2⟩ := dv.get hd
          refine ⟨v, ?_, h2⟩
          have hi : i < us.length := (List.getElem?_eq_some_iff.mp h1).1
          rw [List.getElem?_append_left (by simpa using hi), List.getElem?_map, h1]
          rfl
        · cases e1
    · cases i with
      | zero => cases e
      | succ i =>
        rw [List.getElem?_cons_succ] at e
        rcases tail i _ e with ⟨d', e1, hd⟩ | e1 <;> cases e1
    · cases i with
      | zero =>
        cases e
        exact ⟨a, rfl, ow⟩
      | succ i =>
        rw [List.getElem?_cons_succ] at e
        rcases tail i _ e with ⟨d', e1, hd⟩ | e1 <;> cases e1
    · cases i with
      | zero =>
        cases j with
        | zero => rfl
        | succ j =>
          rw [List.getElem?_cons_succ] at h2
          rcases tail j _ h2 with ⟨d', e1, hd⟩ | e1 <;> cases e1
      | succ i =>
        rw [List.getElem?_cons_succ] at h1
        rcases tail i _ h1 with ⟨d', e1, hd⟩ | e1 <;> cases e1
  · unfold runI at q
    rw [if_pos hl] at q
    show POut _ _ _ _ (dSs n ⟨N, scope, Γ, g, true, lp⟩ body (.ow (.obj cls []) :: (ds.map .va ++ List.replicate (N.length - ps.length) .no)) dc)
    have grow : ∀ {G' H' : Hp}, GrowS ⟨p, H0, fun _ => none, (envOfC qual scope s.heap.objs.size f cdv).cells, qual ++ ".<locals>.", some (a, dx)⟩ G G' → Ext p.da H0 H' → Grow p.da G H0 G' H' := fun g' e' => Grow.ofS rfl g' e'
    cases hm : dSs n ⟨N, scope, Γ, g, true, lp⟩ body (.ow (.obj cls []) :: (ds.map .va ++ List.replicate (N.length - ps.length) .no)) dc with
    | st =>
      rw [bind_stt hm] at q
      exact q
    | er c dc' =>
      rw [bind_er hm] at q
      exact fun σ' G' H' s' g' e' => q G' H' s' (grow g' e')
    | ok fl dc' =>
      rw [bind_ok hm] at q
      cases fl with
      | nx ρ' =>
        intro σ' G' H' s' g' r'
        dsimp only at q
        cases h0 : (ρ'[0]? : Option Slot) with
        | none => rw [h0] at q; exact (show False from q).elim
        | some sl =>
          rw [h0] at q
          cases sl with
          | ow d =>
            cases d with
            | obj k' fs' =>
              dsimp only at q
              by_cases hk : k' = cls
              · rw [if_pos hk] at q
                subst hk
                obtain ⟨fs, e1, q⟩ := q
                cases e1
                obtain ⟨a', h1, h2⟩ := r'.ow 0 _ h0
                obtain ⟨dx', ws, o1, o2, o3, ⟨o4, o6⟩, o5⟩ := h2.ow
                cases o6
                exact q ws G' H' s' (grow g' r'.ent) o1 o3 h2.gn o2 o5
              · rw [if_neg hk] at q
                exact (show False from q).elim
            | _ => exact (show False from q).elim
          | _ => exact (show False from q).elim
      | rt d _ => exact (show False from q).elim
      | bk ρ' => exact (show False from q).elim
      | ct ρ' => exact (show False from q).elim
end
end Px
/-! PR: the dice. -/
namespace Px
open PySem
/-- a roll: the next of the dice, by many -/
def rollS (many : Int) (dc : Dc) : Int × Dc :=
  if dc.2.2 = 2 ∨ (dc.2.2 = 1 ∧ dc.1 > 0) then (dc.1 % many, dc.1 / many, dc.2.1, dc.2.2)
  else
    let i := (dc.1 * 48271 + dc.2.1 * 69621 + 11) % 2147483647
    (i / 7 % many, i, dc.2.1 + 1, 0)
def rollF : Fn := fun ds => match ds with
  | [.dice, .int many] => if 1 ≤ many ∧ many ≤ 100000000 then fun dc => .ok (.int (rollS many dc).1) (rollS many dc).2 else M.st
  | _ => M.st
end Px
set_option maxRecDepth 100000
set_option maxHeartbeats 4000000
/-! PM1: a text's defs, layer by layer. -/
namespace Px
open PySem PySem.Spec PyProof.Rows L2 RZ LamX
/-- a def: where it stands, its names, parameters, body, scope, lambdas -/
structure Df where
  name : Str
  meth : Option Str
  N : List Str
  ps : List Str
  params : Arguments
  body : List Stmt
  scope : Scope
  lp : List (Nat × Nat)
def Df.at_ (d : Df) : Str × Option Str := (d.name, d.meth)
def Df.own (d : Df) : Str := match d.meth with
  | none => d.name
  | some m => m
def Df.qual (d : Df) : Str := match d.meth with
  | none => d.name
  | some m => d.name ++ "." ++ m
abbrev Df.cn (d : Df) (Γ : Gm) (g : Nat) : Cn := ⟨d.N, d.scope, Γ, g, true, d.lp⟩
abbrev Df.F (d : Df) (Γ : Gm) (g fu : Nat) : Fn := runF (d.cn Γ g) d.ps.length (dSs fu (d.cn Γ g) d.body)
abbrev Df.I (d : Df) (Γ : Gm) (g fu : Nat) : Fn := runI (d.cn Γ g) d.name d.ps.length (dSs fu (d.cn Γ g) d.body)
def gmN (fu g : Nat) (B : Gm) (fs is ms : List Df) : Nat → Gm
  | 0 => B
  | k + 1 => { B with
      fn := B.fn ++ fs.map fun d => (d.name, d.F (gmN fu g B fs is ms k) g fu)
      mks := is.map fun d => (d.name, d.I (gmN fu g B fs is ms k) g fu)
      me := ms.map fun d => ((d.name, d.own), d.F (gmN fu g B fs is ms k) g fu) }
theorem lookup_map {α β : Type} [BEq α] [LawfulBEq α] {f : Df → α} {h : Df → β} : ∀ {l : List Df} {x : α} {y : β}, (l.map fun d => (f d, h d)).lookup x = some y → ∃ d ∈ l, f d = x ∧ h d = y
  | [], _, _, e => by cases e
  | d :: l, x, y, e => by
    rw [List.map_cons, List.lookup_cons] at e
    cases q : (x == f d) with
    | true =>
      rw [q] at e
      cases e
      exact ⟨d, List.mem_cons_self, (eq_of_beq q).symm, rfl⟩
    | false =>
      rw [q] at e
      obtain ⟨d', hd, h1, h2⟩ := lookup_map e
      exact ⟨d', List.mem_cons_of_mem _ hd, h1, h2⟩
theorem lookup_app {α β : Type} [BEq α] {l r : List (α × β)} {x : α} {y : β} (e : (l ++ r).lookup x = some y) : l.lookup x = some y ∨ r.lookup x = some y := by
  rw [List.lookup_append] at e
  cases h : l.lookup x with
  | some z => rw [h] at e; exact .inl e
  | none => rw [h] at e; exact .inr e
theorem lookup_none_map {β : Type} {f : Df → Str} {h : Df → β} {l : List Df} {x : Str} (hx : x ∉ l.map f) : (l.map fun d => (f d, h d)).lookup x = none := by
  cases e : (l.map fun d => (f d, h d)).lookup x with
  | none => rfl
  | some y =>
    obtain ⟨d, hd, h1, _⟩ := lookup_map e
    exact absurd (List.mem_map.mpr ⟨d, hd, h1⟩) hx
/-- what the head tells of a def -/
def DfOk (p : Qk) (mg : Str → Option Value) (base : Heap) (d : Df) (a : Addr) : Prop := ∃ (params : Arguments) (dV kV doc pm cdv ct oc : Value) (an od : Option Addr) (osl : Array (Option Value)),
  p.K.lookup a = some ⟨oc, od, .func (PySem.W.fnOf d.own d.qual params d.body d.scope dV kV doc pm an cdv ct), osl⟩ ∧ PySem.W.codeIn p.K cdv d.qual = true ∧ FnScope d.N d.ps d.scope ∧ Binds p.K (PySem.W.fnOf d.own d.qual params d.body d.scope dV kV doc pm an cdv ct) d.ps [] ∧ PySem.W.keepIn p.K (.ref a) = true ∧ TabF p mg base d.lp (d.qual ++ ".<locals>.") cdv
section
variable {p : Qk} {prog : Program} {w : World} {mg : Str → Option Value} {base : Heap}
theorem GmOk.mono {Γ : Gm} {j k : Nat} (h : GmOk p Γ j prog w mg base) (hl : j ≤ k) : GmOk p Γ k prog w mg base := by
  refine ⟨h.gl, h.bl, h.cls, fun f F e => ?_, fun c F e => ?_, h.eqs, h.ex, h.told, fun c m F e => ?_⟩
  · obtain ⟨a, fd, ps, i, hi, r⟩ := h.fn f F e
    exact ⟨a, fd, ps, i, Nat.le_trans hi hl, r⟩
  · obtain ⟨a, fd, ps, i, hi, r⟩ := h.mak c F e
    exact ⟨a, fd, ps, i, Nat.le_trans hi hl, r⟩
  · obtain ⟨a, fd, ps, i, hi, r⟩ := h.me c m F e
    exact ⟨a, fd, ps, i, Nat.le_trans hi hl, r⟩
theorem runI_obj {C : Cn} {cls : Str} {np : Nat} {body : En → M Fl} {ds : List Px.D} {dc dc' : Dc} {d : Px.D} (h : runI C cls np body ds dc = .ok d dc') : ∃ fs, d = .obj cls fs := by
  unfold runI at h
  split at h
  · cases e : body (.ow (.obj cls []) :: (ds.map .va ++ List.replicate (C.N.length - np) .no)) dc with
    | st => rw [bind_stt e] at h; cases h
    | er c dc1 => rw [bind_er e] at h; cases h
    | ok fl dc1 =>
      rw [bind_ok e] at h
      cases fl with
      | nx ρ =>
        dsimp only at h
        cases h0 : (ρ[0]? : Option Slot) with
        | none => rw [h0] at h; cases h
        | some sl =>
          rw [h0] at h
          cases sl with
          | ow d' =>
            cases d' with
            | obj k fs =>
              dsimp only at h
              split at h
              · cases h; exact ⟨fs, rfl⟩
              · cases h
            | _ => cases h
          | _ => cases h
      | rt _ _ => cases h
      | bk _ => cases h
      | ct _ => cases h
  · cases h
/-- the next layer -/
theorem gm_step {fu g : Nat} {B : Gm} {fs is ms : List Df} {k L : Nat} (hB : GmOk p B L prog w mg base) (hk : GmOk p (gmN fu g B fs is ms k) L prog w mg base)
    (hbl : ∀ f ∈ bltT ++ bltF, f ∉ fs.map Df.name ∧ f ∉ is.map Df.name)
    (hf : ∀ d ∈ fs, ∃ a, mg d.name = some (.ref a) ∧ DfOk p mg base d a)
    (hi : ∀ d ∈ is, ∃ a, mg d.name = some (.ref (He.ga p.K d.name)) ∧ Mk p.K (He.ga p.K d.name) a ∧ 0 < d.N.length ∧ DfOk p mg base d a)
    (hm : ∀ d ∈ ms, ∃ a, Cls p.K (He.ga p.K d.name) ∧ Meth p.K (He.ga p.K d.name) d.own a ∧ DfOk p mg base d a) :
    GmOk p (gmN fu g B fs is ms (k + 1)) (L + g + 2) prog w mg base := by
  have run : ∀ {d : Df} {a : Addr}, DfOk p mg base d a → ∃ fd, Binds p.K fd d.ps [] ∧ PySem.W.keepIn p.K (.ref a) = true ∧ FnOk prog w p.K mg base (L2.CX prog w) (L + g + 1) a fd d.ps (spF p (d.F (gmN fu g B fs is ms k) g fu)) := fun {d a} ⟨params, dV, kV, doc, pm, cdv, ct, oc, an, od, osl, lk, hcd, S, hb, kp, tf⟩ =>
    ⟨_, hb, kp, fn_runF lk hcd S hk fun _ => tf⟩
  have hB' := hB.mono (k := L + g + 2) (by omega)
  refine ⟨hB.gl, fun f hfm => ?_, hB.cls, fun f F e => ?_, fun c F e => ?_, hB.eqs, hB.ex, hB.told, fun c m F e => ?_⟩
  · obtain ⟨b1, b2, b3, b4⟩ := hB.bl f hfm
    refine ⟨b1, ?_, lookup_none_map (hbl f hfm).2, b4⟩
    show (B.fn ++ _).lookup f = none
    rw [List.lookup_append, b2, lookup_none_map (hbl f hfm).1]
    rfl
  · rcases lookup_app (show (B.fn ++ _).lookup f = some F from e) with e | e
    · exact hB'.fn f F e
    · obtain ⟨d, hd, rfl, rfl⟩ := lookup_map e
      obtain ⟨a, h1, h2⟩ := hf d hd
      obtain ⟨fd, hb, kp, fo⟩ := run h2
      exact ⟨a, fd, d.ps, L + g + 1, by omega, h1, kp, hb, fo⟩
  · obtain ⟨d, hd, rfl, rfl⟩ := lookup_map (show (is.map _).lookup c = some F from e)
    obtain ⟨a, h1, h2, hN, params, dV, kV, doc, pm, cdv, ct, oc, an, od, osl, lk, hcd, S, hb, kp, tf⟩ := hi d hd
    exact ⟨a, _, d.ps, L + g + 1, by omega, h1, h2, hb, fun ds dc d' dc' q => runI_obj q, fn_runI lk hcd S hN hk fun _ => tf⟩
  · obtain ⟨d, hd, e1, rfl⟩ := lookup_map (show (ms.map fun d => ((d.name, d.own), _)).lookup (c, m) = some F from e)
    cases e1
    obtain ⟨a, h1, h2, h3⟩ := hm d hd
    obtain ⟨fd, hb, kp, fo⟩ := run h3
    exact ⟨a, fd, d.ps, L + g + 1, by omega, h1, h2, hb, fo⟩
theorem gm_all {fu g : Nat} {B : Gm} {fs is ms : List Df} {L : Nat} (hB : GmOk p B L prog w mg base) 
    (hbl : ∀ f ∈ bltT ++ bltF, f ∉ fs.map Df.name ∧ f ∉ is.map Df.name)
    (hf : ∀ d ∈ fs, ∃ a, mg d.name = some (.ref a) ∧ DfOk p mg base d a)
    (hi : ∀ d ∈ is, ∃ a, mg d.name = some (.ref (He.ga p.K d.name)) ∧ Mk p.K (He.ga p.K d.name) a ∧ 0 < d.N.length ∧ DfOk p mg base d a)
    (hm : ∀ d ∈ ms, ∃ a, Cls p.K (He.ga p.K d.name) ∧ Meth p.K (He.ga p.K d.name) d.own a ∧ DfOk p mg base d a) : ∀ k, GmOk p (gmN fu g B fs is ms k) (L + k * (g + 2)) prog w mg base
  | 0 => hB.mono (Nat.le_add_right _ _)
  | k + 1 => by
    have := gm_step (fu := fu) (g := g) (B := B) (fs := fs) (is := is) (ms := ms) (k := k) (L := L + k * (g + 2)) (hB.mono (Nat.le_add_right _ _)) (gm_all hB hbl hf hi hm k) hbl hf hi hm
    have e : L + k * (g + 2) + g + 2 = L + (k + 1) * (g + 2) := by rw [Nat.succ_mul]; omega
    rw [e] at this
    exact this
end
end Px
set_option maxRecDepth 100000
set_option maxHeartbeats 4000000
/-! PM2: the law's own statements: the dice made from the script, then a round with it. -/
namespace Px
open PySem PySem.Spec PyProof.Rows L2 RZ LamX
/-- before and behind the dice -/
abbrev Qk.wd (p : Qk) (da : Option Addr) : Qk := ⟨p.K, da, p.T⟩
/-- a round with the dice, then the rest -/
def lawM (n : Nat) (C : Cn) (tg : Expr) (fb rest : List Stmt) : M Fl :=
  forM' (tgN n C tg) (dSs n C fb) [.dice] (List.replicate C.N.length .no) >>= fun f => match f with
    | .nx ρ => dSs n C rest ρ
    | f => M.st
/-- what the law's statements do -/
def LawR (n : Nat) (C : Cn) (tg call : Expr) (fb rest : List Stmt) (ρ : En) (dc : Dc) : Prop := ∃ i j k dc1 ρ2 dc2, dE n false C call ρ dc = .ok (.lst [.lst [.int i, .int j, .int k]]) dc1 ∧ lawM n C tg fb rest (i, j, k) = .ok (.rt (.bl true) ρ2) dc2
section
variable {p : Qk} {cl : List (Str × Addr)} {q : Str} {C : Cn} {k : Nat} {W : WX} {X : Cx} {n : Nat}
abbrev PkL (p : Qk) (cl : List (Str × Addr)) (q : Str) (da : Option Addr) (H0 : Hp) : Pk := ⟨p.wd da, H0, fun _ => none, cl, q, none⟩
/-- the state behind the call, as the round sees it -/
def onlyL (L A : Addr) : Hp := fun x => if x = L then some (.lst [.ref A]) else none
theorem gs_law {G H : Hp} {dc : Dc} {L A : Addr} {i j k : Int} (gs : GSq (p.wd none) dc G H) (hL : H L = some (.lst [.ref A])) (hA : H A = some (.lst [.int i, .int j, .int k])) : GSq (p.wd (some A)) (i, j, k) (onlyL L A) H := by
  have ne : A ≠ L := fun z => by rw [z, hL] at hA; cases hA
  refine ⟨fun b u e => ?_, fun b e => ?_, gs.tabs, fun t ht => ?_⟩
  · unfold onlyL at e
    split at e
    · rename_i h
      cases e
      rw [h]
      exact hL
    · cases e
  · cases e
    exact ⟨hA, if_neg ne⟩
  · obtain ⟨ps, e, _⟩ := gs.tabs t ht
    exact if_neg fun z => by rw [z, hL] at e; cases e
theorem pss_law {tg call : Expr} {fb rest : List Stmt} {pos : Pos} (hx : ∀ da H0, SOk (PkL p cl q da H0) C k W X) (hit : itOk tg call = true) : PSs X (.For tg call fb [] pos :: rest) (fun D σ H => ∃ ρ G dc, ρ.length = C.N.length ∧ GSq (p.wd none) dc G H ∧ RS (PkL p cl q none H) ρ σ G H ∧ LawR n C tg call fb rest ρ dc ∧ ∀ H', D.rt (.bl true) H') := by
  have hx0 := hx none fun _ => none
  have hg : PG X tg (fun v σ H Q => ∃ a H0, gT (PkL p cl q (some a) H0) (tgN n C tg) (vsN C) v σ H Q) := ⟨fun pins s σ H v u Q I r ⟨a, H0, h⟩ => (pg_T (hx (some a) H0).toXOk (vsN C) (fun y => vsN_mem) n tg).run pins s σ H v u Q I r h⟩
  have hb : ∀ ss, PSs X ss (fun D σ H => ∃ a H0, sS (PkL p cl q (some a) H0) W (fun ρ => dSs n C ss ρ) D σ H) := fun ss => ⟨fun pins s σ H D I ⟨a, H0, h⟩ => (ss_all n (hx (some a) H0) ss).run pins s σ H D I h⟩
  have he : PE X call (fun σ H Q => ∃ H0, tE (PkL p cl q none H0) W .va (fun ρ => dE n false C call ρ) σ H Q) := ⟨fun pins s σ H Q I ⟨H0, h⟩ => ((ih_all n).ih.E (hx none H0).toXOk false .va call rfl).run pins s σ H Q I h⟩
  refine PSs.imp (pss_cons (ps_for hx0.hp hx0.calm (pi_list he) hg (hb fb) (fold_of (itOk_set hit))) (hb rest)) fun D σ H ⟨ρ, G, dc, rl0, gs, rs, ⟨i, j, kk, dc1, ρ2, dc2, e1, e2⟩, fin⟩ => ?_
  refine ⟨H, ρ, G, dc, gs, rs, ?_⟩
  dsimp only
  rw [e1]
  rintro v G1 H1 gs1 g1 ⟨L, vs, rfl, hL, v1, r1, rfl, ⟨A, ws, rfl, hA, dws⟩, hr⟩
  obtain ⟨_, _, rfl, rfl, _, _, rfl, rfl, _, _, rfl, rfl, rfl⟩ := dws
  cases hr
  have hL' := gs1.sub _ _ hL
  have hA' := gs1.sub _ _ hA
  have gsA := gs_law (p := p) gs1 hL' hA'
  have rl : (List.replicate C.N.length Slot.no).length = σ.length := by
    rw [List.length_replicate, ← rl0]
    exact rs.len
  have rsA : RS (PkL p cl q (some A) H1) (List.replicate C.N.length .no) σ (onlyL L A) H1 := by
    have no : ∀ (l : Nat) (s : Slot), (List.replicate C.N.length Slot.no)[l]? = some s → s = .no := fun l s h => by
      rw [List.getElem?_replicate] at h
      split at h
      · cases h; rfl
      · cases h
    exact ⟨rl, fun l d h => (by cases no _ _ h), fun l d h => (by cases no _ _ h), fun l d h => (by cases no _ _ h), fun l m d e a h _ _ _ => (by cases no _ _ h), .refl _ _, fun a h => absurd rfl h⟩
  refine ⟨L, rfl, ⟨_, .inl (.inl hL')⟩, ?_⟩
  have post : POut (PkL p cl q (some A) H1) W { D with nx := fun σ H => ∃ a H0, sS (PkL p cl q (some a) H0) W (fun ρ => dSs n C rest ρ) D σ H } (onlyL L A) (forM' (tgN n C tg) (dSs n C fb) [.dice] (List.replicate C.N.length .no) (i, j, kk)) := by
    unfold lawM at e2
    cases hm : forM' (tgN n C tg) (dSs n C fb) [.dice] (List.replicate C.N.length .no) (i, j, kk) with
    | st => rw [bind_stt hm] at e2; cases e2
    | er c dc' => rw [bind_er hm] at e2; cases e2
    | ok f dc' =>
      rw [bind_ok hm] at e2
      cases f with
      | nx ρ3 =>
        intro σ' G' H' s' g' r'
        refine ⟨A, H1, ρ3, G', dc', s', r', ?_⟩
        show POut _ _ _ _ (dSs n C rest ρ3 dc')
        rw [show dSs n C rest ρ3 dc' = _ from e2]
        intro v σ2 G2 H2 _ _ _ dv
        cases (show v = .bl true from dv)
        exact fin H2
      | bk _ => cases e2
      | ct _ => cases e2
      | rt d ρ' => cases e2
  refine for_it (g := fun v σ H Q => ∃ a H0, gT (PkL p cl q (some a) H0) (tgN n C tg) (vsN C) v σ H Q) (tb := fun D σ H => ∃ a H0, sS (PkL p cl q (some a) H0) W (fun ρ => dSs n C fb ρ) D σ H) (D := { D with nx := fun σ H => ∃ a H0, sS (PkL p cl q (some a) H0) W (fun ρ => dSs n C rest ρ) D σ H }) (J := Itl X.K L) (n := 1) (Walk.len (walk_list (xs := [.ref A])) rfl) (PvF (PkL p cl q (some A) H1) W { D with nx := fun σ H => ∃ a H0, sS (PkL p cl q (some a) H0) W (fun ρ => dSs n C rest ρ) D σ H } (onlyL L A) fun i ρ => forM' (tgN n C tg) (dSs n C fb) ([Px.D.dice].drop i) ρ) ⟨_, _, (i, j, kk), gsA, .refl _ _, rsA, post⟩ (fun i σ' H' _ ⟨ρ', G', dc', s', g', _⟩ => .inl (.inl (s'.sub _ _ (g'.1 _ _ (if_pos rfl))))) ?_ ?_
  · rintro l xv σ' H' H'' hi ⟨ρ', G', dc', s', g', rs', post'⟩ ⟨rfl, hy⟩
    obtain rfl : l = 0 := by
      have : l < 1 := hi
      omega
    cases hy
    dsimp only at post'
    rw [List.drop_zero] at post'
    unfold forM' at post'
    obtain ⟨ρ2, e3, post'⟩ := POut.liftC post'
    refine ⟨A, H1, ρ', G', dc', .dice, ρ2, s', rs', ⟨A, rfl, rfl⟩, e3, fun σ2 rs3 _ _ => ⟨A, H1, ρ2, G', dc', s', rs3, ?_⟩⟩
    show POut _ W _ G' (dSs n C fb ρ2 dc')
    cases hm : dSs n C fb ρ2 dc' with
    | st =>
      rw [bind_stt hm] at post'
      exact post'
    | er c dc2 =>
      rw [bind_er hm] at post'
      exact post'
    | ok f dc2 =>
      rw [bind_ok hm] at post'
      cases f with
      | nx ρ3 => exact fun σ3 G3 H3 s3 g3 rs3 => ⟨ρ3, G3, dc2, s3, g'.trans g3, rs3, post'.grow g3⟩
      | ct ρ3 => exact fun σ3 G3 H3 s3 g3 rs3 => ⟨ρ3, G3, dc2, s3, g'.trans g3, rs3, post'.grow g3⟩
      | bk ρ3 => exact post'
      | rt d ρ'' => exact post'
  · rintro σ' H' ⟨ρ', G', dc', s', g', rs', post'⟩
    exact post' σ' G' H' s' (.refl _ _) rs'
end
section
variable {P : Program} {w : World} {mg : Str → Option Value} {base : Heap}
/-- what the law promises -/
def spLaw (p : Qk) (R : List D → Dc → Prop) : Sp := fun vs H Q _ => ∃ ds G dc, DVs p.K none G ds vs ∧ GSq (p.wd none) dc G H ∧ R ds dc ∧ ∀ H', Q (.bl true) H'
theorem fn_law {p : Qk} {Γ : Gm} {k g n : Nat} {lp : List (Nat × Nat)} {f : Addr} {name qual : Str} {params : Arguments} {tg call : Expr} {fb rest : List Stmt} {pos : Pos} {scope : Scope} {dV kV doc pm cdv ct oc : Value} {an od : Option Addr}
    {osl : Array (Option Value)} {N ps : List Str} (lk : p.K.lookup f = some ⟨oc, od, .func (PySem.W.fnOf name qual params (.For tg call fb [] pos :: rest) scope dV kV doc pm an cdv ct), osl⟩) (hcd : PySem.W.codeIn p.K cdv qual = true) (S : FnScope N ps scope)
    (gm : ∀ da, GmOk (p.wd da) Γ k P w mg base) (hT : g ≠ 0 → TabF p mg base lp (qual ++ ".<locals>.") cdv) (hit : itOk tg call = true) (hps : ps.length ≤ N.length) :
    FnOk P w p.K mg base (L2.CX P w) (k + g + 1) f (PySem.W.fnOf name qual params (.For tg call fb [] pos :: rest) scope dV kV doc pm an cdv ct) ps (spLaw p fun ds dc => ds.length = ps.length ∧ LawR n ⟨N, scope, Γ, g, true, lp⟩ tg call fb rest (ds.map .va ++ List.replicate (N.length - ds.length) .no) dc) := by
  refine fn_of lk hcd S (fun vs H Q E ⟨ds, G, dc, dv, gs, ⟨hl, _⟩, _⟩ => by rw [dv.length]; exact hl) fun A outer s H vs Q E hr ⟨ds, G, dc, dv, gs, ⟨hl, lr⟩, fin⟩ => ?_
  have so : ∀ da H0, SOk (PkL p (envOfC qual scope s.heap.objs.size f cdv).cells (qual ++ ".<locals>.") da H0) ⟨N, scope, Γ, g, true, lp⟩ k (fun cls d _ H => E cls d H) (cxOf (L2.CX P w) P w p.K mg base N qual scope f cdv A outer s H E) := fun da H0 =>
    sok_cx (p := p.wd da) (P := P) (w := w) (H0 := H0) (Hb := fun _ => none) (sa := none) (H := H) (outer := outer) (E := E) (lp := lp) S (gm da) hT hr
  have hlv := dv.length
  have lx : (ds.map Slot.va ++ List.replicate (N.length - ds.length) Slot.no).length = N.length := by simp; omega
  refine ⟨_, pss_law (n := n) so hit, ds.map .va ++ List.replicate (N.length - ds.length) .no, G, dc, lx, gs, ?_, lr, fin⟩
  have kinds : ∀ (i : Nat) (sl : Slot), (ds.map Slot.va ++ List.replicate (N.length - ds.length) Slot.no)[i]? = some sl → (∃ d, sl = .va d ∧ ds[i]? = some d) ∨ sl = .no := fun i sl e => by
    by_cases hi : i < ds.length
    · rw [List.getElem?_append_left (by simpa using hi), List.getElem?_map] at e
      cases hd : ds[i]? with
      | none => rw [hd] at e; cases e
      | some d' => rw [hd] at e; cases e; exact .inl ⟨d', rfl, rfl⟩
    · rw [List.getElem?_append_right (by simpa using hi), List.getElem?_replicate] at e
      split at e
      · cases e; exact .inr rfl
      · cases e
  refine ⟨by unfold L2.start; simp [hlv], fun i d e => ?_, fun i d e => ?_, fun i d e => ?_, fun i j d e a h1 => ?_, .refl _ _, fun a h => absurd rfl h⟩
  · rcases kinds i _ e with ⟨d', e1, hd⟩ | e1
    · cases e1
      obtain ⟨v, h1, h2⟩ := dv.get hd
      refine ⟨v, ?_, h2⟩
      have hi : i < vs.length := (List.getElem?_eq_some_iff.mp h1).1
      unfold L2.start
      rw [List.getElem?_append_left (by simpa using hi), List.getElem?_map, h1]
      rfl
    · cases e1
  · rcases kinds i _ e with ⟨d', e1, hd⟩ | e1 <;> cases e1
  · rcases kinds i _ e with ⟨d', e1, hd⟩ | e1 <;> cases e1
  · rcases kinds i _ h1 with ⟨d', e1, hd⟩ | e1 <;> cases e1
end
end Px
set_option maxRecDepth 100000
set_option maxHeartbeats 4000000
/-! PM3: from what the head tells to the layers. -/
namespace Px
open PySem PySem.Spec PyProof.Rows L2 RZ LamX He
/-- a text -/
structure Tx where
  all : List Df
  cls : List Str
  fl : List (Str × Str)
  exs : List Str
  gl : List (Str × Px.D)
  told : List (Df × (Str × Str) × List Str × Str)
def Df.dd (d : Df) : DefD := { at_ := d.at_, name := d.own, qual := d.qual, params := d.params, body := d.body, scope := d.scope }
mutual
/-- a constant of the top -/
def relD (K : PySem.W.Frag) : Px.D → Value → Bool
  | .int i, .int j _ => decide (i = j)
  | .bl b, .bool c => b == c
  | .str x, .str y _ => decide (x = y)
  | .ktup ds, .ref a => (match K.lookup a with
    | some ⟨.type c, _, .seq its _, _⟩ => decide (c = "tuple") && (decide (its.size ≤ sizeLine) && relDs K ds its.toList)
    | _ => false)
  | _, _ => false
def relDs (K : PySem.W.Frag) : List Px.D → List Value → Bool
  | [], [] => true
  | d :: ds, u :: us => relD K d u && relDs K ds us
  | _, _ => false
end
mutual
theorem relD_ok {K : PySem.W.Frag} : ∀ (d : Px.D) (u : Value), relD K d u = true → ∃ v, RelV v u ∧ ∀ da G, DV K da G d v
  | .int i, .int j t, h => ⟨.int i, ⟨t, by rw [of_decide_eq_true (show decide (i = j) = true from by unfold relD at h; exact h)]⟩, fun _ _ => rfl⟩
  | .bl b, .bool c, h => ⟨.bl b, by
      have e : b = c := eq_of_beq (show (b == c) = true from by unfold relD at h; exact h)
      rw [e]
      rfl, fun _ _ => rfl⟩
  | .str x, .str y t, h => ⟨.str x, ⟨t, by rw [of_decide_eq_true (show decide (x = y) = true from by unfold relD at h; exact h)]⟩, fun _ _ => rfl⟩
  | .ktup ds, .ref a, h => by
    unfold relD at h
    cases q : K.lookup a with
    | none =>
      rw [q] at h
      cases h
    | some o =>
      obtain ⟨oc, od, dt, osl⟩ := o
      rw [q] at h
      cases oc with
      | type c =>
        cases dt with
        | seq its n =>
          obtain ⟨h1, h2⟩ := ba (show (decide (c = "tuple") && (decide (its.size ≤ sizeLine) && relDs K ds its.toList)) = true from h)
          obtain ⟨h3, h4⟩ := ba h2
          obtain ⟨vs, r, dv⟩ := relDs_ok ds its.toList h4
          exact ⟨.ref a, rfl, fun da G => ⟨a, vs, rfl, fun H => .inr ⟨_, its, n, q, congrArg Value.type (of_decide_eq_true h1), rfl, of_decide_eq_true h3, r⟩, dv da G⟩⟩
        | _ => cases h
      | _ => cases dt <;> cases h
theorem relDs_ok {K : PySem.W.Frag} : ∀ (ds : List Px.D) (us : List Value), relDs K ds us = true → ∃ vs, Vals vs us ∧ ∀ da G, DVs K da G ds vs
  | [], [], _ => ⟨[], .nil, fun _ _ => rfl⟩
  | d :: ds, u :: us, h => by
    unfold relDs at h
    obtain ⟨h1, h2⟩ := ba h
    obtain ⟨v, r, dv⟩ := relD_ok d u h1
    obtain ⟨vs, rs, dvs⟩ := relDs_ok ds us h2
    exact ⟨v :: vs, .cons r rs, fun da G => ⟨v, vs, rfl, dv da G, dvs da G⟩⟩
end
def glB (K : PySem.W.Frag) (q : Str × Px.D) : Bool := match PySem.W.nsIn K mainGlobals q.1 with
  | some (some u) => relD K q.2 u
  | _ => false
def eqB (K : PySem.W.Frag) (c : Str) : Bool := decide (PySem.W.mroIn K (ga K c) (.type "object") = some true) && eqO (PySem.W.findIn K (.ref (ga K c)) "__eq__") (some (some (.builtin "object.__eq__")))
def incr : List Nat → Bool
  | a :: b :: r => decide (a < b) && incr (b :: r)
  | _ => true
theorem incr_lt : ∀ {l : List Nat} {x : Nat}, incr (x :: l) = true → ∀ y ∈ l, x < y
  | [], _, _, _, h => by cases h
  | b :: r, x, e, y, h => by
    obtain ⟨h1, h2⟩ := ba (show (decide (x < b) && incr (b :: r)) = true from e)
    have lt := of_decide_eq_true h1
    rcases List.mem_cons.mp h with rfl | h
    · exact lt
    · exact Nat.lt_trans lt (incr_lt h2 y h)
theorem incr_tail {l : List Nat} {x : Nat} (e : incr (x :: l) = true) : incr l = true := by
  cases l with
  | nil => rfl
  | cons b r => exact (ba (show (decide (x < b) && incr (b :: r)) = true from e)).2
theorem incr_inj {α : Type} {f : α → Nat} : ∀ {l : List α}, incr (l.map f) = true → ∀ a ∈ l, ∀ b ∈ l, f a = f b → a = b
  | [], _, _, h, _, _, _ => by cases h
  | x :: l, e, a, ha, b, hb, q => by
    rcases List.mem_cons.mp ha with ea | ha2
    · rcases List.mem_cons.mp hb with eb | hb2
      · rw [ea, eb]
      · have := incr_lt e (f b) (List.mem_map.mpr ⟨b, hb2, rfl⟩)
        rw [ea] at q
        omega
    · rcases List.mem_cons.mp hb with eb | hb2
      · have := incr_lt e (f a) (List.mem_map.mpr ⟨a, ha2, rfl⟩)
        rw [eb] at q
        omega
      · exact incr_inj (incr_tail e) a ha2 b hb2 q
def Tx.ex (t : Tx) (K : PySem.W.Frag) : Bool := incr (t.all.map fun d => ((cT K d.at_).2 : Nat)) && (t.cls.all (eqB K) && t.gl.all (glB K))
def Tx.fn (t : Tx) : List DefD := t.all.map Df.dd
def Tx.tf (t : Tx) : List Defn := t.all.map Df.at_
/-- the top's defs, constructors, methods -/
def Tx.fs (t : Tx) : List Df := t.all.filter fun d => d.meth.isNone
def Tx.is (t : Tx) : List Df := t.all.filter fun d => decide (d.meth = some ("__init__" : Str))
def Tx.ms (t : Tx) : List Df := t.all.filter fun d => d.meth.isSome && decide (d.meth ≠ some ("__init__" : Str))
def Tx.fa (t : Tx) : List Fa := (t.fs.map fun d => .glo d.name) ++ (t.cls.map .glo ++ (t.cls.map .cls ++ (t.is.map (fun d => .mkr d.name) ++ (t.fl.map (fun q => .noat q.1 q.2) ++ (t.ms.map (fun d => .meth d.name d.own) ++
  (t.exs.map .glo ++ (t.exs.map .exc ++ ((bltT ++ bltF).map .free ++ t.told.flatMap fun q => (.glo q.2.1.2 : Fa) :: q.2.2.1.map fun c => .exm c q.2.1.2 true))))))))
/-- the pure side's ground layer -/
def Tx.B (t : Tx) : Gm := { gl := t.gl, ex := t.exs, eqs := t.cls, fl := t.fl, told := t.told.map fun q => (q.1.name, fun c => decide (c ∈ q.2.2.1), q.2.2.2) }
end Px
set_option maxRecDepth 100000
set_option maxHeartbeats 4000000
/-! PM4: a text's layers from the head. -/
namespace Px
open PySem PySem.Spec PyProof.Rows L2 RZ LamX He
/-- what a def's row shows -/
structure Df.Row (d : Df) : Prop where
  scope : FnScope d.N d.ps d.scope
  binds : ∀ (kV doc pm : Value) (an : Option Addr) (cdv ct : Value) (us : List Value), us.length = d.ps.length → bindArgs (PySem.W.fnOf d.own d.qual d.params d.body d.scope .none kV doc pm an cdv ct) ⟨us, []⟩ = pure (d.ps.zip us)
structure ToldSt (d : Df) (a e w : Str) : Prop where
  ps : d.ps = [a]
  ix : d.N[0]? = some a
  vis : Vis d.scope a
  glo : d.scope.names.lookup e = some .globalImplicit
  de : (e == ("__debug__" : Str)) = false
  da : (a == ("__debug__" : Str)) = false
  dk : (a == ("__classdict__" : Str)) = false
  st : ∀ v : V, (L2.start d.N [v])[0]? = some (some v)
  body : ∃ (j : Nat) (p1 p2 p3 p4 p5 p6 p7 p8 : Pos), d.body = [.Try [.Return (some (.Call (.Name a p1) [] [] p2)) p3] [.ExceptHandler (some (.Name e p4)) none [.Return (some (.Constant (.str w) j p5)) p6] p7] [] [] p8]
structure Tx.Ok (t : Tx) : Prop where
  rows : ∀ d ∈ t.all, d.Row
  blt : ∀ f ∈ bltT ++ bltF, (f ∉ t.fs.map Df.name ∧ f ∉ t.is.map Df.name) ∧ t.B.told.lookup f = none
  inits : ∀ d ∈ t.is, 0 < d.N.length ∧ d.name ∈ t.cls
  meths : ∀ d ∈ t.ms, d.name ∈ t.cls
  flc : ∀ q ∈ t.fl, q.1 ∈ t.cls
  told : ∀ q ∈ t.told, q.1 ∈ t.fs ∧ ToldSt q.1 q.2.1.1 q.2.1.2 q.2.2.2
def Tx.qk (t : Tx) (K : PySem.W.Frag) : Qk := ⟨K, none, t.all.map fun d => ((cT K d.at_).2, d.lp, d.qual ++ ".<locals>.")⟩
section
variable {t : Tx} {K : PySem.W.Frag} {h : Heap} {mg : Str → Option Value} {w : World} {P : Program} {base : Heap} {da : Option Addr}
theorem lookup_memS {β : Type} {x : Str} {y : β} : ∀ {l : List (Str × β)}, l.lookup x = some y → (x, y) ∈ l
  | [], e => by cases e
  | (a, b) :: r, e => by
    rw [List.lookup_cons] at e
    cases q : (x == a) with
    | true =>
      rw [q] at e
      cases e
      rw [eq_of_beq q]
      exact List.mem_cons_self
    | false =>
      rw [q] at e
      exact List.mem_cons_of_mem _ (lookup_memS e)
section
variable (c : SaysX t.fa t.fn [] t.tf t.ex w h K) (KX : K.In h) (Gn : h.Ns mainGlobals mg) (o : t.Ok)
include c in
theorem says_fact {f : Fa} (hf : f ∈ t.fa) : f.ok K = true := c.t.d.facts hf
theorem fa_fs {d : Df} (hd : d ∈ t.fs) : (Fa.glo d.name) ∈ t.fa := by
  unfold Tx.fa
  simp only [List.mem_append, List.mem_map]
  exact .inl ⟨d, hd, rfl⟩
theorem fa_cls {x : Str} (hx : x ∈ t.cls) : Fa.glo x ∈ t.fa ∧ Fa.cls x ∈ t.fa := by
  unfold Tx.fa
  simp only [List.mem_append, List.mem_map]
  exact ⟨.inr (.inl ⟨x, hx, rfl⟩), .inr (.inr (.inl ⟨x, hx, rfl⟩))⟩
theorem fa_is {d : Df} (hd : d ∈ t.is) : Fa.mkr d.name ∈ t.fa := by
  unfold Tx.fa
  simp only [List.mem_append, List.mem_map]
  exact .inr (.inr (.inr (.inl ⟨d, hd, rfl⟩)))
theorem fa_fl {q : Str × Str} (hd : q ∈ t.fl) : Fa.noat q.1 q.2 ∈ t.fa := by
  unfold Tx.fa
  simp only [List.mem_append, List.mem_map]
  exact .inr (.inr (.inr (.inr (.inl ⟨q, hd, rfl⟩))))
theorem fa_ms {d : Df} (hd : d ∈ t.ms) : Fa.meth d.name d.own ∈ t.fa := by
  unfold Tx.fa
  simp only [List.mem_append, List.mem_map]
  exact .inr (.inr (.inr (.inr (.inr (.inl ⟨d, hd, rfl⟩)))))
theorem fa_exs {x : Str} (hx : x ∈ t.exs) : Fa.glo x ∈ t.fa ∧ Fa.exc x ∈ t.fa := by
  unfold Tx.fa
  simp only [List.mem_append, List.mem_map]
  exact ⟨.inr (.inr (.inr (.inr (.inr (.inr (.inl ⟨x, hx, rfl⟩)))))), .inr (.inr (.inr (.inr (.inr (.inr (.inr (.inl ⟨x, hx, rfl⟩)))))))⟩
theorem fa_blt {x : Str} (hx : x ∈ bltT ++ bltF) : Fa.free x ∈ t.fa := by
  unfold Tx.fa
  rw [List.mem_append, List.mem_append, List.mem_append, List.mem_append, List.mem_append, List.mem_append, List.mem_append, List.mem_append, List.mem_append]
  exact .inr (.inr (.inr (.inr (.inr (.inr (.inr (.inr (.inl (List.mem_map.mpr ⟨x, hx, rfl⟩)))))))))
theorem fa_told {q : Df × (Str × Str) × List Str × Str} (hq : q ∈ t.told) : Fa.glo q.2.1.2 ∈ t.fa ∧ ∀ x ∈ q.2.2.1, Fa.exm x q.2.1.2 true ∈ t.fa := by
  have key : ∀ f, f ∈ (Fa.glo q.2.1.2 :: q.2.2.1.map fun c => Fa.exm c q.2.1.2 true) → f ∈ t.fa := fun f hf => by
    unfold Tx.fa
    rw [List.mem_append, List.mem_append, List.mem_append, List.mem_append, List.mem_append, List.mem_append, List.mem_append, List.mem_append, List.mem_append]
    exact .inr (.inr (.inr (.inr (.inr (.inr (.inr (.inr (.inr (List.mem_flatMap.mpr ⟨q, hq, hf⟩)))))))))
  exact ⟨key _ List.mem_cons_self, fun x hx => key _ (List.mem_cons_of_mem _ (List.mem_map.mpr ⟨x, hx, rfl⟩))⟩
include c o in
/-- a def -/
theorem df_ok (TB : ∀ q ∈ t.tf.map (cT K), TabB base mg q.1 q.2) {d : Df} (hd : d ∈ t.all) : DfOk ((t.qk K).wd da) mg base d (fAd K d.at_) := by
  obtain ⟨fd, F⟩ := c.t.d.defs (d := d.dd) (List.mem_map.mpr ⟨d, hd, rfl⟩)
  have R := o.rows d hd
  have hb := F.bindsN (ps := d.ps) R.binds
  obtain ⟨oc, od, dV, kV, doc, pm, an, cdv, ct, osl, rfl, lk, hcd, _, _⟩ := F.ex
  obtain ⟨a, rfl⟩ := codeIn_ref hcd
  have ec : cT K d.at_ = (a, tabOf K a) := by
    unfold cT
    rw [show codeOf K d.at_ = a from codeOf_eq (c := a) lk rfl]
  refine ⟨d.params, dV, kV, doc, pm, _, ct, oc, an, od, osl, lk, hcd, R.scope, hb, F.kp, a, tabOf K a, rfl, ?_, ?_, ?_⟩
  · have := TB (cT K d.at_) (List.mem_map.mpr ⟨d.at_, List.mem_map.mpr ⟨d, hd, rfl⟩, rfl⟩)
    rw [ec] at this
    exact this
  · refine List.mem_map.mpr ⟨d, hd, ?_⟩
    rw [ec]
  · intro q hq e
    obtain ⟨d', hd', rfl⟩ := List.mem_map.mp hq
    have e : (cT K d'.at_).2 = (cT K d.at_).2 := by rw [ec]; exact e
    have := incr_inj (f := fun d : Df => ((cT K d.at_).2 : Nat)) (ba c.more).1 d' hd' d hd e
    subst this
    show ((cT K d'.at_).2, d'.lp, _) = _
    rw [ec]
include c KX Gn o in
/-- the ground layer -/
theorem gm_base : GmOk ((t.qk K).wd da) t.B 0 P w mg base := by
  have fact : ∀ {f : Fa}, f ∈ t.fa → f.ok K = true := fun hf => c.t.d.facts hf
  have more := ba (ba c.more).2
  have eqs := List.all_eq_true.mp more.1
  have gls := List.all_eq_true.mp more.2
  refine ⟨fun x d e => ?_, fun f hf => ⟨free_ok KX Gn (fact (fa_blt hf)), rfl, rfl, (o.blt f hf).2⟩, fun x f hf => ⟨cls_ok (fact (fa_cls (o.flc _ hf)).2), noat_ok (fact (fa_fl hf))⟩, fun f F e => (by cases e), fun f F e => (by cases e), fun x hx => ?_, fun x hx => ?_, fun f pr wd e => ?_, fun x m F e => (by cases e)⟩
  · have hm : (x, d) ∈ t.gl := lookup_memS e
    have g := gls _ hm
    unfold glB at g
    cases q : PySem.W.nsIn K mainGlobals x with
    | none =>
      rw [q] at g
      cases g
    | some r =>
      rw [q] at g
      cases r with
      | none => cases g
      | some u =>
        obtain ⟨v, h1, h2⟩ := relD_ok d u g
        exact ⟨v, u, PySem.W.mg_of KX Gn q, h1, h2 _⟩
  · obtain ⟨h1, h2⟩ := ba (eqs x hx)
    exact ⟨of_decide_eq_true h1, eqO_ok h2⟩
  · obtain ⟨h1, h2, h3, h4⟩ := exc_ok (fact (fa_exs hx).2)
    exact ⟨glo_ok KX Gn (fact (fa_exs hx).1), h1, h2, h3, h4⟩
  · have hm : (f, (pr, wd)) ∈ t.told.map fun q => (q.1.name, ((fun c => decide (c ∈ q.2.2.1), q.2.2.2) : (Str → Bool) × Str)) := lookup_memS e
    obtain ⟨q, hq, e⟩ := List.mem_map.mp hm
    obtain ⟨d, ⟨a, ee⟩, cs, ww⟩ := q
    cases e
    obtain ⟨hfs, S⟩ := o.told _ hq
    obtain ⟨hd, hmn⟩ := List.mem_filter.mp hfs
    have hmn : d.meth = none := Option.isNone_iff_eq_none.mp hmn
    obtain ⟨fd, F⟩ := c.t.d.defs (d := d.dd) (List.mem_map.mpr ⟨d, hd, rfl⟩)
    have R := o.rows d hd
    have hb := F.bindsN (ps := d.ps) R.binds
    obtain ⟨oc, od, dV, kV, doc, pm, an, cdv, ct, osl, rfl, lk, hcd, _, _⟩ := F.ex
    have ea : fAd K d.at_ = ga K d.name := by unfold fAd Df.at_; rw [hmn]
    have e1 : d.own = d.name := by unfold Df.own; rw [hmn]
    have e2 : d.qual = d.name := by unfold Df.qual; rw [hmn]
    have lk := lk
    have lk : K.lookup (fAd K d.at_) = some ⟨oc, od, .func (PySem.W.fnOf d.own d.qual d.params d.body d.scope dV kV doc pm an cdv ct), osl⟩ := lk
    have kp : PySem.W.keepIn K (.ref (fAd K d.at_)) = true := F.kp
    have hcd : PySem.W.codeIn K cdv d.qual = true := hcd
    have hb : Binds K (PySem.W.fnOf d.own d.qual d.params d.body d.scope dV kV doc pm an cdv ct) d.ps [] := hb
    have sc := R.scope
    rw [ea, e1, e2] at lk
    rw [ea] at kp
    rw [e2] at hcd
    rw [e1, e2, S.ps] at hb
    rw [S.ps] at sc
    exact ⟨_, _, a, ee, _, _, _, _, _, _, _, _, _, _, _, _, _, _, ⟨glo_ok KX Gn (fact (fa_fs hfs)), kp, lk, hcd, hb, sc, S.ix, S.vis, S.glo, glo_ok KX Gn (fact (fa_told hq).1), S.de, S.da, S.dk, S.st, S.body, fun x hx => exm_ok (fact ((fa_told hq).2 x (of_decide_eq_true hx)))⟩⟩
include c KX Gn o in
/-- all layers -/
theorem gm_top {fu g : Nat} (TB : ∀ q ∈ t.tf.map (cT K), TabB base mg q.1 q.2) (k : Nat) : GmOk ((t.qk K).wd da) (gmN fu g t.B t.fs t.is t.ms k) (k * (g + 2)) P w mg base := by
  have fact : ∀ {f : Fa}, f ∈ t.fa → f.ok K = true := fun hf => c.t.d.facts hf
  have mem : ∀ {q : Df → Bool} {d : Df}, d ∈ t.all.filter q → d ∈ t.all ∧ q d = true := fun hd => List.mem_filter.mp hd
  have := gm_all (fu := fu) (g := g) (L := 0) (gm_base (P := P) (base := base) (da := da) c KX Gn o) (fun f hf => (o.blt f hf).1) (fs := t.fs) (is := t.is) (ms := t.ms)
    (fun d hd => ?_) (fun d hd => ?_) (fun d hd => ?_) k
  · rw [Nat.zero_add] at this
    exact this
  · obtain ⟨h1, h2⟩ := mem hd
    refine ⟨_, ?_, df_ok c o TB h1⟩
    have hmn : d.meth = none := Option.isNone_iff_eq_none.mp h2
    have ea : fAd K d.at_ = ga K d.name := by unfold fAd Df.at_; rw [hmn]
    rw [ea]
    exact glo_ok KX Gn (fact (fa_fs hd))
  · obtain ⟨h1, h2⟩ := mem hd
    have hmn : d.meth = some ("__init__" : Str) := of_decide_eq_true h2
    have ea : fAd K d.at_ = ma K (ga K d.name) "__init__" := by unfold fAd Df.at_; rw [hmn]
    have mk := mkr_ok (fact (fa_is hd))
    refine ⟨fAd K d.at_, ?_, ?_, (o.inits d hd).1, df_ok c o TB h1⟩
    · exact glo_ok KX Gn (fact (fa_cls (o.inits d hd).2).1)
    · rw [ea]
      exact mk
  · obtain ⟨h1, h2⟩ := mem hd
    obtain ⟨m, hm⟩ := Option.isSome_iff_exists.mp (ba h2).1
    have ea : fAd K d.at_ = ma K (ga K d.name) d.own := by unfold fAd Df.at_ Df.own; rw [hm]
    refine ⟨fAd K d.at_, cls_ok (fact (fa_cls (o.meths d hd)).2), ?_, df_ok c o TB h1⟩
    rw [ea]
    exact meth_ok (fact (fa_ms hd))
end
end
end Px
set_option maxRecDepth 100000
set_option maxHeartbeats 4000000
/-! PM5: the law as the end asks for it. -/
namespace Px
open PySem PySem.Spec PyProof.Rows L2 RZ LamX He
theorem dvs_ints {K : PySem.W.Frag} {da : Option Addr} {G : Hp} : ∀ ns : List Int, DVs K da G (ns.map .int) (ns.map V.int)
  | [] => rfl
  | n :: ns => ⟨_, _, rfl, rfl, dvs_ints ns⟩
theorem cx_no {P : Program} {w : World} {H : Hp} {s : Shared} {e : Value} {s' : Shared} : L2.CX P w [] H s (fun _ _ _ => False) e s' → False := fun ⟨_, _, _, _, _, _, _, _, _, _, _, _, z⟩ => z
theorem law_at {l : PySem.W.OpenLaw} {w : World} {t : Tx} {K : PySem.W.Frag} {h : Heap} {mg : Str → Option Value} {fa : Addr} {d : Df} {x : Str} {tg call : Expr} {fb rest : List Stmt} {pos : Pos} {fu g k n : Nat}
    (c : SaysX t.fa t.fn [] t.tf t.ex w h K) (KX : K.In h) (Gn : h.Ns mainGlobals mg) (o : t.Ok) (hd : d ∈ t.fs) (hmg : mg d.name = some (.ref fa)) (hps : d.ps = [x]) (hbody : d.body = .For tg call fb [] pos :: rest) (hit : itOk tg call = true)
    (hl : ∀ ns : List Int, ns.length ≤ n → (∀ z ∈ ns, Builtin.Int.intBits z ≤ 1048576) → LawR fu ⟨d.N, d.scope, gmN fu g t.B t.fs t.is t.ms k, g, true, d.lp⟩ tg call fb rest (.va (.klst (ns.map .int)) :: List.replicate (d.N.length - 1) .no) (0, 0, 0)) :
    LawAtS l w K (L2.CX l.prog w) (k * (g + 2) + g + 1) n x mg fa h := by
  obtain ⟨hda, hmn⟩ := List.mem_filter.mp hd
  have hmn : d.meth = none := Option.isNone_iff_eq_none.mp hmn
  have R := o.rows d hda
  obtain ⟨fd, F⟩ := c.t.d.defs (d := d.dd) (List.mem_map.mpr ⟨d, hda, rfl⟩)
  have ea : fAd K d.at_ = ga K d.name := by unfold fAd Df.at_; rw [hmn]
  have em := hmg.symm.trans (glo_ok KX Gn (c.t.d.facts (fa_fs hd)))
  have efa : fa = fAd K d.at_ := by rw [ea]; cases em; rfl
  have hb := F.bindsA (ps := d.ps) R.binds
  have key := fun (base : Heap) (TB : ∀ q ∈ t.tf.map (cT K), TabB base mg q.1 q.2) => df_ok (da := none) (mg := mg) c o TB hda
  obtain ⟨oc, od, dV, kV, doc, pm, an, cdv, ct, osl, efd, lk, hcd, _, _⟩ := F.ex
  refine ⟨fd, t.tf.map (cT K), spLaw (t.qk K) fun ds dc => ds.length = d.ps.length ∧ LawR fu ⟨d.N, d.scope, gmN fu g t.B t.fs t.is t.ms k, g, true, d.lp⟩ tg call fb rest (ds.map .va ++ List.replicate (d.N.length - ds.length) .no) dc, fun q hq => ?_, fun q hq => ?_, fun q hq => ?_, fun s u => ?_, fun H a ns hn hbits hT hS => ?_, fun base hKb hNs TB => ?_⟩
  · obtain ⟨q', hq', rfl⟩ := List.mem_map.mp hq
    exact c.empty q' hq'
  · obtain ⟨q', hq', rfl⟩ := List.mem_map.mp hq
    exact c.out q' hq'
  · obtain ⟨q', hq', rfl⟩ := List.mem_map.mp hq
    exact PySem.W.codeHd_of_K KX (c.hd q' hq')
  · have := hb s [u] (by rw [hps]; rfl)
    rw [hps] at this
    exact this
  · have hTq : ∀ q ∈ (t.qk K).T, H q.1 = some (.tbl #[]) ∧ K.lookup q.1 = none := fun q hq => by
      obtain ⟨d', hd', rfl⟩ := List.mem_map.mp hq
      exact ⟨hT (cT K d'.at_) (List.mem_map.mpr ⟨d'.at_, List.mem_map.mpr ⟨d', hd', rfl⟩, rfl⟩), c.out _ (List.mem_map.mpr ⟨d', hd', rfl⟩)⟩
    have hG : ∃ G : Hp, Sub G H ∧ SqL K G a (ns.map V.int) ∧ ∀ q ∈ (t.qk K).T, G q.1 = none := by
      rcases hS with (e | ⟨ow, e⟩) | ⟨ob, its, m, e⟩
      · refine ⟨fun y => if y = a then some (.lst (ns.map V.int)) else none, fun b u eb => ?_, .inl (.inl (if_pos rfl)), fun q hq => if_neg fun z => ?_⟩
        · dsimp only at eb
          split at eb
          · rename_i h1
            cases eb
            rw [h1]
            exact e
          · cases eb
        · have := (hTq q hq).1
          rw [z] at this
          have e' := (show H a = some (.lst (ns.map V.int)) from e)
          rw [e'] at this
          cases this
      · refine ⟨fun y => if y = a then some (.frz ow (.lst (ns.map V.int))) else none, fun b u eb => ?_, .inl (.inr ⟨ow, if_pos rfl⟩), fun q hq => if_neg fun z => ?_⟩
        · dsimp only at eb
          split at eb
          · rename_i h1
            cases eb
            rw [h1]
            exact e
          · cases eb
        · have := (hTq q hq).1
          rw [z] at this
          have e' := (show H a = some (.frz ow (.lst (ns.map V.int))) from e)
          rw [e'] at this
          cases this
      · exact ⟨fun _ => none, fun _ _ e => (by cases e), .inr ⟨ob, its, m, e⟩, fun _ _ => rfl⟩
    obtain ⟨G, sub, hSG, hTG⟩ := hG
    refine ⟨[.klst (ns.map .int)], G, (0, 0, 0), ⟨_, _, rfl, ⟨a, _, rfl, hSG, dvs_ints ns⟩, rfl⟩, ⟨sub, fun b e => (by cases e), fun q hq => ⟨#[], (hTq q hq).1, ?_, fun pos cv e => ?_⟩, hTG⟩, ⟨by rw [hps]; rfl, hl ns hn hbits⟩, fun _ => rfl⟩
    · exact (show TriplesOk [] from trivial)
    · exact absurd e (by
        unfold codeAmong
        simp)
  · subst efd
    rw [efa]
    obtain ⟨params, dV', kV', doc', pm', cdv', ct', oc', an', od', osl', lk', hcd', S, _, _, tf⟩ := key base TB
    have lk2 : K.lookup (fAd K d.at_) = some ⟨oc, od, .func (PySem.W.fnOf d.own d.qual d.params d.body d.scope dV kV doc pm an cdv ct), osl⟩ := lk
    have el := lk'.symm.trans lk2
    have ecd : cdv' = cdv := by
      have e1 := Option.some.inj el
      have e2 : Data.func (PySem.W.fnOf d.own d.qual params d.body d.scope dV' kV' doc' pm' an' cdv' ct') = Data.func (PySem.W.fnOf d.own d.qual d.params d.body d.scope dV kV doc pm an cdv ct) := congrArg Obj.data e1
      have e3 := Data.func.inj e2
      exact congrArg FuncData.code e3
    subst ecd
    rw [hbody] at lk2
    have G := fn_law (p := t.qk K) (P := l.prog) (w := w) (base := base) (n := fu) (g := g) (k := k * (g + 2)) lk2 hcd R.scope (fun da => gm_top (fu := fu) (P := l.prog) (base := base) (da := da) c KX Gn o TB k) (fun _ => tf) hit (by
      have := congrArg List.length R.scope.pre
      rw [List.length_take] at this
      omega)
    rw [← hbody, hps] at G
    rw [hps]
    exact G
end Px
/-! SH: a def's statements without its tree: combinators that are the evaluator's arms, their static tests decided. -/
namespace Sh
open PySem Px
abbrev X := En → M D
abbrev S := En → M Fl
abbrev B := En → M Bool
abbrev T := D → En → Option En
abbrev I := En → M (List D)
def cst (d : D) : X := fun _ => pure d
def bin (op : Operator) (a b : X) : X := fun ρ => do
  let x ← a ρ
  let y ← b ρ
  lift (binD op x y)
def neg (a : X) : X := fun ρ => do
  let x ← a ρ
  lift (negD x)
def ntX (a : X) : X := fun ρ => do
  let x ← a ρ
  let c ← lift (asB x)
  pure (.bl (!c))
def boX (op : BoolOp) (as : List X) : X := fun ρ => boolV op (as.map fun a => a ρ)
def cm1 (Γ : Gm) (op : CmpOp) (a b : X) : X := fun ρ => do
  let x ← a ρ
  let y ← b ρ
  let c ← lift (cmpG Γ op x y)
  pure (.bl c)
def cm2 (Γ : Gm) (op op' : CmpOp) (a b r : X) : X := fun ρ => do
  let x ← a ρ
  let y ← b ρ
  let c ← lift (cmpG Γ op x y)
  if c then
    let z ← r ρ
    let c' ← lift (cmpG Γ op' y z)
    pure (.bl c')
  else pure (.bl false)
def cd (t : B) (a b : X) : X := fun ρ => bitT (t ρ) (a ρ) (b ρ)
def tupX (as : List X) : X := fun ρ => do
  let ds ← seqM (as.map fun a => a ρ)
  lift (mkT ds)
def lstX (as : List X) : X := fun ρ => do
  let ds ← seqM (as.map fun a => a ρ)
  lift (mkL ds)
def dicX (ks vs : List X) : X := fun ρ => do
  let ps ← pairsM (ks.map fun a => a ρ) (vs.map fun a => a ρ)
  lift ((mergeD [] ps).map .dic)
def attr (Γ : Gm) (f : Str) (o : X) : X := fun ρ => do
  let d ← o ρ
  lift (fldD Γ.fl f d)
def oN : En → M (Option Int) := fun _ => pure none
def oS (e : X) : En → M (Option Int) := fun ρ => do
  let d ← e ρ
  lift (partD d)
def slc (o : X) (lo hi : En → M (Option Int)) : X := fun ρ => do
  let d ← o ρ
  let l ← lo ρ
  let h ← hi ρ
  lift (slD d l h)
def stp (o : X) (lo st : En → M (Option Int)) : X := fun ρ => do
  let d ← o ρ
  let l ← lo ρ
  let s ← st ρ
  lift (s.bind fun c => stD d l c)
def sub (o i : X) : X := fun ρ => do
  let d ← o ρ
  let x ← i ρ
  ixM d x
def rcvI (i : Nat) (ρ : En) : Bool := match ρ[i]? with
  | some (.ow (.lst _)) => true
  | some (.ow (.dic _)) => true
  | _ => false
def rcvJ (i : Nat) (ρ : En) : Bool := match ρ[i]? with
  | some (.ow (.lst _)) => true
  | _ => false
def rdR (i : Nat) : X := fun ρ => if rcvI i ρ then rdB i ρ else rdV i ρ
def rdL (i : Nat) : X := fun ρ => if rcvJ i ρ then rdB i ρ else rdV i ρ
def lcX (it : I) (tg : T) (tt : B) (te : X) (own : List Nat) : X := fun ρ => do
  let items ← it ρ
  let ys ← lcM tg (fun ρ => noE (tt ρ)) (fun ρ => noE (te ρ)) (wipeE ρ own) items
  lift (mkL ys)
def lc2X (it : I) (tg : T) (tt : B) (it1 : I) (vs1 : List Nat) (tg1 : T) (tt1 : B) (te : X) (own : List Nat) : X := fun ρ => do
  let items ← it ρ
  let ys ← lc2M tg (fun ρ => noE (tt ρ)) (fun ρ => noE (it1 ρ)) vs1 tg1 (fun ρ => noE (tt1 ρ)) (fun ρ => noE (te ρ)) (wipeE ρ own) items
  lift (mkL ys)
def dcX (it : I) (tg : T) (tt : B) (tk tv : X) (own : List Nat) : X := fun ρ => do
  let items ← it ρ
  let kvs ← dcM tg (fun ρ => noE (tt ρ)) (fun ρ => noE (tk ρ)) (fun ρ => noE (tv ρ)) (wipeE ρ own) items []
  pure (.dic kvs)
def genX (f : Str) (it : I) (tg : T) (tt : B) (te : X) (own : List Nat) : X := fun ρ => do
  let items ← it ρ
  genM f tg (fun ρ => noE (tt ρ)) (fun ρ => noE (te ρ)) (wipeE ρ own) items
def cal (F : Fn) (as : List X) : X := fun ρ => do
  let ds ← seqM (as.map fun a => a ρ)
  F ds
def bi (f : Str) (as : List X) : X := fun ρ => do
  let ds ← seqM (as.map fun a => a ρ)
  lift (biD f ds)
def meth (Γ : Gm) (m : Str) (o : X) (as bs : List X) : X := fun ρ => do
  let d ← o ρ
  (match d with
  | .obj c fs => (match Γ.me.lookup (c, m) with
    | some F => if (fs.lookup m).isNone then do
        let ds ← seqM (as.map fun a => a ρ)
        F (.obj c fs :: ds) else M.st
    | none => M.st)
  | d => if smT m d && !bs.isEmpty then do
      let ds ← seqM (bs.map fun a => a ρ)
      lift (smD m d ds)
    else M.st)
def tldX (pr : Str → Bool) (w : Str) (e : X) : X := fun ρ => toldM pr w (e ρ)
def tlsX (i : Nat) (pr : Str → Bool) (ok : List (Expr × Scope) → Bool) (ev : Expr × Scope → X) : X := fun ρ => match ρ[i]? with
  | some (.la ls) => if 0 = 0 ∧ ok ls = true then do
      let _ ← toldAll pr (ls.map fun l => ev l ρ)
      pure (.lst []) else M.st
  | _ => M.st
/-! tests -/
def ntB (a : B) : B := fun ρ => do
  let c ← a ρ
  pure (!c)
def boB (op : BoolOp) (as : List B) : B := fun ρ => allT op (as.map fun a => a ρ)
def c1B (Γ : Gm) (op : CmpOp) (a b : X) : B := fun ρ => do
  let x ← a ρ
  let y ← b ρ
  lift (cmpG Γ op x y)
def c2B (Γ : Gm) (op op' : CmpOp) (a b r : X) : B := fun ρ => do
  let x ← a ρ
  let y ← b ρ
  let c ← lift (cmpG Γ op x y)
  if c then
    let z ← r ρ
    lift (cmpG Γ op' y z)
  else pure false
def tru (a : X) : B := fun ρ => do
  let d ← a ρ
  lift (truD d)
def ttB : B := fun _ => pure true
/-! what is walked -/
def rg1 (a : X) : I := fun ρ => do
  let d ← a ρ
  (match d with
  | .int j => if -(2 ^ 62) ≤ j ∧ j < 2 ^ 62 then pure (rangeD 0 j) else M.st
  | _ => M.st)
def rg2 (a b : X) : I := fun ρ => do
  let d ← a ρ
  let e ← b ρ
  (match d, e with
  | .int i, .int j => if -(2 ^ 62) ≤ i ∧ i < 2 ^ 62 ∧ -(2 ^ 62) ≤ j ∧ j < 2 ^ 62 then pure (rangeD i j) else M.st
  | _, _ => M.st)
def zpI (a b : X) : I := fun ρ => do
  let d ← a ρ
  let e ← b ρ
  (match d, e with
  | .lst xs, .lst ys => pure (zip2D xs ys)
  | .tup xs, .tup ys => pure (zip2D xs ys)
  | _, _ => M.st)
def enI (a : X) : I := fun ρ => do
  let d ← a ρ
  (match d with
  | .lst xs => pure (enumD xs)
  | _ => M.st)
def dkI (a : X) : I := fun ρ => do
  let d ← a ρ
  (match d with
  | .dic kvs => pure (kvs.map fun p => .tup [p.1, p.2])
  | _ => M.st)
def dvI (a : X) : I := fun ρ => do
  let d ← a ρ
  (match d with
  | .dic kvs => pure (kvs.map (·.2))
  | _ => M.st)
def itI (a : X) : I := fun ρ => do
  let d ← a ρ
  lift (itemsD d)
/-! statements -/
def nxS : S := fun ρ => pure (.nx ρ)
def bkS : S := fun ρ => pure (.bk ρ)
def ctS : S := fun ρ => pure (.ct ρ)
def rnS : S := fun ρ => pure (.rt .non ρ)
def reS (es : Es) (e : X) : S := fun ρ => do
  let ρ1 := frz ρ es
  let d ← e ρ1
  pure (.rt d ρ1)
def apS (i : Nat) (es : Es) (a : X) (es2 : Es) (c : X) : S := fun ρ => if isOw ρ i then do
    let ρ1 := frz ρ es
    let c ← owned ρ1 i
    match c with
    | .lst xs => do
      let y ← a ρ1
      if xs.length < szL then pure (.nx (ρ1.set i (.ow (.lst (xs ++ [y]))))) else M.st
    | _ => M.st
  else do
    let ρ1 := frz ρ es2
    let _ ← c ρ1
    pure (.nx ρ1)
def moS (i : Nat) (es2 : Es) (c : X) : S := fun ρ => if isOw ρ i then M.st
  else do
    let ρ1 := frz ρ es2
    let _ ← c ρ1
    pure (.nx ρ1)
def exS (es : Es) (e : X) : S := fun ρ => do
  let ρ1 := frz ρ es
  let _ ← e ρ1
  pure (.nx ρ1)
def asS (i : Nat) (es : Es) (fr : Bool) (e : X) : S := fun ρ => do
  let ρ1 := frz ρ es
  let d ← e ρ1
  pure (.nx (ρ1.set i (slF fr d)))
def poS (j i : Nat) : S := fun ρ => do
  let c ← owned ρ j
  lift ((popD c).map fun q => .nx ((ρ.set j (.ow q.2)).set i (.va q.1)))
def laS (i : Nat) (es : Es) (ls : List (Expr × Scope)) : S := fun ρ => pure (.nx ((frz ρ es).set i (.la ls)))
def paS (es : Es) (ys : List (Nat × Bool)) (as : List X) : S := fun ρ => do
  let ρ1 := frz ρ es
  let ds ← seqM (as.map fun a => a ρ1)
  lift ((parQ ys ds ρ1).map .nx)
def tuS (es : Es) (tg : T) (e : X) : S := fun ρ => do
  let ρ1 := frz ρ es
  let d ← e ρ1
  lift ((tg d ρ1).map .nx)
def stS (es : Es) (j : Nat) (i e : X) : S := fun ρ => do
  let ρ1 := frz ρ es
  let y ← e ρ1
  let c ← aimed ρ1 j
  let k ← i ρ1
  setM ρ1 j c k y
def flS (Γ : Gm) (es : Es) (j : Nat) (f : Str) (e : X) : S := fun ρ => do
  let ρ1 := frz ρ es
  let y ← e ρ1
  let c ← owned ρ1 j
  lift ((fldC Γ.fl f y c).map fun c' => .nx (ρ1.set j (.ow c')))
def auS (es : Es) (i : Nat) (op : Operator) (e : X) : S := fun ρ => do
  let ρ1 := frz ρ es
  let old ← rdB i ρ1
  let y ← e ρ1
  lift ((augS (isOw ρ1 i) op old y).map fun z => .nx (ρ1.set i z))
def ifS (es : Es) (t : B) (a b : S) : S := fun ρ => do
  let ρ1 := frz ρ es
  let c ← t ρ1
  if c then a ρ1 else b ρ1
def whS (es : Es) (t : B) (a : S) : S := fun ρ => whileM (fun ρ => t ρ) a 1000000 (frz ρ es)
def foS (es : Es) (it : I) (tg : T) (a : S) : S := fun ρ => do
  let ρ1 := frz ρ es
  let items ← it ρ1
  forM' tg a items ρ1
def raS (c : Str) : S := fun _ => M.er c
def sq (a b : S) : S := fun ρ => do
  let f ← a ρ
  match f with
  | .nx ρ' => b ρ'
  | f => pure f
/-- a def of np parameters and nl names -/
def run (np nl : Nat) (body : S) (ds : List D) : M D :=
  if ds.length = np then do
    let f ← body (ds.map .va ++ List.replicate (nl - ds.length) .no)
    match f with
    | .rt d _ => pure d
    | .nx _ => pure .non
    | _ => M.st
  else M.st
def runC (cls : Str) (np nl : Nat) (body : S) (ds : List D) : M D :=
  if ds.length + 1 = np then do
    let f ← body (.ow (.obj cls []) :: (ds.map .va ++ List.replicate (nl - np) .no))
    match f with
    | .nx ρ => (match (ρ[0]? : Option Slot) with
      | some (.ow (.obj k fs)) => if k = cls then pure (.obj cls fs) else M.st
      | _ => M.st)
    | _ => M.st
  else M.st
end Sh
/-! SE: what the combinators answer, one rule for each: a simp set. -/
namespace Sh
open PySem Px
variable {α β γ : Type} {ρ : En} {dc : Dc} {Γ : Gm}
/-- it keeps simp from going into what comes behind -/
inductive Wit {α β : Type} (k : α → Dc → Out β) : Type where
  | mk
def bnd (o : Out α) (k : α → Dc → Out β) (w : Wit k := .mk) : Out β := match o with
  | .ok a d => k a d
  | .er c d => .er c d
  | .st => .st
theorem bnd_ok {a : α} {d : Dc} {k : α → Dc → Out β} : bnd (.ok a d) k = k a d := rfl
theorem bnd_er {c : Str} {d : Dc} {k : α → Dc → Out β} : bnd (.er c d) k = .er c d := rfl
theorem bnd_st {k : α → Dc → Out β} : bnd .st k = .st := rfl
theorem bnd_ext {o : Out α} {k k' : α → Dc → Out β} (h : ∀ a d, k a d = k' a d) : bnd o k = bnd o k' := by
  obtain rfl : k = k' := funext fun a => funext fun d => h a d
  rfl
def bnd0 (o : Out α) (k : α → Dc → Out β) : Out β := match o with
  | .ok a d => k a d
  | .er c d => .er c d
  | .st => .st
theorem bnd_0 {o : Out α} {k : α → Dc → Out β} : bnd o k = bnd0 o k := rfl
theorem bnd0_ext {o : Out α} {k k' : α → Dc → Out β} (h : ∀ a d, k a d = k' a d) : bnd0 o k = bnd0 o k' := by
  obtain rfl : k = k' := funext fun a => funext fun d => h a d
  rfl
theorem bnd_assoc {o : Out α} {k : α → Dc → Out β} {l : β → Dc → Out γ} : bnd (bnd o k) l = bnd o fun a d => bnd (k a d) l := by cases o <;> rfl
def lft (o : Option α) (dc : Dc) : Out α := match o with
  | some a => .ok a dc
  | none => .st
theorem lft_some {a : α} : lft (some a) dc = .ok a dc := rfl
theorem lft_none : lft (none : Option α) dc = .st := rfl
theorem e_bind (m : M α) (f : α → M β) : (m >>= f) dc = bnd (m dc) fun a d => f a d := by
  show M.bind m f dc = _
  unfold M.bind bnd
  cases m dc <;> rfl
theorem e_bind0 (m : M α) (f : α → M β) : (m >>= f) dc = bnd0 (m dc) fun a d => f a d := by rw [e_bind, bnd_0]
theorem e_lift (o : Option α) : (lift o : M α) dc = lft o dc := by cases o <;> rfl
theorem e_pure (a : α) : (pure a : M α) dc = .ok a dc := rfl
theorem e_st : (M.st : M α) dc = .st := rfl
theorem e_er {c : Str} : (M.er c : M α) dc = .er c dc := rfl
/-! slots -/
def vaS : Option Slot → Dc → Out D
  | some (.va d), dc => .ok d dc
  | _, _ => .st
def vbS : Option Slot → Dc → Out D
  | some (.va d), dc => .ok d dc
  | some (.ow d), dc => .ok d dc
  | _, _ => .st
theorem e_rdV {i : Nat} : rdV i ρ dc = vaS ρ[i]? dc := by
  unfold rdV vaS
  split <;> simp_all <;> rfl
theorem e_rdB {i : Nat} : rdB i ρ dc = vbS ρ[i]? dc := by
  unfold rdB vbS
  split <;> simp_all <;> rfl
theorem vaS_va {d : D} : vaS (some (.va d)) dc = .ok d dc := rfl
theorem vbS_va {d : D} : vbS (some (.va d)) dc = .ok d dc := rfl
theorem vbS_ow {d : D} : vbS (some (.ow d)) dc = .ok d dc := rfl
def frzS : Option Slot → Bool → Option Slot
  | some (.ow (.dic d)), _ => some (.va (.dic d))
  | some (.ow d), true => some (.va d)
  | _, _ => none
def frzG (ρ : En) (i : Nat) (is : Es) : Option Slot → En
  | some s => frz (ρ.set i s) is
  | none => frz ρ is
theorem e_frz0 : frz ρ [] = ρ := rfl
theorem e_frz {i : Nat} {k : Bool} {is : Es} : frz ρ ((i, k) :: is) = frzG ρ i is (frzS ρ[i]? k) := by
  unfold frz frzS frzG
  split <;> simp_all
  all_goals (split <;> simp_all)
theorem frzG_some {i : Nat} {is : Es} {s : Slot} : frzG ρ i is (some s) = frz (ρ.set i s) is := rfl
theorem frzG_none {i : Nat} {is : Es} : frzG ρ i is none = frz ρ is := rfl
theorem frzS_va {d : D} {k : Bool} : frzS (some (.va d)) k = none := rfl
theorem frzS_no {k : Bool} : frzS (some .no) k = none := rfl
theorem frzS_la {k : Bool} {l} : frzS (some (.la l)) k = none := rfl
theorem frzS_d {d} {k : Bool} : frzS (some (.ow (.dic d))) k = some (.va (.dic d)) := rfl
theorem frzS_lt {d} : frzS (some (.ow (.lst d))) true = some (.va (.lst d)) := rfl
theorem frzS_lf {d} : frzS (some (.ow (.lst d))) false = none := rfl
theorem frzS_ot {c d} : frzS (some (.ow (.obj c d))) true = some (.va (.obj c d)) := rfl
theorem frzS_of {c d} : frzS (some (.ow (.obj c d))) false = none := rfl
theorem slF_f {d : D} : slF false d = .va d := rfl
theorem slF_l {d} : slF true (.lst d) = .ow (.lst d) := rfl
theorem slF_d {d} : slF true (.dic d) = .ow (.dic d) := rfl
theorem slF_i {d} : slF true (.int d) = .va (.int d) := rfl
theorem slF_t {d} : slF true (.tup d) = .va (.tup d) := rfl
theorem slF_s {d} : slF true (.str d) = .va (.str d) := rfl
theorem slF_b {d} : slF true (.bl d) = .va (.bl d) := rfl
theorem slF_n : slF true .non = .va .non := rfl
theorem slF_o {c d} : slF true (.obj c d) = .va (.obj c d) := rfl
def isOwS : Option Slot → Bool
  | some (.ow _) => true
  | _ => false
theorem e_isOw {i : Nat} : isOw ρ i = isOwS ρ[i]? := by
  unfold isOw isOwS
  split <;> simp_all
theorem isOw_ow {d} : isOwS (some (.ow d)) = true := rfl
theorem isOw_va {d} : isOwS (some (.va d)) = false := rfl
def ownS : Option Slot → Dc → Out D
  | some (.ow d), dc => .ok d dc
  | _, _ => .st
theorem e_owned {i : Nat} : Px.owned ρ i dc = ownS ρ[i]? dc := by
  unfold Px.owned ownS
  split <;> simp_all <;> rfl
theorem ownS_ow {d} : ownS (some (.ow d)) dc = .ok d dc := rfl
def aimS : Option Slot → Dc → Out (Option D)
  | some (.ow d), dc => .ok (some d) dc
  | some (.va .dice), dc => .ok none dc
  | _, _ => .st
theorem e_aimed {i : Nat} : Px.aimed ρ i dc = aimS ρ[i]? dc := by
  unfold Px.aimed aimS
  split <;> simp_all <;> rfl
theorem aimS_ow {d} : aimS (some (.ow d)) dc = .ok (some d) dc := rfl
theorem aimS_dice : aimS (some (.va .dice)) dc = .ok none dc := rfl
def rcvIS : Option Slot → Bool
  | some (.ow (.lst _)) => true
  | some (.ow (.dic _)) => true
  | _ => false
def rcvJS : Option Slot → Bool
  | some (.ow (.lst _)) => true
  | _ => false
theorem rcvI_va {d} : rcvIS (some (.va d)) = false := rfl
theorem rcvI_l {d} : rcvIS (some (.ow (.lst d))) = true := rfl
theorem rcvI_d {d} : rcvIS (some (.ow (.dic d))) = true := rfl
theorem rcvI_o {c d} : rcvIS (some (.ow (.obj c d))) = false := rfl
theorem rcvJ_va {d} : rcvJS (some (.va d)) = false := rfl
theorem rcvJ_l {d} : rcvJS (some (.ow (.lst d))) = true := rfl
theorem rcvJ_d {d} : rcvJS (some (.ow (.dic d))) = false := rfl
theorem e_rdR {i : Nat} : rdR i ρ dc = if rcvIS ρ[i]? then vbS ρ[i]? dc else vaS ρ[i]? dc := by
  show (if rcvI i ρ then rdB i ρ else rdV i ρ) dc = _
  rw [← e_rdB, ← e_rdV]
  have : rcvI i ρ = rcvIS ρ[i]? := by
    unfold rcvI rcvIS
    split <;> simp_all
  rw [this]
  split <;> rfl
theorem e_rdL {i : Nat} : rdL i ρ dc = if rcvJS ρ[i]? then vbS ρ[i]? dc else vaS ρ[i]? dc := by
  show (if rcvJ i ρ then rdB i ρ else rdV i ρ) dc = _
  rw [← e_rdB, ← e_rdV]
  have : rcvJ i ρ = rcvJS ρ[i]? := by
    unfold rcvJ rcvJS
    split <;> simp_all
  rw [this]
  split <;> rfl
/-! expressions -/
theorem e_cst {d : D} : cst d ρ dc = .ok d dc := rfl
theorem e_bin {op a b} : bin op a b ρ dc = bnd (a ρ dc) fun x dc => bnd (b ρ dc) fun y dc => lft (binD op x y) dc := by
  unfold bin; simp only [bnd_0, e_bind0, e_lift]
theorem e_neg {a} : neg a ρ dc = bnd (a ρ dc) fun x dc => lft (negD x) dc := by
  unfold neg; simp only [bnd_0, e_bind0, e_lift]
theorem e_ntX {a} : ntX a ρ dc = bnd (a ρ dc) fun x dc => bnd (lft (asB x) dc) fun c dc => .ok (.bl (!c)) dc := by
  unfold ntX; simp only [bnd_0, e_bind0, e_lift, e_pure]
theorem e_cm1 {op a b} : cm1 Γ op a b ρ dc = bnd (a ρ dc) fun x dc => bnd (b ρ dc) fun y dc => bnd (lft (cmpG Γ op x y) dc) fun c dc => .ok (.bl c) dc := by
  unfold cm1; simp only [bnd_0, e_bind0, e_lift, e_pure]
theorem ite_ap {p : Prop} [Decidable p] {m m' : M α} : (if p then m else m') dc = if p then m dc else m' dc := by split <;> rfl
theorem e_cm2 {op op' a b r} : cm2 Γ op op' a b r ρ dc = bnd (a ρ dc) fun x dc => bnd (b ρ dc) fun y dc => bnd (lft (cmpG Γ op x y) dc) fun c dc => if c then bnd (r ρ dc) fun z dc => bnd (lft (cmpG Γ op' y z) dc) fun c dc => .ok (.bl c) dc else .ok (.bl false) dc := by
  unfold cm2; simp only [bnd_0, e_bind0, e_lift, e_pure, ite_ap]
theorem e_cd {t a b} : cd t a b ρ dc = bnd (t ρ dc) fun c dc => if c then a ρ dc else b ρ dc := by
  unfold cd bitT; simp only [bnd_0, e_bind0, ite_ap]
/-- a row of values -/
def seqS : List X → En → Dc → Out (List D)
  | [], _, dc => .ok [] dc
  | a :: as, ρ, dc => bnd (a ρ dc) fun x dc => bnd (seqS as ρ dc) fun xs dc => .ok (x :: xs) dc
theorem e_seq : ∀ {as : List X} {dc : Dc}, seqM (as.map fun a => a ρ) dc = seqS as ρ dc
  | [], dc => rfl
  | a :: as, dc => by
    have e : seqM ((a :: as).map fun a => a ρ) = (a ρ >>= fun x => seqM (as.map fun a => a ρ) >>= fun xs => pure (x :: xs)) := rfl
    rw [e]
    simp only [bnd_0, e_bind0, e_pure, e_seq]
    rfl
theorem seqS_nil : seqS [] ρ dc = .ok [] dc := rfl
theorem seqS_cons {a : X} {as : List X} : seqS (a :: as) ρ dc = bnd (a ρ dc) fun x dc => bnd (seqS as ρ dc) fun xs dc => .ok (x :: xs) dc := rfl
def boS (op : BoolOp) : List X → En → Dc → Out D
  | [], _, _ => .st
  | [a], ρ, dc => bnd (a ρ dc) fun x dc => bnd (lft (asB x) dc) fun b dc => .ok (.bl b) dc
  | a :: as, ρ, dc => bnd (a ρ dc) fun x dc => bnd (lft (asB x) dc) fun b dc => match op with
    | .And => if b then boS op as ρ dc else .ok (.bl false) dc
    | .Or => if b then .ok (.bl true) dc else boS op as ρ dc
theorem e_boX {op} : ∀ {as : List X} {dc : Dc}, boX op as ρ dc = boS op as ρ dc
  | [], dc => rfl
  | [a], dc => by
    show (a ρ >>= fun x => lift (asB x) >>= fun b => (pure (D.bl b) : M D)) dc = _
    simp only [bnd_0, e_bind0, e_pure, e_lift]
    rfl
  | a :: a' :: as, dc => by
    have ih := @e_boX op (a' :: as)
    have e : boX op (a :: a' :: as) ρ = (a ρ >>= fun x => lift (asB x) >>= fun b => match op, b with
      | .And, false => pure (D.bl false)
      | .Or, true => pure (D.bl true)
      | _, _ => boX op (a' :: as) ρ) := rfl
    rw [e]
    simp only [bnd_0, e_bind0, e_lift]
    show _ = bnd (a ρ dc) fun x dc => bnd (lft (asB x) dc) fun b dc => match op with
      | .And => if b then boS op (a' :: as) ρ dc else .ok (.bl false) dc
      | .Or => if b then .ok (.bl true) dc else boS op (a' :: as) ρ dc
    refine bnd0_ext fun x dc => ?_
    refine bnd0_ext fun b dc => ?_
    cases op <;> cases b <;> simp [ih, e_pure]
theorem boS_one {op a} : boS op [a] ρ dc = bnd (a ρ dc) fun x dc => bnd (lft (asB x) dc) fun b dc => .ok (.bl b) dc := rfl
theorem boS_and {a a' as} : boS .And (a :: a' :: as) ρ dc = bnd (a ρ dc) fun x dc => bnd (lft (asB x) dc) fun b dc => if b then boS .And (a' :: as) ρ dc else .ok (.bl false) dc := rfl
theorem boS_or {a a' as} : boS .Or (a :: a' :: as) ρ dc = bnd (a ρ dc) fun x dc => bnd (lft (asB x) dc) fun b dc => if b then .ok (.bl true) dc else boS .Or (a' :: as) ρ dc := rfl
theorem e_tupX {as} : tupX as ρ dc = bnd (seqS as ρ dc) fun ds dc => lft (mkT ds) dc := by
  unfold tupX; simp only [bnd_0, e_bind0, e_lift, e_seq]
theorem e_lstX {as} : lstX as ρ dc = bnd (seqS as ρ dc) fun ds dc => lft (mkL ds) dc := by
  unfold lstX; simp only [bnd_0, e_bind0, e_lift, e_seq]
def prS : List X → List X → En → Dc → Out (List (D × D))
  | [], [], _, dc => .ok [] dc
  | k :: ks, v :: vs, ρ, dc => bnd (k ρ dc) fun x dc => bnd (v ρ dc) fun y dc => bnd (prS ks vs ρ dc) fun ps dc => .ok ((x, y) :: ps) dc
  | _, _, _, _ => .st
theorem e_prs : ∀ {ks vs : List X} {dc : Dc}, pairsM (ks.map fun a => a ρ) (vs.map fun a => a ρ) dc = prS ks vs ρ dc
  | [], [], dc => rfl
  | [], _ :: _, dc => rfl
  | _ :: _, [], dc => rfl
  | k :: ks, v :: vs, dc => by
    have e : pairsM ((k :: ks).map fun a => a ρ) ((v :: vs).map fun a => a ρ) = (k ρ >>= fun x => v ρ >>= fun y => pairsM (ks.map fun a => a ρ) (vs.map fun a => a ρ) >>= fun ps => pure ((x, y) :: ps)) := rfl
    rw [e]
    simp only [bnd_0, e_bind0, e_pure, e_prs]
    rfl
theorem prS_nil : prS [] [] ρ dc = .ok [] dc := rfl
theorem prS_cons {k ks v vs} : prS (k :: ks) (v :: vs) ρ dc = bnd (k ρ dc) fun x dc => bnd (v ρ dc) fun y dc => bnd (prS ks vs ρ dc) fun ps dc => .ok ((x, y) :: ps) dc := rfl
theorem e_dicX {ks vs} : dicX ks vs ρ dc = bnd (prS ks vs ρ dc) fun ps dc => lft ((mergeD [] ps).map .dic) dc := by
  unfold dicX; simp only [bnd_0, e_bind0, e_lift, e_prs]
theorem e_attr {f o} : attr Γ f o ρ dc = bnd (o ρ dc) fun d dc => lft (fldD Γ.fl f d) dc := by
  unfold attr; simp only [bnd_0, e_bind0, e_lift]
theorem e_oN : oN ρ dc = .ok none dc := rfl
theorem e_oS {e} : oS e ρ dc = bnd (e ρ dc) fun d dc => lft (partD d) dc := by
  unfold oS; simp only [bnd_0, e_bind0, e_lift]
theorem partD_i {i : Int} : partD (.int i) = some (some i) := rfl
theorem e_slc {o lo hi} : slc o lo hi ρ dc = bnd (o ρ dc) fun d dc => bnd (lo ρ dc) fun l dc => bnd (hi ρ dc) fun h dc => lft (slD d l h) dc := by
  unfold slc; simp only [bnd_0, e_bind0, e_lift]
theorem e_stp {o lo st} : stp o lo st ρ dc = bnd (o ρ dc) fun d dc => bnd (lo ρ dc) fun l dc => bnd (st ρ dc) fun s dc => lft (s.bind fun c => stD d l c) dc := by
  unfold stp; simp only [bnd_0, e_bind0, e_lift]
theorem e_sub {o i} : sub o i ρ dc = bnd (o ρ dc) fun d dc => bnd (i ρ dc) fun x dc => lft (ixDc dc d x) dc := by
  have q : ∀ d x dc, ixM d x dc = lft (ixDc dc d x) dc := fun d x dc => by
    show (lift (ixDc dc d x) : M D) dc = _
    rw [e_lift]
  unfold sub; simp only [bnd_0, e_bind0, q]
def noO : Out α → Out α
  | .ok a dc => .ok a dc
  | _ => .st
theorem e_noE {m : M α} : noE m dc = noO (m dc) := by
  unfold noE noO; cases m dc <;> rfl
theorem noO_ok {a : α} : noO (.ok a dc) = .ok a dc := rfl
theorem e_lcX {it tg tt te own} : lcX it tg tt te own ρ dc = bnd (it ρ dc) fun items dc => bnd (lcM tg (fun ρ => noE (tt ρ)) (fun ρ => noE (te ρ)) (wipeE ρ own) items dc) fun ys dc => lft (mkL ys) dc := by
  unfold lcX; simp only [bnd_0, e_bind0, e_lift]
theorem e_lc2X {it tg tt it1 vs1 tg1 tt1 te own} : lc2X it tg tt it1 vs1 tg1 tt1 te own ρ dc = bnd (it ρ dc) fun items dc => bnd (lc2M tg (fun ρ => noE (tt ρ)) (fun ρ => noE (it1 ρ)) vs1 tg1 (fun ρ => noE (tt1 ρ)) (fun ρ => noE (te ρ)) (wipeE ρ own) items dc) fun ys dc => lft (mkL ys) dc := by
  unfold lc2X; simp only [bnd_0, e_bind0, e_lift]
theorem e_dcX {it tg tt tk tv own} : dcX it tg tt tk tv own ρ dc = bnd (it ρ dc) fun items dc => bnd (dcM tg (fun ρ => noE (tt ρ)) (fun ρ => noE (tk ρ)) (fun ρ => noE (tv ρ)) (wipeE ρ own) items [] dc) fun kvs dc => .ok (.dic kvs) dc := by
  unfold dcX; simp only [bnd_0, e_bind0, e_pure]
theorem e_any {it tg tt te own} : genX "any" it tg tt te own ρ dc = bnd (it ρ dc) fun items dc => bnd (anyM tg (fun ρ => noE (tt ρ)) (fun ρ => noE (te ρ)) (wipeE ρ own) items dc) fun b dc => .ok (.bl b) dc := by
  have : genM "any" = fun tg tt te ρ xs => (do let b ← anyM tg tt te ρ xs; pure (.bl b)) := rfl
  unfold genX; simp only [bnd_0, e_bind0, this, e_pure]
theorem e_all {it tg tt te own} : genX "all" it tg tt te own ρ dc = bnd (it ρ dc) fun items dc => bnd (allM tg (fun ρ => noE (tt ρ)) (fun ρ => noE (te ρ)) (wipeE ρ own) items dc) fun b dc => .ok (.bl b) dc := by
  have : genM "all" = fun tg tt te ρ xs => (do let b ← allM tg tt te ρ xs; pure (.bl b)) := rfl
  unfold genX; simp only [bnd_0, e_bind0, this, e_pure]
theorem e_gsum {it tg tt te own} : genX "sum" it tg tt te own ρ dc = bnd (it ρ dc) fun items dc => bnd (lcM tg (fun ρ => noE (tt ρ)) (fun ρ => noE (te ρ)) (wipeE ρ own) items dc) fun ys dc => lft ((sumD ys 0).map .int) dc := by
  have : genM "sum" = fun tg tt te ρ xs => (do let ys ← lcM tg tt te ρ xs; lift ((sumD ys 0).map .int)) := rfl
  unfold genX; simp only [bnd_0, e_bind0, this, e_lift]
theorem e_gtup {it tg tt te own} : genX "tuple" it tg tt te own ρ dc = bnd (it ρ dc) fun items dc => bnd (lcM tg (fun ρ => noE (tt ρ)) (fun ρ => noE (te ρ)) (wipeE ρ own) items dc) fun ys dc => lft (mkT ys) dc := by
  have : genM "tuple" = fun tg tt te ρ xs => (do let ys ← lcM tg tt te ρ xs; lift (mkT ys)) := rfl
  unfold genX; simp only [bnd_0, e_bind0, this, e_lift]
theorem e_cal {F as} : cal F as ρ dc = bnd (seqS as ρ dc) fun ds dc => F ds dc := by
  unfold cal; simp only [bnd_0, e_bind0, e_seq]
theorem e_bi {f as} : bi f as ρ dc = bnd (seqS as ρ dc) fun ds dc => lft (biD f ds) dc := by
  unfold bi; simp only [bnd_0, e_bind0, e_lift, e_seq]
def methS (Γ : Gm) (m : Str) (as bs : List X) (ρ : En) : D → Dc → Out D
  | .obj c fs, dc => (match Γ.me.lookup (c, m) with
    | some F => if (fs.lookup m).isNone then bnd (seqS as ρ dc) fun ds dc => F (.obj c fs :: ds) dc else .st
    | none => .st)
  | d, dc => if smT m d && !bs.isEmpty then bnd (seqS bs ρ dc) fun ds dc => lft (smD m d ds) dc else .st
theorem e_meth {m o as bs} : meth Γ m o as bs ρ dc = bnd (o ρ dc) fun d dc => methS Γ m as bs ρ d dc := by
  unfold meth
  simp only [bnd_0, e_bind0]
  refine bnd0_ext fun d dc => ?_
  cases d
  case obj c fs =>
    simp only [methS]
    cases h : Γ.me.lookup (c, m) with
    | none => simp only [h]; rfl
    | some F =>
      simp only [h]
      split
      · simp only [bnd_0, e_bind0, e_seq]
      · rfl
  all_goals
    simp only [methS]
    split
    · simp only [bnd_0, e_bind0, e_lift, e_seq]
    · rfl
theorem methS_obj {m as bs c fs F} (h : Γ.me.lookup (c, m) = some F) (h2 : (fs.lookup m).isNone = true) : methS Γ m as bs ρ (.obj c fs) dc = bnd (seqS as ρ dc) fun ds dc => F (.obj c fs :: ds) dc := by
  simp only [methS, h, h2, if_true]
def tldO (pr : Str → Bool) (w : Str) : Out D → Out D
  | .ok d dc => .ok d dc
  | .er c dc => if pr c then .ok (.str w) dc else .st
  | .st => .st
theorem e_tldX {pr w e} : tldX pr w e ρ dc = tldO pr w (e ρ dc) := by
  unfold tldX toldM tldO
  cases e ρ dc <;> rfl
/-! tests -/
theorem e_ntB {a} : ntB a ρ dc = bnd (a ρ dc) fun c dc => .ok (!c) dc := by
  unfold ntB; simp only [bnd_0, e_bind0, e_pure]
def boT (op : BoolOp) : List B → En → Dc → Out Bool
  | [], _, dc => .ok (match op with | .And => true | .Or => false) dc
  | a :: as, ρ, dc => bnd (a ρ dc) fun b dc => match op with
    | .And => if b then boT op as ρ dc else .ok false dc
    | .Or => if b then .ok true dc else boT op as ρ dc
theorem e_boB {op} : ∀ {as : List B} {dc : Dc}, boB op as ρ dc = boT op as ρ dc
  | [], dc => rfl
  | a :: as, dc => by
    have ih := @e_boB op as
    have e : boB op (a :: as) ρ = (a ρ >>= fun b => match op, b with
      | .And, false => pure false
      | .Or, true => pure true
      | _, _ => boB op as ρ) := rfl
    rw [e]
    simp only [bnd_0, e_bind0]
    show _ = bnd (a ρ dc) fun b dc => match op with
      | .And => if b then boT op as ρ dc else .ok false dc
      | .Or => if b then .ok true dc else boT op as ρ dc
    refine bnd0_ext fun b dc => ?_
    cases op <;> cases b <;> simp [ih, e_pure]
theorem boT_and0 : boT .And [] ρ dc = .ok true dc := rfl
theorem boT_or0 : boT .Or [] ρ dc = .ok false dc := rfl
theorem boT_and {a as} : boT .And (a :: as) ρ dc = bnd (a ρ dc) fun b dc => if b then boT .And as ρ dc else .ok false dc := rfl
theorem boT_or {a as} : boT .Or (a :: as) ρ dc = bnd (a ρ dc) fun b dc => if b then .ok true dc else boT .Or as ρ dc := rfl
theorem e_c1B {op a b} : c1B Γ op a b ρ dc = bnd (a ρ dc) fun x dc => bnd (b ρ dc) fun y dc => lft (cmpG Γ op x y) dc := by
  unfold c1B; simp only [bnd_0, e_bind0, e_lift]
theorem e_c2B {op op' a b r} : c2B Γ op op' a b r ρ dc = bnd (a ρ dc) fun x dc => bnd (b ρ dc) fun y dc => bnd (lft (cmpG Γ op x y) dc) fun c dc => if c then bnd (r ρ dc) fun z dc => lft (cmpG Γ op' y z) dc else .ok false dc := by
  unfold c2B; simp only [bnd_0, e_bind0, e_lift, e_pure, ite_ap]
theorem e_tru {a} : tru a ρ dc = bnd (a ρ dc) fun d dc => lft (truD d) dc := by
  unfold tru; simp only [bnd_0, e_bind0, e_lift]
theorem e_ttB : ttB ρ dc = .ok true dc := rfl
/-! what is walked -/
def rgO : D → Dc → Out (List D)
  | .int j, dc => if -(2 ^ 62) ≤ j ∧ j < 2 ^ 62 then .ok (rangeD 0 j) dc else .st
  | _, _ => .st
def rgO2 : D → D → Dc → Out (List D)
  | .int i, .int j, dc => if -(2 ^ 62) ≤ i ∧ i < 2 ^ 62 ∧ -(2 ^ 62) ≤ j ∧ j < 2 ^ 62 then .ok (rangeD i j) dc else .st
  | _, _, _ => .st
theorem e_rg1 {a} : rg1 a ρ dc = bnd (a ρ dc) fun d dc => rgO d dc := by
  unfold rg1; simp only [bnd_0, e_bind0]
  refine bnd0_ext fun d dc => ?_
  unfold rgO
  cases d <;> simp only [] <;> first | rfl | (split <;> rfl)
theorem e_rg2 {a b} : rg2 a b ρ dc = bnd (a ρ dc) fun d dc => bnd (b ρ dc) fun e dc => rgO2 d e dc := by
  unfold rg2; simp only [bnd_0, e_bind0]
  refine bnd0_ext fun d dc => ?_
  refine bnd0_ext fun e dc => ?_
  unfold rgO2
  cases d <;> cases e <;> simp only [] <;> first | rfl | (split <;> rfl)
def zpO : D → D → Dc → Out (List D)
  | .lst xs, .lst ys, dc => .ok (zip2D xs ys) dc
  | .tup xs, .tup ys, dc => .ok (zip2D xs ys) dc
  | _, _, _ => .st
theorem e_zpI {a b} : zpI a b ρ dc = bnd (a ρ dc) fun d dc => bnd (b ρ dc) fun e dc => zpO d e dc := by
  unfold zpI; simp only [bnd_0, e_bind0]
  refine bnd0_ext fun d dc => ?_
  refine bnd0_ext fun e dc => ?_
  unfold zpO
  cases d <;> cases e <;> rfl
def enO : D → Dc → Out (List D)
  | .lst xs, dc => .ok (enumD xs) dc
  | _, _ => .st
theorem e_enI {a} : enI a ρ dc = bnd (a ρ dc) fun d dc => enO d dc := by
  unfold enI; simp only [bnd_0, e_bind0]
  refine bnd0_ext fun d dc => ?_
  unfold enO
  cases d <;> rfl
def dkO : D → Dc → Out (List D)
  | .dic kvs, dc => .ok (kvs.map fun p => .tup [p.1, p.2]) dc
  | _, _ => .st
theorem e_dkI {a} : dkI a ρ dc = bnd (a ρ dc) fun d dc => dkO d dc := by
  unfold dkI; simp only [bnd_0, e_bind0]
  refine bnd0_ext fun d dc => ?_
  unfold dkO
  cases d <;> rfl
def dvO : D → Dc → Out (List D)
  | .dic kvs, dc => .ok (kvs.map (·.2)) dc
  | _, _ => .st
theorem e_dvI {a} : dvI a ρ dc = bnd (a ρ dc) fun d dc => dvO d dc := by
  unfold dvI; simp only [bnd_0, e_bind0]
  refine bnd0_ext fun d dc => ?_
  unfold dvO
  cases d <;> rfl
theorem zpO_l {xs ys} : zpO (.lst xs) (.lst ys) dc = .ok (zip2D xs ys) dc := rfl
theorem zpO_t {xs ys} : zpO (.tup xs) (.tup ys) dc = .ok (zip2D xs ys) dc := rfl
theorem enO_l {xs} : enO (.lst xs) dc = .ok (enumD xs) dc := rfl
theorem dkO_d {kvs} : dkO (.dic kvs) dc = .ok (kvs.map fun p => .tup [p.1, p.2]) dc := rfl
theorem dvO_d {kvs} : dvO (.dic kvs) dc = .ok (kvs.map (·.2)) dc := rfl
theorem e_itI {a} : itI a ρ dc = bnd (a ρ dc) fun d dc => lft (itemsD d) dc := by
  unfold itI; simp only [bnd_0, e_bind0, e_lift]
/-! statements -/
theorem e_nxS : nxS ρ dc = .ok (.nx ρ) dc := rfl
theorem e_bkS : bkS ρ dc = .ok (.bk ρ) dc := rfl
theorem e_ctS : ctS ρ dc = .ok (.ct ρ) dc := rfl
theorem e_rnS : rnS ρ dc = .ok (.rt .non ρ) dc := rfl
theorem e_raS {c} : raS c ρ dc = .er c dc := rfl
theorem e_reS {es e} : reS es e ρ dc = bnd (e (frz ρ es) dc) fun d dc => .ok (.rt d (frz ρ es)) dc := by
  unfold reS; simp only [bnd_0, e_bind0, e_pure]
def apO (i : Nat) (a : X) (ρ : En) : D → Dc → Out Fl
  | .lst xs, dc => bnd (a ρ dc) fun y dc => if xs.length < szL then .ok (.nx (ρ.set i (.ow (.lst (xs ++ [y]))))) dc else .st
  | _, _ => .st
theorem e_apS {i es a es2 c} : apS i es a es2 c ρ dc = if isOwS ρ[i]? then bnd (ownS (frz ρ es)[i]? dc) fun c dc => apO i a (frz ρ es) c dc else bnd (c (frz ρ es2) dc) fun _ dc => .ok (.nx (frz ρ es2)) dc := by
  unfold apS
  rw [e_isOw, ite_ap]
  congr 1
  · simp only [bnd_0, e_bind0, e_owned]
    refine bnd0_ext fun c dc => ?_
    unfold apO
    cases c <;> simp only [bnd_0, e_bind0] <;> first | rfl | (refine bnd0_ext fun y dc => ?_; split <;> rfl)
theorem apO_l {i a xs} : apO i a ρ (.lst xs) dc = bnd (a ρ dc) fun y dc => if xs.length < szL then .ok (.nx (ρ.set i (.ow (.lst (xs ++ [y]))))) dc else .st := rfl
theorem e_moS {i es2 c} : moS i es2 c ρ dc = if isOwS ρ[i]? then .st else bnd (c (frz ρ es2) dc) fun _ dc => .ok (.nx (frz ρ es2)) dc := by
  unfold moS
  rw [e_isOw, ite_ap]
  simp only [bnd_0, e_bind0, e_pure, e_st]
theorem e_exS {es e} : exS es e ρ dc = bnd (e (frz ρ es) dc) fun d dc => .ok (.nx (frz ρ es)) dc := by
  unfold exS; simp only [bnd_0, e_bind0, e_pure]
theorem e_asS {i es fr e} : asS i es fr e ρ dc = bnd (e (frz ρ es) dc) fun d dc => .ok (.nx ((frz ρ es).set i (slF fr d))) dc := by
  unfold asS; simp only [bnd_0, e_bind0, e_pure]
theorem e_poS {j i} : poS j i ρ dc = bnd (ownS ρ[j]? dc) fun c dc => lft ((popD c).map fun q => .nx ((ρ.set j (.ow q.2)).set i (.va q.1))) dc := by
  unfold poS; simp only [bnd_0, e_bind0, e_lift, e_owned]
theorem e_laS {i es ls} : laS i es ls ρ dc = .ok (.nx ((frz ρ es).set i (.la ls))) dc := rfl
theorem e_paS {es ys as} : paS es ys as ρ dc = bnd (seqS as (frz ρ es) dc) fun ds dc => lft ((parQ ys ds (frz ρ es)).map .nx) dc := by
  unfold paS; simp only [bnd_0, e_bind0, e_lift, e_seq]
theorem parQ_nil : parQ [] [] ρ = some ρ := rfl
theorem parQ_cons {y ys d ds} : parQ (y :: ys) (d :: ds) ρ = parQ ys ds (ρ.set y.1 (slF y.2 d)) := rfl
theorem e_tuS {es tg e} : tuS es tg e ρ dc = bnd (e (frz ρ es) dc) fun d dc => lft ((tg d (frz ρ es)).map .nx) dc := by
  unfold tuS; simp only [bnd_0, e_bind0, e_lift]
theorem e_nmT {i : Nat} {d : D} : nmT i d ρ = some (ρ.set i (.va d)) := rfl
theorem e_tpT {ts : List T} {ds} : tpT ts (.tup ds) ρ = tpTs ts ds ρ := rfl
theorem e_tpK {ts : List T} {ds} : tpT ts (.ktup ds) ρ = tpTs ts ds ρ := rfl
theorem e_tpL {ts : List T} {ds} : tpT ts (.lst ds) ρ = tpTs ts ds ρ := rfl
theorem tpTs_nil : tpTs [] [] ρ = some ρ := rfl
theorem tpTs_cons {t : T} {ts d ds} : tpTs (t :: ts) (d :: ds) ρ = (t d ρ).bind fun ρ' => tpTs ts ds ρ' := rfl
def setO (ρ : En) (j : Nat) : Option D → D → D → Dc → Out Fl
  | some c, k, v, dc => lft ((setC c k v).map fun c' => .nx (ρ.set j (.ow c'))) dc
  | none, k, v, dc => match setDc dc k v with
    | some dc' => .ok (.nx ρ) dc'
    | none => .st
theorem e_stS {es j i e} : stS es j i e ρ dc = bnd (e (frz ρ es) dc) fun y dc => bnd (aimS (frz ρ es)[j]? dc) fun c dc => bnd (i (frz ρ es) dc) fun k dc => setO (frz ρ es) j c k y dc := by
  unfold stS; simp only [bnd_0, e_bind0, e_aimed]
  refine bnd0_ext fun y dc => ?_; refine bnd0_ext fun c dc => ?_; refine bnd0_ext fun k dc => ?_
  unfold setM setO
  cases c
  · rfl
  · simp only [e_lift]
theorem setO_some {j c k v} : setO ρ j (some c) k v dc = lft ((setC c k v).map fun c' => .nx (ρ.set j (.ow c'))) dc := rfl
theorem setO_d0 {j} {v : Int} : setO ρ j none (.int 0) (.int v) dc = .ok (.nx ρ) (v, dc.2.1, dc.2.2) := rfl
theorem setO_d1 {j} {v : Int} : setO ρ j none (.int 1) (.int v) dc = .ok (.nx ρ) (dc.1, v, dc.2.2) := rfl
theorem setO_d2 {j} {v : Int} : setO ρ j none (.int 2) (.int v) dc = .ok (.nx ρ) (dc.1, dc.2.1, v) := rfl
theorem e_flS {es j f e} : flS Γ es j f e ρ dc = bnd (e (frz ρ es) dc) fun y dc => bnd (ownS (frz ρ es)[j]? dc) fun c dc => lft ((fldC Γ.fl f y c).map fun c' => .nx ((frz ρ es).set j (.ow c'))) dc := by
  unfold flS; simp only [bnd_0, e_bind0, e_lift, e_owned]
theorem e_auS {es i op e} : auS es i op e ρ dc = bnd (vbS (frz ρ es)[i]? dc) fun old dc => bnd (e (frz ρ es) dc) fun y dc => lft ((augS (isOwS (frz ρ es)[i]?) op old y).map fun z => .nx ((frz ρ es).set i z)) dc := by
  unfold auS; simp only [bnd_0, e_bind0, e_lift, e_rdB, e_isOw]
theorem e_ifS {es t a b} : ifS es t a b ρ dc = bnd (t (frz ρ es) dc) fun c dc => if c then a (frz ρ es) dc else b (frz ρ es) dc := by
  unfold ifS; simp only [bnd_0, e_bind0, ite_ap]
theorem e_foS {es it tg a} : foS es it tg a ρ dc = bnd (it (frz ρ es) dc) fun items dc => forM' tg a items (frz ρ es) dc := by
  unfold foS; simp only [bnd_0, e_bind0]
theorem e_whS {es t a} : whS es t a ρ dc = whileM (fun ρ => t ρ) a 1000000 (frz ρ es) dc := rfl
def sqO (b : S) : Fl → Dc → Out Fl
  | .nx ρ, dc => b ρ dc
  | f, dc => .ok f dc
theorem e_sq {a b} : sq a b ρ dc = bnd (a ρ dc) fun f dc => sqO b f dc := by
  unfold sq; simp only [bnd_0, e_bind0]
  refine bnd0_ext fun f dc => ?_
  cases f <;> rfl
theorem sqO_nx {b} : sqO b (.nx ρ) dc = b ρ dc := rfl
theorem sqO_rt {b d} : sqO b (.rt d ρ) dc = .ok (.rt d ρ) dc := rfl
theorem sqO_bk {b} : sqO b (.bk ρ) dc = .ok (.bk ρ) dc := rfl
theorem sqO_ct {b} : sqO b (.ct ρ) dc = .ok (.ct ρ) dc := rfl
def endO : Fl → Dc → Out D
  | .rt d _, dc => .ok d dc
  | .nx _, dc => .ok .non dc
  | _, _ => .st
theorem e_run {np nl body ds} (h : ds.length = np) : run np nl body ds dc = bnd (body (ds.map .va ++ List.replicate (nl - ds.length) .no) dc) fun f dc => endO f dc := by
  unfold run; rw [if_pos h]; simp only [bnd_0, e_bind0]
  refine bnd0_ext fun f dc => ?_
  cases f <;> rfl
theorem endO_rt {d} : endO (.rt d ρ) dc = .ok d dc := rfl
theorem endO_nx : endO (.nx ρ) dc = .ok .non dc := rfl
def endC (cls : Str) : Fl → Dc → Out D
  | .nx ρ, dc => (match (ρ[0]? : Option Slot) with
      | some (.ow (.obj k fs)) => if k = cls then .ok (.obj cls fs) dc else .st
      | _ => .st)
  | _, _ => .st
theorem e_runC {cls np nl body ds} (h : ds.length + 1 = np) : runC cls np nl body ds dc = bnd (body (.ow (.obj cls []) :: (ds.map .va ++ List.replicate (nl - np) .no)) dc) fun f dc => endC cls f dc := by
  unfold runC; rw [if_pos h]; simp only [bnd_0, e_bind0]
  refine bnd0_ext fun f dc => ?_
  unfold endC
  cases f with
  | nx ρ =>
    dsimp only
    cases h0 : (ρ[0]? : Option Slot) with
    | none => rfl
    | some sl =>
      cases sl with
      | ow d =>
        cases d <;> first | rfl | (dsimp only; split <;> rfl)
      | _ => rfl
  | _ => rfl
theorem endC_nx {cls fs r} : endC cls (.nx (.ow (.obj cls fs) :: r)) dc = .ok (.obj cls fs) dc := by
  show (if cls = cls then _ else _) = _
  rw [if_pos rfl]
end Sh
/-! SL: what data answer; ranges, tables of numbers, loops. -/
namespace Sh
open PySem Px
variable {α β γ : Type} {ρ : En} {dc : Dc} {Γ : Gm}
/-! ### data -/
theorem b_add {i j : Int} : binD .Add (.int i) (.int j) = some (.int (i + j)) := rfl
theorem b_sub {i j : Int} : binD .Sub (.int i) (.int j) = some (.int (i - j)) := rfl
theorem b_mul {i j : Int} (h : CMulB i j = true) : binD .Mult (.int i) (.int j) = some (.int (i * j)) := if_pos h
theorem cm_l {i j : Int} (h1 : -18446744073709551616 < i) (h2 : i < 18446744073709551616) : CMulB i j = true := by
  unfold CMulB
  have a : decide (-(2 ^ 64 : Int) < i) = true := decide_eq_true (by omega)
  have b : decide (i < (2 ^ 64 : Int)) = true := decide_eq_true (by omega)
  rw [a, b]; rfl
theorem cm_r {i j : Int} (h1 : -18446744073709551616 < j) (h2 : j < 18446744073709551616) : CMulB i j = true := by
  unfold CMulB
  have a : decide (-(2 ^ 64 : Int) < j) = true := decide_eq_true (by omega)
  have b : decide (j < (2 ^ 64 : Int)) = true := decide_eq_true (by omega)
  rw [a, b]; simp
theorem b_mull {i j : Int} (h1 : -18446744073709551616 < i) (h2 : i < 18446744073709551616) : binD .Mult (.int i) (.int j) = some (.int (i * j)) := b_mul (cm_l h1 h2)
theorem b_mulr {i j : Int} (h1 : -18446744073709551616 < j) (h2 : j < 18446744073709551616) : binD .Mult (.int i) (.int j) = some (.int (i * j)) := b_mul (cm_r h1 h2)
theorem b_div {i j : Int} (h : 0 < j) (h2 : j < 1073741824) : binD .FloorDiv (.int i) (.int j) = some (.int (i / j)) := if_pos ⟨h, h2⟩
theorem b_mod {i j : Int} (h : 0 < j) : binD .Mod (.int i) (.int j) = some (.int (i % j)) := if_pos h
theorem b_addL {a b : List D} (h : a.length + b.length ≤ szL) : binD .Add (.lst a) (.lst b) = some (.lst (a ++ b)) := if_pos h
theorem b_addT {a b : List D} (h : a.length + b.length ≤ szL) : binD .Add (.tup a) (.tup b) = some (.tup (a ++ b)) := if_pos h
theorem b_addS {a b : Str} (h : a.length + b.length ≤ szL) : binD .Add (.str a) (.str b) = some (.str (a ++ b)) := if_pos h
theorem b_mulL {a : List D} {k : Int} (h1 : k < 4611686018427387904) (h2 : -4611686018427387904 < k) (h3 : a.length * k.toNat ≤ szL) : binD .Mult (.lst a) (.int k) = some (.lst (repL a k)) := if_pos ⟨h1, h2, h3⟩
theorem n_neg {i : Int} : negD (.int i) = some (.int (-i)) := rfl
theorem a_bl {b : Bool} : asB (.bl b) = some b := rfl
theorem c_lt {i j : Int} : cmpG Γ .Lt (.int i) (.int j) = some (decide (i < j)) := rfl
theorem c_le {i j : Int} : cmpG Γ .LtE (.int i) (.int j) = some (decide (i ≤ j)) := rfl
theorem c_gt {i j : Int} : cmpG Γ .Gt (.int i) (.int j) = some (decide (j < i)) := rfl
theorem c_ge {i j : Int} : cmpG Γ .GtE (.int i) (.int j) = some (decide (j ≤ i)) := rfl
/-- things whose equality is that of their parts -/
def eqOk : Nat → D → Bool
  | _, .int _ => true
  | _, .non => true
  | _, .str x => PyData.strOk x
  | n + 1, .tup xs => xs.all (eqOk n)
  | n + 1, .lst xs => xs.all (eqOk n)
  | _, _ => false
theorem toPys_map : ∀ {xs : List D} {ps : List PyData}, toPy.toPys xs = some ps → ps.length = xs.length
  | [], _, h => by cases h; rfl
  | x :: xs, ps, h => by
    unfold toPy.toPys at h
    split at h
    · rename_i p qs h1 h2
      cases h
      rw [List.length_cons, List.length_cons, toPys_map h2]
    · cases h
theorem eqOk_py : ∀ {n : Nat} {d : D}, eqOk n d = true → ∃ p, toPy d = some p ∧ p.canLay0 = true ∧ p.depth ≤ n
  | _, .int i, _ => ⟨.int i, rfl, by simp [PyData.canLay0], by simp [PyData.depth]⟩
  | _, .non, _ => ⟨.none, rfl, by simp [PyData.canLay0], by simp [PyData.depth]⟩
  | n, .str x, h => ⟨.str x, rfl, by
      have : PyData.strOk x = true := by cases n <;> simpa [eqOk] using h
      simpa [PyData.canLay0] using this, by simp [PyData.depth]⟩
  | n + 1, .tup xs, h => by
    have all : ∀ {ys : List D}, ys.all (eqOk n) = true → ∃ ps, toPy.toPys ys = some ps ∧ PyData.canLayAll0 ps = true ∧ PyData.depthAll ps ≤ n := fun {ys} => by
      induction ys with
      | nil => exact fun _ => ⟨[], rfl, by simp [PyData.canLayAll0], by simp [PyData.depthAll]⟩
      | cons y ys ih =>
        intro h
        rw [List.all_cons, Bool.and_eq_true] at h
        obtain ⟨p, h1, h2, h3⟩ := eqOk_py h.1
        obtain ⟨ps, g1, g2, g3⟩ := ih h.2
        exact ⟨p :: ps, by simp [toPy.toPys, h1, g1], by simp [PyData.canLayAll0, h2, g2], by simp only [PyData.depthAll]; omega⟩
    obtain ⟨ps, g1, g2, g3⟩ := all (ys := xs) (by simpa [eqOk] using h)
    exact ⟨.tuple ps, by simp [toPy, g1], by simpa [PyData.canLay0] using g2, by simp only [PyData.depth]; omega⟩
  | n + 1, .lst xs, h => by
    have all : ∀ {ys : List D}, ys.all (eqOk n) = true → ∃ ps, toPy.toPys ys = some ps ∧ PyData.canLayAll0 ps = true ∧ PyData.depthAll ps ≤ n := fun {ys} => by
      induction ys with
      | nil => exact fun _ => ⟨[], rfl, by simp [PyData.canLayAll0], by simp [PyData.depthAll]⟩
      | cons y ys ih =>
        intro h
        rw [List.all_cons, Bool.and_eq_true] at h
        obtain ⟨p, h1, h2, h3⟩ := eqOk_py h.1
        obtain ⟨ps, g1, g2, g3⟩ := ih h.2
        exact ⟨p :: ps, by simp [toPy.toPys, h1, g1], by simp [PyData.canLayAll0, h2, g2], by simp only [PyData.depthAll]; omega⟩
    obtain ⟨ps, g1, g2, g3⟩ := all (ys := xs) (by simpa [eqOk] using h)
    exact ⟨.list ps, by simp [toPy, g1], by simpa [PyData.canLay0] using g2, by simp only [PyData.depth]; omega⟩
  | 0, .tup xs, h => by simp [eqOk] at h
  | 0, .lst xs, h => by simp [eqOk] at h
  | n, .bl _, h => by cases n <;> simp [eqOk] at h
  | n, .dic _, h => by cases n <;> simp [eqOk] at h
  | n, .obj _ _, h => by cases n <;> simp [eqOk] at h
  | n, .dice, h => by cases n <;> simp [eqOk] at h
  | n, .ktup _, h => by cases n <;> simp [eqOk] at h
  | n, .kdic _, h => by cases n <;> simp [eqOk] at h
  | n, .klst _, h => by cases n <;> simp [eqOk] at h
theorem eqOk_eqv : ∀ {n : Nat} {a b : D} {p q : PyData}, eqOk n a = true → eqOk n b = true → toPy a = some p → toPy b = some q → (PyData.eqv p q = true ↔ a = b)
  | n, a, b, p, q, ha, hb, pa, pb => by
    have hall : ∀ {m : Nat}, n = m + 1 → ∀ {xs ys : List D} {ps qs : List PyData}, xs.all (eqOk m) = true → ys.all (eqOk m) = true → toPy.toPys xs = some ps → toPy.toPys ys = some qs → (PyData.eqvAll ps qs = true ↔ xs = ys) := by
      intro m hm xs
      induction xs with
      | nil =>
        intro ys ps qs _ _ h1 h2
        cases h1
        cases ys with
        | nil => cases h2; simp [PyData.eqvAll]
        | cons y ys =>
          have := toPys_map h2
          cases qs with
          | nil => simp at this
          | cons _ _ => simp [PyData.eqvAll]
      | cons x xs ih =>
        intro ys ps qs a1 a2 h1 h2
        rw [List.all_cons, Bool.and_eq_true] at a1
        unfold toPy.toPys at h1
        split at h1
        · rename_i p' ps' g1 g2
          cases h1
          cases ys with
          | nil => cases h2; simp [PyData.eqvAll]
          | cons y ys =>
            rw [List.all_cons, Bool.and_eq_true] at a2
            unfold toPy.toPys at h2
            split at h2
            · rename_i q' qs' k1 k2
              cases h2
              have e1 := eqOk_eqv a1.1 a2.1 g1 k1
              have e2 := ih a1.2 a2.2 g2 k2
              simp only [PyData.eqvAll, Bool.and_eq_true, e1, e2, List.cons.injEq]
            · cases h2
        · cases h1
    cases n with
    | zero => cases a <;> simp [eqOk] at ha <;> cases b <;> simp [eqOk] at hb <;> simp [toPy] at pa pb <;> subst pa <;> subst pb <;> simp [PyData.eqv]
    | succ m =>
      cases a with
      | tup xs =>
        simp only [toPy, Option.map_eq_some_iff] at pa
        obtain ⟨ps, pa, rfl⟩ := pa
        cases b with
        | tup ys =>
          simp only [toPy, Option.map_eq_some_iff] at pb
          obtain ⟨qs, pb, rfl⟩ := pb
          simp only [PyData.eqv, D.tup.injEq]
          exact hall rfl (by simpa [eqOk] using ha) (by simpa [eqOk] using hb) pa pb
        | lst ys =>
          simp only [toPy, Option.map_eq_some_iff] at pb
          obtain ⟨qs, pb, rfl⟩ := pb
          simp [PyData.eqv]
        | int _ => simp [toPy] at pb; subst pb; simp [PyData.eqv]
        | str _ => simp [toPy] at pb; subst pb; simp [PyData.eqv]
        | non => simp [toPy] at pb; subst pb; simp [PyData.eqv]
        | _ => simp [eqOk] at hb
      | lst xs =>
        simp only [toPy, Option.map_eq_some_iff] at pa
        obtain ⟨ps, pa, rfl⟩ := pa
        cases b with
        | lst ys =>
          simp only [toPy, Option.map_eq_some_iff] at pb
          obtain ⟨qs, pb, rfl⟩ := pb
          simp only [PyData.eqv, D.lst.injEq]
          exact hall rfl (by simpa [eqOk] using ha) (by simpa [eqOk] using hb) pa pb
        | tup ys =>
          simp only [toPy, Option.map_eq_some_iff] at pb
          obtain ⟨qs, pb, rfl⟩ := pb
          simp [PyData.eqv]
        | int _ => simp [toPy] at pb; subst pb; simp [PyData.eqv]
        | str _ => simp [toPy] at pb; subst pb; simp [PyData.eqv]
        | non => simp [toPy] at pb; subst pb; simp [PyData.eqv]
        | _ => simp [eqOk] at hb
      | int _ =>
        simp [toPy] at pa; subst pa
        cases b with
        | tup ys =>
          simp only [toPy, Option.map_eq_some_iff] at pb
          obtain ⟨qs, pb, rfl⟩ := pb
          simp [PyData.eqv]
        | lst ys =>
          simp only [toPy, Option.map_eq_some_iff] at pb
          obtain ⟨qs, pb, rfl⟩ := pb
          simp [PyData.eqv]
        | int _ => simp [toPy] at pb; subst pb; simp [PyData.eqv]
        | str _ => simp [toPy] at pb; subst pb; simp [PyData.eqv]
        | non => simp [toPy] at pb; subst pb; simp [PyData.eqv]
        | _ => simp [eqOk] at hb
      | str _ =>
        simp [toPy] at pa; subst pa
        cases b with
        | tup ys =>
          simp only [toPy, Option.map_eq_some_iff] at pb
          obtain ⟨qs, pb, rfl⟩ := pb
          simp [PyData.eqv]
        | lst ys =>
          simp only [toPy, Option.map_eq_some_iff] at pb
          obtain ⟨qs, pb, rfl⟩ := pb
          simp [PyData.eqv]
        | int _ => simp [toPy] at pb; subst pb; simp [PyData.eqv]
        | str _ => simp [toPy] at pb; subst pb; simp [PyData.eqv]
        | non => simp [toPy] at pb; subst pb; simp [PyData.eqv]
        | _ => simp [eqOk] at hb
      | non =>
        simp [toPy] at pa; subst pa
        cases b with
        | tup ys =>
          simp only [toPy, Option.map_eq_some_iff] at pb
          obtain ⟨qs, pb, rfl⟩ := pb
          simp [PyData.eqv]
        | lst ys =>
          simp only [toPy, Option.map_eq_some_iff] at pb
          obtain ⟨qs, pb, rfl⟩ := pb
          simp [PyData.eqv]
        | int _ => simp [toPy] at pb; subst pb; simp [PyData.eqv]
        | str _ => simp [toPy] at pb; subst pb; simp [PyData.eqv]
        | non => simp [toPy] at pb; subst pb; simp [PyData.eqv]
        | _ => simp [eqOk] at hb
      | _ => simp [eqOk] at ha
open Classical in
theorem eqD_ok {n : Nat} {a b : D} (hn : n ≤ 64) (ha : eqOk n a = true) (hb : eqOk n b = true) : eqD a b = some (decide (a = b)) := by
  obtain ⟨p, pa, ca, da⟩ := eqOk_py ha
  obtain ⟨q, pb, cb, db⟩ := eqOk_py hb
  have sp : SeqAt.shaped p = true := by unfold SeqAt.shaped; rw [ca, decide_eq_true (by omega : p.depth ≤ 64)]; rfl
  have sq : SeqAt.shaped q = true := by unfold SeqAt.shaped; rw [cb, decide_eq_true (by omega : q.depth ≤ 64)]; rfl
  unfold eqD
  rw [pa, pb]
  simp only [sp, sq, Bool.and_self, if_true, Option.some.injEq]
  rw [Bool.eq_iff_iff, decide_eq_true_eq]
  exact eqOk_eqv ha hb pa pb
theorem eq_int {i j : Int} : eqD (.int i) (.int j) = some (decide (i = j)) := by
  rw [eqD_ok (n := 0) (by omega) rfl rfl]
  congr 1
  simp
theorem c_eqi {i j : Int} : cmpG Γ .Eq (.int i) (.int j) = some (decide (i = j)) := eq_int
theorem c_nei {i j : Int} : cmpG Γ .NotEq (.int i) (.int j) = some (!decide (i = j)) := by
  show (eqD (.int i) (.int j)).map (fun b => !b) = _
  rw [eq_int]
  rfl
/-! ### ranges -/
def rng (n : Int) : List Int := (List.range n.toNat).map fun i : Nat => (i : Int)
theorem mem_rng {x n : Int} : x ∈ rng n ↔ 0 ≤ x ∧ x < n := by
  unfold rng
  simp only [List.mem_map, List.mem_range]
  constructor
  · rintro ⟨a, h, rfl⟩; omega
  · rintro ⟨h1, h2⟩; exact ⟨x.toNat, by omega, by omega⟩
theorem len_rng {n : Int} : (rng n).length = n.toNat := by simp [rng]
theorem rangeD_0 {n : Int} : rangeD 0 n = (rng n).map D.int := by
  unfold rangeD rng
  simp
theorem rangeD_lo {lo hi : Int} : rangeD lo hi = (rng (hi - lo)).map fun i => D.int (lo + i) := by
  unfold rangeD rng
  simp
theorem rng_0 : rng 0 = [] := rfl
theorem rng_succ {n : Int} (h : 0 ≤ n) : rng (n + 1) = rng n ++ [n] := by
  unfold rng
  have : (n + 1).toNat = n.toNat + 1 := by omega
  rw [this, List.range_succ, List.map_append]
  simp
  omega
theorem rng_get {n : Int} {i : Nat} (h : (i : Int) < n) : (rng n)[i]? = some (i : Int) := by
  unfold rng
  rw [List.getElem?_map, List.getElem?_range (by omega)]
  rfl
theorem rng_getI {n i : Int} (h0 : 0 ≤ i) (h : i < n) : (rng n)[i.toNat]? = some i := by
  rw [rng_get (by omega)]
  congr 1
  omega
/-! ### tables -/
def tab (w h : Int) (f : Int → Int → Int) : List Int := (rng h).flatMap fun y => (rng w).map fun x => f x y
theorem tab_0 {w : Int} {f} : tab w 0 f = [] := rfl
theorem tab_succ {w h : Int} {f} (hh : 0 ≤ h) : tab w (h + 1) f = tab w h f ++ (rng w).map fun x => f x h := by
  unfold tab
  rw [rng_succ hh, List.flatMap_append]
  simp
theorem tab_len {w h : Int} {f} (hw : 0 ≤ w) (hh : 0 ≤ h) : (tab w h f).length = (w * h).toNat := by
  unfold tab
  rw [List.length_flatMap]
  simp only [List.length_map, len_rng]
  have : ∀ (l : List Int) (c : Nat), (l.map fun _ => c).sum = l.length * c := fun l c => by
    induction l with
    | nil => simp
    | cons a l ih => simp [ih, Nat.succ_mul]; omega
  rw [this, len_rng]
  obtain ⟨a, rfl⟩ := Int.eq_ofNat_of_zero_le hw
  obtain ⟨b, rfl⟩ := Int.eq_ofNat_of_zero_le hh
  have : ((a : Int) * b).toNat = a * b := by rw [← Int.natCast_mul]; rfl
  simp only [Int.toNat_natCast]
  rw [this, Nat.mul_comm]
theorem flat_get {γ : Type} {g : Int → List γ} {w : Nat} (hg : ∀ y, (g y).length = w) : ∀ {n : Nat} {y x : Nat}, y < n → x < w → ((rng n).flatMap g)[y * w + x]? = (g y)[x]?
  | n + 1, y, x, hy, hx => by
    have e : rng ((n + 1 : Nat) : Int) = rng n ++ [(n : Int)] := by
      have := rng_succ (n := (n : Int)) (by omega)
      rw [← this]; rfl
    have hl : ∀ m : Nat, ((rng m).flatMap g).length = m * w := fun m => by
      rw [List.length_flatMap]
      simp only [hg]
      have : ∀ (l : List Int) (c : Nat), (l.map fun _ => c).sum = l.length * c := fun l c => by
        induction l with
        | nil => simp
        | cons a l ih => simp [ih, Nat.succ_mul]; omega
      rw [this, len_rng, Int.toNat_natCast]
    rw [e, List.flatMap_append]
    by_cases h : y < n
    · have b : y * w + x < n * w := by
        have : (y + 1) * w ≤ n * w := Nat.mul_le_mul_right w h
        rw [Nat.succ_mul] at this
        omega
      rw [List.getElem?_append_left (by rw [hl]; exact b)]
      exact flat_get hg h hx
    · have : y = n := by omega
      subst this
      rw [List.getElem?_append_right (by rw [hl]; omega), hl]
      simp
theorem tab_get {w h x y : Int} {f} (hx : 0 ≤ x) (hx2 : x < w) (hy : 0 ≤ y) (hy2 : y < h) : (tab w h f)[(y * w + x).toNat]? = some (f x y) := by
  obtain ⟨a, rfl⟩ := Int.eq_ofNat_of_zero_le hx
  obtain ⟨b, rfl⟩ := Int.eq_ofNat_of_zero_le hy
  obtain ⟨w, rfl⟩ := Int.eq_ofNat_of_zero_le (by omega : 0 ≤ w)
  obtain ⟨h, rfl⟩ := Int.eq_ofNat_of_zero_le (by omega : 0 ≤ h)
  have e : ((b : Int) * w + a).toNat = b * w + a := by rw [← Int.natCast_mul]; omega
  unfold tab
  rw [e, flat_get (w := w) (fun y => by simp [len_rng]) (by omega) (by omega), List.getElem?_map, rng_get (by omega)]
  rfl
theorem ixN_ok {n : Nat} {i : Int} (h0 : 0 ≤ i) (h : i < n) : ixN n i = some i.toNat := by
  unfold ixN; rw [if_pos h0, if_pos h]
theorem atD_ok {xs : List α} {i : Int} {x : α} (h0 : 0 ≤ i) (h : xs[i.toNat]? = some x) : atD xs i = some x := by
  have hl : i.toNat < xs.length := (List.getElem?_eq_some_iff.mp h).1
  unfold atD
  rw [ixN_ok h0 (by omega)]
  exact h
theorem at_tab {w h x y : Int} {f} (hx : 0 ≤ x) (hx2 : x < w) (hy : 0 ≤ y) (hy2 : y < h) : atD ((tab w h f).map D.int) (y * w + x) = some (.int (f x y)) := by
  refine atD_ok ?_ ?_
  · have := Int.mul_nonneg hy (by omega : 0 ≤ w)
    omega
  · rw [List.getElem?_map, tab_get hx hx2 hy hy2]
    rfl
theorem at_rng {n i : Int} {g : Int → D} (h0 : 0 ≤ i) (h : i < n) : atD ((rng n).map g) i = some (g i) := by
  refine atD_ok h0 ?_
  rw [List.getElem?_map, rng_getI h0 h]
  rfl
theorem mapR_ext {n : Int} {f g : Int → β} (h : ∀ i, 0 ≤ i → i < n → f i = g i) : (rng n).map f = (rng n).map g := List.map_congr_left fun a ha => h a (mem_rng.mp ha).1 (mem_rng.mp ha).2
theorem tab_ext {w h : Int} {f g : Int → Int → Int} (e : ∀ x y, 0 ≤ x → x < w → 0 ≤ y → y < h → f x y = g x y) : tab w h f = tab w h g := by
  have : ∀ n : Nat, (n : Int) ≤ h → tab w n f = tab w n g := fun n => by
    induction n with
    | zero => intro _; rfl
    | succ n ih =>
      intro hn
      have hn' : ((n + 1 : Nat) : Int) = (n : Int) + 1 := rfl
      rw [hn', tab_succ (by omega), tab_succ (by omega), ih (by omega)]
      congr 1
      exact mapR_ext fun i h0 h1 => e i n h0 h1 (by omega) (by omega)
  by_cases hh : 0 ≤ h
  · obtain ⟨n, rfl⟩ := Int.eq_ofNat_of_zero_le hh
    exact this n (by omega)
  · have : rng h = [] := by unfold rng; rw [Int.toNat_of_nonpos (by omega)]; rfl
    unfold tab
    rw [this]; rfl
theorem mem_tab {w h v : Int} {f} : v ∈ tab w h f ↔ ∃ x y, 0 ≤ x ∧ x < w ∧ 0 ≤ y ∧ y < h ∧ f x y = v := by
  unfold tab
  simp only [List.mem_flatMap, List.mem_map, mem_rng]
  constructor
  · rintro ⟨y, ⟨a, b⟩, x, ⟨c, d⟩, e⟩; exact ⟨x, y, c, d, a, b, e⟩
  · rintro ⟨x, y, c, d, a, b, e⟩; exact ⟨y, ⟨a, b⟩, x, ⟨c, d⟩, e⟩
theorem tab_le {w h : Int} {f} (hw : w ≤ 64) (hh : h ≤ 64) : (tab w h f).length ≤ 4096 := by
  have z : ∀ n : Int, n < 0 → rng n = [] := fun n hn => by unfold rng; rw [Int.toNat_of_nonpos (by omega)]; rfl
  by_cases h1 : 0 ≤ w
  · by_cases h2 : 0 ≤ h
    · rw [tab_len h1 h2]
      have : w * h ≤ 64 * 64 := Int.mul_le_mul hw hh h2 (by omega)
      omega
    · unfold tab
      rw [z h (by omega)]
      simp
  · unfold tab
    rw [z w (by omega)]
    have : ((rng h).flatMap fun y => ([] : List Int).map fun x => f x y) = [] := by simp [List.flatMap_eq_nil_iff]
    rw [this]
    simp
/-- a list of that many numbers is a table -/
theorem tab_of {xs : List Int} {w h : Int} (hw : 1 ≤ w) (hh : 0 ≤ h) (hl : xs.length = (w * h).toNat) : xs = tab w h fun x y => xs.getD (y * w + x).toNat 0 := by
  apply List.ext_getElem?
  intro i
  have hwh := Int.mul_nonneg (by omega : 0 ≤ w) hh
  by_cases hi : i < xs.length
  · have q0 : 0 ≤ (i : Int) / w := Int.ediv_nonneg (by omega) (by omega)
    have r0 : 0 ≤ (i : Int) % w := Int.emod_nonneg _ (by omega)
    have r1 : (i : Int) % w < w := Int.emod_lt_of_pos _ (by omega)
    have e := Int.mul_ediv_add_emod (i : Int) w
    have q1 : (i : Int) / w < h := Int.ediv_lt_of_lt_mul (by omega) (by rw [Int.mul_comm]; omega)
    have e2 : (i : Int) / w * w + (i : Int) % w = i := by rw [Int.mul_comm]; exact e
    have g := tab_get (f := fun x y => xs.getD (y * w + x).toNat 0) r0 r1 q0 q1
    rw [e2] at g
    rw [show ((i : Int)).toNat = i from rfl] at g
    rw [g, List.getElem?_eq_getElem hi, List.getD_eq_getElem?_getD, List.getElem?_eq_getElem hi]
    rfl
  · rw [List.getElem?_eq_none (by omega), List.getElem?_eq_none (by rw [tab_len (by omega) hh]; omega)]
/-! ### goals -/
def Ok (o : Out α) (Q : α → Dc → Prop) : Prop := ∃ a d, o = .ok a d ∧ Q a d
theorem ok_ok {a : α} {Q : α → Dc → Prop} : Ok (.ok a dc) Q = Q a dc := propext ⟨fun ⟨_, _, e, q⟩ => by cases e; exact q, fun q => ⟨a, dc, rfl, q⟩⟩
theorem ok_eq {o : Out α} {a : α} : Ok o (fun x d => x = a ∧ d = dc) → o = .ok a dc := fun ⟨_, _, e, h1, h2⟩ => by rw [e, h1, h2]
theorem ok_mono {o : Out α} {Q R : α → Dc → Prop} (h : Ok o Q) (i : ∀ a d, Q a d → R a d) : Ok o R := by
  obtain ⟨a, d, e, q⟩ := h
  exact ⟨a, d, e, i a d q⟩
theorem ok_bnd {o : Out α} {k : α → Dc → Out β} {Q : β → Dc → Prop} {P : α → Dc → Prop} (h : Ok o P) (i : ∀ a d, P a d → Ok (k a d) Q) : Ok (bnd o k) Q := by
  obtain ⟨a, d, e, p⟩ := h
  rw [e]
  exact i a d p
theorem ok_rw {o : Out α} {a : α} {d : Dc} {k : α → Dc → Out β} {Q : β → Dc → Prop} (e : o = .ok a d) (i : Ok (k a d) Q) : Ok (bnd o k) Q := by rw [e]; exact i
/-- behind a loop's body -/
def NxP (P : En → Dc → Prop) : Fl → Dc → Prop
  | .nx ρ, d => P ρ d
  | .ct ρ, d => P ρ d
  | _, _ => False
theorem nxp_nx {P : En → Dc → Prop} : NxP P (.nx ρ) dc = P ρ dc := rfl
theorem nxp_ct {P : En → Dc → Prop} : NxP P (.ct ρ) dc = P ρ dc := rfl
/-- a loop over things of one kind, by what holds ahead of the i-th -/
theorem for_ix {tg : T} {body : S} {emb : α → D} : ∀ {xs : List α} (j : Nat) (P : Nat → En → Dc → Prop) {ρ : En} {dc : Dc}, P j ρ dc →
    (∀ i x ρ dc, xs[i]? = some x → P (j + i) ρ dc → ∃ ρ1, tg (emb x) ρ = some ρ1 ∧ Ok (body ρ1 dc) (NxP (P (j + i + 1)))) →
    Ok (forM' tg body (xs.map emb) ρ dc) fun f d => ∃ ρ2, f = .nx ρ2 ∧ P (j + xs.length) ρ2 d
  | [], j, P, ρ, dc, h0, _ => ⟨_, _, rfl, ρ, rfl, h0⟩
  | x :: xs, j, P, ρ, dc, h0, hs => by
    obtain ⟨ρ1, e1, f, d, e2, q⟩ := hs 0 x ρ dc rfl h0
    obtain ⟨ρ2, e3, p⟩ : ∃ ρ2, (f = .nx ρ2 ∨ f = .ct ρ2) ∧ P (j + 1) ρ2 d := by
      cases f with
      | nx ρ2 => exact ⟨ρ2, .inl rfl, q⟩
      | ct ρ2 => exact ⟨ρ2, .inr rfl, q⟩
      | _ => exact q.elim
    have ih := for_ix (xs := xs) (tg := tg) (body := body) (emb := emb) (j + 1) P p fun i y ρ' dc' hy hp => by
      have := hs (i + 1) y ρ' dc' hy (by rw [← Nat.add_assoc]; rw [show j + i + 1 = j + 1 + i by omega]; exact hp)
      rw [show j + 1 + i + 1 = j + (i + 1) + 1 by omega]
      exact this
    rw [List.length_cons, show j + (xs.length + 1) = j + 1 + xs.length by omega]
    have step : forM' tg body ((x :: xs).map emb) ρ dc = forM' tg body (xs.map emb) ρ2 d := by
      show (lift (tg (emb x) ρ) >>= fun ρ' => body ρ' >>= fun f => _) dc = _
      rw [e_bind, e_lift, e1, lft_some, bnd_ok, e_bind, e2, bnd_ok]
      rcases e3 with rfl | rfl <;> rfl
    rw [step]
    exact ih
theorem ok_for {tg : T} {body : S} {emb : α → D} {xs : List α} {k : Fl → Dc → Out β} {Q : β → Dc → Prop} (P : Nat → En → Dc → Prop) (h0 : P 0 ρ dc)
    (hs : ∀ i x ρ dc, xs[i]? = some x → P i ρ dc → ∃ ρ1, tg (emb x) ρ = some ρ1 ∧ Ok (body ρ1 dc) (NxP (P (i + 1))))
    (hk : ∀ ρ dc, P xs.length ρ dc → Ok (k (.nx ρ) dc) Q) : Ok (bnd (forM' tg body (xs.map emb) ρ dc) k) Q := by
  refine ok_bnd (for_ix 0 P h0 fun i x ρ dc hx hp => ?_) fun f d ⟨ρ2, e, p⟩ => ?_
  · rw [Nat.zero_add] at hp ⊢
    exact hs i x ρ dc hx hp
  · rw [e]
    rw [Nat.zero_add] at p
    exact hk _ _ p
/-- over a range -/
theorem ok_forR {tg : T} {body : S} {emb : Int → D} {n : Int} {k : Fl → Dc → Out β} {Q : β → Dc → Prop} (P : Int → En → Dc → Prop) (hn : 0 ≤ n) (h0 : P 0 ρ dc)
    (hs : ∀ i ρ dc, 0 ≤ i → i < n → P i ρ dc → ∃ ρ1, tg (emb i) ρ = some ρ1 ∧ Ok (body ρ1 dc) (NxP (P (i + 1))))
    (hk : ∀ ρ dc, P n ρ dc → Ok (k (.nx ρ) dc) Q) : Ok (bnd (forM' tg body ((rng n).map emb) ρ dc) k) Q := by
  refine ok_for (fun i => P (i : Int)) h0 (fun i x ρ dc hx hp => ?_) fun ρ dc hp => hk ρ dc ?_
  · have hi : i < (rng n).length := (List.getElem?_eq_some_iff.mp hx).1
    rw [len_rng] at hi
    rw [rng_get (by omega)] at hx
    cases hx
    exact hs i ρ dc (by omega) (by omega) hp
  · rw [len_rng] at hp
    rwa [Int.toNat_of_nonneg hn] at hp
/-- a list comprehension, its item a function of what is walked -/
theorem lc_map {tg : T} {tt : B} {te : X} {emb : α → D} {f : α → D} : ∀ {xs : List α}, (∀ x ∈ xs, ∃ ρ1, tg (emb x) ρ = some ρ1 ∧ noE (tt ρ1) dc = .ok true dc ∧ noE (te ρ1) dc = .ok (f x) dc) →
    lcM tg (fun ρ => noE (tt ρ)) (fun ρ => noE (te ρ)) ρ (xs.map emb) dc = .ok (xs.map f) dc
  | [], _ => rfl
  | x :: xs, h => by
    obtain ⟨ρ1, e1, e2, e3⟩ := h x List.mem_cons_self
    have ih := lc_map (tg := tg) (tt := tt) (te := te) (emb := emb) (f := f) (xs := xs) fun y hy => h y (List.mem_cons_of_mem _ hy)
    show (lift (tg (emb x) ρ) >>= fun ρ' => noE (tt ρ') >>= fun b => _) dc = _
    rw [e_bind, e_lift, e1, lft_some, bnd_ok, e_bind, e2, bnd_ok]
    show (noE (te ρ1) >>= fun y => lcM tg _ _ ρ (xs.map emb) >>= fun ys => pure (y :: ys)) dc = _
    rw [e_bind, e3, bnd_ok, e_bind, ih, bnd_ok]
    rfl
theorem ok_lc {tg : T} {tt : B} {te : X} {emb : α → D} {xs : List α} {k : List D → Dc → Out β} {Q : β → Dc → Prop} (f : α → D)
    (h : ∀ x ∈ xs, ∃ ρ1, tg (emb x) ρ = some ρ1 ∧ noE (tt ρ1) dc = .ok true dc ∧ noE (te ρ1) dc = .ok (f x) dc) (hk : Ok (k (xs.map f) dc) Q) :
    Ok (bnd (lcM tg (fun ρ => noE (tt ρ)) (fun ρ => noE (te ρ)) ρ (xs.map emb) dc) k) Q := by rw [lc_map h]; exact hk
theorem ok_lcR {tg : T} {tt : B} {te : X} {emb : Int → D} {n : Int} {k : List D → Dc → Out β} {Q : β → Dc → Prop} (f : Int → D)
    (h : ∀ x, 0 ≤ x → x < n → ∃ ρ1, tg (emb x) ρ = some ρ1 ∧ noE (tt ρ1) dc = .ok true dc ∧ noE (te ρ1) dc = .ok (f x) dc) (hk : Ok (k ((rng n).map f) dc) Q) :
    Ok (bnd (lcM tg (fun ρ => noE (tt ρ)) (fun ρ => noE (te ρ)) ρ ((rng n).map emb) dc) k) Q := ok_lc f (fun x hx => h x (mem_rng.mp hx).1 (mem_rng.mp hx).2) hk
/-- any: none is so -/
theorem any_no {tg : T} {tt : B} {te : X} {emb : α → D} : ∀ {xs : List α}, (∀ x ∈ xs, ∃ ρ1, tg (emb x) ρ = some ρ1 ∧ noE (tt ρ1) dc = .ok true dc ∧ noE (te ρ1) dc = .ok (.bl false) dc) →
    anyM tg (fun ρ => noE (tt ρ)) (fun ρ => noE (te ρ)) ρ (xs.map emb) dc = .ok false dc
  | [], _ => rfl
  | x :: xs, h => by
    obtain ⟨ρ1, e1, e2, e3⟩ := h x List.mem_cons_self
    have ih := any_no (tg := tg) (tt := tt) (te := te) (emb := emb) (xs := xs) fun y hy => h y (List.mem_cons_of_mem _ hy)
    show (lift (tg (emb x) ρ) >>= fun ρ' => noE (tt ρ') >>= fun b => _) dc = _
    rw [e_bind, e_lift, e1, lft_some, bnd_ok, e_bind, e2, bnd_ok]
    show (noE (te ρ1) >>= fun y => lift (asB y) >>= fun c => if c then pure true else anyM tg _ _ ρ (xs.map emb)) dc = _
    rw [e_bind, e3, bnd_ok, e_bind, e_lift]
    exact ih
theorem ok_any {tg : T} {tt : B} {te : X} {emb : α → D} {xs : List α} {k : Bool → Dc → Out β} {Q : β → Dc → Prop}
    (h : ∀ x ∈ xs, ∃ ρ1, tg (emb x) ρ = some ρ1 ∧ noE (tt ρ1) dc = .ok true dc ∧ noE (te ρ1) dc = .ok (.bl false) dc) (hk : Ok (k false dc) Q) :
    Ok (bnd (anyM tg (fun ρ => noE (tt ρ)) (fun ρ => noE (te ρ)) ρ (xs.map emb) dc) k) Q := by rw [any_no h]; exact hk
theorem ok_anyR {tg : T} {tt : B} {te : X} {emb : Int → D} {n : Int} {k : Bool → Dc → Out β} {Q : β → Dc → Prop}
    (h : ∀ x, 0 ≤ x → x < n → ∃ ρ1, tg (emb x) ρ = some ρ1 ∧ noE (tt ρ1) dc = .ok true dc ∧ noE (te ρ1) dc = .ok (.bl false) dc) (hk : Ok (k false dc) Q) :
    Ok (bnd (anyM tg (fun ρ => noE (tt ρ)) (fun ρ => noE (te ρ)) ρ ((rng n).map emb) dc) k) Q := ok_any (fun x hx => h x (mem_rng.mp hx).1 (mem_rng.mp hx).2) hk
theorem toNat_ok {n : Int} (h : 0 ≤ n) : ((n.toNat : Nat) : Int) = n := Int.toNat_of_nonneg h
end Sh
/-! SM: pictures as things; more rules of the simp set. -/
namespace Sh
open PySem Px
variable {α β γ : Type} {ρ : En} {dc : Dc} {Γ : Gm}
/-- what a text's fields are -/
class GOk (Γ : Gm) : Prop where
  fw : (("Picture" : Str), ("wide" : Str)) ∈ Γ.fl
  fh : (("Picture" : Str), ("high" : Str)) ∈ Γ.fl
  fn : (("Picture" : Str), ("numbers" : Str)) ∈ Γ.fl
/-- a picture -/
def picD (w h : Int) (f : Int → Int → Int) : D := .obj "Picture" [("wide", .int w), ("high", .int h), ("numbers", .tup ((tab w h f).map .int))]
structure POk (w h : Int) (f : Int → Int → Int) : Prop where
  w1 : 1 ≤ w
  w2 : w ≤ 64
  h1 : 1 ≤ h
  h2 : h ≤ 64
  n : ∀ x y, 0 ≤ x → x < w → 0 ≤ y → y < h → 0 ≤ f x y ∧ f x y ≤ 255
theorem x_wide [g : GOk Γ] {w h f} : fldD Γ.fl "wide" (picD w h f) = some (.int w) := if_pos g.fw
theorem x_high [g : GOk Γ] {w h f} : fldD Γ.fl "high" (picD w h f) = some (.int h) := if_pos g.fh
theorem x_nums [g : GOk Γ] {w h f} : fldD Γ.fl "numbers" (picD w h f) = some (.tup ((tab w h f).map .int)) := if_pos g.fn
theorem x_flw [g : GOk Γ] {v} : fldC Γ.fl "wide" v (.obj "Picture" []) = some (.obj "Picture" [("wide", v)]) := if_pos ⟨g.fw, by decide⟩
theorem x_flh [g : GOk Γ] {v a} : fldC Γ.fl "high" v (.obj "Picture" [("wide", a)]) = some (.obj "Picture" [("wide", a), ("high", v)]) := if_pos ⟨g.fh, by simp⟩
theorem x_fln [g : GOk Γ] {v a b} : fldC Γ.fl "numbers" v (.obj "Picture" [("wide", a), ("high", b)]) = some (.obj "Picture" [("wide", a), ("high", b), ("numbers", v)]) := if_pos ⟨g.fn, by simp⟩
theorem x_pic {w h f} : D.obj "Picture" [("wide", .int w), ("high", .int h), ("numbers", .tup ((tab w h f).map .int))] = picD w h f := rfl
theorem x_rng {n : Int} (h1 : -4611686018427387904 ≤ n) (h2 : n < 4611686018427387904) : rgO (.int n) dc = .ok ((rng n).map D.int) dc := (if_pos ⟨h1, h2⟩).trans (by rw [rangeD_0])
theorem x_rng2 {m n : Int} (h3 : -4611686018427387904 ≤ m) (h4 : m < 4611686018427387904) (h1 : -4611686018427387904 ≤ n) (h2 : n < 4611686018427387904) : rgO2 (.int m) (.int n) dc = .ok ((rng (n - m)).map fun i => D.int (m + i)) dc := (if_pos ⟨h3, h4, h1, h2⟩).trans (by rw [rangeD_lo])
theorem noe_ok {m : M α} {v : α} (h : Ok (m dc) fun a d => a = v ∧ d = dc) : noE m dc = .ok v dc := by rw [e_noE, ok_eq h]; rfl
theorem x_mkL {xs : List D} (h : xs.length ≤ 16777216) : mkL xs = some (.lst xs) := if_pos h
theorem x_mkT {xs : List D} (h : xs.length ≤ 16777216) : mkT xs = some (.tup xs) := if_pos h
theorem x_itl {xs : List D} : itemsD (.lst xs) = some xs := rfl
theorem x_itt {xs : List D} : itemsD (.tup xs) = some xs := rfl
theorem x_d0 {i j k : Int} : ixDc (i, j, k) .dice (.int 0) = some (.int i) := rfl
theorem x_d1 {i j k : Int} : ixDc (i, j, k) .dice (.int 1) = some (.int j) := rfl
theorem x_d2 {i j k : Int} : ixDc (i, j, k) .dice (.int 2) = some (.int k) := rfl
/-- a law's own picture -/
def ownD (w h : Int) (f : Int → Int → Int) : D := .dic [(.str "wide", .int w), (.str "high", .int h), (.str "rows", .lst ((tab w h f).map .int))]
def sizD (w h : Int) : D := .dic [(.str "wide", .int w), (.str "high", .int h)]
theorem x_ow {w h f} : ixDc dc (ownD w h f) (.str "wide") = some (.int w) := rfl
theorem x_oh {w h f} : ixDc dc (ownD w h f) (.str "high") = some (.int h) := rfl
theorem x_or {w h f} : ixDc dc (ownD w h f) (.str "rows") = some (.lst ((tab w h f).map .int)) := rfl
theorem x_sw {w h} : ixDc dc (sizD w h) (.str "wide") = some (.int w) := rfl
theorem x_sh {w h} : ixDc dc (sizD w h) (.str "high") = some (.int h) := rfl
theorem x_own {w h f} : mergeD [] [(.str "wide", .int w), (.str "high", .int h), (.str "rows", .lst ((tab w h f).map .int))] = some [(.str "wide", .int w), (.str "high", .int h), (.str "rows", .lst ((tab w h f).map .int))] := rfl
theorem x_own2 {w h f} : D.dic [(.str "wide", .int w), (.str "high", .int h), (.str "rows", .lst ((tab w h f).map .int))] = ownD w h f := rfl
theorem x_siz {w h : D} : mergeD [] [(.str "wide", w), (.str "high", h)] = some [(.str "wide", w), (.str "high", h)] := rfl
theorem x_siz2 {w h} : D.dic [(.str "wide", .int w), (.str "high", .int h)] = sizD w h := rfl
theorem slF_siz {w h} : slF true (sizD w h) = .ow (sizD w h) := rfl
theorem slF_own {w h f} : slF true (ownD w h f) = .ow (ownD w h f) := rfl
theorem frzS_siz {w h k} : frzS (some (.ow (sizD w h))) k = some (.va (sizD w h)) := rfl
theorem frzS_own {w h f k} : frzS (some (.ow (ownD w h f))) k = some (.va (ownD w h f)) := rfl
theorem ok_noO {o : Out α} {Q : α → Dc → Prop} : Ok (noO o) Q = Ok o Q := propext ⟨fun ⟨a, d, e, q⟩ => ⟨a, d, (by cases o with | ok x y => exact e | er x y => cases e | st => cases e), q⟩, fun ⟨a, d, e, q⟩ => ⟨a, d, by rw [e]; rfl, q⟩⟩
theorem x_len {xs : List D} : biD "len" [.lst xs] = some (.int xs.length) := rfl
theorem x_lent {xs : List D} : biD "len" [.tup xs] = some (.int xs.length) := rfl
theorem x_int {i : Int} : biD "int" [.int i] = some (.int i) := rfl
theorem x_intb {b : Bool} : biD "int" [.bl b] = some (.int (if b then 1 else 0)) := rfl
theorem x_min {i j : Int} : biD "min" [.int i, .int j] = some (.int (min i j)) := by
  show some (D.int (if j < i then j else i)) = _
  rw [Int.min_def]
  congr 2
  split <;> split <;> omega
theorem x_max {i j : Int} : biD "max" [.int i, .int j] = some (.int (max i j)) := by
  show some (D.int (if j > i then j else i)) = _
  rw [Int.max_def]
  congr 2
  split <;> split <;> omega
theorem x_list {xs : List D} : biD "list" [.tup xs] = some (.lst xs) := rfl
theorem x_listl {xs : List D} : biD "list" [.lst xs] = some (.lst xs) := rfl
theorem x_tuple {xs : List D} : biD "tuple" [.lst xs] = some (.tup xs) := rfl
theorem x_tup2 {xs : List D} : biD "tuple" [.tup xs] = some (.tup xs) := rfl
theorem x_abs {i : Int} : biD "abs" [.int i] = some (.int (absI i)) := rfl
theorem x_bl {b : Bool} : truD (.bl b) = some b := rfl
theorem x_augL {a b : List D} (h : a.length + b.length ≤ 16777216) : augS true .Add (.lst a) (.lst b) = some (.ow (.lst (a ++ b))) := if_pos h
theorem x_augI {b : Bool} {i j : Int} : augS b .Add (.int i) (.int j) = some (.va (.int (i + j))) := by cases b <;> rfl
theorem w_nil : wipeE ρ [] = ρ := rfl
theorem w_cons {v vs} : wipeE ρ (v :: vs) = (wipeE ρ vs).set v .no := rfl
theorem x_asl {a b : Int} : a + b - a = b := by omega
theorem i_le {a b : Int} (h : a ≤ b) : (a ≤ b) = True := eq_true h
theorem i_nle {a b : Int} (h : b < a) : (a ≤ b) = False := eq_false (by omega)
theorem i_lt {a b : Int} (h : a < b) : (a < b) = True := eq_true h
theorem i_nlt {a b : Int} (h : b ≤ a) : (a < b) = False := eq_false (by omega)
theorem i_eq {a b : Int} (h : a = b) : (a = b) = True := eq_true h
theorem i_neq {a b : Int} (h : a ≠ b) : (a = b) = False := eq_false h
theorem i_ne {a b : Int} (h : a ≠ b) : (a ≠ b) = True := eq_true h
theorem n_le {a b : Nat} (h : a ≤ b) : (a ≤ b) = True := eq_true h
theorem n_lt {a b : Nat} (h : a < b) : (a < b) = True := eq_true h
theorem m_pic {m : Str} {F : Fn} (e : Γ.me.lookup (("Picture" : Str), m) = some F) (hm : ∀ a b c : D, (List.lookup m [(("wide" : Str), a), (("high" : Str), b), (("numbers" : Str), c)]).isNone = true) {ρ : En} {as bs w h f dc} : methS Γ m as bs ρ (picD w h f) dc = bnd (seqS as ρ dc) fun ds dc => F (picD w h f :: ds) dc := methS_obj e (hm _ _ _)
theorem endC_pic {w h f r} : endC "Picture" (.nx (.ow (picD w h f) :: r)) dc = .ok (picD w h f) dc := endC_nx
theorem c_same {xs : List D} (h : xs.all (eqOk 8) = true) : cmpG Γ .Eq (.tup xs) (.tup xs) = some true := by
  show eqD (.tup xs) (.tup xs) = _
  have h9 : eqOk 9 (.tup xs) = true := by simpa [eqOk] using h
  rw [eqD_ok (n := 9) (by omega) h9 h9]
  simp
theorem eqOk_map {n : Nat} {xs : List Int} : (xs.map D.int).all (eqOk n) = true := by
  rw [List.all_map, List.all_eq_true]
  intro x _
  cases n <;> rfl
theorem run_ok {np nl body ds} {Q : D → Dc → Prop} (h : ds.length = np) (g : Ok (bnd (body (ds.map .va ++ List.replicate (nl - ds.length) .no) dc) fun f dc => endO f dc) Q) : Ok (run np nl body ds dc) Q := by rw [e_run h]; exact g
theorem run_eq {np nl body ds v} (h : ds.length = np) (g : Ok (bnd (body (ds.map .va ++ List.replicate (nl - ds.length) .no) dc) fun f dc => endO f dc) fun a d => a = v ∧ d = dc) : run np nl body ds dc = .ok v dc := ok_eq (run_ok h g)
theorem run_er {np nl body ds c} (h : ds.length = np) (g : bnd (body (ds.map .va ++ List.replicate (nl - ds.length) .no) dc) (fun f dc => endO f dc) = .er c dc) : run np nl body ds dc = .er c dc := by rw [e_run h]; exact g
theorem runC_ok {cls np nl body ds} {Q : D → Dc → Prop} (h : ds.length + 1 = np) (g : Ok (bnd (body (.ow (.obj cls []) :: (ds.map .va ++ List.replicate (nl - np) .no)) dc) fun f dc => endC cls f dc) Q) : Ok (runC cls np nl body ds dc) Q := by rw [e_runC h]; exact g
theorem runC_eq {cls np nl body ds v} (h : ds.length + 1 = np) (g : Ok (bnd (body (.ow (.obj cls []) :: (ds.map .va ++ List.replicate (nl - np) .no)) dc) fun f dc => endC cls f dc) fun a d => a = v ∧ d = dc) : runC cls np nl body ds dc = .ok v dc := ok_eq (runC_ok h g)
end Sh
/-! SN: slices, rows, repeated lists. -/
namespace Sh
open PySem Px
variable {α β γ : Type} {ρ : En} {dc : Dc} {Γ : Gm}
theorem x_ixt {xs : List D} {i : Int} : ixDc dc (.tup xs) (.int i) = atD xs i := rfl
theorem x_ixl {xs : List D} {i : Int} : ixDc dc (.lst xs) (.int i) = atD xs i := rfl
theorem x_ixk {xs : List D} {i : Int} : ixDc dc (.ktup xs) (.int i) = atD xs i := rfl
theorem x_ixd {k : D} {kvs : List (D × D)} : ixDc dc (.dic kvs) k = (lookD k kvs).bind id := by cases k <;> rfl
theorem cut_ok {xs : List α} {a b : Int} (ha : 0 ≤ a) (hb : 0 ≤ b) : cutD xs (some a) (some b) = (xs.drop a.toNat).take (b.toNat - a.toNat) := by
  unfold cutD
  have e : ∀ v : Int, 0 ≤ v → ∀ d, Px.sIx xs.length d (some v) = min v.toNat xs.length := fun v hv d => by
    show (if v < 0 then _ else _) = _
    rw [if_neg (by omega)]
  rw [e a ha, e b hb]
  by_cases h : a.toNat < xs.length
  · have ea : min a.toNat xs.length = a.toNat := by omega
    rw [ea]
    by_cases h2 : b.toNat ≤ xs.length
    · have eb : min b.toNat xs.length = b.toNat := by omega
      rw [eb]
    · have eb : min b.toNat xs.length = xs.length := by omega
      rw [eb, List.take_of_length_le (by simp), List.take_of_length_le (by simp; omega)]
  · have ea : min a.toNat xs.length = xs.length := by omega
    rw [ea, List.drop_of_length_le (by omega), List.drop_of_length_le (by omega)]
    simp
theorem rng_part {n a b : Int} {g : Int → α} (ha : 0 ≤ a) (hb : a ≤ b) (hn : b ≤ n) : (((rng n).map g).drop a.toNat).take (b.toNat - a.toNat) = (rng (b - a)).map fun i => g (a + i) := by
  apply List.ext_getElem?
  intro i
  by_cases hi : (i : Int) < b - a
  · rw [List.getElem?_take_of_lt (by omega), List.getElem?_drop, List.getElem?_map, List.getElem?_map, rng_get hi, rng_get (by omega)]
    simp only [Option.map_some]
    congr 2
    omega
  · rw [List.getElem?_take, if_neg (by omega), List.getElem?_eq_none (by simp [len_rng]; omega)]
theorem x_cutR {n a b : Int} {g : Int → D} (ha : 0 ≤ a) (hb : a ≤ b) (hn : b ≤ n) : cutD ((rng n).map g) (some a) (some b) = (rng (b - a)).map fun i => g (a + i) := by rw [cut_ok ha (by omega), rng_part ha hb hn]
theorem tab_row {w h y : Int} {f : Int → Int → Int} (hw : 0 ≤ w) (hy : 0 ≤ y) (hy2 : y < h) : ((tab w h f).drop (y * w).toNat).take (((y + 1) * w).toNat - (y * w).toNat) = (rng w).map fun x => f x y := by
  have m0 := Int.mul_nonneg hy hw
  have m1 : (y + 1) * w = y * w + w := by rw [Int.add_mul]; omega
  apply List.ext_getElem?
  intro i
  by_cases hi : (i : Int) < w
  · rw [List.getElem?_take_of_lt (by omega), List.getElem?_drop, List.getElem?_map, rng_get hi]
    have := tab_get (f := f) (x := i) (y := y) (w := w) (h := h) (by omega) hi hy hy2
    rw [show (y * w).toNat + i = (y * w + (i : Int)).toNat by omega, this]
    rfl
  · rw [List.getElem?_take, if_neg (by omega), List.getElem?_eq_none (by simp [len_rng]; omega)]
theorem x_sl {xs : List D} {lo hi} : slD (.tup xs) lo hi = some (.tup (cutD xs lo hi)) := rfl
theorem x_sll {xs : List D} {lo hi} : slD (.lst xs) lo hi = some (.lst (cutD xs lo hi)) := rfl
theorem x_row {w h y : Int} {f : Int → Int → Int} (hw : 0 ≤ w) (hy : 0 ≤ y) (hy2 : y < h) : cutD ((tab w h f).map D.int) (some (y * w)) (some ((y + 1) * w)) = (rng w).map fun x => .int (f x y) := by
  have m0 := Int.mul_nonneg hy hw
  have m1 : (y + 1) * w = y * w + w := by rw [Int.add_mul]; omega
  rw [cut_ok m0 (by omega), ← List.map_drop, ← List.map_take, tab_row hw hy hy2, List.map_map]
  rfl
theorem fmap_congr {f g : α → Option β} : ∀ {l : List α}, (∀ a ∈ l, f a = g a) → l.filterMap f = l.filterMap g
  | [], _ => rfl
  | a :: l, h => by
    have ih := fmap_congr (f := f) (g := g) (l := l) fun b hb => h b (List.mem_cons_of_mem _ hb)
    rw [List.filterMap_cons, List.filterMap_cons, h a List.mem_cons_self, ih]
theorem step_rev {xs : List α} : stepD xs none (-1) = xs.reverse := by
  unfold stepD
  have e : sliceBounds none none (some (-1)) xs.length = ((xs.length : Int) - 1, -1, -1) := by
    simp [sliceBounds]
  rw [e]
  have e2 : sliceRange ((xs.length : Int) - 1) (-1) (-1) = (List.range xs.length).map fun k => xs.length - 1 - k := by
    unfold sliceRange
    simp only []
    rw [if_neg (by omega)]
    by_cases h : (xs.length : Int) - 1 > -1
    · rw [if_pos h]
      have : ((xs.length : Int) - 1 - -1 - -1 - 1) / -(-1) = xs.length := by rw [Int.neg_neg, Int.ediv_one]; omega
      rw [this]
      apply List.map_congr_left
      intro k hk
      have := List.mem_range.mp hk
      omega
    · rw [if_neg h]
      have : xs.length = 0 := by omega
      rw [this]; rfl
  rw [e2, List.filterMap_map]
  cases xs with
  | nil => rfl
  | cons a r =>
    have e3 : (List.range (a :: r).length).filterMap ((fun j => (a :: r)[j]?) ∘ fun k => (a :: r).length - 1 - k) = (List.range (a :: r).length).filterMap (some ∘ fun k => (a :: r).getD ((a :: r).length - 1 - k) a) := by
      apply fmap_congr
      intro k hk
      have hk := List.mem_range.mp hk
      show (a :: r)[(a :: r).length - 1 - k]? = some ((a :: r).getD ((a :: r).length - 1 - k) a)
      rw [List.getD_eq_getElem?_getD, List.getElem?_eq_getElem (by omega)]
      rfl
    rw [e3, List.filterMap_eq_map]
    apply List.ext_getElem?
    intro i
    by_cases hi : i < (a :: r).length
    · rw [List.getElem?_map, List.getElem?_range hi, List.getElem?_reverse hi, Option.map_some, List.getD_eq_getElem?_getD, List.getElem?_eq_getElem (by omega)]
      rfl
    · rw [List.getElem?_eq_none (by simp at hi ⊢; omega), List.getElem?_eq_none (by simp at hi ⊢; omega)]
theorem rng_rev {n : Int} {g : Int → α} : ((rng n).map g).reverse = (rng n).map fun i => g (n - 1 - i) := by
  apply List.ext_getElem?
  intro i
  by_cases hi : (i : Int) < n
  · rw [List.getElem?_reverse (by simp [len_rng]; omega), List.getElem?_map, List.getElem?_map, List.length_map, len_rng, rng_get (by omega), rng_get hi]
    simp only [Option.map_some]
    congr 2
    omega
  · rw [List.getElem?_eq_none (by simp [len_rng]; omega), List.getElem?_eq_none (by simp [len_rng]; omega)]
theorem x_st {xs : List D} {lo : Option Int} {c : Int} (h : c ≠ 0) (h2 : (stepD xs lo c).length ≤ 16777216) : stD (.lst xs) lo c = some (.lst (stepD xs lo c)) := if_pos ⟨h, h2⟩
theorem x_strev {n : Int} {g : Int → D} (h : n ≤ 16777216) : stD (.lst ((rng n).map g)) none (-1) = some (.lst ((rng n).map fun i => g (n - 1 - i))) := by
  rw [x_st (by omega) (by rw [step_rev, List.length_reverse, List.length_map, len_rng]; omega), step_rev, rng_rev]
theorem rep_rng {k : Int} {a : α} : List.replicate k.toNat a = (rng k).map fun _ => a := by
  apply List.ext_getElem?
  intro i
  by_cases hi : (i : Int) < k
  · rw [List.getElem?_replicate, if_pos (by omega), List.getElem?_map, rng_get hi]
    rfl
  · rw [List.getElem?_eq_none (by simp; omega), List.getElem?_eq_none (by simp [len_rng]; omega)]
theorem repL_one {k : Int} {d : D} : repL [d] k = (rng k).map fun _ => d := by
  unfold repL
  have : ∀ n : Nat, (List.replicate n [d]).flatten = List.replicate n d := fun n => by
    induction n with
    | zero => rfl
    | succ n ih => rw [List.replicate_succ, List.flatten_cons, ih, List.replicate_succ]; rfl
  rw [this, rep_rng]
theorem repL_all {k : Int} {xs : List D} : repL xs k = (rng k).flatMap fun _ => xs := by
  unfold repL
  rw [rep_rng]
  rw [List.flatMap_def]
/-- ranges side by side -/
theorem rng_app {a b : Int} {g : Int → α} {f : Int → α} (ha : 0 ≤ a) (hb : 0 ≤ b) : (rng a).map g ++ (rng b).map f = (rng (a + b)).map fun i => if i < a then g i else f (i - a) := by
  apply List.ext_getElem?
  intro i
  by_cases h1 : (i : Int) < a
  · rw [List.getElem?_append_left (by simp [len_rng]; omega), List.getElem?_map, rng_get h1, List.getElem?_map, rng_get (by omega)]
    simp only [Option.map_some, h1, if_true]
  · rw [List.getElem?_append_right (by simp [len_rng]; omega)]
    by_cases h2 : (i : Int) < a + b
    · rw [List.getElem?_map, rng_get (by simp [len_rng]; omega), List.getElem?_map, rng_get h2]
      simp only [Option.map_some, h1, if_false, List.length_map, len_rng]
      congr 2
      omega
    · rw [List.getElem?_eq_none (by simp [len_rng]; omega), List.getElem?_eq_none (by simp [len_rng]; omega)]
/-- rows of one length, one behind another -/
theorem flat_rng {h w : Int} {g : Int → Int → α} (hw : 1 ≤ w) (hh : 0 ≤ h) : ((rng h).flatMap fun y => (rng w).map fun x => g x y) = (rng (h * w)).map fun i => g (i % w) (i / w) := by
  obtain ⟨n, rfl⟩ := Int.eq_ofNat_of_zero_le hh
  induction n with
  | zero => simp [rng]
  | succ n ih =>
    have e : ((n + 1 : Nat) : Int) = n + 1 := rfl
    have m := Int.mul_nonneg (show (0 : Int) ≤ n by omega) (show 0 ≤ w by omega)
    have ih := ih (by omega)
    rw [e, rng_succ (by omega), List.flatMap_append, ih]
    simp only [List.flatMap_cons, List.flatMap_nil, List.append_nil]
    rw [rng_app m (by omega), show ((n : Int) + 1) * w = n * w + w by rw [Int.add_mul]; omega]
    apply mapR_ext
    intro i h0 h1
    by_cases hi : i < n * w
    · rw [if_pos hi]
    · rw [if_neg hi]
      have e1 : i = (i - n * w) + n * w := by omega
      have e2 : i % w = i - n * w := by
        conv => lhs; rw [e1]
        rw [Int.add_mul_emod_self_right, Int.emod_eq_of_lt (by omega) (by omega)]
      have e3 : i / w = n := by
        conv => lhs; rw [e1]
        rw [Int.add_mul_ediv_right _ _ (by omega), Int.ediv_eq_zero_of_lt (by omega) (by omega)]
        omega
      rw [e2, e3]
theorem rng_blk {i t : Int} (g : Int → α) (h0 : 0 ≤ i) (ht : 1 ≤ t) : (rng (i * t)).map (fun x => g (x / t)) ++ (rng t).map (fun _ => g i) = (rng ((i + 1) * t)).map fun x => g (x / t) := by
  have b0 := Int.mul_nonneg h0 (show 0 ≤ t by omega)
  rw [rng_app b0 (by omega), show (i + 1) * t = i * t + t by rw [Int.add_mul]; omega]
  apply mapR_ext
  intro x x0 x1
  by_cases q : x < i * t
  · rw [if_pos q]
  · rw [if_neg q]
    rw [show x / t = i from (Int.ediv_eq_iff_of_pos (by omega)).mpr ⟨by omega, by omega⟩]
theorem sumD_ints : ∀ {xs : List Int} {a : Int}, sumD (xs.map .int) a = some (a + xs.sum)
  | [], a => by simp [sumD]
  | x :: xs, a => by
    rw [List.map_cons, sumD, sumD_ints, List.sum_cons, Int.add_assoc]
theorem x_sumR {xs : List α} {g : α → Int} {a : Int} : sumD (xs.map fun i => .int (g i)) a = some (a + (xs.map g).sum) := by
  rw [← sumD_ints, List.map_map]; rfl
theorem x_sumt {xs : List D} : biD "sum" [.tup xs] = (sumD xs 0).map .int := rfl
theorem x_suml {xs : List D} : biD "sum" [.lst xs] = (sumD xs 0).map .int := rfl
theorem sum_bd {b : Int} {g : Int → Int} : ∀ {xs : List Int}, (∀ x ∈ xs, 0 ≤ g x ∧ g x ≤ b) → 0 ≤ (xs.map g).sum ∧ (xs.map g).sum ≤ xs.length * b
  | [], _ => by simp
  | x :: xs, h => by
    have h1 := h x List.mem_cons_self
    have ih := sum_bd (b := b) (g := g) fun y hy => h y (List.mem_cons_of_mem x hy)
    rw [List.map_cons, List.sum_cons, List.length_cons]
    have e : ((xs.length + 1 : Nat) : Int) * b = xs.length * b + b := by rw [Int.natCast_add, Int.add_mul]; simp
    omega
theorem sumR_bd {n b : Int} {g : Int → Int} (hn : 0 ≤ n) (h : ∀ x, 0 ≤ x → x < n → 0 ≤ g x ∧ g x ≤ b) : 0 ≤ ((rng n).map g).sum ∧ ((rng n).map g).sum ≤ n * b := by
  have := sum_bd (b := b) (g := g) (xs := rng n) fun x hx => h x (mem_rng.mp hx).1 (mem_rng.mp hx).2
  rw [len_rng, Int.toNat_of_nonneg hn] at this
  exact this
theorem blk_le {i t h : Int} (ht : 0 < t) (hi : i < h / t) : i * t + t ≤ h := by
  have := (Int.le_ediv_iff_mul_le ht).mp (show i + 1 ≤ h / t by omega)
  rw [Int.add_mul] at this
  omega
/-! things known one by one -/
theorem lcL_cons {tg : T} {x : D} {xs : List D} {tt : En → M Bool} {te : En → M D} : lcM tg tt te ρ (x :: xs) dc = bnd (lft (tg x ρ) dc) fun ρ1 dc => bnd (tt ρ1 dc) fun b dc => if b then bnd (te ρ1 dc) fun y dc => bnd (lcM tg tt te ρ xs dc) fun ys dc => .ok (y :: ys) dc else lcM tg tt te ρ xs dc := by
  show (lift (tg x ρ) >>= fun ρ' => tt ρ' >>= fun b => if b then _ else _) dc = _
  simp only [e_bind0, bnd_0, e_lift, ite_ap, e_pure]
theorem lcL_nil {tg : T} {tt : En → M Bool} {te : En → M D} : lcM tg tt te ρ [] dc = .ok [] dc := rfl
theorem anyL_cons {tg : T} {x : D} {xs : List D} {tt : En → M Bool} {te : En → M D} : anyM tg tt te ρ (x :: xs) dc = bnd (lft (tg x ρ) dc) fun ρ1 dc => bnd (tt ρ1 dc) fun b dc => if b then bnd (te ρ1 dc) fun y dc => bnd (lft (asB y) dc) fun c dc => if c then .ok true dc else anyM tg tt te ρ xs dc else anyM tg tt te ρ xs dc := by
  show (lift (tg x ρ) >>= fun ρ' => tt ρ' >>= fun b => if b then _ else _) dc = _
  simp only [e_bind0, bnd_0, e_lift, ite_ap, e_pure]
theorem anyL_nil {tg : T} {tt : En → M Bool} {te : En → M D} : anyM tg tt te ρ [] dc = .ok false dc := rfl
theorem allL_cons {tg : T} {x : D} {xs : List D} {tt : En → M Bool} {te : En → M D} : allM tg tt te ρ (x :: xs) dc = bnd (lft (tg x ρ) dc) fun ρ1 dc => bnd (tt ρ1 dc) fun b dc => if b then bnd (te ρ1 dc) fun y dc => bnd (lft (asB y) dc) fun c dc => if c then allM tg tt te ρ xs dc else .ok false dc else allM tg tt te ρ xs dc := by
  show (lift (tg x ρ) >>= fun ρ' => tt ρ' >>= fun b => if b then _ else _) dc = _
  simp only [e_bind0, bnd_0, e_lift, ite_ap, e_pure]
theorem allL_nil {tg : T} {tt : En → M Bool} {te : En → M D} : allM tg tt te ρ [] dc = .ok true dc := rfl
def forO (k : S) : Fl → Dc → Out Fl
  | .nx ρ, dc => k ρ dc
  | .ct ρ, dc => k ρ dc
  | .bk ρ, dc => .ok (.nx ρ) dc
  | .rt d ρ, dc => .ok (.rt d ρ) dc
theorem forO_nx {k : S} : forO k (.nx ρ) dc = k ρ dc := rfl
theorem forO_ct {k : S} : forO k (.ct ρ) dc = k ρ dc := rfl
theorem forO_bk {k : S} : forO k (.bk ρ) dc = .ok (.nx ρ) dc := rfl
theorem forO_rt {k : S} {d} : forO k (.rt d ρ) dc = .ok (.rt d ρ) dc := rfl
theorem forL_cons {tg : T} {body : S} {x : D} {xs : List D} : forM' tg body (x :: xs) ρ dc = bnd (lft (tg x ρ) dc) fun ρ1 dc => bnd (body ρ1 dc) fun f dc => forO (forM' tg body xs) f dc := by
  show (lift (tg x ρ) >>= fun ρ' => body ρ' >>= fun f => _) dc = _
  simp only [e_bind0, bnd_0, e_lift]
  refine bnd0_ext fun a d => bnd0_ext fun f d => ?_
  cases f <;> rfl
theorem forL_nil {tg : T} {body : S} : forM' tg body [] ρ dc = .ok (.nx ρ) dc := rfl
theorem at_0 {a : α} {xs : List α} : atD (a :: xs) 0 = some a := atD_ok (by omega) rfl
theorem at_1 {a b : α} {xs : List α} : atD (a :: b :: xs) 1 = some b := atD_ok (by omega) rfl
theorem at_2 {a b c : α} {xs : List α} : atD (a :: b :: c :: xs) 2 = some c := atD_ok (by omega) rfl
theorem at_3 {a b c d : α} {xs : List α} : atD (a :: b :: c :: d :: xs) 3 = some d := atD_ok (by omega) rfl
theorem at_4 {a b c d e : α} {xs : List α} : atD (a :: b :: c :: d :: e :: xs) 4 = some e := atD_ok (by omega) rfl
theorem lc2L_cons {tg tg1 : T} {x : D} {xs : List D} {tt tt1 : En → M Bool} {ti : En → M (List D)} {te : En → M D} {vs : List Nat} : lc2M tg tt ti vs tg1 tt1 te ρ (x :: xs) dc = bnd (lft (tg x ρ) dc) fun ρ1 dc => bnd (tt ρ1 dc) fun b dc => if b then bnd (ti ρ1 dc) fun its dc => bnd (lcM tg1 tt1 te (wipeE ρ1 vs) its dc) fun ys dc => bnd (lc2M tg tt ti vs tg1 tt1 te ρ xs dc) fun zs dc => .ok (ys ++ zs) dc else lc2M tg tt ti vs tg1 tt1 te ρ xs dc := by
  show (lift (tg x ρ) >>= fun ρ' => tt ρ' >>= fun b => if b then _ else _) dc = _
  simp only [e_bind0, bnd_0, e_lift, ite_ap, e_pure]
theorem lc2L_nil {tg tg1 : T} {tt tt1 : En → M Bool} {ti : En → M (List D)} {te : En → M D} {vs : List Nat} : lc2M tg tt ti vs tg1 tt1 te ρ [] dc = .ok [] dc := rfl
/-- something, a row, something -/
theorem row3 {a w b : Int} {u v : Int → α} {g : Int → α} (ha : 0 ≤ a) (hw : 0 ≤ w) (hb : 0 ≤ b) : (rng a).map u ++ (rng w).map g ++ (rng b).map v = (rng (a + w + b)).map fun i => if i < a then u i else if i - a < w then g (i - a) else v (i - a - w) := by
  rw [rng_app ha hw, rng_app (by omega) hb]
  apply mapR_ext
  intro i i0 i1
  by_cases h1 : i < a
  · rw [if_pos (by omega), if_pos h1, if_pos h1]
  · by_cases h2 : i - a < w
    · rw [if_pos (by omega), if_neg h1, if_neg h1, if_pos h2]
    · rw [if_neg (by omega), if_neg h1, if_neg h2]
      congr 1
      omega
theorem sum_nil {a : Int} : sumD [] a = some a := rfl
theorem sum_cons {a i : Int} {r : List D} : sumD (.int i :: r) a = sumD r (a + i) := rfl
theorem c_eq_nil {x : D} {xs : List D} (h : (x :: xs).all (eqOk 8) = true) : cmpG Γ .Eq (.lst (x :: xs)) (.lst []) = some false := by
  show eqD _ _ = _
  have h9 : eqOk 9 (.lst (x :: xs)) = true := by simpa [eqOk] using h
  rw [eqD_ok (n := 9) (by omega) h9 (by simp [eqOk])]
  simp
theorem c_ne_nil {x : D} {xs : List D} (h : (x :: xs).all (eqOk 8) = true) : cmpG Γ .NotEq (.lst (x :: xs)) (.lst []) = some true := by
  have := c_eq_nil (Γ := Γ) h
  show (eqD _ _).map (fun b => !b) = _
  rw [show eqD (.lst (x :: xs)) (.lst []) = some false from this]
  rfl
/-! comprehensions: items not told exactly; some left out -/
theorem lc_ex {tg : T} {tt : B} {te : X} {emb : α → D} (R : D → Prop) : ∀ {xs : List α} {dc : Dc}, (∀ x ∈ xs, ∀ dc, ∃ ρ1, tg (emb x) ρ = some ρ1 ∧ noE (tt ρ1) dc = .ok true dc ∧ Ok (noE (te ρ1) dc) fun y _ => R y) →
    Ok (lcM tg (fun ρ => noE (tt ρ)) (fun ρ => noE (te ρ)) ρ (xs.map emb) dc) fun ys _ => ys.length = xs.length ∧ ∀ y ∈ ys, R y
  | [], dc, _ => ⟨[], dc, rfl, rfl, fun y hy => by cases hy⟩
  | x :: xs, dc, h => by
    obtain ⟨ρ1, e1, e2, y, d, e3, r⟩ := h x List.mem_cons_self dc
    obtain ⟨ys, d', e4, l, rs⟩ := lc_ex (tg := tg) (tt := tt) (te := te) (emb := emb) R (xs := xs) (dc := d) fun z hz => h z (List.mem_cons_of_mem _ hz)
    refine ⟨y :: ys, d', ?_, by simp [l], fun z hz => ?_⟩
    · rw [List.map_cons, lcL_cons, e1, lft_some, bnd_ok, e2, bnd_ok, if_pos rfl, e3, bnd_ok, e4, bnd_ok]
    · rcases List.mem_cons.mp hz with rfl | hz
      · exact r
      · exact rs z hz
theorem ok_lcE {tg : T} {tt : B} {te : X} {emb : α → D} {xs : List α} {k : List D → Dc → Out β} {Q : β → Dc → Prop} (R : D → Prop)
    (h : ∀ x ∈ xs, ∀ dc, ∃ ρ1, tg (emb x) ρ = some ρ1 ∧ noE (tt ρ1) dc = .ok true dc ∧ Ok (noE (te ρ1) dc) fun y _ => R y) (hk : ∀ ys d, ys.length = xs.length → (∀ y ∈ ys, R y) → Ok (k ys d) Q) :
    Ok (bnd (lcM tg (fun ρ => noE (tt ρ)) (fun ρ => noE (te ρ)) ρ (xs.map emb) dc) k) Q := ok_bnd (lc_ex R h) fun ys d ⟨l, r⟩ => hk ys d l r
theorem lc_if {tg : T} {tt : B} {te : X} {emb : α → D} {f : α → D} {p : α → Bool} : ∀ {xs : List α}, (∀ x ∈ xs, ∃ ρ1, tg (emb x) ρ = some ρ1 ∧ noE (tt ρ1) dc = .ok (p x) dc ∧ (p x = true → noE (te ρ1) dc = .ok (f x) dc)) →
    lcM tg (fun ρ => noE (tt ρ)) (fun ρ => noE (te ρ)) ρ (xs.map emb) dc = .ok ((xs.filter p).map f) dc
  | [], _ => rfl
  | x :: xs, h => by
    obtain ⟨ρ1, e1, e2, e3⟩ := h x List.mem_cons_self
    have ih := lc_if (tg := tg) (tt := tt) (te := te) (emb := emb) (f := f) (p := p) (xs := xs) fun y hy => h y (List.mem_cons_of_mem _ hy)
    rw [List.map_cons, lcL_cons, e1, lft_some, bnd_ok, e2, bnd_ok]
    cases hp : p x with
    | true => rw [if_pos rfl, e3 hp, bnd_ok, ih, bnd_ok, List.filter_cons_of_pos hp, List.map_cons]
    | false => rw [if_neg (by simp), ih, List.filter_cons_of_neg (by simp [hp])]
theorem ok_lcIf {tg : T} {tt : B} {te : X} {emb : α → D} {xs : List α} {k : List D → Dc → Out β} {Q : β → Dc → Prop} (p : α → Bool) (f : α → D)
    (h : ∀ x ∈ xs, ∃ ρ1, tg (emb x) ρ = some ρ1 ∧ noE (tt ρ1) dc = .ok (p x) dc ∧ (p x = true → noE (te ρ1) dc = .ok (f x) dc)) (hk : Ok (k ((xs.filter p).map f) dc) Q) :
    Ok (bnd (lcM tg (fun ρ => noE (tt ρ)) (fun ρ => noE (te ρ)) ρ (xs.map emb) dc) k) Q := by rw [lc_if h]; exact hk
/-! all spots -/
def grid (w h : Int) : List (Int × Int) := (rng h).flatMap fun y => (rng w).map fun x => (x, y)
theorem mem_grid {w h : Int} {p : Int × Int} : p ∈ grid w h ↔ 0 ≤ p.1 ∧ p.1 < w ∧ 0 ≤ p.2 ∧ p.2 < h := by
  unfold grid
  simp only [List.mem_flatMap, List.mem_map, mem_rng]
  constructor
  · rintro ⟨y, ⟨a, b⟩, x, ⟨c, d⟩, rfl⟩; exact ⟨c, d, a, b⟩
  · rintro ⟨c, d, a, b⟩; exact ⟨p.2, ⟨a, b⟩, p.1, ⟨c, d⟩, rfl⟩
theorem grid_0 {w : Int} : grid w 0 = [] := rfl
theorem grid_succ {w h : Int} (hh : 0 ≤ h) : grid w (h + 1) = grid w h ++ (rng w).map fun x => (x, h) := by
  unfold grid
  rw [rng_succ hh, List.flatMap_append]
  simp
theorem grid_tab {w h : Int} {f : Int → Int → Int} : (grid w h).map (fun p => D.int (f p.1 p.2)) = (tab w h f).map D.int := by
  unfold grid tab
  rw [List.map_flatMap, List.map_flatMap]
  congr 1
  funext y
  rw [List.map_map, List.map_map]
  rfl
theorem grid_map {w h : Int} {f : Int → Int → α} : (grid w h).map (fun p => f p.1 p.2) = (rng h).flatMap fun y => (rng w).map fun x => f x y := by
  unfold grid
  rw [List.map_flatMap]
  congr 1
  funext y
  rw [List.map_map]
  rfl
theorem grid_le {w h : Int} (hw : w ≤ 64) (hh : h ≤ 64) : (grid w h).length ≤ 4096 := by
  have := tab_le (f := fun _ _ => 0) hw hh
  have e := congrArg List.length (grid_tab (w := w) (h := h) (f := fun _ _ => 0))
  rw [List.length_map, List.length_map] at e
  omega
abbrev spD (p : Int × Int) : D := .tup [.int p.1, .int p.2]
theorem ok_lcG {tg : T} {tt : B} {te : X} {w h : Int} {k : List D → Dc → Out β} {Q : β → Dc → Prop} (f : Int → Int → Int)
    (hs : ∀ x y, 0 ≤ x → x < w → 0 ≤ y → y < h → ∃ ρ1, tg (.tup [.int x, .int y]) ρ = some ρ1 ∧ noE (tt ρ1) dc = .ok true dc ∧ noE (te ρ1) dc = .ok (.int (f x y)) dc) (hk : Ok (k ((tab w h f).map D.int) dc) Q) :
    Ok (bnd (lcM tg (fun ρ => noE (tt ρ)) (fun ρ => noE (te ρ)) ρ ((grid w h).map spD) dc) k) Q := by
  refine ok_lc (fun p => D.int (f p.1 p.2)) (fun p hp => ?_) (by rw [grid_tab]; exact hk)
  obtain ⟨a, b, c, d⟩ := mem_grid.mp hp
  exact hs p.1 p.2 a b c d
/-- a row of numbers of D -/
theorem ints_of {P : Int → Prop} : ∀ {ys : List D}, (∀ y ∈ ys, ∃ v, y = .int v ∧ P v) → ∃ vs : List Int, ys = vs.map .int ∧ ∀ v ∈ vs, P v
  | [], _ => ⟨[], rfl, fun v hv => by cases hv⟩
  | y :: ys, h => by
    obtain ⟨v, rfl, p⟩ := h y List.mem_cons_self
    obtain ⟨vs, rfl, q⟩ := ints_of (P := P) fun z hz => h z (List.mem_cons_of_mem _ hz)
    exact ⟨v :: vs, rfl, fun u hu => by
      rcases List.mem_cons.mp hu with rfl | hu
      · exact p
      · exact q u hu⟩
/-- a filled list is a table -/
theorem tab_of_len {vs : List Int} {w h : Int} (hw : 1 ≤ w) (hh : 0 ≤ h) (hl : vs.length = (w * h).toNat) {P : Int → Prop} (hp : ∀ v ∈ vs, P v) : ∃ f, vs = tab w h f ∧ ∀ x y, 0 ≤ x → x < w → 0 ≤ y → y < h → P (f x y) := by
  have e := tab_of hw hh hl
  have key : ∀ v, v ∈ tab w h (fun x y => vs.getD (y * w + x).toNat 0) → P v := fun v hv => hp v (by rw [e]; exact hv)
  exact ⟨_, e, fun x y a b c d => key _ (mem_tab.mpr ⟨x, y, a, b, c, d, rfl⟩)⟩
theorem x_mkTab {w h : Int} {f} (hw : w ≤ 64) (hh : h ≤ 64) : mkL ((tab w h f).map D.int) = some (.lst ((tab w h f).map D.int)) := x_mkL (by have := tab_le (f := f) hw hh; rw [List.length_map]; omega)
theorem x_mkGrid {w h : Int} {g : Int × Int → D} (hw : w ≤ 64) (hh : h ≤ 64) : mkL ((grid w h).map g) = some (.lst ((grid w h).map g)) := x_mkL (by have := grid_le hw hh; rw [List.length_map]; omega)
theorem tab_app {w a b : Int} {f g : Int → Int → Int} (ha : 0 ≤ a) (hb : 0 ≤ b) : tab w a f ++ tab w b g = tab w (a + b) fun x y => if y < a then f x y else g x (y - a) := by
  have key : ∀ n : Nat, tab w a f ++ tab w n g = tab w (a + n) fun x y => if y < a then f x y else g x (y - a) := fun n => by
    induction n with
    | zero =>
      have : a + ((0 : Nat) : Int) = a := by simp
      rw [this, show tab w ((0 : Nat) : Int) g = [] from rfl, List.append_nil]
      exact tab_ext fun x y _ _ _ h => by rw [if_pos h]
    | succ n ih =>
      have e : ((n + 1 : Nat) : Int) = n + 1 := rfl
      rw [e, tab_succ (by omega), ← List.append_assoc, ih, ← Int.add_assoc, tab_succ (by omega)]
      congr 1
      exact mapR_ext fun x _ _ => by rw [if_neg (by omega)]; congr 1; omega
  obtain ⟨n, rfl⟩ := Int.eq_ofNat_of_zero_le hb
  exact key n
theorem roll_back {x a w : Int} (x0 : 0 ≤ x) (x1 : x < w) : ((x - -a) % w - a) % w = x := by
  have e := Int.mul_ediv_add_emod (x - -a) w
  have : (x - -a) % w - a = x + w * (-((x - -a) / w)) := by rw [Int.mul_neg]; omega
  rw [this, Int.add_mul_emod_self_left, Int.emod_eq_of_lt x0 x1]
end Sh
/-! shallow forms of the defs of k06, printed by PRT -/
namespace Sh
open PySem Px
def s_Picture_init (Γ : Gm) : S := (sq (asS 4 [(3, false)] false (bi ("tuple" : Str) [(rdB 3)])) (sq (ifS [(4, false)] (boB .Or [(ntB (c2B Γ .LtE .LtE (cst (.int (1))) (rdB 1) (cst (.int (64))))), (ntB (c2B Γ .LtE .LtE (cst (.int (1))) (rdB 2) (cst (.int (64))))), (c1B Γ .NotEq (bi ("len" : Str) [(rdB 4)]) (bin .Mult (rdB 1) (rdB 2)))]) (sq (raS ("PictureError" : Str)) nxS) nxS) (sq (ifS [(4, false), (4, false)] (tru (genX ("any" : Str) (itI (rdL 4)) (nmT 5) ttB (ntX (cm2 Γ .LtE .LtE (cst (.int (0))) (rdB 5) (cst (.int (255))))) [5])) (sq (raS ("PictureError" : Str)) nxS) nxS) (sq (flS Γ [(1, true)] 0 ("wide" : Str) (rdV 1)) (sq (flS Γ [(2, true)] 0 ("high" : Str) (rdV 2)) (sq (flS Γ [(4, true)] 0 ("numbers" : Str) (rdV 4)) nxS))))))
def s_Picture_at (Γ : Gm) : S := (sq (ifS [(1, true), (2, true)] (ntB (tru (meth Γ ("holds" : Str) (rdR 0) [(rdV 1), (rdV 2)] [(rdB 1), (rdB 2)]))) (sq (raS ("PictureError" : Str)) nxS) nxS) (sq (reS [] (sub (attr Γ ("numbers" : Str) (rdB 0)) (bin .Add (bin .Mult (rdB 2) (attr Γ ("wide" : Str) (rdB 0))) (rdB 1)))) nxS))
def s_Picture_holds (Γ : Gm) : S := (sq (reS [] (boX .And [(cm2 Γ .LtE .Lt (cst (.int (0))) (rdB 1) (attr Γ ("wide" : Str) (rdB 0))), (cm2 Γ .LtE .Lt (cst (.int (0))) (rdB 2) (attr Γ ("high" : Str) (rdB 0)))])) nxS)
def s_Picture_near (Γ : Gm) : S := (sq (reS [(1, false), (1, false), (2, false), (2, false)] (meth Γ ("at" : Str) (rdR 0) [(bi ("min" : Str) [(bin .Sub (attr Γ ("wide" : Str) (rdB 0)) (cst (.int (1)))), (bi ("max" : Str) [(cst (.int (0))), (rdB 1)])]), (bi ("min" : Str) [(bin .Sub (attr Γ ("high" : Str) (rdB 0)) (cst (.int (1)))), (bi ("max" : Str) [(cst (.int (0))), (rdB 2)])])] [(bi ("min" : Str) [(bin .Sub (attr Γ ("wide" : Str) (rdB 0)) (cst (.int (1)))), (bi ("max" : Str) [(cst (.int (0))), (rdB 1)])]), (bi ("min" : Str) [(bin .Sub (attr Γ ("high" : Str) (rdB 0)) (cst (.int (1)))), (bi ("max" : Str) [(cst (.int (0))), (rdB 2)])])])) nxS)
def s_Picture_row (Γ : Gm) : S := (sq (ifS [] (ntB (c2B Γ .LtE .Lt (cst (.int (0))) (rdB 1) (attr Γ ("high" : Str) (rdB 0)))) (sq (raS ("PictureError" : Str)) nxS) nxS) (sq (reS [] (slc (attr Γ ("numbers" : Str) (rdB 0)) (oS (bin .Mult (rdB 1) (attr Γ ("wide" : Str) (rdB 0)))) (oS (bin .Mult (bin .Add (rdB 1) (cst (.int (1)))) (attr Γ ("wide" : Str) (rdB 0)))))) nxS))
def s_Picture_part (Γ : Gm) (F_Picture : Fn) : S := (sq (ifS [(1, true), (2, true)] (boB .Or [(c1B Γ .Lt (rdB 3) (cst (.int (1)))), (c1B Γ .Lt (rdB 4) (cst (.int (1)))), (ntB (tru (meth Γ ("holds" : Str) (rdR 0) [(rdV 1), (rdV 2)] [(rdB 1), (rdB 2)]))), (ntB (tru (meth Γ ("holds" : Str) (rdR 0) [(bin .Sub (bin .Add (rdB 1) (rdB 3)) (cst (.int (1)))), (bin .Sub (bin .Add (rdB 2) (rdB 4)) (cst (.int (1))))] [(bin .Sub (bin .Add (rdB 1) (rdB 3)) (cst (.int (1)))), (bin .Sub (bin .Add (rdB 2) (rdB 4)) (cst (.int (1))))])))]) (sq (raS ("PictureError" : Str)) nxS) nxS) (sq (asS 5 [] true (lstX [])) (sq (foS [(2, false), (2, false)] (rg2 (rdB 2) (bin .Add (rdB 2) (rdB 4))) (nmT 6) (sq (auS [(6, true), (6, true)] 5 .Add (bi ("list" : Str) [(slc (meth Γ ("row" : Str) (rdR 0) [(rdV 6)] [(rdB 6)]) (oS (rdB 1)) (oS (bin .Add (rdB 1) (rdB 3))))])) nxS)) (sq (reS [(3, true), (3, false), (4, true), (4, false), (5, true), (5, false)] (cal F_Picture [(rdV 3), (rdV 4), (rdV 5)])) nxS))))
def s_Picture_is_same (Γ : Gm) : S := (sq (reS [] (cm1 Γ .Eq (tupX [(attr Γ ("wide" : Str) (rdB 0)), (attr Γ ("high" : Str) (rdB 0)), (attr Γ ("numbers" : Str) (rdB 0))]) (tupX [(attr Γ ("wide" : Str) (rdB 1)), (attr Γ ("high" : Str) (rdB 1)), (attr Γ ("numbers" : Str) (rdB 1))]))) nxS)
def s_plain (Γ : Gm) (F_Picture : Fn) : S := (sq (reS [(0, true), (0, false), (1, true), (1, false), (2, true), (0, false), (1, false), (2, true), (0, false), (1, false)] (cal F_Picture [(rdV 0), (rdV 1), (bin .Mult (lstX [(rdV 2)]) (bin .Mult (bi ("max" : Str) [(cst (.int (0))), (rdB 0)]) (bi ("max" : Str) [(cst (.int (0))), (rdB 1)])))])) nxS)
def s_from_rows (Γ : Gm) (F_Picture : Fn) : S := (sq (ifS [(0, false), (1, false), (0, false), (1, false), (0, false)] (boB .Or [(c1B Γ .Eq (bi ("len" : Str) [(rdB 0)]) (cst (.int (0)))), (tru (genX ("any" : Str) (itI (rdL 0)) (nmT 1) ttB (cm1 Γ .NotEq (bi ("len" : Str) [(rdB 1)]) (bi ("len" : Str) [(sub (rdB 0) (cst (.int (0))))])) [1]))]) (sq (raS ("PictureError" : Str)) nxS) nxS) (sq (asS 2 [] true (lstX [])) (sq (foS [(0, true), (0, false)] (itI (rdV 0)) (nmT 1) (sq (auS [(1, false)] 2 .Add (bi ("list" : Str) [(rdB 1)])) nxS)) (sq (reS [(0, false), (0, false), (2, true), (2, false)] (cal F_Picture [(bi ("len" : Str) [(sub (rdB 0) (cst (.int (0))))]), (bi ("len" : Str) [(rdB 0)]), (rdV 2)])) nxS))))
def s_quarter (Γ : Gm) (F_from_rows : Fn) : S := (sq (asS 2 [] true (lcX (rg1 (attr Γ ("high" : Str) (rdB 0))) (nmT 3) ttB (bi ("list" : Str) [(meth Γ ("row" : Str) (rdR 0) [(rdV 3)] [(rdB 3)])]) [3])) (sq (foS [] (rg1 (bin .Mod (rdB 1) (cst (.int (4))))) (nmT 4) (sq (asS 2 [] true (lcX (rg1 (bi ("len" : Str) [(sub (rdB 2) (cst (.int (0))))])) (nmT 6) ttB (lcX (itI (stp (rdB 2) oN (oS (neg (cst (.int (1))))))) (nmT 5) ttB (sub (rdB 5) (rdB 6)) [5]) [6])) nxS)) (sq (reS [(2, true), (2, false)] (cal F_from_rows [(rdV 2)])) nxS)))
def s_over (Γ : Gm) (F_from_rows : Fn) : S := (sq (asS 2 [] true (lcX (rg1 (attr Γ ("high" : Str) (rdB 0))) (nmT 3) ttB (bi ("list" : Str) [(meth Γ ("row" : Str) (rdR 0) [(rdV 3)] [(rdB 3)])]) [3])) (sq (reS [(2, false), (2, false)] (cal F_from_rows [(cd (tru (rdB 1)) (lcX (itI (rdL 2)) (nmT 4) ttB (stp (rdB 4) oN (oS (neg (cst (.int (1)))))) [4]) (stp (rdB 2) oN (oS (neg (cst (.int (1)))))))])) nxS))
def s_larger (Γ : Gm) (F_from_rows : Fn) : S := (sq (ifS [] (boB .Or [(ntB (c2B Γ .LtE .LtE (cst (.int (1))) (rdB 1) (cst (.int (8))))), (c1B Γ .Gt (bin .Mult (bi ("max" : Str) [(attr Γ ("wide" : Str) (rdB 0)), (attr Γ ("high" : Str) (rdB 0))]) (rdB 1)) (cst (.int (64))))]) (sq (raS ("TurnError" : Str)) nxS) nxS) (sq (asS 2 [] true (lstX [])) (sq (foS [] (rg1 (attr Γ ("high" : Str) (rdB 0))) (nmT 3) (sq (asS 4 [] true (lstX [])) (sq (foS [(3, true), (3, true)] (itI (meth Γ ("row" : Str) (rdR 0) [(rdV 3)] [(rdB 3)])) (nmT 5) (sq (auS [(5, true)] 4 .Add (bin .Mult (lstX [(rdV 5)]) (rdB 1))) nxS)) (sq (auS [(4, true)] 2 .Add (bin .Mult (lstX [(rdV 4)]) (rdB 1))) nxS)))) (sq (reS [(2, true), (2, false)] (cal F_from_rows [(rdV 2)])) nxS))))
def s_smaller (Γ : Gm) (F_from_rows : Fn) : S := (sq (ifS [] (boB .Or [(c1B Γ .Lt (rdB 1) (cst (.int (1)))), (c1B Γ .Gt (rdB 1) (bi ("min" : Str) [(attr Γ ("wide" : Str) (rdB 0)), (attr Γ ("high" : Str) (rdB 0))]))]) (sq (raS ("TurnError" : Str)) nxS) nxS) (sq (asS 2 [] true (lstX [])) (sq (foS [] (rg1 (bin .FloorDiv (attr Γ ("high" : Str) (rdB 0)) (rdB 1))) (nmT 3) (sq (asS 4 [] true (lstX [])) (sq (foS [] (rg1 (bin .FloorDiv (attr Γ ("wide" : Str) (rdB 0)) (rdB 1))) (nmT 5) (sq (asS 6 [(1, false), (1, false)] false (genX ("sum" : Str) (rg1 (rdB 1)) (nmT 7) ttB (bi ("sum" : Str) [(slc (meth Γ ("row" : Str) (rdR 0) [(bin .Add (bin .Mult (rdB 3) (rdB 1)) (rdB 7))] [(bin .Add (bin .Mult (rdB 3) (rdB 1)) (rdB 7))]) (oS (bin .Mult (rdB 5) (rdB 1))) (oS (bin .Mult (bin .Add (rdB 5) (cst (.int (1)))) (rdB 1))))]) [7])) (sq (apS 4 [] (bin .FloorDiv (rdB 6) (bin .Mult (rdB 1) (rdB 1))) [] (meth Γ ("append" : Str) (rdR 4) [(bin .FloorDiv (rdB 6) (bin .Mult (rdB 1) (rdB 1)))] [(bin .FloorDiv (rdB 6) (bin .Mult (rdB 1) (rdB 1)))])) nxS))) (sq (apS 2 [(4, true)] (rdV 4) [(4, true)] (meth Γ ("append" : Str) (rdR 2) [(rdV 4)] [(rdB 4)])) nxS)))) (sq (reS [(2, true), (2, false)] (cal F_from_rows [(rdV 2)])) nxS))))
def s_stretched (Γ : Gm) (F_between : Fn) (F_Picture : Fn) : S := (sq (ifS [] (boB .Or [(ntB (c2B Γ .LtE .LtE (cst (.int (1))) (rdB 1) (cst (.int (64))))), (ntB (c2B Γ .LtE .LtE (cst (.int (1))) (rdB 2) (cst (.int (64)))))]) (sq (raS ("TurnError" : Str)) nxS) nxS) (sq (asS 3 [] true (lstX [])) (sq (foS [(2, false), (2, false)] (rg1 (rdB 2)) (nmT 4) (sq (foS [(1, false), (1, false)] (rg1 (rdB 1)) (nmT 5) (sq (paS [] [(6, true), (7, true)] [(bin .Sub (bin .Mult (bin .Add (bin .Mult (cst (.int (2))) (rdB 5)) (cst (.int (1)))) (attr Γ ("wide" : Str) (rdB 0))) (rdB 1)), (bin .Sub (bin .Mult (bin .Add (bin .Mult (cst (.int (2))) (rdB 4)) (cst (.int (1)))) (attr Γ ("high" : Str) (rdB 0))) (rdB 2))]) (sq (apS 3 [(0, true), (0, false), (6, true), (6, false), (7, true), (7, false)] (cal F_between [(rdV 0), (rdV 6), (bin .Mult (cst (.int (2))) (rdB 1)), (rdV 7), (bin .Mult (cst (.int (2))) (rdB 2))]) [(0, true), (0, false), (6, true), (6, false), (7, true), (7, false)] (meth Γ ("append" : Str) (rdR 3) [(cal F_between [(rdV 0), (rdV 6), (bin .Mult (cst (.int (2))) (rdB 1)), (rdV 7), (bin .Mult (cst (.int (2))) (rdB 2))])] [(cal F_between [(rdV 0), (rdV 6), (bin .Mult (cst (.int (2))) (rdB 1)), (rdV 7), (bin .Mult (cst (.int (2))) (rdB 2))])])) nxS))) nxS)) (sq (reS [(1, true), (1, false), (2, true), (2, false), (3, true), (3, false)] (cal F_Picture [(rdV 1), (rdV 2), (rdV 3)])) nxS))))
def s_between (Γ : Gm) : S := (sq (paS [] [(5, true), (6, true)] [(bin .FloorDiv (rdB 1) (rdB 2)), (bin .FloorDiv (rdB 3) (rdB 4))]) (sq (paS [] [(7, true), (8, true)] [(bin .Sub (rdB 1) (bin .Mult (rdB 5) (rdB 2))), (bin .Sub (rdB 3) (bin .Mult (rdB 6) (rdB 4)))]) (sq (asS 9 [(5, true), (6, true), (6, true)] true (bin .Add (bin .Mult (bin .Mult (bin .Sub (rdB 2) (rdB 7)) (bin .Sub (rdB 4) (rdB 8))) (meth Γ ("near" : Str) (rdR 0) [(rdV 5), (rdV 6)] [(rdB 5), (rdB 6)])) (bin .Mult (bin .Mult (rdB 7) (bin .Sub (rdB 4) (rdB 8))) (meth Γ ("near" : Str) (rdR 0) [(bin .Add (rdB 5) (cst (.int (1)))), (rdV 6)] [(bin .Add (rdB 5) (cst (.int (1)))), (rdB 6)])))) (sq (auS [(5, true)] 9 .Add (bin .Add (bin .Mult (bin .Mult (bin .Sub (rdB 2) (rdB 7)) (rdB 8)) (meth Γ ("near" : Str) (rdR 0) [(rdV 5), (bin .Add (rdB 6) (cst (.int (1))))] [(rdB 5), (bin .Add (rdB 6) (cst (.int (1))))])) (bin .Mult (bin .Mult (rdB 7) (rdB 8)) (meth Γ ("near" : Str) (rdR 0) [(bin .Add (rdB 5) (cst (.int (1)))), (bin .Add (rdB 6) (cst (.int (1))))] [(bin .Add (rdB 5) (cst (.int (1)))), (bin .Add (rdB 6) (cst (.int (1))))])))) (sq (reS [] (bin .FloorDiv (bin .Add (bin .Mult (cst (.int (2))) (rdB 9)) (bin .Mult (rdB 2) (rdB 4))) (bin .Mult (bin .Mult (cst (.int (2))) (rdB 2)) (rdB 4)))) nxS)))))
def s_sheared (Γ : Gm) (F_plain : Fn) (F_from_rows : Fn) : S := (sq (exS [(2, true), (2, false)] (cal F_plain [(cst (.int (1))), (cst (.int (1))), (rdV 2)])) (sq (asS 3 [(1, false)] true (bin .Add (attr Γ ("wide" : Str) (rdB 0)) (bin .Mult (bi ("abs" : Str) [(rdB 1)]) (bin .Sub (attr Γ ("high" : Str) (rdB 0)) (cst (.int (1))))))) (sq (ifS [] (c1B Γ .Gt (rdB 3) (cst (.int (64)))) (sq (raS ("TurnError" : Str)) nxS) nxS) (sq (asS 4 [] true (lstX [])) (sq (foS [] (rg1 (attr Γ ("high" : Str) (rdB 0))) (nmT 5) (sq (asS 6 [] false (cd (c1B Γ .GtE (rdB 1) (cst (.int (0)))) (bin .Mult (rdB 1) (rdB 5)) (bin .Mult (rdB 1) (bin .Add (bin .Sub (rdB 5) (attr Γ ("high" : Str) (rdB 0))) (cst (.int (1))))))) (sq (apS 4 [(2, true), (5, true), (5, true), (2, true)] (bin .Add (bin .Add (bin .Mult (lstX [(rdV 2)]) (rdB 6)) (bi ("list" : Str) [(meth Γ ("row" : Str) (rdR 0) [(rdV 5)] [(rdB 5)])])) (bin .Mult (lstX [(rdV 2)]) (bin .Sub (bin .Sub (rdB 3) (attr Γ ("wide" : Str) (rdB 0))) (rdB 6)))) [(2, true), (5, true), (5, true), (2, true)] (meth Γ ("append" : Str) (rdR 4) [(bin .Add (bin .Add (bin .Mult (lstX [(rdV 2)]) (rdB 6)) (bi ("list" : Str) [(meth Γ ("row" : Str) (rdR 0) [(rdV 5)] [(rdB 5)])])) (bin .Mult (lstX [(rdV 2)]) (bin .Sub (bin .Sub (rdB 3) (attr Γ ("wide" : Str) (rdB 0))) (rdB 6))))] [(bin .Add (bin .Add (bin .Mult (lstX [(rdV 2)]) (rdB 6)) (bi ("list" : Str) [(meth Γ ("row" : Str) (rdR 0) [(rdV 5)] [(rdB 5)])])) (bin .Mult (lstX [(rdV 2)]) (bin .Sub (bin .Sub (rdB 3) (attr Γ ("wide" : Str) (rdB 0))) (rdB 6))))])) nxS))) (sq (reS [(4, true), (4, false)] (cal F_from_rows [(rdV 4)])) nxS))))))
def s_rolled (Γ : Gm) (F_from_rows : Fn) : S := (sq (asS 3 [] true (lcX (rg1 (attr Γ ("high" : Str) (rdB 0))) (nmT 4) ttB (bi ("list" : Str) [(meth Γ ("row" : Str) (rdR 0) [(bin .Mod (bin .Sub (rdB 4) (rdB 2)) (attr Γ ("high" : Str) (rdB 0)))] [(bin .Mod (bin .Sub (rdB 4) (rdB 2)) (attr Γ ("high" : Str) (rdB 0)))])]) [4])) (sq (reS [(3, false), (3, false)] (cal F_from_rows [(lcX (itI (rdL 3)) (nmT 6) ttB (lcX (rg1 (attr Γ ("wide" : Str) (rdB 0))) (nmT 5) ttB (sub (rdB 6) (bin .Mod (bin .Sub (rdB 5) (rdB 1)) (attr Γ ("wide" : Str) (rdB 0)))) [5]) [6])])) nxS))
def s_framed (Γ : Gm) (F_plain : Fn) (F_from_rows : Fn) : S := (sq (ifS [] (boB .Or [(c1B Γ .Lt (rdB 1) (cst (.int (0)))), (c1B Γ .Gt (bin .Add (bi ("max" : Str) [(attr Γ ("wide" : Str) (rdB 0)), (attr Γ ("high" : Str) (rdB 0))]) (bin .Mult (cst (.int (2))) (rdB 1))) (cst (.int (64))))]) (sq (raS ("TurnError" : Str)) nxS) nxS) (sq (exS [(2, true), (2, false)] (cal F_plain [(cst (.int (1))), (cst (.int (1))), (rdV 2)])) (sq (asS 3 [(2, true)] true (bin .Mult (lstX [(bin .Mult (lstX [(rdV 2)]) (bin .Add (attr Γ ("wide" : Str) (rdB 0)) (bin .Mult (cst (.int (2))) (rdB 1))))]) (rdB 1))) (sq (asS 4 [(2, true), (2, true)] true (lcX (rg1 (attr Γ ("high" : Str) (rdB 0))) (nmT 5) ttB (bin .Add (bin .Add (bin .Mult (lstX [(rdV 2)]) (rdB 1)) (bi ("list" : Str) [(meth Γ ("row" : Str) (rdR 0) [(rdV 5)] [(rdB 5)])])) (bin .Mult (lstX [(rdV 2)]) (rdB 1))) [5])) (sq (reS [] (cal F_from_rows [(bin .Add (bin .Add (rdB 3) (rdB 4)) (rdB 3))])) nxS)))))
def s_by_table (Γ : Gm) (F_between : Fn) (F_Picture : Fn) : S := (sq (ifS [(1, false), (1, false), (1, false)] (boB .Or [(c1B Γ .Lt (rdB 2) (cst (.int (1)))), (c1B Γ .NotEq (bi ("len" : Str) [(rdB 1)]) (cst (.int (2)))), (tru (genX ("any" : Str) (itI (rdL 1)) (nmT 5) ttB (cm1 Γ .NotEq (bi ("len" : Str) [(rdB 5)]) (cst (.int (3)))) [5]))]) (sq (raS ("TurnError" : Str)) nxS) nxS) (sq (ifS [] (boB .Or [(ntB (c2B Γ .LtE .LtE (cst (.int (1))) (rdB 3) (cst (.int (64))))), (ntB (c2B Γ .LtE .LtE (cst (.int (1))) (rdB 4) (cst (.int (64)))))]) (sq (raS ("TurnError" : Str)) nxS) nxS) (sq (asS 6 [] true (lstX [])) (sq (foS [(4, false), (4, false)] (rg1 (rdB 4)) (nmT 7) (sq (foS [(3, false), (3, false)] (rg1 (rdB 3)) (nmT 8) (sq (tuS [(1, false)] (tpT [(nmT 9), (nmT 10)]) (lcX (itI (rdL 1)) (nmT 5) ttB (bin .Add (bin .Add (bin .Mult (sub (rdB 5) (cst (.int (0)))) (rdB 8)) (bin .Mult (sub (rdB 5) (cst (.int (1)))) (rdB 7))) (sub (rdB 5) (cst (.int (2))))) [5])) (sq (apS 6 [(0, true), (0, false), (9, true), (9, false), (2, true), (2, false), (10, true), (10, false), (2, true), (2, false)] (cal F_between [(rdV 0), (rdV 9), (rdV 2), (rdV 10), (rdV 2)]) [(0, true), (0, false), (9, true), (9, false), (2, true), (2, false), (10, true), (10, false), (2, true), (2, false)] (meth Γ ("append" : Str) (rdR 6) [(cal F_between [(rdV 0), (rdV 9), (rdV 2), (rdV 10), (rdV 2)])] [(cal F_between [(rdV 0), (rdV 9), (rdV 2), (rdV 10), (rdV 2)])])) nxS))) nxS)) (sq (reS [(3, true), (3, false), (4, true), (4, false), (6, true), (6, false)] (cal F_Picture [(rdV 3), (rdV 4), (rdV 6)])) nxS)))))
def s_joined (Γ : Gm) (F_from_rows : Fn) : S := (sq (asS 2 [(0, false)] true (lcX (itI (rdL 0)) (nmT 3) ttB (cd (tru (rdB 1)) (attr Γ ("high" : Str) (rdB 3)) (attr Γ ("wide" : Str) (rdB 3))) [3])) (sq (asS 4 [(0, false), (0, false)] false (genX ("sum" : Str) (itI (rdL 0)) (nmT 3) ttB (cd (tru (rdB 1)) (attr Γ ("wide" : Str) (rdB 3)) (attr Γ ("high" : Str) (rdB 3))) [3])) (sq (ifS [(2, false), (2, false)] (boB .Or [(c1B Γ .Eq (rdB 2) (lstX [])), (tru (genX ("any" : Str) (itI (rdL 2)) (nmT 5) ttB (cm1 Γ .NotEq (rdB 5) (sub (rdB 2) (cst (.int (0))))) [5])), (c1B Γ .Gt (rdB 4) (cst (.int (64))))]) (sq (raS ("TurnError" : Str)) nxS) nxS) (sq (ifS [] (ntB (tru (rdB 1))) (sq (reS [(6, true), (6, true), (0, false), (6, true), (6, true), (0, false)] (cal F_from_rows [(lc2X (itI (rdL 0)) (nmT 3) ttB (rg1 (attr Γ ("high" : Str) (rdB 3))) [6] (nmT 6) ttB (bi ("list" : Str) [(meth Γ ("row" : Str) (rdR 3) [(rdV 6)] [(rdB 6)])]) [3, 6])])) nxS) nxS) (sq (asS 7 [] true (lstX [])) (sq (foS [] (rg1 (sub (rdB 2) (cst (.int (0))))) (nmT 6) (sq (asS 8 [] true (lstX [])) (sq (foS [(0, true), (0, false)] (itI (rdV 0)) (nmT 3) (sq (auS [(6, true), (6, true)] 8 .Add (bi ("list" : Str) [(meth Γ ("row" : Str) (rdR 3) [(rdV 6)] [(rdB 6)])])) nxS)) (sq (apS 7 [(8, true)] (rdV 8) [(8, true)] (meth Γ ("append" : Str) (rdR 7) [(rdV 8)] [(rdB 8)])) nxS)))) (sq (reS [(7, true), (7, false)] (cal F_from_rows [(rdV 7)])) nxS)))))))
def s_law_dice (Γ : Gm) : S := (sq (ifS [] (c2B Γ .Lt .Lt (bin .Sub (cst (.int (0))) (cst (.int (10)))) (rdB 0) (cst (.int (10)))) (sq (reS [(0, false)] (lstX [(bi ("abs" : Str) [(rdB 0)]), (cst (.int (0))), (cst (.int (2)))])) nxS) nxS) (sq (reS [(0, true), (0, false)] (lstX [(rdV 0), (bin .Add (cst (.int (1))) (bin .Mod (bi ("int" : Str) [(rdB 0)]) (cst (.int (1009))))), (bi ("int" : Str) [(cm1 Γ .GtE (rdB 0) (bin .Pow (cst (.int (10))) (cst (.int (18)))))])])) nxS))
def s_law_roll (Γ : Gm) (F__law_roll : Fn) : S := (sq (ifS [] (boB .Or [(c1B Γ .Eq (sub (rdB 0) (cst (.int (2)))) (cst (.int (2)))), (boB .And [(c1B Γ .Eq (sub (rdB 0) (cst (.int (2)))) (cst (.int (1)))), (c1B Γ .Gt (sub (rdB 0) (cst (.int (0)))) (cst (.int (0))))])]) (sq (asS 2 [] true (bin .Mod (bi ("int" : Str) [(sub (rdB 0) (cst (.int (0))))]) (rdB 1))) (sq (stS [] 0 (cst (.int (0))) (bin .FloorDiv (sub (rdB 0) (cst (.int (0)))) (rdB 1))) (sq (reS [(2, true)] (rdV 2)) nxS))) nxS) (sq (stS [] 0 (cst (.int (2))) (cst (.int (0)))) (sq (ifS [] (c1B Γ .Gt (rdB 1) (cst (.int (100000000)))) (sq (reS [(0, true), (0, false), (0, true), (0, false), (0, true), (0, false), (0, true), (0, false)] (bin .Mod (bi ("int" : Str) [(bin .Add (bin .Mult (cal F__law_roll [(rdV 0), (bin .Add (bin .FloorDiv (rdB 1) (cst (.int (100000000)))) (cst (.int (1))))]) (cst (.int (100000000)))) (cal F__law_roll [(rdV 0), (cst (.int (100000000)))]))]) (rdB 1))) nxS) nxS) (sq (stS [] 0 (cst (.int (0))) (bin .Mod (bi ("int" : Str) [(bin .Add (bin .Add (bin .Mult (sub (rdB 0) (cst (.int (0)))) (cst (.int (48271)))) (bin .Mult (sub (rdB 0) (cst (.int (1)))) (cst (.int (69621))))) (cst (.int (11))))]) (cst (.int (2147483647))))) (sq (stS [] 0 (cst (.int (1))) (bin .Add (sub (rdB 0) (cst (.int (1)))) (cst (.int (1))))) (sq (reS [] (bin .Mod (bi ("int" : Str) [(bin .FloorDiv (sub (rdB 0) (cst (.int (0)))) (cst (.int (7))))]) (rdB 1))) nxS))))))
def s_law_rounds (Γ : Gm) (F__law_dice : Fn) : S := (sq (asS 2 [] true (slc (rdB 0) oN (oS (rdB 1)))) (sq (ifS [] (c1B Γ .Eq (rdB 2) (lstX [])) (sq (asS 2 [] true (lstX [(cst (.int (0)))])) nxS) nxS) (sq (reS [(2, false)] (lcX (itI (rdL 2)) (nmT 3) ttB (cal F__law_dice [(rdV 3)]) [3])) nxS)))
def s_law_picture (Γ : Gm) (F__law_roll : Fn) : S := (sq (reS [(0, true), (0, false)] (lcX (rg1 (bin .Mult (rdB 1) (rdB 2))) (nmT 4) ttB (cal F__law_roll [(rdV 0), (bin .Add (rdB 3) (cst (.int (1))))]) [4])) nxS)
def s_law_at (Γ : Gm) : S := (sq (reS [] (sub (sub (rdB 0) (cst (.str "rows"))) (bin .Add (bin .Mult (rdB 2) (sub (rdB 0) (cst (.str "wide")))) (rdB 1)))) nxS)
def s_law_in (Γ : Gm) : S := (sq (reS [] (boX .And [(cm2 Γ .LtE .Lt (cst (.int (0))) (rdB 1) (sub (rdB 0) (cst (.str "wide")))), (cm2 Γ .LtE .Lt (cst (.int (0))) (rdB 2) (sub (rdB 0) (cst (.str "high"))))])) nxS)
def s_law_near (Γ : Gm) (F__law_at : Fn) : S := (sq (reS [(0, true), (0, false), (1, false), (1, false), (1, false), (2, false), (2, false), (2, false)] (cal F__law_at [(rdV 0), (bi ("max" : Str) [(cst (.int (0))), (bi ("min" : Str) [(bin .Sub (sub (rdB 0) (cst (.str "wide"))) (cst (.int (1)))), (rdB 1)])]), (bi ("max" : Str) [(cst (.int (0))), (bi ("min" : Str) [(bin .Sub (sub (rdB 0) (cst (.str "high"))) (cst (.int (1)))), (rdB 2)])])])) nxS)
def s_law_spots (Γ : Gm) : S := (sq (asS 1 [] true (lstX [])) (sq (foS [] (rg1 (sub (rdB 0) (cst (.str "high")))) (nmT 2) (sq (asS 1 [(2, true)] true (bin .Add (rdB 1) (lcX (rg1 (sub (rdB 0) (cst (.str "wide")))) (nmT 3) ttB (tupX [(rdV 3), (rdV 2)]) [3]))) nxS)) (sq (reS [(1, true)] (rdV 1)) nxS)))
def s_law_made (Γ : Gm) (F__law_roll : Fn) (F__law_picture : Fn) : S := (sq (paS [(0, true), (0, false), (0, true), (0, false)] [(4, true), (5, true)] [(bin .Add (rdB 2) (cal F__law_roll [(rdV 0), (bin .Add (bin .Sub (rdB 1) (rdB 2)) (cst (.int (1))))])), (bin .Add (rdB 2) (cal F__law_roll [(rdV 0), (bin .Add (bin .Sub (rdB 1) (rdB 2)) (cst (.int (1))))]))]) (sq (reS [(4, true), (5, true), (0, true), (0, false), (4, true), (4, false), (5, true), (5, false), (3, true), (3, false)] (dicX [(cst (.str "wide")), (cst (.str "high")), (cst (.str "rows"))] [(rdV 4), (rdV 5), (cal F__law_picture [(rdV 0), (rdV 4), (rdV 5), (rdV 3)])])) nxS))
def s_law_is (Γ : Gm) : S := (sq (reS [(1, true), (2, true), (3, false)] (cm1 Γ .Eq (tupX [(attr Γ ("wide" : Str) (rdB 0)), (attr Γ ("high" : Str) (rdB 0)), (attr Γ ("numbers" : Str) (rdB 0))]) (tupX [(rdV 1), (rdV 2), (bi ("tuple" : Str) [(rdB 3)])]))) nxS)
def s_law_quarter (Γ : Gm) (F__law_at : Fn) : S := (sq (asS 1 [] true (lstX [])) (sq (foS [] (rg1 (sub (rdB 0) (cst (.str "wide")))) (nmT 2) (sq (asS 1 [(0, true), (0, false), (2, true), (2, false)] true (bin .Add (rdB 1) (lcX (rg1 (sub (rdB 0) (cst (.str "high")))) (nmT 3) ttB (cal F__law_at [(rdV 0), (rdV 2), (bin .Sub (bin .Sub (sub (rdB 0) (cst (.str "high"))) (cst (.int (1)))) (rdB 3))]) [3]))) nxS)) (sq (reS [(1, true)] (dicX [(cst (.str "wide")), (cst (.str "high")), (cst (.str "rows"))] [(sub (rdB 0) (cst (.str "high"))), (sub (rdB 0) (cst (.str "wide"))), (rdV 1)])) nxS)))
def s_law_between (Γ : Gm) (F__law_near : Fn) : S := (sq (paS [] [(5, true), (6, true)] [(bin .FloorDiv (rdB 1) (rdB 2)), (bin .FloorDiv (rdB 3) (rdB 4))]) (sq (asS 7 [] false (cst (.int (0)))) (sq (foS [(5, true), (5, true)] (itI (lstX [(tupX [(rdV 5), (bin .Sub (rdB 2) (bin .Sub (rdB 1) (bin .Mult (rdB 5) (rdB 2))))]), (tupX [(bin .Add (rdB 5) (cst (.int (1)))), (bin .Sub (rdB 1) (bin .Mult (rdB 5) (rdB 2)))])])) (tpT [(nmT 8), (nmT 9)]) (sq (foS [(6, true), (6, true)] (itI (lstX [(tupX [(rdV 6), (bin .Sub (rdB 4) (bin .Sub (rdB 3) (bin .Mult (rdB 6) (rdB 4))))]), (tupX [(bin .Add (rdB 6) (cst (.int (1)))), (bin .Sub (rdB 3) (bin .Mult (rdB 6) (rdB 4)))])])) (tpT [(nmT 10), (nmT 11)]) (sq (asS 7 [(0, true), (0, false), (8, true), (8, false), (10, true), (10, false)] true (bin .Add (rdB 7) (bin .Mult (bin .Mult (rdB 9) (rdB 11)) (cal F__law_near [(rdV 0), (rdV 8), (rdV 10)])))) nxS)) nxS)) (sq (reS [] (bin .FloorDiv (bin .Add (bin .Mult (cst (.int (2))) (rdB 7)) (bin .Mult (rdB 2) (rdB 4))) (bin .Mult (bin .Mult (cst (.int (2))) (rdB 2)) (rdB 4)))) nxS))))
def s_law_plain (Γ : Gm) (F_plain : Fn) (F_Picture : Fn) (F_quarter : Fn) (F_stretched : Fn) (F_smaller : Fn) (F_rolled : Fn) (F_sheared : Fn) (pr : Str → Bool) (ls : List (Expr × Scope)) (okL : List (Expr × Scope) → Bool) (evL : Expr × Scope → X) : S := (sq (paS [] [(0, false), (1, false)] [(cal F_plain [(cst (.int (1))), (cst (.int (1))), (cst (.int (5)))]), (cal F_plain [(cst (.int (40))), (cst (.int (40))), (cst (.int (0)))])]) (sq (laS 2 [(0, true), (0, false), (0, true), (0, false), (1, true), (1, false), (0, true), (0, false), (0, true), (0, false), (0, true), (0, false), (0, true), (0, false), (1, true), (1, false), (0, true), (0, false), (1, true), (1, false), (0, true), (0, false), (0, true), (0, false), (0, true), (0, false), (0, true), (0, false), (0, true), (0, false), (0, true), (0, true), (0, true), (0, true), (1, true), (1, true), (1, true), (1, true)] ls) (sq (ifS [(2, false)] (boB .Or [(c1B Γ .NotEq (tlsX 2 pr okL evL) (lstX [])), (c1B Γ .NotEq (cst (.int (8))) (cst (.int (8))))]) (sq (reS [] (cst (.bl false))) nxS) nxS) (sq (asS 4 [] false (cal F_Picture [(cst (.int (4))), (cst (.int (3))), (lstX [(cst (.int (0))), (cst (.int (50))), (cst (.int (100))), (cst (.int (150))), (cst (.int (10))), (cst (.int (60))), (cst (.int (110))), (cst (.int (160))), (cst (.int (20))), (cst (.int (70))), (cst (.int (120))), (cst (.int (170)))])])) (sq (ifS [(4, true), (4, false), (4, true), (4, false)] (ntB (boB .And [(c1B Γ .Eq (meth Γ ("row" : Str) (cal F_quarter [(rdV 4), (cst (.int (1)))]) [(cst (.int (0)))] [(cst (.int (0)))]) (tupX [(cst (.int (20))), (cst (.int (10))), (cst (.int (0)))])), (c1B Γ .Eq (attr Γ ("numbers" : Str) (cal F_stretched [(rdV 4), (cst (.int (2))), (cst (.int (2)))])) (tupX [(cst (.int (28))), (cst (.int (128))), (cst (.int (43))), (cst (.int (143)))]))])) (sq (reS [] (cst (.bl false))) nxS) nxS) (sq (reS [(4, true), (4, false), (4, true), (4, false), (4, true), (4, false)] (boX .And [(cm1 Γ .Eq (attr Γ ("numbers" : Str) (cal F_smaller [(rdV 4), (cst (.int (2)))])) (tupX [(cst (.int (30))), (cst (.int (130)))])), (cm1 Γ .Eq (meth Γ ("row" : Str) (cal F_rolled [(rdV 4), (cst (.int (1))), (cst (.int (1)))]) [(cst (.int (0)))] [(cst (.int (0)))]) (tupX [(cst (.int (170))), (cst (.int (20))), (cst (.int (70))), (cst (.int (120)))])), (cm1 Γ .Eq (attr Γ ("wide" : Str) (cal F_sheared [(rdV 4), (cst (.int (1))), (cst (.int (7)))])) (cst (.int (6))))])) nxS))))))
def l_law_plain_0 (Γ : Gm) (F_larger : Fn) : X := (cal F_larger [(rdV 0), (cst (.int (0)))])
def l_law_plain_1 (Γ : Gm) (F_larger : Fn) : X := (cal F_larger [(rdV 0), (cst (.int (9)))])
def l_law_plain_2 (Γ : Gm) (F_larger : Fn) : X := (cal F_larger [(rdV 1), (cst (.int (2)))])
def l_law_plain_3 (Γ : Gm) (F_smaller : Fn) : X := (cal F_smaller [(rdV 0), (cst (.int (0)))])
def l_law_plain_4 (Γ : Gm) (F_smaller : Fn) : X := (cal F_smaller [(rdV 0), (cst (.int (2)))])
def l_law_plain_5 (Γ : Gm) (F_stretched : Fn) : X := (cal F_stretched [(rdV 0), (cst (.int (0))), (cst (.int (1)))])
def l_law_plain_6 (Γ : Gm) (F_stretched : Fn) : X := (cal F_stretched [(rdV 0), (cst (.int (1))), (cst (.int (65)))])
def l_law_plain_7 (Γ : Gm) (F_sheared : Fn) : X := (cal F_sheared [(rdV 1), (cst (.int (1))), (cst (.int (0)))])
def l_law_plain_8 (Γ : Gm) (F_sheared : Fn) (F_plain : Fn) : X := (cal F_sheared [(cal F_plain [(cst (.int (1))), (cst (.int (2))), (cst (.int (0)))]), (cst (.int (1))), (cst (.int (256)))])
def l_law_plain_9 (Γ : Gm) (F_framed : Fn) : X := (cal F_framed [(rdV 0), (neg (cst (.int (1)))), (cst (.int (0)))])
def l_law_plain_10 (Γ : Gm) (F_framed : Fn) : X := (cal F_framed [(rdV 1), (cst (.int (13))), (cst (.int (0)))])
def l_law_plain_11 (Γ : Gm) (F_framed : Fn) : X := (cal F_framed [(rdV 0), (cst (.int (1))), (cst (.int (256)))])
def l_law_plain_12 (Γ : Gm) (F_by_table : Fn) : X := (cal F_by_table [(rdV 0), (tupX [(tupX [(cst (.int (1))), (cst (.int (0))), (cst (.int (0)))])]), (cst (.int (1))), (cst (.int (1))), (cst (.int (1)))])
def l_law_plain_13 (Γ : Gm) (F_by_table : Fn) : X := (cal F_by_table [(rdV 0), (tupX [(tupX [(cst (.int (1))), (cst (.int (0)))]), (tupX [(cst (.int (0))), (cst (.int (1)))])]), (cst (.int (1))), (cst (.int (1))), (cst (.int (1)))])
def l_law_plain_14 (Γ : Gm) (F_by_table : Fn) : X := (cal F_by_table [(rdV 0), (tupX [(tupX [(cst (.int (1))), (cst (.int (0))), (cst (.int (0)))]), (tupX [(cst (.int (0))), (cst (.int (1))), (cst (.int (0)))])]), (cst (.int (0))), (cst (.int (1))), (cst (.int (1)))])
def l_law_plain_15 (Γ : Gm) (F_by_table : Fn) : X := (cal F_by_table [(rdV 0), (tupX [(tupX [(cst (.int (1))), (cst (.int (0))), (cst (.int (0)))]), (tupX [(cst (.int (0))), (cst (.int (1))), (cst (.int (0)))])]), (cst (.int (1))), (cst (.int (65))), (cst (.int (1)))])
def l_law_plain_16 (Γ : Gm) (F_joined : Fn) : X := (cal F_joined [(lstX []), (cst (.bl true))])
def l_law_plain_17 (Γ : Gm) (F_joined : Fn) (F_plain : Fn) : X := (cal F_joined [(lstX [(rdV 0), (cal F_plain [(cst (.int (1))), (cst (.int (2))), (cst (.int (0)))])]), (cst (.bl true))])
def l_law_plain_18 (Γ : Gm) (F_joined : Fn) (F_plain : Fn) : X := (cal F_joined [(lstX [(rdV 0), (cal F_plain [(cst (.int (2))), (cst (.int (1))), (cst (.int (0)))])]), (cst (.bl false))])
def l_law_plain_19 (Γ : Gm) (F_joined : Fn) : X := (cal F_joined [(lstX [(rdV 1), (rdV 1)]), (cst (.bl true))])
def s_law_fitted (Γ : Gm) (F__law_roll : Fn) (F__law_spots : Fn) (F__law_at : Fn) (F__law_is : Fn) (F_sheared : Fn) (F_rolled : Fn) (F__law_in : Fn) (F_framed : Fn) (F_plain : Fn) (F_joined : Fn) : S := (sq (paS [(0, true), (0, false), (0, true), (0, false)] [(6, true), (7, false)] [(bin .Sub (cal F__law_roll [(rdV 0), (cst (.int (7)))]) (cst (.int (3)))), (cal F__law_roll [(rdV 0), (cst (.int (256)))])]) (sq (asS 8 [(6, false)] true (bin .Mult (bi ("abs" : Str) [(rdB 6)]) (bin .Sub (rdB 4) (cst (.int (1)))))) (sq (asS 9 [(8, true), (4, false)] true (lcX (rg1 (rdB 4)) (nmT 10) ttB (bin .Add (bin .Mult (rdB 6) (rdB 10)) (cd (c1B Γ .Lt (rdB 6) (cst (.int (0)))) (rdV 8) (cst (.int (0))))) [10])) (sq (asS 11 [(2, true), (2, false), (10, true), (10, false), (7, true), (4, true)] true (lcX (itI (cal F__law_spots [(dicX [(cst (.str "wide")), (cst (.str "high"))] [(bin .Add (rdB 3) (rdB 8)), (rdV 4)])])) (tpT [(nmT 12), (nmT 10)]) ttB (cd (c2B Γ .LtE .Lt (cst (.int (0))) (bin .Sub (rdB 12) (sub (rdB 9) (rdB 10))) (rdB 3)) (cal F__law_at [(rdV 2), (bin .Sub (rdB 12) (sub (rdB 9) (rdB 10))), (rdV 10)]) (rdV 7)) [12, 10])) (sq (ifS [(1, true), (1, false), (6, true), (6, false), (7, true), (7, false), (1, false), (6, false), (7, false), (4, true), (4, false), (11, true), (11, false)] (ntB (tru (cal F__law_is [(cal F_sheared [(rdV 1), (rdV 6), (rdV 7)]), (bin .Add (rdB 3) (rdB 8)), (rdV 4), (rdV 11)]))) (sq (reS [] (cst (.bl false))) nxS) nxS) (sq (paS [(0, true), (0, false), (0, true), (0, false)] [(12, true), (10, true)] [(bin .Sub (cal F__law_roll [(rdV 0), (cst (.int (20)))]) (cst (.int (9)))), (bin .Sub (cal F__law_roll [(rdV 0), (cst (.int (20)))]) (cst (.int (9))))]) (sq (ifS [(1, true), (1, false), (12, true), (12, false), (10, true), (10, false), (1, false), (12, false), (10, false), (3, true), (3, false), (4, true), (4, false), (2, true), (2, false), (2, false), (2, true), (2, false), (2, false), (1, true), (1, false), (12, true), (12, false), (10, true), (10, false), (1, false), (12, false), (10, false), (1, true)] (boB .Or [(ntB (tru (cal F__law_is [(cal F_rolled [(rdV 1), (rdV 12), (rdV 10)]), (rdV 3), (rdV 4), (lcX (itI (cal F__law_spots [(rdV 2)])) (tpT [(nmT 13), (nmT 14)]) ttB (cal F__law_at [(rdV 2), (bin .Mod (bin .Sub (rdB 13) (rdB 12)) (rdB 3)), (bin .Mod (bin .Sub (rdB 14) (rdB 10)) (rdB 4))]) [13, 14])]))), (ntB (tru (meth Γ ("is_same" : Str) (cal F_rolled [(cal F_rolled [(rdV 1), (rdV 12), (rdV 10)]), (neg (rdB 12)), (neg (rdB 10))]) [(rdV 1)] [(rdB 1)])))]) (sq (reS [] (cst (.bl false))) nxS) nxS) (sq (asS 15 [(0, true), (0, false)] false (cal F__law_roll [(rdV 0), (cst (.int (4)))])) (sq (asS 11 [(2, true), (2, false), (2, true), (2, false), (7, true)] true (lcX (itI (cal F__law_spots [(dicX [(cst (.str "wide")), (cst (.str "high"))] [(bin .Add (rdB 3) (bin .Mult (cst (.int (2))) (rdB 15))), (bin .Add (rdB 4) (bin .Mult (cst (.int (2))) (rdB 15)))])])) (tpT [(nmT 13), (nmT 14)]) ttB (cd (tru (cal F__law_in [(rdV 2), (bin .Sub (rdB 13) (rdB 15)), (bin .Sub (rdB 14) (rdB 15))])) (cal F__law_at [(rdV 2), (bin .Sub (rdB 13) (rdB 15)), (bin .Sub (rdB 14) (rdB 15))]) (rdV 7)) [13, 14])) (sq (ifS [(1, true), (1, false), (15, true), (15, false), (7, true), (7, false), (1, false), (15, false), (7, false), (11, true), (11, false)] (ntB (tru (cal F__law_is [(cal F_framed [(rdV 1), (rdV 15), (rdV 7)]), (bin .Add (rdB 3) (bin .Mult (cst (.int (2))) (rdB 15))), (bin .Add (rdB 4) (bin .Mult (cst (.int (2))) (rdB 15))), (rdV 11)]))) (sq (reS [] (cst (.bl false))) nxS) nxS) (sq (ifS [(1, true), (1, false), (15, true), (15, false), (7, true), (7, false), (15, true), (15, true), (3, true), (4, true), (1, true)] (ntB (tru (meth Γ ("is_same" : Str) (meth Γ ("part" : Str) (cal F_framed [(rdV 1), (rdV 15), (rdV 7)]) [(rdV 15), (rdV 15), (rdV 3), (rdV 4)] [(rdB 15), (rdB 15), (rdB 3), (rdB 4)]) [(rdV 1)] [(rdB 1)]))) (sq (reS [] (cst (.bl false))) nxS) nxS) (sq (asS 16 [(0, true), (0, false), (0, true), (0, false), (4, true), (4, false), (7, true), (7, false)] false (cal F_plain [(bin .Add (cst (.int (1))) (cal F__law_roll [(rdV 0), (cst (.int (3)))])), (rdV 4), (rdV 7)])) (sq (asS 17 [(1, true), (16, true), (1, true), (1, true), (16, true), (1, true)] false (cal F_joined [(lstX [(rdV 1), (rdV 16), (rdV 1)]), (cst (.bl true))])) (sq (ifS [(3, true), (4, true), (1, true), (3, true), (4, true), (16, true), (3, true), (4, true), (1, true)] (boB .Or [(c1B Γ .NotEq (attr Γ ("wide" : Str) (rdB 17)) (bin .Add (bin .Mult (cst (.int (2))) (rdB 3)) (attr Γ ("wide" : Str) (rdB 16)))), (ntB (tru (meth Γ ("is_same" : Str) (meth Γ ("part" : Str) (rdR 17) [(cst (.int (0))), (cst (.int (0))), (rdV 3), (rdV 4)] [(cst (.int (0))), (cst (.int (0))), (rdB 3), (rdB 4)]) [(rdV 1)] [(rdB 1)]))), (ntB (tru (meth Γ ("is_same" : Str) (meth Γ ("part" : Str) (rdR 17) [(rdV 3), (cst (.int (0))), (attr Γ ("wide" : Str) (rdB 16)), (rdV 4)] [(rdB 3), (cst (.int (0))), (attr Γ ("wide" : Str) (rdB 16)), (rdB 4)]) [(rdV 16)] [(rdB 16)]))), (ntB (tru (meth Γ ("is_same" : Str) (meth Γ ("part" : Str) (rdR 17) [(bin .Add (rdB 3) (attr Γ ("wide" : Str) (rdB 16))), (cst (.int (0))), (rdV 3), (rdV 4)] [(bin .Add (rdB 3) (attr Γ ("wide" : Str) (rdB 16))), (cst (.int (0))), (rdB 3), (rdB 4)]) [(rdV 1)] [(rdB 1)])))]) (sq (reS [] (cst (.bl false))) nxS) nxS) (sq (ifS [(1, true), (1, true), (1, true), (1, true), (1, true), (1, true), (3, true), (3, false)] (ntB (tru (cal F__law_is [(cal F_joined [(lstX [(rdV 1), (rdV 1)]), (cst (.bl false))]), (rdV 3), (bin .Mult (cst (.int (2))) (rdB 4)), (bin .Add (rdB 5) (rdB 5))]))) (sq (reS [] (cst (.bl false))) nxS) nxS) (sq (reS [] (cst (.bl true))) nxS))))))))))))))))
def s_lawcall (Γ : Gm) (F__law_rounds : Fn) : X := (cal F__law_rounds [(rdV 0), (cst (.int (1)))])
def s_lawfor (Γ : Gm) (F__law_made : Fn) (F_Picture : Fn) (F__law_roll : Fn) (F__law_quarter : Fn) (F__law_is : Fn) (F_quarter : Fn) (F_over : Fn) (F__law_spots : Fn) (F__law_at : Fn) (F_larger : Fn) (F_smaller : Fn) (F__law_between : Fn) (F_stretched : Fn) (F_by_table : Fn) (F_between : Fn) (F__law_fitted : Fn) : S := (sq (asS 2 [(1, true), (1, false)] false (cal F__law_made [(rdV 1), (cst (.int (6))), (cst (.int (1))), (cst (.int (255)))])) (sq (paS [] [(3, false), (4, false), (5, false)] [(sub (rdB 2) (cst (.str "wide"))), (sub (rdB 2) (cst (.str "high"))), (sub (rdB 2) (cst (.str "rows")))]) (sq (paS [(3, true), (3, false), (4, true), (4, false), (5, true), (5, false), (1, true), (1, false)] [(6, false), (7, true)] [(cal F_Picture [(rdV 3), (rdV 4), (rdV 5)]), (bin .Sub (cal F__law_roll [(rdV 1), (cst (.int (11)))]) (cst (.int (5))))]) (sq (asS 8 [(2, true)] false (rdV 2)) (sq (foS [] (rg1 (bin .Mod (rdB 7) (cst (.int (4))))) (nmT 9) (sq (asS 8 [(8, true), (8, false)] false (cal F__law_quarter [(rdV 8)])) nxS)) (sq (ifS [(6, true), (6, false), (7, true), (7, false), (6, false), (7, false)] (ntB (tru (cal F__law_is [(cal F_quarter [(rdV 6), (rdV 7)]), (sub (rdB 8) (cst (.str "wide"))), (sub (rdB 8) (cst (.str "high"))), (sub (rdB 8) (cst (.str "rows")))]))) (sq (reS [] (cst (.bl false))) nxS) nxS) (sq (ifS [(6, true), (6, false), (7, true), (7, false), (6, false), (7, false), (6, true)] (ntB (tru (meth Γ ("is_same" : Str) (cal F_quarter [(cal F_quarter [(rdV 6), (rdV 7)]), (neg (rdB 7))]) [(rdV 6)] [(rdB 6)]))) (sq (reS [] (cst (.bl false))) nxS) nxS) (sq (ifS [(6, true), (6, false), (6, false), (3, true), (3, false), (4, true), (4, false), (2, true), (2, false), (11, true), (11, false), (2, false), (2, true), (2, false), (11, true), (11, false), (2, false), (6, true), (6, false), (6, false), (3, true), (3, false), (4, true), (4, false), (2, true), (2, false), (10, true), (10, false), (2, false), (2, true), (2, false), (10, true), (10, false), (2, false)] (boB .Or [(ntB (tru (cal F__law_is [(cal F_over [(rdV 6), (cst (.bl true))]), (rdV 3), (rdV 4), (lcX (itI (cal F__law_spots [(rdV 2)])) (tpT [(nmT 10), (nmT 11)]) ttB (cal F__law_at [(rdV 2), (bin .Sub (bin .Sub (rdB 3) (cst (.int (1)))) (rdB 10)), (rdV 11)]) [10, 11])]))), (ntB (tru (cal F__law_is [(cal F_over [(rdV 6), (cst (.bl false))]), (rdV 3), (rdV 4), (lcX (itI (cal F__law_spots [(rdV 2)])) (tpT [(nmT 10), (nmT 11)]) ttB (cal F__law_at [(rdV 2), (rdV 10), (bin .Sub (bin .Sub (rdB 4) (cst (.int (1)))) (rdB 11))]) [10, 11])])))]) (sq (reS [] (cst (.bl false))) nxS) nxS) (sq (asS 12 [(1, true), (1, false)] true (bin .Add (cst (.int (1))) (cal F__law_roll [(rdV 1), (cst (.int (4)))]))) (sq (asS 13 [] true (dicX [(cst (.str "wide")), (cst (.str "high"))] [(bin .Mult (rdB 3) (rdB 12)), (bin .Mult (rdB 4) (rdB 12))])) (sq (ifS [(6, true), (6, false), (12, true), (12, false), (6, false), (12, false), (2, true), (2, false), (13, false), (2, true), (2, false), (13, false), (6, true), (6, false), (12, true), (12, false), (6, false), (12, false), (12, true), (12, false), (6, true)] (boB .Or [(ntB (tru (cal F__law_is [(cal F_larger [(rdV 6), (rdV 12)]), (bin .Mult (rdB 3) (rdB 12)), (bin .Mult (rdB 4) (rdB 12)), (lcX (itI (cal F__law_spots [(rdV 13)])) (tpT [(nmT 10), (nmT 11)]) ttB (cal F__law_at [(rdV 2), (bin .FloorDiv (rdB 10) (rdB 12)), (bin .FloorDiv (rdB 11) (rdB 12))]) [10, 11])]))), (ntB (tru (meth Γ ("is_same" : Str) (cal F_smaller [(cal F_larger [(rdV 6), (rdV 12)]), (rdV 12)]) [(rdV 6)] [(rdB 6)])))]) (sq (reS [] (cst (.bl false))) nxS) nxS) (sq (ifS [(3, false), (4, false)] (c1B Γ .LtE (rdB 12) (bi ("min" : Str) [(rdB 3), (rdB 4)])) (sq (paS [] [(14, true), (15, true)] [(dicX [(cst (.str "wide")), (cst (.str "high"))] [(bin .FloorDiv (rdB 3) (rdB 12)), (bin .FloorDiv (rdB 4) (rdB 12))]), (lstX [])]) (sq (foS [(14, true), (14, false), (14, false)] (itI (cal F__law_spots [(rdV 14)])) (tpT [(nmT 10), (nmT 11)]) (sq (asS 15 [(2, true), (2, false), (16, true), (16, false), (17, true), (17, false), (2, false), (2, true), (2, false), (16, true), (16, false), (17, true), (17, false), (2, false)] true (bin .Add (rdB 15) (lstX [(bin .FloorDiv (bi ("sum" : Str) [(lcX (itI (cal F__law_spots [(rdV 2)])) (tpT [(nmT 16), (nmT 17)]) (boB .And [(c1B Γ .Eq (bin .FloorDiv (rdB 16) (rdB 12)) (rdB 10)), (c1B Γ .Eq (bin .FloorDiv (rdB 17) (rdB 12)) (rdB 11))]) (cal F__law_at [(rdV 2), (rdV 16), (rdV 17)]) [16, 17])]) (bin .Mult (rdB 12) (rdB 12)))]))) nxS)) (sq (ifS [(6, true), (6, false), (12, true), (12, false), (6, false), (12, false), (15, true), (15, false)] (ntB (tru (cal F__law_is [(cal F_smaller [(rdV 6), (rdV 12)]), (bin .FloorDiv (rdB 3) (rdB 12)), (bin .FloorDiv (rdB 4) (rdB 12)), (rdV 15)]))) (sq (reS [] (cst (.bl false))) nxS) nxS) nxS))) nxS) (sq (asS 18 [(1, true), (1, false), (1, true), (1, false)] true (dicX [(cst (.str "wide")), (cst (.str "high"))] [(bin .Add (cst (.int (1))) (cal F__law_roll [(rdV 1), (cst (.int (9)))])), (bin .Add (cst (.int (1))) (cal F__law_roll [(rdV 1), (cst (.int (9)))]))])) (sq (paS [] [(16, false), (17, false)] [(sub (rdB 18) (cst (.str "wide"))), (sub (rdB 18) (cst (.str "high")))]) (sq (asS 15 [(2, true), (2, false), (18, false)] true (lcX (itI (cal F__law_spots [(rdV 18)])) (tpT [(nmT 10), (nmT 11)]) ttB (cal F__law_between [(rdV 2), (bin .Sub (bin .Mult (bin .Add (bin .Mult (cst (.int (2))) (rdB 10)) (cst (.int (1)))) (rdB 3)) (rdB 16)), (bin .Mult (cst (.int (2))) (rdB 16)), (bin .Sub (bin .Mult (bin .Add (bin .Mult (cst (.int (2))) (rdB 11)) (cst (.int (1)))) (rdB 4)) (rdB 17)), (bin .Mult (cst (.int (2))) (rdB 17))]) [10, 11])) (sq (ifS [(6, true), (6, false), (16, true), (16, false), (17, true), (17, false), (6, false), (16, false), (17, false), (16, true), (16, false), (17, true), (17, false), (15, true), (15, false), (6, true), (6, false), (3, true), (3, false), (4, true), (4, false), (6, true)] (boB .Or [(ntB (tru (cal F__law_is [(cal F_stretched [(rdV 6), (rdV 16), (rdV 17)]), (rdV 16), (rdV 17), (rdV 15)]))), (ntB (tru (meth Γ ("is_same" : Str) (cal F_stretched [(rdV 6), (rdV 3), (rdV 4)]) [(rdV 6)] [(rdB 6)])))]) (sq (reS [] (cst (.bl false))) nxS) nxS) (sq (paS [(1, true), (1, false), (1, true), (1, false)] [(19, true), (20, true)] [(lcX (rg1 (cst (.int (2)))) (nmT 21) ttB (lcX (rg1 (cst (.int (3)))) (nmT 9) ttB (bin .Sub (cal F__law_roll [(rdV 1), (cst (.int (9)))]) (cst (.int (4)))) [9]) [21]), (bin .Add (cst (.int (1))) (cal F__law_roll [(rdV 1), (cst (.int (5)))]))]) (sq (asS 15 [(2, true), (2, false), (20, true), (20, false), (20, true), (20, false), (18, false)] true (lcX (itI (cal F__law_spots [(rdV 18)])) (tpT [(nmT 10), (nmT 11)]) ttB (cal F__law_between [(rdV 2), (bin .Add (bin .Add (bin .Mult (sub (sub (rdB 19) (cst (.int (0)))) (cst (.int (0)))) (rdB 10)) (bin .Mult (sub (sub (rdB 19) (cst (.int (0)))) (cst (.int (1)))) (rdB 11))) (sub (sub (rdB 19) (cst (.int (0)))) (cst (.int (2))))), (rdV 20), (bin .Add (bin .Add (bin .Mult (sub (sub (rdB 19) (cst (.int (1)))) (cst (.int (0)))) (rdB 10)) (bin .Mult (sub (sub (rdB 19) (cst (.int (1)))) (cst (.int (1)))) (rdB 11))) (sub (sub (rdB 19) (cst (.int (1)))) (cst (.int (2))))), (rdV 20)]) [10, 11])) (sq (ifS [(6, true), (6, false), (19, true), (19, false), (20, true), (20, false), (16, true), (16, false), (17, true), (17, false), (6, false), (19, false), (20, false), (16, false), (17, false), (16, true), (16, false), (17, true), (17, false), (15, true), (15, false)] (ntB (tru (cal F__law_is [(cal F_by_table [(rdV 6), (rdV 19), (rdV 20), (rdV 16), (rdV 17)]), (rdV 16), (rdV 17), (rdV 15)]))) (sq (reS [] (cst (.bl false))) nxS) nxS) (sq (paS [(1, true), (1, false), (1, true), (1, false)] [(22, false), (23, false)] [(cal F__law_roll [(rdV 1), (cst (.int (30)))]), (cal F__law_roll [(rdV 1), (cst (.int (30)))])]) (sq (ifS [(6, true), (6, false), (22, true), (22, false), (20, true), (20, false), (23, true), (23, false), (20, true), (20, false), (2, true), (2, false), (22, true), (22, false), (20, true), (20, false), (23, true), (23, false), (20, true), (20, false)] (c1B Γ .NotEq (cal F_between [(rdV 6), (rdV 22), (rdV 20), (rdV 23), (rdV 20)]) (cal F__law_between [(rdV 2), (rdV 22), (rdV 20), (rdV 23), (rdV 20)])) (sq (reS [] (cst (.bl false))) nxS) nxS) (sq (ifS [(1, true), (1, false), (6, true), (6, false), (2, true), (2, false), (3, true), (3, false), (4, true), (4, false), (5, true), (5, false)] (ntB (tru (cal F__law_fitted [(rdV 1), (rdV 6), (rdV 2), (rdV 3), (rdV 4), (rdV 5)]))) (sq (reS [] (cst (.bl false))) nxS) nxS) nxS))))))))))))))))))))))
def s_lawrest (Γ : Gm) (F__law_plain : Fn) : S := (sq (reS [] (cal F__law_plain [])) nxS)
end Sh
set_option maxRecDepth 100000
set_option maxHeartbeats 1000000
/-! SP: what the methods of a picture answer. -/
namespace Sh
open PySem Px
variable {Γ : Gm} [GOk Γ]
local macro_rules
  | `(tactic| simp_arith [$ls,*]) => `(tactic| simp (disch := first | assumption | omega | (simp only [szL, List.length_map, List.length_append, List.length_cons, List.length_nil, len_rng] ; omega)) only [bnd_ok, bnd_er, lft_some, ok_ok, e_rdV, e_rdB, vaS_va, vbS_va, vbS_ow, e_frz0, e_frz, frzG_some, frzG_none, frzS_va, frzS_no, frzS_la, frzS_d, frzS_lt, frzS_lf, frzS_ot, frzS_of, slF_f, slF_l, slF_d, slF_i, slF_t, slF_s, slF_b, slF_n, slF_o, e_isOw, isOw_ow, isOw_va, e_owned, ownS_ow, e_aimed, aimS_ow, aimS_dice, rcvI_va, rcvI_l, rcvI_d, rcvI_o, rcvJ_va, rcvJ_l, rcvJ_d, e_rdR, e_rdL, e_cst, e_bin, e_neg, e_ntX, e_cm1, e_cm2, e_cd, seqS_nil, seqS_cons, e_boX, boS_one, boS_and, boS_or, e_tupX, e_lstX, prS_nil, prS_cons, e_dicX, e_attr, e_oN, e_oS, partD_i, e_slc, e_stp, e_sub, e_noE, noO_ok, e_lcX, e_lc2X, e_dcX, e_any, e_all, e_gsum, e_gtup, e_cal, e_bi, e_meth, e_tldX, e_ntB, e_boB, boT_and0, boT_or0, boT_and, boT_or, e_c1B, e_c2B, e_tru, e_ttB, e_rg1, e_rg2, e_zpI, e_enI, e_dkI, e_dvI, zpO_l, zpO_t, enO_l, dkO_d, dvO_d, e_itI, e_nxS, e_bkS, e_ctS, e_rnS, e_raS, e_reS, e_apS, apO_l, e_moS, e_exS, e_asS, e_poS, e_laS, e_paS, parQ_nil, parQ_cons, e_tuS, e_nmT, e_tpT, e_tpK, e_tpL, tpTs_nil, tpTs_cons, e_stS, setO_some, setO_d0, setO_d1, setO_d2, e_flS, e_auS, e_ifS, e_foS, e_sq, sqO_nx, sqO_rt, sqO_bk, sqO_ct, endO_rt, endO_nx, endC_nx, b_add, b_sub, b_mull, b_mulr, b_div, b_mod, b_addL, b_addT, b_addS, b_mulL, n_neg, a_bl, c_lt, c_le, c_gt, c_ge, c_eqi, c_nei, x_wide, x_high, x_nums, x_rng, x_mkL, x_mkT, x_itl, x_itt, x_len, x_lent, x_int, x_intb, x_min, x_max, x_list, x_tuple, x_tup2, x_abs, x_bl, x_flw, x_flh, x_fln, x_augL, x_augI, w_nil, w_cons, i_le, i_nle, i_lt, i_nlt, i_eq, i_neq, n_le, n_lt, decide_true, decide_false, Option.map_some, Option.bind_some, List.getElem?_cons_zero, List.getElem?_cons_succ, List.set_cons_zero, List.set_cons_succ, List.map_cons, List.map_nil, List.cons_append, List.nil_append, List.length_cons, List.length_nil, List.replicate_zero, List.replicate_succ, Nat.reduceAdd, Nat.reduceSub, Bool.not_true, Bool.not_false, Bool.false_eq_true, if_true, if_false, true_and, and_true, ↓reduceIte, List.append_nil, Nat.zero_add, false_and, and_false, eq_self, and_self, x_rng2, x_listl, i_ne, x_ixt, x_ixl, x_ixk, x_sl, x_sll, x_row, x_cutR, x_strev, repL_one, at_tab, at_rng, bnd_assoc, x_pic, x_asl, endC_pic, nxp_nx, nxp_ct, List.length_map, len_rng, toNat_ok, x_sumR, x_sumt, x_suml, Int.zero_add, lcL_cons, lcL_nil, anyL_cons, anyL_nil, allL_cons, allL_nil, forO_nx, forO_ct, forO_bk, forO_rt, forL_cons, forL_nil, at_0, at_1, at_2, at_3, at_4, lc2L_cons, lc2L_nil, sum_cons, sum_nil, x_d0, x_d1, x_d2, x_ow, x_oh, x_or, x_sw, x_sh, x_own, x_own2, x_siz, x_siz2, x_mkTab, x_mkGrid, slF_siz, slF_own, frzS_siz, frzS_own, ok_noO, Bool.true_and, Bool.false_and, Bool.and_true, Bool.and_false, $ls,*])
def SpHolds (F : Fn) : Prop := ∀ w h f x y dc, F [picD w h f, .int x, .int y] dc = .ok (.bl (decide (0 ≤ x ∧ x < w ∧ 0 ≤ y ∧ y < h))) dc
def SpAt (F : Fn) : Prop := ∀ w h f x y dc, w ≤ 64 → 0 ≤ x → x < w → 0 ≤ y → y < h → F [picD w h f, .int x, .int y] dc = .ok (.int (f x y)) dc
def SpNear (F : Fn) : Prop := ∀ w h f x y dc, 1 ≤ w → w ≤ 64 → 1 ≤ h → F [picD w h f, .int x, .int y] dc = .ok (.int (f (min (w - 1) (max 0 x)) (min (h - 1) (max 0 y)))) dc
def SpRow (F : Fn) : Prop := ∀ w h f y dc, 1 ≤ w → w ≤ 64 → 0 ≤ y → y < h → F [picD w h f, .int y] dc = .ok (.tup ((rng w).map fun x => .int (f x y))) dc
def HasM (Γ : Gm) (m : Str) (S : Fn → Prop) : Prop := ∃ F, Γ.me.lookup (("Picture" : Str), m) = some F ∧ S F
def SpPic (F : Fn) : Prop := ∀ w h f dc, POk w h f → F [.int w, .int h, .lst ((tab w h f).map .int)] dc = .ok (picD w h f) dc
def SpPart (F : Fn) : Prop := ∀ w h f x y a b dc, POk w h f → 0 ≤ x → 0 ≤ y → 1 ≤ a → 1 ≤ b → x + a ≤ w → y + b ≤ h → F [picD w h f, .int x, .int y, .int a, .int b] dc = .ok (picD a b fun i j => f (x + i) (y + j)) dc
def SpSame (F : Fn) : Prop := ∀ w h f g dc, (∀ x y, 0 ≤ x → x < w → 0 ≤ y → y < h → f x y = g x y) → F [picD w h f, picD w h g] dc = .ok (.bl true) dc
theorem sp_holds : SpHolds (run 3 3 (s_Picture_holds Γ)) := fun w h f x y dc => by
  refine run_eq rfl ?_
  unfold s_Picture_holds
  simp_arith []
  by_cases h1 : 0 ≤ x
  · by_cases h2 : x < w
    · by_cases h3 : 0 ≤ y
      · simp_arith [h1, h2, h3]
      · simp_arith [h1, h2, h3]
    · simp_arith [h1, h2]
  · simp_arith [h1]
theorem sp_at (hh : HasM Γ "holds" SpHolds) : SpAt (run 3 3 (s_Picture_at Γ)) := fun w h f x y dc w2 x0 x1 y0 y1 => by
  obtain ⟨F, e, hF⟩ := hh
  refine run_eq rfl ?_
  unfold s_Picture_at
  simp_arith [m_pic e (fun _ _ _ => rfl), hF w h f]
theorem sp_near (hh : HasM Γ "at" SpAt) : SpNear (run 3 3 (s_Picture_near Γ)) := fun w h f x y dc w1 w2 h1 => by
  obtain ⟨F, e, hF⟩ := hh
  refine run_eq rfl ?_
  unfold s_Picture_near
  simp_arith [m_pic e (fun _ _ _ => rfl), hF w h f]
theorem sp_row : SpRow (run 2 2 (s_Picture_row Γ)) := fun w h f y dc w1 w2 y0 y1 => by
  refine run_eq rfl ?_
  unfold s_Picture_row
  simp_arith []
theorem sp_pic : SpPic (runC "Picture" 4 6 (s_Picture_init Γ)) := fun w h f dc ⟨w1, w2, h1, h2, hn⟩ => by
  refine runC_eq rfl ?_
  unfold s_Picture_init
  have m := Int.mul_nonneg (show 0 ≤ w by omega) (show 0 ≤ h by omega)
  have e : ((tab w h f).length : Int) = w * h := by rw [tab_len (by omega) (by omega)]; omega
  simp_arith [e]
  refine ok_any (xs := tab w h f) (emb := D.int) ?_ ?_
  · intro v hv
    obtain ⟨x, y, a, b, c, d, rfl⟩ := mem_tab.mp hv
    have := hn x y a b c d
    refine ⟨_, rfl, ?_, ?_⟩
    · simp_arith []
    · simp_arith []
  · simp_arith []
theorem sp_part (hh : HasM Γ "holds" SpHolds) (hr : HasM Γ "row" SpRow) {P : Fn} (hP : SpPic P) : SpPart (run 5 7 (s_Picture_part Γ P)) := fun w h f x y a b dc ⟨w1, w2, h1, h2, hn⟩ x0 y0 a1 b1 xa yb => by
  obtain ⟨F, e, hF⟩ := hh
  obtain ⟨R, er, hR⟩ := hr
  refine run_eq rfl ?_
  unfold s_Picture_part
  simp_arith [m_pic e (fun _ _ _ => rfl), hF w h f, m_pic er (fun _ _ _ => rfl), hR w h f]
  refine ok_forR (n := b) (fun i ρ d => d = dc ∧ ∃ s, ρ = [.va (picD w h f), .va (.int x), .va (.int y), .va (.int a), .va (.int b), .ow (.lst ((tab a i fun i j => f (x + i) (y + j)).map .int)), s]) (by omega) ?_ ?_ ?_
  · exact ⟨rfl, _, rfl⟩
  · rintro i ρ d i0 i1 ⟨rfl, s, rfl⟩
    have hl := tab_le (w := a) (h := i) (f := fun i j => f (x + i) (y + j)) (by omega) (by omega)
    refine ⟨_, rfl, ?_⟩
    simp_arith [m_pic er (fun _ _ _ => rfl), hR w h f]
    exact ⟨_, by rw [tab_succ i0, List.map_append, List.map_map]; rfl⟩
  · rintro ρ d ⟨rfl, s, rfl⟩
    simp_arith [hP a b (fun i j => f (x + i) (y + j)) d ⟨by omega, by omega, by omega, by omega, fun i j a b c d => hn _ _ (by omega) (by omega) (by omega) (by omega)⟩]
theorem sp_same : SpSame (run 2 2 (s_Picture_is_same Γ)) := fun w h f g dc hfg => by
  refine run_eq rfl ?_
  unfold s_Picture_is_same
  rw [tab_ext hfg |> fun e => show picD w h f = picD w h g by unfold picD; rw [e]]
  have e : ([.int w, .int h, .tup ((tab w h g).map .int)] : List D).all (eqOk 8) = true := by simp [eqOk, eqOk_map]
  simp_arith [c_same e]
def SpPlain (F : Fn) : Prop := ∀ w h v dc, 1 ≤ w → w ≤ 64 → 1 ≤ h → h ≤ 64 → 0 ≤ v → v ≤ 255 → F [.int w, .int h, .int v] dc = .ok (picD w h fun _ _ => v) dc
theorem tab_const {w h v : Int} (hw : 1 ≤ w) (hh : 0 ≤ h) : (rng (w * h)).map (fun _ => v) = tab w h fun _ _ => v := by
  unfold tab
  rw [flat_rng (g := fun _ _ => v) hw hh, Int.mul_comm]
theorem sp_plain {P : Fn} (hP : SpPic P) : SpPlain (run 3 3 (s_plain Γ P)) := fun w h v dc w1 w2 h1 h2 v0 v1 => by
  refine run_eq rfl ?_
  unfold s_plain
  have m : w * h ≤ 64 * 64 := Int.mul_le_mul w2 h2 (by omega) (by omega)
  have m0 := Int.mul_nonneg (show 0 ≤ w by omega) (show 0 ≤ h by omega)
  have e1 : max 0 w = w := by omega
  have e2 : max 0 h = h := by omega
  have e3 : (rng (w * h)).map (fun _ => D.int v) = (tab w h fun _ _ => v).map D.int := by rw [← tab_const w1 (by omega), List.map_map]; rfl
  simp_arith [e1, e2, e3, hP w h (fun _ _ => v) dc ⟨w1, w2, h1, h2, fun _ _ _ _ _ _ => ⟨v0, v1⟩⟩]
def rowsD (w h : Int) (f : Int → Int → Int) : D := .lst ((rng h).map fun y => .lst ((rng w).map fun x => .int (f x y)))
def SpRows (F : Fn) : Prop := ∀ w h f dc, POk w h f → F [.lst ((rng h).map fun y => .lst ((rng w).map fun x => .int (f x y)))] dc = .ok (picD w h f) dc
theorem sp_rows {P : Fn} (hP : SpPic P) : SpRows (run 1 3 (s_from_rows Γ P)) := fun w h f dc ok => by
  obtain ⟨w1, w2, h1, h2, hn⟩ := id ok
  refine run_eq rfl ?_
  unfold s_from_rows
  simp_arith []
  refine ok_anyR ?_ ?_
  · intro y y0 y1
    refine ⟨_, rfl, ?_, ?_⟩
    · simp_arith []
    · simp_arith []
  · simp_arith []
    refine ok_forR (n := h) (fun i ρ d => d = dc ∧ ∃ s, ρ = [.va (rowsD w h f), s, .ow (.lst ((tab w i f).map .int))]) (by omega) ?_ ?_ ?_
    · exact ⟨rfl, _, rfl⟩
    · rintro i ρ d i0 i1 ⟨rfl, s, rfl⟩
      have hl := tab_le (w := w) (h := i) (f := f) (by omega) (by omega)
      refine ⟨_, rfl, ?_⟩
      simp_arith []
      exact ⟨_, by rw [tab_succ i0, List.map_append, List.map_map]; rfl⟩
    · rintro ρ d ⟨rfl, s, rfl⟩
      simp_arith [rowsD, hP w h f d ok]
end Sh
set_option maxRecDepth 100000
set_option maxHeartbeats 2000000
/-! ST: what the turns answer. -/
namespace Sh
open PySem Px
variable {Γ : Gm} [GOk Γ]
local macro_rules
  | `(tactic| simp_arith [$ls,*]) => `(tactic| simp (disch := first | assumption | omega | (simp only [szL, List.length_map, List.length_append, List.length_cons, List.length_nil, len_rng] ; omega)) only [bnd_ok, bnd_er, lft_some, ok_ok, e_rdV, e_rdB, vaS_va, vbS_va, vbS_ow, e_frz0, e_frz, frzG_some, frzG_none, frzS_va, frzS_no, frzS_la, frzS_d, frzS_lt, frzS_lf, frzS_ot, frzS_of, slF_f, slF_l, slF_d, slF_i, slF_t, slF_s, slF_b, slF_n, slF_o, e_isOw, isOw_ow, isOw_va, e_owned, ownS_ow, e_aimed, aimS_ow, aimS_dice, rcvI_va, rcvI_l, rcvI_d, rcvI_o, rcvJ_va, rcvJ_l, rcvJ_d, e_rdR, e_rdL, e_cst, e_bin, e_neg, e_ntX, e_cm1, e_cm2, e_cd, seqS_nil, seqS_cons, e_boX, boS_one, boS_and, boS_or, e_tupX, e_lstX, prS_nil, prS_cons, e_dicX, e_attr, e_oN, e_oS, partD_i, e_slc, e_stp, e_sub, e_noE, noO_ok, e_lcX, e_lc2X, e_dcX, e_any, e_all, e_gsum, e_gtup, e_cal, e_bi, e_meth, e_tldX, e_ntB, e_boB, boT_and0, boT_or0, boT_and, boT_or, e_c1B, e_c2B, e_tru, e_ttB, e_rg1, e_rg2, e_zpI, e_enI, e_dkI, e_dvI, zpO_l, zpO_t, enO_l, dkO_d, dvO_d, e_itI, e_nxS, e_bkS, e_ctS, e_rnS, e_raS, e_reS, e_apS, apO_l, e_moS, e_exS, e_asS, e_poS, e_laS, e_paS, parQ_nil, parQ_cons, e_tuS, e_nmT, e_tpT, e_tpK, e_tpL, tpTs_nil, tpTs_cons, e_stS, setO_some, setO_d0, setO_d1, setO_d2, e_flS, e_auS, e_ifS, e_foS, e_sq, sqO_nx, sqO_rt, sqO_bk, sqO_ct, endO_rt, endO_nx, endC_nx, b_add, b_sub, b_mull, b_mulr, b_div, b_mod, b_addL, b_addT, b_addS, b_mulL, n_neg, a_bl, c_lt, c_le, c_gt, c_ge, c_eqi, c_nei, x_wide, x_high, x_nums, x_rng, x_mkL, x_mkT, x_itl, x_itt, x_len, x_lent, x_int, x_intb, x_min, x_max, x_list, x_tuple, x_tup2, x_abs, x_bl, x_flw, x_flh, x_fln, x_augL, x_augI, w_nil, w_cons, i_le, i_nle, i_lt, i_nlt, i_eq, i_neq, n_le, n_lt, decide_true, decide_false, Option.map_some, Option.bind_some, List.getElem?_cons_zero, List.getElem?_cons_succ, List.set_cons_zero, List.set_cons_succ, List.map_cons, List.map_nil, List.cons_append, List.nil_append, List.length_cons, List.length_nil, List.replicate_zero, List.replicate_succ, Nat.reduceAdd, Nat.reduceSub, Bool.not_true, Bool.not_false, Bool.false_eq_true, if_true, if_false, true_and, and_true, ↓reduceIte, List.append_nil, Nat.zero_add, false_and, and_false, eq_self, and_self, x_rng2, x_listl, i_ne, x_ixt, x_ixl, x_ixk, x_sl, x_sll, x_row, x_cutR, x_strev, repL_one, at_tab, at_rng, bnd_assoc, x_pic, x_asl, endC_pic, nxp_nx, nxp_ct, List.length_map, len_rng, toNat_ok, x_sumR, x_sumt, x_suml, Int.zero_add, lcL_cons, lcL_nil, anyL_cons, anyL_nil, allL_cons, allL_nil, forO_nx, forO_ct, forO_bk, forO_rt, forL_cons, forL_nil, at_0, at_1, at_2, at_3, at_4, lc2L_cons, lc2L_nil, sum_cons, sum_nil, x_d0, x_d1, x_d2, x_ow, x_oh, x_or, x_sw, x_sh, x_own, x_own2, x_siz, x_siz2, x_mkTab, x_mkGrid, slF_siz, slF_own, frzS_siz, frzS_own, ok_noO, Bool.true_and, Bool.false_and, Bool.and_true, Bool.and_false, $ls,*])
abbrev P3 := Int × Int × (Int → Int → Int)
abbrev picP (p : P3) : D := picD p.1 p.2.1 p.2.2
abbrev rowsP (p : P3) : D := rowsD p.1 p.2.1 p.2.2
def rot (p : P3) : P3 := (p.2.1, p.1, fun x y => p.2.2 y (p.2.1 - 1 - x))
def rotI : Nat → P3 → P3
  | 0, p => p
  | n + 1, p => rot (rotI n p)
theorem POk.rot {p : P3} (h : POk p.1 p.2.1 p.2.2) : POk (rot p).1 (rot p).2.1 (rot p).2.2 := ⟨h.h1, h.h2, h.w1, h.w2, fun x y a b c d => h.n _ _ c d (by simp only [Sh.rot] at b ⊢; omega) (by omega)⟩
theorem POk.rotI {p : P3} (h : POk p.1 p.2.1 p.2.2) : ∀ n, POk (rotI n p).1 (rotI n p).2.1 (rotI n p).2.2
  | 0 => h
  | n + 1 => (h.rotI n).rot
def SpQuarter (F : Fn) : Prop := ∀ w h f m dc, POk w h f → F [picD w h f, .int m] dc = .ok (picP (rotI (m % 4).toNat (w, h, f))) dc
theorem sp_quarter (hr : HasM Γ "row" SpRow) {P : Fn} (hP : SpRows P) : SpQuarter (run 2 7 (s_quarter Γ P)) := fun w h f m dc ok => by
  obtain ⟨w1, w2, h1, h2, hn⟩ := id ok
  obtain ⟨R, er, hR⟩ := hr
  refine run_eq rfl ?_
  unfold s_quarter
  simp_arith []
  refine ok_lcR (fun y => .lst ((rng w).map fun x => .int (f x y))) ?_ ?_
  · intro y y0 y1
    refine ⟨_, rfl, ?_, ?_⟩
    · simp_arith []
    · simp_arith [m_pic er (fun _ _ _ => rfl), hR w h f]
  · simp_arith []
    refine ok_forR (n := m % 4) (fun i ρ d => d = dc ∧ ∃ s1 s2 s3 s4, ρ = [.va (picD w h f), .va (.int m), .ow (rowsP (rotI i.toNat (w, h, f))), s1, s2, s3, s4]) (by omega) ?_ ?_ ?_
    · exact ⟨rfl, _, _, _, _, rfl⟩
    · rintro i ρ d i0 i1 ⟨rfl, s1, s2, s3, s4, rfl⟩
      have ok' := POk.rotI (p := (w, h, f)) ok i.toNat
      generalize hp : rotI i.toNat (w, h, f) = p at ok'
      obtain ⟨w', h', f'⟩ := p
      obtain ⟨w1', w2', h1', h2', hn'⟩ := id ok'
      simp only at w1' w2' h1' h2'
      refine ⟨_, rfl, ?_⟩
      simp_arith [rowsP, rowsD]
      refine ok_lcR (fun x => .lst ((rng h').map fun y => .int (f' x (h' - 1 - y)))) ?_ ?_
      · intro x x0 x1
        refine ⟨_, rfl, ?_, noe_ok ?_⟩
        · simp_arith []
        · simp_arith []
          refine ok_lcR (fun y => .int (f' x (h' - 1 - y))) ?_ ?_
          · intro y y0 y1
            refine ⟨_, rfl, ?_, ?_⟩
            · simp_arith []
            · simp_arith []
          · simp_arith []
      · simp_arith []
        have e : (i + 1).toNat = i.toNat + 1 := by omega
        exact ⟨_, _, _, _, by rw [e, rotI, hp]; rfl⟩
    · rintro ρ d ⟨rfl, s1, s2, s3, s4, rfl⟩
      have ok' := POk.rotI (p := (w, h, f)) ok (m % 4).toNat
      simp_arith [rowsP, rowsD, hP _ _ _ d ok']
def SpOver (F : Fn) : Prop := ∀ w h f dc, POk w h f → F [picD w h f, .bl true] dc = .ok (picD w h fun x y => f (w - 1 - x) y) dc ∧ F [picD w h f, .bl false] dc = .ok (picD w h fun x y => f x (h - 1 - y)) dc
theorem sp_over (hr : HasM Γ "row" SpRow) {P : Fn} (hP : SpRows P) : SpOver (run 2 5 (s_over Γ P)) := fun w h f dc ok => by
  obtain ⟨w1, w2, h1, h2, hn⟩ := id ok
  obtain ⟨R, er, hR⟩ := hr
  refine ⟨run_eq rfl ?_, run_eq rfl ?_⟩
  · unfold s_over
    simp_arith []
    refine ok_lcR (fun y => .lst ((rng w).map fun x => .int (f x y))) ?_ ?_
    · intro y y0 y1
      refine ⟨_, rfl, ?_, ?_⟩
      · simp_arith []
      · simp_arith [m_pic er (fun _ _ _ => rfl), hR w h f]
    · simp_arith []
      refine ok_lcR (fun y => .lst ((rng w).map fun x => .int (f (w - 1 - x) y))) ?_ ?_
      · intro y y0 y1
        refine ⟨_, rfl, ?_, ?_⟩
        · simp_arith []
        · simp_arith []
      · simp_arith [hP w h (fun x y => f (w - 1 - x) y) dc ⟨w1, w2, h1, h2, fun x y a b c d => hn _ _ (by omega) (by omega) c d⟩]
  · unfold s_over
    simp_arith []
    refine ok_lcR (fun y => .lst ((rng w).map fun x => .int (f x y))) ?_ ?_
    · intro y y0 y1
      refine ⟨_, rfl, ?_, ?_⟩
      · simp_arith []
      · simp_arith [m_pic er (fun _ _ _ => rfl), hR w h f]
    · simp_arith [hP w h (fun x y => f x (h - 1 - y)) dc ⟨w1, w2, h1, h2, fun x y a b c d => hn _ _ a b (by omega) (by omega)⟩]
def SpLarger (F : Fn) : Prop := ∀ w h f t dc, POk w h f → 1 ≤ t → t ≤ 8 → w * t ≤ 64 → h * t ≤ 64 → F [picD w h f, .int t] dc = .ok (picD (w * t) (h * t) fun x y => f (x / t) (y / t)) dc
theorem rng_map_mul {α : Type} {n t : Int} {g : Int → α} (hn : 0 ≤ n) (ht : 1 ≤ t) : ((rng n).flatMap fun x => (rng t).map fun _ => g x) = (rng (n * t)).map fun i => g (i / t) := flat_rng (g := fun _ y => g y) ht hn
theorem sp_larger (hr : HasM Γ "row" SpRow) {P : Fn} (hP : SpRows P) : SpLarger (run 2 6 (s_larger Γ P)) := fun w h f t dc ok t1 t2 wt ht => by
  obtain ⟨w1, w2, h1, h2, hn⟩ := id ok
  obtain ⟨R, er, hR⟩ := hr
  have em : max w h * t ≤ 64 := by
    rcases Int.le_total w h with q | q
    · rw [Int.max_eq_right q]; exact ht
    · rw [Int.max_eq_left q]; exact wt
  refine run_eq rfl ?_
  unfold s_larger
  simp_arith []
  refine ok_forR (n := h) (fun i ρ d => d = dc ∧ ∃ s1 s2 s3, ρ = [.va (picD w h f), .va (.int t), .ow (.lst ((rng (i * t)).map fun y => .lst ((rng (w * t)).map fun x => .int (f (x / t) (y / t))))), s1, s2, s3]) (by omega) ?_ ?_ ?_
  · exact ⟨rfl, _, _, _, by simp only [Int.zero_mul]; rfl⟩
  · rintro i ρ d i0 i1 ⟨rfl, s1, s2, s3, rfl⟩
    refine ⟨_, rfl, ?_⟩
    simp_arith [m_pic er (fun _ _ _ => rfl), hR w h f]
    refine ok_forR (n := w) (fun j ρ d' => d' = d ∧ ∃ s1, ρ = [.va (picD w h f), .va (.int t), .ow (.lst ((rng (i * t)).map fun y => .lst ((rng (w * t)).map fun x => .int (f (x / t) (y / t))))), .va (.int i), .ow (.lst ((rng (j * t)).map fun x => .int (f (x / t) i))), s1]) (by omega) ?_ ?_ ?_
    · exact ⟨rfl, _, by simp only [Int.zero_mul]; rfl⟩
    · rintro j ρ d' j0 j1 ⟨rfl, s1, rfl⟩
      have b1 : j * t ≤ 64 * 8 := Int.mul_le_mul (by omega) t2 (by omega) (by omega)
      refine ⟨_, rfl, ?_⟩
      simp_arith []
      have e := rng_blk (fun q => D.int (f q i)) j0 t1
      rw [e]
      exact ⟨_, rfl⟩
    · rintro ρ d' ⟨rfl, s1, rfl⟩
      have b1 : i * t ≤ 64 * 8 := Int.mul_le_mul (by omega) t2 (by omega) (by omega)
      have b0 := Int.mul_nonneg i0 (show 0 ≤ t by omega)
      simp_arith [repL_one]
      have e := rng_blk (fun q => D.lst (List.map (fun x => D.int (f (x / t) q)) (rng (w * t)))) i0 t1
      rw [e]
      exact ⟨_, _, _, rfl⟩
  · rintro ρ d ⟨rfl, s1, s2, s3, rfl⟩
    have w0 := Int.mul_le_mul_of_nonneg_left t1 (show 0 ≤ w by omega)
    have h0 := Int.mul_le_mul_of_nonneg_left t1 (show 0 ≤ h by omega)
    simp_arith [hP (w * t) (h * t) (fun x y => f (x / t) (y / t)) d ⟨by omega, wt, by omega, ht, fun x y a b c d => hn _ _ (Int.ediv_nonneg a (by omega)) (Int.ediv_lt_of_lt_mul (by omega) b) (Int.ediv_nonneg c (by omega)) (Int.ediv_lt_of_lt_mul (by omega) d)⟩]
/-- the sum of a square of numbers -/
def sqS (t : Int) (f : Int → Int → Int) (x y : Int) : Int := ((rng t).map fun j => ((rng t).map fun i => f (x * t + i) (y * t + j)).sum).sum
def SpSmaller (F : Fn) : Prop := ∀ w h f t dc, POk w h f → 1 ≤ t → t ≤ w → t ≤ h → F [picD w h f, .int t] dc = .ok (picD (w / t) (h / t) fun x y => sqS t f x y / (t * t)) dc
theorem sp_smaller (hr : HasM Γ "row" SpRow) {P : Fn} (hP : SpRows P) : SpSmaller (run 2 8 (s_smaller Γ P)) := fun w h f t dc ok t1 tw th => by
  obtain ⟨w1, w2, h1, h2, hn⟩ := id ok
  obtain ⟨R, er, hR⟩ := hr
  have tt : t * t ≤ 64 * 64 := Int.mul_le_mul (by omega) (by omega) (by omega) (by omega)
  have tt0 : 0 < t * t := Int.mul_pos (by omega) (by omega)
  have q1 : 0 ≤ w / t := Int.ediv_nonneg (by omega) (by omega)
  have q2 : 0 ≤ h / t := Int.ediv_nonneg (by omega) (by omega)
  have q3 : w / t ≤ w := Int.ediv_le_self _ (by omega)
  have q4 : h / t ≤ h := Int.ediv_le_self _ (by omega)
  refine run_eq rfl ?_
  unfold s_smaller
  simp_arith []
  refine ok_forR (n := h / t) (fun i ρ d => d = dc ∧ ∃ s1 s2 s3 s4 s5, ρ = [.va (picD w h f), .va (.int t), .ow (.lst ((rng i).map fun y => .lst ((rng (w / t)).map fun x => .int (sqS t f x y / (t * t))))), s1, s2, s3, s4, s5]) q2 ?_ ?_ ?_
  · exact ⟨rfl, _, _, _, _, _, rfl⟩
  · rintro i ρ d i0 i1 ⟨rfl, s1, s2, s3, s4, s5, rfl⟩
    refine ⟨_, rfl, ?_⟩
    simp_arith []
    refine ok_forR (n := w / t) (fun j ρ d' => d' = d ∧ ∃ s1 s2 s3, ρ = [.va (picD w h f), .va (.int t), .ow (.lst ((rng i).map fun y => .lst ((rng (w / t)).map fun x => .int (sqS t f x y / (t * t))))), .va (.int i), .ow (.lst ((rng j).map fun x => .int (sqS t f x i / (t * t)))), s1, s2, s3]) q1 ?_ ?_ ?_
    · exact ⟨rfl, _, _, _, rfl⟩
    · rintro j ρ d' j0 j1 ⟨rfl, s1, s2, s3, rfl⟩
      refine ⟨_, rfl, ?_⟩
      simp_arith []
      refine ok_lcR (fun k => .int (((rng t).map fun l => f (j * t + l) (i * t + k)).sum)) ?_ ?_
      · intro k k0 k1
        refine ⟨_, rfl, ?_, ?_⟩
        · simp_arith []
        · have b1 := blk_le (show 0 < t by omega) i1
          have b2 := blk_le (show 0 < t by omega) j1
          have b3 := Int.mul_nonneg i0 (show 0 ≤ t by omega)
          have b4 := Int.mul_nonneg j0 (show 0 ≤ t by omega)
          have e1 : (j + 1) * t = j * t + t := by rw [Int.add_mul]; omega
          have e2 : j * t + t - j * t = t := by omega
          simp_arith [m_pic er (fun _ _ _ => rfl), hR w h f, e1, e2]
      · simp_arith [rng_succ j0]
        exact ⟨_, _, _, by rw [List.map_append]; rfl⟩
    · rintro ρ d' ⟨rfl, s1, s2, s3, rfl⟩
      simp_arith [rng_succ i0]
      exact ⟨_, _, _, _, _, by rw [List.map_append]; rfl⟩
  · rintro ρ d ⟨rfl, s1, s2, s3, s4, s5, rfl⟩
    have z1 : 1 ≤ w / t := (Int.le_ediv_iff_mul_le (by omega)).mpr (by omega)
    have z2 : 1 ≤ h / t := (Int.le_ediv_iff_mul_le (by omega)).mpr (by omega)
    simp_arith [hP (w / t) (h / t) (fun x y => sqS t f x y / (t * t)) d ⟨z1, by omega, z2, by omega, fun x y a b c d => by
      have b1 := blk_le (show 0 < t by omega) b
      have b2 := blk_le (show 0 < t by omega) d
      have b3 := Int.mul_nonneg a (show 0 ≤ t by omega)
      have b4 := Int.mul_nonneg c (show 0 ≤ t by omega)
      have s1 := sumR_bd (n := t) (b := t * 255) (g := fun j => ((rng t).map fun i => f (x * t + i) (y * t + j)).sum) (by omega) fun j j0 j1 => sumR_bd (n := t) (b := 255) (g := fun i => f (x * t + i) (y * t + j)) (by omega) fun i i0 i1 => hn _ _ (by omega) (by omega) (by omega) (by omega)
      refine ⟨Int.ediv_nonneg s1.1 (by omega), ?_⟩
      have := Int.ediv_lt_of_lt_mul tt0 (show sqS t f x y < 256 * (t * t) from ?_)
      · omega
      · have s2 := s1.2
        rw [← Int.mul_assoc] at s2
        exact Int.lt_of_le_of_lt s2 (by omega)⟩]
/-- the number of the nearest spot -/
def nf (w h : Int) (f : Int → Int → Int) (x y : Int) : Int := f (min (w - 1) (max 0 x)) (min (h - 1) (max 0 y))
def bet (w h : Int) (f : Int → Int → Int) (a m b n : Int) : Int :=
  (2 * ((m - (a - a / m * m)) * (n - (b - b / n * n)) * nf w h f (a / m) (b / n) + (a - a / m * m) * (n - (b - b / n * n)) * nf w h f (a / m + 1) (b / n) + ((m - (a - a / m * m)) * (b - b / n * n) * nf w h f (a / m) (b / n + 1) + (a - a / m * m) * (b - b / n * n) * nf w h f (a / m + 1) (b / n + 1))) + m * n) / (2 * m * n)
theorem nf_ok {w h f x y} (ok : POk w h f) : 0 ≤ nf w h f x y ∧ nf w h f x y ≤ 255 := by
  obtain ⟨w1, w2, h1, h2, hn⟩ := ok
  exact hn _ _ (by omega) (by omega) (by omega) (by omega)
theorem rem_ok {a m : Int} (hm : 0 < m) : 0 ≤ a - a / m * m ∧ a - a / m * m < m := by
  have h1 := Int.emod_nonneg a (show m ≠ 0 by omega)
  have h2 := Int.emod_lt_of_pos a hm
  have h3 := Int.mul_ediv_add_emod a m
  rw [Int.mul_comm] at h3
  omega
theorem bet_ok {w h f a m b n} (ok : POk w h f) (hm : 0 < m) (hn : 0 < n) : 0 ≤ bet w h f a m b n ∧ bet w h f a m b n ≤ 255 := by
  have r1 := rem_ok (a := a) hm
  have r2 := rem_ok (a := b) hn
  unfold bet
  generalize a - a / m * m = r at *
  generalize b - b / n * n = s at *
  have n1 := nf_ok (x := a / m) (y := b / n) ok
  have n2 := nf_ok (x := a / m + 1) (y := b / n) ok
  have n3 := nf_ok (x := a / m) (y := b / n + 1) ok
  have n4 := nf_ok (x := a / m + 1) (y := b / n + 1) ok
  generalize nf w h f (a / m) (b / n) = v1 at *
  generalize nf w h f (a / m + 1) (b / n) = v2 at *
  generalize nf w h f (a / m) (b / n + 1) = v3 at *
  generalize nf w h f (a / m + 1) (b / n + 1) = v4 at *
  have p1 := Int.mul_nonneg (show 0 ≤ m - r by omega) (show 0 ≤ n - s by omega)
  have p2 := Int.mul_nonneg (show 0 ≤ r by omega) (show 0 ≤ n - s by omega)
  have p3 := Int.mul_nonneg (show 0 ≤ m - r by omega) (show 0 ≤ s by omega)
  have p4 := Int.mul_nonneg (show 0 ≤ r by omega) (show 0 ≤ s by omega)
  have sum : (m - r) * (n - s) + r * (n - s) + ((m - r) * s + r * s) = m * n := by
    simp only [Int.sub_mul, Int.mul_sub]
    omega
  have mn := Int.mul_pos hm hn
  have e2 : 2 * m * n = 2 * (m * n) := Int.mul_assoc ..
  generalize (m - r) * (n - s) = c1 at *
  generalize r * (n - s) = c2 at *
  generalize (m - r) * s = c3 at *
  generalize r * s = c4 at *
  have k : ∀ {c v : Int}, 0 ≤ c → 0 ≤ v ∧ v ≤ 255 → 0 ≤ c * v ∧ c * v ≤ c * 255 := fun hc hv => ⟨Int.mul_nonneg hc hv.1, Int.mul_le_mul_of_nonneg_left hv.2 hc⟩
  have k1 := k p1 n1
  have k2 := k p2 n2
  have k3 := k p3 n3
  have k4 := k p4 n4
  rw [e2]
  refine ⟨Int.ediv_nonneg (by omega) (by omega), ?_⟩
  have : (2 * (c1 * v1 + c2 * v2 + (c3 * v3 + c4 * v4)) + m * n) / (2 * (m * n)) < 256 := Int.ediv_lt_of_lt_mul (by omega) (by omega)
  omega
def SpBetween (F : Fn) : Prop := ∀ w h f a m b n dc, POk w h f → 1 ≤ m → m ≤ 1000 → 1 ≤ n → n ≤ 1000 → F [picD w h f, .int a, .int m, .int b, .int n] dc = .ok (.int (bet w h f a m b n)) dc
theorem sp_between (hr : HasM Γ "near" SpNear) : SpBetween (run 5 10 (s_between Γ)) := fun w h f a m b n dc ok m1 m2 n1 n2 => by
  have ok' := ok
  obtain ⟨w1, w2, h1, h2, hn⟩ := ok'
  obtain ⟨R, er, hR⟩ := hr
  have hR' : ∀ x y dc, R [picD w h f, .int x, .int y] dc = .ok (.int (nf w h f x y)) dc := fun x y dc => hR w h f x y dc w1 w2 h1
  have r1 := rem_ok (a := a) (show 0 < m by omega)
  have r2 := rem_ok (a := b) (show 0 < n by omega)
  have mn : m * n ≤ 1000 * 1000 := Int.mul_le_mul m2 n2 (by omega) (by omega)
  have mn0 := Int.mul_pos (show 0 < m by omega) (show 0 < n by omega)
  have e2 : 2 * m * n = 2 * (m * n) := Int.mul_assoc ..
  have k1 := nf_ok (x := a / m) (y := b / n) ok
  have k2 := nf_ok (x := a / m + 1) (y := b / n) ok
  have k3 := nf_ok (x := a / m) (y := b / n + 1) ok
  have k4 := nf_ok (x := a / m + 1) (y := b / n + 1) ok
  refine run_eq rfl ?_
  unfold s_between
  simp_arith [m_pic er (fun _ _ _ => rfl), hR']
  rfl
theorem tab_snoc {w h i : Int} {f : Int → Int → Int} : ∀ {j : Int}, 0 ≤ j → (rng (j + 1)).map (fun x => D.int (f x i)) = (rng j).map (fun x => D.int (f x i)) ++ [D.int (f j i)] := fun h => by rw [rng_succ h, List.map_append]; rfl
def strF (w h : Int) (f : Int → Int → Int) (a b x y : Int) : Int := bet w h f ((2 * x + 1) * w - a) (2 * a) ((2 * y + 1) * h - b) (2 * b)
def SpStretched (F : Fn) : Prop := ∀ w h f a b dc, POk w h f → 1 ≤ a → a ≤ 64 → 1 ≤ b → b ≤ 64 → F [picD w h f, .int a, .int b] dc = .ok (picD a b (strF w h f a b)) dc
theorem sp_stretched {B P : Fn} (hB : SpBetween B) (hP : SpPic P) : SpStretched (run 3 8 (s_stretched Γ B P)) := fun w h f a b dc ok a1 a2 b1 b2 => by
  have ok' := ok
  obtain ⟨w1, w2, h1, h2, hn⟩ := ok'
  refine run_eq rfl ?_
  unfold s_stretched
  simp_arith []
  refine ok_forR (n := b) (fun i ρ d => d = dc ∧ ∃ s1 s2 s3 s4, ρ = [.va (picD w h f), .va (.int a), .va (.int b), .ow (.lst ((tab a i (strF w h f a b)).map .int)), s1, s2, s3, s4]) (by omega) ?_ ?_ ?_
  · exact ⟨rfl, _, _, _, _, rfl⟩
  · rintro i ρ d i0 i1 ⟨rfl, s1, s2, s3, s4, rfl⟩
    refine ⟨_, rfl, ?_⟩
    have hl := tab_le (w := a) (h := i) (f := strF w h f a b) (by omega) (by omega)
    simp_arith []
    refine ok_forR (n := a) (fun j ρ d' => d' = d ∧ ∃ s2 s3 s4, ρ = [.va (picD w h f), .va (.int a), .va (.int b), .ow (.lst ((tab a i (strF w h f a b)).map .int ++ (rng j).map fun x => .int (strF w h f a b x i))), .va (.int i), s2, s3, s4]) (by omega) ?_ ?_ ?_
    · exact ⟨rfl, _, _, _, by simp only [rng_0, List.map_nil, List.append_nil]; rfl⟩
    · rintro j ρ d' j0 j1 ⟨rfl, s2, s3, s4, rfl⟩
      refine ⟨_, rfl, ?_⟩
      have hB' := hB w h f ((2 * j + 1) * w - a) (2 * a) ((2 * i + 1) * h - b) (2 * b) d' ok (by omega) (by omega) (by omega) (by omega)
      simp_arith [hB']
      exact ⟨_, _, _, by rw [rng_succ j0, List.map_append, ← List.append_assoc]; rfl⟩
    · rintro ρ d' ⟨rfl, s2, s3, s4, rfl⟩
      simp_arith []
      exact ⟨_, _, _, _, by rw [tab_succ i0, List.map_append, List.map_map]; rfl⟩
  · rintro ρ d ⟨rfl, s1, s2, s3, s4, rfl⟩
    simp_arith [hP a b (strF w h f a b) d ⟨a1, a2, b1, b2, fun x y _ _ _ _ => bet_ok ok (by omega) (by omega)⟩]
/-- a table's row -/
abbrev rowT (r : Int × Int × Int) : D := .lst [.int r.1, .int r.2.1, .int r.2.2]
def tabF (w h : Int) (f : Int → Int → Int) (r s : Int × Int × Int) (m x y : Int) : Int := bet w h f (r.1 * x + r.2.1 * y + r.2.2) m (s.1 * x + s.2.1 * y + s.2.2) m
def SpByTable (F : Fn) : Prop := ∀ w h f r s m a b dc, POk w h f → 1 ≤ m → m ≤ 1000 → 1 ≤ a → a ≤ 64 → 1 ≤ b → b ≤ 64 → F [picD w h f, .lst [rowT r, rowT s], .int m, .int a, .int b] dc = .ok (picD a b (tabF w h f r s m)) dc
theorem sp_by_table {B P : Fn} (hB : SpBetween B) (hP : SpPic P) : SpByTable (run 5 11 (s_by_table Γ B P)) := fun w h f r s m a b dc ok m1 m2 a1 a2 b1 b2 => by
  have ok' := ok
  obtain ⟨w1, w2, h1, h2, hn⟩ := ok'
  refine run_eq rfl ?_
  unfold s_by_table
  simp_arith []
  refine ok_forR (n := b) (fun i ρ d => d = dc ∧ ∃ s1 s2 s3 s4, ρ = [.va (picD w h f), .va (.lst [rowT r, rowT s]), .va (.int m), .va (.int a), .va (.int b), .no, .ow (.lst ((tab a i (tabF w h f r s m)).map .int)), s1, s2, s3, s4]) (by omega) ?_ ?_ ?_
  · exact ⟨rfl, _, _, _, _, rfl⟩
  · rintro i ρ d i0 i1 ⟨rfl, s1, s2, s3, s4, rfl⟩
    refine ⟨_, rfl, ?_⟩
    have hl := tab_le (w := a) (h := i) (f := tabF w h f r s m) (by omega) (by omega)
    simp_arith []
    refine ok_forR (n := a) (fun j ρ d' => d' = d ∧ ∃ s2 s3 s4, ρ = [.va (picD w h f), .va (.lst [rowT r, rowT s]), .va (.int m), .va (.int a), .va (.int b), .no, .ow (.lst ((tab a i (tabF w h f r s m)).map .int ++ (rng j).map fun x => .int (tabF w h f r s m x i))), .va (.int i), s2, s3, s4]) (by omega) ?_ ?_ ?_
    · exact ⟨rfl, _, _, _, by simp only [rng_0, List.map_nil, List.append_nil]; rfl⟩
    · rintro j ρ d' j0 j1 ⟨rfl, s2, s3, s4, rfl⟩
      refine ⟨_, rfl, ?_⟩
      have hB' := hB w h f (r.1 * j + r.2.1 * i + r.2.2) m (s.1 * j + s.2.1 * i + s.2.2) m d' ok m1 m2 m1 m2
      simp_arith [hB', rowT]
      exact ⟨_, _, _, by rw [rng_succ j0, List.map_append, ← List.append_assoc]; rfl⟩
    · rintro ρ d' ⟨rfl, s2, s3, s4, rfl⟩
      simp_arith []
      exact ⟨_, _, _, _, by rw [tab_succ i0, List.map_append, List.map_map]; rfl⟩
  · rintro ρ d ⟨rfl, s1, s2, s3, s4, rfl⟩
    simp_arith [hP a b (tabF w h f r s m) d ⟨a1, a2, b1, b2, fun x y _ _ _ _ => bet_ok ok (by omega) (by omega)⟩]
end Sh
set_option maxRecDepth 100000
set_option maxHeartbeats 2000000
/-! ST3: rolled, framed, sheared, joined. -/
namespace Sh
open PySem Px
variable {Γ : Gm} [GOk Γ]
local macro_rules
  | `(tactic| simp_arith [$ls,*]) => `(tactic| simp (disch := first | assumption | omega | (simp only [szL, List.length_map, List.length_append, List.length_cons, List.length_nil, len_rng] ; omega)) only [bnd_ok, bnd_er, lft_some, ok_ok, e_rdV, e_rdB, vaS_va, vbS_va, vbS_ow, e_frz0, e_frz, frzG_some, frzG_none, frzS_va, frzS_no, frzS_la, frzS_d, frzS_lt, frzS_lf, frzS_ot, frzS_of, slF_f, slF_l, slF_d, slF_i, slF_t, slF_s, slF_b, slF_n, slF_o, e_isOw, isOw_ow, isOw_va, e_owned, ownS_ow, e_aimed, aimS_ow, aimS_dice, rcvI_va, rcvI_l, rcvI_d, rcvI_o, rcvJ_va, rcvJ_l, rcvJ_d, e_rdR, e_rdL, e_cst, e_bin, e_neg, e_ntX, e_cm1, e_cm2, e_cd, seqS_nil, seqS_cons, e_boX, boS_one, boS_and, boS_or, e_tupX, e_lstX, prS_nil, prS_cons, e_dicX, e_attr, e_oN, e_oS, partD_i, e_slc, e_stp, e_sub, e_noE, noO_ok, e_lcX, e_lc2X, e_dcX, e_any, e_all, e_gsum, e_gtup, e_cal, e_bi, e_meth, e_tldX, e_ntB, e_boB, boT_and0, boT_or0, boT_and, boT_or, e_c1B, e_c2B, e_tru, e_ttB, e_rg1, e_rg2, e_zpI, e_enI, e_dkI, e_dvI, zpO_l, zpO_t, enO_l, dkO_d, dvO_d, e_itI, e_nxS, e_bkS, e_ctS, e_rnS, e_raS, e_reS, e_apS, apO_l, e_moS, e_exS, e_asS, e_poS, e_laS, e_paS, parQ_nil, parQ_cons, e_tuS, e_nmT, e_tpT, e_tpK, e_tpL, tpTs_nil, tpTs_cons, e_stS, setO_some, setO_d0, setO_d1, setO_d2, e_flS, e_auS, e_ifS, e_foS, e_sq, sqO_nx, sqO_rt, sqO_bk, sqO_ct, endO_rt, endO_nx, endC_nx, b_add, b_sub, b_mull, b_mulr, b_div, b_mod, b_addL, b_addT, b_addS, b_mulL, n_neg, a_bl, c_lt, c_le, c_gt, c_ge, c_eqi, c_nei, x_wide, x_high, x_nums, x_rng, x_mkL, x_mkT, x_itl, x_itt, x_len, x_lent, x_int, x_intb, x_min, x_max, x_list, x_tuple, x_tup2, x_abs, x_bl, x_flw, x_flh, x_fln, x_augL, x_augI, w_nil, w_cons, i_le, i_nle, i_lt, i_nlt, i_eq, i_neq, n_le, n_lt, decide_true, decide_false, Option.map_some, Option.bind_some, List.getElem?_cons_zero, List.getElem?_cons_succ, List.set_cons_zero, List.set_cons_succ, List.map_cons, List.map_nil, List.cons_append, List.nil_append, List.length_cons, List.length_nil, List.replicate_zero, List.replicate_succ, Nat.reduceAdd, Nat.reduceSub, Bool.not_true, Bool.not_false, Bool.false_eq_true, if_true, if_false, true_and, and_true, ↓reduceIte, List.append_nil, Nat.zero_add, false_and, and_false, eq_self, and_self, x_rng2, x_listl, i_ne, x_ixt, x_ixl, x_ixk, x_sl, x_sll, x_row, x_cutR, x_strev, repL_one, at_tab, at_rng, bnd_assoc, x_pic, x_asl, endC_pic, nxp_nx, nxp_ct, List.length_map, len_rng, toNat_ok, x_sumR, x_sumt, x_suml, Int.zero_add, lcL_cons, lcL_nil, anyL_cons, anyL_nil, allL_cons, allL_nil, forO_nx, forO_ct, forO_bk, forO_rt, forL_cons, forL_nil, at_0, at_1, at_2, at_3, at_4, lc2L_cons, lc2L_nil, sum_cons, sum_nil, x_d0, x_d1, x_d2, x_ow, x_oh, x_or, x_sw, x_sh, x_own, x_own2, x_siz, x_siz2, x_mkTab, x_mkGrid, slF_siz, slF_own, frzS_siz, frzS_own, ok_noO, Bool.true_and, Bool.false_and, Bool.and_true, Bool.and_false, $ls,*])
def SpRolled (F : Fn) : Prop := ∀ w h f a b dc, POk w h f → F [picD w h f, .int a, .int b] dc = .ok (picD w h fun x y => f ((x - a) % w) ((y - b) % h)) dc
theorem sp_rolled (hr : HasM Γ "row" SpRow) {P : Fn} (hP : SpRows P) : SpRolled (run 3 7 (s_rolled Γ P)) := fun w h f a b dc ok => by
  obtain ⟨w1, w2, h1, h2, hn⟩ := id ok
  obtain ⟨R, er, hR⟩ := hr
  have mw : ∀ z : Int, 0 ≤ z % w ∧ z % w < w := fun z => ⟨Int.emod_nonneg _ (by omega), Int.emod_lt_of_pos _ (by omega)⟩
  have mh : ∀ z : Int, 0 ≤ z % h ∧ z % h < h := fun z => ⟨Int.emod_nonneg _ (by omega), Int.emod_lt_of_pos _ (by omega)⟩
  refine run_eq rfl ?_
  unfold s_rolled
  simp_arith []
  refine ok_lcR (fun y => .lst ((rng w).map fun x => .int (f x ((y - b) % h)))) ?_ ?_
  · intro y y0 y1
    have := mh (y - b)
    refine ⟨_, rfl, ?_, ?_⟩
    · simp_arith []
    · simp_arith [m_pic er (fun _ _ _ => rfl), hR w h f]
  · simp_arith []
    refine ok_lcR (fun y => .lst ((rng w).map fun x => .int (f ((x - a) % w) ((y - b) % h)))) ?_ ?_
    · intro y y0 y1
      refine ⟨_, rfl, ?_, noe_ok ?_⟩
      · simp_arith []
      · simp_arith []
        refine ok_lcR (fun x => .int (f ((x - a) % w) ((y - b) % h))) ?_ ?_
        · intro x x0 x1
          have := mw (x - a)
          refine ⟨_, rfl, ?_, ?_⟩
          · simp_arith []
          · simp_arith []
        · simp_arith []
    · simp_arith [hP w h (fun x y => f ((x - a) % w) ((y - b) % h)) dc ⟨w1, w2, h1, h2, fun x y _ _ _ _ => hn _ _ (mw _).1 (mw _).2 (mh _).1 (mh _).2⟩]
def frF (w h : Int) (f : Int → Int → Int) (m v x y : Int) : Int := if y < m then v else if y - m < h then (if x < m then v else if x - m < w then f (x - m) (y - m) else v) else v
def SpFramed (F : Fn) : Prop := ∀ w h f m v dc, POk w h f → 0 ≤ m → w + 2 * m ≤ 64 → h + 2 * m ≤ 64 → 0 ≤ v → v ≤ 255 → F [picD w h f, .int m, .int v] dc = .ok (picD (w + 2 * m) (h + 2 * m) (frF w h f m v)) dc
theorem frF_ok {w h f m v} (ok : POk w h f) (m0 : 0 ≤ m) (v0 : 0 ≤ v) (v1 : v ≤ 255) (x y : Int) : 0 ≤ frF w h f m v x y ∧ frF w h f m v x y ≤ 255 := by
  unfold frF
  split
  · exact ⟨v0, v1⟩
  · split
    · split
      · exact ⟨v0, v1⟩
      · split
        · exact ok.n _ _ (by omega) (by omega) (by omega) (by omega)
        · exact ⟨v0, v1⟩
    · exact ⟨v0, v1⟩
theorem sp_framed (hr : HasM Γ "row" SpRow) {P Q : Fn} (hP : SpRows P) (hQ : SpPlain Q) : SpFramed (run 3 6 (s_framed Γ Q P)) := fun w h f m v dc ok m0 wm hm v0 v1 => by
  obtain ⟨w1, w2, h1, h2, hn⟩ := id ok
  obtain ⟨R, er, hR⟩ := hr
  have em : max w h + 2 * m ≤ 64 := by omega
  refine run_eq rfl ?_
  unfold s_framed
  simp_arith [hQ 1 1 v]
  refine ok_lcR (fun y => .lst ((rng (w + 2 * m)).map fun x => .int (if x < m then v else if x - m < w then f (x - m) y else v))) ?_ ?_
  · intro y y0 y1
    refine ⟨_, rfl, ?_, ?_⟩
    · simp_arith []
    · simp_arith [m_pic er (fun _ _ _ => rfl), hR w h f]
      rw [row3 m0 (by omega) m0, show m + w + m = w + 2 * m by omega]
      congr 3
      funext x
      split
      · rfl
      · split <;> rfl
  · simp_arith []
    rw [row3 m0 (by omega) m0, show m + h + m = h + 2 * m by omega]
    have e : ((rng (h + 2 * m)).map fun i => if i < m then D.lst ((rng (w + 2 * m)).map fun _ => D.int v) else if i - m < h then D.lst ((rng (w + 2 * m)).map fun x => D.int (if x < m then v else if x - m < w then f (x - m) (i - m) else v)) else D.lst ((rng (w + 2 * m)).map fun _ => D.int v)) = (rng (h + 2 * m)).map fun y => D.lst ((rng (w + 2 * m)).map fun x => D.int (frF w h f m v x y)) := by
      apply mapR_ext
      intro y y0 y1
      unfold frF
      split
      · rfl
      · split <;> rfl
    simp_arith [e, hP (w + 2 * m) (h + 2 * m) (frF w h f m v) dc ⟨by omega, wm, by omega, hm, fun x y _ _ _ _ => frF_ok ok m0 v0 v1 x y⟩]
/-- where a sheared row begins -/
def stF (k h y : Int) : Int := if 0 ≤ k then k * y else k * (y - h + 1)
def shF (w h : Int) (f : Int → Int → Int) (k v x y : Int) : Int := if x < stF k h y then v else if x - stF k h y < w then f (x - stF k h y) y else v
theorem stF_ok {k h y : Int} (y0 : 0 ≤ y) (y1 : y < h) : 0 ≤ stF k h y ∧ stF k h y ≤ absI k * (h - 1) := by
  unfold stF absI
  by_cases hk : 0 ≤ k
  · rw [if_pos hk, if_neg (by omega)]
    exact ⟨Int.mul_nonneg hk y0, Int.mul_le_mul_of_nonneg_left (by omega) hk⟩
  · rw [if_neg hk, if_pos (by omega)]
    have e : k * (y - h + 1) = -k * (h - 1 - y) := by rw [Int.neg_mul, ← Int.mul_neg]; congr 1; omega
    rw [e]
    exact ⟨Int.mul_nonneg (by omega) (by omega), Int.mul_le_mul_of_nonneg_left (by omega) (by omega)⟩
def SpSheared (F : Fn) : Prop := ∀ w h f k v dc, POk w h f → -64 ≤ k → k ≤ 64 → w + absI k * (h - 1) ≤ 64 → 0 ≤ v → v ≤ 255 → F [picD w h f, .int k, .int v] dc = .ok (picD (w + absI k * (h - 1)) h (shF w h f k v)) dc
theorem sp_sheared (hr : HasM Γ "row" SpRow) {P Q : Fn} (hP : SpRows P) (hQ : SpPlain Q) : SpSheared (run 3 7 (s_sheared Γ Q P)) := fun w h f k v dc ok k0 k1 wk v0 v1 => by
  obtain ⟨w1, w2, h1, h2, hn⟩ := id ok
  obtain ⟨R, er, hR⟩ := hr
  have ak : -65 < absI k ∧ absI k < 65 := by unfold absI; split <;> omega
  refine run_eq rfl ?_
  unfold s_sheared
  simp_arith [hQ 1 1 v]
  refine ok_forR (n := h) (fun i ρ d => d = dc ∧ ∃ s1 s2, ρ = [.va (picD w h f), .va (.int k), .va (.int v), .va (.int (w + absI k * (h - 1))), .ow (.lst ((rng i).map fun y => .lst ((rng (w + absI k * (h - 1))).map fun x => .int (shF w h f k v x y)))), s1, s2]) (by omega) ?_ ?_ ?_
  · exact ⟨rfl, _, _, rfl⟩
  · rintro i ρ d i0 i1 ⟨rfl, s1, s2, rfl⟩
    refine ⟨_, rfl, ?_⟩
    obtain ⟨b0, b1⟩ := stF_ok (k := k) i0 i1
    have fin : ((rng (stF k h i)).map fun _ => D.int v) ++ ((rng w).map fun x => D.int (f x i)) ++ ((rng (absI k * (h - 1) - stF k h i)).map fun _ => D.int v) = (rng (w + absI k * (h - 1))).map fun x => D.int (shF w h f k v x i) := by
      rw [row3 b0 (by omega) (by omega), show stF k h i + w + (absI k * (h - 1) - stF k h i) = w + absI k * (h - 1) by omega]
      apply mapR_ext
      intro x _ _
      unfold shF
      split
      · rfl
      · split <;> rfl
    by_cases hk : 0 ≤ k
    · have es : stF k h i = k * i := if_pos hk
      rw [es] at fin b0 b1
      simp_arith [m_pic er (fun _ _ _ => rfl), hR w h f, fin]
      exact ⟨_, _, by rw [rng_succ i0, List.map_append]; rfl⟩
    · have es : stF k h i = k * (i - h + 1) := if_neg hk
      rw [es] at fin b0 b1
      simp_arith [m_pic er (fun _ _ _ => rfl), hR w h f, fin]
      exact ⟨_, _, by rw [rng_succ i0, List.map_append]; rfl⟩
  · rintro ρ d ⟨rfl, s1, s2, rfl⟩
    have n0 : 0 ≤ absI k * (h - 1) := Int.mul_nonneg (by unfold absI; split <;> omega) (by omega)
    simp_arith [hP (w + absI k * (h - 1)) h (shF w h f k v) d ⟨by omega, wk, h1, h2, fun x y x0 x1 y0 y1 => by
      unfold shF
      split
      · exact ⟨v0, v1⟩
      · split
        · exact hn _ _ (by omega) (by omega) y0 y1
        · exact ⟨v0, v1⟩⟩]
def j3F (w1 w2 : Int) (f1 f2 f3 : Int → Int → Int) (x y : Int) : Int := if x < w1 then f1 x y else if x - w1 < w2 then f2 (x - w1) y else f3 (x - w1 - w2) y
def SpJoin3 (F : Fn) : Prop := ∀ w1 w2 w3 h f1 f2 f3 dc, POk w1 h f1 → POk w2 h f2 → POk w3 h f3 → w1 + w2 + w3 ≤ 64 → F [.lst [picD w1 h f1, picD w2 h f2, picD w3 h f3], .bl true] dc = .ok (picD (w1 + w2 + w3) h (j3F w1 w2 f1 f2 f3)) dc
theorem sp_join3 (hr : HasM Γ "row" SpRow) {P : Fn} (hP : SpRows P) : SpJoin3 (run 2 9 (s_joined Γ P)) := fun w1 w2 w3 h f1 f2 f3 dc ok1 ok2 ok3 hw => by
  obtain ⟨a1, a2, a3, a4, a5⟩ := id ok1
  obtain ⟨b1, b2, b3, b4, b5⟩ := id ok2
  obtain ⟨c1, c2, c3, c4, c5⟩ := id ok3
  obtain ⟨R, er, hR⟩ := hr
  refine run_eq rfl ?_
  unfold s_joined
  have e0 : ([.int h, .int h, .int h] : List D).all (eqOk 8) = true := rfl
  simp_arith [c_eq_nil e0]
  refine ok_forR (n := h) (fun i ρ d => d = dc ∧ ∃ s1 s2 s3, ρ = [.va (.lst [picD w1 h f1, picD w2 h f2, picD w3 h f3]), .va (.bl true), .ow (.lst [.int h, .int h, .int h]), s1, .va (.int (w1 + w2 + w3)), .no, s2, .ow (.lst ((rng i).map fun y => .lst ((rng (w1 + w2 + w3)).map fun x => .int (j3F w1 w2 f1 f2 f3 x y)))), s3]) (by omega) ?_ ?_ ?_
  · exact ⟨rfl, _, _, _, rfl⟩
  · rintro i ρ d i0 i1 ⟨rfl, s1, s2, s3, rfl⟩
    refine ⟨_, rfl, ?_⟩
    simp_arith [m_pic er (fun _ _ _ => rfl), hR w1 h f1, hR w2 h f2, hR w3 h f3]
    have e : (rng w1).map (fun x => D.int (f1 x i)) ++ (rng w2).map (fun x => D.int (f2 x i)) ++ (rng w3).map (fun x => D.int (f3 x i)) = (rng (w1 + w2 + w3)).map fun x => D.int (j3F w1 w2 f1 f2 f3 x i) := by
      rw [row3 (by omega) (by omega) (by omega)]
      apply mapR_ext
      intro x _ _
      unfold j3F
      split
      · rfl
      · split <;> rfl
    rw [e]
    exact ⟨_, _, _, by rw [rng_succ i0, List.map_append]; rfl⟩
  · rintro ρ d ⟨rfl, s1, s2, s3, rfl⟩
    simp_arith [hP (w1 + w2 + w3) h (j3F w1 w2 f1 f2 f3) d ⟨by omega, hw, a3, a4, fun x y x0 x1 y0 y1 => by
      unfold j3F
      split
      · exact a5 _ _ x0 (by omega) y0 y1
      · split
        · exact b5 _ _ (by omega) (by omega) y0 y1
        · exact c5 _ _ (by omega) (by omega) y0 y1⟩]
def SpJoin2 (F : Fn) : Prop := ∀ w h f dc, POk w h f → h + h ≤ 64 → F [.lst [picD w h f, picD w h f], .bl false] dc = .ok (picD w (h + h) fun x y => if y < h then f x y else f x (y - h)) dc
theorem sp_join2 (hr : HasM Γ "row" SpRow) {P : Fn} (hP : SpRows P) : SpJoin2 (run 2 9 (s_joined Γ P)) := fun w h f dc ok hh => by
  obtain ⟨w1, w2, h1, h2, hn⟩ := id ok
  obtain ⟨R, er, hR⟩ := hr
  refine run_eq rfl ?_
  unfold s_joined
  have e0 : ([.int w, .int w] : List D).all (eqOk 8) = true := rfl
  simp_arith [c_eq_nil e0]
  refine ok_lcR (fun y => .lst ((rng w).map fun x => .int (f x y))) ?_ ?_
  · intro y y0 y1
    refine ⟨_, rfl, ?_, ?_⟩
    · simp_arith []
    · simp_arith [m_pic er (fun _ _ _ => rfl), hR w h f]
  · simp_arith []
    refine ok_lcR (fun y => .lst ((rng w).map fun x => .int (f x y))) ?_ ?_
    · intro y y0 y1
      refine ⟨_, rfl, ?_, ?_⟩
      · simp_arith []
      · simp_arith [m_pic er (fun _ _ _ => rfl), hR w h f]
    · simp_arith []
      rw [rng_app (by omega) (by omega)]
      have e : ((rng (h + h)).map fun i => if i < h then D.lst ((rng w).map fun x => D.int (f x i)) else D.lst ((rng w).map fun x => D.int (f x (i - h)))) = (rng (h + h)).map fun y => D.lst ((rng w).map fun x => D.int (if y < h then f x y else f x (y - h))) := by
        apply mapR_ext
        intro y _ _
        split <;> rfl
      simp_arith [e, hP w (h + h) (fun x y => if y < h then f x y else f x (y - h)) dc ⟨w1, w2, by omega, hh, fun x y x0 x1 y0 y1 => by
        split
        · exact hn _ _ x0 x1 y0 (by omega)
        · exact hn _ _ x0 x1 (by omega) (by omega)⟩]
end Sh
set_option maxRecDepth 100000
set_option maxHeartbeats 2000000
/-! LS: what the law's own defs answer. -/
namespace Sh
open PySem Px
variable {Γ : Gm} [GOk Γ]
local macro_rules
  | `(tactic| simp_arith [$ls,*]) => `(tactic| simp (disch := first | assumption | omega | (simp only [szL, List.length_map, List.length_append, List.length_cons, List.length_nil, len_rng] ; omega)) only [bnd_ok, bnd_er, lft_some, ok_ok, e_rdV, e_rdB, vaS_va, vbS_va, vbS_ow, e_frz0, e_frz, frzG_some, frzG_none, frzS_va, frzS_no, frzS_la, frzS_d, frzS_lt, frzS_lf, frzS_ot, frzS_of, slF_f, slF_l, slF_d, slF_i, slF_t, slF_s, slF_b, slF_n, slF_o, e_isOw, isOw_ow, isOw_va, e_owned, ownS_ow, e_aimed, aimS_ow, aimS_dice, rcvI_va, rcvI_l, rcvI_d, rcvI_o, rcvJ_va, rcvJ_l, rcvJ_d, e_rdR, e_rdL, e_cst, e_bin, e_neg, e_ntX, e_cm1, e_cm2, e_cd, seqS_nil, seqS_cons, e_boX, boS_one, boS_and, boS_or, e_tupX, e_lstX, prS_nil, prS_cons, e_dicX, e_attr, e_oN, e_oS, partD_i, e_slc, e_stp, e_sub, e_noE, noO_ok, e_lcX, e_lc2X, e_dcX, e_any, e_all, e_gsum, e_gtup, e_cal, e_bi, e_meth, e_tldX, e_ntB, e_boB, boT_and0, boT_or0, boT_and, boT_or, e_c1B, e_c2B, e_tru, e_ttB, e_rg1, e_rg2, e_zpI, e_enI, e_dkI, e_dvI, zpO_l, zpO_t, enO_l, dkO_d, dvO_d, e_itI, e_nxS, e_bkS, e_ctS, e_rnS, e_raS, e_reS, e_apS, apO_l, e_moS, e_exS, e_asS, e_poS, e_laS, e_paS, parQ_nil, parQ_cons, e_tuS, e_nmT, e_tpT, e_tpK, e_tpL, tpTs_nil, tpTs_cons, e_stS, setO_some, setO_d0, setO_d1, setO_d2, e_flS, e_auS, e_ifS, e_foS, e_sq, sqO_nx, sqO_rt, sqO_bk, sqO_ct, endO_rt, endO_nx, endC_nx, b_add, b_sub, b_mull, b_mulr, b_div, b_mod, b_addL, b_addT, b_addS, b_mulL, n_neg, a_bl, c_lt, c_le, c_gt, c_ge, c_eqi, c_nei, x_wide, x_high, x_nums, x_rng, x_mkL, x_mkT, x_itl, x_itt, x_len, x_lent, x_int, x_intb, x_min, x_max, x_list, x_tuple, x_tup2, x_abs, x_bl, x_flw, x_flh, x_fln, x_augL, x_augI, w_nil, w_cons, i_le, i_nle, i_lt, i_nlt, i_eq, i_neq, n_le, n_lt, decide_true, decide_false, Option.map_some, Option.bind_some, List.getElem?_cons_zero, List.getElem?_cons_succ, List.set_cons_zero, List.set_cons_succ, List.map_cons, List.map_nil, List.cons_append, List.nil_append, List.length_cons, List.length_nil, List.replicate_zero, List.replicate_succ, Nat.reduceAdd, Nat.reduceSub, Bool.not_true, Bool.not_false, Bool.false_eq_true, if_true, if_false, true_and, and_true, ↓reduceIte, List.append_nil, Nat.zero_add, false_and, and_false, eq_self, and_self, x_rng2, x_listl, i_ne, x_ixt, x_ixl, x_ixk, x_sl, x_sll, x_row, x_cutR, x_strev, repL_one, at_tab, at_rng, bnd_assoc, x_pic, x_asl, endC_pic, nxp_nx, nxp_ct, List.length_map, len_rng, toNat_ok, x_sumR, x_sumt, x_suml, Int.zero_add, lcL_cons, lcL_nil, anyL_cons, anyL_nil, allL_cons, allL_nil, forO_nx, forO_ct, forO_bk, forO_rt, forL_cons, forL_nil, at_0, at_1, at_2, at_3, at_4, lc2L_cons, lc2L_nil, sum_cons, sum_nil, x_d0, x_d1, x_d2, x_ow, x_oh, x_or, x_sw, x_sh, x_own, x_own2, x_siz, x_siz2, x_mkTab, x_mkGrid, slF_siz, slF_own, frzS_siz, frzS_own, ok_noO, Bool.true_and, Bool.false_and, Bool.and_true, Bool.and_false, $ls,*])
def SpRoll (F : Fn) : Prop := ∀ m dc, 1 ≤ m → m ≤ 100000000 → ∃ v d, F [.dice, .int m] dc = .ok (.int v) d ∧ 0 ≤ v ∧ v < m
theorem sp_roll {R : Fn} : SpRoll (run 2 3 (s_law_roll Γ R)) := fun m ⟨i, j, k⟩ m1 m2 => by
  have fin : ∀ z : Int, 0 ≤ z % m ∧ z % m < m := fun z => ⟨Int.emod_nonneg _ (by omega), Int.emod_lt_of_pos _ (by omega)⟩
  have key : Ok (run 2 3 (s_law_roll Γ R) [.dice, .int m] (i, j, k)) fun a _ => ∃ v, a = .int v ∧ 0 ≤ v ∧ v < m := by
    refine run_ok rfl ?_
    unfold s_law_roll
    by_cases h2 : k = 2
    · simp_arith [h2]
      exact ⟨_, rfl, fin _⟩
    · by_cases h1 : k = 1 ∧ 0 < i
      · obtain ⟨h1, h0⟩ := h1
        simp_arith [h1, h0]
        exact ⟨_, rfl, fin _⟩
      · by_cases h1 : k = 1
        · have h0 : ¬ 0 < i := fun h0 => by omega
          simp_arith [h1, h0]
          exact ⟨_, rfl, fin _⟩
        · simp_arith [h1, h2]
          exact ⟨_, rfl, fin _⟩
  obtain ⟨a, d, e, v, rfl, h⟩ := key
  exact ⟨v, d, e, h⟩
theorem ok_roll {F : Fn} (hF : SpRoll F) {m : Int} {dc : Dc} {β : Type} {k : D → Dc → Out β} {Q : β → Dc → Prop} (m1 : 1 ≤ m) (m2 : m ≤ 100000000) (h : ∀ v d, 0 ≤ v → v < m → Ok (k (.int v) d) Q) : Ok (bnd (F [.dice, .int m] dc) k) Q := by
  obtain ⟨v, d, e, a, b⟩ := hF m dc m1 m2
  rw [e]
  exact h v d a b
def SpDraw (F : Fn) : Prop := ∀ w h m dc, 1 ≤ w → w ≤ 64 → 1 ≤ h → h ≤ 64 → 0 ≤ m → m ≤ 255 → ∃ f d, F [.dice, .int w, .int h, .int m] dc = .ok (.lst ((tab w h f).map .int)) d ∧ ∀ x y, 0 ≤ x → x < w → 0 ≤ y → y < h → 0 ≤ f x y ∧ f x y ≤ m
theorem sp_draw {R : Fn} (hR : SpRoll R) : SpDraw (run 4 5 (s_law_picture Γ R)) := fun w h m dc w1 w2 h1 h2 m0 m1 => by
  have wh : w * h ≤ 64 * 64 := Int.mul_le_mul w2 h2 (by omega) (by omega)
  have wh0 : 0 ≤ w * h := Int.mul_nonneg (by omega) (by omega)
  have key : Ok (run 4 5 (s_law_picture Γ R) [.dice, .int w, .int h, .int m] dc) fun a _ => ∃ f, a = .lst ((tab w h f).map .int) ∧ ∀ x y, 0 ≤ x → x < w → 0 ≤ y → y < h → 0 ≤ f x y ∧ f x y ≤ m := by
    refine run_ok rfl ?_
    unfold s_law_picture
    simp_arith []
    refine ok_lcE (xs := rng (w * h)) (fun y => ∃ v, y = .int v ∧ 0 ≤ v ∧ v ≤ m) ?_ ?_
    · intro x hx dc
      refine ⟨_, rfl, ?_, ?_⟩
      · simp_arith []
      · simp_arith []
        obtain ⟨v, d, e, a, b⟩ := hR (m + 1) dc (by omega) (by omega)
        simp_arith [e]
        exact ⟨v, rfl, a, by omega⟩
    · intro ys d hl hy
      obtain ⟨vs, rfl, hv⟩ := ints_of hy
      rw [List.length_map, len_rng] at hl
      obtain ⟨f, rfl, hf⟩ := tab_of_len w1 (by omega) hl hv
      have := tab_le (f := f) w2 h2
      simp_arith []
      exact ⟨f, rfl, hf⟩
  obtain ⟨a, d, e, f, rfl, h⟩ := key
  exact ⟨f, d, e, h⟩
def SpMade (F : Fn) : Prop := ∀ most least br dc, 1 ≤ least → least ≤ most → most ≤ 64 → 0 ≤ br → br ≤ 255 → ∃ w h f d, F [.dice, .int most, .int least, .int br] dc = .ok (ownD w h f) d ∧ least ≤ w ∧ w ≤ most ∧ least ≤ h ∧ h ≤ most ∧ POk w h f ∧ ∀ x y, 0 ≤ x → x < w → 0 ≤ y → y < h → f x y ≤ br
theorem sp_made {R P : Fn} (hR : SpRoll R) (hP : SpDraw P) : SpMade (run 4 6 (s_law_made Γ R P)) := fun most least br dc l1 l2 m2 b0 b1 => by
  have key : Ok (run 4 6 (s_law_made Γ R P) [.dice, .int most, .int least, .int br] dc) fun a _ => ∃ w h f, a = ownD w h f ∧ least ≤ w ∧ w ≤ most ∧ least ≤ h ∧ h ≤ most ∧ POk w h f ∧ ∀ x y, 0 ≤ x → x < w → 0 ≤ y → y < h → f x y ≤ br := by
    refine run_ok rfl ?_
    unfold s_law_made
    simp_arith []
    refine ok_roll hR (by omega) (by omega) fun v d v0 v1 => ?_
    simp_arith []
    refine ok_roll hR (by omega) (by omega) fun u d u0 u1 => ?_
    simp_arith []
    obtain ⟨f, d', e, hf⟩ := hP (least + v) (least + u) br d (by omega) (by omega) (by omega) (by omega) b0 b1
    simp_arith [e]
    exact ⟨_, _, f, rfl, by omega, by omega, by omega, by omega, ⟨by omega, by omega, by omega, by omega, fun x y a b c d => by have := hf x y a b c d; omega⟩, fun x y a b c d => (hf x y a b c d).2⟩
  obtain ⟨a, d, e, w, h, f, rfl, g⟩ := key
  exact ⟨w, h, f, d, e, g⟩
def SpLAt (F : Fn) : Prop := ∀ w h f x y dc, w ≤ 64 → 0 ≤ x → x < w → 0 ≤ y → y < h → F [ownD w h f, .int x, .int y] dc = .ok (.int (f x y)) dc
theorem sp_lat : SpLAt (run 3 3 (s_law_at Γ)) := fun w h f x y dc w2 x0 x1 y0 y1 => by
  refine run_eq rfl ?_
  unfold s_law_at
  simp_arith []
def SpLIn (F : Fn) : Prop := ∀ w h f x y dc, F [ownD w h f, .int x, .int y] dc = .ok (.bl (decide (0 ≤ x ∧ x < w ∧ 0 ≤ y ∧ y < h))) dc
theorem sp_lin : SpLIn (run 3 3 (s_law_in Γ)) := fun w h f x y dc => by
  refine run_eq rfl ?_
  unfold s_law_in
  simp_arith []
  by_cases h1 : 0 ≤ x
  · by_cases h2 : x < w
    · by_cases h3 : 0 ≤ y
      · simp_arith [h1, h2, h3]
      · simp_arith [h1, h2, h3]
    · simp_arith [h1, h2]
  · simp_arith [h1]
def SpLNear (F : Fn) : Prop := ∀ w h f x y dc, 1 ≤ w → w ≤ 64 → 1 ≤ h → F [ownD w h f, .int x, .int y] dc = .ok (.int (nf w h f x y)) dc
theorem sp_lnear {A : Fn} (hA : SpLAt A) : SpLNear (run 3 3 (s_law_near Γ A)) := fun w h f x y dc w1 w2 h1 => by
  refine run_eq rfl ?_
  unfold s_law_near
  simp_arith [hA w h f]
  unfold nf
  rw [show max 0 (min (w - 1) x) = min (w - 1) (max 0 x) by omega, show max 0 (min (h - 1) y) = min (h - 1) (max 0 y) by omega]
def SpSpots (F : Fn) : Prop := ∀ d w h dc, (∀ dc, ixDc dc d (.str "wide") = some (.int w)) → (∀ dc, ixDc dc d (.str "high") = some (.int h)) → (∀ s, frzS (some (.va d)) s = none) → 0 ≤ w → w ≤ 64 → 0 ≤ h → h ≤ 64 → F [d] dc = .ok (.lst ((grid w h).map spD)) dc
theorem sp_spots : SpSpots (run 1 4 (s_law_spots Γ)) := fun o w h dc hw hh _ w0 w2 h0 h2 => by
  refine run_eq rfl ?_
  unfold s_law_spots
  simp_arith [hw, hh]
  refine ok_forR (n := h) (fun i ρ d => d = dc ∧ ∃ s1 s2, ρ = [.va o, .ow (.lst ((grid w i).map spD)), s1, s2]) h0 ?_ ?_ ?_
  · exact ⟨rfl, _, _, rfl⟩
  · rintro i ρ d i0 i1 ⟨rfl, s1, s2, rfl⟩
    refine ⟨_, rfl, ?_⟩
    simp_arith [hw, hh]
    refine ok_lcR (fun x => .tup [.int x, .int i]) ?_ ?_
    · intro x x0 x1
      refine ⟨_, rfl, ?_, ?_⟩
      · simp_arith []
      · simp_arith []
    · have := grid_le (w := w) (h := i) w2 (by omega)
      simp_arith []
      exact ⟨_, _, by rw [grid_succ i0, List.map_append, List.map_map]; rfl⟩
  · rintro ρ d ⟨rfl, s1, s2, rfl⟩
    simp_arith []
theorem SpSpots.own {F : Fn} (h : SpSpots F) {w g f dc} (ok : POk w g f) : F [ownD w g f] dc = .ok (.lst ((grid w g).map spD)) dc := h _ _ _ _ (fun _ => rfl) (fun _ => rfl) (fun _ => rfl) (by have := ok.w1; omega) ok.w2 (by have := ok.h1; omega) ok.h2
theorem SpSpots.siz {F : Fn} (h : SpSpots F) {w g dc} (w1 : 0 ≤ w) (w2 : w ≤ 64) (h1 : 0 ≤ g) (h2 : g ≤ 64) : F [sizD w g] dc = .ok (.lst ((grid w g).map spD)) dc := h _ _ _ _ (fun _ => rfl) (fun _ => rfl) (fun _ => rfl) w1 w2 h1 h2
def SpIs (F : Fn) : Prop := ∀ w h f g dc, (∀ x y, 0 ≤ x → x < w → 0 ≤ y → y < h → f x y = g x y) → F [picD w h f, .int w, .int h, .lst ((tab w h g).map .int)] dc = .ok (.bl true) dc
theorem sp_is : SpIs (run 4 4 (s_law_is Γ)) := fun w h f g dc hfg => by
  refine run_eq rfl ?_
  unfold s_law_is
  rw [tab_ext hfg |> fun e => show picD w h f = picD w h g by unfold picD; rw [e]]
  have e : ([.int w, .int h, .tup ((tab w h g).map .int)] : List D).all (eqOk 8) = true := by simp [eqOk, eqOk_map]
  simp_arith [c_same e]
def SpLQuarter (F : Fn) : Prop := ∀ w h f dc, POk w h f → F [ownD w h f] dc = .ok (ownD h w fun x y => f y (h - 1 - x)) dc
theorem sp_lquarter {A : Fn} (hA : SpLAt A) : SpLQuarter (run 1 4 (s_law_quarter Γ A)) := fun w h f dc ok => by
  obtain ⟨w1, w2, h1, h2, hn⟩ := id ok
  refine run_eq rfl ?_
  unfold s_law_quarter
  simp_arith []
  refine ok_forR (n := w) (fun i ρ d => d = dc ∧ ∃ s1 s2, ρ = [.va (ownD w h f), .ow (.lst ((tab h i fun x y => f y (h - 1 - x)).map .int)), s1, s2]) (by omega) ?_ ?_ ?_
  · exact ⟨rfl, _, _, rfl⟩
  · rintro i ρ d i0 i1 ⟨rfl, s1, s2, rfl⟩
    refine ⟨_, rfl, ?_⟩
    have hl := tab_le (w := h) (h := i) (f := fun x y => f y (h - 1 - x)) h2 (by omega)
    simp_arith []
    refine ok_lcR (fun x => .int (f i (h - 1 - x))) ?_ ?_
    · intro x x0 x1
      refine ⟨_, rfl, ?_, ?_⟩
      · simp_arith []
      · simp_arith [hA w h f]
    · simp_arith []
      exact ⟨_, _, by rw [tab_succ i0, List.map_append, List.map_map]; rfl⟩
  · rintro ρ d ⟨rfl, s1, s2, rfl⟩
    simp_arith []
def SpLBet (F : Fn) : Prop := ∀ w h f a m b n dc, POk w h f → 1 ≤ m → m ≤ 1000 → 1 ≤ n → n ≤ 1000 → F [ownD w h f, .int a, .int m, .int b, .int n] dc = .ok (.int (bet w h f a m b n)) dc
theorem sp_lbet {N : Fn} (hN : SpLNear N) : SpLBet (run 5 12 (s_law_between Γ N)) := fun w h f a m b n dc ok m1 m2 n1 n2 => by
  have ok' := ok
  obtain ⟨w1, w2, h1, h2, hn⟩ := ok'
  have r1 := rem_ok (a := a) (show 0 < m by omega)
  have r2 := rem_ok (a := b) (show 0 < n by omega)
  have mn : m * n ≤ 1000 * 1000 := Int.mul_le_mul m2 n2 (by omega) (by omega)
  have mn0 := Int.mul_pos (show 0 < m by omega) (show 0 < n by omega)
  have e2 : 2 * m * n = 2 * (m * n) := Int.mul_assoc ..
  have k1 := nf_ok (x := a / m) (y := b / n) ok
  have k2 := nf_ok (x := a / m + 1) (y := b / n) ok
  have k3 := nf_ok (x := a / m) (y := b / n + 1) ok
  have k4 := nf_ok (x := a / m + 1) (y := b / n + 1) ok
  refine run_eq rfl ?_
  unfold s_law_between
  simp_arith [hN w h f]
  unfold bet
  congr 3
  omega
end Sh
set_option maxRecDepth 100000
set_option maxHeartbeats 4000000
/-! LF: the law's own def of fitted ones. -/
namespace Sh
open PySem Px
variable {Γ : Gm} [GOk Γ]
local macro_rules
  | `(tactic| simp_arith [$ls,*]) => `(tactic| simp (disch := first | assumption | omega | (simp only [szL, List.length_map, List.length_append, List.length_cons, List.length_nil, len_rng] ; omega)) only [bnd_ok, bnd_er, lft_some, ok_ok, e_rdV, e_rdB, vaS_va, vbS_va, vbS_ow, e_frz0, e_frz, frzG_some, frzG_none, frzS_va, frzS_no, frzS_la, frzS_d, frzS_lt, frzS_lf, frzS_ot, frzS_of, slF_f, slF_l, slF_d, slF_i, slF_t, slF_s, slF_b, slF_n, slF_o, e_isOw, isOw_ow, isOw_va, e_owned, ownS_ow, e_aimed, aimS_ow, aimS_dice, rcvI_va, rcvI_l, rcvI_d, rcvI_o, rcvJ_va, rcvJ_l, rcvJ_d, e_rdR, e_rdL, e_cst, e_bin, e_neg, e_ntX, e_cm1, e_cm2, e_cd, seqS_nil, seqS_cons, e_boX, boS_one, boS_and, boS_or, e_tupX, e_lstX, prS_nil, prS_cons, e_dicX, e_attr, e_oN, e_oS, partD_i, e_slc, e_stp, e_sub, e_noE, noO_ok, e_lcX, e_lc2X, e_dcX, e_any, e_all, e_gsum, e_gtup, e_cal, e_bi, e_meth, e_tldX, e_ntB, e_boB, boT_and0, boT_or0, boT_and, boT_or, e_c1B, e_c2B, e_tru, e_ttB, e_rg1, e_rg2, e_zpI, e_enI, e_dkI, e_dvI, zpO_l, zpO_t, enO_l, dkO_d, dvO_d, e_itI, e_nxS, e_bkS, e_ctS, e_rnS, e_raS, e_reS, e_apS, apO_l, e_moS, e_exS, e_asS, e_poS, e_laS, e_paS, parQ_nil, parQ_cons, e_tuS, e_nmT, e_tpT, e_tpK, e_tpL, tpTs_nil, tpTs_cons, e_stS, setO_some, setO_d0, setO_d1, setO_d2, e_flS, e_auS, e_ifS, e_foS, e_sq, sqO_nx, sqO_rt, sqO_bk, sqO_ct, endO_rt, endO_nx, endC_nx, b_add, b_sub, b_mull, b_mulr, b_div, b_mod, b_addL, b_addT, b_addS, b_mulL, n_neg, a_bl, c_lt, c_le, c_gt, c_ge, c_eqi, c_nei, x_wide, x_high, x_nums, x_rng, x_mkL, x_mkT, x_itl, x_itt, x_len, x_lent, x_int, x_intb, x_min, x_max, x_list, x_tuple, x_tup2, x_abs, x_bl, x_flw, x_flh, x_fln, x_augL, x_augI, w_nil, w_cons, i_le, i_nle, i_lt, i_nlt, i_eq, i_neq, n_le, n_lt, decide_true, decide_false, Option.map_some, Option.bind_some, List.getElem?_cons_zero, List.getElem?_cons_succ, List.set_cons_zero, List.set_cons_succ, List.map_cons, List.map_nil, List.cons_append, List.nil_append, List.length_cons, List.length_nil, List.replicate_zero, List.replicate_succ, Nat.reduceAdd, Nat.reduceSub, Bool.not_true, Bool.not_false, Bool.false_eq_true, if_true, if_false, true_and, and_true, ↓reduceIte, List.append_nil, Nat.zero_add, false_and, and_false, eq_self, and_self, x_rng2, x_listl, i_ne, x_ixt, x_ixl, x_ixk, x_sl, x_sll, x_row, x_cutR, x_strev, repL_one, at_tab, at_rng, bnd_assoc, x_pic, x_asl, endC_pic, nxp_nx, nxp_ct, List.length_map, len_rng, toNat_ok, x_sumR, x_sumt, x_suml, Int.zero_add, lcL_cons, lcL_nil, anyL_cons, anyL_nil, allL_cons, allL_nil, forO_nx, forO_ct, forO_bk, forO_rt, forL_cons, forL_nil, at_0, at_1, at_2, at_3, at_4, lc2L_cons, lc2L_nil, sum_cons, sum_nil, x_d0, x_d1, x_d2, x_ow, x_oh, x_or, x_sw, x_sh, x_own, x_own2, x_siz, x_siz2, x_mkTab, x_mkGrid, slF_siz, slF_own, frzS_siz, frzS_own, ok_noO, Bool.true_and, Bool.false_and, Bool.and_true, Bool.and_false, $ls,*])
def SpFitted (F : Fn) : Prop := ∀ w h f dc, POk w h f → w ≤ 6 → h ≤ 6 → ∃ d, F [.dice, picD w h f, ownD w h f, .int w, .int h, .lst ((tab w h f).map .int)] dc = .ok (.bl true) d
theorem sp_fitted {fRoll fSp fAt fIs fSh fRo fIn fFr fPl fJo : Fn} (hRoll : SpRoll fRoll) (hSp : SpSpots fSp) (hAt : SpLAt fAt) (hIs : SpIs fIs) (hSh : SpSheared fSh) (hRo : SpRolled fRo) (hIn : SpLIn fIn) (hFr : SpFramed fFr) (hPl : SpPlain fPl) (hJ3 : SpJoin3 fJo) (hJ2 : SpJoin2 fJo)
    (hsm : HasM Γ "is_same" SpSame) (hpt : HasM Γ "part" SpPart) : SpFitted (run 6 18 (s_law_fitted Γ fRoll fSp fAt fIs fSh fRo fIn fFr fPl fJo)) := fun w h f dc ok w6 h6 => by
  obtain ⟨w1, w2, h1, h2, hn⟩ := id ok
  obtain ⟨Sm, es, hS⟩ := hsm
  obtain ⟨Pt, ep, hP⟩ := hpt
  suffices key : Ok (run 6 18 (s_law_fitted Γ fRoll fSp fAt fIs fSh fRo fIn fFr fPl fJo) [.dice, picD w h f, ownD w h f, .int w, .int h, .lst ((tab w h f).map .int)] dc) fun a _ => a = .bl true by
    obtain ⟨a, d, e, rfl⟩ := key
    exact ⟨d, e⟩
  refine run_ok rfl ?_
  unfold s_law_fitted
  simp_arith []
  refine ok_roll hRoll (by omega) (by omega) fun v d v0 v1 => ?_
  simp_arith []
  refine ok_roll hRoll (by omega) (by omega) fun u d u0 u1 => ?_
  generalize hk : v - 3 = k
  have k0 : -3 ≤ k := by omega
  have k1 : k ≤ 3 := by omega
  have ak : 0 ≤ absI k ∧ absI k ≤ 3 := by unfold absI; split <;> omega
  have far0 : 0 ≤ absI k * (h - 1) := Int.mul_nonneg ak.1 (by omega)
  have far1 : absI k * (h - 1) ≤ 3 * 5 := Int.mul_le_mul ak.2 (by omega) (by omega) (by omega)
  simp_arith []
  refine ok_lcR (fun y => .int (stF k h y)) ?_ ?_
  · intro y y0 y1
    refine ⟨_, rfl, ?_, ?_⟩
    · simp_arith []
    · by_cases hk : k < 0
      · have e : k * y + absI k * (h - 1) = stF k h y := by
          rw [show absI k = -k from if_pos hk, show stF k h y = k * (y - h + 1) from if_neg (by omega)]
          simp only [Int.mul_add, Int.mul_sub, Int.neg_mul, Int.mul_one]
          omega
        simp_arith [hk, e]
      · have e : k * y + 0 = stF k h y := by
          unfold stF
          rw [if_pos (by omega)]
          omega
        simp_arith [hk, e]
  · simp_arith [hSp.siz (w := w + absI k * (h - 1)) (g := h) (by omega) (by omega) (by omega) (by omega)]
    refine ok_lcG (shF w h f k u) ?_ ?_
    · intro x y x0 x1 y0 y1
      refine ⟨_, rfl, ?_, ?_⟩
      · simp_arith []
      · unfold shF
        by_cases q1 : x < stF k h y
        · simp_arith [q1]
        · by_cases q2 : x - stF k h y < w
          · simp_arith [q1, q2, hAt w h f]
          · simp_arith [q1, q2]
    · have ef : w + absI k * (h - 1) ≤ 64 := by omega
      have okS : POk (w + absI k * (h - 1)) h (shF w h f k u) := ⟨by omega, ef, h1, h2, fun x y x0 x1 y0 y1 => by
        unfold shF
        split
        · omega
        · split
          · exact hn _ _ (by omega) (by omega) y0 y1
          · omega⟩
      simp_arith [hSh w h f k u d ok (by omega) (by omega) ef u0 (by omega), hIs (w + absI k * (h - 1)) h (shF w h f k u) (shF w h f k u) d fun _ _ _ _ _ _ => rfl]
      refine ok_roll hRoll (by omega) (by omega) fun a d a0 a1 => ?_
      simp_arith []
      refine ok_roll hRoll (by omega) (by omega) fun b d b0 b1 => ?_
      simp_arith []
      generalize a - 9 = a
      generalize b - 9 = b
      have mw : ∀ z : Int, 0 ≤ z % w ∧ z % w < w := fun z => ⟨Int.emod_nonneg _ (by omega), Int.emod_lt_of_pos _ (by omega)⟩
      have mh : ∀ z : Int, 0 ≤ z % h ∧ z % h < h := fun z => ⟨Int.emod_nonneg _ (by omega), Int.emod_lt_of_pos _ (by omega)⟩
      have okR : POk w h (fun x y => f ((x - a) % w) ((y - b) % h)) := ⟨w1, w2, h1, h2, fun x y _ _ _ _ => hn _ _ (mw _).1 (mw _).2 (mh _).1 (mh _).2⟩
      simp_arith [hSp.own ok, hRo w h f a b d ok]
      refine ok_lcG (fun x y => f ((x - a) % w) ((y - b) % h)) ?_ ?_
      · intro x y x0 x1 y0 y1
        have := mw (x - a)
        have := mh (y - b)
        refine ⟨_, rfl, ?_, ?_⟩
        · simp_arith []
        · simp_arith [hAt w h f]
      · simp_arith [hIs w h (fun x y => f ((x - a) % w) ((y - b) % h)) (fun x y => f ((x - a) % w) ((y - b) % h)) d fun _ _ _ _ _ _ => rfl, hRo w h f a b d ok, hRo w h (fun x y => f ((x - a) % w) ((y - b) % h)) (-a) (-b) d okR, m_pic es (fun _ _ _ => rfl)]
        have eS := hS w h (fun x y => f (((x - -a) % w - a) % w) (((y - -b) % h - b) % h)) f d fun x y x0 x1 y0 y1 => by rw [roll_back x0 x1, roll_back y0 y1]
        simp_arith [eS]
        refine ok_roll hRoll (by omega) (by omega) fun m d m0 m1 => ?_
        have okF : POk (w + 2 * m) (h + 2 * m) (frF w h f m u) := ⟨by omega, by omega, by omega, by omega, fun x y _ _ _ _ => frF_ok ok m0 u0 (by omega) x y⟩
        simp_arith [hSp.siz (w := w + 2 * m) (g := h + 2 * m) (by omega) (by omega) (by omega) (by omega)]
        refine ok_lcG (frF w h f m u) ?_ ?_
        · intro x y x0 x1 y0 y1
          refine ⟨_, rfl, ?_, ?_⟩
          · simp_arith []
          · unfold frF
            simp_arith [hIn w h f]
            by_cases q1 : y < m
            · have e : decide (0 ≤ x - m ∧ x - m < w ∧ 0 ≤ y - m ∧ y - m < h) = false := decide_eq_false (by omega)
              simp_arith [q1, e]
            · by_cases q2 : y - m < h
              · by_cases q3 : x < m
                · have e : decide (0 ≤ x - m ∧ x - m < w ∧ 0 ≤ y - m ∧ y - m < h) = false := decide_eq_false (by omega)
                  simp_arith [q1, q2, q3, e]
                · by_cases q4 : x - m < w
                  · have e : decide (0 ≤ x - m ∧ x - m < w ∧ 0 ≤ y - m ∧ y - m < h) = true := decide_eq_true (by omega)
                    simp_arith [q1, q2, q3, q4, e, hAt w h f]
                  · have e : decide (0 ≤ x - m ∧ x - m < w ∧ 0 ≤ y - m ∧ y - m < h) = false := decide_eq_false (by omega)
                    simp_arith [q1, q2, q3, q4, e]
              · have e : decide (0 ≤ x - m ∧ x - m < w ∧ 0 ≤ y - m ∧ y - m < h) = false := decide_eq_false (by omega)
                simp_arith [q1, q2, e]
        · have eP := hP (w + 2 * m) (h + 2 * m) (frF w h f m u) m m w h d okF m0 m0 w1 h1 (by omega) (by omega)
          have eS := hS w h (fun x y => frF w h f m u (m + x) (m + y)) f d fun x y x0 x1 y0 y1 => by
            unfold frF
            rw [if_neg (by omega), if_pos (by omega), if_neg (by omega), if_pos (by omega)]
            congr 1 <;> omega
          simp_arith [hFr w h f m u d ok m0 (by omega) (by omega) u0 (by omega), hIs (w + 2 * m) (h + 2 * m) (frF w h f m u) (frF w h f m u) d fun _ _ _ _ _ _ => rfl, m_pic es (fun _ _ _ => rfl), m_pic ep (fun _ _ _ => rfl), eP, eS]
          refine ok_roll hRoll (by omega) (by omega) fun s d s0 s1 => ?_
          have okP : POk (1 + s) h (fun _ _ => u) := ⟨by omega, by omega, h1, h2, fun _ _ _ _ _ _ => ⟨u0, by omega⟩⟩
          have okJ : POk (w + (1 + s) + w) h (j3F w (1 + s) f (fun _ _ => u) f) := ⟨by omega, by omega, h1, h2, fun x y x0 x1 y0 y1 => by
            unfold j3F
            split
            · exact hn _ _ x0 (by omega) y0 y1
            · split
              · show 0 ≤ u ∧ u ≤ 255
                omega
              · exact hn _ _ (by omega) (by omega) y0 y1⟩
          have eP1 := hP (w + (1 + s) + w) h (j3F w (1 + s) f (fun _ _ => u) f) 0 0 w h d okJ (by omega) (by omega) w1 h1 (by omega) (by omega)
          have eP2 := hP (w + (1 + s) + w) h (j3F w (1 + s) f (fun _ _ => u) f) w 0 (1 + s) h d okJ (by omega) (by omega) (by omega) h1 (by omega) (by omega)
          have eP3 := hP (w + (1 + s) + w) h (j3F w (1 + s) f (fun _ _ => u) f) (w + (1 + s)) 0 w h d okJ (by omega) (by omega) w1 h1 (by omega) (by omega)
          have eS1 := hS w h (fun x y => j3F w (1 + s) f (fun _ _ => u) f (0 + x) (0 + y)) f d fun x y x0 x1 y0 y1 => by
            unfold j3F
            rw [if_pos (by omega), Int.zero_add, Int.zero_add]
          have eS2 := hS (1 + s) h (fun x y => j3F w (1 + s) f (fun _ _ => u) f (w + x) (0 + y)) (fun _ _ => u) d fun x y x0 x1 y0 y1 => by
            unfold j3F
            rw [if_neg (by omega), if_pos (by omega)]
          have eS3 := hS w h (fun x y => j3F w (1 + s) f (fun _ _ => u) f (w + (1 + s) + x) (0 + y)) f d fun x y x0 x1 y0 y1 => by
            unfold j3F
            rw [if_neg (by omega), if_neg (by omega)]
            congr 1 <;> omega
          simp only [Int.zero_add] at eP1 eP2 eP3 eS1 eS2 eS3
          have e2 : 2 * h = h + h := by omega
          have eR : (tab w h f).map D.int ++ (tab w h f).map D.int = (tab w (h + h) fun x y => if y < h then f x y else f x (y - h)).map D.int := by rw [← List.map_append, tab_app (by omega) (by omega)]
          have hl := tab_le (f := f) w2 h2
          simp_arith [hPl (1 + s) h u d (by omega) (by omega) h1 h2 u0 (by omega), hJ3 w (1 + s) w h f (fun _ _ => u) f d ok okP ok (by omega), m_pic es (fun _ _ _ => rfl), m_pic ep (fun _ _ _ => rfl), eP1, eP2, eP3, eS1, eS2, eS3, hJ2 w h f d ok (by omega), e2, eR, hIs w (h + h) (fun x y => if y < h then f x y else f x (y - h)) (fun x y => if y < h then f x y else f x (y - h)) d fun _ _ _ _ _ _ => rfl]
end Sh
set_option maxRecDepth 100000
set_option maxHeartbeats 2000000
/-! SQ: plain facts for k06. -/
namespace Sh
open PySem Px
theorem rng_split {a b : Int} (ha : 0 ≤ a) (hb : 0 ≤ b) : rng (a + b) = rng a ++ (rng b).map (a + ·) := by
  have := rng_app (g := fun i : Int => i) (f := fun i => a + i) ha hb
  rw [List.map_id'] at this
  rw [this]
  have e : (rng (a + b)).map (fun i => i) = rng (a + b) := List.map_id' _
  conv => lhs; rw [← e]
  refine mapR_ext fun i _ _ => ?_
  split <;> omega
theorem rng_filter {n t x : Int} (ht : 1 ≤ t) (hx : 0 ≤ x) (hn : x * t + t ≤ n) : (rng n).filter (fun a => decide (a / t = x)) = (rng t).map (x * t + ·) := by
  have m0 := Int.mul_nonneg hx (show 0 ≤ t by omega)
  have e : n = x * t + t + (n - (x * t + t)) := by omega
  rw [e, rng_split (by omega) (by omega), rng_split m0 (by omega), List.filter_append, List.filter_append]
  have k : ∀ a : Int, a / t = x ↔ x * t ≤ a ∧ a < x * t + t := fun a => Int.ediv_eq_iff_of_pos (by omega)
  have f1 : (rng (x * t)).filter (fun a => decide (a / t = x)) = [] := List.filter_eq_nil_iff.mpr fun a ha => by
    have := mem_rng.mp ha
    simp only [decide_eq_true_eq, k]
    omega
  have f2 : ((rng t).map (x * t + ·)).filter (fun a => decide (a / t = x)) = (rng t).map (x * t + ·) := List.filter_eq_self.mpr fun a ha => by
    obtain ⟨b, hb, rfl⟩ := List.mem_map.mp ha
    have := mem_rng.mp hb
    simp only [decide_eq_true_eq, k]
    omega
  have f3 : ((rng (n - (x * t + t))).map (x * t + t + ·)).filter (fun a => decide (a / t = x)) = [] := List.filter_eq_nil_iff.mpr fun a ha => by
    obtain ⟨b, hb, rfl⟩ := List.mem_map.mp ha
    have := mem_rng.mp hb
    simp only [decide_eq_true_eq, k]
    omega
  rw [f1, f2, f3]
  simp
theorem flatMap_if {α β : Type} {p : α → Bool} {g : α → List β} : ∀ {l : List α}, (l.flatMap fun a => if p a then g a else []) = (l.filter p).flatMap g
  | [] => rfl
  | a :: l => by
    rw [List.flatMap_cons, flatMap_if]
    by_cases h : p a = true
    · rw [if_pos h, List.filter_cons_of_pos h, List.flatMap_cons]
    · rw [if_neg h, List.filter_cons_of_neg h]
      rfl
theorem sum_flat {α : Type} {g : α → List Int} : ∀ {l : List α}, (l.flatMap g).sum = (l.map fun a => (g a).sum).sum
  | [] => rfl
  | a :: l => by rw [List.flatMap_cons, List.sum_append, List.map_cons, List.sum_cons, sum_flat]
/-- the numbers of a square, found among all -/
theorem sq_filter {w h t x y : Int} {f : Int → Int → Int} (ht : 1 ≤ t) (hx : 0 ≤ x) (hy : 0 ≤ y) (hw : x * t + t ≤ w) (hh : y * t + t ≤ h) :
    (((grid w h).filter fun p => decide (p.1 / t = x) && decide (p.2 / t = y)).map fun p => f p.1 p.2).sum = sqS t f x y := by
  have e1 : ((grid w h).filter fun p => decide (p.1 / t = x) && decide (p.2 / t = y)) = ((rng h).filter fun b => decide (b / t = y)).flatMap fun b => (rng t).map fun i => (x * t + i, b) := by
    rw [← flatMap_if]
    unfold grid
    rw [List.filter_flatMap]
    congr 1
    funext b
    by_cases hb : b / t = y
    · rw [if_pos (by simpa using hb), List.filter_map]
      have : ((fun p : Int × Int => decide (p.1 / t = x) && decide (p.2 / t = y)) ∘ fun x => (x, b)) = fun a => decide (a / t = x) := by
        funext a
        simp [hb]
      rw [this, rng_filter ht hx hw, List.map_map]
      rfl
    · rw [if_neg (by simpa using hb), List.filter_map]
      have : ((fun p : Int × Int => decide (p.1 / t = x) && decide (p.2 / t = y)) ∘ fun x => (x, b)) = fun _ => false := by
        funext a
        simp [hb]
      rw [this]
      simp
  rw [e1, rng_filter ht hy hh, List.map_flatMap, sum_flat, List.map_map]
  unfold sqS
  congr 1
  apply List.map_congr_left
  intro j _
  show (((rng t).map fun i => (x * t + i, y * t + j)).map fun p : Int × Int => f p.1 p.2).sum = _
  rw [List.map_map]
  rfl
theorem sum_const {t v : Int} (ht : 0 ≤ t) : ((rng t).map fun _ => v).sum = t * v := by
  obtain ⟨n, rfl⟩ := Int.eq_ofNat_of_zero_le ht
  induction n with
  | zero => simp [rng]
  | succ n ih =>
    have e : ((n + 1 : Nat) : Int) = n + 1 := rfl
    rw [e, rng_succ (by omega), List.map_append, List.sum_append, ih (by omega), Int.add_mul]
    simp
theorem sqS_const {t x y v : Int} {f : Int → Int → Int} (ht : 1 ≤ t) (h : ∀ i j, 0 ≤ i → i < t → 0 ≤ j → j < t → f (x * t + i) (y * t + j) = v) : sqS t f x y = t * t * v := by
  unfold sqS
  have e : ((rng t).map fun j => ((rng t).map fun i => f (x * t + i) (y * t + j)).sum) = (rng t).map fun _ => t * v := mapR_ext fun j j0 j1 => by
    rw [show ((rng t).map fun i => f (x * t + i) (y * t + j)) = (rng t).map fun _ => v from mapR_ext fun i i0 i1 => h i j i0 i1 j0 j1, sum_const (by omega)]
  rw [e, sum_const (by omega), Int.mul_assoc]
/-- larger, then smaller -/
theorem large_small {w h t : Int} {f : Int → Int → Int} (ht : 1 ≤ t) {x y : Int} (x0 : 0 ≤ x) (y0 : 0 ≤ y) : sqS t (fun x y => f (x / t) (y / t)) x y / (t * t) = f x y := by
  rw [sqS_const (v := f x y) ht fun i j i0 i1 j0 j1 => ?_]
  · have : 0 < t * t := Int.mul_pos (by omega) (by omega)
    rw [Int.mul_ediv_cancel_left _ (by omega)]
  · show f ((x * t + i) / t) ((y * t + j) / t) = f x y
    have q1 : (x * t + i) / t = x := (Int.ediv_eq_iff_of_pos (by omega)).mpr ⟨by omega, by omega⟩
    have q2 : (y * t + j) / t = y := (Int.ediv_eq_iff_of_pos (by omega)).mpr ⟨by omega, by omega⟩
    rw [q1, q2]
/-- stretched to its own size -/
theorem str_own {w h x y : Int} {f : Int → Int → Int} (x0 : 0 ≤ x) (x1 : x < w) (y0 : 0 ≤ y) (y1 : y < h) : strF w h f w h x y = f x y := by
  unfold strF bet
  have ex : (2 * x + 1) * w - w = x * (2 * w) := by rw [Int.add_mul, Int.one_mul, Int.mul_comm 2 x, Int.mul_assoc]; omega
  have ey : (2 * y + 1) * h - h = y * (2 * h) := by rw [Int.add_mul, Int.one_mul, Int.mul_comm 2 y, Int.mul_assoc]; omega
  have qx : x * (2 * w) / (2 * w) = x := Int.mul_ediv_cancel _ (by omega)
  have qy : y * (2 * h) / (2 * h) = y := Int.mul_ediv_cancel _ (by omega)
  rw [ex, ey, qx, qy, Int.sub_self, Int.sub_self]
  simp only [Int.zero_mul, Int.mul_zero, Int.add_zero, Int.sub_zero]
  have n : nf w h f x y = f x y := by
    unfold nf
    rw [show min (w - 1) (max 0 x) = x by omega, show min (h - 1) (max 0 y) = y by omega]
  rw [n]
  have p : 0 < 2 * w * (2 * h) := Int.mul_pos (by omega) (by omega)
  have e2 : 2 * (2 * w) * (2 * h) = 2 * (2 * w * (2 * h)) := Int.mul_assoc ..
  rw [e2]
  generalize 2 * w * (2 * h) = c at *
  refine (Int.ediv_eq_iff_of_pos (by omega)).mpr ?_
  rw [Int.mul_comm (f x y) (2 * c), Int.mul_assoc]
  omega
theorem rot_back {w h m : Int} {f : Int → Int → Int} : (rotI ((-m) % 4).toNat (rotI (m % 4).toNat (w, h, f))).1 = w ∧ (rotI ((-m) % 4).toNat (rotI (m % 4).toNat (w, h, f))).2.1 = h ∧ ∀ x y, (rotI ((-m) % 4).toNat (rotI (m % 4).toNat (w, h, f))).2.2 x y = f x y := by
  have h4 : m % 4 = 0 ∨ m % 4 = 1 ∨ m % 4 = 2 ∨ m % 4 = 3 := by omega
  rcases h4 with e | e | e | e
  · have e2 : (-m) % 4 = 0 := by omega
    rw [e, e2]
    exact ⟨rfl, rfl, fun _ _ => rfl⟩
  · have e2 : (-m) % 4 = 3 := by omega
    rw [e, e2]
    refine ⟨rfl, rfl, fun x y => ?_⟩
    show f (w - 1 - (w - 1 - x)) (h - 1 - (h - 1 - y)) = f x y
    congr 1 <;> omega
  · have e2 : (-m) % 4 = 2 := by omega
    rw [e, e2]
    refine ⟨rfl, rfl, fun x y => ?_⟩
    show f (w - 1 - (w - 1 - x)) (h - 1 - (h - 1 - y)) = f x y
    congr 1 <;> omega
  · have e2 : (-m) % 4 = 1 := by omega
    rw [e, e2]
    refine ⟨rfl, rfl, fun x y => ?_⟩
    show f (w - 1 - (w - 1 - x)) (h - 1 - (h - 1 - y)) = f x y
    congr 1 <;> omega
end Sh
set_option maxRecDepth 100000
set_option maxHeartbeats 8000000
/-! LW: k06's own loop. -/
namespace Sh
open PySem Px
variable {Γ : Gm} [GOk Γ]
local macro_rules
  | `(tactic| simp_arith [$ls,*]) => `(tactic| simp (disch := first | assumption | omega | (simp only [szL, List.length_map, List.length_append, List.length_cons, List.length_nil, len_rng] ; omega)) only [bnd_ok, bnd_er, lft_some, ok_ok, e_rdV, e_rdB, vaS_va, vbS_va, vbS_ow, e_frz0, e_frz, frzG_some, frzG_none, frzS_va, frzS_no, frzS_la, frzS_d, frzS_lt, frzS_lf, frzS_ot, frzS_of, slF_f, slF_l, slF_d, slF_i, slF_t, slF_s, slF_b, slF_n, slF_o, e_isOw, isOw_ow, isOw_va, e_owned, ownS_ow, e_aimed, aimS_ow, aimS_dice, rcvI_va, rcvI_l, rcvI_d, rcvI_o, rcvJ_va, rcvJ_l, rcvJ_d, e_rdR, e_rdL, e_cst, e_bin, e_neg, e_ntX, e_cm1, e_cm2, e_cd, seqS_nil, seqS_cons, e_boX, boS_one, boS_and, boS_or, e_tupX, e_lstX, prS_nil, prS_cons, e_dicX, e_attr, e_oN, e_oS, partD_i, e_slc, e_stp, e_sub, e_noE, noO_ok, e_lcX, e_lc2X, e_dcX, e_any, e_all, e_gsum, e_gtup, e_cal, e_bi, e_meth, e_tldX, e_ntB, e_boB, boT_and0, boT_or0, boT_and, boT_or, e_c1B, e_c2B, e_tru, e_ttB, e_rg1, e_rg2, e_zpI, e_enI, e_dkI, e_dvI, zpO_l, zpO_t, enO_l, dkO_d, dvO_d, e_itI, e_nxS, e_bkS, e_ctS, e_rnS, e_raS, e_reS, e_apS, apO_l, e_moS, e_exS, e_asS, e_poS, e_laS, e_paS, parQ_nil, parQ_cons, e_tuS, e_nmT, e_tpT, e_tpK, e_tpL, tpTs_nil, tpTs_cons, e_stS, setO_some, setO_d0, setO_d1, setO_d2, e_flS, e_auS, e_ifS, e_foS, e_sq, sqO_nx, sqO_rt, sqO_bk, sqO_ct, endO_rt, endO_nx, endC_nx, b_add, b_sub, b_mull, b_mulr, b_div, b_mod, b_addL, b_addT, b_addS, b_mulL, n_neg, a_bl, c_lt, c_le, c_gt, c_ge, c_eqi, c_nei, x_wide, x_high, x_nums, x_rng, x_mkL, x_mkT, x_itl, x_itt, x_len, x_lent, x_int, x_intb, x_min, x_max, x_list, x_tuple, x_tup2, x_abs, x_bl, x_flw, x_flh, x_fln, x_augL, x_augI, w_nil, w_cons, i_le, i_nle, i_lt, i_nlt, i_eq, i_neq, n_le, n_lt, decide_true, decide_false, Option.map_some, Option.bind_some, List.getElem?_cons_zero, List.getElem?_cons_succ, List.set_cons_zero, List.set_cons_succ, List.map_cons, List.map_nil, List.cons_append, List.nil_append, List.length_cons, List.length_nil, List.replicate_zero, List.replicate_succ, Nat.reduceAdd, Nat.reduceSub, Bool.not_true, Bool.not_false, Bool.false_eq_true, if_true, if_false, true_and, and_true, ↓reduceIte, List.append_nil, Nat.zero_add, false_and, and_false, eq_self, and_self, x_rng2, x_listl, i_ne, x_ixt, x_ixl, x_ixk, x_sl, x_sll, x_row, x_cutR, x_strev, repL_one, at_tab, at_rng, bnd_assoc, x_pic, x_asl, endC_pic, nxp_nx, nxp_ct, List.length_map, len_rng, toNat_ok, x_sumR, x_sumt, x_suml, Int.zero_add, lcL_cons, lcL_nil, anyL_cons, anyL_nil, allL_cons, allL_nil, forO_nx, forO_ct, forO_bk, forO_rt, forL_cons, forL_nil, at_0, at_1, at_2, at_3, at_4, lc2L_cons, lc2L_nil, sum_cons, sum_nil, x_d0, x_d1, x_d2, x_ow, x_oh, x_or, x_sw, x_sh, x_own, x_own2, x_siz, x_siz2, x_mkTab, x_mkGrid, slF_siz, slF_own, frzS_siz, frzS_own, ok_noO, Bool.true_and, Bool.false_and, Bool.and_true, Bool.and_false, $ls,*])
def SpDice (F : Fn) : Prop := ∀ c dc, ∃ i j k : Int, F [.int c] dc = .ok (.lst [.int i, .int j, .int k]) dc
theorem b_pow18 : binD .Pow (.int 10) (.int 18) = some (.int 1000000000000000000) := rfl
theorem sp_dice : SpDice (run 1 1 (s_law_dice Γ)) := fun c dc => by
  suffices key : Ok (run 1 1 (s_law_dice Γ) [.int c] dc) fun a d => d = dc ∧ ∃ i j k : Int, a = .lst [.int i, .int j, .int k] by
    obtain ⟨a, d, e, rfl, i, j, k, rfl⟩ := key
    exact ⟨i, j, k, e⟩
  refine run_ok rfl ?_
  unfold s_law_dice
  by_cases h1 : -10 < c
  · by_cases h2 : c < 10
    · simp_arith []
      exact ⟨_, _, _, rfl⟩
    · simp_arith [b_pow18]
      exact ⟨_, _, _, rfl⟩
  · simp_arith [b_pow18]
    exact ⟨_, _, _, rfl⟩
def SpRounds (F : Fn) : Prop := ∀ (ns : List Int) dc, ∃ i j k : Int, F [.klst (ns.map .int), .int 1] dc = .ok (.lst [.lst [.int i, .int j, .int k]]) dc
theorem x_slk {xs : List D} {lo hi} : slD (.klst xs) lo hi = some (.lst (cutD xs lo hi)) := rfl
theorem cut_1 {xs : List D} : cutD xs none (some 1) = xs.take 1 := by
  unfold cutD
  show (xs.drop 0).take (Px.sIx xs.length xs.length (some 1) - 0) = _
  have : Px.sIx xs.length xs.length (some 1) = min 1 xs.length := rfl
  rw [this, List.drop_zero, Nat.sub_zero]
  cases xs with
  | nil => rfl
  | cons a r => rw [List.length_cons, Nat.min_eq_left (by omega)]
theorem sp_rounds {D' : Fn} (hD : SpDice D') : SpRounds (run 2 4 (s_law_rounds Γ D')) := fun ns dc => by
  suffices key : Ok (run 2 4 (s_law_rounds Γ D') [.klst (ns.map .int), .int 1] dc) fun a d => d = dc ∧ ∃ i j k : Int, a = .lst [.lst [.int i, .int j, .int k]] by
    obtain ⟨a, d, e, rfl, i, j, k, rfl⟩ := key
    exact ⟨i, j, k, e⟩
  refine run_ok rfl ?_
  unfold s_law_rounds
  cases ns with
  | nil =>
    obtain ⟨i, j, k, e⟩ := hD 0 dc
    have c0 : cmpG Γ .Eq (.lst []) (.lst []) = some true := rfl
    simp_arith [x_slk, cut_1, List.take_nil, c0, e]
    exact ⟨_, _, _, rfl⟩
  | cons n ns =>
    obtain ⟨i, j, k, e⟩ := hD n dc
    have c0 : cmpG Γ .Eq (.lst [.int n]) (.lst []) = some false := c_eq_nil rfl
    simp_arith [x_slk, cut_1, List.take_succ_cons, List.take_zero, c0, e]
    exact ⟨_, _, _, rfl⟩
theorem sp_law {fMade fPic fRoll fLq fIs fQ fOv fSp fAt fLa fSm fLb fSt fBt fB fFi : Fn} (hMade : SpMade fMade) (hPic : SpPic fPic) (hRoll : SpRoll fRoll) (hLq : SpLQuarter fLq) (hIs : SpIs fIs) (hQ : SpQuarter fQ) (hOv : SpOver fOv) (hSp : SpSpots fSp) (hAt : SpLAt fAt) (hLa : SpLarger fLa) (hSm : SpSmaller fSm)
    (hLb : SpLBet fLb) (hSt : SpStretched fSt) (hBt : SpByTable fBt) (hB : SpBetween fB) (hFi : SpFitted fFi) (hsm : HasM Γ "is_same" SpSame) (dc : Dc) :
    Ok (s_lawfor Γ fMade fPic fRoll fLq fIs fQ fOv fSp fAt fLa fSm fLb fSt fBt fB fFi [.no, .va .dice, .no, .no, .no, .no, .no, .no, .no, .no, .no, .no, .no, .no, .no, .no, .no, .no, .no, .no, .no, .no, .no, .no] dc) (NxP fun _ _ => True) := by
  obtain ⟨fS, es, hS⟩ := hsm
  unfold s_lawfor
  obtain ⟨w, h, f, d, eM, w1, w6, h1, h6, ok, _⟩ := hMade 6 1 255 dc (by omega) (by omega) (by omega) (by omega) (by omega)
  obtain ⟨_, w2, _, h2, hn⟩ := id ok
  simp_arith [eM, hPic w h f d ok]
  refine ok_roll hRoll (by omega) (by omega) fun v d v0 v1 => ?_
  simp_arith []
  generalize v - 5 = m
  refine ok_forR (n := m % 4) (fun i ρ d' => d' = d ∧ ∃ s1, ρ = [.no, .va .dice, .va (ownD w h f), .va (.int w), .va (.int h), .va (.lst ((tab w h f).map .int)), .va (picD w h f), .va (.int m), .va (ownD (rotI i.toNat (w, h, f)).1 (rotI i.toNat (w, h, f)).2.1 (rotI i.toNat (w, h, f)).2.2), s1, .no, .no, .no, .no, .no, .no, .no, .no, .no, .no, .no, .no, .no, .no]) (by omega) ?_ ?_ ?_
  · exact ⟨rfl, _, rfl⟩
  · rintro i ρ d' i0 i1 ⟨rfl, s1, rfl⟩
    have ok' := POk.rotI (p := (w, h, f)) ok i.toNat
    refine ⟨_, rfl, ?_⟩
    simp_arith [hLq _ _ _ d' ok']
    have e : (i + 1).toNat = i.toNat + 1 := by omega
    exact ⟨_, by rw [e, rotI]; rfl⟩
  · rintro ρ d' ⟨rfl, s1, rfl⟩
    have ok' := POk.rotI (p := (w, h, f)) ok (m % 4).toNat
    obtain ⟨rb1, rb2, rb3⟩ := rot_back (w := w) (h := h) (m := m) (f := f)
    have eQ := hQ w h f m d' ok
    have eQ2 := hQ _ _ _ (-m) d' ok'
    generalize rotI (m % 4).toNat (w, h, f) = p at *
    obtain ⟨p1, p2, p3⟩ := p
    have eI := hIs p1 p2 p3 p3 d' fun _ _ _ _ _ _ => rfl
    simp only [picP] at eQ eQ2 ok'
    rw [rb1, rb2] at eQ2
    have eS := hS w h (rotI (-m % 4).toNat (p1, p2, p3)).2.2 f d' fun x y _ _ _ _ => rb3 x y
    simp_arith [eQ, eI, eQ2, m_pic es (fun _ _ _ => rfl), eS]
    have eO := hOv w h f d' ok
    simp_arith [eO.1, hSp.own ok]
    refine ok_lcG (fun x y => f (w - 1 - x) y) ?_ ?_
    · intro x y x0 x1 y0 y1
      refine ⟨_, rfl, ?_, ?_⟩
      · simp_arith []
      · simp_arith [hAt w h f]
    · simp_arith [eO.2, hSp.own ok, hIs w h (fun x y => f (w - 1 - x) y) (fun x y => f (w - 1 - x) y) d' fun _ _ _ _ _ _ => rfl]
      refine ok_lcG (fun x y => f x (h - 1 - y)) ?_ ?_
      · intro x y x0 x1 y0 y1
        refine ⟨_, rfl, ?_, ?_⟩
        · simp_arith []
        · simp_arith [hAt w h f]
      · simp_arith [hIs w h (fun x y => f x (h - 1 - y)) (fun x y => f x (h - 1 - y)) d' fun _ _ _ _ _ _ => rfl]
        refine ok_roll hRoll (by omega) (by omega) fun u d u0 u1 => ?_
        generalize ht : 1 + u = t
        have t1 : 1 ≤ t := by omega
        have t4 : t ≤ 4 := by omega
        have wt : w * t ≤ 6 * 4 := Int.mul_le_mul w6 t4 (by omega) (by omega)
        have ht' : h * t ≤ 6 * 4 := Int.mul_le_mul h6 t4 (by omega) (by omega)
        have wt1 : t ≤ w * t := by have := Int.mul_le_mul_of_nonneg_right w1 (show 0 ≤ t by omega); omega
        have ht1 : t ≤ h * t := by have := Int.mul_le_mul_of_nonneg_right h1 (show 0 ≤ t by omega); omega
        have okL : POk (w * t) (h * t) (fun x y => f (x / t) (y / t)) := ⟨by omega, by omega, by omega, by omega, fun x y a b c d => hn _ _ (Int.ediv_nonneg a (by omega)) (Int.ediv_lt_of_lt_mul (by omega) b) (Int.ediv_nonneg c (by omega)) (Int.ediv_lt_of_lt_mul (by omega) d)⟩
        simp_arith [ht, hSp.siz (w := w * t) (g := h * t) (by omega) (by omega) (by omega) (by omega), hLa w h f t d ok t1 (by omega) (by omega) (by omega)]
        refine ok_lcG (fun x y => f (x / t) (y / t)) ?_ ?_
        · intro x y x0 x1 y0 y1
          have a1 := Int.ediv_nonneg x0 (show 0 ≤ t by omega)
          have a2 := Int.ediv_lt_of_lt_mul (show 0 < t by omega) x1
          have a3 := Int.ediv_nonneg y0 (show 0 ≤ t by omega)
          have a4 := Int.ediv_lt_of_lt_mul (show 0 < t by omega) y1
          refine ⟨_, rfl, ?_, ?_⟩
          · simp_arith []
          · simp_arith [hAt w h f]
        · have eSm := hSm (w * t) (h * t) (fun x y => f (x / t) (y / t)) t d okL t1 wt1 ht1
          rw [Int.mul_ediv_cancel _ (by omega), Int.mul_ediv_cancel _ (by omega)] at eSm
          have eS := hS w h (fun x y => sqS t (fun x y => f (x / t) (y / t)) x y / (t * t)) f d fun x y x0 x1 y0 y1 => large_small (w := w) (h := h) t1 x0 y0
          simp_arith [hIs (w * t) (h * t) (fun x y => f (x / t) (y / t)) (fun x y => f (x / t) (y / t)) d fun _ _ _ _ _ _ => rfl, hLa w h f t d ok t1 (by omega) (by omega) (by omega), eSm, m_pic es (fun _ _ _ => rfl), eS]
          refine ok_bnd (P := fun fl d' => d' = d ∧ ∃ s9 s10 s11 s14 s15 s16 s17, fl = .nx [.no, .va .dice, .va (ownD w h f), .va (.int w), .va (.int h), .va (.lst ((tab w h f).map .int)), .va (picD w h f), .va (.int m), .va (ownD p1 p2 p3), s9, s10, s11, .va (.int t), .va (sizD (w * t) (h * t)), s14, s15, s16, s17, .no, .no, .no, .no, .no, .no]) ?_ ?_
          · by_cases hm : t ≤ min w h
            · have tw : t ≤ w := by omega
              have th : t ≤ h := by omega
              have q1 : 0 ≤ w / t := Int.ediv_nonneg (by omega) (by omega)
              have q2 : 0 ≤ h / t := Int.ediv_nonneg (by omega) (by omega)
              have q3 : w / t ≤ w := Int.ediv_le_self _ (by omega)
              have q4 : h / t ≤ h := Int.ediv_le_self _ (by omega)
              simp_arith [hm, hSp.siz (w := w / t) (g := h / t) q1 (by omega) q2 (by omega)]
              refine ok_for (xs := grid (w / t) (h / t)) (emb := spD) (fun i ρ d' => d' = d ∧ ∃ s10 s11, ρ = [.no, .va .dice, .va (ownD w h f), .va (.int w), .va (.int h), .va (.lst ((tab w h f).map .int)), .va (picD w h f), .va (.int m), .va (ownD p1 p2 p3), s1, s10, s11, .va (.int t), .va (sizD (w * t) (h * t)), .va (sizD (w / t) (h / t)), .ow (.lst (((grid (w / t) (h / t)).take i).map fun p => .int (sqS t f p.1 p.2 / (t * t)))), .no, .no, .no, .no, .no, .no, .no, .no]) ?_ ?_ ?_
              · exact ⟨rfl, _, _, rfl⟩
              · rintro i ⟨x, y⟩ ρ d' hi ⟨rfl, s10, s11, rfl⟩
                obtain ⟨x0, x1, y0, y1⟩ := mem_grid.mp (List.mem_of_getElem? hi)
                simp only at x0 x1 y0 y1
                have hl := grid_le (w := w / t) (h := h / t) (by omega) (by omega)
                have hl2 : ((grid (w / t) (h / t)).take i).length ≤ 4096 := by rw [List.length_take]; omega
                refine ⟨_, rfl, ?_⟩
                simp_arith [hSp.own ok]
                refine ok_lcIf (xs := grid w h) (emb := spD) (fun p => decide (p.1 / t = x) && decide (p.2 / t = y)) (fun p => .int (f p.1 p.2)) ?_ ?_
                · rintro ⟨a, b⟩ hp
                  obtain ⟨a0, a1, b0, b1⟩ := mem_grid.mp hp
                  simp only at a0 a1 b0 b1
                  refine ⟨_, rfl, ?_, fun _ => ?_⟩
                  · by_cases e1 : a / t = x
                    · by_cases e2 : b / t = y
                      · simp_arith [e1, e2]
                      · simp_arith [e1, e2]
                    · simp_arith [e1]
                  · simp_arith [hAt w h f]
                · have e1 := sq_filter (f := f) t1 x0 y0 (blk_le (by omega) x1) (blk_le (by omega) y1)
                  have hlf := List.length_filter_le (fun p : Int × Int => decide (p.1 / t = x) && decide (p.2 / t = y)) (grid w h)
                  have hlg := grid_le (w := w) (h := h) w2 h2
                  have tt1 : t * t ≤ 4 * 4 := Int.mul_le_mul t4 t4 (by omega) (by omega)
                  have tt0 : 0 < t * t := Int.mul_pos (by omega) (by omega)
                  simp_arith [e1]
                  exact ⟨_, _, by rw [List.take_add_one, hi, List.map_append]; rfl⟩
              · rintro ρ d' ⟨rfl, s10, s11, rfl⟩
                have tt1 : t * t ≤ 4 * 4 := Int.mul_le_mul t4 t4 (by omega) (by omega)
                rw [List.take_length, grid_tab (f := fun x y => sqS t f x y / (t * t))]
                have eI := hIs (w / t) (h / t) (fun x y => sqS t f x y / (t * t)) (fun x y => sqS t f x y / (t * t)) d' fun _ _ _ _ _ _ => rfl
                simp_arith [hSm w h f t d' ok t1 tw th, eI]
                exact ⟨_, _, _, _, _, _, _, rfl⟩
            · simp_arith [hm]
              exact ⟨_, _, _, _, _, _, _, rfl⟩
          · rintro fl d' ⟨rfl, s9, s10, s11, s14, s15, s16, s17, rfl⟩
            simp_arith []
            refine ok_roll hRoll (by omega) (by omega) fun a d a0 a1 => ?_
            simp_arith []
            refine ok_roll hRoll (by omega) (by omega) fun b d b0 b1 => ?_
            simp_arith []
            generalize ha : 1 + a = a'
            generalize hb : 1 + b = b'
            have A1 : 1 ≤ a' := by omega
            have A9 : a' ≤ 9 := by omega
            have B1 : 1 ≤ b' := by omega
            have B9 : b' ≤ 9 := by omega
            simp_arith [hSp.siz (w := a') (g := b') (by omega) (by omega) (by omega) (by omega)]
            refine ok_lcG (strF w h f a' b') ?_ ?_
            · intro x y x0 x1 y0 y1
              have e := hLb w h f ((2 * x + 1) * w - a') (2 * a') ((2 * y + 1) * h - b') (2 * b') d ok (by omega) (by omega) (by omega) (by omega)
              refine ⟨_, rfl, ?_, ?_⟩
              · simp_arith []
              · simp_arith [e]
                rfl
            · have eS := hS w h (strF w h f w h) f d fun x y x0 x1 y0 y1 => str_own x0 x1 y0 y1
              simp_arith [hSt w h f a' b' d ok A1 (by omega) B1 (by omega), hIs a' b' (strF w h f a' b') (strF w h f a' b') d fun _ _ _ _ _ _ => rfl, hSt w h f w h d ok w1 w2 h1 h2, m_pic es (fun _ _ _ => rfl), eS]
              refine ok_lcE (xs := rng 2) (fun y => ∃ r : Int × Int × Int, y = rowT r) ?_ ?_
              · intro x hx dc
                refine ⟨_, rfl, ?_, ?_⟩
                · simp_arith []
                · simp_arith []
                  refine ok_lcE (xs := rng 3) (fun y => ∃ v : Int, y = .int v ∧ True) ?_ ?_
                  · intro z hz dc
                    refine ⟨_, rfl, ?_, ?_⟩
                    · simp_arith []
                    · simp_arith []
                      refine ok_roll hRoll (by omega) (by omega) fun v d v0 v1 => ?_
                      simp_arith []
                      exact ⟨_, rfl⟩
                  · intro ys d hl hy
                    obtain ⟨vs, rfl, _⟩ := ints_of hy
                    rw [List.length_map, len_rng] at hl
                    match vs, hl with
                    | [a, b, c], _ =>
                      simp_arith []
                      exact ⟨(a, b, c), rfl⟩
              · intro ys d hl hy
                rw [len_rng] at hl
                match ys, hl with
                | [y1, y2], _ =>
                  obtain ⟨r, rfl⟩ := hy y1 (by simp)
                  obtain ⟨s, rfl⟩ := hy y2 (by simp)
                  simp_arith []
                  refine ok_roll hRoll (by omega) (by omega) fun n d n0 n1 => ?_
                  simp_arith []
                  generalize hn' : 1 + n = n'
                  have N1 : 1 ≤ n' := by omega
                  have N5 : n' ≤ 5 := by omega
                  simp_arith [hSp.siz (w := a') (g := b') (by omega) (by omega) (by omega) (by omega)]
                  refine ok_lcG (tabF w h f r s n') ?_ ?_
                  · intro x y x0 x1 y0 y1
                    have e := hLb w h f (r.1 * x + r.2.1 * y + r.2.2) n' (s.1 * x + s.2.1 * y + s.2.2) n' d ok (by omega) (by omega) (by omega) (by omega)
                    refine ⟨_, rfl, ?_, ?_⟩
                    · simp_arith []
                    · simp_arith [e, rowT]
                      rfl
                  · simp_arith [hBt w h f r s n' a' b' d ok N1 (by omega) A1 (by omega) B1 (by omega), hIs a' b' (tabF w h f r s n') (tabF w h f r s n') d fun _ _ _ _ _ _ => rfl]
                    refine ok_roll hRoll (by omega) (by omega) fun p d p0 p1 => ?_
                    simp_arith []
                    refine ok_roll hRoll (by omega) (by omega) fun q d q0 q1 => ?_
                    obtain ⟨d', eF⟩ := hFi w h f d ok w6 h6
                    simp_arith [hB w h f p n' q n' d ok N1 (by omega) N1 (by omega), hLb w h f p n' q n' d ok N1 (by omega) N1 (by omega), eF]
end Sh
set_option maxRecDepth 100000
set_option maxHeartbeats 0
namespace Lk06
open PySem PySem.Spec PyProof.Rows L2 RZ LamX He Px
def top (i : Nat) : Stmt := PySem.Challenge.pw_pixelstack_k06_turns_and_sizes.main.body.getD i (.Pass ⟨0, 0, 0, 0⟩)
def mem (i j : Nat) : Stmt := inClass (top i) j

/-- _wall -/
def d0 : Df := ⟨"_wall", none, [("k" : Str)], [("k" : Str)], defArgs (top 0), defBody (top 0), defScope (top 0), []⟩
/-- Picture.__init__ -/
def d1 : Df := ⟨"Picture", some ("__init__" : Str), [("self" : Str), ("wide" : Str), ("high" : Str), ("numbers" : Str), ("rows" : Str), ("one" : Str)], [("self" : Str), ("wide" : Str), ("high" : Str), ("numbers" : Str)], defArgs (mem 8 0), defBody (mem 8 0), defScope (mem 8 0), []⟩
/-- Picture.at -/
def d2 : Df := ⟨"Picture", some ("at" : Str), [("self" : Str), ("x" : Str), ("y" : Str)], [("self" : Str), ("x" : Str), ("y" : Str)], defArgs (mem 8 1), defBody (mem 8 1), defScope (mem 8 1), []⟩
/-- Picture.holds -/
def d3 : Df := ⟨"Picture", some ("holds" : Str), [("self" : Str), ("x" : Str), ("y" : Str)], [("self" : Str), ("x" : Str), ("y" : Str)], defArgs (mem 8 2), defBody (mem 8 2), defScope (mem 8 2), []⟩
/-- Picture.near -/
def d4 : Df := ⟨"Picture", some ("near" : Str), [("self" : Str), ("x" : Str), ("y" : Str)], [("self" : Str), ("x" : Str), ("y" : Str)], defArgs (mem 8 3), defBody (mem 8 3), defScope (mem 8 3), []⟩
/-- Picture.row -/
def d5 : Df := ⟨"Picture", some ("row" : Str), [("self" : Str), ("y" : Str)], [("self" : Str), ("y" : Str)], defArgs (mem 8 4), defBody (mem 8 4), defScope (mem 8 4), []⟩
/-- Picture.column -/
def d6 : Df := ⟨"Picture", some ("column" : Str), [("self" : Str), ("x" : Str)], [("self" : Str), ("x" : Str)], defArgs (mem 8 5), defBody (mem 8 5), defScope (mem 8 5), []⟩
/-- Picture.put -/
def d7 : Df := ⟨"Picture", some ("put" : Str), [("self" : Str), ("spots" : Str)], [("self" : Str), ("spots" : Str)], defArgs (mem 8 6), defBody (mem 8 6), defScope (mem 8 6), []⟩
/-- Picture.part -/
def d8 : Df := ⟨"Picture", some ("part" : Str), [("self" : Str), ("x" : Str), ("y" : Str), ("wide" : Str), ("high" : Str), ("rows" : Str), ("line" : Str)], [("self" : Str), ("x" : Str), ("y" : Str), ("wide" : Str), ("high" : Str)], defArgs (mem 8 7), defBody (mem 8 7), defScope (mem 8 7), []⟩
/-- Picture.laid_on -/
def d9 : Df := ⟨"Picture", some ("laid_on" : Str), [("self" : Str), ("other" : Str), ("x" : Str), ("y" : Str)], [("self" : Str), ("other" : Str), ("x" : Str), ("y" : Str)], defArgs (mem 8 8), defBody (mem 8 8), defScope (mem 8 8), []⟩
/-- Picture.changed -/
def d10 : Df := ⟨"Picture", some ("changed" : Str), [("self" : Str), ("table" : Str)], [("self" : Str), ("table" : Str)], defArgs (mem 8 9), defBody (mem 8 9), defScope (mem 8 9), []⟩
/-- Picture.is_same -/
def d11 : Df := ⟨"Picture", some ("is_same" : Str), [("self" : Str), ("other" : Str)], [("self" : Str), ("other" : Str)], defArgs (mem 8 10), defBody (mem 8 10), defScope (mem 8 10), []⟩
/-- Picture.text -/
def d12 : Df := ⟨"Picture", some ("text" : Str), [("self" : Str), ("signs" : Str)], [("self" : Str), ("signs" : Str)], defArgs (mem 8 11), defBody (mem 8 11), defScope (mem 8 11), []⟩
/-- plain -/
def d13 : Df := ⟨"plain", none, [("wide" : Str), ("high" : Str), ("number" : Str)], [("wide" : Str), ("high" : Str), ("number" : Str)], defArgs (top 9), defBody (top 9), defScope (top 9), []⟩
/-- from_rows -/
def d14 : Df := ⟨"from_rows", none, [("rows" : Str), ("row" : Str), ("numbers" : Str)], [("rows" : Str)], defArgs (top 10), defBody (top 10), defScope (top 10), []⟩
/-- quarter -/
def d15 : Df := ⟨"quarter", none, [("picture" : Str), ("many" : Str), ("rows" : Str), ("y" : Str), ("turn" : Str), ("row" : Str), ("x" : Str)], [("picture" : Str), ("many" : Str)], defArgs (top 13), defBody (top 13), defScope (top 13), []⟩
/-- over -/
def d16 : Df := ⟨"over", none, [("picture" : Str), ("is_across" : Str), ("rows" : Str), ("y" : Str), ("row" : Str)], [("picture" : Str), ("is_across" : Str)], defArgs (top 14), defBody (top 14), defScope (top 14), []⟩
/-- larger -/
def d17 : Df := ⟨"larger", none, [("picture" : Str), ("times" : Str), ("rows" : Str), ("y" : Str), ("row" : Str), ("one" : Str)], [("picture" : Str), ("times" : Str)], defArgs (top 15), defBody (top 15), defScope (top 15), []⟩
/-- smaller -/
def d18 : Df := ⟨"smaller", none, [("picture" : Str), ("times" : Str), ("rows" : Str), ("y" : Str), ("row" : Str), ("x" : Str), ("whole" : Str), ("step" : Str)], [("picture" : Str), ("times" : Str)], defArgs (top 16), defBody (top 16), defScope (top 16), []⟩
/-- stretched -/
def d19 : Df := ⟨"stretched", none, [("picture" : Str), ("wide" : Str), ("high" : Str), ("found" : Str), ("y" : Str), ("x" : Str), ("across" : Str), ("down" : Str)], [("picture" : Str), ("wide" : Str), ("high" : Str)], defArgs (top 17), defBody (top 17), defScope (top 17), []⟩
/-- between -/
def d20 : Df := ⟨"between", none, [("picture" : Str), ("across" : Str), ("wide" : Str), ("down" : Str), ("high" : Str), ("x" : Str), ("y" : Str), ("a" : Str), ("b" : Str), ("whole" : Str)], [("picture" : Str), ("across" : Str), ("wide" : Str), ("down" : Str), ("high" : Str)], defArgs (top 18), defBody (top 18), defScope (top 18), []⟩
/-- sheared -/
def d21 : Df := ⟨"sheared", none, [("picture" : Str), ("more" : Str), ("number" : Str), ("wide" : Str), ("rows" : Str), ("y" : Str), ("start" : Str)], [("picture" : Str), ("more" : Str), ("number" : Str)], defArgs (top 19), defBody (top 19), defScope (top 19), []⟩
/-- rolled -/
def d22 : Df := ⟨"rolled", none, [("picture" : Str), ("x" : Str), ("y" : Str), ("rows" : Str), ("line" : Str), ("place" : Str), ("row" : Str)], [("picture" : Str), ("x" : Str), ("y" : Str)], defArgs (top 20), defBody (top 20), defScope (top 20), []⟩
/-- framed -/
def d23 : Df := ⟨"framed", none, [("picture" : Str), ("many" : Str), ("number" : Str), ("empty" : Str), ("rows" : Str), ("y" : Str)], [("picture" : Str), ("many" : Str), ("number" : Str)], defArgs (top 21), defBody (top 21), defScope (top 21), []⟩
/-- by_table -/
def d24 : Df := ⟨"by_table", none, [("picture" : Str), ("rows" : Str), ("bottom" : Str), ("wide" : Str), ("high" : Str), ("row" : Str), ("found" : Str), ("y" : Str), ("x" : Str), ("across" : Str), ("down" : Str)], [("picture" : Str), ("rows" : Str), ("bottom" : Str), ("wide" : Str), ("high" : Str)], defArgs (top 22), defBody (top 22), defScope (top 22), []⟩
/-- joined -/
def d25 : Df := ⟨"joined", none, [("pictures" : Str), ("is_across" : Str), ("sizes" : Str), ("one" : Str), ("whole" : Str), ("size" : Str), ("y" : Str), ("rows" : Str), ("row" : Str)], [("pictures" : Str), ("is_across" : Str)], defArgs (top 23), defBody (top 23), defScope (top 23), []⟩
/-- _law_dice -/
def d26 : Df := ⟨"_law_dice", none, [("cell" : Str)], [("cell" : Str)], defArgs (top 25), defBody (top 25), defScope (top 25), []⟩
/-- _law_roll -/
def d27 : Df := ⟨"_law_roll", none, [("dice" : Str), ("many" : Str), ("found" : Str)], [("dice" : Str), ("many" : Str)], defArgs (top 26), defBody (top 26), defScope (top 26), []⟩
/-- _law_rounds -/
def d28 : Df := ⟨"_law_rounds", none, [("script" : Str), ("most" : Str), ("cells" : Str), ("cell" : Str)], [("script" : Str), ("most" : Str)], defArgs (top 27), defBody (top 27), defScope (top 27), []⟩
/-- _law_told -/
def d29 : Df := ⟨"_law_told", none, [("what" : Str)], [("what" : Str)], defArgs (top 28), defBody (top 28), defScope (top 28), []⟩
/-- _law_picture -/
def d30 : Df := ⟨"_law_picture", none, [("dice" : Str), ("wide" : Str), ("high" : Str), ("most" : Str), ("k" : Str)], [("dice" : Str), ("wide" : Str), ("high" : Str), ("most" : Str)], defArgs (top 29), defBody (top 29), defScope (top 29), []⟩
/-- _law_at -/
def d31 : Df := ⟨"_law_at", none, [("own" : Str), ("x" : Str), ("y" : Str)], [("own" : Str), ("x" : Str), ("y" : Str)], defArgs (top 30), defBody (top 30), defScope (top 30), []⟩
/-- _law_in -/
def d32 : Df := ⟨"_law_in", none, [("own" : Str), ("x" : Str), ("y" : Str)], [("own" : Str), ("x" : Str), ("y" : Str)], defArgs (top 31), defBody (top 31), defScope (top 31), []⟩
/-- _law_near -/
def d33 : Df := ⟨"_law_near", none, [("own" : Str), ("x" : Str), ("y" : Str)], [("own" : Str), ("x" : Str), ("y" : Str)], defArgs (top 32), defBody (top 32), defScope (top 32), []⟩
/-- _law_spots -/
def d34 : Df := ⟨"_law_spots", none, [("own" : Str), ("found" : Str), ("y" : Str), ("x" : Str)], [("own" : Str)], defArgs (top 33), defBody (top 33), defScope (top 33), []⟩
/-- _law_made -/
def d35 : Df := ⟨"_law_made", none, [("dice" : Str), ("most" : Str), ("least" : Str), ("bright" : Str), ("wide" : Str), ("high" : Str)], [("dice" : Str), ("most" : Str), ("least" : Str), ("bright" : Str)], defArgs (top 34), defBody (top 34), defScope (top 34), []⟩
/-- _law_is -/
def d36 : Df := ⟨"_law_is", none, [("picture" : Str), ("wide" : Str), ("high" : Str), ("rows" : Str)], [("picture" : Str), ("wide" : Str), ("high" : Str), ("rows" : Str)], defArgs (top 35), defBody (top 35), defScope (top 35), []⟩
/-- _law_quarter -/
def d37 : Df := ⟨"_law_quarter", none, [("own" : Str), ("rows" : Str), ("y" : Str), ("x" : Str)], [("own" : Str)], defArgs (top 36), defBody (top 36), defScope (top 36), []⟩
/-- _law_between -/
def d38 : Df := ⟨"_law_between", none, [("own" : Str), ("across" : Str), ("wide" : Str), ("down" : Str), ("high" : Str), ("x" : Str), ("y" : Str), ("whole" : Str), ("a" : Str), ("one" : Str), ("b" : Str), ("two" : Str)], [("own" : Str), ("across" : Str), ("wide" : Str), ("down" : Str), ("high" : Str)], defArgs (top 37), defBody (top 37), defScope (top 37), []⟩
/-- _law_plain -/
def d39 : Df := ⟨"_law_plain", none, [("one" : Str), ("long" : Str), ("bad" : Str), ("f" : Str), ("picture" : Str)], [], defArgs (top 38), defBody (top 38), defScope (top 38), [(226, 0), (227, 0), (228, 0), (229, 0), (230, 0), (231, 0), (232, 0), (233, 0), (234, 0), (235, 0), (236, 0), (237, 0), (238, 0), (239, 0), (240, 0), (241, 0), (242, 0), (243, 0), (244, 0), (245, 0)]⟩
/-- _law_fitted -/
def d40 : Df := ⟨"_law_fitted", none, [("dice" : Str), ("picture" : Str), ("own" : Str), ("wide" : Str), ("high" : Str), ("rows" : Str), ("more" : Str), ("number" : Str), ("far" : Str), ("starts" : Str), ("y" : Str), ("due" : Str), ("x" : Str), ("one" : Str), ("two" : Str), ("rim" : Str), ("second" : Str), ("both" : Str)], [("dice" : Str), ("picture" : Str), ("own" : Str), ("wide" : Str), ("high" : Str), ("rows" : Str)], defArgs (top 39), defBody (top 39), defScope (top 39), []⟩
/-- law -/
def d41 : Df := ⟨"law", none, [("script" : Str), ("dice" : Str), ("own" : Str), ("wide" : Str), ("high" : Str), ("rows" : Str), ("picture" : Str), ("many" : Str), ("here" : Str), ("k" : Str), ("x" : Str), ("y" : Str), ("times" : Str), ("big" : Str), ("small" : Str), ("due" : Str), ("a" : Str), ("b" : Str), ("size" : Str), ("table" : Str), ("bottom" : Str), ("j" : Str), ("across" : Str), ("down" : Str)], [("script" : Str)], defArgs (top 40), defBody (top 40), defScope (top 40), []⟩
def tx : Tx := ⟨[d0, d1, d2, d3, d4, d5, d6, d7, d8, d9, d10, d11, d12, d13, d14, d15, d16, d17, d18, d19, d20, d21, d22, d23, d24, d25, d26, d27, d28, d29] ++ [d30, d31, d32, d33, d34, d35, d36, d37, d38, d39, d40, d41], [("Picture" : Str)], [(("Picture" : Str), ("wide" : Str)), (("Picture" : Str), ("high" : Str)), (("Picture" : Str), ("numbers" : Str))], [("PixelError" : Str), ("PictureError" : Str), ("TurnError" : Str)], [(("MOST_SIDE" : Str), (.int (64))), (("BRIGHTEST" : Str), (.int (255))), (("MOST_TIMES" : Str), (.int (8)))], [(d29, (("what" : Str), ("PixelError" : Str)), [("PixelError" : Str), ("PictureError" : Str), ("TurnError" : Str)], ("PixelError" : Str))]⟩
def lawTg : Expr := match top 40 with
  | .FunctionDef _ _ (.For tg _ _ _ _ :: _) _ _ _ _ _ _ _ => tg
  | _ => .Constant .none 0 ⟨0, 0, 0, 0⟩
def lawCall : Expr := match top 40 with
  | .FunctionDef _ _ (.For _ e _ _ _ :: _) _ _ _ _ _ _ _ => e
  | _ => .Constant .none 0 ⟨0, 0, 0, 0⟩
def lawFor : List Stmt := match top 40 with
  | .FunctionDef _ _ (.For _ _ b _ _ :: _) _ _ _ _ _ _ _ => b
  | _ => []
def lawPos : Pos := match top 40 with
  | .FunctionDef _ _ (.For _ _ _ _ p :: _) _ _ _ _ _ _ _ => p
  | _ => ⟨0, 0, 0, 0⟩
def lawRest : List Stmt := (defBody (top 40)).drop 1

end Lk06
set_option maxRecDepth 100000
set_option maxHeartbeats 0
/-! the shallow forms are the evaluator's -/
namespace Lk06
open PySem PySem.Spec PyProof.Rows L2 RZ LamX He Px Sh
abbrev G (k : Nat) : Gm := gmN 60 8 tx.B tx.fs tx.is tx.ms k
theorem k_Picture_init (k : Nat) : d1.I (G (k + 1)) 8 60 = runC "Picture" 4 6 (s_Picture_init (G (k + 1))) := by kernel_rfl
theorem k_Picture_at (k : Nat) : d2.F (G (k + 1)) 8 60 = run 3 3 (s_Picture_at (G (k + 1))) := by kernel_rfl
theorem k_Picture_holds (k : Nat) : d3.F (G (k + 1)) 8 60 = run 3 3 (s_Picture_holds (G (k + 1))) := by kernel_rfl
theorem k_Picture_near (k : Nat) : d4.F (G (k + 1)) 8 60 = run 3 3 (s_Picture_near (G (k + 1))) := by kernel_rfl
theorem k_Picture_row (k : Nat) : d5.F (G (k + 1)) 8 60 = run 2 2 (s_Picture_row (G (k + 1))) := by kernel_rfl
theorem k_Picture_part (k : Nat) : d8.F (G (k + 1)) 8 60 = run 5 7 (s_Picture_part (G (k + 1)) (d1.I (G k) 8 60)) := by kernel_rfl
theorem k_Picture_is_same (k : Nat) : d11.F (G (k + 1)) 8 60 = run 2 2 (s_Picture_is_same (G (k + 1))) := by kernel_rfl
theorem k_plain (k : Nat) : d13.F (G (k + 1)) 8 60 = run 3 3 (s_plain (G (k + 1)) (d1.I (G k) 8 60)) := by kernel_rfl
theorem k_from_rows (k : Nat) : d14.F (G (k + 1)) 8 60 = run 1 3 (s_from_rows (G (k + 1)) (d1.I (G k) 8 60)) := by kernel_rfl
theorem k_quarter (k : Nat) : d15.F (G (k + 1)) 8 60 = run 2 7 (s_quarter (G (k + 1)) (d14.F (G k) 8 60)) := by kernel_rfl
theorem k_over (k : Nat) : d16.F (G (k + 1)) 8 60 = run 2 5 (s_over (G (k + 1)) (d14.F (G k) 8 60)) := by kernel_rfl
theorem k_larger (k : Nat) : d17.F (G (k + 1)) 8 60 = run 2 6 (s_larger (G (k + 1)) (d14.F (G k) 8 60)) := by kernel_rfl
theorem k_smaller (k : Nat) : d18.F (G (k + 1)) 8 60 = run 2 8 (s_smaller (G (k + 1)) (d14.F (G k) 8 60)) := by kernel_rfl
theorem k_stretched (k : Nat) : d19.F (G (k + 1)) 8 60 = run 3 8 (s_stretched (G (k + 1)) (d20.F (G k) 8 60) (d1.I (G k) 8 60)) := by kernel_rfl
theorem k_between (k : Nat) : d20.F (G (k + 1)) 8 60 = run 5 10 (s_between (G (k + 1))) := by kernel_rfl
theorem k_sheared (k : Nat) : d21.F (G (k + 1)) 8 60 = run 3 7 (s_sheared (G (k + 1)) (d13.F (G k) 8 60) (d14.F (G k) 8 60)) := by kernel_rfl
theorem k_rolled (k : Nat) : d22.F (G (k + 1)) 8 60 = run 3 7 (s_rolled (G (k + 1)) (d14.F (G k) 8 60)) := by kernel_rfl
theorem k_framed (k : Nat) : d23.F (G (k + 1)) 8 60 = run 3 6 (s_framed (G (k + 1)) (d13.F (G k) 8 60) (d14.F (G k) 8 60)) := by kernel_rfl
theorem k_by_table (k : Nat) : d24.F (G (k + 1)) 8 60 = run 5 11 (s_by_table (G (k + 1)) (d20.F (G k) 8 60) (d1.I (G k) 8 60)) := by kernel_rfl
theorem k_joined (k : Nat) : d25.F (G (k + 1)) 8 60 = run 2 9 (s_joined (G (k + 1)) (d14.F (G k) 8 60)) := by kernel_rfl
theorem k_law_dice (k : Nat) : d26.F (G (k + 1)) 8 60 = run 1 1 (s_law_dice (G (k + 1))) := by kernel_rfl
theorem k_law_roll (k : Nat) : d27.F (G (k + 1)) 8 60 = run 2 3 (s_law_roll (G (k + 1)) (d27.F (G k) 8 60)) := by kernel_rfl
theorem k_law_rounds (k : Nat) : d28.F (G (k + 1)) 8 60 = run 2 4 (s_law_rounds (G (k + 1)) (d26.F (G k) 8 60)) := by kernel_rfl
theorem k_law_picture (k : Nat) : d30.F (G (k + 1)) 8 60 = run 4 5 (s_law_picture (G (k + 1)) (d27.F (G k) 8 60)) := by kernel_rfl
theorem k_law_at (k : Nat) : d31.F (G (k + 1)) 8 60 = run 3 3 (s_law_at (G (k + 1))) := by kernel_rfl
theorem k_law_in (k : Nat) : d32.F (G (k + 1)) 8 60 = run 3 3 (s_law_in (G (k + 1))) := by kernel_rfl
theorem k_law_near (k : Nat) : d33.F (G (k + 1)) 8 60 = run 3 3 (s_law_near (G (k + 1)) (d31.F (G k) 8 60)) := by kernel_rfl
theorem k_law_spots (k : Nat) : d34.F (G (k + 1)) 8 60 = run 1 4 (s_law_spots (G (k + 1))) := by kernel_rfl
theorem k_law_made (k : Nat) : d35.F (G (k + 1)) 8 60 = run 4 6 (s_law_made (G (k + 1)) (d27.F (G k) 8 60) (d30.F (G k) 8 60)) := by kernel_rfl
theorem k_law_is (k : Nat) : d36.F (G (k + 1)) 8 60 = run 4 4 (s_law_is (G (k + 1))) := by kernel_rfl
theorem k_law_quarter (k : Nat) : d37.F (G (k + 1)) 8 60 = run 1 4 (s_law_quarter (G (k + 1)) (d31.F (G k) 8 60)) := by kernel_rfl
theorem k_law_between (k : Nat) : d38.F (G (k + 1)) 8 60 = run 5 12 (s_law_between (G (k + 1)) (d33.F (G k) 8 60)) := by kernel_rfl
theorem k_law_fitted (k : Nat) : d40.F (G (k + 1)) 8 60 = run 6 18 (s_law_fitted (G (k + 1)) (d27.F (G k) 8 60) (d34.F (G k) 8 60) (d31.F (G k) 8 60) (d36.F (G k) 8 60) (d21.F (G k) 8 60) (d22.F (G k) 8 60) (d32.F (G k) 8 60) (d23.F (G k) 8 60) (d13.F (G k) 8 60) (d25.F (G k) 8 60)) := by kernel_rfl
theorem k_lawcall (k : Nat) : (fun ρ => dE 60 false (d41.cn (G (k + 1)) 8) lawCall ρ) = s_lawcall (G (k + 1)) (d28.F (G k) 8 60) := by kernel_rfl
theorem k_lawfor (k : Nat) : dSs 60 (d41.cn (G (k + 1)) 8) lawFor = s_lawfor (G (k + 1)) (d35.F (G k) 8 60) (d1.I (G k) 8 60) (d27.F (G k) 8 60) (d37.F (G k) 8 60) (d36.F (G k) 8 60) (d15.F (G k) 8 60) (d16.F (G k) 8 60) (d34.F (G k) 8 60) (d31.F (G k) 8 60) (d17.F (G k) 8 60) (d18.F (G k) 8 60) (d38.F (G k) 8 60) (d19.F (G k) 8 60) (d24.F (G k) 8 60) (d20.F (G k) 8 60) (d40.F (G k) 8 60) := by kernel_rfl
theorem k_lawrest (k : Nat) : dSs 60 (d41.cn (G (k + 1)) 8) lawRest = s_lawrest (G (k + 1)) (d39.F (G k) 8 60) := by kernel_rfl
theorem k_lawtg (k : Nat) : tgN 60 (d41.cn (G (k + 1)) 8) lawTg = (nmT 1) := by kernel_rfl
end Lk06
set_option maxRecDepth 100000
set_option maxHeartbeats 0
namespace Lk06
open PySem PySem.Spec PyProof.Rows L2 RZ LamX He Px

theorem rd0 : d0.Row := ⟨⟨rfl, rfl, rfl, by decide +kernel, rfl, by decide +kernel, by decide +kernel⟩, fun _ _ _ _ _ _ us hl => match us, hl with | [_], _ => rfl⟩
theorem rd1 : d1.Row := ⟨⟨rfl, rfl, rfl, by decide +kernel, rfl, by decide +kernel, by decide +kernel⟩, fun _ _ _ _ _ _ us hl => match us, hl with | [_, _, _, _], _ => rfl⟩
theorem rd2 : d2.Row := ⟨⟨rfl, rfl, rfl, by decide +kernel, rfl, by decide +kernel, by decide +kernel⟩, fun _ _ _ _ _ _ us hl => match us, hl with | [_, _, _], _ => rfl⟩
theorem rd3 : d3.Row := ⟨⟨rfl, rfl, rfl, by decide +kernel, rfl, by decide +kernel, by decide +kernel⟩, fun _ _ _ _ _ _ us hl => match us, hl with | [_, _, _], _ => rfl⟩
theorem rd4 : d4.Row := ⟨⟨rfl, rfl, rfl, by decide +kernel, rfl, by decide +kernel, by decide +kernel⟩, fun _ _ _ _ _ _ us hl => match us, hl with | [_, _, _], _ => rfl⟩
theorem rd5 : d5.Row := ⟨⟨rfl, rfl, rfl, by decide +kernel, rfl, by decide +kernel, by decide +kernel⟩, fun _ _ _ _ _ _ us hl => match us, hl with | [_, _], _ => rfl⟩
theorem rd6 : d6.Row := ⟨⟨rfl, rfl, rfl, by decide +kernel, rfl, by decide +kernel, by decide +kernel⟩, fun _ _ _ _ _ _ us hl => match us, hl with | [_, _], _ => rfl⟩
theorem rd7 : d7.Row := ⟨⟨rfl, rfl, rfl, by decide +kernel, rfl, by decide +kernel, by decide +kernel⟩, fun _ _ _ _ _ _ us hl => match us, hl with | [_, _], _ => rfl⟩
theorem rd8 : d8.Row := ⟨⟨rfl, rfl, rfl, by decide +kernel, rfl, by decide +kernel, by decide +kernel⟩, fun _ _ _ _ _ _ us hl => match us, hl with | [_, _, _, _, _], _ => rfl⟩
theorem rd9 : d9.Row := ⟨⟨rfl, rfl, rfl, by decide +kernel, rfl, by decide +kernel, by decide +kernel⟩, fun _ _ _ _ _ _ us hl => match us, hl with | [_, _, _, _], _ => rfl⟩
theorem rd10 : d10.Row := ⟨⟨rfl, rfl, rfl, by decide +kernel, rfl, by decide +kernel, by decide +kernel⟩, fun _ _ _ _ _ _ us hl => match us, hl with | [_, _], _ => rfl⟩
theorem rd11 : d11.Row := ⟨⟨rfl, rfl, rfl, by decide +kernel, rfl, by decide +kernel, by decide +kernel⟩, fun _ _ _ _ _ _ us hl => match us, hl with | [_, _], _ => rfl⟩
theorem rd12 : d12.Row := ⟨⟨rfl, rfl, rfl, by decide +kernel, rfl, by decide +kernel, by decide +kernel⟩, fun _ _ _ _ _ _ us hl => match us, hl with | [_, _], _ => rfl⟩
theorem rd13 : d13.Row := ⟨⟨rfl, rfl, rfl, by decide +kernel, rfl, by decide +kernel, by decide +kernel⟩, fun _ _ _ _ _ _ us hl => match us, hl with | [_, _, _], _ => rfl⟩
theorem rd14 : d14.Row := ⟨⟨rfl, rfl, rfl, by decide +kernel, rfl, by decide +kernel, by decide +kernel⟩, fun _ _ _ _ _ _ us hl => match us, hl with | [_], _ => rfl⟩
theorem rd15 : d15.Row := ⟨⟨rfl, rfl, rfl, by decide +kernel, rfl, by decide +kernel, by decide +kernel⟩, fun _ _ _ _ _ _ us hl => match us, hl with | [_, _], _ => rfl⟩
theorem rd16 : d16.Row := ⟨⟨rfl, rfl, rfl, by decide +kernel, rfl, by decide +kernel, by decide +kernel⟩, fun _ _ _ _ _ _ us hl => match us, hl with | [_, _], _ => rfl⟩
theorem rd17 : d17.Row := ⟨⟨rfl, rfl, rfl, by decide +kernel, rfl, by decide +kernel, by decide +kernel⟩, fun _ _ _ _ _ _ us hl => match us, hl with | [_, _], _ => rfl⟩
theorem rd18 : d18.Row := ⟨⟨rfl, rfl, rfl, by decide +kernel, rfl, by decide +kernel, by decide +kernel⟩, fun _ _ _ _ _ _ us hl => match us, hl with | [_, _], _ => rfl⟩
theorem rd19 : d19.Row := ⟨⟨rfl, rfl, rfl, by decide +kernel, rfl, by decide +kernel, by decide +kernel⟩, fun _ _ _ _ _ _ us hl => match us, hl with | [_, _, _], _ => rfl⟩
theorem rd20 : d20.Row := ⟨⟨rfl, rfl, rfl, by decide +kernel, rfl, by decide +kernel, by decide +kernel⟩, fun _ _ _ _ _ _ us hl => match us, hl with | [_, _, _, _, _], _ => rfl⟩
theorem rd21 : d21.Row := ⟨⟨rfl, rfl, rfl, by decide +kernel, rfl, by decide +kernel, by decide +kernel⟩, fun _ _ _ _ _ _ us hl => match us, hl with | [_, _, _], _ => rfl⟩
theorem rd22 : d22.Row := ⟨⟨rfl, rfl, rfl, by decide +kernel, rfl, by decide +kernel, by decide +kernel⟩, fun _ _ _ _ _ _ us hl => match us, hl with | [_, _, _], _ => rfl⟩
theorem rd23 : d23.Row := ⟨⟨rfl, rfl, rfl, by decide +kernel, rfl, by decide +kernel, by decide +kernel⟩, fun _ _ _ _ _ _ us hl => match us, hl with | [_, _, _], _ => rfl⟩
theorem rd24 : d24.Row := ⟨⟨rfl, rfl, rfl, by decide +kernel, rfl, by decide +kernel, by decide +kernel⟩, fun _ _ _ _ _ _ us hl => match us, hl with | [_, _, _, _, _], _ => rfl⟩
theorem rd25 : d25.Row := ⟨⟨rfl, rfl, rfl, by decide +kernel, rfl, by decide +kernel, by decide +kernel⟩, fun _ _ _ _ _ _ us hl => match us, hl with | [_, _], _ => rfl⟩
theorem rd26 : d26.Row := ⟨⟨rfl, rfl, rfl, by decide +kernel, rfl, by decide +kernel, by decide +kernel⟩, fun _ _ _ _ _ _ us hl => match us, hl with | [_], _ => rfl⟩
theorem rd27 : d27.Row := ⟨⟨rfl, rfl, rfl, by decide +kernel, rfl, by decide +kernel, by decide +kernel⟩, fun _ _ _ _ _ _ us hl => match us, hl with | [_, _], _ => rfl⟩
theorem rd28 : d28.Row := ⟨⟨rfl, rfl, rfl, by decide +kernel, rfl, by decide +kernel, by decide +kernel⟩, fun _ _ _ _ _ _ us hl => match us, hl with | [_, _], _ => rfl⟩
theorem rd29 : d29.Row := ⟨⟨rfl, rfl, rfl, by decide +kernel, rfl, by decide +kernel, by decide +kernel⟩, fun _ _ _ _ _ _ us hl => match us, hl with | [_], _ => rfl⟩
theorem rd30 : d30.Row := ⟨⟨rfl, rfl, rfl, by decide +kernel, rfl, by decide +kernel, by decide +kernel⟩, fun _ _ _ _ _ _ us hl => match us, hl with | [_, _, _, _], _ => rfl⟩
theorem rd31 : d31.Row := ⟨⟨rfl, rfl, rfl, by decide +kernel, rfl, by decide +kernel, by decide +kernel⟩, fun _ _ _ _ _ _ us hl => match us, hl with | [_, _, _], _ => rfl⟩
theorem rd32 : d32.Row := ⟨⟨rfl, rfl, rfl, by decide +kernel, rfl, by decide +kernel, by decide +kernel⟩, fun _ _ _ _ _ _ us hl => match us, hl with | [_, _, _], _ => rfl⟩
theorem rd33 : d33.Row := ⟨⟨rfl, rfl, rfl, by decide +kernel, rfl, by decide +kernel, by decide +kernel⟩, fun _ _ _ _ _ _ us hl => match us, hl with | [_, _, _], _ => rfl⟩
theorem rd34 : d34.Row := ⟨⟨rfl, rfl, rfl, by decide +kernel, rfl, by decide +kernel, by decide +kernel⟩, fun _ _ _ _ _ _ us hl => match us, hl with | [_], _ => rfl⟩
theorem rd35 : d35.Row := ⟨⟨rfl, rfl, rfl, by decide +kernel, rfl, by decide +kernel, by decide +kernel⟩, fun _ _ _ _ _ _ us hl => match us, hl with | [_, _, _, _], _ => rfl⟩
theorem rd36 : d36.Row := ⟨⟨rfl, rfl, rfl, by decide +kernel, rfl, by decide +kernel, by decide +kernel⟩, fun _ _ _ _ _ _ us hl => match us, hl with | [_, _, _, _], _ => rfl⟩
theorem rd37 : d37.Row := ⟨⟨rfl, rfl, rfl, by decide +kernel, rfl, by decide +kernel, by decide +kernel⟩, fun _ _ _ _ _ _ us hl => match us, hl with | [_], _ => rfl⟩
theorem rd38 : d38.Row := ⟨⟨rfl, rfl, rfl, by decide +kernel, rfl, by decide +kernel, by decide +kernel⟩, fun _ _ _ _ _ _ us hl => match us, hl with | [_, _, _, _, _], _ => rfl⟩
theorem rd39 : d39.Row := ⟨⟨rfl, rfl, rfl, by decide +kernel, rfl, by decide +kernel, by decide +kernel⟩, fun _ _ _ _ _ _ us hl => match us, hl with | [], _ => rfl⟩
theorem rd40 : d40.Row := ⟨⟨rfl, rfl, rfl, by decide +kernel, rfl, by decide +kernel, by decide +kernel⟩, fun _ _ _ _ _ _ us hl => match us, hl with | [_, _, _, _, _, _], _ => rfl⟩
theorem rd41 : d41.Row := ⟨⟨rfl, rfl, rfl, by decide +kernel, rfl, by decide +kernel, by decide +kernel⟩, fun _ _ _ _ _ _ us hl => match us, hl with | [_], _ => rfl⟩
theorem told_st : ToldSt d29 "what" "PixelError" "PixelError" := ⟨rfl, rfl, by first | exact .inl rfl | exact .inr (.inl rfl) | exact .inr (.inr rfl), by decide +kernel, rfl, rfl, rfl, fun _ => rfl, ⟨_, _, _, _, _, _, _, _, _, rfl⟩⟩
theorem rows : ∀ d ∈ tx.all, d.Row := fun d hd => by
  simp only [tx, List.mem_cons, List.mem_append, List.not_mem_nil, or_false] at hd
  rcases hd with (rfl | rfl | rfl | rfl | rfl | rfl | rfl | rfl | rfl | rfl | rfl | rfl | rfl | rfl | rfl | rfl | rfl | rfl | rfl | rfl | rfl | rfl | rfl | rfl | rfl | rfl | rfl | rfl | rfl | rfl) | (rfl | rfl | rfl | rfl | rfl | rfl | rfl | rfl | rfl | rfl | rfl | rfl)
  · exact rd0
  · exact rd1
  · exact rd2
  · exact rd3
  · exact rd4
  · exact rd5
  · exact rd6
  · exact rd7
  · exact rd8
  · exact rd9
  · exact rd10
  · exact rd11
  · exact rd12
  · exact rd13
  · exact rd14
  · exact rd15
  · exact rd16
  · exact rd17
  · exact rd18
  · exact rd19
  · exact rd20
  · exact rd21
  · exact rd22
  · exact rd23
  · exact rd24
  · exact rd25
  · exact rd26
  · exact rd27
  · exact rd28
  · exact rd29
  · exact rd30
  · exact rd31
  · exact rd32
  · exact rd33
  · exact rd34
  · exact rd35
  · exact rd36
  · exact rd37
  · exact rd38
  · exact rd39
  · exact rd40
  · exact rd41
theorem txok : tx.Ok := ⟨rows, by decide +kernel, by decide +kernel, by decide +kernel, by decide +kernel, fun q hq => by
  simp only [tx, List.mem_cons, List.not_mem_nil, or_false] at hq
  subst hq
  exact ⟨List.mem_filter.mpr ⟨by simp [tx], rfl⟩, told_st⟩⟩
abbrev R : PySem.W.OpenRow := PySem.W.OpenLaw.row PySem.Challenge.rw_pixelstack_k06_turns_and_sizes
abbrev hk : PySem.W.Hook := hookX 5 tx.fa tx.fn [] tx.tf tx.ex
def ob (s : PySem.W.SharedT) : AlX := obsX 5 tx.fa tx.fn [] tx.tf tx.ex (HandSHeadRun.getT s)
theorem ob_eq (s : PySem.W.SharedT) : ob s = hk.obs s.abs := obsX_eq (HandSHeadRun.getT_eq s)
theorem run (w : World) : HandSHeadRun.RunEq R (PySem.W.view R.prog [40]) hk ob 4000 ((["_wall", "PixelError", "PictureError", "TurnError", "MOST_SIDE", "BRIGHTEST", "Picture", "plain", "from_rows", "MOST_TIMES", "quarter", "over", "larger", "smaller", "stretched", "between", "sheared", "rolled", "framed", "by_table", "joined", "_law_dice", "_law_roll", "_law_rounds", "_law_told", "_law_picture", "_law_at", "_law_in", "_law_near", "_law_spots"] : List PySem.Str) ++ (["_law_made", "_law_is", "_law_quarter", "_law_between", "_law_plain", "_law_fitted"] : List PySem.Str)) w := by
  intro os
  kernel_rfl
/-- what is left: the pure side -/
def Pure : Prop := ∀ ns : List Int, ns.length ≤ 63 → (∀ z ∈ ns, Builtin.Int.intBits z ≤ 1048576) → LawR 60 ⟨d41.N, d41.scope, gmN 60 8 tx.B tx.fs tx.is tx.ms 14, 8, true, d41.lp⟩ lawTg lawCall lawFor lawRest (.va (.klst (ns.map .int)) :: List.replicate (d41.N.length - 1) .no) (0, 0, 0)
end Lk06
open PySem PySem.W PySem.Calls PyProof.Rows
theorem holds_of (hp : Lk06.Pure) : PySem.Challenge.rw_pixelstack_k06_turns_and_sizes.Holds := by
  w_on; o_law
  refine HandSHeadRun.head_any (r := OpenLaw.row PySem.Challenge.rw_pixelstack_k06_turns_and_sizes) (q := view (OpenLaw.row PySem.Challenge.rw_pixelstack_k06_turns_and_sizes).prog [40]) (H := Lk06.hk) (ob := Lk06.ob) (M := 4000) (loose := (["_wall", "PixelError", "PictureError", "TurnError", "MOST_SIDE", "BRIGHTEST", "Picture", "plain", "from_rows", "MOST_TIMES", "quarter", "over", "larger", "smaller", "stretched", "between", "sheared", "rolled", "framed", "by_table", "joined", "_law_dice", "_law_roll", "_law_rounds", "_law_told", "_law_picture", "_law_at", "_law_in", "_law_near", "_law_spots"] : List PySem.Str) ++ (["_law_made", "_law_is", "_law_quarter", "_law_between", "_law_plain", "_law_fitted"] : List PySem.Str)) (d := HandSHeadRun.topDef (OpenLaw.row PySem.Challenge.rw_pixelstack_k06_turns_and_sizes).prog 40) (kwd := []) Lk06.ob_eq
    (by kernel_rfl) (fun s => by kernel_rfl) Lk06.run (by kernel_rfl) (by kernel_rfl) (by kernel_rfl) (by rfl) (by first | assumption | decide +kernel) (by decide +kernel) ⟨rfl, rfl, rfl, rfl, rfl, by decide +kernel⟩ ?hw ?hc
  case hw => w_witness2
  case hc =>
    refine LamX.walk_ofTsE (l := PySem.Challenge.rw_pixelstack_k06_turns_and_sizes) (n := 63) (k := 14 * (8 + 2) + 8 + 1) (x := "script") (CX := fun w => L2.CX (PySem.Challenge.rw_pixelstack_k06_turns_and_sizes).prog w) rfl (by decide) (by kernel_rfl) ⟨rfl, by decide, by decide⟩ ?F (fun _ _ _ _ _ z => Px.cx_no z)
    intro w mg fa h Y G hmg0
    obtain ⟨K, KX, c⟩ := Y
    have hmg : mg ("law" : PySem.Str) = some (.ref fa) := by
      have e : (HandSHeadRun.topDef (OpenLaw.row PySem.Challenge.rw_pixelstack_k06_turns_and_sizes).prog 40).name = ("law" : PySem.Str) := by kernel_rfl
      rw [← e]
      exact hmg0
    exact ⟨K, KX, Px.law_at (t := Lk06.tx) (d := Lk06.d41) (fu := 60) (g := 8) (k := 14) (tg := Lk06.lawTg) (call := Lk06.lawCall) (fb := Lk06.lawFor) (rest := Lk06.lawRest) (pos := Lk06.lawPos) c KX G Lk06.txok (List.mem_filter.mpr ⟨by simp [Lk06.tx], rfl⟩) hmg rfl (by rfl) (by rfl) hp⟩
namespace Lk06
end Lk06
set_option maxRecDepth 100000
set_option maxHeartbeats 0
/-! k06: the specs along the layers -/
namespace Lk06
open PySem PySem.Spec PyProof.Rows L2 RZ LamX He Px Sh
instance gok (k : Nat) : GOk (G (k + 1)) := ⟨by show _ ∈ tx.B.fl; decide +kernel, by show _ ∈ tx.B.fl; decide +kernel, by show _ ∈ tx.B.fl; decide +kernel⟩
theorem o_Picture_init : ∀ k : Nat, 1 ≤ k → SpPic (d1.I (G k) 8 60)
  | k + 1, h => by rw [k_Picture_init k]; exact sp_pic 
theorem o_Picture_holds : ∀ k : Nat, 1 ≤ k → SpHolds (d3.F (G k) 8 60)
  | k + 1, h => by rw [k_Picture_holds k]; exact sp_holds 
theorem hm_Picture_holds : ∀ k : Nat, 2 ≤ k → HasM (G k) "holds" SpHolds
  | k + 1, h => ⟨_, rfl, o_Picture_holds k (by omega)⟩
theorem o_Picture_row : ∀ k : Nat, 1 ≤ k → SpRow (d5.F (G k) 8 60)
  | k + 1, h => by rw [k_Picture_row k]; exact sp_row 
theorem hm_Picture_row : ∀ k : Nat, 2 ≤ k → HasM (G k) "row" SpRow
  | k + 1, h => ⟨_, rfl, o_Picture_row k (by omega)⟩
theorem o_Picture_is_same : ∀ k : Nat, 1 ≤ k → SpSame (d11.F (G k) 8 60)
  | k + 1, h => by rw [k_Picture_is_same k]; exact sp_same 
theorem hm_Picture_is_same : ∀ k : Nat, 2 ≤ k → HasM (G k) "is_same" SpSame
  | k + 1, h => ⟨_, rfl, o_Picture_is_same k (by omega)⟩
theorem o_Picture_at : ∀ k : Nat, 2 ≤ k → SpAt (d2.F (G k) 8 60)
  | k + 1, h => by rw [k_Picture_at k]; exact sp_at (hm_Picture_holds (k + 1) (by omega))
theorem hm_Picture_at : ∀ k : Nat, 3 ≤ k → HasM (G k) "at" SpAt
  | k + 1, h => ⟨_, rfl, o_Picture_at k (by omega)⟩
theorem o_Picture_near : ∀ k : Nat, 3 ≤ k → SpNear (d4.F (G k) 8 60)
  | k + 1, h => by rw [k_Picture_near k]; exact sp_near (hm_Picture_at (k + 1) (by omega))
theorem hm_Picture_near : ∀ k : Nat, 4 ≤ k → HasM (G k) "near" SpNear
  | k + 1, h => ⟨_, rfl, o_Picture_near k (by omega)⟩
theorem o_Picture_part : ∀ k : Nat, 2 ≤ k → SpPart (d8.F (G k) 8 60)
  | k + 1, h => by rw [k_Picture_part k]; exact sp_part (hm_Picture_holds (k + 1) (by omega)) (hm_Picture_row (k + 1) (by omega)) (o_Picture_init k (by omega))
theorem hm_Picture_part : ∀ k : Nat, 3 ≤ k → HasM (G k) "part" SpPart
  | k + 1, h => ⟨_, rfl, o_Picture_part k (by omega)⟩
theorem o_plain : ∀ k : Nat, 2 ≤ k → SpPlain (d13.F (G k) 8 60)
  | k + 1, h => by rw [k_plain k]; exact sp_plain (o_Picture_init k (by omega))
theorem o_from_rows : ∀ k : Nat, 2 ≤ k → SpRows (d14.F (G k) 8 60)
  | k + 1, h => by rw [k_from_rows k]; exact sp_rows (o_Picture_init k (by omega))
theorem o_quarter : ∀ k : Nat, 3 ≤ k → SpQuarter (d15.F (G k) 8 60)
  | k + 1, h => by rw [k_quarter k]; exact sp_quarter (hm_Picture_row (k + 1) (by omega)) (o_from_rows k (by omega))
theorem o_over : ∀ k : Nat, 3 ≤ k → SpOver (d16.F (G k) 8 60)
  | k + 1, h => by rw [k_over k]; exact sp_over (hm_Picture_row (k + 1) (by omega)) (o_from_rows k (by omega))
theorem o_larger : ∀ k : Nat, 3 ≤ k → SpLarger (d17.F (G k) 8 60)
  | k + 1, h => by rw [k_larger k]; exact sp_larger (hm_Picture_row (k + 1) (by omega)) (o_from_rows k (by omega))
theorem o_smaller : ∀ k : Nat, 3 ≤ k → SpSmaller (d18.F (G k) 8 60)
  | k + 1, h => by rw [k_smaller k]; exact sp_smaller (hm_Picture_row (k + 1) (by omega)) (o_from_rows k (by omega))
theorem o_rolled : ∀ k : Nat, 3 ≤ k → SpRolled (d22.F (G k) 8 60)
  | k + 1, h => by rw [k_rolled k]; exact sp_rolled (hm_Picture_row (k + 1) (by omega)) (o_from_rows k (by omega))
theorem o_between : ∀ k : Nat, 4 ≤ k → SpBetween (d20.F (G k) 8 60)
  | k + 1, h => by rw [k_between k]; exact sp_between (hm_Picture_near (k + 1) (by omega))
theorem o_stretched : ∀ k : Nat, 5 ≤ k → SpStretched (d19.F (G k) 8 60)
  | k + 1, h => by rw [k_stretched k]; exact sp_stretched (o_between k (by omega)) (o_Picture_init k (by omega))
theorem o_by_table : ∀ k : Nat, 5 ≤ k → SpByTable (d24.F (G k) 8 60)
  | k + 1, h => by rw [k_by_table k]; exact sp_by_table (o_between k (by omega)) (o_Picture_init k (by omega))
theorem o_sheared : ∀ k : Nat, 3 ≤ k → SpSheared (d21.F (G k) 8 60)
  | k + 1, h => by rw [k_sheared k]; exact sp_sheared (hm_Picture_row (k + 1) (by omega)) (o_from_rows k (by omega)) (o_plain k (by omega))
theorem o_framed : ∀ k : Nat, 3 ≤ k → SpFramed (d23.F (G k) 8 60)
  | k + 1, h => by rw [k_framed k]; exact sp_framed (hm_Picture_row (k + 1) (by omega)) (o_from_rows k (by omega)) (o_plain k (by omega))
theorem o_joined_3 : ∀ k : Nat, 3 ≤ k → SpJoin3 (d25.F (G k) 8 60)
  | k + 1, h => by rw [k_joined k]; exact sp_join3 (hm_Picture_row (k + 1) (by omega)) (o_from_rows k (by omega))
theorem o_joined_2 : ∀ k : Nat, 3 ≤ k → SpJoin2 (d25.F (G k) 8 60)
  | k + 1, h => by rw [k_joined k]; exact sp_join2 (hm_Picture_row (k + 1) (by omega)) (o_from_rows k (by omega))
theorem o_law_roll : ∀ k : Nat, 1 ≤ k → SpRoll (d27.F (G k) 8 60)
  | k + 1, h => by rw [k_law_roll k]; exact sp_roll 
theorem o_law_picture : ∀ k : Nat, 2 ≤ k → SpDraw (d30.F (G k) 8 60)
  | k + 1, h => by rw [k_law_picture k]; exact sp_draw (o_law_roll k (by omega))
theorem o_law_made : ∀ k : Nat, 3 ≤ k → SpMade (d35.F (G k) 8 60)
  | k + 1, h => by rw [k_law_made k]; exact sp_made (o_law_roll k (by omega)) (o_law_picture k (by omega))
theorem o_law_at : ∀ k : Nat, 1 ≤ k → SpLAt (d31.F (G k) 8 60)
  | k + 1, h => by rw [k_law_at k]; exact sp_lat 
theorem o_law_in : ∀ k : Nat, 1 ≤ k → SpLIn (d32.F (G k) 8 60)
  | k + 1, h => by rw [k_law_in k]; exact sp_lin 
theorem o_law_near : ∀ k : Nat, 2 ≤ k → SpLNear (d33.F (G k) 8 60)
  | k + 1, h => by rw [k_law_near k]; exact sp_lnear (o_law_at k (by omega))
theorem o_law_spots : ∀ k : Nat, 1 ≤ k → SpSpots (d34.F (G k) 8 60)
  | k + 1, h => by rw [k_law_spots k]; exact sp_spots 
theorem o_law_is : ∀ k : Nat, 1 ≤ k → SpIs (d36.F (G k) 8 60)
  | k + 1, h => by rw [k_law_is k]; exact sp_is 
theorem o_law_quarter : ∀ k : Nat, 2 ≤ k → SpLQuarter (d37.F (G k) 8 60)
  | k + 1, h => by rw [k_law_quarter k]; exact sp_lquarter (o_law_at k (by omega))
theorem o_law_between : ∀ k : Nat, 3 ≤ k → SpLBet (d38.F (G k) 8 60)
  | k + 1, h => by rw [k_law_between k]; exact sp_lbet (o_law_near k (by omega))
theorem o_law_dice : ∀ k : Nat, 1 ≤ k → SpDice (d26.F (G k) 8 60)
  | k + 1, h => by rw [k_law_dice k]; exact sp_dice 
theorem o_law_rounds : ∀ k : Nat, 2 ≤ k → SpRounds (d28.F (G k) 8 60)
  | k + 1, h => by rw [k_law_rounds k]; exact sp_rounds (o_law_dice k (by omega))
theorem o_law_fitted : ∀ k : Nat, 4 ≤ k → SpFitted (d40.F (G k) 8 60)
  | k + 1, h => by rw [k_law_fitted k]; exact sp_fitted (o_law_roll k (by omega)) (o_law_spots k (by omega)) (o_law_at k (by omega)) (o_law_is k (by omega)) (o_sheared k (by omega)) (o_rolled k (by omega)) (o_law_in k (by omega)) (o_framed k (by omega)) (o_plain k (by omega)) (o_joined_3 k (by omega)) (o_joined_2 k (by omega)) (hm_Picture_is_same (k + 1) (by omega)) (hm_Picture_part (k + 1) (by omega))
theorem plain_ok (dc : Dc) : d39.F (G 13) 8 60 [] dc = .ok (.bl true) dc := by kernel_rfl
theorem pure_ok : Pure := fun ns hl hb => by
  obtain ⟨i, j, kk, eR⟩ := o_law_rounds 13 (by decide) ns (0, 0, 0)
  have main := sp_law (o_law_made 13 (by decide)) (o_Picture_init 13 (by decide)) (o_law_roll 13 (by decide)) (o_law_quarter 13 (by decide)) (o_law_is 13 (by decide)) (o_quarter 13 (by decide)) (o_over 13 (by decide)) (o_law_spots 13 (by decide)) (o_law_at 13 (by decide)) (o_larger 13 (by decide)) (o_smaller 13 (by decide)) (o_law_between 13 (by decide)) (o_stretched 13 (by decide)) (o_by_table 13 (by decide)) (o_between 13 (by decide)) (o_law_fitted 13 (by decide)) (hm_Picture_is_same 14 (by decide)) (i, j, kk)
  obtain ⟨fl, d, e, q⟩ := main
  obtain ⟨ρ2, hfl⟩ : ∃ ρ2, ∀ (k : S) dc, forO k fl dc = k ρ2 dc := by
    cases fl with
    | nx ρ => exact ⟨ρ, fun _ _ => rfl⟩
    | ct ρ => exact ⟨ρ, fun _ _ => rfl⟩
    | _ => exact q.elim
  refine ⟨i, j, kk, (0, 0, 0), ρ2, d, (congrFun (congrFun (k_lawcall 13) _) _).trans ?_, ?_⟩
  · unfold s_lawcall
    rw [e_cal]
    exact eR
  · unfold lawM
    show (forM' (tgN 60 (d41.cn (G 14) 8) lawTg) (dSs 60 (d41.cn (G 14) 8) lawFor) [.dice] [.no, .no, .no, .no, .no, .no, .no, .no, .no, .no, .no, .no, .no, .no, .no, .no, .no, .no, .no, .no, .no, .no, .no, .no] >>= fun f => match f with
      | .nx ρ => dSs 60 (d41.cn (G 14) 8) lawRest ρ
      | f => M.st) (i, j, kk) = _
    rw [k_lawtg 13, k_lawfor 13, k_lawrest 13, e_bind, forL_cons]
    show bnd (bnd (lft (some ([.no, .va .dice, .no, .no, .no, .no, .no, .no, .no, .no, .no, .no, .no, .no, .no, .no, .no, .no, .no, .no, .no, .no, .no, .no] : En)) (i, j, kk)) _) _ = _
    rw [lft_some, bnd_ok, e, bnd_ok, hfl, forL_nil, bnd_ok]
    show s_lawrest _ _ ρ2 d = _
    unfold s_lawrest
    rw [e_sq, e_reS, e_frz0, e_cal, seqS_nil, bnd_ok, plain_ok, bnd_ok, bnd_ok]
    rfl
end Lk06
set_option maxRecDepth 100000 in
set_option maxHeartbeats 8000000 in
theorem PySem.Challenge.cw_pixelstack_k06_turns_and_sizes_holds : PySem.Challenge.rw_pixelstack_k06_turns_and_sizes.Holds := by
  exact holds_of Lk06.pure_ok
