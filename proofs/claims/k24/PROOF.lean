import PyProof.Rows.All
import Wide.All
import OpenK.AllK
import Wide.FinOn
import HandS.ForMost
import HandS.ForExc
import PyProof.ReprRoads
import HandS.AnyAll
import HandS.Wide
import HandS.TupAny
import HandS.TupMul
import HandS.More
import HandS.ExcInit
import PyProof.ListMulRoad
import PyProof.FactsAll.tuple_2
import HandS.TupLe
import HandS.Deep
import HandS.Flow
import HandS.Style
import HandS.Gcd
import HandS.SortRule
import HandS.CallRecv
import HandS.Defaults
import KE.DataMinMax
import HandS.SortKw
import HandS.List
import HandS.IsInst
import KE.KIsNot
import KE.KIsAll
import HandS.Base
import HandS.Call
import HandS.SlotsOwn
import KE.GoesMore
import HandS.Zip
import KE.GoesEnum
import PyProof.Draws
import HandS.Rev
import HandS.TryMany
import HandS.Dict
import PyProof.InstSpecial
import PyProof.CallFns
import HandS.Conv
import HandS.WideBits
import PyProof.TupleOfGen
import PyProof.GenQ
import HandS.GenList
import PyProof.WalkInts
import KE.KTryMore
import HandS.ExcField
import HandS.ExcIs
import KE.KNestM
import HandS.HeadHook1
import HandS.HeadHook2
import HandS.HeadHook4
import KE.KStateDown
import HandS.EndTab
import HandS.Head2
import HandS.HeadWalk
import KE.BitLaws
import HandS.Text
import HandS.Head0
import HandS.Head1
import HandS.Head3
import PySem.Challenge.RW_fourread_k24_equations_added
set_option Elab.async false
set_option linter.all false
set_option maxRecDepth 100000
set_option autoImplicit false
set_option Elab.async false
set_option linter.all false
/-! Ev: a small language, its evaluator over plain values. -/
namespace Ev
open PySem

/-- values: trees; `ref n`: the n-th cell of the store (a list or an instance that may change) -/
inductive Val where
  | non | bl (b : Bool) | int (i : Int) | str (x : Str) | tup (xs : List Val) | lst (xs : List Val) | scr (xs : List Val)
  | obj (c : Nat) (ks : List Nat) (xs : List Val) | ref (n : Nat) | fn (f : Nat) | exv (c : Nat) (ks : List Nat) (xs : List Val)
  deriving Inhabited
inductive Cell where
  | lst (xs : List Val) | ins (c : Nat) (ks : List Nat) (xs : List Val) | dic (ks : List Str) (xs : List Val)
abbrev Store := List Cell
/-- what an evaluation gives: a value, an exception, or it is stuck -/
inductive R (α : Type) where
  | ok (a : α) (m : Store) | ex (c : Nat) (ks : List Nat) (xs : List Val) (m : Store) | stk
def R.bind {α β : Type} : R α → (α → Store → R β) → R β
  | .ok a m, f => f a m
  | .ex c ks xs m, _ => .ex c ks xs m
  | .stk, _ => .stk
theorem R.bind_ok {α β : Type} (a : α) (m : Store) (f : α → Store → R β) : (R.ok a m).bind f = f a m := rfl
theorem R.bind_ex {α β : Type} (c ks xs) (m : Store) (f : α → Store → R β) : (R.ex c ks xs m : R α).bind f = .ex c ks xs m := rfl
theorem R.bind_stk {α β : Type} (f : α → Store → R β) : (R.stk : R α).bind f = .stk := rfl
/-- no exception within -/
def R.nox {α : Type} : R α → R α
  | .ex _ _ _ _ => .stk
  | r => r
def R.ofO {α : Type} (o : Option α) (m : Store) : R α := match o with | some a => .ok a m | none => .stk
abbrev Env := List (Option Val)

mutual
/-- all references lie below k -/
def Val.bel (k : Nat) : Val → Bool
  | .tup xs => belL k xs
  | .lst xs => belL k xs
  | .scr xs => belL k xs
  | .obj _ _ xs => belL k xs
  | .exv _ _ xs => false
  | .ref n => decide (n < k)
  | _ => true
def belL (k : Nat) : List Val → Bool
  | [] => true
  | x :: xs => x.bel k && belL k xs
end
def Cell.bel (k : Nat) : Cell → Bool
  | .lst xs => belL k xs
  | .ins _ _ xs => belL k xs
  | .dic _ xs => belL k xs

mutual
/-- plain data -/
def Val.dat : Val → Bool
  | .non => true | .bl _ => true | .int _ => true | .str x => PyData.strOk x
  | .tup xs => datL xs
  | .lst xs => datL xs
  | _ => false
def datL : List Val → Bool
  | [] => true
  | x :: xs => x.dat && datL xs
end
mutual
def Val.toD : Val → PyData
  | .bl b => .bool b
  | .int i => .int i
  | .str x => .str x
  | .tup xs => .tuple (toDL xs)
  | .lst xs => .list (toDL xs)
  | _ => .none
def toDL : List Val → List PyData
  | [] => []
  | x :: xs => x.toD :: toDL xs
end
/-- == of plain data -/
def eqB (x y : Val) : Bool := PyData.eqv x.toD y.toD
def eqL (xs ys : List Val) : Bool := PyData.eqvAll (toDL xs) (toDL ys)
mutual
def Val.dep : Val → Nat
  | .tup xs => depL xs + 1
  | .lst xs => depL xs + 1
  | _ => 0
def depL : List Val → Nat
  | [] => 0
  | x :: xs => max x.dep (depL xs)
end

/-! ### the language -/
inductive Ty where
  | int | bool | str | tuple | list | vErr | own (c : Nat)
inductive Bif where
  | len | int | abs | list | tuple | sum | min | max | all | any | sorted | str | repr | gcd | bool | maxd
  deriving DecidableEq
/-- consumers of a generator expression -/
inductive Con where
  | all | any | sum | tuple | max
  deriving DecidableEq
inductive TG where
  | nm (i : Nat) | tp (is : List Nat) | tq (i : Nat) (is : List Nat)
mutual
inductive ME where
  | var (i : Nat)
  | con (v : Val)
  | glb (g : Nat)
  | bin (o : Operator) (a b : ME)
  | neg (a : ME)
  | nt (a : ME)
  | cmp (o : CmpOp) (a b : ME)
  | cmo (o : CmpOp) (a b : ME)
  | bno (o : Operator) (a b : ME)
  | mlr (a b : ME)
  | chn (o p : CmpOp) (a b c : ME)
  | and (a b : ME)
  | or (a b : ME)
  | ite (c a b : ME)
  | tup (es : MEs)
  | lst (m : Bool) (es : MEs)
  | fnc (f : Nat) (es : MEs)
  | fnk (f : Nat) (es : MEs) (ks : List Nat) (ke : MEs) (ds : List (Nat × Val))
  | mk (c : Nat) (es : MEs)
  | isi (a : ME) (ts : List Ty) (one : Bool)
  | xis (i : Nat) (ts : List Ty) (one : Bool)
  | xat (i f : Nat)
  | bif (b : Bif) (m : Bool) (es : MEs)
  | mth (o : ME) (m : Nat) (es : MEs)
  | app (o a : ME)
  | ext (o a : ME)
  | att (o : ME) (f : Nat)
  | idx (a i : ME)
  | slc (a : ME) (lo hi : MEs)
  | rvs (a : ME)
  | lc (m : Bool) (tg : TG) (it : IT) (cs : MEs) (e : ME)
  | lc2 (m : Bool) (tg : TG) (it : IT) (cs : MEs) (tg1 : TG) (it1 : IT) (cs1 : MEs) (el : ME)
  | gen (k : Con) (tg : TG) (it : IT) (cs : MEs) (e : ME)
  | dsp (ks : List Str) (es : MEs)
  | dgt (d k : ME)
  | lno (a : ME)
  | rep (a : ME)
  | ino (neg : Bool) (a b : ME)
  | mkk (c : Nat) (es : MEs) (ks : List Nat) (ke : MEs)
  | lrg (m : Bool) (a : ME)
  | btl (a : ME)
  | lix (o a : ME)
inductive MEs where
  | nil | cons (a : ME) (r : MEs)
inductive IT where
  | val (a : ME) | rng (a : ME) | rng2 (a b : ME) | rng3 (a b c : ME) | zip (a b : ME) | enm (a : ME) | rev (a : ME)
end
mutual
inductive MS where
  | set (i : Nat) (e : ME)
  | setT (is : List Nat) (e : ME)
  | setP (i j : Nat) (a b : ME)
  | setI (o i e : ME)
  | setD (o i e : ME)
  | setA (o : ME) (f : Nat) (e : ME)
  | swp (o1 i1 o2 i2 : ME) (a b : ME)
  | aug (i : Nat) (o : Operator) (e : ME)
  | expr (e : ME)
  | ret (e : ME)
  | retN
  | cond (c : ME) (a b : MSs)
  | for_ (tg : TG) (it : IT) (b : MSs)
  | whl (c : ME) (b : MSs)
  | brk | cnt | pas
  | rais (c : Nat) (es : MEs)
  | trys (b : MSs) (hs : MHs)
inductive MSs where
  | nil | cons (a : MS) (r : MSs)
inductive MHs where
  | nil | cons (c : Nat) (i : Option Nat) (b : MSs) (r : MHs)
end

structure FnT where
  at_ : Str × Option Str
  ar : Nat
  names : List Str
  body : MSs
  keep : Bool := false
  dfl : List Int := []
/-- the arguments that a function gets: the default of a keyword-only parameter is put in; a call by keyword says so by a mark -/
def fullA (F : FnT) (xs : List Val) : Option (List Val) := match F.dfl with
  | [] => some xs
  | i :: is => match xs.reverse with
    | .exv 0 [] [] :: r => some r.reverse
    | _ => some (xs ++ (i :: is).map .int)
def mkA (F : FnT) : List Val := match F.dfl with
  | [] => []
  | _ :: _ => [.exv 0 [] []]
theorem full_mk {F : FnT} {xs : List Val} : fullA F (xs ++ mkA F) = some xs := by
  unfold fullA mkA
  cases F.dfl with
  | nil => simp
  | cons i is => simp
structure ClsT where
  name : Str
  init : Option Nat
  flds : List Nat
  meths : List (Nat × Nat)
  imm : Bool
  exc : Option (List Nat)
  sup : List Nat
structure Prog where
  fns : List FnT
  cls : List ClsT
  ids : List Str
  consts : List (Str × Val)
  fuel : Nat
  gcd : Bool := false

/-- names that the language knows: methods of lists and texts, an own class's special methods -/
def rids : List Str := ["append", "extend", "pop", "reverse", "remove", "index", "count", "join", "split", "startswith", "replace", "get", "items", "bit_length",
  "__add__", "__sub__", "__mul__", "__eq__", "__len__", "__iter__", "__contains__", "__repr__"]

/-! ### values at work -/
abbrev szL : Nat := 16777216
def asM (m : Store) : Val → Option (List Val)
  | .lst xs => some xs
  | .ref n => match m[n]? with
    | some (.lst xs) => some xs
    | _ => none
  | _ => none
/-- the script too -/
def asL (m : Store) : Val → Option (List Val)
  | .lst xs => some xs
  | .scr xs => some xs
  | .ref n => match m[n]? with
    | some (.lst xs) => some xs
    | _ => none
  | _ => none
/-- a list, a tuple -/
def asS (m : Store) : Val → Option (List Val)
  | .tup xs => some xs
  | v => asL m v
/-- lists that may change, as they stand -/
def fix1 (m : Store) : Nat → Val → Val
  | 0, v => v
  | d + 1, .ref n => match m[n]? with
    | some (.lst xs) => .lst (xs.map (fix1 m d))
    | _ => .ref n
  | d + 1, .tup xs => .tup (xs.map (fix1 m d))
  | d + 1, .lst xs => .lst (xs.map (fix1 m d))
  | _, v => v
/-- references off: plain data as it stands -/
def look (m : Store) (v : Val) : Option Val :=
  if v.dat then some v else let w := fix1 m 6 v
  if w.dat then some w else none
def eqvD (m : Store) (a b : Val) : Option Bool := match look m a, look m b with
  | some x, some y => if x.dep ≤ 60 ∧ y.dep ≤ 60 then some (eqB x y) else none
  | _, _ => none
def eqv (m : Store) (a b : Val) : Option Bool := match a, b with
  | .str x, .str y => some (x == y)
  | a, b => eqvD m a b
def truth (m : Store) : Val → Option Bool
  | .non => some false
  | .bl b => some b
  | .int i => some (i != 0)
  | .str x => if x.length ≤ szL then some (x.length != 0) else none
  | .tup xs => some (!xs.isEmpty)
  | .lst xs => some (!xs.isEmpty)
  | .scr xs => some (!xs.isEmpty)
  | .ref n => match m[n]? with
    | some (.lst xs) => some (!xs.isEmpty)
    | _ => none
  | _ => none
def mulOk (i j : Int) : Bool := decide (i.natAbs.log2 + j.natAbs.log2 < 1000000) || (decide (i.natAbs < 18446744073709551616) || decide (j.natAbs < 18446744073709551616))
def powOk (i j : Int) : Bool := decide (0 ≤ j) && (decide (j ≤ 1000000) && decide (i.natAbs < 18446744073709551616))
def binV (m : Store) (o : Operator) (a b : Val) : Option Val := match o, a, b with
  | .Add, .int i, .int j => some (.int (i + j))
  | .Sub, .int i, .int j => some (.int (i - j))
  | .Mult, .int i, .int j => if mulOk i j then some (.int (i * j)) else none
  | .FloorDiv, .int i, .int j => if j ≠ 0 ∧ j.natAbs < 1073741824 then some (.int (i.fdiv j)) else if 0 < j ∧ j.natAbs.log2 < 9000 then some (.int (i / j)) else none
  | .Mod, .int i, .int j => if j ≠ 0 then some (.int (i.fmod j)) else none
  | .Pow, .int i, .int j => if powOk i j then some (.int (i ^ j.toNat)) else none
  | .LShift, .int i, .int j => if powOk i j then some (.int (i * 2 ^ j.toNat)) else none
  | .RShift, .int i, .int j => if 0 ≤ j then some (.int (i / 2 ^ j.toNat)) else none
  | .BitAnd, .int i, .int j => some (.int (Builtin.bitAnd i j))
  | .BitOr, .int i, .int j => some (.int (Builtin.bitOr i j))
  | .BitXor, .int i, .int j => some (.int (Builtin.bitXor i j))
  | .Add, .str x, .str y => if x.length + y.length ≤ szL then some (.str (x ++ y)) else none
  | .Add, .tup xs, .tup ys => if xs.length + ys.length ≤ szL then some (.tup (xs ++ ys)) else none
  | .Mult, .tup xs, .int k => if xs ≠ [] ∧ 2 ≤ k ∧ k ≤ 1000 ∧ xs.length ≤ 1000 then some (.tup (List.replicate k.toNat xs).flatten) else if xs ≠ [] ∧ k = 1 then some (.tup xs) else if xs ≠ [] ∧ k = 0 then some (.tup []) else none
  | .Mult, v, .int k => match asM m v with
    | some xs => if -(2 ^ 63) ≤ k ∧ k < 2 ^ 63 ∧ xs.length * k.toNat ≤ szL then some (.lst (List.replicate k.toNat xs).flatten) else none
    | none => none
  | .Add, v, w => match asM m v, asM m w with
    | some xs, some ys => if xs.length + ys.length ≤ szL then some (.lst (xs ++ ys)) else none
    | _, _ => none
  | _, _, _ => none
def isNonV : Val → Bool
  | .non => true
  | _ => false
def inV (m : Store) (x : Val) (v : Val) : Option Bool := match asS m v with
  | some xs => match look m x with
    | some y => if datL xs && (decide (y.dep ≤ 60) && decide (depL xs ≤ 60)) then some (xs.any fun z => eqB z y) else none
    | none => none
  | none => match x, v with
    | .str a, .str b => some (!(Builtin.Str.occurrences b a 0 b.length 1).isEmpty)
    | _, _ => none
/-- tuples of ints in order -/
def intsOf : List Val → Option (List Int)
  | [] => some []
  | .int i :: r => (intsOf r).map (i :: ·)
  | _ => none
def leT2 (xs ys : List Val) : Option Bool := match xs, ys with
  | [.int a, .int b], [.int c, .int d] => some (if a = c then decide (b ≤ d) else decide (a ≤ c))
  | _, _ => none
def cmpV (m : Store) (o : CmpOp) (a b : Val) : Option Bool := match o, a, b with
  | .Lt, .int i, .int j => some (decide (i < j))
  | .LtE, .int i, .int j => some (decide (i ≤ j))
  | .Gt, .int i, .int j => some (decide (j < i))
  | .GtE, .int i, .int j => some (decide (j ≤ i))
  | .Lt, .tup xs, .tup ys => match intsOf xs, intsOf ys with
    | some ns, some ms => some (HT.lexLt ns ms)
    | _, _ => none
  | .LtE, .tup xs, .tup ys => leT2 xs ys
  | .Eq, a, b => eqv m a b
  | .NotEq, a, b => (eqv m a b).map (!·)
  | .Is, a, .non => some (isNonV a)
  | .IsNot, a, .non => some (!isNonV a)
  | .Is, .bl a, .bl b => some (a == b)
  | .IsNot, .bl a, .bl b => some (!(a == b))
  | .In, a, b => inV m a b
  | .NotIn, a, b => (inV m a b).map (!·)
  | _, _, _ => none
/-- is an instance -/
def subC (G : Prog) (c d : Nat) : Bool := match G.cls[c]? with
  | some C => C.sup.contains d
  | none => false
def isExc (G : Prog) (c : Nat) : Bool := match G.cls[c]? with
  | some C => C.exc.isSome
  | none => false
inductive Kd where
  | non | bl | int | str | tup | lst | ins (c : Nat) | exv (c : Nat)
def kdV (m : Store) : Val → Option Kd
  | .non => some .non
  | .bl _ => some .bl
  | .int _ => some .int
  | .str _ => some .str
  | .tup _ => some .tup
  | .lst _ => some .lst
  | .scr _ => some .lst
  | .obj c _ _ => some (.ins c)
  | .exv c _ _ => some (.exv c)
  | .ref n => match m[n]? with
    | some (.lst _) => some .lst
    | some (.ins c _ _) => some (.ins c)
    | _ => none
  | .fn _ => none
def tyK (G : Prog) : Kd → Ty → Option Bool
  | .exv c, .vErr => some (isExc G c)
  | _, .vErr => none
  | .bl, .int => some true
  | .bl, .bool => some true
  | .int, .int => some true
  | .str, .str => some true
  | .tup, .tuple => some true
  | .lst, .list => some true
  | .ins c, .own d => some (subC G c d)
  | .exv c, .own d => some (subC G c d)
  | _, _ => some false
def anyK (G : Prog) (v : Kd) : List Ty → Option Bool
  | [] => some false
  | t :: r => match tyK G v t with
    | some true => some true
    | some false => anyK G v r
    | none => none
def isIns (G : Prog) (c : Nat) : Bool := match G.cls[c]? with
  | some C => C.exc.isNone
  | none => false
def kdOk (G : Prog) : Kd → Bool
  | .ins c => isIns G c
  | .exv c => isExc G c
  | _ => true
def anyTy (G : Prog) (m : Store) (v : Val) (ts : List Ty) : Option Bool := match kdV m v with
  | some k => if kdOk G k then anyK G k ts else none
  | none => none
/-- a slice's part -/
def cutL (xs : List Val) (lo hi : Option Int) : List Val := (xs.drop (HT.sIx xs.length 0 lo)).take (HT.sIx xs.length xs.length hi - HT.sIx xs.length 0 lo)
def intO : List Val → Option (Option Int)
  | [] => some none
  | [.int i] => some (some i)
  | _ => none
def slcV (m : Store) (v : Val) (lo hi : Option Int) : Option Val := match v with
  | .tup xs => some (.tup (cutL xs lo hi))
  | v => match asL m v with
    | some xs => some (.lst (cutL xs lo hi))
    | none => none
def idxV (m : Store) (v i : Val) : Option Val := match i with
  | .int k => match asS m v with
    | some xs => L2.atI xs k
    | none => match v with
      | .str z => if z.length ≤ szL then (L2.atI z.cps.toList k).map fun c => .str ⟨#[c]⟩ else none
      | _ => none
  | _ => none
def rvsV (m : Store) (v : Val) : Option Val := match v, asL m v with
  | .tup _, _ => none
  | _, some xs => some (.lst xs.reverse)
  | _, none => none
def lookF (f : Nat) : List Nat → List Val → Option Val
  | k :: ks, x :: xs => if k = f then some x else lookF f ks xs
  | _, _ => none
def putF (f : Nat) (v : Val) : List Nat → List Val → List Nat × List Val
  | k :: ks, x :: xs => if k = f then (k :: ks, v :: xs) else let (a, b) := putF f v ks xs; (k :: a, x :: b)
  | _, _ => ([f], [v])
/-- a dict whose keys are texts -/
def lookS (x : Str) : List Str → List Val → Option Val
  | k :: ks, v :: vs => if k = x then some v else lookS x ks vs
  | _, _ => none
/-- a key that stands takes a new value -/
def putS (x : Str) (w : Val) : List Str → List Val → Option (List Val)
  | k :: ks, v :: vs => if k = x then some (w :: vs) else (putS x w ks vs).map (v :: ·)
  | _, _ => none
def dgtV (m : Store) (o k : Val) : Option Val := match o, k with
  | .ref n, .str x => match m[n]? with
    | some (.dic ks xs) => lookS x ks xs
    | _ => none
  | _, _ => none
/-- repr(v) of plain data -/
def repV (m : Store) (v : Val) : Option Val := match look m v with
  | some y => if y.toD.showable = true ∧ y.toD.depth ≤ 60 ∧ y.toD.shown.length ≤ szL then some (.str y.toD.shown) else none
  | none => none
def setDV (o k v : Val) (s : Store) : Option Store := match o, k with
  | .ref n, .str x => match s[n]? with
    | some (.dic ks xs) => (putS x v ks xs).map fun ys => s.set n (.dic ks ys)
    | _ => none
  | _, _ => none
def newD (ks : List Str) (xs : List Val) (s : Store) : R Val := if ks.length = xs.length ∧ ks.Nodup ∧ ks.length ≤ 15 then .ok (.ref s.length) (s ++ [.dic ks xs]) else .stk
/-- an instance's class, its fields -/
def insOf (m : Store) : Val → Option (Nat × List Nat × List Val)
  | .obj c ks xs => some (c, ks, xs)
  | .ref n => match m[n]? with
    | some (.ins c ks xs) => some (c, ks, xs)
    | _ => none
  | _ => none
def hasF (G : Prog) (c f : Nat) : Bool := match G.cls[c]? with
  | some C => C.flds.contains f
  | none => false
/-- has an exception's class this attribute? -/
def hasX (G : Prog) (c f : Nat) : Bool := match G.cls[c]? with
  | some C => (match C.exc with
    | some ks => ks.contains f
    | none => false)
  | none => false
def attV (G : Prog) (m : Store) (v : Val) (f : Nat) : Option Val := match insOf m v with
  | some (c, ks, xs) => if hasF G c f then lookF f ks xs else none
  | none => none
def Prog.idn (G : Prog) (k : Nat) : Str := (rids ++ G.ids).getD k (Str.ofString "")
def methOf (G : Prog) (c m : Nat) (ks : List Nat) : Option Nat := match G.cls[c]? with
  | some C => if ks.contains m then none else C.meths.lookup m
  | none => none
/-- rows of new values: put as a list that may change, or as it is -/
def newL (m : Bool) (xs : List Val) (s : Store) : R Val :=
  if xs.length ≤ szL then (if m then .ok (.ref s.length) (s ++ [.lst xs]) else .ok (.lst xs) s) else .stk
def putL (m : Bool) (xs : List Val) (s : Store) : R Val := if m then .ok (.ref s.length) (s ++ [.lst xs]) else .ok (.lst xs) s
def sumI : List Val → Option Int
  | [] => some 0
  | .int i :: r => (sumI r).map (i + ·)
  | _ => none
def maxI (i : Int) : List Int → Int
  | [] => i
  | j :: r => maxI (if j > i then j else i) r
/-- the greatest, or d -/
def mxdI (d : Int) : List Int → Int
  | [] => d
  | n :: r => maxI n r
def minI (i : Int) : List Int → Int
  | [] => i
  | j :: r => minI (if j < i then j else i) r
def blsOf : List Val → Option (List Bool)
  | [] => some []
  | .bl b :: r => (blsOf r).map (b :: ·)
  | _ => none
def lenV (xs : List Val) (s : Store) : Option Val := match xs with
  | [.str z] => if z.length ≤ szL then some (.int z.length) else none
  | [v] => match asS s v with
    | some ys => some (.int ys.length)
    | none => none
  | _ => none
def intV : List Val → Option Val
  | [.int i] => some (.int i)
  | [.bl b] => some (.int (if b then 1 else 0))
  | _ => none
def boolV : List Val → Option Val
  | [.int i] => some (.bl (i != 0))
  | [.bl b] => some (.bl b)
  | _ => none
def absV : List Val → Option Val
  | [.int i] => some (.int (if i < 0 then -i else i))
  | _ => none
def gcdV : List Val → Option Val
  | [.int i, .int j] => some (.int ((Nat.gcd i.natAbs j.natAbs : Nat) : Int))
  | _ => none
def oneL (xs : List Val) (s : Store) : Option (List Val) := match xs with
  | [v] => asL s v
  | _ => none
def oneS (xs : List Val) (s : Store) : Option (List Val) := match xs with
  | [v] => asS s v
  | _ => none
def tupV (xs : List Val) (s : Store) : Option Val := (oneS xs s).map .tup
def sumV (xs : List Val) (s : Store) : Option Val := match oneL xs s with
  | some ys => (intsOf ys).map fun ns => .int ns.sum
  | none => none
def bigV (xs : List Val) (s : Store) : Option Val := match xs with
  | [.int i, .int j] => some (.int (if j > i then j else i))
  | xs => match oneL xs s with
    | some ys => match intsOf ys with
      | some (n :: ns) => some (.int (maxI n ns))
      | _ => none
    | none => none
def mxdV (xs : List Val) (s : Store) : Option Val := match xs with
  | [v, .int d] => match asL s v with
    | some ys => (intsOf ys).map fun ns => .int (mxdI d ns)
    | none => none
  | _ => none
def lowV (xs : List Val) (s : Store) : Option Val := match xs with
  | [.int i, .int j] => some (.int (if j < i then j else i))
  | xs => match oneL xs s with
    | some ys => match intsOf ys with
      | some (n :: ns) => some (.int (minI n ns))
      | _ => none
    | none => none
def allV (xs : List Val) (s : Store) : Option Val := match oneL xs s with
  | some ys => (blsOf ys).map fun bs => .bl (bs.all id)
  | none => none
def anyV (xs : List Val) (s : Store) : Option Val := match oneL xs s with
  | some ys => (blsOf ys).map fun bs => .bl (bs.any id)
  | none => none
def strV : List Val → Option Val
  | [.int i] => if i.natAbs.log2 < 1920 then some (.str (toString i)) else none
  | _ => none
/-- whole numbers in order -/
def insI (i : Int) : List Int → List Int
  | [] => [i]
  | j :: r => if i ≤ j then i :: j :: r else j :: insI i r
def sortI : List Int → List Int
  | [] => []
  | i :: r => insI i (sortI r)
def prsOf : List Val → Option (List (Int × Int))
  | [] => some []
  | .tup [.int a, .int b] :: r => (prsOf r).map ((a, b) :: ·)
  | _ => none
/-- is q below p -/
def belP (q p : Int × Int) : Bool := if q.1 = p.1 then decide (q.2 < p.2) else decide (q.1 < p.1)
def insP (p : Int × Int) : List (Int × Int) → List (Int × Int)
  | [] => [p]
  | q :: l => if belP q p = true then q :: insP p l else p :: q :: l
def sortP : List (Int × Int) → List (Int × Int)
  | [] => []
  | p :: l => insP p (sortP l)
def prV2 (p : Int × Int) : Val := .tup [.int p.1, .int p.2]
def srtV (xs : List Val) (s : Store) : Option (List Val) := match oneL xs s with
  | some ys => match intsOf ys with
    | some ns => if ns.length < 64 then some ((sortI ns).map .int) else none
    | none => match prsOf ys with
      | some ps => some ((sortP ps).map prV2)
      | none => none
  | none => none
def putO (mu : Bool) (o : Option (List Val)) (s : Store) : R Val := match o with
  | some ys => putL mu ys s
  | none => .stk
def bifV (b : Bif) (mu : Bool) (xs : List Val) (s : Store) : R Val := match b with
  | .len => R.ofO (lenV xs s) s
  | .int => R.ofO (intV xs) s
  | .bool => R.ofO (boolV xs) s
  | .abs => R.ofO (absV xs) s
  | .gcd => R.ofO (gcdV xs) s
  | .list => putO mu (oneS xs s) s
  | .tuple => R.ofO (tupV xs s) s
  | .sum => R.ofO (sumV xs s) s
  | .max => R.ofO (bigV xs s) s
  | .min => R.ofO (lowV xs s) s
  | .all => R.ofO (allV xs s) s
  | .any => R.ofO (anyV xs s) s
  | .sorted => putO mu (srtV xs s) s
  | .str => R.ofO (strV xs) s
  | .repr => .stk
  | .maxd => R.ofO (mxdV xs s) s
/-- xs.append(v) -/
def appV (o v : Val) (s : Store) : Option Store := match o with
  | .ref n => match s[n]? with
    | some (.lst ys) => if ys.length < szL then some (s.set n (.lst (ys ++ [v]))) else none
    | _ => none
  | _ => none
/-- xs.extend(ys) -/
def extV (o : Val) (zs : List Val) (s : Store) : Option Store := match o with
  | .ref n => match s[n]? with
    | some (.lst ys) => if ys.length + zs.length ≤ szL then some (s.set n (.lst (ys ++ zs))) else none
    | _ => none
  | _ => none
def extW (x y : Val) (s : Store) : Option Store := match asM s y with
  | some zs => extV x zs s
  | none => none
/-- the items of a range with a step -/
def rngC (i c : Int) (n : Nat) : List Val := (List.range n).map fun k => .int (i + (k : Nat) * c)
def rng3V (x y z : Val) : Option (List Val) := match x, y, z with
  | .int i, .int j, .int c => if c ≠ 0 ∧ c.natAbs < 1073741824 ∧ Builtin.Range.small i j c = true ∧ 0 ≤ Builtin.Range.rangeSize i j c then some (rngC i c (Builtin.Range.rangeSize i j c).toNat) else none
  | _, _, _ => none
/-- the items that an iterable gives; the second: the cell that must stand -/
def enumL (i : Nat) : List Val → List Val
  | [] => []
  | x :: r => .tup [.int (i : Nat), x] :: enumL (i + 1) r
def zipL : List Val → List Val → List Val
  | x :: xs, y :: ys => .tup [x, y] :: zipL xs ys
  | _, _ => []
/-- a tuple, a list that stays -/
def seqOf : Val → Option (List Val)
  | .tup xs => some xs
  | .lst xs => some xs
  | _ => none
def rngL (i : Int) (n : Nat) : List Val := (List.range n).map fun k => .int (i + (k : Nat))
def stands (s : Store) : Option (Nat × List Val) → Prop
  | none => True
  | some (n, xs) => s[n]? = some (.lst xs)
def liveOf (s : Store) (v : Val) (xs : List Val) : Option (Nat × List Val) := match v with
  | .ref n => some (n, xs)
  | _ => none
def enmC (o : Option Cell) (n : Nat) (s : Store) : R (List Val × Option (Nat × List Val)) := match o with
  | some (.lst xs) => .ok (enumL 0 xs, some (n, xs)) s
  | _ => .stk
def opId : Operator → Option Nat
  | .Add => some 14 | .Sub => some 15 | .Mult => some 16 | _ => none
def rngOk (i : Int) : Bool := decide (-(2 ^ 62) ≤ i) && decide (i < 2 ^ 62)

/-! ### evaluation -/
def tgS : TG → List Nat
  | .nm i => [i]
  | .tp is => is
  | .tq i is => i :: is
def setAll (e : Env) : List Nat → List Val → Env
  | i :: is, x :: xs => setAll (e.set i (some x)) is xs
  | _, _ => e
def asg (tg : TG) (v : Val) (e : Env) : Option Env := match tg with
  | .nm i => some (e.set i (some v))
  | .tp is => match v with
    | .tup xs => if xs.length = is.length then some (setAll e is xs) else none
    | _ => none
  | .tq i is => match v with
    | .tup [x, .tup xs] => if xs.length = is.length then some (setAll (e.set i (some x)) is xs) else none
    | _ => none
def wipeE (e : Env) : List Nat → Env
  | [] => e
  | v :: vs => (wipeE e vs).set v none
/-- the arguments in the parameters' order: positional ones, then by keyword (place, value) -/
def argsOf {α : Type} : Nat → Nat → List α → List (Nat × α) → Option (List α)
  | _, 0, _, _ => some []
  | i, n + 1, x :: xs, l => (argsOf (i + 1) n xs l).map (x :: ·)
  | i, n + 1, [], l => match l.lookup i with
    | some x => (argsOf (i + 1) n [] l).map (x :: ·)
    | none => none
inductive O where
  | nx (e : Env) (s : Store) | rt (v : Val) (s : Store) | bk (e : Env) (s : Store) | ct (e : Env) (s : Store)
  | ex (c : Nat) (ks : List Nat) (xs : List Val) (e : Env) (s : Store) | stk
/-- behind an expression of a statement -/
def R.thenO {α : Type} (r : R α) (e : Env) (f : α → Store → O) : O := match r with
  | .ok a m => f a m
  | .ex c ks xs m => .ex c ks xs e m
  | .stk => .stk
open Classical in
/-- a comprehension's list; f: one item -/
noncomputable def lcL (f : Val → Store → R (Option Val)) (live : Option (Nat × List Val)) : List Val → List Val → Store → R (List Val)
  | [], acc, s => if stands s live then .ok acc s else .stk
  | x :: r, acc, s => if stands s live then (f x s).bind fun o s1 => match o with
      | some v => if acc.length < szL then lcL f live r (acc ++ [v]) s1 else .stk
      | none => lcL f live r acc s1
    else .stk
open Classical in
/-- two clauses: the outer one's turns, the list handed on -/
noncomputable def lc2L (f : Val → List Val → Store → R (List Val)) (live : Option (Nat × List Val)) : List Val → List Val → Store → R (List Val)
  | [], acc, s => if stands s live then .ok acc s else .stk
  | x :: r, acc, s => if stands s live then (f x acc s).bind fun acc1 s1 => lc2L f live r acc1 s1 else .stk
def conBeg : Con → Val
  | .sum => .int 0
  | .tuple => .lst []
  | _ => .non
/-- one item to a consumer: it goes on with a new state, or ends -/
def conStep (k : Con) (acc v : Val) : Option (Val ⊕ Val) := match k, acc, v with
  | .all, a, .bl b => some (if b = true then .inl a else .inr (.bl false))
  | .any, a, .bl b => some (if b = true then .inr (.bl true) else .inl a)
  | .sum, .int i, .int j => if -(2 ^ 63) ≤ j ∧ j < 2 ^ 63 ∧ -(2 ^ 63) ≤ i + j ∧ i + j < 2 ^ 63 then some (.inl (.int (i + j))) else none
  | .tuple, .lst xs, v => if xs.length < szL then some (.inl (.lst (xs ++ [v]))) else none
  | .max, .non, .int j => some (.inl (.int j))
  | .max, .int i, .int j => some (.inl (.int (if j > i then j else i)))
  | _, _, _ => none
def conEnd (k : Con) (acc : Val) : Option Val := match k, acc with
  | .all, _ => some (.bl true)
  | .any, _ => some (.bl false)
  | .sum, .int i => some (.int i)
  | .tuple, .lst xs => some (.tup xs)
  | .max, .int i => some (.int i)
  | _, _ => none
/-- behind an item, which must not change the store -/
def conNext (k : Con) (acc : Val) (s : Store) (go : Val → R Val) : Option Val → R Val
  | some v => match conStep k acc v with
    | some (.inl a) => go a
    | some (.inr w) => .ok w s
    | none => .stk
  | none => go acc
open Classical in
noncomputable def genL (k : Con) (f : Val → Store → R (Option Val)) (live : Option (Nat × List Val)) (s : Store) : List Val → Val → R Val
  | [], acc => if stands s live then R.ofO (conEnd k acc) s else .stk
  | x :: r, acc => if stands s live then (f x s).bind fun o s1 => if s1 = s then conNext k acc s (genL k f live s r) o else .stk
    else .stk
open Classical in
noncomputable def forL (f : Val → Env → Store → O) (live : Option (Nat × List Val)) : List Val → Env → Store → O
  | [], e, s => if stands s live then .nx e s else .stk
  | x :: r, e, s => if stands s live then (match f x e s with
      | .nx e1 s1 => forL f live r e1 s1
      | .ct e1 s1 => forL f live r e1 s1
      | .bk e1 s1 => .nx e1 s1
      | o => o)
    else .stk
def whlL (c : Env → Store → R Bool) (f : Env → Store → O) : Nat → Env → Store → O
  | 0, _, _ => .stk
  | n + 1, e, s => (c e s).thenO e fun b s1 => if b then (match f e s1 with
      | .nx e1 s2 => whlL c f n e1 s2
      | .ct e1 s2 => whlL c f n e1 s2
      | .bk e1 s2 => .nx e1 s2
      | o => o) else .nx e s1
/-- a value made within a call, as it is handed out -/
def frz (s : Store) (k : Nat) : Nat → Val → Option Val
  | 0, v => if v.bel k then some v else none
  | d + 1, v => if v.bel k then some v else match v with
    | .ref n => match s[n]? with
      | some (.lst xs) => (xs.mapM (frz s k d)).map .lst
      | _ => none
    | .tup xs => (xs.mapM (frz s k d)).map .tup
    | .lst xs => (xs.mapM (frz s k d)).map .lst
    | .obj c ks xs => (xs.mapM (frz s k d)).map (.obj c ks)
    | _ => none
/-- the caller's cells at a call's end: as they were, or without anything new -/
def cutOk (s s' : Store) : Prop := s.length ≤ s'.length ∧ ∀ i c, i < s.length → s'[i]? = some c → s[i]? = some c ∨ c.bel s.length = true
open Classical in
noncomputable def shut (keep : Bool) (s : Store) (v : Val) (s' : Store) : R Val :=
  if keep = true then (if s.length ≤ s'.length then .ok v s' else .stk) else if cutOk s s' then R.ofO (frz s' s.length 4 v) (s'.take s.length) else .stk
open Classical in
noncomputable def shutE (s : Store) (c : Nat) (ks : List Nat) (xs : List Val) (s' : Store) : R Val :=
  if cutOk s s' ∧ belL s.length xs = true then .ex c ks xs (s'.take s.length) else .stk
open Classical in
/-- a new instance: its __init__ at the cell that was laid for it -/
noncomputable def mkV (G : Prog) (call : Nat → List Val → Store → R Val) (c : Nat) (xs : List Val) (s : Store) : R Val := match G.cls[c]? with
  | some C => match C.init with
    | some f => match call f (.ref s.length :: xs) (s ++ [.ins c [] []]) with
      | .ok .non s1 => if C.imm = true then (match s1[s.length]? with
          | some (.ins c' ks ys) => if c' = c ∧ belL s.length ys = true ∧ cutOk s s1 then .ok (.obj c ks ys) (s1.take s.length) else .stk
          | _ => .stk) else if s.length < s1.length then .ok (.ref s.length) s1 else .stk
      | .ok _ _ => .stk
      | .ex c ks ys s1 => shutE s c ks ys s1 |>.bind fun _ _ => .stk
      | .stk => .stk
    | none => .stk
  | none => .stk

def isExv : Val → Bool
  | .exv _ _ _ => true
  | _ => false
/-- an instance's class and its own method -/
def ownM (G : Prog) (s : Store) (i : Nat) (x : Val) : Option (Nat × Nat) := match insOf s x with
  | some (c, ks, _) => (methOf G c i ks).map fun f => (c, f)
  | none => none
/-- its class is c, or is not below c -/
def fitB (G : Prog) (s : Store) (y : Val) (c : Nat) : Bool := match kdV s y with
  | some k => kdOk G k && (match k with
    | .ins d => d == c || !subC G d c
    | .exv _ => false
    | _ => true)
  | none => false
def sameC (G : Prog) (s : Store) (y : Val) (c : Nat) : Bool := match kdV s y with
  | some k => kdOk G k && (match k with
    | .ins d => d == c
    | _ => false)
  | none => false
/-- what len(x) hands on -/
def lenR : Val → Store → R Val
  | .int i, s => if 0 ≤ i ∧ i < 2 ^ 62 then .ok (.int i) s else .stk
  | _, _ => .stk
def flipR (n : Bool) : Val → Store → R Val
  | .bl b, s => .ok (.bl (if n then !b else b)) s
  | _, _ => .stk
def blR : Val → Store → R Val
  | .bl b, s => .ok (.bl b) s
  | _, _ => .stk
/-- == where an own __eq__ may stand -/
def cmoV (G : Prog) (call : Nat → List Val → Store → R Val) (o : CmpOp) (x y : Val) (s : Store) : R Val := match o, ownM G s 17 x with
  | .Eq, some (c, f) => if fitB G s y c then (call f [x, y] s).bind blR else .stk
  | o, _ => R.ofO ((cmpV s o x y).map .bl) s
/-- len(x) by an own __len__ -/
def lnoV (G : Prog) (call : Nat → List Val → Store → R Val) (x : Val) (s : Store) : R Val := match ownM G s 18 x with
  | some (_, f) => (call f [x] s).bind lenR
  | none => .stk
/-- a in b by an own __contains__ -/
def inoV (G : Prog) (call : Nat → List Val → Store → R Val) (n : Bool) (a b : Val) (s : Store) : R Val := match ownM G s 20 b with
  | some (_, f) => (call f [b, a] s).bind (flipR n)
  | none => .stk
/-- a list repeated, the new one to be changed -/
def mulM (m : Store) (x y : Val) : Option (List Val) := match asM m x, y with
  | some xs, .int k => if -(2 ^ 63) ≤ k ∧ k < 2 ^ 63 ∧ xs.length * k.toNat ≤ szL then some (List.replicate k.toNat xs).flatten else none
  | _, _ => none
def mulR (m : Store) (x y : Val) : R Val := match mulM m x y with
  | some zs => putL true zs m
  | none => .stk
def bnoV (G : Prog) (call : Nat → List Val → Store → R Val) (o : Operator) (x y : Val) (s : Store) : R Val := match (opId o).bind fun i => ownM G s i x with
  | some (c, f) => if sameC G s y c then call f [x, y] s else .stk
  | none => R.ofO (binV s o x y) s
/-- list(range(n)) -/
def lrgV (m : Bool) (x : Val) (s : Store) : R Val := match x with
  | .int j => if decide (-(2 ^ 62) ≤ j) && decide (j ≤ 16777216) then putL m (rngL 0 j.toNat) s else .stk
  | _ => .stk
def btlV : Val → Option Val
  | .int i => some (.int (Builtin.Int.intBits i : Nat))
  | _ => none
/-- the place of the first such number -/
def ixI (i : Int) : List Int → Nat → Option Nat
  | [], _ => none
  | n :: r, j => if n = i then some j else ixI i r (j + 1)
def lixV (s : Store) (x y : Val) : Option Val := (asL s x).bind fun zs => match intsOf zs with
  | none => none
  | some ns => match y with
    | .int i => (ixI i ns 0).map fun j => .int (j : Nat)
    | _ => none
section
variable (G : Prog) (call : Nat → List Val → Store → R Val)
def binR (o : Operator) (a b : Val) (s : Store) : R Val := R.ofO (binV s o a b) s
def cmpR (o : CmpOp) (a b : Val) (s : Store) : R Val := R.ofO ((cmpV s o a b).map .bl) s
mutual
noncomputable def ev : ME → Env → Store → R Val
  | .var i, e, s => match e[i]? with
    | some (some v) => if isExv v then .stk else .ok v s
    | _ => .stk
  | .con v, _, s => .ok v s
  | .glb g, _, s => match G.consts[g]? with
    | some p => .ok p.2 s
    | none => .stk
  | .bin o a b, e, s => (ev a e s).bind fun x s1 => (ev b e s1).bind fun y s2 => binR o x y s2
  | .neg a, e, s => (ev a e s).bind fun x s1 => match x with
    | .int i => .ok (.int (-i)) s1
    | _ => .stk
  | .nt a, e, s => (ev a e s).bind fun x s1 => R.ofO ((truth s1 x).map fun b => .bl (!b)) s1
  | .cmp o a b, e, s => (ev a e s).bind fun x s1 => (ev b e s1).bind fun y s2 => cmpR o x y s2
  | .cmo o a b, e, s => (ev a e s).bind fun x s1 => (ev b e s1).bind fun y s2 => cmoV G call o x y s2
  | .mlr a b, e, s => (ev a e s).bind fun x s1 => (ev b e s1).bind fun y s2 => mulR s2 x y
  | .bno o a b, e, s => (ev a e s).bind fun x s1 => (ev b e s1).bind fun y s2 => bnoV G call o x y s2
  | .chn o p a b c, e, s => (ev a e s).bind fun x s1 => (ev b e s1).bind fun y s2 => (R.ofO (cmpV s2 o x y) s2).bind fun k s3 =>
      if k then (ev c e s3).bind fun z s4 => R.ofO ((cmpV s4 p y z).map .bl) s4 else .ok (.bl false) s3
  | .and a b, e, s => (ev a e s).bind fun x s1 => match truth s1 x with
    | some true => ev b e s1
    | some false => .ok x s1
    | none => .stk
  | .or a b, e, s => (ev a e s).bind fun x s1 => match truth s1 x with
    | some true => .ok x s1
    | some false => ev b e s1
    | none => .stk
  | .ite c a b, e, s => (ev c e s).bind fun x s1 => match truth s1 x with
    | some true => ev a e s1
    | some false => ev b e s1
    | none => .stk
  | .tup es, e, s => (evs es e s).bind fun xs s1 => if xs.length ≤ szL then .ok (.tup xs) s1 else .stk
  | .lst m es, e, s => (evs es e s).bind fun xs s1 => newL m xs s1
  | .fnc f es, e, s => (evs es e s).bind fun xs s1 => call f xs s1
  | .fnk f es ks ke ds, e, s => (evs es e s).bind fun xs s1 => (evs ke e s1).bind fun ys s2 => match G.fns[f]? with
    | some F => if xs.length + F.dfl.length ≤ F.ar ∧ (ks.all fun j => decide (xs.length ≤ j)) = true ∧ ys.length = ks.length then match argsOf 0 F.ar xs (ks.zip ys) with
      | some zs => call f (zs ++ mkA F) s2
      | none => .stk else .stk
    | none => .stk
  | .mk c es, e, s => (evs es e s).bind fun xs s1 => mkV G call c xs s1
  | .isi a ts _, e, s => (ev a e s).bind fun x s1 => R.ofO ((anyTy G s1 x ts).map .bl) s1
  | .xis i ts _, e, s => match e[i]? with
    | some (some (.exv c ks xs)) => R.ofO ((anyTy G s (.exv c ks xs) ts).map .bl) s
    | _ => .stk
  | .xat i f, e, s => match e[i]? with
    | some (some (.exv c ks xs)) => R.ofO (if hasX G c f then lookF f ks xs else none) s
    | _ => .stk
  | .bif b m es, e, s => (evs es e s).bind fun xs s1 => bifV b m xs s1
  | .dsp ks es, e, s => (evs es e s).nox.bind fun xs s1 => newD ks xs s1
  | .dgt o i, e, s => (ev o e s).bind fun x s1 => (ev i e s1).bind fun y s2 => R.ofO (dgtV s2 x y) s2
  | .lno a, e, s => (ev a e s).bind fun x s1 => lnoV G call x s1
  | .rep a, e, s => (ev a e s).bind fun x s1 => R.ofO (repV s1 x) s1
  | .ino n a b, e, s => (ev a e s).bind fun x s1 => (ev b e s1).bind fun y s2 => inoV G call n x y s2
  | .mkk c es ks ke, e, s => (evs es e s).bind fun xs s1 => (evs ke e s1).bind fun ys s2 => match (G.cls[c]?).bind fun C => C.init.bind fun f => G.fns[f]? with
    | some F => if F.dfl = [] ∧ xs.length + 1 ≤ F.ar ∧ (ks.all fun j => decide (xs.length + 1 ≤ j)) = true ∧ ys.length = ks.length then match argsOf 1 (F.ar - 1) xs (ks.zip ys) with
      | some zs => mkV G call c zs s2
      | none => .stk else .stk
    | none => .stk
  | .lrg m a, e, s => (ev a e s).bind fun x s1 => lrgV m x s1
  | .btl a, e, s => (ev a e s).bind fun x s1 => R.ofO (btlV x) s1
  | .lix o a, e, s => ((ev o e s).bind fun x s1 => R.ofO ((asL s1 x).map fun _ => x) s1).bind fun x s1 => (ev a e s1).bind fun y s2 => R.ofO (lixV s2 x y) s2
  | .mth o k es, e, s => (ev o e s).bind fun x s1 => match insOf s1 x with
    | some (c, ks, _) => match methOf G c k ks with
      | some f => (evs es e s1).bind fun xs s2 => call f (x :: xs) s2
      | none => .stk
    | none => .stk
  | .ext o a, e, s => ((ev o e s).bind fun x s1 => R.ofO ((asM s1 x).map fun _ => x) s1).bind fun x s1 => (ev a e s1).bind fun y s2 => R.ofO ((extW x y s2).map fun s3 => (Val.non, s3)) s2 |>.bind fun p _ => .ok p.1 p.2
  | .app o a, e, s => ((ev o e s).bind fun x s1 => R.ofO ((asM s1 x).map fun _ => x) s1).bind fun x s1 => (ev a e s1).bind fun y s2 => R.ofO ((appV x y s2).map fun s3 => (Val.non, s3)) s2 |>.bind fun p _ => .ok p.1 p.2
  | .att o f, e, s => (ev o e s).bind fun x s1 => R.ofO (attV G s1 x f) s1
  | .idx a i, e, s => (ev a e s).bind fun x s1 => (ev i e s1).bind fun y s2 => R.ofO (idxV s2 x y) s2
  | .slc a lo hi, e, s => (ev a e s).bind fun x s1 => ((evs lo e s1).bind fun l s2 => R.ofO (intO l) s2).bind fun l s2 => ((evs hi e s2).bind fun h s3 => R.ofO (intO h) s3).bind fun h s3 => R.ofO (slcV s3 x l h) s3
  | .rvs a, e, s => (ev a e s).bind fun x s1 => R.ofO (rvsV s1 x) s1
  | .lc m tg it cs el, e, s => (evI it e s).bind fun p s1 =>
      (lcL (fun x s2 => match asg tg x (wipeE e (tgS tg)) with
        | some e1 => ((evC cs e1 s2).bind fun b s3 => if b then (ev el e1 s3).bind fun v s4 => .ok (some v) s4 else .ok none s3).nox
        | none => .stk) p.2 p.1 [] s1).bind fun xs s2 => putL m xs s2
  | .lc2 m tg it cs tg1 it1 cs1 el, e, s => (evI it e s).bind fun p s1 =>
      (lc2L (fun x acc s2 => match asg tg x (wipeE e (tgS tg ++ tgS tg1)) with
        | some e1 => ((evC cs e1 s2).bind fun b s3 => if b then (evI it1 e1 s3).bind fun p1 s4 => lcL (fun y s5 => match asg tg1 y (wipeE e1 (tgS tg1)) with
            | some e2 => ((evC cs1 e2 s5).bind fun b s6 => if b then (ev el e2 s6).bind fun v s7 => .ok (some v) s7 else .ok none s6).nox
            | none => .stk) p1.2 p1.1 acc s4 else .ok acc s3).nox
        | none => .stk) p.2 p.1 [] s1).bind fun xs s2 => putL m xs s2
  | .gen k tg it cs el, e, s => (evI it e s).bind fun p s1 =>
      genL k (fun x s2 => match asg tg x (wipeE e (tgS tg)) with
        | some e1 => ((evC cs e1 s2).bind fun b s3 => if b then (ev el e1 s3).bind fun v s4 => .ok (some v) s4 else .ok none s3).nox
        | none => .stk) p.2 s1 p.1 (conBeg k)
noncomputable def evs : MEs → Env → Store → R (List Val)
  | .nil, _, s => .ok [] s
  | .cons a r, e, s => (ev a e s).bind fun x s1 => (evs r e s1).bind fun xs s2 => .ok (x :: xs) s2
/-- a row of tests -/
noncomputable def evC : MEs → Env → Store → R Bool
  | .nil, _, s => .ok true s
  | .cons a r, e, s => (ev a e s).bind fun x s1 => match truth s1 x with
    | some true => evC r e s1
    | some false => .ok false s1
    | none => .stk
noncomputable def evI : IT → Env → Store → R (List Val × Option (Nat × List Val))
  | .val a, e, s => (ev a e s).bind fun x s1 => match asS s1 x with
    | some xs => .ok (xs, liveOf s1 x xs) s1
    | none => .stk
  | .rng a, e, s => (ev a e s).bind fun x s1 => match x with
    | .int j => if rngOk j then .ok (rngL 0 j.toNat, none) s1 else .stk
    | _ => .stk
  | .rng2 a b, e, s => (ev a e s).bind fun x s1 => (ev b e s1).bind fun y s2 => match x, y with
    | .int i, .int j => if rngOk i && rngOk j then .ok (rngL i (j - i).toNat, none) s2 else .stk
    | _, _ => .stk
  | .rng3 a b c, e, s => (ev a e s).bind fun x s1 => (ev b e s1).bind fun y s2 => (ev c e s2).bind fun z s3 => match rng3V x y z with
    | some xs => .ok (xs, none) s3
    | none => .stk
  | .zip a b, e, s => (ev a e s).bind fun x s1 => (ev b e s1).bind fun y s2 => match seqOf x, seqOf y with
    | some xs, some ys => .ok (zipL xs ys, none) s2
    | _, _ => .stk
  | .enm a, e, s => (ev a e s).bind fun x s1 => match x with
    | .lst xs => .ok (enumL 0 xs, none) s1
    | .tup xs => .ok (enumL 0 xs, none) s1
    | .ref n => enmC s1[n]? n s1
    | _ => .stk
  | .rev a, e, s => (ev a e s).bind fun x s1 => match x with
    | .lst xs => .ok (xs.reverse, none) s1
    | _ => .stk
end
/-- a test -/
noncomputable def evT (c : ME) (e : Env) (s : Store) : R Bool := (ev G call c e s).bind fun x s1 => R.ofO (truth s1 x) s1
/-- an operator in place -/
def augV (o : Operator) (a b : Val) : Option Val := match o, a, b with
  | .Add, .int i, .int j => some (.int (i + j))
  | .Sub, .int i, .int j => some (.int (i - j))
  | .Mult, .int i, .int j => if -(2 ^ 64) < j ∧ j < 2 ^ 64 then some (.int (i * j)) else none
  | .BitXor, .int i, .int j => some (.int (Builtin.bitXor i j))
  | .Add, .str x, .str y => if x.length + y.length ≤ szL then some (.str (x ++ y)) else none
  | _, _, _ => none
def setIV (o i v : Val) (s : Store) : Option Store := match o, i with
  | .ref n, .int k => match s[n]? with
    | some (.lst xs) => match L2.ixN xs.length k with
      | some j => some (s.set n (.lst (xs.set j v)))
      | none => none
    | _ => none
  | _, _ => none
def setAV (G : Prog) (o : Val) (f : Nat) (v : Val) (s : Store) : Option Store := match o with
  | .ref n => match s[n]? with
    | some (.ins c ks xs) => if ks.length < 1000 ∧ ks.length = xs.length ∧ hasF G c f = true then let (a, b) := putF f v ks xs; some (s.set n (.ins c a b)) else none
    | _ => none
  | _ => none
def nxO (o : Option Store) (e : Env) : O := match o with
  | some s => .nx e s
  | none => .stk
mutual
noncomputable def sv : MS → Env → Store → O
  | .set i x, e, s => (ev G call x e s).thenO e fun v s1 => .nx (e.set i (some v)) s1
  | .setT is x, e, s => (ev G call x e s).thenO e fun v s1 => match asg (.tp is) v e with
    | some e1 => .nx e1 s1
    | none => .stk
  | .setP i j a b, e, s => (ev G call a e s).thenO e fun v s1 => (ev G call b e s1).thenO e fun w s2 => .nx ((e.set i (some v)).set j (some w)) s2
  | .setD o i x, e, s => (ev G call x e s).thenO e fun v s1 => (ev G call o e s1).thenO e fun ov s2 => (ev G call i e s2).thenO e fun iv s3 => nxO (setDV ov iv v s3) e
  | .setI o i x, e, s => (ev G call x e s).thenO e fun v s1 => (ev G call o e s1).thenO e fun ov s2 => (ev G call i e s2).thenO e fun iv s3 => nxO (setIV ov iv v s3) e
  | .setA o f x, e, s => (ev G call x e s).thenO e fun v s1 => (ev G call o e s1).thenO e fun ov s2 => nxO (setAV G ov f v s2) e
  | .swp o1 i1 o2 i2 a b, e, s => (ev G call a e s).thenO e fun v s1 => (ev G call b e s1).thenO e fun w s2 =>
      (ev G call o1 e s2).thenO e fun ov s3 => (ev G call i1 e s3).thenO e fun iv s4 => match setIV ov iv v s4 with
        | some s5 => (ev G call o2 e s5).thenO e fun ov s6 => (ev G call i2 e s6).thenO e fun iv s7 => nxO (setIV ov iv w s7) e
        | none => .stk
  | .aug i o x, e, s => match e[i]? with
    | some (some v) => if isExv v then .stk else (ev G call x e s).thenO e fun w s1 => match augV o v w with
      | some z => .nx (e.set i (some z)) s1
      | none => .stk
    | _ => .stk
  | .expr x, e, s => (ev G call x e s).thenO e fun _ s1 => .nx e s1
  | .ret x, e, s => (ev G call x e s).thenO e fun v s1 => .rt v s1
  | .retN, e, s => .rt .non s
  | .cond c a b, e, s => (evT G call c e s).thenO e fun k s1 => if k then svs a e s1 else svs b e s1
  | .for_ tg it b, e, s => (evI G call it e s).thenO e fun p s1 => forL (fun x e1 s2 => match asg tg x e1 with
      | some e2 => svs b e2 s2
      | none => .stk) p.2 p.1 e s1
  | .whl c b, e, s => whlL (evT G call c) (svs b) G.fuel e s
  | .brk, e, s => .bk e s
  | .cnt, e, s => .ct e s
  | .pas, e, s => .nx e s
  | .rais c es, e, s => (evs G call es e s).thenO e fun xs s1 => match G.cls[c]? with
    | some C => match C.exc with
      | some ks => if ks.length = xs.length ∧ xs.length ≤ 1000 then .ex c ks.reverse xs.reverse e s1 else .stk
      | none => .stk
    | none => .stk
  | .trys b hs, e, s => match svs b e s with
    | .ex c ks xs e1 s1 => svh hs c ks xs e1 s1
    | o => o
noncomputable def svs : MSs → Env → Store → O
  | .nil, e, s => .nx e s
  | .cons a r, e, s => match sv a e s with
    | .nx e1 s1 => svs r e1 s1
    | o => o
noncomputable def svh : MHs → Nat → List Nat → List Val → Env → Store → O
  | .nil, c, ks, xs, e, s => .ex c ks xs e s
  | .cons d i b r, c, ks, xs, e, s => if isExc G c then (if subC G c d then (match i with
      | none => (match svs b e s with
        | .ex _ _ _ _ _ => .stk
        | o => o)
      | some i => match svs b (e.set i (some (.exv c ks xs))) s with
        | .nx e1 s1 => .nx (e1.set i none) s1
        | .bk e1 s1 => .bk (e1.set i none) s1
        | .ct e1 s1 => .ct (e1.set i none) s1
        | .ex _ _ _ _ _ => .stk
        | o => o) else svh r c ks xs e s) else .stk
end
end
noncomputable def run (G : Prog) : Nat → Nat → List Val → Store → R Val
  | 0, _, _, _ => .stk
  | n + 1, f, xs, s => match G.fns[f]? with
    | some F => (match fullA F xs with
      | some zs => if zs.length = F.ar ∧ F.ar ≤ F.names.length then (match svs G (run G n) F.body (zs.map some ++ List.replicate (F.names.length - F.ar) none) s with
        | .nx _ s1 => shut F.keep s .non s1
        | .rt v s1 => shut F.keep s v s1
        | .ex c ks ys _ s1 => shutE s c ks ys s1
        | _ => .stk) else .stk
      | none => .stk)
    | none => .stk
end Ev

set_option Elab.async false
set_option linter.all false
set_option maxRecDepth 100000
set_option autoImplicit false
/-! Ev: what an evaluator's value and store mean on the abstract heap. -/
namespace Ev
open PySem PySem.Spec PyProof.Rows L2

/-- the text's world: functions' and classes' addresses, the written part, the code tables -/
structure Wd where
  G : Prog
  fa : Nat → Addr
  ca : Nat → Addr
  K : PySem.W.Frag
  T : List Addr
  hd : List Addr := []
/-- the script: a list that nobody changes -/
def SqS (W : Wd) (ph : List Addr) (H : Hp) (a : Addr) (vs : List V) : Prop :=
  (∃ o, H a = some (.frz o (.lst vs))) ∨
    (∃ (o : Obj) (its : Array Value) (n : Nat), W.K.lookup a = some o ∧ o.cls = .type "list" ∧ o.dict = none ∧ o.data = .seq its n ∧ its.size ≤ sizeLine ∧ Vals vs its.toList) ∨
      (H a = some (.lst vs) ∧ a ∉ ph ∧ a ∉ W.hd)
theorem SqS.sq {W : Wd} {ph : List Addr} {H : Hp} {a : Addr} {vs : List V} (h : SqS W ph H a vs) : SqL W.K H a vs := h.elim (fun z => .inl (.inr z)) fun z => z.elim .inr fun z => .inl (.inl z.1)
def nmF (W : Wd) (ks : List Nat) (vs : List V) : List (Str × V) := (ks.map W.G.idn).zip vs
mutual
inductive VR (W : Wd) (ph : List Addr) (H : Hp) : Val → V → Prop
  | non : VR W ph H .non .non
  | bl (b : Bool) : VR W ph H (.bl b) (.bl b)
  | int (i : Int) : VR W ph H (.int i) (.int i)
  | str (x : Str) : VR W ph H (.str x) (.str x)
  | tup {xs : List Val} {vs : List V} {a : Addr} : SqT W.K H a vs → VRs W ph H xs vs → VR W ph H (.tup xs) (.ref a)
  | lst {xs : List Val} {vs : List V} {a : Addr} : H a = some (.lst vs) → a ∉ ph → a ∉ W.hd → VRs W ph H xs vs → VR W ph H (.lst xs) (.ref a)
  | scr {xs : List Val} {vs : List V} {a : Addr} : SqS W ph H a vs → VRs W ph H xs vs → VR W ph H (.scr xs) (.ref a)
  | obj {c : Nat} {ks : List Nat} {xs : List Val} {vs : List V} {a dx : Addr} : H a = some (.ins (W.ca c) dx (nmF W ks vs)) → a ∉ ph → a ∉ W.hd → ks.length = xs.length → VRs W ph H xs vs → VR W ph H (.obj c ks xs) (.ref a)
  | ref {n : Nat} {a : Addr} : ph[n]? = some a → VR W ph H (.ref n) (.ref a)
  | fn (f : Nat) : VR W ph H (.fn f) (.ref (W.fa f))
inductive VRs (W : Wd) (ph : List Addr) (H : Hp) : List Val → List V → Prop
  | nil : VRs W ph H [] []
  | cons {x : Val} {xs : List Val} {v : V} {vs : List V} : VR W ph H x v → VRs W ph H xs vs → VRs W ph H (x :: xs) (v :: vs)
end
structure Grow (ph : List Addr) (H : Hp) (ph' : List Addr) (H' : Hp) : Prop where
  pre : ∃ r, ph' = ph ++ r
  new : ∀ a, a ∈ ph' → a ∈ ph ∨ H a = none
  keep : ∀ (a : Addr) (o : HO), H a = some o → a ∉ ph → (∀ ps, o ≠ .tbl ps) → H' a = some o
  tups : ∀ a xs, H a = some (.tup xs) → H' a = some (.tup xs)
  frzs : ∀ a o u, H a = some (.frz o u) → H' a = some (.frz o u)
  tabs : ∀ a ps, H a = some (.tbl ps) → ∃ ps', H' a = some (.tbl ps')
theorem Grow.refl {ph : List Addr} {H : Hp} : Grow ph H ph H := ⟨⟨[], by simp⟩, fun _ h => .inl h, fun _ _ h _ _ => h, fun _ _ h => h, fun _ _ _ h => h, fun _ ps h => ⟨ps, h⟩⟩
theorem Grow.trans {ph ph1 ph2 : List Addr} {H H1 H2 : Hp} (a : Grow ph H ph1 H1) (b : Grow ph1 H1 ph2 H2) : Grow ph H ph2 H2 where
  pre := by
    obtain ⟨r, e⟩ := a.pre
    obtain ⟨q, f⟩ := b.pre
    exact ⟨r ++ q, by rw [f, e, List.append_assoc]⟩
  new := fun p hp => by
    rcases b.new p hp with h | h
    · exact a.new p h
    · cases e : H p with
      | none => exact .inr rfl
      | some o =>
        by_cases hin : p ∈ ph
        · exact .inl hin
        · exfalso
          by_cases ht : ∃ ps, o = .tbl ps
          · obtain ⟨ps, rfl⟩ := ht
            obtain ⟨ps', e'⟩ := a.tabs p ps e
            rw [e'] at h
            cases h
          · have q := a.keep p o e hin (fun ps z => ht ⟨ps, z⟩)
            rw [q] at h
            cases h
  keep := fun p o e hin ht => by
    have q := a.keep p o e hin ht
    refine b.keep p o q (fun hm => ?_) ht
    rcases a.new p hm with z | z
    · exact hin z
    · rw [e] at z
      cases z
  tups := fun p xs h => b.tups p xs (a.tups p xs h)
  frzs := fun p o u h => b.frzs p o u (a.frzs p o u h)
  tabs := fun p ps h => by
    obtain ⟨q, e⟩ := a.tabs p ps h
    exact b.tabs p q e
section
variable {W : Wd} {ph ph' : List Addr} {H H' : Hp}
theorem SqT.grow (g : Grow ph H ph' H') {a : Addr} {vs : List V} (h : SqT W.K H a vs) : SqT W.K H' a vs := by
  rcases h with (h | ⟨o, h⟩) | h
  · exact .inl (.inl (g.tups a vs h))
  · exact .inl (.inr ⟨o, g.frzs a o _ h⟩)
  · exact .inr h
theorem SqS.grow (g : Grow ph H ph' H') {a : Addr} {vs : List V} (h : SqS W ph H a vs) : SqS W ph' H' a vs := by
  rcases h with ⟨o, h⟩ | h | ⟨h1, h2, h3⟩
  · exact .inl ⟨o, g.frzs a o _ h⟩
  · exact .inr (.inl h)
  · exact .inr (.inr ⟨g.keep _ _ h1 h2 (fun ps z => by cases z), fun hm => (g.new _ hm).elim h2 fun z => (by rw [h1] at z; cases z), h3⟩)
mutual
theorem VR.grow (g : Grow ph H ph' H') : ∀ {x : Val} {v : V}, VR W ph H x v → VR W ph' H' x v
  | _, _, .non => .non
  | _, _, .bl b => .bl b
  | _, _, .int i => .int i
  | _, _, .str x => .str x
  | _, _, .tup h r => .tup (SqT.grow g h) (VRs.grow g r)
  | _, _, .lst h hn hh r => .lst (g.keep _ _ h hn (fun ps z => by cases z)) (fun hm => by
      rcases g.new _ hm with z | z
      · exact hn z
      · rw [h] at z; cases z) hh (VRs.grow g r)
  | _, _, .scr h r => .scr (SqS.grow g h) (VRs.grow g r)
  | _, _, .obj h hn hh hl r => .obj (g.keep _ _ h hn (fun ps z => by cases z)) (fun hm => by
      rcases g.new _ hm with z | z
      · exact hn z
      · rw [h] at z; cases z) hh hl (VRs.grow g r)
  | _, _, .ref h => .ref (by
      obtain ⟨r, e⟩ := g.pre
      rw [e, List.getElem?_append_left (List.getElem?_eq_some_iff.mp h).1]
      exact h)
  | _, _, .fn f => .fn f
theorem VRs.grow (g : Grow ph H ph' H') : ∀ {xs : List Val} {vs : List V}, VRs W ph H xs vs → VRs W ph' H' xs vs
  | _, _, .nil => .nil
  | _, _, .cons h r => .cons (VR.grow g h) (VRs.grow g r)
end
/-- a later state: some things more are hidden -/
structure Later (hd0 : List Addr) (ph0 : List Addr) (H0 : Hp) (hd1 : List Addr) (ph1 : List Addr) (H1 : Hp) : Prop where
  pre : ∃ r, ph1 = ph0 ++ r
  keep : ∀ (a : Addr) (o : HO), H0 a = some o → a ∉ ph0 → a ∉ hd0 → (∀ ps, o ≠ .tbl ps) → H1 a = some o ∧ a ∉ ph1 ∧ a ∉ hd1
  tups : ∀ a xs, H0 a = some (.tup xs) → H1 a = some (.tup xs)
  frzs : ∀ a o u, H0 a = some (.frz o u) → H1 a = some (.frz o u)
theorem Later.of {hd : List Addr} (g : Grow ph H ph' H') : Later hd ph H hd ph' H' := ⟨g.pre, fun a o h hn hh ht => ⟨g.keep a o h hn ht, fun hm => (g.new a hm).elim hn fun z => (by rw [h] at z; cases z), hh⟩, g.tups, g.frzs⟩
theorem Later.trans {hd0 hd1 hd2 ph0 ph1 ph2 : List Addr} {H0 H1 H2 : Hp} (a : Later hd0 ph0 H0 hd1 ph1 H1) (b : Later hd1 ph1 H1 hd2 ph2 H2) : Later hd0 ph0 H0 hd2 ph2 H2 where
  pre := by
    obtain ⟨r, e⟩ := a.pre
    obtain ⟨q, f⟩ := b.pre
    exact ⟨r ++ q, by rw [f, e, List.append_assoc]⟩
  keep := fun p o h hn hh ht => by
    obtain ⟨h1, h2, h3⟩ := a.keep p o h hn hh ht
    exact b.keep p o h1 h2 h3 ht
  tups := fun p xs h => b.tups p xs (a.tups p xs h)
  frzs := fun p o u h => b.frzs p o u (a.frzs p o u h)
theorem SqT.later {hd0 hd1 : List Addr} (g : Later hd0 ph H hd1 ph' H') {a : Addr} {vs : List V} (h : SqT W.K H a vs) : SqT W.K H' a vs := by
  rcases h with (h | ⟨o, h⟩) | h
  · exact .inl (.inl (g.tups a vs h))
  · exact .inl (.inr ⟨o, g.frzs a o _ h⟩)
  · exact .inr h
theorem SqS.later {hd1 : List Addr} (g : Later W.hd ph H hd1 ph' H') {a : Addr} {vs : List V} (h : SqS W ph H a vs) : SqS { W with hd := hd1 } ph' H' a vs := by
  rcases h with ⟨o, h⟩ | h | ⟨h1, h2, h3⟩
  · exact .inl ⟨o, g.frzs a o _ h⟩
  · exact .inr (.inl h)
  · exact .inr (.inr (g.keep _ _ h1 h2 h3 (fun ps z => by cases z)))
mutual
theorem VR.later {hd1 : List Addr} (g : Later W.hd ph H hd1 ph' H') : ∀ {x : Val} {v : V}, VR W ph H x v → VR { W with hd := hd1 } ph' H' x v
  | _, _, .non => .non
  | _, _, .bl b => .bl b
  | _, _, .int i => .int i
  | _, _, .str x => .str x
  | _, _, .tup h r => .tup (SqT.later g h) (VRs.later g r)
  | _, _, .lst h hn hh r => by
    obtain ⟨h1, h2, h3⟩ := g.keep _ _ h hn hh (fun ps z => by cases z)
    exact .lst h1 h2 h3 (VRs.later g r)
  | _, _, .scr h r => .scr (SqS.later g h) (VRs.later g r)
  | _, _, .obj h hn hh hl r => by
    obtain ⟨h1, h2, h3⟩ := g.keep _ _ h hn hh (fun ps z => by cases z)
    exact .obj h1 h2 h3 hl (VRs.later g r)
  | _, _, .ref h => .ref (by
      obtain ⟨r, e⟩ := g.pre
      rw [e, List.getElem?_append_left (List.getElem?_eq_some_iff.mp h).1]
      exact h)
  | _, _, .fn f => .fn f
theorem VRs.later {hd1 : List Addr} (g : Later W.hd ph H hd1 ph' H') : ∀ {xs : List Val} {vs : List V}, VRs W ph H xs vs → VRs { W with hd := hd1 } ph' H' xs vs
  | _, _, .nil => .nil
  | _, _, .cons h r => .cons (VR.later g h) (VRs.later g r)
end
theorem VRs.length : ∀ {xs : List Val} {vs : List V}, VRs W ph H xs vs → xs.length = vs.length
  | _, _, .nil => rfl
  | _, _, .cons _ r => congrArg Nat.succ (VRs.length r)
theorem VRs.get : ∀ {xs : List Val} {vs : List V} {i : Nat} {x : Val}, VRs W ph H xs vs → xs[i]? = some x → ∃ v, vs[i]? = some v ∧ VR W ph H x v
  | _, _, _, _, .nil, e => by simp at e
  | _, _, 0, _, .cons h _, e => by simp at e; subst e; exact ⟨_, rfl, h⟩
  | _, _, i + 1, x, .cons _ r, e => by
    obtain ⟨v, h1, h2⟩ := VRs.get (i := i) (x := x) r (by simpa using e)
    exact ⟨v, by simpa using h1, h2⟩
theorem VRs.getV : ∀ {xs : List Val} {vs : List V} {i : Nat} {v : V}, VRs W ph H xs vs → vs[i]? = some v → ∃ x, xs[i]? = some x ∧ VR W ph H x v
  | _, _, _, _, .nil, e => by simp at e
  | _, _, 0, _, .cons h _, e => by simp at e; subst e; exact ⟨_, rfl, h⟩
  | _, _, i + 1, x, .cons _ r, e => by
    obtain ⟨v, h1, h2⟩ := VRs.getV (i := i) (v := x) r (by simpa using e)
    exact ⟨v, by simpa using h1, h2⟩
theorem VRs.append : ∀ {xs ys : List Val} {vs us : List V}, VRs W ph H xs vs → VRs W ph H ys us → VRs W ph H (xs ++ ys) (vs ++ us)
  | _, _, _, _, .nil, s => s
  | _, _, _, _, .cons h r, s => .cons h (VRs.append r s)
theorem VRs.take : ∀ {xs : List Val} {vs : List V} (n : Nat), VRs W ph H xs vs → VRs W ph H (xs.take n) (vs.take n)
  | _, _, 0, _ => .nil
  | _, _, _ + 1, .nil => .nil
  | _, _, n + 1, .cons h r => .cons h (VRs.take n r)
theorem VRs.drop : ∀ {xs : List Val} {vs : List V} (n : Nat), VRs W ph H xs vs → VRs W ph H (xs.drop n) (vs.drop n)
  | _, _, 0, r => r
  | _, _, _ + 1, .nil => .nil
  | _, _, n + 1, .cons _ r => VRs.drop n r
theorem VRs.set {x : Val} {v : V} (h : VR W ph H x v) : ∀ {xs : List Val} {vs : List V} (i : Nat), VRs W ph H xs vs → VRs W ph H (xs.set i x) (vs.set i v)
  | _, _, _, .nil => .nil
  | _, _, 0, .cons _ r => .cons h r
  | _, _, i + 1, .cons q r => .cons q (VRs.set h i r)
theorem VRs.reverse : ∀ {xs : List Val} {vs : List V}, VRs W ph H xs vs → VRs W ph H xs.reverse vs.reverse
  | _, _, .nil => .nil
  | _, _, .cons h r => by
    rw [List.reverse_cons, List.reverse_cons]
    exact VRs.append (VRs.reverse r) (.cons h .nil)
theorem VRs.rep {xs : List Val} {vs : List V} (h : VRs W ph H xs vs) : ∀ n : Nat, VRs W ph H (List.replicate n xs).flatten (List.replicate n vs).flatten
  | 0 => .nil
  | n + 1 => by
    rw [List.replicate_succ, List.replicate_succ, List.flatten_cons, List.flatten_cons]
    exact VRs.append h (VRs.rep h n)
end

/-- what stands in a cell -/
def CR (W : Wd) (ph : List Addr) (H : Hp) (a : Addr) : Cell → Prop
  | .lst xs => ∃ vs, H a = some (.lst vs) ∧ VRs W ph H xs vs
  | .ins c ks xs => ∃ dx vs, H a = some (.ins (W.ca c) dx (nmF W ks vs)) ∧ ks.length = xs.length ∧ VRs W ph H xs vs
  | .dic ks xs => ∃ vs, H a = some (.dK ((ks.map Sum.inr).zip vs)) ∧ (ks.length = xs.length ∧ ks.Nodup ∧ ks.length ≤ 15) ∧ VRs W ph H xs vs
structure Rep (W : Wd) (ph : List Addr) (m : Store) (H : Hp) : Prop where
  len : ph.length = m.length
  nd : ph.Nodup
  cell : ∀ (n : Nat) (a : Addr) (c : Cell), ph[n]? = some a → m[n]? = some c → CR W ph H a c
  tabs : ∀ P : Addr, P ∈ W.T → GxR.TabG H P
  hdl : ∀ a, a ∈ W.hd → ∃ o, H a = some o
  dj : ∀ a, a ∈ ph → a ∉ W.hd
section
variable {W : Wd} {ph ph' : List Addr} {H H' : Hp} {m : Store}
theorem Rep.mem_at (r : Rep W ph m H) {a : Addr} (h : a ∈ ph) : ∃ (n : Nat) (c : Cell), ph[n]? = some a ∧ m[n]? = some c ∧ CR W ph H a c := by
  obtain ⟨n, hn, e⟩ := List.mem_iff_getElem.mp h
  have e1 : ph[n]? = some a := by rw [List.getElem?_eq_getElem hn, e]
  have hm : n < m.length := by rw [← r.len]; exact hn
  exact ⟨n, m[n], e1, List.getElem?_eq_getElem hm, r.cell n a m[n] e1 (List.getElem?_eq_getElem hm)⟩
theorem CR.there {a : Addr} {c : Cell} (h : CR W ph H a c) : ∃ o, H a = some o ∧ ∀ xs, o ≠ .tup xs := by
  cases c with
  | lst xs =>
    obtain ⟨vs, e, _⟩ := h
    exact ⟨_, e, fun xs z => by cases z⟩
  | ins c ks xs =>
    obtain ⟨dx, vs, e, _⟩ := h
    exact ⟨_, e, fun xs z => by cases z⟩
  | dic ks xs =>
    obtain ⟨vs, e, _⟩ := h
    exact ⟨_, e, fun xs z => by cases z⟩
theorem Rep.there (r : Rep W ph m H) {a : Addr} (h : a ∈ ph) : ∃ o, H a = some o := by
  obtain ⟨n, c, _, _, q⟩ := r.mem_at h
  obtain ⟨o, e, _⟩ := q.there
  exact ⟨o, e⟩
theorem Rep.cellAt (r : Rep W ph m H) {n : Nat} {c : Cell} (h : m[n]? = some c) : ∃ a, ph[n]? = some a ∧ CR W ph H a c := by
  have hn : n < ph.length := by rw [r.len]; exact (List.getElem?_eq_some_iff.mp h).1
  exact ⟨ph[n], List.getElem?_eq_getElem hn, r.cell n _ c (List.getElem?_eq_getElem hn) h⟩
/-- a new thing that never changes -/
theorem Grow.fresh {p : Addr} {o : HO} (h : H p = none) : Grow ph H ph (upd H p o) :=
  ⟨⟨[], by simp⟩, fun _ z => .inl z, fun a u e _ _ => by rw [upd_ne (ne_of_none e h)]; exact e, fun a xs e => by rw [upd_ne (ne_of_none e h)]; exact e,
    fun a q u e => by rw [upd_ne (ne_of_none e h)]; exact e, fun a ps e => ⟨ps, by rw [upd_ne (ne_of_none e h)]; exact e⟩⟩
theorem CR.grow (g : Grow ph H ph' H') {a : Addr} {c : Cell} (e : ∀ o, H a = some o → H' a = some o) (h : CR W ph H a c) : CR W ph' H' a c := by
  cases c with
  | lst xs =>
    obtain ⟨vs, q, r⟩ := h
    exact ⟨vs, e _ q, r.grow g⟩
  | ins c ks xs =>
    obtain ⟨dx, vs, q, hl, r⟩ := h
    exact ⟨dx, vs, e _ q, hl, r.grow g⟩
  | dic ks xs =>
    obtain ⟨vs, q, hl, r⟩ := h
    exact ⟨vs, e _ q, hl, r.grow g⟩
theorem Rep.fresh {p : Addr} {o : HO} (r : Rep W ph m H) (h : H p = none) : Rep W ph m (upd H p o) where
  len := r.len
  nd := r.nd
  cell := fun n a c e1 e2 => (r.cell n a c e1 e2).grow (Grow.fresh h) fun u q => by rw [upd_ne (ne_of_none q h)]; exact q
  tabs := fun P hP => by
    obtain ⟨ps, e, t⟩ := r.tabs P hP
    exact ⟨ps, by rw [upd_ne (ne_of_none e h)]; exact e, t⟩
  hdl := fun a ha => by
    obtain ⟨o', e⟩ := r.hdl a ha
    exact ⟨o', by rw [upd_ne (ne_of_none e h)]; exact e⟩
  dj := r.dj
theorem Rep.nohd (r : Rep W ph m H) {p : Addr} (h : H p = none) : p ∉ W.hd := fun z => by
  obtain ⟨o, e⟩ := r.hdl p z
  rw [e] at h
  cases h
theorem Rep.notin (r : Rep W ph m H) {p : Addr} (h : H p = none) : p ∉ ph := fun z => by
  obtain ⟨o, e⟩ := r.there z
  rw [e] at h
  cases h
/-- a new cell -/
theorem Grow.cell {p : Addr} {o : HO} (h : H p = none) : Grow ph H (ph ++ [p]) (upd H p o) :=
  ⟨⟨[p], rfl⟩, fun a z => by
    rcases List.mem_append.mp z with z | z
    · exact .inl z
    · rw [List.mem_singleton.mp z]
      exact .inr h, fun a u e _ _ => by rw [upd_ne (ne_of_none e h)]; exact e, fun a xs e => by rw [upd_ne (ne_of_none e h)]; exact e,
    fun a q u e => by rw [upd_ne (ne_of_none e h)]; exact e, fun a ps e => ⟨ps, by rw [upd_ne (ne_of_none e h)]; exact e⟩⟩
theorem Rep.push {p : Addr} {o : HO} {c : Cell} (r : Rep W ph m H) (h : H p = none) (hc : CR W (ph ++ [p]) (upd H p o) p c) : Rep W (ph ++ [p]) (m ++ [c]) (upd H p o) where
  len := by rw [List.length_append, List.length_append, r.len]; rfl
  nd := by
    rw [List.nodup_append]
    refine ⟨r.nd, by simp, fun a ha b hb e => ?_⟩
    rw [List.mem_singleton.mp hb] at e
    rw [e] at ha
    exact r.notin h ha
  cell := fun n a d e1 e2 => by
    by_cases hn : n < ph.length
    · rw [List.getElem?_append_left hn] at e1
      rw [List.getElem?_append_left (by rw [← r.len]; exact hn)] at e2
      exact (r.cell n a d e1 e2).grow (Grow.cell h) fun u q => by rw [upd_ne (ne_of_none q h)]; exact q
    · have hn' : n = ph.length := by
        have := (List.getElem?_eq_some_iff.mp e1).1
        rw [List.length_append] at this
        simp at this
        omega
      subst hn'
      rw [List.getElem?_append_right (Nat.le_refl _)] at e1
      rw [r.len, List.getElem?_append_right (Nat.le_refl _)] at e2
      simp at e1 e2
      rw [← e1, ← e2]
      exact hc
  tabs := fun P hP => by
    obtain ⟨ps, e, t⟩ := r.tabs P hP
    exact ⟨ps, by rw [upd_ne (ne_of_none e h)]; exact e, t⟩
  hdl := fun a ha => by
    obtain ⟨o', e⟩ := r.hdl a ha
    exact ⟨o', by rw [upd_ne (ne_of_none e h)]; exact e⟩
  dj := fun a ha => by
    rcases List.mem_append.mp ha with z | z
    · exact r.dj a z
    · rw [List.mem_singleton.mp z]
      exact r.nohd h
/-- a cell is written -/
theorem Grow.write {a : Addr} {o u : HO} (ha : a ∈ ph) (h : H a = some u) (nt : ∀ xs, u ≠ .tup xs) (nf : ∀ q z, u ≠ .frz q z) (nb : ∀ ps, u ≠ .tbl ps) : Grow ph H ph (upd H a o) :=
  ⟨⟨[], by simp⟩, fun _ z => .inl z, fun b v e hb _ => by rw [upd_ne (fun z => hb (by rw [z]; exact ha))]; exact e,
    fun b xs e => by rw [upd_ne (fun z => by subst z; rw [h] at e; exact nt xs (Option.some.inj e))]; exact e,
    fun b q z e => by rw [upd_ne (fun y => by subst y; rw [h] at e; exact nf q z (Option.some.inj e))]; exact e,
    fun b ps e => ⟨ps, by rw [upd_ne (fun z => by subst z; rw [h] at e; exact nb ps (Option.some.inj e))]; exact e⟩⟩
theorem Rep.write {n : Nat} {a : Addr} {o u : HO} {c : Cell} (r : Rep W ph m H) (e : ph[n]? = some a) (h : H a = some u) (g : Grow ph H ph (upd H a o)) (nb : ∀ ps, u ≠ .tbl ps) (hc : CR W ph (upd H a o) a c) :
    Rep W ph (m.set n c) (upd H a o) where
  len := by rw [List.length_set]; exact r.len
  nd := r.nd
  cell := fun k b d e1 e2 => by
    by_cases hk : n = k
    · subst hk
      rw [e] at e1
      cases e1
      have hlt : n < m.length := by rw [← r.len]; exact (List.getElem?_eq_some_iff.mp e).1
      rw [List.getElem?_set_self hlt] at e2
      cases e2
      exact hc
    · rw [List.getElem?_set_ne hk] at e2
      have hne : b ≠ a := fun z => by
        subst z
        obtain ⟨h1, q1⟩ := List.getElem?_eq_some_iff.mp e
        obtain ⟨h2, q2⟩ := List.getElem?_eq_some_iff.mp e1
        exact hk ((List.getElem_inj r.nd).mp (q1.trans q2.symm))
      exact (r.cell k b d e1 e2).grow g fun v q => by rw [upd_ne hne]; exact q
  tabs := fun P hP => by
    obtain ⟨ps, q, t⟩ := r.tabs P hP
    refine ⟨ps, ?_, t⟩
    rw [upd_ne (fun z => by subst z; rw [h] at q; exact nb ps (Option.some.inj q))]
    exact q
  hdl := fun b hb => by
    obtain ⟨o', q⟩ := r.hdl b hb
    refine ⟨o', ?_⟩
    have hne : b ≠ a := fun z => by
      subst z
      exact r.dj b (List.mem_of_getElem? e) hb
    rw [upd_ne hne]
    exact q
  dj := r.dj
end

/-! ### slots -/
/-- where the exception of a suite stands: its slot, address, dict -/
abbrev Xa := Option (Nat × Addr × Addr × Nat)
structure RS (W : Wd) (xa : Xa) (ph : List Addr) (H : Hp) (e : Env) (σ : L2.St) : Prop where
  len : e.length = σ.length
  val : ∀ (i : Nat) (x : Val), e[i]? = some (some x) → isExv x = false → ∃ v, σ[i]? = some (some v) ∧ VR W ph H x v
  exv : ∀ (i c : Nat) (ks : List Nat) (xs : List Val), e[i]? = some (some (.exv c ks xs)) → ∃ a d vs, xa = some (i, a, d, c) ∧ σ[i]? = some (some (.ref a)) ∧ H d = some (.xd (nmF W ks vs)) ∧ ks.length = xs.length ∧ VRs W ph H xs vs
theorem xd_grow {ph ph' : List Addr} {H H' : Hp} {d : Addr} {fs : List (Str × V)} (g : Grow ph H ph' H') (hd : d ∉ ph) (h : H d = some (.xd fs)) : H' d = some (.xd fs) := g.keep d _ h hd (fun ps z => by cases z)
/-- an exception's dict is no cell -/
theorem Rep.noxd {W : Wd} {ph : List Addr} {m : Store} {H : Hp} (r : Rep W ph m H) {d : Addr} {fs : List (Str × V)} (h : H d = some (.xd fs)) : d ∉ ph := fun z => by
  obtain ⟨n, c, _, _, q⟩ := r.mem_at z
  cases c with
  | lst xs =>
    obtain ⟨vs, e, _⟩ := q
    rw [h] at e; cases e
  | ins c ks xs =>
    obtain ⟨dx, vs, e, _⟩ := q
    rw [h] at e; cases e
  | dic ks xs =>
    obtain ⟨vs, e, _⟩ := q
    rw [h] at e; cases e
section
variable {W : Wd} {xa : Xa} {ph ph' : List Addr} {H H' : Hp} {m : Store} {e : Env} {σ : L2.St}
theorem RS.grow (s : RS W xa ph H e σ) (r : Rep W ph m H) (g : Grow ph H ph' H') : RS W xa ph' H' e σ :=
  ⟨s.len, fun i x h1 h2 => let ⟨v, q, p⟩ := s.val i x h1 h2; ⟨v, q, p.grow g⟩, fun i c ks xs h => by
    obtain ⟨a, d, vs, h1, h2, h3, h4, h5⟩ := s.exv i c ks xs h
    exact ⟨a, d, vs, h1, h2, xd_grow g (r.noxd h3) h3, h4, h5.grow g⟩⟩
theorem RS.set {i : Nat} {x : Val} {v : V} (s : RS W xa ph H e σ) (h : VR W ph H x v) : RS W xa ph H (e.set i (some x)) (σ.set i (some v)) := by
  have nx : isExv x = false := by cases h <;> rfl
  refine ⟨by rw [List.length_set, List.length_set]; exact s.len, fun j y h1 h2 => ?_, fun j c ks xs h1 => ?_⟩
  · by_cases hj : i = j
    · subst hj
      have hlt : i < e.length := by
        have := (List.getElem?_eq_some_iff.mp h1).1
        rw [List.length_set] at this
        exact this
      rw [List.getElem?_set_self hlt] at h1
      cases h1
      exact ⟨v, by rw [List.getElem?_set_self (by rw [← s.len]; exact hlt)], h⟩
    · rw [List.getElem?_set_ne hj] at h1
      obtain ⟨w, q, p⟩ := s.val j y h1 h2
      exact ⟨w, by rw [List.getElem?_set_ne hj]; exact q, p⟩
  · by_cases hj : i = j
    · subst hj
      have hlt : i < e.length := by
        have := (List.getElem?_eq_some_iff.mp h1).1
        rw [List.length_set] at this
        exact this
      rw [List.getElem?_set_self hlt] at h1
      cases h1
      cases nx
    · rw [List.getElem?_set_ne hj] at h1
      obtain ⟨a, d, vs, q1, q2, q3⟩ := s.exv j c ks xs h1
      exact ⟨a, d, vs, q1, by rw [List.getElem?_set_ne hj]; exact q2, q3⟩
theorem RS.unset {i : Nat} {o : Option V} (s : RS W xa ph H e σ) : RS W xa ph H (e.set i none) (σ.set i o) := by
  refine ⟨by rw [List.length_set, List.length_set]; exact s.len, fun j y h1 h2 => ?_, fun j c ks xs h1 => ?_⟩
  · by_cases hj : i = j
    · subst hj
      by_cases hlt : i < e.length
      · rw [List.getElem?_set_self hlt] at h1; cases h1
      · rw [List.getElem?_eq_none (by rw [List.length_set]; omega)] at h1; cases h1
    · rw [List.getElem?_set_ne hj] at h1
      obtain ⟨w, q, p⟩ := s.val j y h1 h2
      exact ⟨w, by rw [List.getElem?_set_ne hj]; exact q, p⟩
  · by_cases hj : i = j
    · subst hj
      by_cases hlt : i < e.length
      · rw [List.getElem?_set_self hlt] at h1; cases h1
      · rw [List.getElem?_eq_none (by rw [List.length_set]; omega)] at h1; cases h1
    · rw [List.getElem?_set_ne hj] at h1
      obtain ⟨a, d, vs, q1, q2, q3⟩ := s.exv j c ks xs h1
      exact ⟨a, d, vs, q1, by rw [List.getElem?_set_ne hj]; exact q2, q3⟩
theorem RS.wipe (s : RS W xa ph H e σ) : ∀ vs : List Nat, RS W xa ph H (wipeE e vs) (wipe σ vs)
  | [] => s
  | v :: vs => (RS.wipe s vs).unset
end

/-! ### what is wanted of an evaluation -/
section
variable (W : Wd)
/-- an exception -/
def EXP (ph : List Addr) (H : Hp) (E : XK) (c : Nat) (ks : List Nat) (xs : List Val) (m : Store) : Prop :=
  ∀ ph' H' d vs, Grow ph H ph' H' → Rep W ph' m H' → H' d = some (.xd (nmF W ks vs)) → ks.length = xs.length → VRs W ph' H' xs vs → E (.ref (W.ca c)) (some d) H'
/-- generally -/
def PR {γ : Type} (ph : List Addr) (H : Hp) (P : γ → Store → List Addr → Hp → Prop) (E : XK) : R γ → Prop
  | .ok x m => P x m ph H
  | .ex c ks xs m => EXP W ph H E c ks xs m
  | .stk => False
def QV (Q : VK) : Val → Store → List Addr → Hp → Prop := fun x m ph H => ∀ ph' H' v, Grow ph H ph' H' → Rep W ph' m H' → VR W ph' H' x v → Q v H'
def QVs (Q : List V → Hp → Prop) : List Val → Store → List Addr → Hp → Prop := fun xs m ph H => ∀ ph' H' vs, Grow ph H ph' H' → Rep W ph' m H' → VRs W ph' H' xs vs → Q vs H'
def QB (Q : Bool → Hp → Prop) : Bool → Store → List Addr → Hp → Prop := fun b m ph H => ∀ ph' H', Grow ph H ph' H' → Rep W ph' m H' → Q b H'
/-- stays as the heap grows -/
def Mo {γ : Type} (P : γ → Store → List Addr → Hp → Prop) : Prop := ∀ x m ph H ph' H', Grow ph H ph' H' → P x m ph H → P x m ph' H'
end
section
variable {W : Wd} {ph ph' : List Addr} {H H' : Hp} {E : XK}
theorem EXP.grow {c : Nat} {ks : List Nat} {xs : List Val} {m : Store} (g : Grow ph H ph' H') (h : EXP W ph H E c ks xs m) : EXP W ph' H' E c ks xs m :=
  fun ph2 H2 d vs g2 r hd hl q => h ph2 H2 d vs (g.trans g2) r hd hl q
theorem QV.mo {Q : VK} : Mo (QV W Q) := fun _ _ _ _ _ _ g h ph2 H2 v g2 r q => h ph2 H2 v (g.trans g2) r q
theorem QVs.mo {Q : List V → Hp → Prop} : Mo (QVs W Q) := fun _ _ _ _ _ _ g h ph2 H2 v g2 r q => h ph2 H2 v (g.trans g2) r q
theorem QB.mo {Q : Bool → Hp → Prop} : Mo (QB W Q) := fun _ _ _ _ _ _ g h ph2 H2 g2 r => h ph2 H2 (g.trans g2) r
theorem PR.grow {γ : Type} {P : γ → Store → List Addr → Hp → Prop} (mo : Mo P) (g : Grow ph H ph' H') : ∀ {r : R γ}, PR W ph H P E r → PR W ph' H' P E r
  | .ok x m, h => mo x m _ _ _ _ g h
  | .ex _ _ _ _, h => EXP.grow g h
  | .stk, h => h
/-- the first part of a bind -/
theorem PR.fst {γ δ : Type} {P : γ → Store → List Addr → Hp → Prop} {r : R δ} {f : δ → Store → R γ} (h : PR W ph H P E (r.bind f)) : PR W ph H (fun x m ph1 H1 => PR W ph1 H1 P E (f x m)) E r := by
  cases r with
  | ok x m => exact h
  | ex c ks xs m => exact h
  | stk => exact h
theorem PR.mo {γ δ : Type} {P : γ → Store → List Addr → Hp → Prop} {f : δ → Store → R γ} (mo : Mo P) : Mo (fun x m ph1 H1 => PR W ph1 H1 P E (f x m)) := fun _ _ _ _ _ _ g h => PR.grow mo g h
theorem PR.imp {γ : Type} {P P' : γ → Store → List Addr → Hp → Prop} (i : ∀ x m, P x m ph H → P' x m ph H) : ∀ {r : R γ}, PR W ph H P E r → PR W ph H P' E r
  | .ok x m, h => i x m h
  | .ex _ _ _ _, h => h
  | .stk, h => h
theorem PR.ofO {γ : Type} {P : γ → Store → List Addr → Hp → Prop} {o : Option γ} {m : Store} (h : PR W ph H P E (R.ofO o m)) : ∃ x, o = some x ∧ P x m ph H := by
  cases o with
  | none => exact h.elim
  | some x => exact ⟨x, rfl, h⟩
end
end Ev

set_option Elab.async false
set_option linter.all false
set_option autoImplicit false
/-! Ev: does a text of the small language stand for an AST? -/
namespace Ev
open PySem
def visB (sc : Scope) (x : Str) : Bool := match sc.names.lookup x with
  | some .local => true
  | some .cell => true
  | some .free => true
  | _ => false
def locB (sc : Scope) (x : Str) : Bool := match sc.names.lookup x with
  | some .local => true
  | some .cell => true
  | _ => false
def glB (sc : Scope) (x : Str) : Bool := match sc.names.lookup x with
  | some .globalImplicit => true
  | _ => false
def dbgB (x : Str) : Bool := !(x == ("__debug__" : Str)) && (!(x == ("__classdict__" : Str)) && !decide (x = ("__name__" : Str)))
def varB (N : List Str) (sc : Scope) (i : Nat) (x : Str) : Bool := decide (N[i]? = some x) && (visB sc x && dbgB x)
def conB : Val → Const → Bool
  | .non, .none => true
  | .bl b, .bool c => b == c
  | .int i, .int j => i == j
  | .str x, .str y => x == y && decide (x.length ≤ szL)
  | _, _ => false
def bifN : Bif → String
  | .len => "len" | .int => "int" | .abs => "abs" | .list => "list" | .tuple => "tuple" | .sum => "sum" | .min => "min" | .max => "max"
  | .all => "all" | .any => "any" | .sorted => "sorted" | .str => "str" | .repr => "repr" | .gcd => "gcd" | .bool => "bool" | .maxd => "max"
def coolB : Bif → Bool
  | .len => true | .int => true | .abs => true | .list => true | .tuple => true | .bool => true | .str => true | .gcd => true
  | _ => false
def conN : Con → String
  | .all => "all" | .any => "any" | .sum => "sum" | .tuple => "tuple" | .max => "max"
def tyN (G : Prog) : Ty → Str
  | .int => "int" | .bool => "bool" | .str => "str" | .tuple => "tuple" | .list => "list" | .vErr => "ValueError"
  | .own c => match G.cls[c]? with
    | some C => C.name
    | none => ""
def tyOk (G : Prog) : Ty → Bool
  | .own d => decide (d < G.cls.length)
  | _ => true
def fnN (G : Prog) (f : Nat) : Option Str := match G.fns[f]? with
  | some F => if F.at_.2.isNone then some F.at_.1 else none
  | none => none
def clN (G : Prog) (c : Nat) : Option Str := match G.cls[c]? with
  | some C => if C.init.isSome then some C.name else none
  | none => none
/-- a class of exceptions with attributes -/
def exR (G : Prog) (c : Nat) : Option Str := match G.cls[c]? with
  | some C => (match C.exc with
    | some (_ :: _) => some C.name
    | _ => none)
  | none => none
/-- a class of exceptions -/
def exN (G : Prog) (c : Nat) : Option Str := match G.cls[c]? with
  | some C => if C.exc.isSome then some C.name else none
  | none => none
/-- no super() -/
def baseB : PySem.Expr → Bool
  | .Call (.Name _ _) [] [] _ => false
  | _ => true
def starB : PySem.Expr → Bool
  | .Starred _ _ => false
  | _ => true
def setB : PySem.Expr → Bool
  | .Set _ _ _ => false
  | _ => true
/-- a test of a form that is known -/
def tstB : PySem.Expr → Bool
  | .IfExp _ _ _ _ => false
  | .BoolOp _ [] _ => false
  | _ => true
def cmpB (o : CmpOp) (e : PySem.Expr) : Bool := setB e && (match o with
  | .Is => (match e with | .Constant .none _ _ => true | .Constant (.bool _) _ _ => true | _ => false)
  | .IsNot => (match e with | .Constant .none _ _ => true | .Constant (.bool _) _ _ => true | _ => false)
  | _ => true)
def slcB : PySem.Expr → Bool
  | .Slice _ _ _ _ => false
  | _ => true
def tgB (N : List Str) (sc : Scope) : List Nat → List PySem.Expr → Bool
  | [], [] => true
  | i :: is, .Name x _ :: r => (decide (N[i]? = some x) && locB sc x) && tgB N sc is r
  | _, _ => false
def matTG (N : List Str) (sc : Scope) : TG → PySem.Expr → Bool
  | .nm i, .Name x _ => decide (N[i]? = some x) && locB sc x
  | .tp is, .Tuple es _ _ => tgB N sc is es
  | .tq i is, .Tuple [.Name x _, .Tuple es _ _] _ _ => (decide (N[i]? = some x) && locB sc x) && tgB N sc is es
  | _, _ => false
/-- the keys of a display -/
def dkB : List Str → List (Option PySem.Expr) → Bool
  | [], [] => true
  | k :: ks, some (.Constant (.str x) _ _) :: r => (k == x && decide (x.length ≤ szL)) && dkB ks r
  | _, _ => false
/-- the __init__ of a class -/
def iniF (G : Prog) (c : Nat) : Option FnT := (G.cls[c]?).bind fun C => C.init.bind fun f => G.fns[f]?
def ownOf (N : List Str) (is : List Nat) : List (Str × Nat) := is.map fun i => (N.getD i "", i)
def tyB (G : Prog) (sc : Scope) : List Ty → List PySem.Expr → Bool
  | [], [] => true
  | t :: ts, .Name x _ :: r => (decide (x = tyN G t) && (glB sc x && dbgB x)) && tyB G sc ts r
  | _, _ => false
def kwB (ps : List Str) : List Nat → List Keyword → Bool
  | [], [] => true
  | k :: ks, ⟨some x, _, _⟩ :: r => decide (ps[k]? = some x) && kwB ps ks r
  | _, _ => false
def kwV (k : Keyword) : PySem.Expr := k.value
def isTup : PySem.Expr → Bool
  | .Tuple _ _ _ => true
  | _ => false
def minus1 : PySem.Expr → Bool
  | .UnaryOp .USub (.Constant (.int i) _ _) _ => i == 1
  | _ => false
def okCon : Con → Bool
  | _ => true
/-- a generator expression's scope -/
def genB (sc : Scope) : Bool := !sc.isCoroutine && ((sc.names.all fun y => match y.2 with | .cell => false | _ => true) && decide (sc.names.lookup (".0" : Str) = some .local))
def notList : PySem.Expr → Bool
  | .List _ _ => false
  | _ => true
section
variable (G : Prog) (N : List Str)
mutual
def matE (inl hot : Bool) (sc : Scope) : ME → PySem.Expr → Bool
  | .var i, e0 => (match e0 with
    | .Name x _ => varB N sc i x
    | _ => false)
  | .con v, e0 => (match e0 with
    | .Constant c _ _ => conB v c
    | _ => false)
  | .glb g, e0 => (match e0 with
    | .Name x _ => (match G.consts[g]? with
    | some p => decide (p.1 = x)
    | none => false) && (glB sc x && dbgB x)
    | _ => false)
  | .bin o a b, e0 => (match e0 with
    | .BinOp l p r _ => decide (o = p) && (matE inl hot sc a l && matE inl hot sc b r)
    | _ => false)
  | .neg a, e0 => (match e0 with
    | .UnaryOp .USub x _ => matE inl hot sc a x
    | _ => false)
  | .nt a, e0 => (match e0 with
    | .UnaryOp .Not x _ => tstB x && matE inl hot sc a x
    | _ => false)
  | .cmp o a b, e0 => (match e0 with
    | .Compare l [p] [r] _ => (decide (o = p) && cmpB o r) && (matE inl hot sc a l && matE inl hot sc b r)
    | _ => false)
  | .cmo o a b, e0 => (match e0 with
    | .Compare l [p] [r] _ => !hot && ((decide (o = p) && cmpB o r) && (matE inl hot sc a l && matE inl hot sc b r))
    | _ => false)
  | .mlr a b, e0 => (match e0 with
    | .BinOp l .Mult r _ => matE inl hot sc a l && matE inl hot sc b r
    | _ => false)
  | .bno o a b, e0 => (match e0 with
    | .BinOp l p r _ => !hot && (decide (o = p) && (matE inl hot sc a l && matE inl hot sc b r))
    | _ => false)
  | .chn o p a b c, e0 => (match e0 with
    | .Compare l [o', p'] [r, z] _ => ((decide (o = o') && cmpB o r) && (decide (p = p') && cmpB p z)) && (matE inl hot sc a l && (matE inl hot sc b r && matE inl hot sc c z))
    | _ => false)
  | .and a b, e0 => (match e0 with
    | .BoolOp .And (x :: y :: r) pos => (tstB x && matE inl hot sc a x) && (match r with
    | [] => tstB y && matE inl hot sc b y
    | _ => matE inl hot sc b (.BoolOp .And (y :: r) pos))
    | _ => false)
  | .or a b, e0 => (match e0 with
    | .BoolOp .Or (x :: y :: r) pos => (tstB x && matE inl hot sc a x) && (match r with
    | [] => tstB y && matE inl hot sc b y
    | _ => matE inl hot sc b (.BoolOp .Or (y :: r) pos))
    | _ => false)
  | .ite c a b, e0 => (match e0 with
    | .IfExp t x y _ => (tstB t && matE inl hot sc c t) && (matE inl hot sc a x && matE inl hot sc b y)
    | _ => false)
  | .tup es, e0 => (match e0 with
    | .Tuple xs _ _ => matEs inl hot sc es xs
    | _ => false)
  | .lst _ es, e0 => (match e0 with
    | .List xs _ => matEs inl hot sc es xs
    | _ => false)
  | .fnc f es, e0 => (match e0 with
    | .Call (.Name x _) xs [] _ => !hot && (decide (fnN G f = some x) && (glB sc x && dbgB x)) && matEs inl hot sc es xs
    | _ => false)
  | .fnk f es ks ke _, e0 => (match e0 with
    | .Call (.Name x _) xs (kw :: kws) _ => !hot && ((decide (fnN G f = some x) && (glB sc x && dbgB x)) && ((match G.fns[f]? with
      | some F => kwB (F.names.take F.ar) ks (kw :: kws) && (decide ks.Nodup && (decide (F.names.Nodup) && decide (F.ar ≤ F.names.length)))
      | none => false) && (matEs inl hot sc es xs && matEs inl hot sc ke ((kw :: kws).map kwV))))
    | _ => false)
  | .mk c es, e0 => (match e0 with
    | .Call (.Name x _) xs [] _ => !hot && (decide (clN G c = some x) && (glB sc x && dbgB x)) && matEs inl hot sc es xs
    | _ => false)
  | .isi a ts one, e0 => (match e0 with
    | .Call (.Name x _) [v, t] [] _ => ((decide (x = ("isinstance" : Str)) && glB sc x) && starB v) && ((matE inl hot sc a v && (ts.all (tyOk G) && decide (ts.length < 100))) && (if one then tyB G sc ts [t] else match t with
    | .Tuple es _ _ => tyB G sc ts es
    | _ => false))
    | _ => false)
  | .xis i ts one, e0 => (match e0 with
    | .Call (.Name x _) [.Name y _, t] [] _ => ((hot && decide (x = ("isinstance" : Str))) && (glB sc x && varB N sc i y)) && ((ts.all (tyOk G) && decide (ts.length < 100)) && (if one then tyB G sc ts [t] else match t with
    | .Tuple es _ _ => tyB G sc ts es
    | _ => false))
    | _ => false)
  | .xat i k, e0 => (match e0 with
    | .Attribute (.Name y _) x _ => (hot && varB N sc i y) && (decide (x = G.idn k) && !decide (x = ""))
    | _ => false)
  | .bif b _ (.cons a es), e0 => (match e0 with
    | .Call (.Name x _) (y :: xs) [] _ => (decide (x = (bifN b : Str)) && glB sc x) && ((((coolB b || !hot) && (G.gcd || !decide (b = .gcd))) && !decide (b = .maxd)) && matEs inl hot sc (.cons a es) (y :: xs))
    | .Call (.Name x _) [y] [⟨some z, v, _⟩] _ => ((decide (x = ("max" : Str)) && glB sc x) && (decide (z = ("default" : Str)) && !hot)) && (decide (b = .maxd) && matEs inl hot sc (.cons a es) [y, v])
    | _ => false)
  | .mth o k es, e0 => (match e0 with
    | .Call (.Attribute v x p1) xs [] p2 => ((!hot && (decide (xs.length < 30) && (p1.endLine == p2.line))) && ((decide (x = G.idn k) && !decide (x = "")) && baseB v)) && (matE inl hot sc o v && matEs inl hot sc es xs)
    | _ => false)
  | .ext o a, e0 => (match e0 with
    | .Call (.Attribute v x p1) [y] [] p2 => ((decide (x = ("extend" : Str)) && baseB v) && (starB y && (p1.endLine == p2.line))) && (matE inl hot sc o v && matE inl hot sc a y)
    | _ => false)
  | .app o a, e0 => (match e0 with
    | .Call (.Attribute v x p1) [y] [] p2 => ((decide (x = ("append" : Str)) && baseB v) && (starB y && (p1.endLine == p2.line))) && (matE inl hot sc o v && matE inl hot sc a y)
    | _ => false)
  | .att o k, e0 => (match e0 with
    | .Attribute v x _ => ((decide (x = G.idn k) && !decide (x = "")) && baseB v) && matE inl hot sc o v
    | _ => false)
  | .idx a i, e0 => (match e0 with
    | .Subscript x y _ => slcB y && (matE inl hot sc a x && matE inl hot sc i y)
    | _ => false)
  | .dgt a i, e0 => (match e0 with
    | .Subscript x y _ => slcB y && (matE inl hot sc a x && matE inl hot sc i y)
    | _ => false)
  | .dsp ks es, e0 => (match e0 with
    | .Dict keys vals _ => ((dkB ks keys && decide (keys.length = vals.length)) && ((!ks.isEmpty && decide (ks.length ≤ 15)) && !hot)) && matEs true false sc es vals
    | _ => false)
  | .lno a, e0 => (match e0 with
    | .Call (.Name x _) [y] [] _ => ((!hot && starB y) && (decide (x = ("len" : Str)) && glB sc x)) && matE inl hot sc a y
    | _ => false)
  | .rep a, e0 => (match e0 with
    | .Call (.Name x _) [y] [] _ => (decide (x = ("repr" : Str)) && glB sc x) && (starB y && matE inl hot sc a y)
    | _ => false)
  | .lrg _ a, e0 => (match e0 with
    | .Call (.Name x _) [.Call (.Name z _) [y] [] _] [] _ => (!hot && starB y) && (((decide (x = ("list" : Str)) && glB sc x) && (decide (z = ("range" : Str)) && glB sc z)) && matE inl hot sc a y)
    | _ => false)
  | .btl a, e0 => (match e0 with
    | .Call (.Attribute v x p1) [] [] p2 => ((decide (x = ("bit_length" : Str)) && baseB v) && (p1.endLine == p2.line)) && matE inl hot sc a v
    | _ => false)
  | .lix o a, e0 => (match e0 with
    | .Call (.Attribute v x p1) [y] [] p2 => ((decide (x = ("index" : Str)) && baseB v) && (starB y && (p1.endLine == p2.line))) && (matE inl hot sc o v && matE inl hot sc a y)
    | _ => false)
  | .ino n a b, e0 => (match e0 with
    | .Compare l [p] [r] _ => !hot && ((decide (p = if n = true then .NotIn else .In) && setB r) && (matE inl hot sc a l && matE inl hot sc b r))
    | _ => false)
  | .slc a lo hi, e0 => (match e0 with
    | .Subscript x (.Slice l h none _) _ => matE inl hot sc a x && ((match l with
      | none => matEs inl hot sc lo []
      | some y => matEs inl hot sc lo [y]) && (match h with
      | none => matEs inl hot sc hi []
      | some y => matEs inl hot sc hi [y]))
    | _ => false)
  | .rvs a, e0 => (match e0 with
    | .Subscript x (.Slice none none (some m) _) _ => matE inl hot sc a x && minus1 m
    | _ => false)
  | .lc _ tg it cs el, e0 => (match e0 with
    | .ListComp e [⟨t, i, fs, a⟩] sc' _ => !hot && ((a == 0 && (setB i && matTG N sc' tg t)) && ((matI inl hot sc it t i && L2.blkC N sc sc' (ownOf N (tgS tg))) && (matC true (L2.relS sc' sc) cs fs && matE true false (L2.relS sc' sc) el e)))
    | _ => false)
  | .lc2 _ tg it cs tg1 it1 cs1 el, e0 => (match e0 with
    | .ListComp e [⟨t, i, fs, a⟩, ⟨t1, i1, fs1, a1⟩] sc' _ => !hot && (((a == 0 && (setB i && matTG N sc' tg t)) && (a1 == 0 && (setB i1 && matTG N sc' tg1 t1))) && ((matI inl hot sc it t i && L2.blkC N sc sc' (ownOf N (tgS tg ++ tgS tg1))) && ((matC true (L2.relS sc' sc) cs fs && matC true (L2.relS sc' sc) cs1 fs1) && (matI true false (L2.relS sc' sc) it1 t1 i1 && matE true false (L2.relS sc' sc) el e))))
    | _ => false)
  | .gen k tg it cs el, e0 => (match e0 with
    | .Call (.Name x _) [.GeneratorExp e [⟨t, i, fs, a⟩] sc' _] [] _ => ((!hot && !inl) && okCon k) && ((decide (x = (conN k : Str)) && glB sc x) && ((a == 0 && ((setB i && notList i) && matTG N sc' tg t)) && ((matI inl hot sc it t i && (L2.blkC N sc sc' (ownOf N (tgS tg)) && genB sc')) && (matC true sc' cs fs && matE true false sc' el e))))
    | _ => false)
  | _, _ => false
def matEs (inl hot : Bool) (sc : Scope) : MEs → List PySem.Expr → Bool
  | .nil, [] => true
  | .cons a r, x :: xs => starB x && (matE inl hot sc a x && matEs inl hot sc r xs)
  | _, _ => false
/-- a comprehension's test, if it has one -/
def matC (inl : Bool) (sc : Scope) : MEs → List PySem.Expr → Bool
  | .nil, [] => true
  | .cons a .nil, [x] => tstB x && matE inl false sc a x
  | _, _ => false
/-- an iterable; t: the loop's target -/
def matI (inl hot : Bool) (sc : Scope) : IT → PySem.Expr → PySem.Expr → Bool
  | .val a, _, e0 => matE inl hot sc a e0
  | .rng a, _, e0 => (match e0 with
    | .Call (.Name x _) [y] [] _ => (decide (x = ("range" : Str)) && glB sc x) && (starB y && matE inl hot sc a y)
    | _ => false)
  | .rng2 a b, _, e0 => (match e0 with
    | .Call (.Name x _) [y, z] [] _ => (decide (x = ("range" : Str)) && glB sc x) && ((starB y && starB z) && (matE inl hot sc a y && matE inl hot sc b z))
    | _ => false)
  | .rng3 a b d, _, e0 => (match e0 with
    | .Call (.Name x _) [y, z, w] [] _ => (decide (x = ("range" : Str)) && glB sc x) && ((starB y && (starB z && starB w)) && (matE inl hot sc a y && (matE inl hot sc b z && matE inl hot sc d w)))
    | _ => false)
  | .zip a b, t0, e0 => isTup t0 && (match e0 with
    | .Call (.Name x _) [y, z] [] _ => (decide (x = ("zip" : Str)) && glB sc x) && ((starB y && starB z) && (matE inl hot sc a y && matE inl hot sc b z))
    | _ => false)
  | .enm a, t0, e0 => isTup t0 && (match e0 with
    | .Call (.Name x _) [y] [] _ => (decide (x = ("enumerate" : Str)) && glB sc x) && (starB y && matE inl hot sc a y)
    | _ => false)
  | .rev a, _, e0 => (match e0 with
    | .Call (.Name x _) [y] [] _ => (decide (x = ("reversed" : Str)) && glB sc x) && (starB y && matE inl hot sc a y)
    | _ => false)
end

/-! ### statements -/
def lcB : PySem.Expr → Bool
  | .ListComp _ _ _ _ => false
  | .SetComp _ _ _ _ => false
  | .DictComp _ _ _ _ _ => false
  | _ => true
/-- is the value put into the name ahead of the block's end? -/
def swB (sc : Scope) (x : Str) (px : Pos) : PySem.Expr → Bool
  | .ListComp _ _ s p => decide (sc.names.lookup x = some .local) && ((px.line == p.line) && !(s.names.any fun (n, k) => n == x && (k == .local || k == .cell)))
  | _ => false
def notTup : PySem.Expr → Bool
  | .Tuple _ _ _ => false
  | _ => true
def isStar : PySem.Expr → Bool
  | .Starred .. => true
  | _ => false
/-- a, b = x, y: plain names of a def, in one row, and not all that is stored is constant -/
def swpB (sc : Scope) (x : Str) (px : Pos) (y : Str) (py : Pos) (a b : PySem.Expr) : Bool :=
  (((((((((if sc.kind.isAnnotationScope then ScopeKind.function else sc.kind) == .function) && decide (sc.names.lookup x = some .local)) && decide (sc.names.lookup y = some .local)) && (px.line == py.line)) && decide (x ≠ y)) && !isStar a) && !isStar b) && !([a, b].all (foldedForSure 8))) && !([a, b].all (constantsAlone 8))
/-- the classes are of exceptions -/
def hdsEx (G : Prog) : MHs → Bool
  | .nil => true
  | .cons c _ _ r => isExc G c && hdsEx G r
def notLc2 : ME → Bool
  | .lc2 _ _ _ _ _ _ _ _ => false
  | _ => true
mutual
def matS (hot : Bool) (sc : Scope) : MS → PySem.Stmt → Bool
  | .set i e, s0 => (match s0 with
    | .Assign [.Name x _] v _ => (decide (N[i]? = some x) && locB sc x) && (notLc2 e && matE G N false hot sc e v)
    | _ => false)
  | .setT is e, s0 => (match s0 with
    | .Assign [.Tuple es _ _] v _ => !hot && ((tgB N sc is es && (notTup v || decide (4 ≤ es.length))) && matE G N false hot sc e v)
    | _ => false)
  | .setI o i e, s0 => (match s0 with
    | .Assign [.Subscript o' i' _] v _ => slcB i' && (matE G N false hot sc o o' && (matE G N false hot sc i i' && matE G N false hot sc e v))
    | _ => false)
  | .setD o i e, s0 => (match s0 with
    | .Assign [.Subscript o' i' _] v _ => slcB i' && (matE G N false hot sc o o' && (matE G N false hot sc i i' && matE G N false hot sc e v))
    | _ => false)
  | .setA o f e, s0 => (match s0 with
    | .Assign [.Attribute o' x _] v _ => ((decide (x = G.idn f) && !decide (x = "")) && baseB o') && (matE G N false hot sc o o' && matE G N false hot sc e v)
    | _ => false)
  | .swp o1 i1 o2 i2 a b, s0 => (match s0 with
    | .Assign [.Tuple [.Subscript p1 j1 _, .Subscript p2 j2 _] _ _] (.Tuple [u, v] _ _) _ => (!hot && ((slcB j1 && slcB j2) && (starB u && starB v))) && ((matE G N false hot sc o1 p1 && matE G N false hot sc i1 j1) && ((matE G N false hot sc o2 p2 && matE G N false hot sc i2 j2) && (matE G N false hot sc a u && matE G N false hot sc b v)))
    | _ => false)
  | .aug i o e, s0 => (match s0 with
    | .AugAssign (.Name x _) op v _ => (decide (o = op) && (decide (N[i]? = some x) && locB sc x)) && matE G N false hot sc e v
    | _ => false)
  | .expr e, s0 => (match s0 with
    | .Expr v _ => lcB v && matE G N false hot sc e v
    | _ => false)
  | .ret e, s0 => (match s0 with
    | .Return (some v) _ => matE G N false hot sc e v
    | _ => false)
  | .retN, s0 => (match s0 with
    | .Return none _ => true
    | _ => false)
  | .cond c a b, s0 => (match s0 with
    | .If t x y _ => (tstB t && matE G N false hot sc c t) && (matSs hot sc a x && matSs hot sc b y)
    | _ => false)
  | .for_ tg it b, s0 => (match s0 with
    | .For t i x [] _ => (!hot && (setB i && matTG N sc tg t)) && (matI G N false hot sc it t i && matSs hot sc b x)
    | _ => false)
  | .whl c b, s0 => (match s0 with
    | .While t x [] _ => (!hot && (tstB t && matE G N false hot sc c t)) && matSs hot sc b x
    | _ => false)
  | .brk, s0 => (match s0 with
    | .Break _ => true
    | _ => false)
  | .cnt, s0 => (match s0 with
    | .Continue _ => true
    | _ => false)
  | .pas, s0 => (match s0 with
    | .Pass _ => true
    | _ => false)
  | .rais c es, s0 => (match s0 with
    | .Raise (some (.Call (.Name x _) (y :: ys) [] _)) none _ => (!hot && (decide (exR G c = some x) && (glB sc x && dbgB x))) && (matEs G N false hot sc es (y :: ys) && decide (ys.length < 100))
    | _ => false)
  | .trys b hs, s0 => (match s0 with
    | .Try x (h :: r) [] [] _ => !hot && ((matSs hot sc b x && hdsEx G hs) && matHs sc hs (h :: r))
    | _ => false)
  | .setP i j a b, s0 => (match s0 with
    | .Assign [.Tuple [.Name x px, .Name y py] _ _] (.Tuple [v, w] _ _) _ => !hot && ((((decide (N[i]? = some x) && decide (N[j]? = some y)) && decide (i ≠ j)) && swpB sc x px y py v w) && (matE G N false hot sc a v && (matE G N false hot sc b w && (starB v && starB w))))
    | _ => false)
def matSs (hot : Bool) (sc : Scope) : MSs → List PySem.Stmt → Bool
  | .nil, [] => true
  | .cons a r, x :: xs => matS hot sc a x && matSs hot sc r xs
  | _, _ => false
def matHs (sc : Scope) : MHs → List PySem.ExceptHandler → Bool
  | .nil, [] => true
  | .cons c i b r, h :: hs => (match h with
    | .ExceptHandler (some (.Name x _)) nm (s0 :: ss) _ => ((decide (exN G c = some x) && (glB sc x && dbgB x)) && (match i, nm with
      | none, none => true
      | some j, some n => decide (N[j]? = some n) && decide (sc.names.lookup n = some .local)
      | _, _ => false)) && (matSs true sc b (s0 :: ss) && matHs sc r hs)
    | _ => false)
  | _, _ => false
end
end
end Ev

set_option Elab.async false
set_option linter.all false
set_option maxRecDepth 100000
set_option autoImplicit false
/-! Ev: expressions: what the evaluator gives is what the machine gives. -/
namespace Ev
open PySem PySem.Spec PyProof.Rows L2

abbrev Call := Nat → List Val → Store → R Val
/-- what an expression's reading is -/
def tEv (W : Wd) (xa : Xa) (call : Call) (m : ME) (Wx : WX) : TE := fun σ H Q => ∃ (e : Env) (ph : List Addr) (s : Store), RS W xa ph H e σ ∧ Rep W ph s H ∧ PR W ph H (QV W Q) (fun c d H' => Wx c d σ H') (ev W.G call m e s)
def tEvs (W : Wd) (xa : Xa) (call : Call) (m : MEs) (Wx : WX) : TA := fun σ H Q => ∃ (e : Env) (ph : List Addr) (s : Store), RS W xa ph H e σ ∧ Rep W ph s H ∧ PR W ph H (QVs W Q) (fun c d H' => Wx c d σ H') (evs W.G call m e s)
def tEvT (W : Wd) (xa : Xa) (call : Call) (m : ME) (Wx : WX) : TT := fun σ H Q => ∃ (e : Env) (ph : List Addr) (s : Store), RS W xa ph H e σ ∧ Rep W ph s H ∧ PR W ph H (QB W Q) (fun c d H' => Wx c d σ H') (evT W.G call m e s)
theorem PE.imp {X : Cx} {e : PySem.Expr} {t t' : TE} (h : PE X e t) (i : ∀ σ H Q, t' σ H Q → t σ H Q) : PE X e t' := ⟨fun pins s σ H Q I q => h.run pins s σ H Q I (i σ H Q q)⟩
theorem PT.imp {X : Cx} {e : PySem.Expr} {t t' : TT} (h : PT X e t) (i : ∀ σ H Q, t' σ H Q → t σ H Q) : PT X e t' := ⟨fun pins s σ H Q I q => h.run pins s σ H Q I (i σ H Q q)⟩
theorem PW.imp {X : Cx} {e : PySem.Expr} {t t' : TT} (h : PW X e t) (i : ∀ σ H Q, t' σ H Q → t σ H Q) : PW X e t' := ⟨fun wh pins s σ H Q I q => h.run wh pins s σ H Q I (i σ H Q q)⟩
theorem PA.imp {X : Cx} {es : List PySem.Expr} {t t' : TA} (h : PA X es t) (i : ∀ σ H Q, t' σ H Q → t σ H Q) : PA X es t' := ⟨fun pos pins s σ H Q I q => h.run pos pins s σ H Q I (i σ H Q q)⟩

section
variable {W : Wd} {xa : Xa} {call : Call} {m : ME} {ms : MEs} {Wx : WX} {σ : L2.St} {H : Hp} {e : Env} {ph : List Addr} {s : Store}
theorem tEv_of {Pk : Val → Store → List Addr → Hp → Prop} {C : V → Hp → Prop} (hs : RS W xa ph H e σ) (hr : Rep W ph s H) (mo : Mo Pk) (h : PR W ph H Pk (fun c d H' => Wx c d σ H') (ev W.G call m e s))
    (k : ∀ x s1 ph1 H1 v, Grow ph H ph1 H1 → Rep W ph1 s1 H1 → VR W ph1 H1 x v → RS W xa ph1 H1 e σ → Pk x s1 ph1 H1 → C v H1) : tEv W xa call m Wx σ H C :=
  ⟨e, ph, s, hs, hr, PR.imp (fun x s1 q ph1 H1 v g r vr => k x s1 ph1 H1 v g r vr (hs.grow hr g) (mo _ _ _ _ _ _ g q)) h⟩
theorem tEvs_of {Pk : List Val → Store → List Addr → Hp → Prop} {C : List V → Hp → Prop} (hs : RS W xa ph H e σ) (hr : Rep W ph s H) (mo : Mo Pk) (h : PR W ph H Pk (fun c d H' => Wx c d σ H') (evs W.G call ms e s))
    (k : ∀ x s1 ph1 H1 v, Grow ph H ph1 H1 → Rep W ph1 s1 H1 → VRs W ph1 H1 x v → RS W xa ph1 H1 e σ → Pk x s1 ph1 H1 → C v H1) : tEvs W xa call ms Wx σ H C :=
  ⟨e, ph, s, hs, hr, PR.imp (fun x s1 q ph1 H1 v g r vr => k x s1 ph1 H1 v g r vr (hs.grow hr g) (mo _ _ _ _ _ _ g q)) h⟩
theorem tEvT_of {Pk : Bool → Store → List Addr → Hp → Prop} {C : Bool → Hp → Prop} (hs : RS W xa ph H e σ) (hr : Rep W ph s H) (mo : Mo Pk) (h : PR W ph H Pk (fun c d H' => Wx c d σ H') (evT W.G call m e s))
    (k : ∀ x s1 ph1 H1, Grow ph H ph1 H1 → Rep W ph1 s1 H1 → RS W xa ph1 H1 e σ → Pk x s1 ph1 H1 → C x H1) : tEvT W xa call m Wx σ H C :=
  ⟨e, ph, s, hs, hr, PR.imp (fun x s1 q ph1 H1 g r => k x s1 ph1 H1 g r (hs.grow hr g) (mo _ _ _ _ _ _ g q)) h⟩
/-- the end: the value as it is -/
theorem QV.at {Q : VK} {x : Val} {v : V} (h : QV W Q x s ph H) (hr : Rep W ph s H) (vr : VR W ph H x v) : Q v H := h ph H v .refl hr vr
/-- the end: a new thing -/
theorem QV.new {Q : VK} {x : Val} {o : HO} (h : QV W Q x s ph H) (hr : Rep W ph s H) (vr : ∀ p, H p = none → VR W ph (upd H p o) x (.ref p)) : ∀ p, H p = none → Q (.ref p) (upd H p o) :=
  fun p hp => h ph (upd H p o) (.ref p) (Grow.fresh hp) (hr.fresh hp) (vr p hp)
end

/-! ### the context -/
def bltN : List Str := ["isinstance", "range", "zip", "enumerate", "reversed", "len", "int", "abs", "list", "tuple", "sum", "min", "max", "all", "any", "sorted", "str", "repr", "bool", "ValueError"]
/-- what a function promises -/
def spEv (W : Wd) (call : Call) (f : Nat) : Sp := fun vs H Q E => ∃ (ph : List Addr) (s : Store) (xs : List Val), Rep W ph s H ∧ VRs W ph H xs vs ∧ PR W ph H (QV W Q) E (call f xs s)
def spEvK (W : Wd) (call : Call) (f : Nat) (F : FnT) : Sp := fun vs H Q E => ∃ (ph : List Addr) (s : Store) (xs : List Val), Rep W ph s H ∧ VRs W ph H xs vs ∧ PR W ph H (QV W Q) E (call f (xs ++ mkA F) s)
def tyN' (G : Prog) : Ty → Str
  | t => tyN G t
def tyVal (W : Wd) : Ty → Value
  | .int => .type "int" | .bool => .type "bool" | .str => .type "str" | .tuple => .type "tuple" | .list => .type "list" | .vErr => .type "ValueError"
  | .own d => .ref (W.ca d)
def kdVal (W : Wd) : Kd → Value
  | .non => .type "NoneType" | .bl => .type "bool" | .int => .type "int" | .str => .type "str" | .tup => .type "tuple" | .lst => .type "list"
  | .ins c => .ref (W.ca c) | .exv c => .ref (W.ca c)
/-- the classes of instances that are asked for their class -/
structure InsC (K : PySem.W.Frag) (C : Addr) : Prop where
  cl : Cls K C
  ha : PySem.W.findIn K (.ref C) "__class__" = some (some (.builtin "object.__class__"))
  hn : PySem.W.specialIn K (.builtin "object.__class__") "__get__" = some (some (.builtin "getset_descriptor.__get__"))
  ht : PySem.W.takesIn K (.builtin "object.__class__") = some true
  hm : PySem.W.mroIn K C (.type "object") = some true
  sf : PySem.W.selfFirst K C = true
/-- a class of exceptions with attributes -/
structure ExK (K : PySem.W.Frag) (C : Addr) : Prop where
  ga : PySem.W.findIn K (.ref C) "__getattribute__" = some (some (.builtin "BaseException.__getattribute__"))
  gg : PySem.W.findIn K (.ref C) "__getattr__" = some none
  ex : PySem.W.subIn K (.ref C) (.type "BaseException") = some true
  hd : PySem.W.hasDictIn K C = true
  ha : PySem.W.findIn K (.ref C) "__class__" = some (some (.builtin "object.__class__"))
  hn : PySem.W.specialIn K (.builtin "object.__class__") "__get__" = some (some (.builtin "getset_descriptor.__get__"))
  ht : PySem.W.takesIn K (.builtin "object.__class__") = some true
  hm : PySem.W.mroIn K C (.type "object") = some true
/-- an exception's __init__: the attributes put in -/
def spX (C : Addr) (fs : List Str) : Sp := fun vs H Q _ => ∃ (a : Addr) (us : List V), vs = .ref a :: us ∧ us.length = fs.length ∧ H a = some (exo a C none) ∧
  ∀ dx, H dx = none → dx ≠ a → Q .non (upd (upd H dx (exd dx (fs.reverse.zip us.reverse))) a (exo a C (some dx)))
/-- a call with keywords: full: the arguments in the parameters' order -/
def FnK (P : Program) (w : World) (K : PySem.W.Frag) (mg : Str → Option Value) (base : Heap) (k : Nat) (f : Addr) (ps : List Str) (m : Nat) (sp : Sp) : Prop :=
  ∀ (A : Around) (outer : List PySem.Env) (s : Shared) (H : Hp) (us ws full : List Value) (ks : List Str) (vs : List V) (Q : VK) (E : XK), A.guards = some [] → Room k A → Env0 P w K mg base A outer s H → us.length ≤ m → ws.length = ks.length → ks.Nodup → (∀ x ∈ ks, x ∈ ps.drop us.length) → full.length = ps.length →
    (∀ (i : Nat) (p : Str) (v : Value), ps[i]? = some p → full[i]? = some v → (ps.zip us ++ ks.zip ws).lookup p = some v) → Vals vs full → sp vs H Q E → codeAny (model P w) A (.call (.ref f) ⟨us, ks.zip ws⟩) (L2.CR (L2.CX P w) outer P w H s Q E) s
/-- a promise for callers that stand within no repr -/
def FnG (P : Program) (w : World) (K : PySem.W.Frag) (mg : Str → Option Value) (base : Heap) (k : Nat) (f : Addr) (sp : Sp) : Prop :=
  ∀ (A : Around) (outer : List PySem.Env) (s : Shared) (H : Hp) (us : List Value) (vs : List V) (Q : VK) (E : XK), A.guards = some [] → Room k A → Env0 P w K mg base A outer s H → Vals vs us → sp vs H Q E → codeAny (model P w) A (.call (.ref f) ⟨us, []⟩) (L2.CR (L2.CX P w) outer P w H s Q E) s
structure Lib (W : Wd) (P : Program) (w : World) (mg : Str → Option Value) (base : Heap) (call : Call) (k : Nat) : Prop where
  free : ∀ x, x ∈ bltN → mg x = none
  fnm : ∀ f x, fnN W.G f = some x → mg x = some (.ref (W.fa f)) ∧ PySem.W.keepIn W.K (.ref (W.fa f)) = true
  fns : ∀ (f : Nat) (hd : List Addr), FnG P w W.K mg base k (W.fa f) (spEv { W with hd := hd } call f)
  fks : ∀ (f : Nat) (F : FnT) (hd : List Addr), W.G.fns[f]? = some F → FnK P w W.K mg base k (W.fa f) (F.names.take F.ar) (F.ar - F.dfl.length) (spEvK { W with hd := hd } call f F)
  con : ∀ (g : Nat) (p : Str × Val), W.G.consts[g]? = some p → ∃ (u : Value) (v : V), mg p.1 = some u ∧ RelV v u ∧ ∀ hd ph H, VR { W with hd := hd } ph H p.2 v
  idn : (rids ++ W.G.ids).Nodup
  fld : ∀ (c : Nat) (C : ClsT) (f : Nat), W.G.cls[c]? = some C → C.flds.contains f = true → Cls W.K (W.ca c) ∧ NoAttr W.K (W.ca c) (W.G.idn f)
  mth : ∀ (c : Nat) (C : ClsT) (m f : Nat), W.G.cls[c]? = some C → C.meths.lookup m = some f → Cls W.K (W.ca c) ∧ Meth W.K (W.ca c) (W.G.idn m) (W.fa f)
  mks : ∀ (c : Nat) (C : ClsT) (f : Nat), W.G.cls[c]? = some C → C.init = some f → Mk W.K (W.ca c) (W.fa f) ∧ mg C.name = some (.ref (W.ca c))
  clm : ∀ (c : Nat) (C : ClsT), W.G.cls[c]? = some C → mg C.name = some (.ref (W.ca c)) ∧ PySem.W.keepIn W.K (.ref (W.ca c)) = true
  ins : ∀ (c : Nat), isIns W.G c = true → InsC W.K (W.ca c)
  exk : ∀ (c : Nat), isExc W.G c = true → ExK W.K (W.ca c)
  exf : ∀ (c : Nat) (C : ClsT) (ks : List Nat) (f : Nat), W.G.cls[c]? = some C → C.exc = some ks → ks.contains f = true → PySem.W.findIn W.K (.ref (W.ca c)) (W.G.idn f) = some none
  exi : ∀ (c : Nat) (C : ClsT) (ks : List Nat), W.G.cls[c]? = some C → C.exc = some ks → ks ≠ [] → ∃ (fI : Addr) (fd : FuncData) (ps : List Str), OexC W.K (W.ca c) ∧ PySem.W.findIn W.K (.ref (W.ca c)) "__init__" = some (some (.ref fI)) ∧
    PySem.W.typeIn W.K (.ref fI) = some (.type "function") ∧ FnOk P w W.K mg base (L2.CX P w) 1 fI fd ps (spX (W.ca c) (ks.map W.G.idn)) ∧ Binds W.K fd ps []
  exm : ∀ (c d : Nat), isExc W.G c = true → isExc W.G d = true → PySem.W.exmOne W.K (.ref (W.ca c)) (.ref (W.ca d)) = some (subC W.G c d)
  kit : ∀ (v : Kd) (t : Ty) (b : Bool), kdOk W.G v = true → tyOk W.G t = true → tyK W.G v t = some b → PySem.W.kitOne W.K (kdVal W v) (tyVal W t) = some b
  gcd : W.G.gcd = true → mg "gcd" = some (.builtin "math.gcd")
structure Gd (W : Wd) (call : Call) (N : List Str) (k : Nat) (sc : Scope) (hot : Bool) (Wx : WX) (X : Cx) : Prop where
  lib : Lib W X.prog X.w X.mg X.base call k
  eK : X.K = W.K
  eN : X.N = N
  nd : N.Nodup
  eS : X.env.scope = sc
  hu : X.A.units + 65 < cLine
  gu : X.A.guards = some []
  tk : Takes X Wx
  calm : hot = false → X.calm = true
  room : hot = false → Room (k + 2) X.A
theorem ba {a b : Bool} (h : (a && b) = true) : a = true ∧ b = true := Bool.and_eq_true_iff.mp h
section
variable {W : Wd} {xa : Xa} {call : Call} {N : List Str} {k : Nat} {sc : Scope} {hot : Bool} {X : Cx} {Wx : WX}
theorem Gd.kindOf (g : Gd W call N k sc hot Wx X) {x : Str} : X.env.kindOf x = sc.names.lookup x := by
  show X.env.scope.names.lookup x = _
  rw [g.eS]
theorem vis_of (g : Gd W call N k sc hot Wx X) {x : Str} (h : visB sc x = true) : Vis X.env.scope x := by
  rw [g.eS]
  unfold visB at h
  unfold Vis
  cases q : sc.names.lookup x with
  | none => rw [q] at h; cases h
  | some k => rw [q] at h; cases k <;> first | exact .inl rfl | exact .inr (.inl rfl) | exact .inr (.inr rfl) | cases h
theorem gl_of (g : Gd W call N k sc hot Wx X) {x : Str} (h : glB sc x = true) : Gl X x := by
  show X.env.kindOf x = _
  rw [g.kindOf]
  unfold glB at h
  cases q : sc.names.lookup x with
  | none => rw [q] at h; cases h
  | some k => rw [q] at h; cases k <;> first | rfl | cases h
theorem loc_of (g : Gd W call N k sc hot Wx X) {x : Str} (h : locB sc x = true) : L2.Loc X.env.scope x := by
  rw [g.eS]
  unfold locB at h
  unfold L2.Loc
  cases q : sc.names.lookup x with
  | none => rw [q] at h; cases h
  | some k => rw [q] at h; cases k <;> first | exact .inl rfl | exact .inr rfl | cases h
theorem dbg_of {x : Str} (h : dbgB x = true) : (x == ("__debug__" : Str)) = false ∧ (x == ("__classdict__" : Str)) = false ∧ x ≠ "__name__" := by
  unfold dbgB at h
  obtain ⟨h1, h2⟩ := ba h
  obtain ⟨h3, h4⟩ := ba h2
  exact ⟨by simpa using h1, by simpa using h3, by simpa using h4⟩

/-! ### names and constants -/
theorem se_var (g : Gd W call N k sc hot Wx X) {i : Nat} {x : Str} {pos : Pos} (h : varB N sc i x = true) : PE X (.Name x pos) (tEv W xa call (.var i) Wx) := by
  unfold varB at h
  obtain ⟨h1, h⟩ := ba h
  obtain ⟨h2, h3⟩ := ba h
  obtain ⟨d1, d2, _⟩ := dbg_of h3
  refine PE.imp (pe_var (i := i) (by rw [g.eN]; exact of_decide_eq_true h1) (vis_of g h2) d1 d2) fun σ H Q ⟨e, ph, s, hs, hr, q⟩ => ?_
  unfold ev at q
  cases hx : e[i]? with
  | none => rw [hx] at q; exact q.elim
  | some o =>
    cases o with
    | none => rw [hx] at q; exact q.elim
    | some x =>
      rw [hx] at q
      cases hq : isExv x with
      | true => simp only [hq, if_true] at q; exact q.elim
      | false =>
        simp only [hq, Bool.false_eq_true, if_false] at q
        obtain ⟨v, h1, h2⟩ := hs.val i x hx hq
        exact ⟨v, h1, QV.at q hr h2⟩
theorem se_con {v : Val} {c : Const} {j : Nat} {pos : Pos} (h : conB v c = true) : PE X (.Constant c j pos) (tEv W xa call (.con v) Wx) := by
  cases v <;> cases c <;> first | cases h | skip
  · exact PE.imp pe_non fun σ H Q ⟨e, ph, s, hs, hr, q⟩ => QV.at (show QV W Q _ s ph H from q) hr .non
  · rename_i a b
    have e : a = b := by simpa [conB] using h
    subst e
    exact PE.imp pe_bl fun σ H Q ⟨e, ph, s, hs, hr, q⟩ => QV.at (show QV W Q _ s ph H from q) hr (.bl _)
  · rename_i a b
    have e : a = b := by simpa [conB] using h
    subst e
    exact PE.imp pe_int fun σ H Q ⟨e, ph, s, hs, hr, q⟩ => QV.at (show QV W Q _ s ph H from q) hr (.int _)
  · rename_i a b
    have e : a = b := by
      unfold conB at h
      simpa using (ba h).1
    subst e
    exact PE.imp pe_str fun σ H Q ⟨e, ph, s, hs, hr, q⟩ => QV.at (show QV W Q _ s ph H from q) hr (.str _)
theorem se_glb (g : Gd W call N k sc hot Wx X) {i : Nat} {x : Str} {pos : Pos} (h1 : (match W.G.consts[i]? with
    | some p => decide (p.1 = x)
    | none => false) = true) (h2 : glB sc x = true) (h3 : dbgB x = true) : PE X (.Name x pos) (tEv W xa call (.glb i) Wx) := by
  cases hc : W.G.consts[i]? with
  | none => rw [hc] at h1; cases h1
  | some p =>
    rw [hc] at h1
    have h1 := of_decide_eq_true h1
    subst h1
    obtain ⟨u, v, q1, q2, q3⟩ := g.lib.con i p hc
    refine PE.imp (pe_glob (gl_of g h2) q1 q2 (dbg_of h3).1) fun σ H Q ⟨e, ph, s, hs, hr, q⟩ => ?_
    unfold ev at q
    rw [hc] at q
    exact QV.at q hr (q3 W.hd ph H)
end
end Ev

set_option Elab.async false
set_option linter.all false
set_option maxRecDepth 100000
set_option autoImplicit false
namespace Ev
open PySem PySem.Spec PyProof.Rows L2
theorem tuple_mul1 (l : Addr) (items : Array Value) (n : Nat) (dd : Option Addr) (sl : Array (Option Value)) (u : Tok) :
    Meets (Builtin.«tuple.__mul__» ⟨[.ref l, .int 1 u], []⟩) (fun _ R s => s.heap.get? l = some { cls := .type "tuple", dict := dd, data := .seq items n, slots := sl } ∧
      R (.ok (.ret (Value.ref l))) s) :=
  .of_wp fun prog w A R s h => by
    obtain ⟨hp, g, d, tk, os⟩ := s
    obtain ⟨hl, h⟩ := h
    have f1 := AutoSeq1.idx_int
    have c1 : (items.isEmpty || (1 : Int) == 1) = true := by simp
    wp_walk using wpAny_loadPart' hl
    exact ⟨_, rfl, h⟩
theorem tuple_mul0 (l : Addr) (items : Array Value) (n : Nat) (dd : Option Addr) (sl : Array (Option Value)) (u : Tok) (hi : items.isEmpty = false) :
    Meets (Builtin.«tuple.__mul__» ⟨[.ref l, .int 0 u], []⟩) (fun _ R s => s.heap.get? l = some { cls := .type "tuple", dict := dd, data := .seq items n, slots := sl } ∧
      R (.ok (.ret (Value.ref s.heap.objs.size))) { s with heap := s.heap.push { cls := Value.type "tuple", data := Data.seq #[] }, toks := s.toks }) :=
  .of_wp fun prog w A R s h => by
    obtain ⟨hp, g, d, tk, os⟩ := s
    obtain ⟨hl, h⟩ := h
    have f1 := AutoSeq1.idx_int
    have c1 : (items.isEmpty || (0 : Int) == 1) = false := by rw [hi]; rfl
    have c2 : (decide ((0 : Int) ≤ 0) || items.isEmpty) = true := rfl
    wp_walk using wpAny_loadPart' hl
    exact ⟨_, rfl, h⟩

section
variable {X : Cx}
theorem op_rep1 : OpR X (binaryOp .Mult) (fun x y H Q => ∃ l xs, x = .ref l ∧ y = .int 1 ∧ SqT X.K H l xs ∧ Q (.ref l) H) := by
  intro pins s σ H x y v u Q I rx ry h
  obtain ⟨l, xs, rfl, rfl, hT, q⟩ := h
  cases rx
  obtain ⟨t, rfl⟩ := ry
  obtain ⟨its, r, ⟨⟨cls, dd, data, sl⟩, ho, hc, n, hd⟩, hs⟩ := I.tuple hT
  simp only at hc hd
  subst hc hd
  refine wpAny_binaryOp_repeat_ref (T := "tuple") (U := "int") (by decide) ⟨_, ho, rfl⟩ (fun s' => typeIs_int s' 1 t) noFill_tuple_mul F.fills_int_mul F.slot_int_rmul repeat_tuple F.slot_int_index.lookup
    (call_meets F.slot_int_rmul (typeIs_int s 1 t) F.entry_int_rmul (F.args_int_rmul_2 _ _) (int_rmul_tuple 1 t l its.toArray n dd sl)
      ⟨ho, rfl, ⟨_, ho, rfl⟩, call_meets F.slot_tuple_mul ⟨_, ho, rfl⟩ F.entry_tuple_mul (F.args_tuple_mul_2 _ _) (tuple_mul1 l its.toArray n dd sl t) ⟨ho, ?_⟩⟩)
  exact ⟨.ref l, H, I, rfl, q⟩
theorem op_rep0 : OpR X (binaryOp .Mult) (fun x y H Q => ∃ l xs, x = .ref l ∧ y = .int 0 ∧ SqT X.K H l xs ∧ xs ≠ [] ∧ ∀ p, H p = none → Q (.ref p) (upd H p (.tup []))) := by
  intro pins s σ H x y v u Q I rx ry h
  obtain ⟨l, xs, rfl, rfl, hT, hne, q⟩ := h
  cases rx
  obtain ⟨t, rfl⟩ := ry
  obtain ⟨its, r, ⟨⟨cls, dd, data, sl⟩, ho, hc, n, hd⟩, hs⟩ := I.tuple hT
  simp only at hc hd
  subst hc hd
  have hi : its.toArray.isEmpty = false := by
    cases its with
    | nil =>
      cases r
      exact absurd rfl hne
    | cons a b => rfl
  refine wpAny_binaryOp_repeat_ref (T := "tuple") (U := "int") (by decide) ⟨_, ho, rfl⟩ (fun s' => typeIs_int s' 0 t) noFill_tuple_mul F.fills_int_mul F.slot_int_rmul repeat_tuple F.slot_int_index.lookup
    (call_meets F.slot_int_rmul (typeIs_int s 0 t) F.entry_int_rmul (F.args_int_rmul_2 _ _) (int_rmul_tuple 0 t l its.toArray n dd sl)
      ⟨ho, rfl, ⟨_, ho, rfl⟩, call_meets F.slot_tuple_mul ⟨_, ho, rfl⟩ F.entry_tuple_mul (F.args_tuple_mul_2 _ _) (tuple_mul0 l its.toArray n dd sl t hi) ⟨ho, ?_⟩⟩)
  refine ⟨.ref s.heap.objs.size, _, I.laid (t' := s.toks) (o := .tup []) (fun b ob q => Heap.get?_push_of_some _ q) (Nat.le_refl _) ?_, rfl, q _ (I.hok.fresh (Nat.le_refl _))⟩
  exact ⟨Nat.zero_le _, _, .nil, IsTup.new _ _⟩
end
end Ev

set_option Elab.async false
set_option linter.all false
set_option maxRecDepth 100000
set_option autoImplicit false
/-! Ev: operations on values. -/
namespace Ev
open PySem PySem.Spec PyProof.Rows L2

/-! ### plain data -/
mutual
theorem lay_of : ∀ x : Val, x.dat = true → x.toD.canLay0 = true
  | .non, _ => rfl
  | .bl _, _ => rfl
  | .int _, _ => rfl
  | .str _, h => h
  | .tup xs, h => layL_of xs h
  | .lst xs, h => layL_of xs h
theorem layL_of : ∀ xs : List Val, datL xs = true → PyData.canLayAll0 (toDL xs) = true
  | [], _ => rfl
  | x :: xs, h => by
    have h' : (x.dat && datL xs) = true := h
    have q := Bool.and_eq_true_iff.mp h'
    show (PyData.canLay0 x.toD && PyData.canLayAll0 (toDL xs)) = true
    rw [lay_of x q.1, layL_of xs q.2]
    rfl
end
mutual
theorem dep_of : ∀ x : Val, x.toD.depth ≤ x.dep
  | .non => Nat.le_refl _
  | .bl _ => Nat.le_refl _
  | .int _ => Nat.le_refl _
  | .str _ => Nat.le_refl _
  | .tup xs => by
    show PyData.depthAll (toDL xs) + 1 ≤ depL xs + 1
    exact Nat.succ_le_succ (depL_of xs)
  | .lst xs => by
    show PyData.depthAll (toDL xs) + 1 ≤ depL xs + 1
    exact Nat.succ_le_succ (depL_of xs)
  | .scr _ => Nat.le_refl _
  | .obj _ _ _ => Nat.le_refl _
  | .ref _ => Nat.le_refl _
  | .fn _ => Nat.le_refl _
  | .exv _ _ _ => Nat.le_refl _
theorem depL_of : ∀ xs : List Val, PyData.depthAll (toDL xs) ≤ depL xs
  | [] => Nat.le_refl _
  | x :: xs => by
    show max x.toD.depth (PyData.depthAll (toDL xs)) ≤ max x.dep (depL xs)
    have a := dep_of x
    have b := depL_of xs
    omega
end
theorem shaped_of {x : Val} (h : x.dat = true) (hd : x.dep ≤ 60) : SeqAt.shaped x.toD = true := by
  unfold SeqAt.shaped
  rw [lay_of x h]
  have := dep_of x
  exact decide_eq_true (by omega)
section
variable {W : Wd} {ph : List Addr} {H : Hp} {m : Store}
mutual
theorem dp_of : ∀ (x : Val) {v : V}, VR W ph H x v → x.dat = true → Dp W.K H v x.toD
  | .non, _, h, _ => by cases h; exact .non
  | .bl b, _, h, _ => by cases h; exact .bl b
  | .int i, _, h, _ => by cases h; exact .int i
  | .str x, _, h, _ => by cases h; exact .str x
  | .tup xs, _, h, q => by
    cases h with
    | tup h r => exact .tup h (dpL_of xs r q)
  | .lst xs, _, h, q => by
    cases h with
    | lst h _ _ r => exact .lst (SqL.of h) (dpL_of xs r q)
theorem dpL_of : ∀ (xs : List Val) {vs : List V}, VRs W ph H xs vs → datL xs = true → DpAll W.K H vs (toDL xs)
  | [], _, h, _ => by cases h; exact .nil
  | x :: xs, _, h, q => by
    have q1 := Bool.and_eq_true_iff.mp (show (x.dat && datL xs) = true from q)
    cases h with
    | cons h r => exact .cons (dp_of x h q1.1) (dpL_of xs r q1.2)
end

theorem dpL_map {f : Val → Val} (hf : ∀ (x : Val) (v : V), VR W ph H x v → (f x).dat = true → Dp W.K H v (f x).toD) : ∀ {xs : List Val} {vs : List V}, VRs W ph H xs vs → datL (xs.map f) = true → DpAll W.K H vs (toDL (xs.map f))
  | _, _, .nil, _ => .nil
  | x :: xs, _, .cons h r, q => by
    have q1 := Bool.and_eq_true_iff.mp (show ((f x).dat && datL (xs.map f)) = true from q)
    exact .cons (hf x _ h q1.1) (dpL_map hf r q1.2)
theorem fix1_dp (hr : Rep W ph m H) : ∀ (d : Nat) (x : Val) (v : V), VR W ph H x v → (fix1 m d x).dat = true → Dp W.K H v (fix1 m d x).toD
  | 0, x, v, h, q => by
    have e : fix1 m 0 x = x := by cases x <;> rfl
    rw [e] at q ⊢
    exact dp_of x h q
  | d + 1, .non, v, h, q => dp_of .non h q
  | d + 1, .bl b, v, h, q => dp_of (.bl b) h q
  | d + 1, .int i, v, h, q => dp_of (.int i) h q
  | d + 1, .str x, v, h, q => dp_of (.str x) h q
  | d + 1, .tup xs, v, h, q => by
    cases h with
    | tup h r => exact .tup h (dpL_map (fix1_dp hr d) r q)
  | d + 1, .lst xs, v, h, q => by
    cases h with
    | lst h _ _ r => exact .lst (SqL.of h) (dpL_map (fix1_dp hr d) r q)
  | d + 1, .ref n, v, h, q => by
    cases h with
    | ref hn =>
      cases hc : m[n]? with
      | none =>
        have e : fix1 m (d + 1) (.ref n) = .ref n := by
          unfold fix1
          rw [hc]
        rw [e] at q
        cases q
      | some c =>
        cases c with
        | ins c ks xs =>
          have e : fix1 m (d + 1) (.ref n) = .ref n := by
            unfold fix1
            rw [hc]
          rw [e] at q
          cases q
        | dic ks xs =>
          have e : fix1 m (d + 1) (.ref n) = .ref n := by
            unfold fix1
            rw [hc]
          rw [e] at q
          cases q
        | lst xs =>
          have e : fix1 m (d + 1) (.ref n) = .lst (xs.map (fix1 m d)) := by
            unfold fix1
            rw [hc]
          rw [e] at q ⊢
          obtain ⟨vs, e1, r⟩ := hr.cell n _ _ hn hc
          exact .lst (SqL.of e1) (dpL_map (fix1_dp hr d) r q)
theorem look_dp (hr : Rep W ph m H) {x y : Val} {v : V} (h : VR W ph H x v) (e : look m x = some y) : y.dat = true ∧ Dp W.K H v y.toD := by
  unfold look at e
  split at e
  · cases e
    rename_i q
    exact ⟨q, dp_of _ h q⟩
  · simp only at e
    split at e
    · cases e
      rename_i q
      exact ⟨q, fix1_dp hr 6 _ _ h q⟩
    · cases e
theorem asM_at (hr : Rep W ph m H) {x : Val} {v : V} {xs : List Val} (h : VR W ph H x v) (e : asM m x = some xs) : ∃ a vs, v = .ref a ∧ H a = some (.lst vs) ∧ VRs W ph H xs vs := by
  unfold asM at e
  split at e
  · cases e
    cases h with
    | lst h _ _ r => exact ⟨_, _, rfl, h, r⟩
  · split at e
    · cases e
      rename_i hc
      cases h with
      | ref hn =>
        obtain ⟨vs, e1, r⟩ := hr.cell _ _ _ hn hc
        exact ⟨_, vs, rfl, e1, r⟩
    · cases e
  · cases e
theorem asL_at (hr : Rep W ph m H) {x : Val} {v : V} {xs : List Val} (h : VR W ph H x v) (e : asL m x = some xs) : ∃ a vs, v = .ref a ∧ SqL W.K H a vs ∧ VRs W ph H xs vs := by
  unfold asL at e
  split at e
  · cases e
    cases h with
    | lst h _ _ r => exact ⟨_, _, rfl, SqL.of h, r⟩
  · cases e
    cases h with
    | scr h r => exact ⟨_, _, rfl, h.sq, r⟩
  · split at e
    · cases e
      rename_i hc
      cases h with
      | ref hn =>
        obtain ⟨vs, e1, r⟩ := hr.cell _ _ _ hn hc
        exact ⟨_, vs, rfl, SqL.of e1, r⟩
    · cases e
  · cases e
theorem asS_at (hr : Rep W ph m H) {x : Val} {v : V} {xs : List Val} (h : VR W ph H x v) (e : asS m x = some xs) : ∃ a vs, v = .ref a ∧ (SqL W.K H a vs ∨ SqT W.K H a vs) ∧ VRs W ph H xs vs := by
  unfold asS at e
  split at e
  · cases e
    cases h with
    | tup h r => exact ⟨_, _, rfl, .inr h, r⟩
  · obtain ⟨a, vs, h1, h2, h3⟩ := asL_at hr h e
    exact ⟨a, vs, h1, .inl h2, h3⟩
end

/-! ### operators -/
def rBin (W : Wd) (o : Operator) : R2 := fun x y H Q => ∃ ph m a b z, Rep W ph m H ∧ VR W ph H a x ∧ VR W ph H b y ∧ binV m o a b = some z ∧ QV W Q z m ph H
section
variable {W : Wd} {X : Cx}
theorem op_bin (eK : X.K = W.K) (o : Operator) : OpR X (binaryOp o) (rBin W o) := by
  intro pins s σ H x y v u Q I rx ry ⟨ph, m, a, b, z, hr, ha, hb, e, q⟩
  unfold binV at e
  split at e
  · cases ha; cases hb; cases e
    exact op_add pins s σ H _ _ v u Q I rx ry ⟨_, _, rfl, rfl, q.at hr (.int _)⟩
  · cases ha; cases hb; cases e
    exact op_sub pins s σ H _ _ v u Q I rx ry ⟨_, _, rfl, rfl, q.at hr (.int _)⟩
  · cases ha; cases hb
    split at e
    · rename_i hc
      cases e
      unfold mulOk at hc
      rw [Bool.or_eq_true, Bool.or_eq_true] at hc
      rcases hc with hc | hc | hc
      · have hc := of_decide_eq_true hc
        exact op_mulW pins s σ H _ _ v u Q I rx ry ⟨_, _, rfl, rfl, hc, q.at hr (.int _)⟩
      · have hc := of_decide_eq_true hc
        exact op_mul pins s σ H _ _ v u Q I rx ry ⟨_, _, rfl, rfl, (.inl (by omega)), q.at hr (.int _)⟩
      · have hc := of_decide_eq_true hc
        exact op_mul pins s σ H _ _ v u Q I rx ry ⟨_, _, rfl, rfl, (.inr (by omega)), q.at hr (.int _)⟩
    · cases e
  · cases ha; cases hb
    split at e
    · rename_i hc
      cases e
      exact op_fdivN pins s σ H _ _ v u Q I rx ry ⟨_, _, rfl, rfl, hc, q.at hr (.int _)⟩
    · split at e
      · rename_i hc
        cases e
        exact op_fdivW pins s σ H _ _ v u Q I rx ry ⟨_, _, rfl, rfl, hc, q.at hr (.int _)⟩
      · cases e
  · cases ha; cases hb
    split at e
    · rename_i hc
      cases e
      exact op_modN pins s σ H _ _ v u Q I rx ry ⟨_, _, rfl, rfl, hc, q.at hr (.int _)⟩
    · cases e
  · cases ha; cases hb
    split at e
    · rename_i hc
      cases e
      unfold powOk at hc
      obtain ⟨h1, h2⟩ := ba hc
      obtain ⟨h2, h3⟩ := ba h2
      exact op_pow pins s σ H _ _ v u Q I rx ry ⟨_, _, rfl, rfl, ⟨of_decide_eq_true h1, of_decide_eq_true h2, of_decide_eq_true h3⟩, q.at hr (.int _)⟩
    · cases e
  · cases ha; cases hb
    split at e
    · rename_i hc
      cases e
      unfold powOk at hc
      obtain ⟨h1, h2⟩ := ba hc
      obtain ⟨h2, h3⟩ := ba h2
      exact op_shl pins s σ H _ _ v u Q I rx ry ⟨_, _, rfl, rfl, ⟨of_decide_eq_true h1, of_decide_eq_true h2, of_decide_eq_true h3⟩, q.at hr (.int _)⟩
    · cases e
  · cases ha; cases hb
    split at e
    · rename_i hc
      cases e
      exact op_shr pins s σ H _ _ v u Q I rx ry ⟨_, _, rfl, rfl, hc, q.at hr (.int _)⟩
    · cases e
  · cases ha; cases hb; cases e
    exact op_and pins s σ H _ _ v u Q I rx ry ⟨_, _, rfl, rfl, q.at hr (.int _)⟩
  · cases ha; cases hb; cases e
    exact op_or pins s σ H _ _ v u Q I rx ry ⟨_, _, rfl, rfl, q.at hr (.int _)⟩
  · cases ha; cases hb; cases e
    exact op_xor pins s σ H _ _ v u Q I rx ry ⟨_, _, rfl, rfl, q.at hr (.int _)⟩
  · cases ha; cases hb
    split at e
    · rename_i hc
      cases e
      exact op_add_str pins s σ H _ _ v u Q I rx ry ⟨_, _, rfl, rfl, hc, q.at hr (.str _)⟩
    · cases e
  · rename_i xs ys
    cases ha with
    | tup h1 r1 =>
      cases hb with
      | tup h2 r2 =>
        split at e
        · rename_i hc
          cases e
          rw [r1.length, r2.length] at hc
          refine op_catA pins s σ H _ _ v u Q I rx ry ⟨_, _, _, _, rfl, rfl, eK ▸ h1, eK ▸ h2, hc, fun e0 => ?_, fun _ e0 => ?_, fun _ _ p hp => ?_⟩
          · subst e0
            cases r1
            exact q.at hr (.tup h2 r2)
          · subst e0
            cases r2
            rw [List.append_nil] at q
            exact q.at hr (.tup h1 r1)
          · exact q.new hr (fun p hp => .tup (.inl (.inl upd_same)) ((r1.append r2).grow (Grow.fresh hp))) p hp
        · cases e
  · rename_i xs k
    cases ha with
    | tup h1 r1 =>
      cases hb with
      | int k =>
        split at e
        · rename_i hc
          cases e
          obtain ⟨c1, c2, c3, c4⟩ := hc
          rw [r1.length] at c4
          refine op_repT pins s σ H _ _ v u Q I rx ry ⟨_, _, _, rfl, rfl, eK ▸ h1, (fun e0 => ?_), c2, c3, c4, fun p hp => ?_⟩
          · subst e0
            cases r1
            exact c1 rfl
          · exact q.new hr (fun p hp => .tup (.inl (.inl upd_same)) ((r1.rep _).grow (Grow.fresh hp))) p hp
        · split at e
          · rename_i hc
            cases e
            obtain ⟨c1, rfl⟩ := hc
            exact op_rep1 pins s σ H _ _ v u Q I rx ry ⟨_, _, rfl, rfl, eK ▸ h1, q.at hr (.tup h1 r1)⟩
          · split at e
            · rename_i hc
              cases e
              obtain ⟨c1, rfl⟩ := hc
              refine op_rep0 pins s σ H _ _ v u Q I rx ry ⟨_, _, rfl, rfl, eK ▸ h1, (fun e0 => ?_), fun p hp => ?_⟩
              · subst e0
                cases r1
                exact c1 rfl
              · exact q.new hr (fun p hp => .tup (.inl (.inl upd_same)) .nil) p hp
            · cases e
  · rename_i xs k _
    split at e
    · rename_i hm
      obtain ⟨l, vs, rfl, h1, r1⟩ := asM_at hr ha hm
      cases hb with
      | int k =>
        split at e
        · rename_i hc
          cases e
          rw [r1.length] at hc
          refine op_rep pins s σ H _ _ v u Q I rx ry ⟨_, _, _, rfl, rfl, h1, hc.1, hc.2.1, hc.2.2, fun p hp => ?_⟩
          exact q.new hr (fun p hp => .lst upd_same (hr.notin hp) (hr.nohd hp) ((r1.rep _).grow (Grow.fresh hp))) p hp
        · cases e
    · cases e
  · split at e
    · rename_i hm1 hm2
      obtain ⟨l1, vs1, rfl, h1, r1⟩ := asM_at hr ha hm1
      obtain ⟨l2, vs2, rfl, h2, r2⟩ := asM_at hr hb hm2
      split at e
      · rename_i hc
        cases e
        rw [r1.length, r2.length] at hc
        refine op_cat pins s σ H _ _ v u Q I rx ry ⟨_, _, _, _, rfl, rfl, h1, h2, hc, fun p hp => ?_⟩
        exact q.new hr (fun p hp => .lst upd_same (hr.notin hp) (hr.nohd hp) ((r1.append r2).grow (Grow.fresh hp))) p hp
      · cases e
    · cases e
  · cases e

/-! ### comparisons -/
def rCmp (W : Wd) (o : CmpOp) : R2 := fun x y H Q => ∃ ph m a b z, Rep W ph m H ∧ VR W ph H a x ∧ VR W ph H b y ∧ cmpV m o a b = some z ∧ QV W Q (.bl z) m ph H
theorem intsOf_vs {ph : List Addr} {H : Hp} : ∀ {xs : List Val} {ns : List Int} {vs : List V}, VRs W ph H xs vs → intsOf xs = some ns → vs = ns.map V.int
  | [], _, _, r, e => by cases r; cases e; rfl
  | .int i :: xs, ns, _, .cons h r, e => by
    cases h
    cases q : intsOf xs with
    | none =>
      have e' : (intsOf xs).map (i :: ·) = some ns := e
      rw [q] at e'
      cases e'
    | some ms =>
      have e' : (intsOf xs).map (i :: ·) = some ns := e
      rw [q] at e'
      cases e'
      rw [intsOf_vs r q]
      rfl
theorem any_toD (d : Val) : ∀ xs : List Val, ((toDL xs).any fun z => PyData.eqv z d.toD) = xs.any fun z => eqB z d
  | [] => rfl
  | x :: xs => by
    show ((PyData.eqv x.toD d.toD) || ((toDL xs).any fun z => PyData.eqv z d.toD)) = (eqB x d || xs.any fun z => eqB z d)
    rw [any_toD d xs]
    rfl
theorem eqv_dp {ph : List Addr} {m : Store} {H : Hp} {a b : Val} {x y : V} {z : Bool} (hr : Rep W ph m H) (ha : VR W ph H a x) (hb : VR W ph H b y) (e : eqvD m a b = some z) :
    ∃ d f, Dp W.K H x d ∧ Dp W.K H y f ∧ SeqAt.shaped d = true ∧ SeqAt.shaped f = true ∧ PyData.eqv d f = z := by
  unfold eqvD at e
  split at e
  · rename_i c d h1 h2
    split at e
    · rename_i hc
      cases e
      obtain ⟨q1, p1⟩ := look_dp hr ha h1
      obtain ⟨q2, p2⟩ := look_dp hr hb h2
      exact ⟨_, _, p1, p2, shaped_of q1 hc.1, shaped_of q2 hc.2, rfl⟩
    · cases e
  · cases e
theorem eqv_or {m : Store} {a b : Val} {z : Bool} (e : eqv m a b = some z) : (∃ x y, a = .str x ∧ b = .str y ∧ z = (x == y)) ∨ eqvD m a b = some z := by
  unfold eqv at e
  split at e
  · cases e; exact .inl ⟨_, _, rfl, rfl, rfl⟩
  · exact .inr e
theorem dec_str {x y : Str} : decide (V.str x = V.str y) = (x == y) := by
  rw [Bool.eq_iff_iff]
  simp
theorem op_in (eK : X.K = W.K) (hu : X.A.units + 65 < cLine) {pins : List (Addr × Obj)} {s : Shared} {σ : L2.St} {H : Hp} {x y : V} {v u : Value} {Q : VK} {ph : List Addr} {m : Store} {a b : Val} {z : Bool} (I : Inv X pins σ H s) (rx : RelV x v) (ry : RelV y u)
    (hr : Rep W ph m H) (ha : VR W ph H a x) (hb : VR W ph H b y) (e : inV m a b = some z) :
    (QV W Q (.bl z) m ph H → wpAny (model X.prog X.w) X.A (compareOp .In v u) (EP X pins σ Q) X.xe s) ∧ (QV W Q (.bl (!z)) m ph H → wpAny (model X.prog X.w) X.A (compareOp .NotIn v u) (EP X pins σ Q) X.xe s) := by
  unfold inV at e
  split at e
  · rename_i xs hxs
    split at e
    · rename_i c hc
      split at e
      · rename_i hd
        cases e
        obtain ⟨d1, d2⟩ := ba hd
        obtain ⟨d2, d3⟩ := ba d2
        have d2 := of_decide_eq_true d2
        have d3 := of_decide_eq_true d3
        obtain ⟨q1, p1⟩ := look_dp hr ha hc
        obtain ⟨l, vs, rfl, h1, r1⟩ := asS_at hr hb hxs
        have sd := shaped_of q1 d2
        have pl := dpL_of xs r1 d1
        have lay := layL_of xs d1
        rw [← eK] at h1 pl p1
        obtain ⟨as, r1'⟩ := Dp.reads I c.toD x v p1 rx
        rcases h1 with h1 | h1
        · obtain ⟨bs, r2⟩ := Dp.reads I (.list (toDL xs)) (.ref l) u (.lst h1 pl) ry
          exact ⟨fun q => SeqAt.in_list_reads r2 r1' lay (SeqAt.canLay_of_shaped sd) (room_in_shaped sd hu) ⟨.bl _, H, I, rfl, by rw [any_toD]; exact q.at hr (.bl _)⟩,
            fun q => SeqAt.notIn_list_reads r2 r1' lay (SeqAt.canLay_of_shaped sd) (room_in_shaped sd hu) ⟨.bl _, H, I, rfl, by rw [any_toD]; exact q.at hr (.bl _)⟩⟩
        · obtain ⟨bs, r2⟩ := Dp.reads I (.tuple (toDL xs)) (.ref l) u (.tup h1 pl) ry
          exact ⟨fun q => SeqAt.in_tuple_reads r2 r1' lay (SeqAt.canLay_of_shaped sd) (room_in_shaped sd hu) ⟨.bl _, H, I, rfl, by rw [any_toD]; exact q.at hr (.bl _)⟩,
            fun q => SeqAt.notIn_tuple_reads r2 r1' lay (SeqAt.canLay_of_shaped sd) (room_in_shaped sd hu) ⟨.bl _, H, I, rfl, by rw [any_toD]; exact q.at hr (.bl _)⟩⟩
      · cases e
    · cases e
  · split at e
    · cases e
      cases ha
      cases hb
      exact ⟨fun q => op_in_str pins s σ H _ _ v u Q I rx ry ⟨_, _, rfl, rfl, q.at hr (.bl _)⟩, fun q => op_notIn_str pins s σ H _ _ v u Q I rx ry ⟨_, _, rfl, rfl, q.at hr (.bl _)⟩⟩
    · cases e
theorem isNon_at {ph : List Addr} {H : Hp} {a : Val} {x : V} (h : VR W ph H a x) : isNonV a = decide (x = .non) := by
  cases h <;> rfl
theorem op_cmp (eK : X.K = W.K) (hu : X.A.units + 65 < cLine) (o : CmpOp) : OpR X (compareOp o) (rCmp W o) := by
  intro pins s σ H x y v u Q I rx ry ⟨ph, m, a, b, z, hr, ha, hb, e, q⟩
  unfold cmpV at e
  split at e
  · cases ha; cases hb; cases e
    exact op_lt pins s σ H _ _ v u Q I rx ry ⟨_, _, rfl, rfl, q.at hr (.bl _)⟩
  · cases ha; cases hb; cases e
    exact op_le pins s σ H _ _ v u Q I rx ry ⟨_, _, rfl, rfl, q.at hr (.bl _)⟩
  · cases ha; cases hb; cases e
    exact op_gt pins s σ H _ _ v u Q I rx ry ⟨_, _, rfl, rfl, q.at hr (.bl _)⟩
  · cases ha; cases hb; cases e
    exact op_ge pins s σ H _ _ v u Q I rx ry ⟨_, _, rfl, rfl, q.at hr (.bl _)⟩
  · split at e
    · rename_i h1 h2
      cases e
      cases ha with
      | tup t1 r1 =>
        cases hb with
        | tup t2 r2 =>
          have e1 := intsOf_vs r1 h1
          have e2 := intsOf_vs r2 h2
          subst e1 e2
          exact op_ltT (by omega) pins s σ H _ _ v u Q I rx ry ⟨_, _, _, _, rfl, rfl, eK ▸ t1, eK ▸ t2, q.at hr (.bl _)⟩
    · cases e
  · unfold leT2 at e
    split at e
    · rename_i a b c d
      cases e
      cases ha with
      | tup t1 r1 =>
        cases hb with
        | tup t2 r2 =>
          have e1 := intsOf_vs r1 (ns := [a, b]) rfl
          have e2 := intsOf_vs r2 (ns := [c, d]) rfl
          subst e1 e2
          have z : Ob.lexAt (fun j => decide ([a, b].getD j 0 = [c, d].getD j 0)) (fun j => decide ([a, b].getD j 0 ≤ [c, d].getD j 0)) (decide ([a, b].length ≤ [c, d].length)) 0 (min [a, b].length [c, d].length) = (if a = c then decide (b ≤ d) else decide (a ≤ c)) := by
            show (if decide (a = c) = true then (if decide (b = d) = true then true else decide (b ≤ d)) else decide (a ≤ c)) = _
            by_cases h1 : a = c
            · by_cases h2 : b = d
              · simp [h1, h2]
              · simp [h1, h2]
            · simp [h1]
          exact op_leT (by omega) pins s σ H _ _ v u Q I rx ry ⟨_, _, [a, b], [c, d], rfl, rfl, eK ▸ t1, eK ▸ t2, by rw [z]; exact q.at hr (.bl _)⟩
    · cases e
  · rcases eqv_or e with ⟨x1, y1, rfl, rfl, rfl⟩ | e
    · cases ha; cases hb
      exact op_eq pins s σ H _ _ v u Q I rx ry ⟨rfl, by rw [dec_str]; exact q.at hr (.bl _)⟩
    obtain ⟨d, f, p1, p2, s1, s2, e3⟩ := eqv_dp hr ha hb e
    exact op_eqD (by omega) pins s σ H _ _ v u Q I rx ry ⟨d, f, eK ▸ p1, eK ▸ p2, s1, s2, by rw [e3]; exact q.at hr (.bl _)⟩
  · cases h : eqv m a b with
    | none => rw [h] at e; cases e
    | some k =>
      rw [h] at e
      cases e
      rcases eqv_or h with ⟨x1, y1, rfl, rfl, rfl⟩ | h
      · cases ha; cases hb
        exact op_ne pins s σ H _ _ v u Q I rx ry ⟨rfl, by rw [dec_str]; exact q.at hr (.bl _)⟩
      obtain ⟨d, f, p1, p2, s1, s2, e3⟩ := eqv_dp hr ha hb h
      exact op_neD (by omega) pins s σ H _ _ v u Q I rx ry ⟨d, f, eK ▸ p1, eK ▸ p2, s1, s2, by rw [e3]; exact q.at hr (.bl _)⟩
  · cases hb
    cases e
    exact op_isN pins s σ H _ _ v u Q I rx ry ⟨rfl, by rw [← isNon_at ha]; exact q.at hr (.bl _)⟩
  · cases hb
    cases e
    exact op_notN pins s σ H _ _ v u Q I rx ry ⟨rfl, by rw [← isNon_at ha]; exact q.at hr (.bl _)⟩
  · cases ha; cases hb; cases e
    rename_i p r
    exact op_is_bl pins s σ H _ _ v u Q I rx ry ⟨_, _, rfl, rfl, by rw [show decide (p = r) = (p == r) by cases p <;> cases r <;> rfl]; exact q.at hr (.bl _)⟩
  · cases ha; cases hb; cases e
    rename_i p r
    exact op_isnot_bl pins s σ H _ _ v u Q I rx ry ⟨_, _, rfl, rfl, by rw [show decide (p = r) = (p == r) by cases p <;> cases r <;> rfl]; exact q.at hr (.bl _)⟩
  · exact (op_in eK hu I rx ry hr ha hb e).1 q
  · cases h : inV m a b with
    | none => rw [h] at e; cases e
    | some k =>
      rw [h] at e
      cases e
      exact (op_in eK hu I rx ry hr ha hb h).2 q
  · cases e

/-! ### places, parts, truth -/
def rIdx (W : Wd) : R2 := fun x y H Q => ∃ ph m a b z, Rep W ph m H ∧ VR W ph H a x ∧ VR W ph H b y ∧ idxV m a b = some z ∧ QV W Q z m ph H
theorem atI_vr {ph : List Addr} {H : Hp} {xs : List Val} {vs : List V} {i : Int} {z : Val} (r : VRs W ph H xs vs) (h : atI xs i = some z) : ∃ v, atI vs i = some v ∧ VR W ph H z v := by
  unfold atI at h ⊢
  rw [← r.length]
  cases q : ixN xs.length i with
  | none => rw [q] at h; cases h
  | some j =>
    rw [q] at h
    exact r.get (show xs[j]? = some z from h)
theorem ix_any (eK : X.K = W.K) : IxR X (rIdx W) := by
  intro value slice pins s σ H x y v u Q I rx ry ⟨ph, m, a, b, z, hr, ha, hb, e, q⟩ hs
  unfold idxV at e
  split at e
  · cases hb
    split at e
    · rename_i h1
      obtain ⟨p, vs, rfl, h2, r⟩ := asS_at hr ha h1
      obtain ⟨w, h3, h4⟩ := atI_vr r e
      rcases h2 with h2 | h2
      · exact ix_list value slice pins s σ H _ _ v u Q I rx ry ⟨_, _, _, _, rfl, rfl, eK ▸ h2, h3, q.at hr h4⟩ hs
      · exact ix_tup value slice pins s σ H _ _ v u Q I rx ry ⟨_, _, _, _, rfl, rfl, eK ▸ h2, h3, q.at hr h4⟩ hs
    · split at e
      · split at e
        · rename_i hz
          cases ha
          cases h3 : atI (_ : Str).cps.toList _ with
          | none => rw [h3] at e; cases e
          | some c =>
            rw [h3] at e
            cases e
            exact ix_str value slice pins s σ H _ _ v u Q I rx ry ⟨_, _, _, rfl, rfl, hz, h3, q.at hr (.str _)⟩ hs
        · cases e
      · cases e
  · cases e
def rSlc (W : Wd) : V → Option Int → Option Int → Hp → VK → Prop := fun x lo hi H Q => ∃ ph m a z, Rep W ph m H ∧ VR W ph H a x ∧ slcV m a lo hi = some z ∧ QV W Q z m ph H
theorem cut_vr {ph : List Addr} {H : Hp} {xs : List Val} {vs : List V} (r : VRs W ph H xs vs) (lo hi : Option Int) : VRs W ph H (cutL xs lo hi) (cutV vs lo hi) := by
  unfold cutL cutV
  rw [r.length]
  exact (r.drop _).take _
theorem cut_whole {ph : List Addr} {H : Hp} {xs : List Val} {vs : List V} (r : VRs W ph H xs vs) {lo hi : Option Int} (hw : HT.sIx vs.length 0 lo = 0 ∧ HT.sIx vs.length vs.length hi = vs.length) : cutL xs lo hi = xs := by
  unfold cutL
  rw [r.length, hw.1, hw.2, ← r.length]
  simp
theorem nat_ne0 (n : Nat) : (n != 0) = ((n : Int) != 0) := by
  cases n with
  | zero => rfl
  | succ n =>
    have h1 : (n + 1 != 0) = true := by simp
    have h2 : (((n + 1 : Nat) : Int) != 0) = true := by
      rw [bne_iff_ne]
      omega
    rw [h1, h2]
theorem sl_any (eK : X.K = W.K) : SlR X (rSlc W) := by
  intro pins s σ H x v vl vu lo hi sl Q I rx hs pl pu ⟨ph, m, a, z, hr, ha, e, q⟩
  unfold slcV at e
  split at e
  · cases e
    cases ha with
    | tup h1 r =>
      refine sl_tupA pins s σ H _ v vl vu lo hi sl Q I rx hs pl pu ⟨_, _, rfl, eK ▸ h1, fun hw => ?_, fun hw p hp => ?_⟩
      · rw [cut_whole r hw] at q
        exact q.at hr (.tup h1 r)
      · exact q.new hr (fun p hp => .tup (.inl (.inl upd_same)) ((cut_vr r lo hi).grow (Grow.fresh hp))) p hp
  · split at e
    · rename_i h1
      cases e
      obtain ⟨p, vs, rfl, h2, r⟩ := asL_at hr ha h1
      refine sl_list pins s σ H _ v vl vu lo hi sl Q I rx hs pl pu ⟨_, _, rfl, eK ▸ h2, fun p hp => ?_⟩
      exact q.new hr (fun p hp => .lst upd_same (hr.notin hp) (hr.nohd hp) ((cut_vr r lo hi).grow (Grow.fresh hp))) p hp
    · cases e
theorem empty_vr {ph : List Addr} {H : Hp} {xs : List Val} {vs : List V} (r : VRs W ph H xs vs) : (!xs.isEmpty) = !vs.isEmpty := by
  cases r <;> rfl
theorem tru_at {ph : List Addr} {m : Store} {H : Hp} {a : Val} {x : V} {b : Bool} (hr : Rep W ph m H) (ha : VR W ph H a x) (e : truth m a = some b) : TruV W.K x H b := by
  unfold truth at e
  split at e
  · cases ha; cases e; rfl
  · cases ha; cases e; rfl
  · cases ha; cases e; rfl
  · split at e
    · rename_i hz
      cases ha; cases e
      exact ⟨hz, nat_ne0 _⟩
    · cases e
  · cases e
    cases ha with
    | tup h1 r => exact .inr (.inl ⟨_, h1, empty_vr r⟩)
  · cases e
    cases ha with
    | lst h1 _ _ r => exact .inl ⟨_, SqL.of h1, empty_vr r⟩
  · cases e
    cases ha with
    | scr h1 r => exact .inl ⟨_, h1.sq, empty_vr r⟩
  · split at e
    · rename_i hc
      cases e
      cases ha with
      | ref hn =>
        obtain ⟨vs, e1, r⟩ := hr.cell _ _ _ hn hc
        exact .inl ⟨_, SqL.of e1, empty_vr r⟩
    · cases e
  · cases e
end
end Ev

set_option Elab.async false
set_option linter.all false
set_option maxRecDepth 100000
set_option autoImplicit false
/-! Ev: the cases of expressions. -/
namespace Ev
open PySem PySem.Spec PyProof.Rows L2

theorem star_of {e : PySem.Expr} {es : List PySem.Expr} {env : PySem.Env} (h : starB e = true) : starEach (e :: es) env = (false, eval e env) :: starEach es env := by
  cases e <;> first | rfl | cases h
theorem plain_of {pos : Pos} {env : PySem.Env} : ∀ {es : List PySem.Expr}, es.all starB = true → (backTo pos (starEach es env)).any (·.1) = false
  | [], _ => rfl
  | e :: es, h => by
    rw [List.all_cons] at h
    obtain ⟨h1, h2⟩ := ba h
    rw [star_of h1]
    show (false || (backTo pos (starEach es env)).any (·.1)) = false
    rw [plain_of h2]
    rfl
theorem base_of {o : PySem.Expr} {f : Str} {env : PySem.Env} (h : baseB o = true) : attributeBase o f env (eval o env) = eval o env := by
  unfold attributeBase
  split
  · cases h
  · rfl
theorem mark_of {op : CmpOp} {e : PySem.Expr} (h : setB e = true) : behindInMarks op e = false := by
  cases e <;> first | rfl | cases h
theorem plainIx_of {e : PySem.Expr} (h : slcB e = true) : PlainIx e := by
  intro o i
  cases e <;> first | rfl | cases h
section
variable {W : Wd} {xa : Xa} {call : Call} {N : List Str} {k : Nat} {sc : Scope} {hot : Bool} {X : Cx} {Wx : WX} {pos : Pos}
abbrev Pe (W : Wd) (xa : Xa) (call : Call) (Wx : WX) (X : Cx) (m : ME) (e : PySem.Expr) : Prop := PE X e (tEv W xa call m Wx)
abbrev Pt (W : Wd) (xa : Xa) (call : Call) (Wx : WX) (X : Cx) (m : ME) (e : PySem.Expr) : Prop := PT X e (tEvT W xa call m Wx)
abbrev Pa (W : Wd) (xa : Xa) (call : Call) (Wx : WX) (X : Cx) (m : MEs) (es : List PySem.Expr) : Prop := PA X es (tEvs W xa call m Wx)

theorem se_bin (g : Gd W call N k sc hot Wx X) {o : Operator} {a b : ME} {l r : PySem.Expr} (ha : Pe W xa call Wx X a l) (hb : Pe W xa call Wx X b r) : Pe W xa call Wx X (.bin o a b) (.BinOp l o r pos) := by
  refine PE.imp (pe_op (op_bin g.eK o) ha hb) fun σ H Q ⟨e, ph, s, hs, hr, q⟩ => ?_
  unfold ev at q
  refine tEv_of hs hr (PR.mo QV.mo) (PR.fst q) fun x s1 ph1 H1 v g1 r1 v1 hs1 q1 => tEv_of hs1 r1 (PR.mo QV.mo) (PR.fst q1) fun y s2 ph2 H2 w g2 r2 v2 hs2 q2 => ?_
  obtain ⟨z, e1, q3⟩ := PR.ofO q2
  exact ⟨ph2, s2, x, y, z, r2, v1.grow g2, v2, e1, q3⟩
theorem se_neg {a : ME} {l : PySem.Expr} (ha : Pe W xa call Wx X a l) : Pe W xa call Wx X (.neg a) (.UnaryOp .USub l pos) := by
  refine PE.imp (pe_un un_neg ha) fun σ H Q ⟨e, ph, s, hs, hr, q⟩ => ?_
  unfold ev at q
  refine tEv_of hs hr (PR.mo QV.mo) (PR.fst q) fun x s1 ph1 H1 v g1 r1 v1 hs1 q1 => ?_
  cases x <;> first | exact q1.elim | skip
  cases v1
  exact ⟨_, rfl, QV.at q1 r1 (.int _)⟩
theorem se_not (g : Gd W call N k sc hot Wx X) {a : ME} {l : PySem.Expr} (ha : Pe W xa call Wx X a l) : Pe W xa call Wx X (.nt a) (.UnaryOp .Not l pos) := by
  refine PE.imp (pe_notT ha) fun σ H Q ⟨e, ph, s, hs, hr, q⟩ => ?_
  unfold ev at q
  refine tEv_of hs hr (PR.mo QV.mo) (PR.fst q) fun x s1 ph1 H1 v g1 r1 v1 hs1 q1 => ?_
  obtain ⟨z, e1, q3⟩ := PR.ofO q1
  cases h : truth s1 x with
  | none => rw [h] at e1; cases e1
  | some c =>
    rw [h] at e1
    cases e1
    exact ⟨c, g.eK ▸ tru_at r1 v1 h, QV.at q3 r1 (.bl _)⟩
theorem st_gen (g : Gd W call N k sc hot Wx X) {a : ME} {l : PySem.Expr} (ha : Pe W xa call Wx X a l) (he : ∀ whole, isTrue l X.env whole = (do let v ← whole; standAt l.pos; holding [v] (truthy v))) : Pt W xa call Wx X a l := by
  refine PT.imp (pt_truth ha he) fun σ H Q ⟨e, ph, s, hs, hr, q⟩ => ?_
  unfold evT at q
  refine tEv_of hs hr (PR.mo QB.mo) (PR.fst q) fun x s1 ph1 H1 v g1 r1 v1 hs1 q1 => ?_
  obtain ⟨z, e1, q3⟩ := PR.ofO q1
  exact ⟨z, g.eK ▸ tru_at r1 v1 e1, q3 ph1 H1 .refl r1⟩
theorem evT_not {G : Prog} {a : ME} {e : Env} {s : Store} : evT G call (.nt a) e s = (evT G call a e s).bind fun b s1 => .ok (!b) s1 := by
  unfold evT
  rw [ev]
  cases ev G call a e s with
  | ok x m =>
    simp only [R.bind_ok]
    cases truth m x <;> rfl
  | ex c ks xs m => rfl
  | stk => rfl
theorem st_not {a : ME} {l : PySem.Expr} (ha : Pt W xa call Wx X a l) : Pt W xa call Wx X (.nt a) (.UnaryOp .Not l pos) := by
  refine PT.imp (pt_not ha) fun σ H Q ⟨e, ph, s, hs, hr, q⟩ => ?_
  rw [evT_not] at q
  exact tEvT_of hs hr (PR.mo QB.mo) (PR.fst q) fun x s1 ph1 H1 g1 r1 hs1 q1 => q1 ph1 H1 .refl r1
theorem se_cmp (g : Gd W call N k sc hot Wx X) {o : CmpOp} {a b : ME} {l r : PySem.Expr} (hm : setB r = true) (ha : Pe W xa call Wx X a l) (hb : Pe W xa call Wx X b r) : Pe W xa call Wx X (.cmp o a b) (.Compare l [o] [r] pos) := by
  refine PE.imp (pe_cmpR (op_cmp g.eK g.hu o) ha hb (mark_of hm)) fun σ H Q ⟨e, ph, s, hs, hr, q⟩ => ?_
  unfold ev at q
  refine tEv_of hs hr (PR.mo QV.mo) (PR.fst q) fun x s1 ph1 H1 v g1 r1 v1 hs1 q1 => tEv_of hs1 r1 (PR.mo QV.mo) (PR.fst q1) fun y s2 ph2 H2 w g2 r2 v2 hs2 q2 => ?_
  obtain ⟨z, e1, q3⟩ := PR.ofO q2
  cases h : cmpV s2 o x y with
  | none => rw [h] at e1; cases e1
  | some c =>
    rw [h] at e1
    cases e1
    exact ⟨ph2, s2, x, y, c, r2, v1.grow g2, v2, h, q3⟩
theorem st_cmp (g : Gd W call N k sc hot Wx X) {o : CmpOp} {a b : ME} {l r : PySem.Expr} (hm : setB r = true) (ha : Pe W xa call Wx X a l) (hb : Pe W xa call Wx X b r) : Pt W xa call Wx X (.cmp o a b) (.Compare l [o] [r] pos) := by
  refine PT.imp (pt_cmpR (op_cmp g.eK g.hu o) ha hb (mark_of hm)) fun σ H Q ⟨e, ph, s, hs, hr, q⟩ => ?_
  unfold evT at q
  unfold ev at q
  have q : PR W ph H (QB W Q) (fun c d H' => Wx c d σ H') ((ev W.G call a e s).bind fun x s1 => (ev W.G call b e s1).bind fun y s2 => R.ofO (cmpV s2 o x y) s2) := by
    cases h1 : ev W.G call a e s with
    | stk => rw [h1] at q; exact q
    | ex c ks xs m => rw [h1] at q; exact q
    | ok x s1 =>
      rw [h1] at q
      cases h2 : ev W.G call b e s1 with
      | stk => rw [R.bind_ok, h2]; rw [R.bind_ok, h2] at q; exact q
      | ex c ks xs m => rw [R.bind_ok, h2]; rw [R.bind_ok, h2] at q; exact q
      | ok y s2 =>
        rw [R.bind_ok, h2, R.bind_ok]
        rw [R.bind_ok, h2, R.bind_ok] at q
        unfold cmpR at q
        cases h3 : cmpV s2 o x y with
        | none => rw [h3] at q; exact q
        | some c => rw [h3] at q; exact q
  refine tEv_of hs hr (PR.mo QB.mo) (PR.fst q) fun x s1 ph1 H1 v g1 r1 v1 hs1 q1 => tEv_of hs1 r1 (PR.mo QB.mo) (PR.fst q1) fun y s2 ph2 H2 w g2 r2 v2 hs2 q2 => ?_
  obtain ⟨z, e1, q3⟩ := PR.ofO q2
  exact ⟨ph2, s2, x, y, z, r2, v1.grow g2, v2, e1, fun ph3 H3 v3 g3 r3 v4 => by
    cases v4
    exact ⟨z, rfl, q3 ph3 H3 g3 r3⟩⟩
theorem se_and (g : Gd W call N k sc hot Wx X) {a b : ME} {x y : PySem.Expr} {rest : List PySem.Expr} (ha : Pe W xa call Wx X a x) (hb : Pe W xa call Wx X b (.BoolOp .And (y :: rest) pos)) : Pe W xa call Wx X (.and a b) (.BoolOp .And (x :: y :: rest) pos) := by
  refine PE.imp (pe_andT ha hb) fun σ H Q ⟨e, ph, s, hs, hr, q⟩ => ?_
  unfold ev at q
  refine tEv_of hs hr (PR.mo QV.mo) (PR.fst q) fun x s1 ph1 H1 v g1 r1 v1 hs1 q1 => ?_
  cases h : truth s1 x with
  | none => rw [h] at q1; exact q1.elim
  | some c =>
    rw [h] at q1
    refine ⟨c, g.eK ▸ tru_at r1 v1 h, ?_⟩
    cases c with
    | false => exact ite_ff (QV.at q1 r1 v1)
    | true => exact ite_tt ⟨e, ph1, s1, hs1, r1, q1⟩
theorem se_or (g : Gd W call N k sc hot Wx X) {a b : ME} {x y : PySem.Expr} {rest : List PySem.Expr} (ha : Pe W xa call Wx X a x) (hb : Pe W xa call Wx X b (.BoolOp .Or (y :: rest) pos)) : Pe W xa call Wx X (.or a b) (.BoolOp .Or (x :: y :: rest) pos) := by
  refine PE.imp (pe_orT ha hb) fun σ H Q ⟨e, ph, s, hs, hr, q⟩ => ?_
  unfold ev at q
  refine tEv_of hs hr (PR.mo QV.mo) (PR.fst q) fun x s1 ph1 H1 v g1 r1 v1 hs1 q1 => ?_
  cases h : truth s1 x with
  | none => rw [h] at q1; exact q1.elim
  | some c =>
    rw [h] at q1
    refine ⟨c, g.eK ▸ tru_at r1 v1 h, ?_⟩
    cases c with
    | true => exact ite_tt (QV.at q1 r1 v1)
    | false => exact ite_ff ⟨e, ph1, s1, hs1, r1, q1⟩
abbrev Pw (W : Wd) (xa : Xa) (call : Call) (Wx : WX) (X : Cx) (m : ME) (e : PySem.Expr) : Prop := PW X e (tEvT W xa call m Wx)
theorem sw_and {a b : ME} {x y : PySem.Expr} {rest : List PySem.Expr} (ha : Pt W xa call Wx X a x) (hb : Pw W xa call Wx X b (.BoolOp .And (y :: rest) pos)) : Pw W xa call Wx X (.and a b) (.BoolOp .And (x :: y :: rest) pos) := by
  refine PW.imp (pw_and ha hb) fun σ H Q ⟨e, ph, s, hs, hr, q⟩ => ?_
  have q : PR W ph H (QB W Q) (fun c d H' => Wx c d σ H') ((evT W.G call a e s).bind fun c s1 => if c then evT W.G call b e s1 else .ok false s1) := by
    unfold evT at q ⊢
    unfold ev at q
    cases h1 : ev W.G call a e s with
    | stk => rw [h1] at q; exact q
    | ex c ks xs m => rw [h1] at q; exact q
    | ok x s1 =>
      rw [h1] at q
      rw [R.bind_ok] at q ⊢
      cases h : truth s1 x with
      | none => simp only [h] at q; exact q
      | some c =>
        simp only [h] at q
        cases c with
        | true => exact q
        | false =>
          rw [R.bind_ok, h] at q
          exact q
  refine tEvT_of hs hr (PR.mo QB.mo) (PR.fst q) fun c s1 ph1 H1 g1 r1 hs1 q1 => ?_
  cases c with
  | true => exact ite_tt ⟨e, ph1, s1, hs1, r1, q1⟩
  | false => exact ite_ff (q1 ph1 H1 .refl r1)
theorem sw_or {a b : ME} {x y : PySem.Expr} {rest : List PySem.Expr} (ha : Pt W xa call Wx X a x) (hb : Pw W xa call Wx X b (.BoolOp .Or (y :: rest) pos)) : Pw W xa call Wx X (.or a b) (.BoolOp .Or (x :: y :: rest) pos) := by
  refine PW.imp (pw_or ha hb) fun σ H Q ⟨e, ph, s, hs, hr, q⟩ => ?_
  have q : PR W ph H (QB W Q) (fun c d H' => Wx c d σ H') ((evT W.G call a e s).bind fun c s1 => if c then .ok true s1 else evT W.G call b e s1) := by
    unfold evT at q ⊢
    unfold ev at q
    cases h1 : ev W.G call a e s with
    | stk => rw [h1] at q; exact q
    | ex c ks xs m => rw [h1] at q; exact q
    | ok x s1 =>
      rw [h1] at q
      rw [R.bind_ok] at q ⊢
      cases h : truth s1 x with
      | none => simp only [h] at q; exact q
      | some c =>
        simp only [h] at q
        cases c with
        | false => exact q
        | true =>
          rw [R.bind_ok, h] at q
          exact q
  refine tEvT_of hs hr (PR.mo QB.mo) (PR.fst q) fun c s1 ph1 H1 g1 r1 hs1 q1 => ?_
  cases c with
  | false => exact ite_ff ⟨e, ph1, s1, hs1, r1, q1⟩
  | true => exact ite_tt (q1 ph1 H1 .refl r1)
theorem se_ite {c a b : ME} {t x y : PySem.Expr} (hc : Pt W xa call Wx X c t) (ha : Pe W xa call Wx X a x) (hb : Pe W xa call Wx X b y) : Pe W xa call Wx X (.ite c a b) (.IfExp t x y pos) := by
  refine PE.imp (pe_ifExp hc ha hb) fun σ H Q ⟨e, ph, s, hs, hr, q⟩ => ?_
  have q : PR W ph H (QV W Q) (fun c d H' => Wx c d σ H') ((evT W.G call c e s).bind fun k s1 => if k then ev W.G call a e s1 else ev W.G call b e s1) := by
    unfold evT
    unfold ev at q
    cases h1 : ev W.G call c e s with
    | stk => rw [h1] at q; exact q
    | ex c ks xs m => rw [h1] at q; exact q
    | ok x s1 =>
      rw [h1] at q
      rw [R.bind_ok] at q ⊢
      cases h : truth s1 x with
      | none => simp only [h] at q; exact q
      | some c =>
        simp only [h] at q
        cases c with
        | false => exact q
        | true => exact q
  refine tEvT_of hs hr (PR.mo QV.mo) (PR.fst q) fun c s1 ph1 H1 g1 r1 hs1 q1 => ?_
  cases c with
  | true => exact ite_tt ⟨e, ph1, s1, hs1, r1, q1⟩
  | false => exact ite_ff ⟨e, ph1, s1, hs1, r1, q1⟩
theorem ses_nil : Pa W xa call Wx X .nil [] := by
  refine PA.imp pa_nil fun σ H Q ⟨e, ph, s, hs, hr, q⟩ => ?_
  unfold evs at q
  exact q ph H [] .refl hr .nil
theorem ses_cons {a : ME} {r : MEs} {x : PySem.Expr} {xs : List PySem.Expr} (hx : starB x = true) (ha : Pe W xa call Wx X a x) (hr : Pa W xa call Wx X r xs) : Pa W xa call Wx X (.cons a r) (x :: xs) := by
  refine PA.imp (pa_cons ha hr (star_of hx)) fun σ H Q ⟨e, ph, s, hs, hr, q⟩ => ?_
  unfold evs at q
  refine tEv_of hs hr (PR.mo QVs.mo) (PR.fst q) fun x s1 ph1 H1 v g1 r1 v1 hs1 q1 => tEvs_of hs1 r1 (PR.mo QVs.mo) (PR.fst q1) fun y s2 ph2 H2 w g2 r2 v2 hs2 q2 => ?_
  exact q2 ph2 H2 (v :: w) .refl r2 (.cons (v1.grow g2) v2)
theorem se_tup {es : MEs} {xs : List PySem.Expr} {kk : Nat} (h : Pa W xa call Wx X es xs) : Pe W xa call Wx X (.tup es) (.Tuple xs kk pos) := by
  refine PE.imp (pe_tup h) fun σ H Q ⟨e, ph, s, hs, hr, q⟩ => ?_
  unfold ev at q
  refine tEvs_of hs hr (PR.mo QV.mo) (PR.fst q) fun ys s1 ph1 H1 vs g1 r1 v1 hs1 q1 => ?_
  by_cases hl : ys.length ≤ szL
  · simp only [hl, if_true] at q1
    rw [v1.length] at hl
    exact ⟨hl, QV.new q1 r1 fun p hp => .tup (.inl (.inl upd_same)) (v1.grow (Grow.fresh hp))⟩
  · simp only [hl, if_false] at q1
    exact q1.elim
theorem put_ok {m : Bool} {ys : List Val} {vs : List V} {s : Store} {ph : List Addr} {H : Hp} {Q : VK} {E : XK} (hr : Rep W ph s H) (v1 : VRs W ph H ys vs) (q : PR W ph H (QV W Q) E (putL m ys s)) : ∀ p, H p = none → Q (.ref p) (upd H p (.lst vs)) := fun p hp => by
  unfold putL at q
  cases m with
  | false => exact QV.new (show QV W Q (.lst ys) s ph H from q) hr (fun p hp => .lst upd_same (hr.notin hp) (hr.nohd hp) (v1.grow (Grow.fresh hp))) p hp
  | true =>
    have q : QV W Q (.ref s.length) (s ++ [.lst ys]) ph H := q
    refine q (ph ++ [p]) (upd H p (.lst vs)) (.ref p) (Grow.cell hp) (hr.push hp ⟨vs, upd_same, v1.grow (Grow.cell hp)⟩) (.ref ?_)
    rw [← hr.len, List.getElem?_append_right (Nat.le_refl _)]
    simp
theorem se_lst {m : Bool} {es : MEs} {xs : List PySem.Expr} (h : Pa W xa call Wx X es xs) : Pe W xa call Wx X (.lst m es) (.List xs pos) := by
  refine PE.imp (pe_lst h) fun σ H Q ⟨e, ph, s, hs, hr, q⟩ => ?_
  unfold ev at q
  refine tEvs_of hs hr (PR.mo QV.mo) (PR.fst q) fun ys s1 ph1 H1 vs g1 r1 v1 hs1 q1 => ?_
  unfold newL at q1
  by_cases hl : ys.length ≤ szL
  · simp only [hl, if_true] at q1
    rw [v1.length] at hl
    exact ⟨hl, put_ok r1 v1 q1⟩
  · simp only [hl, if_false] at q1
    exact q1.elim
theorem se_idx (g : Gd W call N k sc hot Wx X) {a b : ME} {l r : PySem.Expr} (hp : slcB r = true) (ha : Pe W xa call Wx X a l) (hb : Pe W xa call Wx X b r) : Pe W xa call Wx X (.idx a b) (.Subscript l r pos) := by
  refine PE.imp (pe_ix (ix_any g.eK) ha hb (plainIx_of hp)) fun σ H Q ⟨e, ph, s, hs, hr, q⟩ => ?_
  unfold ev at q
  refine tEv_of hs hr (PR.mo QV.mo) (PR.fst q) fun x s1 ph1 H1 v g1 r1 v1 hs1 q1 => tEv_of hs1 r1 (PR.mo QV.mo) (PR.fst q1) fun y s2 ph2 H2 w g2 r2 v2 hs2 q2 => ?_
  obtain ⟨z, e1, q3⟩ := PR.ofO q2
  exact ⟨ph2, s2, x, y, z, r2, v1.grow g2, v2, e1, q3⟩
theorem se_rvs (g : Gd W call N k sc hot Wx X) {a : ME} {l : PySem.Expr} {kk : Nat} {p1 p2 p3 : Pos} (ha : Pe W xa call Wx X a l) : Pe W xa call Wx X (.rvs a) (.Subscript l (.Slice none none (some (.UnaryOp .USub (.Constant (.int 1) kk p1) p2)) p3) pos) := by
  refine PE.imp (pe_revL ha) fun σ H Q ⟨e, ph, s, hs, hr, q⟩ => ?_
  unfold ev at q
  refine tEv_of hs hr (PR.mo QV.mo) (PR.fst q) fun x s1 ph1 H1 v g1 r1 v1 hs1 q1 => ?_
  obtain ⟨z, e1, q3⟩ := PR.ofO q1
  unfold rvsV at e1
  split at e1
  · cases e1
  · rename_i xs h1
    cases e1
    obtain ⟨p, vs, rfl, h2, r⟩ := asL_at r1 v1 h1
    exact ⟨p, vs, rfl, g.eK ▸ h2, QV.new q3 r1 fun p hp => .lst upd_same (r1.notin hp) (r1.nohd hp) (r.reverse.grow (Grow.fresh hp))⟩
  · cases e1
end
end Ev

set_option Elab.async false
set_option linter.all false
set_option maxRecDepth 100000
set_option autoImplicit false
/-! Ev: the cases of expressions: parts, chains, fields, calls. -/
namespace Ev
open PySem PySem.Spec PyProof.Rows L2

def QO (W : Wd) {α : Type} (Q : α → Hp → Prop) : α → Store → List Addr → Hp → Prop := fun b m ph H => ∀ ph' H', Grow ph H ph' H' → Rep W ph' m H' → Q b H'
theorem QO.mo {W : Wd} {α : Type} {Q : α → Hp → Prop} : Mo (QO W Q) := fun _ _ _ _ _ _ g h ph2 H2 g2 r => h ph2 H2 (g.trans g2) r
def tPo (W : Wd) (xa : Xa) (call : Call) (m : MEs) (Wx : WX) : TO := fun σ H Q => ∃ (e : Env) (ph : List Addr) (s : Store), RS W xa ph H e σ ∧ Rep W ph s H ∧ PR W ph H (QO W Q) (fun c d H' => Wx c d σ H') ((evs W.G call m e s).bind fun l s2 => R.ofO (intO l) s2)
section
variable {W : Wd} {xa : Xa} {call : Call} {N : List Str} {k : Nat} {sc : Scope} {hot : Bool} {X : Cx} {Wx : WX} {pos : Pos}
theorem po_nil : PO X none (tPo W xa call .nil Wx) := by
  refine ⟨fun pins s σ H Q I ⟨e, ph, m, hs, hr, q⟩ => po_none.run pins s σ H Q I ?_⟩
  unfold evs at q
  exact q ph H .refl hr
theorem po_one {a : ME} {x : PySem.Expr} (ha : Pe W xa call Wx X a x) : PO X (some x) (tPo W xa call (.cons a .nil) Wx) := by
  refine ⟨fun pins s σ H Q I ⟨e, ph, m, hs, hr, q⟩ => (po_some ha).run pins s σ H Q I ?_⟩
  have q : PR W ph H (QO W Q) (fun c d H' => Wx c d σ H') ((ev W.G call a e m).bind fun x s2 => R.ofO (intO [x]) s2) := by
    unfold evs at q
    cases h1 : ev W.G call a e m with
    | stk => rw [h1] at q; exact q
    | ex c ks xs m => rw [h1] at q; exact q
    | ok x s1 =>
      rw [h1] at q
      rw [R.bind_ok] at q ⊢
      unfold evs at q
      exact q
  refine tEv_of hs hr (PR.mo QO.mo) (PR.fst q) fun x s1 ph1 H1 v g1 r1 v1 hs1 q1 => ?_
  obtain ⟨z, e1, q3⟩ := PR.ofO q1
  cases x <;> first | cases e1 | skip
  cases v1
  exact ⟨_, rfl, q3 ph1 H1 .refl r1⟩
theorem se_slc (g : Gd W call N k sc hot Wx X) {a : ME} {lo hi : MEs} {x : PySem.Expr} {l h : Option PySem.Expr} {p2 : Pos} (ha : Pe W xa call Wx X a x) (hl : PO X l (tPo W xa call lo Wx)) (hh : PO X h (tPo W xa call hi Wx)) :
    Pe W xa call Wx X (.slc a lo hi) (.Subscript x (.Slice l h none p2) pos) := by
  refine PE.imp (pe_slice (sl_any g.eK) ha hl hh) fun σ H Q ⟨e, ph, s, hs, hr, q⟩ => ?_
  unfold ev at q
  refine tEv_of hs hr (PR.mo QV.mo) (PR.fst q) fun x s1 ph1 H1 v g1 r1 v1 hs1 q1 => ?_
  refine ⟨e, ph1, s1, hs1, r1, PR.imp (fun l s2 q2 ph2 H2 g2 r2 => ?_) (PR.fst q1)⟩
  have q2 := PR.grow QV.mo g2 q2
  have hs2 := hs1.grow r1 g2
  refine ⟨e, ph2, s2, hs2, r2, PR.imp (fun h s3 q3 ph3 H3 g3 r3 => ?_) (PR.fst q2)⟩
  have q3 := PR.grow QV.mo g3 q3
  obtain ⟨z, e1, q4⟩ := PR.ofO q3
  exact ⟨ph3, s3, x, z, r3, v1.grow (g2.trans g3), e1, q4⟩
theorem last_mark {o p : CmpOp} {b c : PySem.Expr} (h : setB c = true) : lastMarks [o, p] [b, c] = false := mark_of h
theorem ev_chn {G : Prog} {o p : CmpOp} {a b c : ME} {e : Env} {s : Store} : ev G call (.chn o p a b c) e s = (ev G call a e s).bind fun x s1 => (ev G call b e s1).bind fun y s2 => (R.ofO (cmpV s2 o x y) s2).bind fun k s3 =>
      if k then (ev G call c e s3).bind fun z s4 => R.ofO ((cmpV s4 p y z).map .bl) s4 else .ok (.bl false) s3 := by rw [ev]
theorem se_chn (g : Gd W call N k sc hot Wx X) {o p : CmpOp} {a b c : ME} {x y z : PySem.Expr} (hm : setB z = true) (ha : Pe W xa call Wx X a x) (hb : Pe W xa call Wx X b y) (hc : Pe W xa call Wx X c z) :
    Pe W xa call Wx X (.chn o p a b c) (.Compare x [o, p] [y, z] pos) := by
  refine PE.imp (pe_chain (op_cmp g.eK g.hu o) (op_cmp g.eK g.hu p) ha hb hc (last_mark hm)) fun σ H Q ⟨e, ph, s, hs, hr, q⟩ => ?_
  rw [ev_chn] at q
  refine tEv_of hs hr (PR.mo QV.mo) (PR.fst q) fun x s1 ph1 H1 v g1 r1 v1 hs1 q1 => tEv_of hs1 r1 (PR.mo QV.mo) (PR.fst q1) fun y s2 ph2 H2 w g2 r2 v2 hs2 q2 => ?_
  cases h : cmpV s2 o x y with
  | none => rw [h] at q2; exact q2.elim
  | some d =>
    rw [h] at q2
    refine ⟨ph2, s2, x, y, d, r2, v1.grow g2, v2, h, fun ph3 H3 v3 g3 r3 v4 => ?_⟩
    cases v4
    refine ⟨d, rfl, ?_⟩
    have q3 := PR.grow QV.mo g3 q2
    cases d with
    | false => exact ite_ff (QV.at (show QV W Q (.bl false) s2 ph3 H3 from q3) r3 (.bl _))
    | true =>
      refine ite_tt ?_
      have q3 : PR W ph3 H3 (QV W Q) (fun c d H' => Wx c d σ H') ((ev W.G call c e s2).bind fun z s4 => R.ofO ((cmpV s4 p y z).map .bl) s4) := q3
      refine tEv_of (hs2.grow r2 g3) r3 (PR.mo QV.mo) (PR.fst q3) fun z s4 ph4 H4 u g4 r4 v5 hs4 q4 => ?_
      obtain ⟨t, e1, q5⟩ := PR.ofO q4
      cases h : cmpV s4 p y z with
      | none => rw [h] at e1; cases e1
      | some d =>
        rw [h] at e1
        cases e1
        exact ⟨ph4, s4, y, z, d, r4, v2.grow (g3.trans g4), v5, h, q5⟩
theorem st_chn (g : Gd W call N k sc hot Wx X) {o p : CmpOp} {a b c : ME} {x y z : PySem.Expr} (hm : setB z = true) (ha : Pe W xa call Wx X a x) (hb : Pe W xa call Wx X b y) (hc : Pe W xa call Wx X c z) :
    Pt W xa call Wx X (.chn o p a b c) (.Compare x [o, p] [y, z] pos) := by
  refine PT.imp (pt_chain (op_cmp g.eK g.hu o) (op_cmp g.eK g.hu p) ha hb hc (last_mark hm)) fun σ H Q ⟨e, ph, s, hs, hr, q⟩ => ?_
  have q : PR W ph H (QB W Q) (fun c d H' => Wx c d σ H') ((ev W.G call a e s).bind fun x s1 => (ev W.G call b e s1).bind fun y s2 => (R.ofO (cmpV s2 o x y) s2).bind fun k s3 =>
      if k then (ev W.G call c e s3).bind fun z s4 => R.ofO (cmpV s4 p y z) s4 else .ok false s3) := by
    unfold evT at q
    rw [ev_chn] at q
    cases h1 : ev W.G call a e s with
    | stk => rw [h1] at q; exact q
    | ex c ks xs m => rw [h1] at q; exact q
    | ok x s1 =>
      rw [h1] at q
      rw [R.bind_ok] at q ⊢
      cases h2 : ev W.G call b e s1 with
      | stk => rw [h2] at q; exact q
      | ex c ks xs m => rw [h2] at q; exact q
      | ok y s2 =>
        rw [h2] at q
        rw [R.bind_ok] at q ⊢
        cases h : cmpV s2 o x y with
        | none => rw [h] at q; exact q
        | some d =>
          rw [h] at q
          cases d with
          | false => exact q
          | true =>
            show PR W ph H (QB W Q) (fun c d H' => Wx c d σ H') ((ev W.G call c e s2).bind fun z s4 => R.ofO (cmpV s4 p y z) s4)
            have q : PR W ph H (QB W Q) (fun c d H' => Wx c d σ H') (((ev W.G call c e s2).bind fun z s4 => R.ofO ((cmpV s4 p y z).map .bl) s4).bind fun x s1 => R.ofO (truth s1 x) s1) := q
            cases h3 : ev W.G call c e s2 with
            | stk => rw [h3] at q; exact q
            | ex c ks xs m => rw [h3] at q; exact q
            | ok z s4 =>
              rw [h3, R.bind_ok] at q
              rw [R.bind_ok]
              cases h4 : cmpV s4 p y z with
              | none => rw [h4] at q; exact q
              | some d => rw [h4] at q; exact q
  refine tEv_of hs hr (PR.mo QB.mo) (PR.fst q) fun x s1 ph1 H1 v g1 r1 v1 hs1 q1 => tEv_of hs1 r1 (PR.mo QB.mo) (PR.fst q1) fun y s2 ph2 H2 w g2 r2 v2 hs2 q2 => ?_
  cases h : cmpV s2 o x y with
  | none => rw [h] at q2; exact q2.elim
  | some d =>
    rw [h] at q2
    refine ⟨ph2, s2, x, y, d, r2, v1.grow g2, v2, h, fun ph3 H3 v3 g3 r3 v4 => ?_⟩
    cases v4
    refine ⟨d, rfl, ?_⟩
    have q3 := PR.grow QB.mo g3 q2
    cases d with
    | false => exact ite_ff ⟨_, rfl, (show QB W Q false s2 ph3 H3 from q3) ph3 H3 .refl r3⟩
    | true =>
      refine ite_tt ?_
      have q3 : PR W ph3 H3 (QB W Q) (fun c d H' => Wx c d σ H') ((ev W.G call c e s2).bind fun z s4 => R.ofO (cmpV s4 p y z) s4) := q3
      refine tEv_of (hs2.grow r2 g3) r3 (PR.mo QB.mo) (PR.fst q3) fun z s4 ph4 H4 u g4 r4 v5 hs4 q4 => ?_
      obtain ⟨t, e1, q5⟩ := PR.ofO q4
      exact ⟨ph4, s4, y, z, t, r4, v2.grow (g3.trans g4), v5, e1, fun ph6 H6 v6 g6 r6 v7 => by
        cases v7
        exact ⟨t, rfl, q5 ph6 H6 g6 r6⟩⟩

/-! ### fields -/
theorem idn_inj (hn : (rids ++ W.G.ids).Nodup) {i j : Nat} (h : W.G.idn i = W.G.idn j) (h0 : W.G.idn i ≠ "") : i = j := by
  unfold Prog.idn at h h0
  simp only [List.getD_eq_getElem?_getD] at h h0
  by_cases hi : i < (rids ++ W.G.ids).length
  · by_cases hj : j < (rids ++ W.G.ids).length
    · rw [List.getElem?_eq_getElem hi, List.getElem?_eq_getElem hj] at h
      exact (List.getElem_inj hn).mp h
    · rw [List.getElem?_eq_none (i := j) (by omega)] at h
      exact absurd h h0
  · rw [List.getElem?_eq_none (i := i) (by omega)] at h0
    exact absurd rfl h0
theorem look_nm (hn : (rids ++ W.G.ids).Nodup) {f : Nat} (h0 : W.G.idn f ≠ "") {ph : List Addr} {H : Hp} : ∀ {ks : List Nat} {xs : List Val} {vs : List V} {x : Val}, VRs W ph H xs vs → lookF f ks xs = some x → ∃ v, (nmF W ks vs).lookup (W.G.idn f) = some v ∧ VR W ph H x v
  | [], _, _, _, _, h => by cases h
  | k :: ks, _, _, x, .nil, h => by cases h
  | k :: ks, _, _, x, .cons (x := y) (v := u) h1 r, h => by
    show ∃ v, List.lookup (W.G.idn f) ((W.G.idn k, u) :: nmF W ks _) = some v ∧ _
    unfold lookF at h
    by_cases hk : k = f
    · subst hk
      rw [if_pos rfl] at h
      cases h
      exact ⟨u, by rw [List.lookup_cons, beq_self_eq_true], h1⟩
    · rw [if_neg hk] at h
      obtain ⟨v, h2, h3⟩ := look_nm hn h0 r h
      refine ⟨v, ?_, h3⟩
      rw [List.lookup_cons, beq_eq_false_iff_ne.mpr fun z => hk (idn_inj hn z h0).symm]
      exact h2
theorem nolook_nm (hn : (rids ++ W.G.ids).Nodup) {f : Nat} (h0 : W.G.idn f ≠ "") : ∀ {ks : List Nat} {vs : List V}, ks.contains f = false → (nmF W ks vs).lookup (W.G.idn f) = none
  | [], _, _ => rfl
  | k :: ks, [], _ => rfl
  | k :: ks, v :: vs, h => by
    show List.lookup (W.G.idn f) ((W.G.idn k, v) :: nmF W ks vs) = none
    rw [List.contains_cons, Bool.or_eq_false_iff] at h
    rw [List.lookup_cons, beq_eq_false_iff_ne.mpr fun z => (beq_eq_false_iff_ne.mp h.1) (idn_inj hn z h0)]
    exact nolook_nm hn h0 h.2
theorem insOf_at {ph : List Addr} {m : Store} {H : Hp} (hr : Rep W ph m H) {x : Val} {v : V} {c : Nat} {ks : List Nat} {xs : List Val} (h : VR W ph H x v) (e : insOf m x = some (c, ks, xs)) :
    ∃ a dx vs, v = .ref a ∧ H a = some (.ins (W.ca c) dx (nmF W ks vs)) ∧ ks.length = xs.length ∧ VRs W ph H xs vs := by
  unfold insOf at e
  split at e
  · cases e
    cases h with
    | obj h1 _ _ hl r => exact ⟨_, _, _, rfl, h1, hl, r⟩
  · split at e
    · rename_i hc
      cases e
      cases h with
      | ref hn =>
        obtain ⟨dx, vs, e1, hl, r⟩ := hr.cell _ _ _ hn hc
        exact ⟨_, dx, vs, rfl, e1, hl, r⟩
    · cases e
  · cases e
theorem se_att (g : Gd W call N k sc hot Wx X) {o : ME} {f : Nat} {v : PySem.Expr} {x : Str} (hx : x = W.G.idn f) (h0 : x ≠ "") (hb : baseB v = true) (ho : Pe W xa call Wx X o v) : Pe W xa call Wx X (.att o f) (.Attribute v x pos) := by
  refine PE.imp (pe_fld ho (base_of hb)) fun σ H Q ⟨e, ph, s, hs, hr, q⟩ => ?_
  unfold ev at q
  subst hx
  refine tEv_of hs hr (PR.mo QV.mo) (PR.fst q) fun x s1 ph1 H1 v g1 r1 v1 hs1 q1 => ?_
  obtain ⟨z, e1, q3⟩ := PR.ofO q1
  unfold attV at e1
  split at e1
  · rename_i c ks xs hi
    obtain ⟨a, dx, vs, rfl, h1, hl, r⟩ := insOf_at r1 v1 hi
    split at e1
    · rename_i hf
      unfold hasF at hf
      split at hf
      · rename_i C hC
        obtain ⟨hc, hn⟩ := g.lib.fld c C f hC hf
        obtain ⟨w, h2, h3⟩ := look_nm g.lib.idn h0 r e1
        exact ⟨a, _, dx, _, w, rfl, h1, g.eK ▸ hc, g.eK ▸ hn, h2, QV.at q3 r1 h3⟩
      · cases hf
    · cases e1
  · cases e1
end
end Ev

set_option Elab.async false
set_option linter.all false
set_option maxRecDepth 100000
set_option autoImplicit false
/-! Ev: the cases of expressions: calls. -/
namespace Ev
open PySem PySem.Spec PyProof.Rows L2

/-! ### functions of the language -/
def bifFn : Bif → Value
  | .len => .builtin "len" | .int => .type "int" | .abs => .builtin "abs" | .list => .type "list" | .tuple => .type "tuple" | .sum => .builtin "sum" | .min => .builtin "min" | .max => .builtin "max"
  | .all => .builtin "all" | .any => .builtin "any" | .sorted => .builtin "sorted" | .str => .type "str" | .repr => .builtin "repr" | .gcd => .builtin "math.gcd" | .bool => .type "bool" | .maxd => .builtin "max"
theorem boot_bif : ∀ b : Bif, b ≠ .gcd → bootBuiltins (bifN b) = some (bifFn b) := by
  intro b hb
  cases b <;> first | exact absurd rfl hb | decide +kernel
def rBif (W : Wd) (b : Bif) (mu : Bool) : List V → Hp → VK → Prop := fun vs H Q => ∃ ph m xs E, Rep W ph m H ∧ VRs W ph H xs vs ∧ PR W ph H (QV W Q) E (bifV b mu xs m)
theorem blsOf_vs {W : Wd} {ph : List Addr} {H : Hp} : ∀ {xs : List Val} {ns : List Bool} {vs : List V}, VRs W ph H xs vs → blsOf xs = some ns → vs = ns.map V.bl
  | [], _, _, r, e => by cases r; cases e; rfl
  | .bl i :: xs, ns, _, .cons h r, e => by
    cases h
    cases q : blsOf xs with
    | none =>
      have e' : (blsOf xs).map (i :: ·) = some ns := e
      rw [q] at e'
      cases e'
    | some ms =>
      have e' : (blsOf xs).map (i :: ·) = some ns := e
      rw [q] at e'
      cases e'
      rw [blsOf_vs r q]
      rfl
theorem ints_vr {W : Wd} {ph : List Addr} {H : Hp} : ∀ ns : List Int, VRs W ph H (ns.map Val.int) (ns.map V.int)
  | [] => .nil
  | n :: ns => .cons (.int n) (ints_vr ns)
theorem maxI_max : ∀ (ns : List Int) (n m : Int), m ∈ n :: ns → (∀ y, y ∈ n :: ns → y ≤ m) → maxI n ns = m
  | [], n, m, hm, _ => by
    rcases List.mem_cons.mp hm with h | h
    · exact h.symm
    · cases h
  | j :: r, n, m, hm, hl => by
    unfold maxI
    apply maxI_max r
    · have h1 := hl n List.mem_cons_self
      have h2 := hl j (List.mem_cons_of_mem _ List.mem_cons_self)
      rcases List.mem_cons.mp hm with h | h
      · subst h
        split
        · omega
        · exact List.mem_cons_self
      · rcases List.mem_cons.mp h with h | h
        · subst h
          split
          · exact List.mem_cons_self
          · have e : n = m := by omega
            rw [e]
            exact List.mem_cons_self
        · exact List.mem_cons_of_mem _ h
    · intro y hy
      rcases List.mem_cons.mp hy with h | h
      · rw [h]
        split
        · exact hl j (List.mem_cons_of_mem _ List.mem_cons_self)
        · exact hl n List.mem_cons_self
      · exact hl y (List.mem_cons_of_mem _ (List.mem_cons_of_mem _ h))
theorem minI_min : ∀ (ns : List Int) (n m : Int), m ∈ n :: ns → (∀ y, y ∈ n :: ns → m ≤ y) → minI n ns = m
  | [], n, m, hm, _ => by
    rcases List.mem_cons.mp hm with h | h
    · exact h.symm
    · cases h
  | j :: r, n, m, hm, hl => by
    unfold minI
    apply minI_min r
    · have h1 := hl n List.mem_cons_self
      have h2 := hl j (List.mem_cons_of_mem _ List.mem_cons_self)
      rcases List.mem_cons.mp hm with h | h
      · subst h
        split
        · omega
        · exact List.mem_cons_self
      · rcases List.mem_cons.mp h with h | h
        · subst h
          split
          · exact List.mem_cons_self
          · have e : n = m := by omega
            rw [e]
            exact List.mem_cons_self
        · exact List.mem_cons_of_mem _ h
    · intro y hy
      rcases List.mem_cons.mp hy with h | h
      · rw [h]
        split
        · exact hl j (List.mem_cons_of_mem _ List.mem_cons_self)
        · exact hl n List.mem_cons_self
      · exact hl y (List.mem_cons_of_mem _ (List.mem_cons_of_mem _ h))
theorem insI_perm (i : Int) : ∀ l : List Int, (insI i l).Perm (i :: l)
  | [] => .refl _
  | j :: r => by
    unfold insI
    split
    · exact .refl _
    · exact ((insI_perm i r).cons j).trans (.swap i j r)
theorem sortI_perm : ∀ l : List Int, (sortI l).Perm l
  | [] => .refl _
  | i :: r => (insI_perm i (sortI r)).trans ((sortI_perm r).cons i)
theorem insI_srt (i : Int) : ∀ l : List Int, l.Pairwise (· ≤ ·) → (insI i l).Pairwise (· ≤ ·)
  | [], _ => by simp [insI]
  | j :: r, h => by
    unfold insI
    have h' := List.pairwise_cons.mp h
    split
    · rename_i hij
      refine List.pairwise_cons.mpr ⟨fun y hy => ?_, h⟩
      rcases List.mem_cons.mp hy with e | e
      · omega
      · have := h'.1 y e
        omega
    · rename_i hij
      refine List.pairwise_cons.mpr ⟨fun y hy => ?_, insI_srt i r h'.2⟩
      rcases List.mem_cons.mp ((insI_perm i r).mem_iff.mp hy) with e | e
      · omega
      · exact h'.1 y e
theorem sortI_srt : ∀ l : List Int, (sortI l).Pairwise (· ≤ ·)
  | [] => .nil
  | i :: r => insI_srt i _ (sortI_srt r)
theorem srt_uniq : ∀ {l m : List Int}, l.Perm m → l.Pairwise (· ≤ ·) → m.Pairwise (· ≤ ·) → l = m := fun h h1 h2 =>
  h.eq_of_pairwise (fun a b _ _ ha hb => Int.le_antisymm ha hb) h1 h2
/-! pairs of ints -/
theorem belP_lex (q p : Int × Int) : belP q p = SrtO.lexB q p := rfl
theorem insP_perm (p : Int × Int) : ∀ l, (insP p l).Perm (p :: l)
  | [] => .refl _
  | q :: l => by
    unfold insP
    split
    · exact ((insP_perm p l).cons q).trans (.swap _ _ _)
    · exact .refl _
theorem sortP_perm : ∀ l : List (Int × Int), (sortP l).Perm l
  | [] => .refl _
  | p :: r => (insP_perm p (sortP r)).trans ((sortP_perm r).cons p)
def leP (p q : Int × Int) : Prop := p.1 < q.1 ∨ (p.1 = q.1 ∧ p.2 ≤ q.2)
theorem leP_no {p q : Int × Int} : SrtO.lexB q p = false ↔ leP p q := by
  rw [SrtO.lexB_no]; unfold leP; omega
theorem insP_srt (p : Int × Int) : ∀ l, l.Pairwise leP → (insP p l).Pairwise leP
  | [], _ => by simp [insP]
  | q :: l, h => by
    have h' := List.pairwise_cons.mp h
    unfold insP
    split
    · rename_i hb
      rw [belP_lex, SrtO.lexB_iff] at hb
      refine List.pairwise_cons.mpr ⟨fun z hz => ?_, insP_srt p l h'.2⟩
      rcases List.mem_cons.mp ((insP_perm p l).mem_iff.mp hz) with rfl | hz
      · unfold leP; omega
      · exact h'.1 z hz
    · rename_i hb
      have hb : leP p q := leP_no.mp (by rw [← belP_lex]; simpa using hb)
      refine List.pairwise_cons.mpr ⟨fun z hz => ?_, h⟩
      rcases List.mem_cons.mp hz with rfl | hz
      · exact hb
      · have := h'.1 z hz
        unfold leP at this hb ⊢; omega
theorem sortP_srt : ∀ l : List (Int × Int), (sortP l).Pairwise leP
  | [] => .nil
  | p :: r => insP_srt p _ (sortP_srt r)
theorem srtP_uniq {l m : List (Int × Int)} (h : l.Perm m) (h1 : l.Pairwise leP) (h2 : m.Pairwise leP) : l = m :=
  h.eq_of_pairwise (fun a b _ _ ha hb => by
    unfold leP at ha hb
    have e1 : a.1 = b.1 := by omega
    have e2 : a.2 = b.2 := by omega
    exact Prod.ext e1 e2) h1 h2
/-- sorted(xs), xs a list of pairs of ints -/
def rSortedPT (K : PySem.W.Frag) : List V → Hp → VK → Prop := fun vs H Q => ∃ (a : Addr) (xs : List V) (k : V → Int × Int), vs = [V.ref a] ∧ SqL K H a xs ∧ (∀ x ∈ xs, ∃ t, x = V.ref t ∧ SqT K H t [.int (k x).1, .int (k x).2]) ∧
  ∀ ys p, SrtO.Srtd (ltP k) ys → SrtO.Stb (ltP k) ys xs → H p = none → Q (.ref p) (upd H p (.lst ys))
theorem cr_sortedPT {X : Cx} : CallR X (.builtin "sorted") (rSortedPT X.K) := by
  intro pins s σ H vs us Q I r h
  obtain ⟨a, xs, k, rfl, hs, hx, q⟩ := h
  obtain ⟨its, rv, hl, hz⟩ := I.list hs
  obtain ⟨u, rfl, ru⟩ := vals1 r
  obtain rfl : u = Value.ref a := ru
  obtain ⟨e1, e2⟩ := refs_back rv fun x m => by
    obtain ⟨t, e, _⟩ := hx x m
    exact ⟨t, e⟩
  refine SrtO.sorted_pairsO (k := fun u => k (backV u)) hl.isList (by rw [← rv.length]; exact hz) (fun v hv => ?_) fun h' d out h1 h2 kp hd hn => ?_
  · obtain ⟨t, rfl⟩ := e2 v hv
    have hm : V.ref t ∈ xs := by rw [e1]; exact List.mem_map.mpr ⟨_, hv, rfl⟩
    obtain ⟨t', e, ht⟩ := hx _ hm
    cases e
    obtain ⟨its2, r2, ⟨o, ho, hc, n, hd⟩, _⟩ := I.tuple ht
    obtain ⟨u1, u2, rfl, ri, rj⟩ := vals2 r2
    obtain ⟨t1, rfl⟩ := ri
    obtain ⟨t2, rfl⟩ := rj
    exact ⟨t, o, t1, t2, n, rfl, ho, hc, hd⟩
  · have h3 : ∀ u ∈ out, ∃ a, u = Value.ref a := fun u hu => e2 u (h2.perm.mem_iff.mp hu)
    obtain ⟨n, hn⟩ := hn
    have hb : SrtO.Stb (ltP k) (out.map backV) xs := by
      rw [e1]
      exact SrtO.Stb.map (ltP_swo k) backV h2
    refine ⟨.ref d, upd H d (.lst (out.map backV)), I.laid (t' := s.toks) kp hd ⟨?_, out, n, vals_back h3, hn⟩, rfl, q _ d (SrtO.srtd_map h1) hb (I.hok.fresh hd)⟩
    rw [hb.len]
    exact hz
/-- the ints of a pair that stands -/
noncomputable def keyP (K : PySem.W.Frag) (H : Hp) (v : V) : Int × Int := open Classical in if h : ∃ (p : Int × Int) (t : Addr), v = .ref t ∧ SqT K H t [.int p.1, .int p.2] then h.choose else (0, 0)
theorem prsOf_vs {W : Wd} {ph : List Addr} {H : Hp} : ∀ {xs : List Val} {ps : List (Int × Int)} {vs : List V}, VRs W ph H xs vs → prsOf xs = some ps → ∃ L : List (Addr × (Int × Int)), vs = L.map (fun q => V.ref q.1) ∧ ps = L.map (·.2) ∧ ∀ q ∈ L, SqT W.K H q.1 [.int q.2.1, .int q.2.2] ∧ VR W ph H (prV2 q.2) (.ref q.1)
  | [], _, _, r, e => by cases r; cases e; exact ⟨[], rfl, rfl, by simp⟩
  | .tup [.int a, .int b] :: xs, ps, _, .cons h r, e => by
    cases q : prsOf xs with
    | none => simp [prsOf, q] at e
    | some ps' =>
      simp [prsOf, q] at e
      subst e
      obtain ⟨L, rfl, rfl, f⟩ := prsOf_vs r q
      cases h with
      | tup h1 h2 =>
        cases h2 with
        | cons a1 a2 =>
          cases a2 with
          | cons b1 b2 =>
            cases b2
            cases a1
            cases b1
            refine ⟨(_, (a, b)) :: L, rfl, rfl, fun q hq => ?_⟩
            rcases List.mem_cons.mp hq with rfl | hq
            · exact ⟨h1, .tup h1 (.cons (.int a) (.cons (.int b) .nil))⟩
            · exact f q hq
theorem keyP_eq {X : Cx} {pins : List (Addr × Obj)} {σ : L2.St} {H : Hp} {s : Shared} (I : L2.Inv X pins σ H s) {t : Addr} {p : Int × Int} (h : SqT X.K H t [.int p.1, .int p.2]) : keyP X.K H (.ref t) = p := by
  have ex : ∃ (p : Int × Int) (t' : Addr), V.ref t = .ref t' ∧ SqT X.K H t' [.int p.1, .int p.2] := ⟨p, t, rfl, h⟩
  have hc : keyP X.K H (.ref t) = ex.choose := by
    unfold keyP
    rw [dif_pos ex]
  obtain ⟨t', e1, e2⟩ := ex.choose_spec
  cases e1
  have := I.tuple_inj e2 h
  injection this with q1 q2
  injection q2 with q2 _
  injection q1 with q1
  injection q2 with q2
  rw [hc]
  exact Prod.ext q1 q2
theorem vrs_map {W : Wd} {ph : List Addr} {H : Hp} {f : V → Val} : ∀ {ys : List V}, (∀ y ∈ ys, VR W ph H (f y) y) → VRs W ph H (ys.map f) ys
  | [], _ => .nil
  | y :: ys, h => .cons (h y (by simp)) (vrs_map fun z hz => h z (by simp [hz]))
section
variable {W : Wd} {X : Cx}
theorem oneL_at {ph : List Addr} {m : Store} {H : Hp} (hr : Rep W ph m H) {xs ys : List Val} {vs : List V} (h : VRs W ph H xs vs) (e : oneL xs m = some ys) : ∃ a ws, vs = [.ref a] ∧ SqL W.K H a ws ∧ VRs W ph H ys ws := by
  unfold oneL at e
  split at e
  · cases h with
    | cons h1 h2 =>
      cases h2
      obtain ⟨a, ws, rfl, h2, r⟩ := asL_at hr h1 e
      exact ⟨a, ws, rfl, h2, r⟩
  · cases e
theorem oneS_at {ph : List Addr} {m : Store} {H : Hp} (hr : Rep W ph m H) {xs ys : List Val} {vs : List V} (h : VRs W ph H xs vs) (e : oneS xs m = some ys) : ∃ a ws, vs = [.ref a] ∧ (SqL W.K H a ws ∨ SqT W.K H a ws) ∧ VRs W ph H ys ws := by
  unfold oneS at e
  split at e
  · cases h with
    | cons h1 h2 =>
      cases h2
      obtain ⟨a, ws, rfl, h2, r⟩ := asS_at hr h1 e
      exact ⟨a, ws, rfl, h2, r⟩
  · cases e
theorem cr_bif (eK : X.K = W.K) (b : Bif) (mu : Bool) (hmx : b ≠ .maxd) (hc : coolB b = true ∨ X.calm = true) : CallR X (bifFn b) (rBif W b mu) := by
  intro pins s σ H vs us Q I rv ⟨ph, m, xs, E, hr, h, q⟩
  cases b
  · obtain ⟨z, e, q⟩ := PR.ofO (show PR W ph H (QV W Q) E (R.ofO (lenV xs m) m) from q)
    refine call_len pins s σ H vs us Q I rv ?_
    unfold lenV at e
    split at e
    · split at e
      · rename_i hz
        cases e
        cases h with
        | cons h1 h2 =>
          cases h1; cases h2
          exact ⟨_, _, rfl, ⟨hz, rfl⟩, q.at hr (.int _)⟩
      · cases e
    · split at e
      · rename_i hx
        cases e
        cases h with
        | cons h1 h2 =>
          cases h2
          obtain ⟨a, ws, rfl, h2, r⟩ := asS_at hr h1 hx
          refine ⟨_, ws.length, rfl, ?_, by rw [← r.length]; exact q.at hr (.int _)⟩
          rw [eK]
          rcases h2 with h2 | h2
          · exact .inl ⟨_, h2, rfl⟩
          · exact .inr ⟨_, h2, rfl⟩
      · cases e
    · cases e
  · obtain ⟨z, e, q⟩ := PR.ofO (show PR W ph H (QV W Q) E (R.ofO (intV xs) m) from q)
    refine call_int1 pins s σ H vs us Q I rv ?_
    unfold intV at e
    split at e
    · cases e
      cases h with
      | cons h1 h2 => cases h1; cases h2; exact .inl ⟨_, rfl, q.at hr (.int _)⟩
    · cases e
      cases h with
      | cons h1 h2 => cases h1; cases h2; exact .inr ⟨_, rfl, q.at hr (.int _)⟩
    · cases e
  · obtain ⟨z, e, q⟩ := PR.ofO (show PR W ph H (QV W Q) E (R.ofO (absV xs) m) from q)
    refine call_abs pins s σ H vs us Q I rv ?_
    unfold absV at e
    split at e
    · cases e
      cases h with
      | cons h1 h2 => cases h1; cases h2; exact ⟨_, rfl, q.at hr (.int _)⟩
    · cases e
  · have q : PR W ph H (QV W Q) E (putO mu (oneS xs m) m) := q
    unfold putO at q
    cases hx : oneS xs m with
    | none => rw [hx] at q; exact q.elim
    | some ys =>
      rw [hx] at q
      obtain ⟨a, ws, rfl, h2, r⟩ := oneS_at hr h hx
      exact call_list_of pins s σ H _ us Q I rv ⟨a, ws, rfl, eK ▸ h2, put_ok hr r q⟩
  · obtain ⟨z, e, q⟩ := PR.ofO (show PR W ph H (QV W Q) E (R.ofO (tupV xs m) m) from q)
    unfold tupV at e
    cases hx : oneS xs m with
    | none => rw [hx] at e; cases e
    | some ys =>
      rw [hx] at e
      cases e
      obtain ⟨a, ws, rfl, h2, r⟩ := oneS_at hr h hx
      refine call_tuple_of pins s σ H _ us Q I rv ⟨a, ws, rfl, ?_⟩
      rcases h2 with h2 | h2
      · exact .inl ⟨eK ▸ h2, QV.new q hr fun p hp => .tup (.inl (.inl upd_same)) (r.grow (Grow.fresh hp))⟩
      · exact .inr ⟨eK ▸ h2, q.at hr (.tup h2 r)⟩
  · have hc := hc.resolve_left (by intro z; cases z)
    obtain ⟨z, e, q⟩ := PR.ofO (show PR W ph H (QV W Q) E (R.ofO (sumV xs m) m) from q)
    unfold sumV at e
    split at e
    · rename_i ys hx
      obtain ⟨a, ws, rfl, h2, r⟩ := oneL_at hr h hx
      cases hi : intsOf ys with
      | none => rw [hi] at e; cases e
      | some ns =>
        rw [hi] at e
        cases e
        have e1 := intsOf_vs r hi
        subst e1
        exact cr_sum hc pins s σ H _ us Q I rv ⟨a, ns, rfl, eK ▸ h2, q.at hr (.int _)⟩
    · cases e
  · have hc := hc.resolve_left (by intro z; cases z)
    obtain ⟨z, e, q⟩ := PR.ofO (show PR W ph H (QV W Q) E (R.ofO (lowV xs m) m) from q)
    unfold lowV at e
    split at e
    · cases e
      cases h with
      | cons h1 h2 =>
        cases h2 with
        | cons h2 h3 =>
          cases h1; cases h2; cases h3
          exact call_min2 hc pins s σ H _ us Q I rv ⟨_, _, rfl, q.at hr (.int _)⟩
    · split at e
      · rename_i ys hx
        obtain ⟨a, ws, rfl, h2, r⟩ := oneL_at hr h hx
        split at e
        · rename_i n ns hi
          cases e
          have e1 := intsOf_vs r hi
          subst e1
          exact cr_min hc pins s σ H _ us Q I rv ⟨a, n :: ns, rfl, eK ▸ h2, Nat.succ_pos _, fun m0 hm hl => by rw [← minI_min ns n m0 hm hl]; exact q.at hr (.int _)⟩
        · cases e
      · cases e
  · have hc := hc.resolve_left (by intro z; cases z)
    obtain ⟨z, e, q⟩ := PR.ofO (show PR W ph H (QV W Q) E (R.ofO (bigV xs m) m) from q)
    unfold bigV at e
    split at e
    · cases e
      cases h with
      | cons h1 h2 =>
        cases h2 with
        | cons h2 h3 =>
          cases h1; cases h2; cases h3
          exact call_max2 hc pins s σ H _ us Q I rv ⟨_, _, rfl, q.at hr (.int _)⟩
    · split at e
      · rename_i ys hx
        obtain ⟨a, ws, rfl, h2, r⟩ := oneL_at hr h hx
        split at e
        · rename_i n ns hi
          cases e
          have e1 := intsOf_vs r hi
          subst e1
          exact cr_max hc pins s σ H _ us Q I rv ⟨a, n :: ns, rfl, eK ▸ h2, Nat.succ_pos _, fun m0 hm hl => by rw [← maxI_max ns n m0 hm hl]; exact q.at hr (.int _)⟩
        · cases e
      · cases e
  · have hc := hc.resolve_left (by intro z; cases z)
    obtain ⟨z, e, q⟩ := PR.ofO (show PR W ph H (QV W Q) E (R.ofO (allV xs m) m) from q)
    unfold allV at e
    split at e
    · rename_i ys hx
      obtain ⟨a, ws, rfl, h2, r⟩ := oneL_at hr h hx
      cases hi : blsOf ys with
      | none => rw [hi] at e; cases e
      | some ns =>
        rw [hi] at e
        cases e
        have e1 := blsOf_vs r hi
        subst e1
        exact cr_all hc pins s σ H _ us Q I rv ⟨a, ns, rfl, eK ▸ h2, q.at hr (.bl _)⟩
    · cases e
  · have hc := hc.resolve_left (by intro z; cases z)
    obtain ⟨z, e, q⟩ := PR.ofO (show PR W ph H (QV W Q) E (R.ofO (anyV xs m) m) from q)
    unfold anyV at e
    split at e
    · rename_i ys hx
      obtain ⟨a, ws, rfl, h2, r⟩ := oneL_at hr h hx
      cases hi : blsOf ys with
      | none => rw [hi] at e; cases e
      | some ns =>
        rw [hi] at e
        cases e
        have e1 := blsOf_vs r hi
        subst e1
        exact cr_any hc pins s σ H _ us Q I rv ⟨a, ns, rfl, eK ▸ h2, q.at hr (.bl _)⟩
    · cases e
  · have q : PR W ph H (QV W Q) E (putO mu (srtV xs m) m) := q
    unfold putO srtV at q
    cases hx : oneL xs m with
    | none => simp only [hx] at q; exact q.elim
    | some ys =>
      simp only [hx] at q
      obtain ⟨a, ws, rfl, h2, r⟩ := oneL_at hr h hx
      cases hi : intsOf ys with
      | none =>
        simp only [hi] at q
        cases hp : prsOf ys with
        | none => simp only [hp] at q; exact q.elim
        | some ps =>
          simp only [hp] at q
          obtain ⟨L, rfl, rfl, f⟩ := prsOf_vs r hp
          refine cr_sortedPT pins s σ H _ us Q I rv ⟨a, _, keyP X.K H, rfl, eK ▸ h2, fun x hx => ?_, fun ys' p hs hb h0 => ?_⟩
          · obtain ⟨z, hz, rfl⟩ := List.mem_map.mp hx
            have hz := eK ▸ (f z hz).1
            exact ⟨z.1, rfl, by rw [keyP_eq I hz]; exact hz⟩
          · have ky : ∀ z ∈ L, keyP X.K H (.ref z.1) = z.2 := fun z hz => keyP_eq I (eK ▸ (f z hz).1)
            have e1 : L.map (·.2) = (L.map fun z => V.ref z.1).map (keyP X.K H) := by
              rw [List.map_map]
              exact List.map_congr_left fun z hz => (ky z hz).symm
            have e2 : ys'.map (keyP X.K H) = sortP (L.map (·.2)) := by
              refine srtP_uniq ?_ ?_ (sortP_srt _)
              · refine List.Perm.trans ?_ (sortP_perm _).symm
                rw [e1]
                exact hb.perm.map _
              · exact List.pairwise_map.mpr (hs.imp fun h => leP_no.mp h)
            refine put_ok hr ?_ q p h0
            rw [← e2, List.map_map]
            refine vrs_map fun y hy => ?_
            have hy := hb.perm.mem_iff.mp hy
            obtain ⟨z, hz, rfl⟩ := List.mem_map.mp hy
            show VR W ph H (prV2 (keyP X.K H (.ref z.1))) _
            rw [ky z hz]
            exact (f z hz).2
      | some ns =>
        simp only [hi] at q
        have e1 := intsOf_vs r hi
        subst e1
        by_cases hl : ns.length < 64
        · simp only [hl, if_true] at q
          refine cr_sorted pins s σ H _ us Q I rv ⟨a, ns, rfl, eK ▸ h2, hl, fun ns' p hp hs h0 => ?_⟩
          have e2 : ns' = sortI ns := srt_uniq (hp.trans (sortI_perm ns).symm) hs (sortI_srt ns)
          subst e2
          exact put_ok hr (ints_vr _) q p h0
        · simp only [hl, if_false] at q
          exact q.elim
  · obtain ⟨z, e, q⟩ := PR.ofO (show PR W ph H (QV W Q) E (R.ofO (strV xs) m) from q)
    refine call_str_int pins s σ H vs us Q I rv ?_
    unfold strV at e
    split at e
    · split at e
      · rename_i hl
        cases e
        cases h with
        | cons h1 h2 => cases h1; cases h2; exact ⟨_, rfl, hl, q.at hr (.str _)⟩
      · cases e
    · cases e
  · exact (show PR W ph H (QV W Q) E .stk from q).elim
  · obtain ⟨z, e, q⟩ := PR.ofO (show PR W ph H (QV W Q) E (R.ofO (gcdV xs) m) from q)
    unfold gcdV at e
    split at e
    · cases e
      cases h with
      | cons h1 h2 =>
        cases h2 with
        | cons h2 h3 =>
          cases h1; cases h2; cases h3
          exact cr_gcd pins s σ H _ us Q I rv ⟨_, _, rfl, q.at hr (.int _)⟩
    · cases e
  · obtain ⟨z, e, q⟩ := PR.ofO (show PR W ph H (QV W Q) E (R.ofO (boolV xs) m) from q)
    refine call_bool1 pins s σ H vs us Q I rv ?_
    unfold boolV at e
    split at e
    · cases e
      cases h with
      | cons h1 h2 => cases h1; cases h2; exact .inl ⟨_, rfl, q.at hr (.bl _)⟩
    · cases e
      cases h with
      | cons h1 h2 => cases h1; cases h2; exact .inr ⟨_, rfl, q.at hr (.bl _)⟩
    · cases e
  · exact absurd rfl hmx
end
end Ev

set_option Elab.async false
set_option linter.all false
set_option maxRecDepth 100000
set_option autoImplicit false
/-! Ev: calls of functions, methods, classes. -/
namespace Ev
open PySem PySem.Spec PyProof.Rows L2
section
variable {W : Wd} {xa : Xa} {call : Call} {N : List Str} {k : Nat} {sc : Scope} {hot : Bool} {X : Cx} {Wx : WX} {pos p : Pos} {x : Str}
theorem free_of (g : Gd W call N k sc hot Wx X) {x : Str} (h : x ∈ bltN) : X.mg x = none := g.lib.free x h
theorem bif_free : ∀ b : Bif, b ≠ .gcd → (bifN b : Str) ∈ bltN := by
  intro b hb
  cases b <;> first | exact absurd rfl hb | decide
theorem bif_nm : ∀ b : Bif, (bifN b : Str) ≠ "__name__" ∧ ((bifN b : Str) == ("__debug__" : Str)) = false := by
  intro b
  cases b <;> decide
theorem se_bif (g : Gd W call N k sc hot Wx X) {b : Bif} {mu : Bool} {es : MEs} {y : PySem.Expr} {xs : List PySem.Expr} (hx : x = (bifN b : Str)) (hg : glB sc x = true) (hc : (coolB b || !hot) = true) (hd : (W.G.gcd || !decide (b = .gcd)) = true) (hmx : b ≠ .maxd)
    (hy : starB y = true) (hxs : xs.all starB = true) (ha : Pa W xa call Wx X es (y :: xs)) : Pe W xa call Wx X (.bif b mu es) (.Call (.Name x p) (y :: xs) [] pos) := by
  have hc : coolB b = true ∨ X.calm = true := by
    rcases Bool.or_eq_true_iff.mp hc with h | h
    · exact .inl h
    · exact .inr (g.calm (by simpa using h))
  have main : PE X (.Call (.Name x p) (y :: xs) [] pos) (tCB (rBif W b mu) (tEvs W xa call es Wx)) := by
    by_cases hb : b = .gcd
    · have hG : W.G.gcd = true := by
        rcases Bool.or_eq_true_iff.mp hd with h | h
        · exact h
        · rw [hb] at h
          cases h
      have hm := g.lib.gcd hG
      subst hb
      subst hx
      exact pe_callBfun (id := "math.gcd") (cr_bif g.eK .gcd mu (by intro z; cases z) hc) (gl_of g hg) hm ha (by decide) (star_of hy) (plain_of hxs)
    · have hm : X.mg x = none := by
        rw [hx]
        exact free_of g (bif_free b hb)
      have hv : bootBuiltins x = some (bifFn b) := by
        rw [hx]
        exact boot_bif b hb
      have hn : x ≠ "__name__" ∧ (x == ("__debug__" : Str)) = false := by
        rw [hx]
        exact bif_nm b
      have cr := cr_bif g.eK b mu hmx hc
      cases b
      case gcd => exact absurd rfl hb
      case int => exact pe_callTy cr (gl_of g hg) hm hv ha hn.1 hn.2 (star_of hy) (plain_of hxs)
      case list => exact pe_callTy cr (gl_of g hg) hm hv ha hn.1 hn.2 (star_of hy) (plain_of hxs)
      case tuple => exact pe_callTy cr (gl_of g hg) hm hv ha hn.1 hn.2 (star_of hy) (plain_of hxs)
      case str => exact pe_callTy cr (gl_of g hg) hm hv ha hn.1 hn.2 (star_of hy) (plain_of hxs)
      case bool => exact pe_callTy cr (gl_of g hg) hm hv ha hn.1 hn.2 (star_of hy) (plain_of hxs)
      all_goals exact pe_callB cr (gl_of g hg) hm hv ha hn.1 hn.2 (star_of hy) (plain_of hxs)
  refine PE.imp main fun σ H Q ⟨e, ph, s, hs, hr, q⟩ => ?_
  unfold ev at q
  refine tEvs_of hs hr (PR.mo QV.mo) (PR.fst q) fun ys s1 ph1 H1 vs g1 r1 v1 hs1 q1 => ?_
  exact ⟨ph1, s1, ys, _, r1, v1, q1⟩

/-! ### xs.append(e) -/
theorem form_all {pos : Pos} {env : PySem.Env} : ∀ {es : List PySem.Expr}, es.all starB = true → (backTo pos (starEach es env)).all (!·.1) = true
  | [], _ => rfl
  | e :: es, h => by
    rw [List.all_cons] at h
    obtain ⟨h1, h2⟩ := ba h
    rw [star_of h1]
    show (true && (backTo pos (starEach es env)).all (!·.1)) = true
    rw [form_all h2]
    rfl
theorem appV_at {ph : List Addr} {m m2 : Store} {H : Hp} (hr : Rep W ph m H) {x y : Val} {v w : V} (h : VR W ph H x v) (hy : VR W ph H y w) (e : appV x y m = some m2) :
    ∃ l vs, v = .ref l ∧ H l = some (.lst vs) ∧ vs.length < szL ∧ Rep W ph m2 (upd H l (.lst (vs ++ [w]))) ∧ Grow ph H ph (upd H l (.lst (vs ++ [w]))) := by
  unfold appV at e
  split at e
  · split at e
    · rename_i hc
      split at e
      · rename_i hl
        cases e
        cases h with
        | ref hn =>
          obtain ⟨vs, e1, r⟩ := hr.cell _ _ _ hn hc
          rw [r.length] at hl
          have gw : Grow ph H ph (upd H _ (.lst (vs ++ [w]))) := Grow.write (List.mem_of_getElem? hn) e1 (fun xs z => by cases z) (fun q z y => by cases y) (fun ps z => by cases z)
          exact ⟨_, vs, rfl, e1, hl, hr.write hn e1 gw (fun ps z => by cases z) ⟨vs ++ [w], upd_same, (r.append (.cons hy .nil)).grow gw⟩, gw⟩
      · cases e
    · cases e
  · cases e
theorem se_app (g : Gd W call N k sc hot Wx X) {o a : ME} {v y : PySem.Expr} {p1 p2 : Pos} (hb : baseB v = true) (hy : starB y = true) (hl : (p1.endLine == p2.line) = true) (ho : Pe W xa call Wx X o v) (ha : Pe W xa call Wx X a y) :
    Pe W xa call Wx X (.app o a) (.Call (.Attribute v "append" p1) [y] [] p2) := by
  have hs0 : starEach [y] X.env = (false, eval y X.env) :: starEach [] X.env := star_of hy
  refine PE.imp (pe_bm PySem.F.plainAttrs_list PySem.F.slot_list_append PySem.F.type_list_append mt_append ho (pa_cons ha pa_nil hs0) (base_of hb) ?_ hl hs0 rfl) fun σ H Q ⟨e, ph, s, hs, hr, q⟩ => ?_
  · rw [form_all (es := [y]) (by simp [hy])]
    rfl
  · unfold ev at q
    have q : PR W ph H (QV W Q) (fun c d H' => Wx c d σ H') ((ev W.G call o e s).bind fun x s1 => (R.ofO ((asM s1 x).map fun _ => x) s1).bind fun x s1 => (ev W.G call a e s1).bind fun y s2 => (R.ofO ((appV x y s2).map fun s3 => (Val.non, s3)) s2).bind fun p _ => .ok p.1 p.2) := by
      cases h1 : ev W.G call o e s with
      | stk => rw [h1] at q; exact q
      | ex c ks xs m => rw [h1] at q; exact q
      | ok x s1 => rw [h1] at q; exact q
    refine tEv_of hs hr (PR.mo QV.mo) (PR.fst q) fun x s1 ph1 H1 v g1 r1 v1 hs1 q1 => ?_
    cases hm : asM s1 x with
    | none => rw [hm] at q1; exact q1.elim
    | some ys =>
      rw [hm] at q1
      obtain ⟨l, vs, rfl, h2, _⟩ := asM_at r1 v1 hm
      refine ⟨.inl ⟨rfl, vs, SqL.of h2⟩, ?_⟩
      have q1 : PR W ph1 H1 (QV W Q) (fun c d H' => Wx c d σ H') ((ev W.G call a e s1).bind fun y s2 => (R.ofO ((appV x y s2).map fun s3 => (Val.non, s3)) s2).bind fun p _ => .ok p.1 p.2) := q1
      refine tEv_of hs1 r1 (PR.mo QV.mo) (PR.fst q1) fun y s2 ph2 H2 w g2 r2 v2 hs2 q2 => ?_
      cases hA : appV x y s2 with
      | none => rw [hA] at q2; exact q2.elim
      | some s3 =>
        rw [hA] at q2
        have q2 : QV W Q .non s3 ph2 H2 := q2
        obtain ⟨l', vs', e1, e2, hz, r3, g3⟩ := appV_at r2 (v1.grow g2) v2 hA
        cases e1
        exact ⟨_, vs', w, rfl, rfl, e2, hz, q2 ph2 _ .non g3 r3 .non⟩
theorem extV_at {ph : List Addr} {m m2 : Store} {H : Hp} (hr : Rep W ph m H) {x y : Val} {v w : V} (h : VR W ph H x v) (hy : VR W ph H y w) (e : extW x y m = some m2) :
    ∃ l b vs ws, v = .ref l ∧ w = .ref b ∧ H l = some (.lst vs) ∧ H b = some (.lst ws) ∧ vs.length + ws.length ≤ szL ∧ Rep W ph m2 (upd H l (.lst (vs ++ ws))) ∧ Grow ph H ph (upd H l (.lst (vs ++ ws))) := by
  unfold extW at e
  split at e
  · rename_i zs hz
    obtain ⟨b, ws, rfl, hb, rb⟩ := asM_at hr hy hz
    unfold extV at e
    split at e
    · split at e
      · rename_i hc
        split at e
        · rename_i hl
          cases e
          cases h with
          | ref hn =>
            obtain ⟨vs, e1, r⟩ := hr.cell _ _ _ hn hc
            rw [r.length, rb.length] at hl
            have gw : Grow ph H ph (upd H _ (.lst (vs ++ ws))) := Grow.write (List.mem_of_getElem? hn) e1 (fun xs z => by cases z) (fun q z y => by cases y) (fun ps z => by cases z)
            exact ⟨_, b, vs, ws, rfl, rfl, e1, hb, hl, hr.write hn e1 gw (fun ps z => by cases z) ⟨vs ++ ws, upd_same, (r.append rb).grow gw⟩, gw⟩
        · cases e
      · cases e
    · cases e
  · cases e
theorem se_ext (g : Gd W call N k sc hot Wx X) {o a : ME} {v y : PySem.Expr} {p1 p2 : Pos} (hb : baseB v = true) (hy : starB y = true) (hl : (p1.endLine == p2.line) = true) (ho : Pe W xa call Wx X o v) (ha : Pe W xa call Wx X a y) :
    Pe W xa call Wx X (.ext o a) (.Call (.Attribute v "extend" p1) [y] [] p2) := by
  have hs0 : starEach [y] X.env = (false, eval y X.env) :: starEach [] X.env := star_of hy
  refine PE.imp (pe_bm PySem.F.plainAttrs_list PySem.F.slot_list_extend PySem.F.type_list_extend mt_extend ho (pa_cons ha pa_nil hs0) (base_of hb) ?_ hl hs0 rfl) fun σ H Q ⟨e, ph, s, hs, hr, q⟩ => ?_
  · rw [form_all (es := [y]) (by simp [hy])]
    rfl
  · unfold ev at q
    have q : PR W ph H (QV W Q) (fun c d H' => Wx c d σ H') ((ev W.G call o e s).bind fun x s1 => (R.ofO ((asM s1 x).map fun _ => x) s1).bind fun x s1 => (ev W.G call a e s1).bind fun y s2 => (R.ofO ((extW x y s2).map fun s3 => (Val.non, s3)) s2).bind fun p _ => .ok p.1 p.2) := by
      cases h1 : ev W.G call o e s with
      | stk => rw [h1] at q; exact q
      | ex c ks xs m => rw [h1] at q; exact q
      | ok x s1 => rw [h1] at q; exact q
    refine tEv_of hs hr (PR.mo QV.mo) (PR.fst q) fun x s1 ph1 H1 v g1 r1 v1 hs1 q1 => ?_
    cases hm : asM s1 x with
    | none => rw [hm] at q1; exact q1.elim
    | some ys =>
      rw [hm] at q1
      obtain ⟨l, vs, rfl, h2, _⟩ := asM_at r1 v1 hm
      refine ⟨.inl ⟨rfl, vs, SqL.of h2⟩, ?_⟩
      have q1 : PR W ph1 H1 (QV W Q) (fun c d H' => Wx c d σ H') ((ev W.G call a e s1).bind fun y s2 => (R.ofO ((extW x y s2).map fun s3 => (Val.non, s3)) s2).bind fun p _ => .ok p.1 p.2) := q1
      refine tEv_of hs1 r1 (PR.mo QV.mo) (PR.fst q1) fun y s2 ph2 H2 w g2 r2 v2 hs2 q2 => ?_
      cases hA : extW x y s2 with
      | none => rw [hA] at q2; exact q2.elim
      | some s3 =>
        rw [hA] at q2
        have q2 : QV W Q .non s3 ph2 H2 := q2
        obtain ⟨l', b', vs', ws', e1, e1', e2, e3, hz, r3, g3⟩ := extV_at r2 (v1.grow g2) v2 hA
        cases e1
        cases e1'
        exact ⟨_, _, vs', ws', rfl, rfl, e2, e3, hz, q2 ph2 _ .non g3 r3 .non⟩
end
end Ev

set_option Elab.async false
set_option linter.all false
set_option maxRecDepth 100000
set_option autoImplicit false
/-! Ev: at a call's end. -/
namespace Ev
open PySem PySem.Spec PyProof.Rows L2
section
variable {W : Wd} {ph r : List Addr} {H H1 : Hp} {m s s2 : Store}
mutual
theorem VR.bel : ∀ (x : Val) {v : V}, VR W ph H x v → x.bel ph.length = true
  | .non, _, _ => rfl
  | .bl _, _, _ => rfl
  | .int _, _, _ => rfl
  | .str _, _, _ => rfl
  | .fn _, _, _ => rfl
  | .tup xs, _, h => by cases h with | tup _ r => exact VRs.bel xs r
  | .lst xs, _, h => by cases h with | lst _ _ _ r => exact VRs.bel xs r
  | .scr xs, _, h => by cases h with | scr _ r => exact VRs.bel xs r
  | .obj _ _ xs, _, h => by cases h with | obj _ _ _ _ r => exact VRs.bel xs r
  | .ref n, _, h => by cases h with | ref hn => exact decide_eq_true (List.getElem?_eq_some_iff.mp hn).1
  | .exv _ _ xs, _, h => by cases h
theorem VRs.bel : ∀ (xs : List Val) {vs : List V}, VRs W ph H xs vs → belL ph.length xs = true
  | [], _, _ => rfl
  | x :: xs, _, h => by
    cases h with
    | cons h1 h2 =>
      show (x.bel ph.length && belL ph.length xs) = true
      rw [VR.bel x h1, VRs.bel xs h2]
      rfl
end
mutual
theorem VR.cut : ∀ (x : Val) {v : V}, VR W (ph ++ r) H x v → x.bel ph.length = true → VR W ph H x v
  | .non, _, h, _ => by cases h; exact .non
  | .bl _, _, h, _ => by cases h; exact .bl _
  | .int _, _, h, _ => by cases h; exact .int _
  | .str _, _, h, _ => by cases h; exact .str _
  | .fn _, _, h, _ => by cases h; exact .fn _
  | .tup xs, _, h, b => by cases h with | tup h1 h2 => exact .tup h1 (VRs.cut xs h2 b)
  | .lst xs, _, h, b => by cases h with | lst h1 hn hh h2 => exact .lst h1 (fun z => hn (List.mem_append_left _ z)) hh (VRs.cut xs h2 b)
  | .scr xs, _, h, b => by cases h with | scr h1 h2 => exact .scr (h1.elim .inl fun z => z.elim (fun z => .inr (.inl z)) fun z => .inr (.inr ⟨z.1, fun y => z.2.1 (List.mem_append_left _ y), z.2.2⟩)) (VRs.cut xs h2 b)
  | .obj _ _ xs, _, h, b => by cases h with | obj h1 hn hh hl h2 => exact .obj h1 (fun z => hn (List.mem_append_left _ z)) hh hl (VRs.cut xs h2 b)
  | .ref n, _, h, b => by
    cases h with
    | ref hn =>
      have hb : n < ph.length := of_decide_eq_true b
      rw [List.getElem?_append_left hb] at hn
      exact .ref hn
  | .exv _ _ xs, _, h, _ => by cases h
theorem VRs.cut : ∀ (xs : List Val) {vs : List V}, VRs W (ph ++ r) H xs vs → belL ph.length xs = true → VRs W ph H xs vs
  | [], _, h, _ => by cases h; exact .nil
  | x :: xs, _, h, b => by
    have q := Bool.and_eq_true_iff.mp (show (x.bel ph.length && belL ph.length xs) = true from b)
    cases h with
    | cons h1 h2 => exact .cons (VR.cut x h1 q.1) (VRs.cut xs h2 q.2)
end
theorem CR.bel {a : Addr} : ∀ {c : Cell}, CR W ph H a c → c.bel ph.length = true
  | .lst xs, ⟨vs, _, r⟩ => VRs.bel xs r
  | .ins c ks xs, ⟨dx, vs, _, _, r⟩ => VRs.bel xs r
  | .dic ks xs, ⟨vs, _, _, r⟩ => VRs.bel xs r
theorem CR.cut {a : Addr} : ∀ {c : Cell}, CR W (ph ++ r) H a c → c.bel ph.length = true → CR W ph H a c
  | .lst xs, ⟨vs, e, r⟩, b => ⟨vs, e, VRs.cut xs r b⟩
  | .ins c ks xs, ⟨dx, vs, e, hl, r⟩, b => ⟨dx, vs, e, hl, VRs.cut xs r b⟩
  | .dic ks xs, ⟨vs, e, hl, r⟩, b => ⟨vs, e, hl, VRs.cut xs r b⟩
theorem Rep.cut (h0 : Rep W ph s H) (h2 : Rep W (ph ++ r) s2 H1) (hc : cutOk s s2) : Rep W ph (s2.take s.length) H1 where
  len := by
    rw [List.length_take, h0.len]
    have := hc.1
    omega
  nd := h0.nd
  cell := fun n a c e1 e2 => by
    have hn : n < s.length := by
      rw [← h0.len]
      exact (List.getElem?_eq_some_iff.mp e1).1
    rw [List.getElem?_take_of_lt hn] at e2
    have e3 : (ph ++ r)[n]? = some a := by
      rw [List.getElem?_append_left (by rw [h0.len]; exact hn)]
      exact e1
    refine CR.cut (h2.cell n a c e3 e2) ?_
    rw [h0.len]
    rcases hc.2 n c hn e2 with h | h
    · have := (h0.cell n a c e1 h).bel
      rw [h0.len] at this
      exact this
    · exact h
  tabs := h2.tabs
  hdl := h2.hdl
  dj := h0.dj
theorem Grow.cut {ph2 : List Addr} (g : Grow ph H ph2 H1) : Grow ph H ph H1 := ⟨⟨[], by simp⟩, fun _ h => .inl h, g.keep, g.tups, g.frzs, g.tabs⟩
theorem mapM_some {f : Val → Option Val} : ∀ {xs ws : List Val}, xs.mapM f = some ws → (xs = [] ∧ ws = []) ∨ ∃ x r w q, xs = x :: r ∧ ws = w :: q ∧ f x = some w ∧ r.mapM f = some q
  | [], ws, h => by
    cases h
    exact .inl ⟨rfl, rfl⟩
  | x :: r, ws, h => by
    rw [List.mapM_cons] at h
    cases h1 : f x with
    | none => rw [h1] at h; cases h
    | some w =>
      rw [h1] at h
      cases h2 : r.mapM f with
      | none => rw [h2] at h; cases h
      | some q =>
        rw [h2] at h
        cases h
        exact .inr ⟨x, r, w, q, rfl, rfl, h1, h2⟩
theorem mapM_len {f : Val → Option Val} : ∀ {xs ws : List Val}, xs.mapM f = some ws → ws.length = xs.length
  | [], ws, h => by
    rcases mapM_some h with ⟨_, rfl⟩ | ⟨_, _, _, _, e, _⟩
    · rfl
    · cases e
  | x :: r, ws, h => by
    rcases mapM_some h with ⟨e, _⟩ | ⟨x, r, w, q, e, rfl, _, h2⟩
    · cases e
    · cases e
      exact congrArg Nat.succ (mapM_len h2)
theorem frzL_at {f : Val → Option Val} (hf : ∀ (x w : Val) (v : V), VR W (ph ++ r) H x v → f x = some w → VR W ph H w v) : ∀ {xs ws : List Val} {vs : List V}, VRs W (ph ++ r) H xs vs → xs.mapM f = some ws → VRs W ph H ws vs
  | _, _, _, .nil, h => by
    rcases mapM_some h with ⟨_, rfl⟩ | ⟨_, _, _, _, e, _⟩
    · exact .nil
    · cases e
  | _, _, _, .cons h1 h2, h => by
    rcases mapM_some h with ⟨e, _⟩ | ⟨x, r, w, q, e, rfl, h3, h4⟩
    · cases e
    · cases e
      exact .cons (hf _ _ _ h1 h3) (frzL_at hf h2 h4)
theorem frz_at (h2 : Rep W (ph ++ r) s2 H) : ∀ (d : Nat) (x w : Val) (v : V), VR W (ph ++ r) H x v → frz s2 ph.length d x = some w → VR W ph H w v
  | 0, x, w, v, h, e => by
    unfold frz at e
    split at e
    · rename_i hb
      cases e
      exact VR.cut _ h hb
    · cases e
  | d + 1, x, w, v, h, e => by
    unfold frz at e
    split at e
    · rename_i hb
      cases e
      exact VR.cut _ h hb
    · rename_i hb
      split at e
      · rename_i n
        split at e
        · rename_i xs hc
          cases hm : xs.mapM (frz s2 ph.length d) with
          | none => rw [hm] at e; cases e
          | some ws =>
            rw [hm] at e
            cases e
            cases h with
            | ref hn =>
              obtain ⟨vs, e1, rr⟩ := h2.cell _ _ _ hn hc
              refine .lst e1 (fun z => ?_) (h2.dj _ (List.mem_of_getElem? hn)) (frzL_at (frz_at h2 d) rr hm)
              obtain ⟨i, hi, hv⟩ := List.mem_iff_getElem.mp z
              have hnl : ¬ n < ph.length := fun z => hb (decide_eq_true z)
              obtain ⟨hn1, hn2⟩ := List.getElem?_eq_some_iff.mp hn
              have e5 : (ph ++ r)[i]'(by rw [List.length_append]; omega) = (ph ++ r)[n] := by
                rw [List.getElem_append_left hi, hv, hn2]
              have := (List.getElem_inj h2.nd).mp e5
              omega
        · cases e
      · rename_i xs
        cases hm : xs.mapM (frz s2 ph.length d) with
        | none => rw [hm] at e; cases e
        | some ws =>
          rw [hm] at e
          cases e
          cases h with
          | tup h1 rr => exact .tup h1 (frzL_at (frz_at h2 d) rr hm)
      · rename_i xs
        cases hm : xs.mapM (frz s2 ph.length d) with
        | none => rw [hm] at e; cases e
        | some ws =>
          rw [hm] at e
          cases e
          cases h with
          | lst h1 hn hh rr => exact .lst h1 (fun z => hn (List.mem_append_left _ z)) hh (frzL_at (frz_at h2 d) rr hm)
      · rename_i c ks xs
        cases hm : xs.mapM (frz s2 ph.length d) with
        | none => rw [hm] at e; cases e
        | some ws =>
          rw [hm] at e
          cases e
          cases h with
          | obj h1 hn hh hl rr => exact .obj h1 (fun z => hn (List.mem_append_left _ z)) hh (by rw [mapM_len hm]; exact hl) (frzL_at (frz_at h2 d) rr hm)
      · cases e
end
end Ev

set_option Elab.async false
set_option linter.all false
set_option maxRecDepth 100000
set_option autoImplicit false
/-! Ev: calls of functions, methods, classes. -/
namespace Ev
open PySem PySem.Spec PyProof.Rows L2
section
variable {W : Wd} {xa : Xa} {call : Call} {N : List Str} {k : Nat} {sc : Scope} {hot : Bool} {X : Cx} {Wx : WX} {pos p : Pos} {x : Str}
theorem run_ev (g : Gd W call N k sc hot Wx X) {f : Nat} (hr : Room k X.A) {pins : List (Addr × Obj)} {σ : L2.St} {H : Hp} {s : Shared} {Q : VK} {us : List Value} {vs : List V} (I : Inv X pins σ H s) (r : Vals vs us)
    (h : spEv W call f vs H Q (WE Wx σ)) : wpAny (model X.prog X.w) X.A (PySem.call (.ref (W.fa f)) us) (EP X pins σ Q) X.xe s := by
  have F1 := g.lib.fns f W.hd
  refine wpAny_call (codeAny_mono (F1 X.A X.stack s H us vs Q (WE Wx σ) g.gu hr (g.eK ▸ I.env0) r h) fun r s' hq => ?_)
  cases r with
  | error e => exact passAt g.tk σ pins H s e s' I hq
  | ok fl =>
    cases fl with
    | ret u => exact I.after hq
    | next => exact False.elim hq
    | brk => exact False.elim hq
    | cont => exact False.elim hq
theorem make_gu {A : Around} {C : Addr} {us : List Value} {kw : List (Str × Value)} (h : A.guards = some []) : (A.under (.builtin "type.__call__" ⟨.ref C :: us, kw⟩)).guards = some [] := by
  have e : Code.guards (.builtin "type.__call__" ⟨.ref C :: us, kw⟩) = [] := by
    unfold Code.guards
    rw [if_neg]
    simp [Code.isGuard, guardIds]
  simp [Around.under, e, h, pushGuards]
theorem ld_fn (g : Gd W call N k sc hot Wx X) {f : Nat} (hf : fnN W.G f = some x) (hg : glB sc x = true) (hd : dbgB x = true) {es : List PySem.Expr} (hs : es.all starB = true) {pins : List (Addr × Obj)} {σ : L2.St} {H : Hp} {s : Shared} {Q : VK} (I : Inv X pins σ H s) {t : TA} (ha : PA X es t)
    (hn : es = [] → ∀ R : List V → Hp → Prop, t σ H R → R [] H) (h : t σ H fun vs H1 => spEv W call f vs H1 Q (WE Wx σ)) (hr : Room k X.A) : wpAny (model X.prog X.w) X.A (eval (.Call (.Name x p) es [] pos) X.env) (EP X pins σ Q) X.xe s := by
  obtain ⟨hm, hk⟩ := g.lib.fnm f x hf
  have hk : PySem.W.keepIn X.K (.ref (W.fa f)) = true := by rw [g.eK]; exact hk
  refine wpAny_Call_Name_kw (ld_glob I (gl_of g hg) hm ?_ (dbg_of hd).1)
  cases es with
  | nil =>
    exact PySem.W.callWith_K0 I.kIn hk (run_ev g hr I .nil (hn rfl _ h))
  | cons e es =>
    rw [List.all_cons] at hs
    obtain ⟨hs1, hs2⟩ := ba hs
    refine PySem.W.callWith_K (h₀ := X.base) I.ok.mod.kin hk (thn (ha.run pos pins s σ H _ I h) fun us s1 ⟨vs, H1, I1, r, q⟩ => ⟨I1.kIn, ?_⟩) (star_of hs1) (plain_of hs2)
    exact run_ev g hr I1 r q

/-- no arguments -/
def NilOk (m : MEs) (es : List PySem.Expr) : Prop := es = [] → m = .nil
theorem nil_args {m : MEs} {es : List PySem.Expr} (h : NilOk m es) {σ : L2.St} {H : Hp} (he : es = []) (R : List V → Hp → Prop) (q : tEvs W xa call m Wx σ H R) : R [] H := by
  obtain ⟨e, ph, s, hs, hr, q⟩ := q
  rw [h he] at q
  unfold evs at q
  exact q ph H [] .refl hr .nil
theorem se_fnc (g : Gd W call N k sc hot Wx X) (hh : hot = false) {f : Nat} {es : MEs} {xs : List PySem.Expr} (hf : fnN W.G f = some x) (hg : glB sc x = true) (hd : dbgB x = true) (hs : xs.all starB = true) (hn : NilOk es xs) (ha : Pa W xa call Wx X es xs) :
    Pe W xa call Wx X (.fnc f es) (.Call (.Name x p) xs [] pos) := by
  refine ⟨fun pins s σ H Q I ⟨e, ph, m, hs0, hr, q⟩ => ?_⟩
  unfold ev at q
  refine ld_fn g hf hg hd hs I ha (fun he => nil_args hn he) (tEvs_of hs0 hr (PR.mo QV.mo) (PR.fst q) fun ys s1 ph1 H1 vs g1 r1 v1 hs1 q1 => ?_) ((g.room hh).mono (by omega))
  exact ⟨ph1, s1, ys, r1, v1, q1⟩

/-! ### methods -/
theorem meth_tree {o : PySem.Expr} {m : Str} {es : List PySem.Expr} {env : PySem.Env} {apos pos : Pos} (hb : baseB o = true) (hs : es.all starB = true) (hn : es.length < 30) (hl : (apos.endLine == pos.line) = true) :
    ∃ pl : Sem Bool, ∀ ov, methodCall o m apos pos env ov (es.length + 0) (backTo pos (starEach es env)) (backToKw pos (keywordEach [] env)) = (do
      let (f, first) ← holding [ov] (getMethod ov m pl)
      callWith pos f first (backTo pos (starEach es env)) (backToKw pos (keywordEach [] env))) := by
  have hf : methodCallForm (es.length + 0) (backTo pos (starEach es env)) (backToKw pos (keywordEach [] env)) = true := by
    unfold methodCallForm
    rw [form_all hs]
    show (true && true && decide (es.length + 0 + 0 < 30)) = true
    simpa using hn
  refine ⟨(do return (← importBound o env).getD true), fun ov => ?_⟩
  unfold methodCall calleeOf methodCallPos
  rw [hf, hl]
  simp only [if_true, Bool.not_true, Bool.false_or, pure_bind]
theorem se_mth (g : Gd W call N k sc hot Wx X) (hh : hot = false) {o : ME} {mm : Nat} {es : MEs} {v : PySem.Expr} {xs : List PySem.Expr} {p1 p2 : Pos} (hx : x = W.G.idn mm) (h0 : x ≠ "") (hb : baseB v = true) (hl : (p1.endLine == p2.line) = true) (h30 : xs.length < 30)
    (hs : xs.all starB = true) (hn : NilOk es xs) (ho : Pe W xa call Wx X o v) (ha : Pa W xa call Wx X es xs) : Pe W xa call Wx X (.mth o mm es) (.Call (.Attribute v x p1) xs [] p2) := by
  obtain ⟨pl, ht⟩ := meth_tree (o := v) (m := x) (env := X.env) hb hs h30 hl
  refine ⟨fun pins s σ H Q I ⟨e, ph, m, hs0, hr, q⟩ => ?_⟩
  unfold ev at q
  refine methcall_of (pl := pl) ho I (tEv_of hs0 hr (PR.mo QV.mo) (PR.fst q) fun y s1 ph1 H1 u g1 r1 v1 hs1 q1 => ?_) (mcall_of (base_of hb) ht)
  split at q1
  · rename_i c ks ys hi
    obtain ⟨a, dx, vs, rfl, h1, hlen, r⟩ := insOf_at r1 v1 hi
    split at q1
    · rename_i f hm
      unfold methOf at hm
      split at hm
      · rename_i C hC
        split at hm
        · cases hm
        · rename_i hks
          have hks : ks.contains mm = false := by simpa using hks
          obtain ⟨c1, m1⟩ := g.lib.mth c C mm f hC hm
          subst hx
          refine ⟨a, W.ca c, dx, nmF W ks vs, W.fa f, rfl, h1, g.eK ▸ c1, g.eK ▸ m1, nolook_nm g.lib.idn h0 hks, fun s2 I2 => ?_⟩
          have hT : tEvs W xa call es Wx σ H1 fun ws H2 => spEv W call f (.ref a :: ws) H2 Q (WE Wx σ) :=
            tEvs_of hs1 r1 (PR.mo QV.mo) (PR.fst q1) fun zs s2 ph2 H2 ws g2 r2 v2 hs2 q2 => ⟨ph2, s2, y :: zs, r2, .cons (v1.grow g2) v2, q2⟩
          have hr2 : Room k X.A := (g.room hh).mono (by omega)
          cases xs with
          | nil =>
            exact PySem.W.callWith_K0 (first := [.ref a]) I2.kIn (by rw [g.eK]; exact m1.kp) (run_ev (us := [.ref a]) (vs := [.ref a]) g hr2 I2 (.cons rfl .nil) (nil_args hn rfl _ hT))
          | cons e0 es0 =>
            rw [List.all_cons] at hs
            obtain ⟨hs1', hs2'⟩ := ba hs
            refine PySem.W.callWith_K (first := [.ref a]) (h₀ := X.base) I.ok.mod.kin (by rw [g.eK]; exact m1.kp) (thn (ha.run p2 pins s2 σ H1 _ I2 hT) fun us s3 ⟨ws, H2, I3, r3, q3⟩ => ⟨I3.kIn, ?_⟩) (star_of hs1') (plain_of hs2')
            exact run_ev (us := .ref a :: us) (vs := .ref a :: ws) g hr2 I3 (.cons rfl r3) q3
      · cases hm
    · exact q1.elim
  · exact q1.elim

/-! ### classes -/
theorem own_grow {ph : List Addr} {H : Hp} {a dx : Addr} {o u : HO} (h1 : H a = none) (h2 : H dx = none) (hne : dx ≠ a) : Grow ph H (ph ++ [a]) (upd (upd H dx o) a u) :=
  Grow.trans (Grow.fresh h2) (Grow.cell (by rw [upd_ne (Ne.symm hne)]; exact h1))
theorem run_mk (g : Gd W call N k sc hot Wx X) (hh : hot = false) {c f : Nat} {C : ClsT} (hC : W.G.cls[c]? = some C) (hi : C.init = some f) {pins : List (Addr × Obj)} {σ : L2.St} {H : Hp} {s : Shared} {Q : VK} {us : List Value} {vs : List V} (I : Inv X pins σ H s) (r : Vals vs us)
    {ph : List Addr} {m : Store} {xs : List Val} (hr : Rep W ph m H) (hv : VRs W ph H xs vs) (q : PR W ph H (QV W Q) (WE Wx σ) (mkV W.G call c xs m)) : wpAny (model X.prog X.w) X.A (PySem.call (.ref (W.ca c)) us) (EP X pins σ Q) X.xe s := by
  obtain ⟨M, _⟩ := g.lib.mks c C f hC hi
  have ea : H (s.heap.objs.size + 1) = none := I.hok.fresh (Nat.le_succ _)
  have ed : H s.heap.objs.size = none := I.hok.fresh (Nat.le_refl _)
  have hne : s.heap.objs.size ≠ s.heap.objs.size + 1 := Nat.ne_of_lt (Nat.lt_succ_self _)
  have I2 := Inv.made (C := W.ca c) I
  have r2 : Vals (V.ref (s.heap.objs.size + 1) :: vs) (Value.ref (s.heap.objs.size + 1) :: us) := .cons rfl r
  have gw : Grow ph H (ph ++ [s.heap.objs.size + 1]) (upd (upd H s.heap.objs.size (.own (s.heap.objs.size + 1))) (s.heap.objs.size + 1) (.ins (W.ca c) s.heap.objs.size [])) := own_grow ea ed hne
  have ea2 : upd H s.heap.objs.size (.own (s.heap.objs.size + 1)) (s.heap.objs.size + 1) = none := by rw [upd_ne (Ne.symm hne)]; exact ea
  have hr2 : Rep W (ph ++ [s.heap.objs.size + 1]) (m ++ [.ins c [] []]) (upd (upd H s.heap.objs.size (.own (s.heap.objs.size + 1))) (s.heap.objs.size + 1) (.ins (W.ca c) s.heap.objs.size [])) :=
    (hr.fresh ed).push ea2 ⟨s.heap.objs.size, [], upd_same, rfl, .nil⟩
  have hnew : (ph ++ [s.heap.objs.size + 1])[m.length]? = some (s.heap.objs.size + 1) := by
    rw [← hr.len, List.getElem?_append_right (Nat.le_refl _)]
    simp
  have hq : spEv W call f (V.ref (s.heap.objs.size + 1) :: vs) (upd (upd H s.heap.objs.size (.own (s.heap.objs.size + 1))) (s.heap.objs.size + 1) (.ins (W.ca c) s.heap.objs.size [])) (fun v H2 => v = .non ∧ Q (.ref (s.heap.objs.size + 1)) H2) (WE Wx σ) := by
    refine ⟨_, _, .ref m.length :: xs, hr2, .cons (.ref hnew) (hv.grow gw), ?_⟩
    unfold mkV at q
    simp only [hC, hi] at q
    cases hcall : call f (.ref m.length :: xs) (m ++ [.ins c [] []]) with
    | stk => rw [hcall] at q; exact q.elim
    | ex d ks ys s2 =>
      rw [hcall] at q
      have q : PR W ph H (QV W Q) (WE Wx σ) ((shutE m d ks ys s2 : R Val).bind fun _ _ => .stk) := q
      unfold shutE at q
      split at q
      · rename_i hc
        obtain ⟨hc1, hc2⟩ := hc
        have q : EXP W ph H (WE Wx σ) d ks ys (s2.take m.length) := q
        intro ph2 H2 dd ws g2 r3 hd hl hw
        obtain ⟨rr, e2⟩ := (gw.trans g2).pre
        subst e2
        have hb : belL ph.length ys = true := by rw [hr.len]; exact hc2
        exact q ph H2 dd ws (gw.trans g2).cut (Rep.cut hr r3 hc1) hd hl (VRs.cut ys hw hb)
      · exact q.elim
    | ok v s2 =>
      rw [hcall] at q
      cases v with
      | non =>
        simp only at q
        split at q
        · split at q
          · rename_i c' ks ys hcell
            split at q
            · rename_i hc
              obtain ⟨rfl, hb, hcut⟩ := hc
              have q : QV W Q (.obj c' ks ys) (s2.take m.length) ph H := q
              intro ph2 H2 v g2 r3 hv2
              cases hv2
              refine ⟨rfl, ?_⟩
              have g4 := gw.trans g2
              obtain ⟨rr, e2⟩ := g2.pre
              subst e2
              have ecell : ((ph ++ [s.heap.objs.size + 1]) ++ rr)[m.length]? = some (s.heap.objs.size + 1) := by
                rw [List.getElem?_append_left (List.getElem?_eq_some_iff.mp hnew).1]
                exact hnew
              obtain ⟨dx, ws, e5, hl, rw5⟩ := r3.cell _ _ _ ecell hcell
              rw [List.append_assoc] at r3 rw5 g4
              refine q ph H2 (.ref (s.heap.objs.size + 1)) g4.cut (Rep.cut hr r3 hcut) (.obj e5 (fun z => ?_) (hr.nohd ea) hl (VRs.cut ys rw5 (by rw [hr.len]; exact hb)))
              obtain ⟨o, ho⟩ := hr.there z
              rw [ea] at ho
              cases ho
            · exact q.elim
          · exact q.elim
        · split at q
          · have q : QV W Q (.ref m.length) s2 ph H := q
            intro ph2 H2 v g2 r3 hv2
            cases hv2
            refine ⟨rfl, q ph2 H2 _ (gw.trans g2) r3 (.ref ?_)⟩
            obtain ⟨rr, e2⟩ := g2.pre
            rw [e2, List.getElem?_append_left (List.getElem?_eq_some_iff.mp hnew).1]
            exact hnew
          · exact q.elim
      | _ => exact q.elim
  have F1 := g.lib.fns f W.hd
  refine wpAny_call (make_map (f := W.fa f) I.kIn (g.eK ▸ M.makes) (g.eK ▸ M.init) (by rw [g.eK]; exact beq_iff_eq.mp M.fn) (codeAny_mono (F1 _ X.stack _ _ (Value.ref (s.heap.objs.size + 1) :: us) _ _ (WE Wx σ) (make_gu g.gu) (((g.room hh).mono (by omega) : Room (k + 1) X.A).make (W.ca c) us [])
    (g.eK ▸ I2.env0.make (W.ca c) us []) r2 hq) fun r s' hq' => ?_))
  cases r with
  | error e => exact passAt g.tk σ pins _ _ e s' I2 hq'
  | ok fl =>
    cases fl with
    | ret u =>
      obtain ⟨v, H', I3, rv, ev, q3⟩ := I2.after hq'
      subst ev
      exact ⟨rv, ⟨V.ref (s.heap.objs.size + 1), H', I3, rfl, q3⟩⟩
    | next => exact False.elim hq'
    | brk => exact False.elim hq'
    | cont => exact False.elim hq'
theorem se_mk (g : Gd W call N k sc hot Wx X) (hh : hot = false) {c : Nat} {es : MEs} {xs : List PySem.Expr} (hf : clN W.G c = some x) (hg : glB sc x = true) (hd : dbgB x = true) (hs : xs.all starB = true) (hn : NilOk es xs) (ha : Pa W xa call Wx X es xs) :
    Pe W xa call Wx X (.mk c es) (.Call (.Name x p) xs [] pos) := by
  refine ⟨fun pins s σ H Q I ⟨e, ph, m, hs0, hr, q⟩ => ?_⟩
  unfold ev at q
  unfold clN at hf
  split at hf
  · rename_i C hC
    split at hf
    · rename_i hi
      cases hf
      obtain ⟨f, hi⟩ := Option.isSome_iff_exists.mp hi
      obtain ⟨M, hm⟩ := g.lib.mks c C f hC hi
      have hk : PySem.W.keepIn X.K (.ref (W.ca c)) = true := by rw [g.eK]; exact M.kp
      have hT : tEvs W xa call es Wx σ H fun vs H1 => ∃ (ph1 : List Addr) (m1 : Store) (ys : List Val), Rep W ph1 m1 H1 ∧ VRs W ph1 H1 ys vs ∧ PR W ph1 H1 (QV W Q) (WE Wx σ) (mkV W.G call c ys m1) :=
        tEvs_of hs0 hr (PR.mo QV.mo) (PR.fst q) fun ys s1 ph1 H1 vs g1 r1 v1 hs1 q1 => ⟨ph1, s1, ys, r1, v1, q1⟩
      refine wpAny_Call_Name_kw (ld_glob I (gl_of g hg) hm ?_ (dbg_of hd).1)
      cases xs with
      | nil =>
        obtain ⟨ph1, m1, ys, r1, v1, q1⟩ := nil_args hn rfl _ hT
        exact PySem.W.callWith_K0 I.kIn hk (run_mk g hh hC hi I .nil r1 v1 q1)
      | cons e0 es0 =>
        rw [List.all_cons] at hs
        obtain ⟨hs1, hs2⟩ := ba hs
        refine PySem.W.callWith_K (h₀ := X.base) I.ok.mod.kin hk (thn (ha.run pos pins s σ H _ I hT) fun us s1 ⟨vs, H1, I1, r, ph1, m1, ys, r1, v1, q1⟩ => ⟨I1.kIn, ?_⟩) (star_of hs1) (plain_of hs2)
        exact run_mk g hh hC hi I1 r r1 v1 q1
    · cases hf
  · cases hf
end
end Ev

set_option Elab.async false
set_option linter.all false
set_option maxRecDepth 100000
set_option autoImplicit false
/-! Ev: calls with keywords. -/
namespace Ev
open PySem PySem.Spec PyProof.Rows L2
/-! ### arguments in the parameters' order -/
theorem argsOf_get {α : Type} : ∀ (n : Nat) {i : Nat} {xs : List α} {l : List (Nat × α)} {zs : List α}, argsOf i n xs l = some zs → zs.length = n ∧ ∀ (j : Nat) (z : α), zs[j]? = some z → (xs[j]? = some z ∨ (xs[j]? = none ∧ l.lookup (i + j) = some z))
  | 0, i, xs, l, zs, h => by
    cases h
    exact ⟨rfl, fun j z e => by simp at e⟩
  | n + 1, i, x :: xs, l, zs, h => by
    unfold argsOf at h
    obtain ⟨ws, h1, rfl⟩ := Option.map_eq_some_iff.mp h
    obtain ⟨k1, k2⟩ := argsOf_get n h1
    refine ⟨by rw [List.length_cons, k1], fun j z e => ?_⟩
    cases j with
    | zero => exact .inl e
    | succ j =>
      rcases k2 j z (by simpa using e) with q | ⟨q, r⟩
      · exact .inl (by simpa using q)
      · exact .inr ⟨by simpa using q, by rw [show i + (j + 1) = i + 1 + j by omega]; exact r⟩
  | n + 1, i, [], l, zs, h => by
    unfold argsOf at h
    split at h
    · rename_i x hx
      obtain ⟨ws, h1, rfl⟩ := Option.map_eq_some_iff.mp h
      obtain ⟨k1, k2⟩ := argsOf_get n h1
      refine ⟨by rw [List.length_cons, k1], fun j z e => ?_⟩
      cases j with
      | zero =>
        cases e
        exact .inr ⟨rfl, hx⟩
      | succ j =>
        rcases k2 j z (by simpa using e) with q | ⟨q, r⟩
        · simp at q
        · exact .inr ⟨by simp, by rw [show i + (j + 1) = i + 1 + j by omega]; exact r⟩
    · cases h
section
variable {W : Wd} {ph : List Addr} {H : Hp}
theorem look_vrs {ks : List Nat} : ∀ {ys : List Val} {us : List V} {i : Nat} {x : Val}, VRs W ph H ys us → (ks.zip ys).lookup i = some x → ∃ v, (ks.zip us).lookup i = some v ∧ VR W ph H x v := by
  induction ks with
  | nil => intro ys us i x _ h; cases h
  | cons k ks ih =>
    intro ys us i x hv h
    cases hv with
    | nil => cases h
    | @cons y ys v us h1 h2 =>
      rw [List.zip_cons_cons, List.lookup_cons] at h
      rw [List.zip_cons_cons, List.lookup_cons]
      cases q : i == k with
      | true => rw [q] at h; cases h; exact ⟨v, rfl, h1⟩
      | false => rw [q] at h; exact ih h2 h
theorem args_vrs {ks : List Nat} {ys : List Val} {us : List V} (hy : VRs W ph H ys us) : ∀ (n : Nat) {i : Nat} {xs zs : List Val} {vs : List V}, VRs W ph H xs vs → argsOf i n xs (ks.zip ys) = some zs → ∃ ws, argsOf i n vs (ks.zip us) = some ws ∧ VRs W ph H zs ws
  | 0, i, xs, zs, vs, _, h => by
    cases h
    exact ⟨[], rfl, .nil⟩
  | n + 1, i, _, zs, _, .cons h1 h2, h => by
    unfold argsOf at h
    obtain ⟨zs, h3, rfl⟩ := Option.map_eq_some_iff.mp h
    obtain ⟨ws, k1, k2⟩ := args_vrs hy n h2 h3
    exact ⟨_ :: ws, by unfold argsOf; rw [k1]; rfl, .cons h1 k2⟩
  | n + 1, i, _, zs, _, .nil, h => by
    unfold argsOf at h
    split at h
    · rename_i x hx
      obtain ⟨zs, h3, rfl⟩ := Option.map_eq_some_iff.mp h
      obtain ⟨ws, k1, k2⟩ := args_vrs hy n .nil h3
      obtain ⟨v, q1, q2⟩ := look_vrs hy hx
      exact ⟨v :: ws, by unfold argsOf; rw [q1]; show (argsOf (i + 1) n [] (ks.zip us)).map (v :: ·) = _; rw [k1]; rfl, .cons q2 k2⟩
    · cases h
theorem look_vals {ks : List Nat} : ∀ {ys : List V} {us : List Value} {i : Nat} {x : V}, Vals ys us → (ks.zip ys).lookup i = some x → ∃ v, (ks.zip us).lookup i = some v ∧ RelV x v := by
  induction ks with
  | nil => intro ys us i x _ h; cases h
  | cons k ks ih =>
    intro ys us i x hv h
    cases hv with
    | nil => cases h
    | @cons y v ys us h1 h2 =>
      rw [List.zip_cons_cons, List.lookup_cons] at h
      rw [List.zip_cons_cons, List.lookup_cons]
      cases q : i == k with
      | true => rw [q] at h; cases h; exact ⟨v, rfl, h1⟩
      | false => rw [q] at h; exact ih h2 h
theorem args_vals {ks : List Nat} {ys : List V} {us : List Value} (hy : Vals ys us) : ∀ (n : Nat) {i : Nat} {xs zs : List V} {vs : List Value}, Vals xs vs → argsOf i n xs (ks.zip ys) = some zs → ∃ ws, argsOf i n vs (ks.zip us) = some ws ∧ Vals zs ws
  | 0, i, xs, zs, vs, _, h => by
    cases h
    exact ⟨[], rfl, .nil⟩
  | n + 1, i, _, zs, _, .cons h1 h2, h => by
    unfold argsOf at h
    obtain ⟨zs, h3, rfl⟩ := Option.map_eq_some_iff.mp h
    obtain ⟨ws, k1, k2⟩ := args_vals hy n h2 h3
    exact ⟨_ :: ws, by unfold argsOf; rw [k1]; rfl, .cons h1 k2⟩
  | n + 1, i, _, zs, _, .nil, h => by
    unfold argsOf at h
    split at h
    · rename_i x hx
      obtain ⟨zs, h3, rfl⟩ := Option.map_eq_some_iff.mp h
      obtain ⟨ws, k1, k2⟩ := args_vals hy n .nil h3
      obtain ⟨v, q1, q2⟩ := look_vals hy hx
      exact ⟨v :: ws, by unfold argsOf; rw [q1]; show (argsOf (i + 1) n [] (ks.zip us)).map (v :: ·) = _; rw [k1]; rfl, .cons q2 k2⟩
    · cases h
end
/-! ### by name -/
def nmsOf (ps : List Str) (ks : List Nat) : List Str := ks.map fun k => ps.getD k ""
theorem kwB_nms {ps : List Str} {env : PySem.Env} {pos : Pos} : ∀ {ks : List Nat} {kws : List Keyword}, kwB ps ks kws = true → (backToKw pos (keywordEach kws env)).all (·.1.isSome) = true ∧ (backToKw pos (keywordEach kws env)).any (·.1.isNone) = false ∧ (backToKw pos (keywordEach kws env)).filterMap (·.1) = nmsOf ps ks ∧ (∀ k ∈ ks, k < ps.length)
  | [], [], _ => ⟨rfl, rfl, rfl, fun k h => (nomatch h)⟩
  | [], _ :: _, h => by cases h
  | k :: ks, [], h => by cases h
  | k :: ks, ⟨none, v, p⟩ :: r, h => by cases h
  | k :: ks, ⟨some x, v, p⟩ :: r, h => by
    unfold kwB at h
    obtain ⟨h1, h2⟩ := ba h
    have h1 := of_decide_eq_true h1
    obtain ⟨k1, k2, k3, k4⟩ := kwB_nms (env := env) (pos := pos) h2
    refine ⟨?_, ?_, ?_, fun j hj => ?_⟩
    · show (true && (backToKw pos (keywordEach r env)).all (·.1.isSome)) = true
      rw [k1]
      rfl
    · show (false || (backToKw pos (keywordEach r env)).any (·.1.isNone)) = false
      rw [k2]
      rfl
    · show x :: (backToKw pos (keywordEach r env)).filterMap (·.1) = ps.getD k "" :: nmsOf ps ks
      rw [k3, List.getD_eq_getElem?_getD, h1]
      rfl
    · rcases List.mem_cons.mp hj with rfl | hj
      · exact (List.getElem?_eq_some_iff.mp h1).1
      · exact k4 j hj
theorem nm_at {ps : List Str} {k : Nat} (h : k < ps.length) : ps[k]? = some (ps.getD k "") := by
  rw [List.getD_eq_getElem?_getD, List.getElem?_eq_getElem h]
  rfl
theorem nm_inj {ps : List Str} (hn : ps.Nodup) {i j : Nat} (hi : i < ps.length) (hj : j < ps.length) (e : ps.getD i "" = ps.getD j "") : i = j := by
  have h : ps[i]? = ps[j]? := by rw [nm_at hi, nm_at hj, e]
  exact (List.getElem?_inj hi hn).mp h
theorem nms_nd {ps : List Str} (hn : ps.Nodup) : ∀ {ks : List Nat}, ks.Nodup → (∀ k ∈ ks, k < ps.length) → (nmsOf ps ks).Nodup
  | [], _, _ => List.nodup_nil
  | k :: ks, h, hk => by
    have h := List.nodup_cons.mp h
    refine List.nodup_cons.mpr ⟨fun z => ?_, nms_nd hn h.2 fun j hj => hk j (List.mem_cons_of_mem _ hj)⟩
    obtain ⟨j, hj, e⟩ := List.mem_map.mp z
    have := nm_inj hn (hk j (List.mem_cons_of_mem _ hj)) (hk k List.mem_cons_self) e
    subst this
    exact h.1 hj
theorem nms_look {ps : List Str} (hn : ps.Nodup) {i : Nat} (hi : i < ps.length) : ∀ {ks : List Nat} {ws : List Value} {v : Value}, (∀ k ∈ ks, k < ps.length) → (ks.zip ws).lookup i = some v → ((nmsOf ps ks).zip ws).lookup (ps.getD i "") = some v
  | [], _, _, _, h => by cases h
  | k :: ks, [], _, _, h => by cases h
  | k :: ks, w :: ws, v, hk, h => by
    rw [List.zip_cons_cons, List.lookup_cons] at h
    show ((ps.getD k "", w) :: (nmsOf ps ks).zip ws).lookup (ps.getD i "") = some v
    rw [List.lookup_cons]
    cases q : i == k with
    | true =>
      rw [q] at h
      rw [beq_iff_eq.mp q, beq_self_eq_true]
      exact h
    | false =>
      rw [q] at h
      rw [beq_eq_false_iff_ne.mpr fun e => (beq_eq_false_iff_ne.mp q) (nm_inj hn hi (hk k List.mem_cons_self) e)]
      exact nms_look hn hi (fun j hj => hk j (List.mem_cons_of_mem _ hj)) h
theorem zip_at {us : List Value} : ∀ {ps : List Str} {i : Nat} {p : Str} {v : Value}, ps.Nodup → ps[i]? = some p → us[i]? = some v → (ps.zip us).lookup p = some v := by
  induction us with
  | nil => intro ps i p v _ _ h; simp at h
  | cons u us ih =>
    intro ps i p v hn h1 h2
    cases ps with
    | nil => simp at h1
    | cons q ps =>
      have hn := List.nodup_cons.mp hn
      rw [List.zip_cons_cons, List.lookup_cons]
      cases i with
      | zero =>
        cases h1
        cases h2
        rw [beq_self_eq_true]
      | succ i =>
        have h1 : ps[i]? = some p := by simpa using h1
        rw [beq_eq_false_iff_ne.mpr fun e => hn.1 (by rw [← e]; exact List.mem_of_getElem? h1)]
        exact ih hn.2 h1 (by simpa using h2)
theorem look_app1 {l r : List (Str × Value)} {k : Str} {v : Value} (h : l.lookup k = some v) : (l ++ r).lookup k = some v := by
  induction l with
  | nil => cases h
  | cons p l ih =>
    obtain ⟨a, b⟩ := p
    rw [List.lookup_cons] at h
    rw [List.cons_append, List.lookup_cons]
    cases q : k == a with
    | true => rw [q] at h; exact h
    | false => rw [q] at h; exact ih h
theorem look_app2 {l r : List (Str × Value)} {k : Str} (h : l.lookup k = none) : (l ++ r).lookup k = r.lookup k := by
  induction l with
  | nil => rfl
  | cons p l ih =>
    obtain ⟨a, b⟩ := p
    rw [List.lookup_cons] at h
    rw [List.cons_append, List.lookup_cons]
    cases q : k == a with
    | true => rw [q] at h; cases h
    | false => rw [q] at h; exact ih h
theorem zip_off {us : List Value} : ∀ {ps : List Str} {i : Nat} {p : Str}, ps.Nodup → ps[i]? = some p → us[i]? = none → (ps.zip us).lookup p = none := by
  induction us with
  | nil => intro ps i p _ _ _; rw [List.zip_nil_right]; rfl
  | cons u us ih =>
    intro ps i p hn h1 h2
    cases ps with
    | nil => simp at h1
    | cons q ps =>
      have hn := List.nodup_cons.mp hn
      cases i with
      | zero => simp at h2
      | succ i =>
        have h1 : ps[i]? = some p := by simpa using h1
        rw [List.zip_cons_cons, List.lookup_cons, beq_eq_false_iff_ne.mpr fun e => hn.1 (by rw [← e]; exact List.mem_of_getElem? h1)]
        exact ih hn.2 h1 (by simpa using h2)
theorem full_look {ps : List Str} (hn : ps.Nodup) {ks : List Nat} (hk : ∀ k ∈ ks, k < ps.length) {us ws full : List Value} (h : argsOf 0 ps.length us (ks.zip ws) = some full) {i : Nat} {p : Str} {v : Value} (h1 : ps[i]? = some p) (h2 : full[i]? = some v) : (ps.zip us ++ (nmsOf ps ks).zip ws).lookup p = some v := by
  rcases (argsOf_get _ h).2 i v h2 with q | ⟨q, r⟩
  · exact look_app1 (zip_at hn h1 q)
  · rw [look_app2 (zip_off hn h1 q)]
    have hi := (List.getElem?_eq_some_iff.mp h1).1
    have e : p = ps.getD i "" := by
      have := nm_at hi
      rw [h1] at this
      exact Option.some.inj this
    rw [e]
    exact nms_look hn hi hk (by simpa using r)
/-! ### the call -/
section
variable {W : Wd} {xa : Xa} {call : Call} {N : List Str} {k : Nat} {sc : Scope} {hot : Bool} {X : Cx} {Wx : WX} {pos p : Pos} {x : Str}
abbrev Pk (W : Wd) (xa : Xa) (call : Call) (Wx : WX) (X : Cx) (m : MEs) (kws : List Keyword) : Prop := PK X kws (tEvs W xa call m Wx)
theorem PK.imp {kws : List Keyword} {t t' : TA} (h : PK X kws t) (hi : ∀ σ H Q, t' σ H Q → t σ H Q) : PK X kws t' := ⟨fun pos pins s σ H Q I q => h.run pos pins s σ H Q I (hi σ H Q q)⟩
theorem sks_nil : Pk W xa call Wx X .nil [] := by
  refine PK.imp pk_nil fun σ H Q ⟨e, ph, s, hs, hr, q⟩ => ?_
  unfold evs at q
  exact q ph H [] .refl hr .nil
theorem sks_cons {a : ME} {r : MEs} {nm : Option Str} {e : PySem.Expr} {kp : Pos} {kws : List Keyword} (ha : Pe W xa call Wx X a e) (hr : Pk W xa call Wx X r kws) : Pk W xa call Wx X (.cons a r) (⟨nm, e, kp⟩ :: kws) := by
  refine PK.imp (pk_cons ha hr) fun σ H Q ⟨e, ph, s, hs, hr, q⟩ => ?_
  unfold evs at q
  refine tEv_of hs hr (PR.mo QVs.mo) (PR.fst q) fun x s1 ph1 H1 v g1 r1 v1 hs1 q1 => tEvs_of hs1 r1 (PR.mo QVs.mo) (PR.fst q1) fun y s2 ph2 H2 w g2 r2 v2 hs2 q2 => ?_
  exact q2 ph2 H2 (v :: w) .refl r2 (.cons (v1.grow g2) v2)
theorem run_evk (g : Gd W call N k sc hot Wx X) {f : Nat} {F : FnT} (hF : W.G.fns[f]? = some F) (hr : Room k X.A) {pins : List (Addr × Obj)} {σ : L2.St} {H : Hp} {s : Shared} {Q : VK} {us ws full : List Value} {vs : List V} {ks : List Nat} (I : Inv X pins σ H s)
    (hn : (F.names.take F.ar).Nodup) (hl : (F.names.take F.ar).length = F.ar) (hk : ∀ j ∈ ks, j < F.ar ∧ us.length ≤ j) (hkn : ks.Nodup) (h1 : us.length + F.dfl.length ≤ F.ar) (h2 : ws.length = ks.length) (hfull : argsOf 0 F.ar us (ks.zip ws) = some full) (r : Vals vs full)
    (h : spEvK W call f F vs H Q (WE Wx σ)) : wpAny (model X.prog X.w) X.A (PySem.call (.ref (W.fa f)) us ((nmsOf (F.names.take F.ar) ks).zip ws)) (EP X pins σ Q) X.xe s := by
  have F1 := g.lib.fks f F W.hd hF
  have hk2 : ∀ j ∈ ks, j < (F.names.take F.ar).length := fun j hj => by rw [hl]; exact (hk j hj).1
  refine wpAny_call (codeAny_mono (F1 X.A X.stack s H us ws full (nmsOf (F.names.take F.ar) ks) vs Q (WE Wx σ) g.gu hr (g.eK ▸ I.env0) (by omega) (by rw [h2]; unfold nmsOf; rw [List.length_map]) (nms_nd hn hkn hk2) (fun z hz => ?_) ?_ (fun i q v e1 e2 => full_look hn hk2 (by rw [hl]; exact hfull) e1 e2) r h) fun r s' hq => ?_)
  · obtain ⟨j, hj, rfl⟩ := List.mem_map.mp hz
    obtain ⟨j1, j2⟩ := hk j hj
    have e := nm_at (hk2 j hj)
    rw [List.mem_iff_getElem?]
    exact ⟨j - us.length, by rw [List.getElem?_drop, show us.length + (j - us.length) = j by omega]; exact e⟩
  · rw [hl]
    exact (argsOf_get _ hfull).1
  cases r with
  | error e => exact passAt g.tk σ pins H s e s' I hq
  | ok fl =>
    cases fl with
    | ret u => exact I.after hq
    | next => exact False.elim hq
    | brk => exact False.elim hq
    | cont => exact False.elim hq
theorem se_fnk (g : Gd W call N k sc hot Wx X) (hh : hot = false) {f : Nat} {F : FnT} {es ke : MEs} {ks : List Nat} {dd : List (Nat × Val)} {xs : List PySem.Expr} {kws : List Keyword} (hF : W.G.fns[f]? = some F) (hf : fnN W.G f = some x) (hg : glB sc x = true) (hd : dbgB x = true) (hs : xs.all starB = true) (hn : NilOk es xs)
    (hkw : kwB (F.names.take F.ar) ks kws = true) (hkn : ks.Nodup) (hnd : F.names.Nodup) (hle : F.ar ≤ F.names.length) (ha : Pa W xa call Wx X es xs) (hb : Pk W xa call Wx X ke kws) :
    Pe W xa call Wx X (.fnk f es ks ke dd) (.Call (.Name x p) xs kws pos) := by
  refine ⟨fun pins s σ H Q I ⟨e, ph, m, hs0, hr, q⟩ => ?_⟩
  unfold ev at q
  obtain ⟨hm, hkp⟩ := g.lib.fnm f x hf
  have hkp : PySem.W.keepIn X.K (.ref (W.fa f)) = true := by rw [g.eK]; exact hkp
  have hl : (F.names.take F.ar).length = F.ar := by rw [List.length_take]; omega
  have hn2 : (F.names.take F.ar).Nodup := hnd.sublist (List.take_sublist _ _)
  obtain ⟨k1, k2, k3, k4⟩ := kwB_nms (env := X.env) (pos := pos) hkw
  let R : List V → List V → Hp → Prop := fun vs zs H2 => ∃ full : List V, vs.length + F.dfl.length ≤ F.ar ∧ (∀ j ∈ ks, vs.length ≤ j) ∧ zs.length = ks.length ∧ argsOf 0 F.ar vs (ks.zip zs) = some full ∧ spEvK W call f F full H2 Q (WE Wx σ)
  have T : tEvs W xa call es Wx σ H fun vs H1 => tEvs W xa call ke Wx σ H1 fun zs H2 => R vs zs H2 := by
    refine tEvs_of hs0 hr (PR.mo QV.mo) (PR.fst q) fun ys s1 ph1 H1 vs g1 r1 v1 hs1 q1 => ?_
    refine tEvs_of hs1 r1 (PR.mo QV.mo) (PR.fst q1) fun zs s2 ph2 H2 us g2 r2 v2 hs2 q2 => ?_
    simp only [hF] at q2
    split at q2
    · rename_i hc
      obtain ⟨c1, c2, c3⟩ := hc
      split at q2
      · rename_i full hfull
        have v1 := v1.grow g2
        obtain ⟨fv, e1, e2⟩ := args_vrs v2 F.ar v1 hfull
        exact ⟨fv, by rw [← v1.length]; exact c1, fun j hj => by rw [← v1.length]; exact of_decide_eq_true (List.all_eq_true.mp c2 j hj), by rw [← v2.length]; exact c3, e1, ph2, s2, full, r2, e2, q2⟩
      · exact q2.elim
    · exact q2.elim
  have fin : ∀ {s2 : Shared} {H2 : Hp} {us ws : List Value} {vs zs : List V}, Inv X pins σ H2 s2 → Vals vs us → Vals zs ws → R vs zs H2 → wpAny (model X.prog X.w) X.A (PySem.call (.ref (W.fa f)) us ((nmsOf (F.names.take F.ar) ks).zip ws)) (EP X pins σ Q) X.xe s2 := fun {s2 H2 us ws vs zs} I2 r rz ⟨full, c1, c2, c3, e1, q2⟩ => by
    obtain ⟨fu, e2, e3⟩ := args_vals rz F.ar r e1
    refine run_evk g hF (g.room hh |>.mono (by omega)) I2 hn2 hl (fun j hj => ⟨by rw [← hl]; exact k4 j hj, by rw [← r.length]; exact c2 j hj⟩) hkn (by rw [← r.length]; exact c1) (by rw [← rz.length]; exact c3) e2 e3 q2
  refine wpAny_Call_Name_kw (ld_glob I (gl_of g hg) hm ?_ (dbg_of hd).1)
  cases xs with
  | nil =>
    have T := nil_args hn rfl _ T
    refine PySem.W.callWith_KW0 (h₀ := X.base) I.ok.mod.kin hkp k1 (thn (hb.run pos pins s σ H _ I T) fun ws s2 ⟨zs, H2, I2, rz, q2⟩ => ⟨I2.kIn, ?_⟩) (by rw [k2]; rfl)
    rw [k3]
    exact fin I2 .nil rz q2
  | cons e es =>
    rw [List.all_cons] at hs
    obtain ⟨hs1, hs2⟩ := ba hs
    refine PySem.W.callWith_KW (h₀ := X.base) I.ok.mod.kin hkp k1 (thn (ha.run pos pins s σ H _ I T) fun us s1 ⟨vs, H1, I1, r, q⟩ => ?_) (by rw [k2, plain_of (by rw [List.all_cons, hs1, hs2]; rfl)]; rfl) (star_of hs1)
    refine thn (hb.run pos pins s1 σ H1 _ I1 q) fun ws s2 ⟨zs, H2, I2, rz, q2⟩ => ⟨I2.kIn, ?_⟩
    rw [k3]
    exact fin I2 r rz q2
end
end Ev

set_option Elab.async false
set_option linter.all false
set_option maxRecDepth 100000
set_option autoImplicit false
/-! Ev: max(xs, default=d) over a list of ints. -/
namespace Ev
open PySem PySem.Spec PyProof.Rows L2
section
variable {prog : Program} {w : World} {A : Around} {E : Value → Shared → Prop} {s : Shared} {l : Addr} {its : List Value} {ns : List Int} {d : Value} {Q : Value → Shared → Prop}
theorem maxd_raw (hh : A.handled = none) (hl : s.heap.IsList l its.toArray) (hi : IntsAre its ns)
    (h0 : ns = [] → ∀ h' tk, (∀ b o, s.heap.get? b = some o → h'.get? b = some o) → Q d { s with heap := h', toks := tk })
    (h : ∀ h' tk M t', (∀ b o, s.heap.get? b = some o → h'.get? b = some o) → M ∈ ns → (∀ a, a ∈ ns → a ≤ M) → Q (.int M t') { s with heap := h', toks := tk }) : wpAny (model prog w) A (PySem.call (.builtin "max") [.ref l] [(Str.ofString "default", d)]) Q E s := by
  obtain ⟨xs, e⟩ := hi.allInts.items
  have hn : numsOf (intItems xs).toList = ns := by rw [← e]; exact hi.numsOf
  rw [nums_intItems] at hn
  subst hn
  rw [e] at hl
  have hz : (intItems xs).size = xs.size := by simp [intItems]
  refine PySem.call_max_walkD (PySem.W.iter_listW (A := A.in1) hh hl fun s₂ e2 Wk st hfp hw hk => ?_)
  refine ⟨_, _, _, _, _, _, _, s.heap, (fun i j => decide (numAt xs i > numAt xs j)), rfl, Wk, st, hfp, hw, hk, fun hz0 s' m => ?_, fun hp => ⟨fun i j vi vj s' Q E _ hi hj hq => CmpOf.ints_gt (numAt xs) (fun _ _ => intItems_at) i j vi vj s' Q E hi hj hq, fun v s' hP m => ?_⟩⟩
  · obtain ⟨h', tk, rfl, hk'⟩ := PySem.W.moved_old e2 rfl m
    refine h0 ?_ h' tk hk'
    rw [hz] at hz0
    refine List.eq_nil_of_length_eq_zero ?_
    rw [List.length_map, Array.length_toList]; exact hz0
  · obtain ⟨h', tk, rfl, hk'⟩ := PySem.W.moved_old e2 rfl m
    rw [hz] at hP hp
    obtain ⟨t, rfl⟩ := intItems_at hP
    obtain ⟨h1, h2⟩ := argBest_gt (numAt xs) (xs.size - 1)
    refine h h' tk _ t hk' ?_ fun a ha => ?_
    · rw [numAt_eq]; exact PySem.getD_mem (by rw [List.length_map, Array.length_toList]; omega)
    · obtain ⟨j, hj, rfl⟩ := mem_getD ha
      rw [List.length_map, Array.length_toList] at hj
      rw [← numAt_eq]; exact h2 j (by omega)
end
def rMaxDf (K : PySem.W.Frag) : List V → List V → Hp → VK → Prop := fun vs zs H Q => ∃ (a : Addr) (ns : List Int) (d : Int), vs = [V.ref a] ∧ zs = [V.int d] ∧ SqL K H a (ns.map V.int) ∧ Q (.int (mxdI d ns)) H
theorem cr_maxDf {X : Cx} (hc : X.calm = true) : CallRK X (.builtin "max") [Str.ofString "default"] (rMaxDf X.K) := by
  intro pins s σ H xs zs us ws Q I r rz h
  obtain ⟨a, ns, d, rfl, rfl, hs, q⟩ := h
  obtain ⟨its, rv, hl, _⟩ := I.list hs
  rw [Vals.ref1 r]
  cases rz with
  | cons z1 z2 =>
    cases z2
    obtain ⟨t, rfl⟩ := z1
    refine maxd_raw (I.ok.hd hc) hl.isList rv.ints (fun e h' tk hk => ?_) fun h' tk M t' hk h1 h2 => ?_
    · subst e
      exact ⟨.int _, H, I.kept hk, ⟨t, rfl⟩, q⟩
    · cases ns with
      | nil => cases h1
      | cons n r => exact ⟨.int _, H, I.kept hk, ⟨t', rfl⟩, by rw [← maxI_max r n M h1 h2]; exact q⟩
/-! ### in the language -/
def mxP (mu : Bool) (ys zs : List Val) (s : Store) : R Val := match ys, zs with
  | [v], [w] => bifV .maxd mu [v, w] s
  | _, _ => .stk
theorem ev_mxd {G : Prog} {call : Call} {mu : Bool} {a d : ME} {e : Env} {s : Store} : ev G call (.bif .maxd mu (.cons a (.cons d .nil))) e s = (evs G call (.cons a .nil) e s).bind fun ys s1 => (evs G call (.cons d .nil) e s1).bind fun zs s2 => mxP mu ys zs s2 := by
  simp only [ev, evs]
  rcases ev G call a e s with ⟨x, s1⟩ | _ | _ <;> try rfl
  simp only [R.bind_ok]
  rcases ev G call d e s1 with ⟨y, s2⟩ | _ | _ <;> rfl
section
variable {W : Wd} {xa : Xa} {call : Call} {N : List Str} {k : Nat} {sc : Scope} {hot : Bool} {X : Cx} {Wx : WX} {pos p : Pos} {x : Str}
theorem se_maxd (g : Gd W call N k sc hot Wx X) {mu : Bool} {a d : ME} {y z : PySem.Expr} {kp : Pos} (hx : x = ("max" : Str)) (hg : glB sc x = true) (hh : hot = false) (hy : starB y = true)
    (ha : Pa W xa call Wx X (.cons a .nil) [y]) (hb : Pe W xa call Wx X d z) : Pe W xa call Wx X (.bif .maxd mu (.cons a (.cons d .nil))) (.Call (.Name x p) [y] [⟨some ("default" : Str), z, kp⟩] pos) := by
  have hm : X.mg x = none := by
    rw [hx]
    exact free_of g (by decide)
  have hv : bootBuiltins x = some (.builtin "max") := by
    rw [hx]
    decide +kernel
  have hn : x ≠ "__name__" ∧ (x == ("__debug__" : Str)) = false := by
    rw [hx]
    decide
  have hk : Pk W xa call Wx X (.cons d .nil) [⟨some ("default" : Str), z, kp⟩] := sks_cons hb sks_nil
  refine PE.imp (pe_callBK (ks := [Str.ofString "default"]) (cr_maxDf (g.calm hh)) (gl_of g hg) hm hv ha hk hn.1 hn.2 (by rw [star_of hy]; rfl) (by rw [star_of hy]; rfl)) fun σ H Q ⟨e, ph, s, hs, hr, q⟩ => ?_
  rw [ev_mxd] at q
  refine tEvs_of hs hr (PR.mo QV.mo) (PR.fst q) fun ys s1 ph1 H1 vs g1 r1 v1 hs1 q1 => ?_
  refine tEvs_of hs1 r1 (PR.mo QV.mo) (PR.fst q1) fun zs s2 ph2 H2 us g2 r2 v2 hs2 q2 => ?_
  have v1 := v1.grow g2
  rcases ys with _ | ⟨v, _ | ⟨_, _⟩⟩
  · exact q2.elim
  · rcases zs with _ | ⟨w, _ | ⟨_, _⟩⟩
    · exact q2.elim
    · obtain ⟨r, e1, q3⟩ := PR.ofO (show PR W ph2 H2 (QV W Q) _ (R.ofO (mxdV [v, w] s2) s2) from q2)
      unfold mxdV at e1
      split at e1
      · rename_i v' dd he
        cases he
        cases hl : asL s2 v with
        | none => rw [hl] at e1; cases e1
        | some ws =>
          rw [hl] at e1
          obtain ⟨ns, hi, rfl⟩ := Option.map_eq_some_iff.mp e1
          obtain ⟨b, us', e2, h2, r5⟩ := oneL_at (xs := [v]) r2 v1 (by unfold oneL; exact hl)
          have e3 := intsOf_vs r5 hi
          subst e3
          cases v2 with
          | cons k1 k2 =>
            cases k1
            cases k2
            exact ⟨b, ns, dd, e2, rfl, g.eK ▸ h2, q3.at r2 (.int _)⟩
      · cases e1
    · exact q2.elim
  · exact q2.elim
end
end Ev

set_option Elab.async false
set_option linter.all false
set_option maxRecDepth 100000
set_option autoImplicit false
/-! Ev: isinstance. -/
namespace Ev
open PySem PySem.Spec PyProof.Rows L2
section
variable {W : Wd} {xa : Xa} {call : Call} {N : List Str} {k : Nat} {sc : Scope} {hot : Bool} {X : Cx} {Wx : WX} {pos p : Pos} {x : Str}
def tyVv (W : Wd) : Ty → V
  | .int => .ty "int" | .bool => .ty "bool" | .str => .ty "str" | .tuple => .ty "tuple" | .list => .ty "list" | .vErr => .ty "ValueError"
  | .own d => .ref (W.ca d)
theorem tyVv_cls (t : Ty) : ClsV (tyVv W t) (tyVal W t) := by
  cases t <;> first | exact .ty _ | exact .own _
theorem boot_ty : bootBuiltins "int" = some (.type "int") ∧ bootBuiltins "bool" = some (.type "bool") ∧ bootBuiltins "str" = some (.type "str") ∧ bootBuiltins "tuple" = some (.type "tuple") ∧ bootBuiltins "list" = some (.type "list") ∧
    bootBuiltins "ValueError" = some (.type "ValueError") ∧ bootBuiltins "isinstance" = some (.builtin "isinstance") := by decide +kernel
/-- a class's name -/
theorem pe_ty (g : Gd W call N k sc hot Wx X) {t : Ty} (ho : tyOk W.G t = true) (hx : x = tyN W.G t) (hg : glB sc x = true) (hd : dbgB x = true) : PE X (.Name x p) (tC (tyVv W t)) := by
  obtain ⟨d1, d2, d3⟩ := dbg_of hd
  obtain ⟨b1, b2, b3, b4, b5, b6, b7⟩ := boot_ty
  cases t
  case own c =>
    have hc : c < W.G.cls.length := of_decide_eq_true ho
    have hC : W.G.cls[c]? = some W.G.cls[c] := List.getElem?_eq_getElem hc
    have hx : x = (W.G.cls[c]).name := by rw [hx]; unfold tyN; simp only [hC]
    obtain ⟨hm, _⟩ := g.lib.clm c _ hC
    rw [← hx] at hm
    exact pe_glob (gl_of g hg) hm rfl d1
  case int =>
    subst hx
    exact pe_bltn (gl_of g hg) (free_of g (show ("int" : Str) ∈ bltN by decide)) b1 rfl d3 d1
  case bool =>
    subst hx
    exact pe_bltn (gl_of g hg) (free_of g (show ("bool" : Str) ∈ bltN by decide)) b2 rfl d3 d1
  case str =>
    subst hx
    exact pe_bltn (gl_of g hg) (free_of g (show ("str" : Str) ∈ bltN by decide)) b3 rfl d3 d1
  case tuple =>
    subst hx
    exact pe_bltn (gl_of g hg) (free_of g (show ("tuple" : Str) ∈ bltN by decide)) b4 rfl d3 d1
  case list =>
    subst hx
    exact pe_bltn (gl_of g hg) (free_of g (show ("list" : Str) ∈ bltN by decide)) b5 rfl d3 d1
  case vErr =>
    subst hx
    exact pe_bltn (gl_of g hg) (free_of g (show ("ValueError" : Str) ∈ bltN by decide)) b6 rfl d3 d1
theorem ty_star {e : PySem.Expr} {r : List PySem.Expr} {ts : List Ty} (h : tyB W.G sc ts (e :: r) = true) : starB e = true := by
  cases ts with
  | nil => cases e <;> cases h
  | cons t ts => cases e <;> first | rfl | cases h
theorem pa_tys (g : Gd W call N k sc hot Wx X) : ∀ {ts : List Ty} {es : List PySem.Expr}, ts.all (tyOk W.G) = true → tyB W.G sc ts es = true → PA X es (fun _ H Q => Q (ts.map (tyVv W)) H)
  | [], [], _, _ => pa_nil
  | t :: ts, .Name x p :: es, ho, h => by
    rw [List.all_cons] at ho
    obtain ⟨h1, h2⟩ := ba (show ((decide (x = tyN W.G t) && (glB sc x && dbgB x)) && tyB W.G sc ts es) = true from h)
    obtain ⟨h3, h4⟩ := ba h1
    obtain ⟨h5, h6⟩ := ba h4
    exact PA.imp (pa_cons (pe_ty g (ba ho).1 (of_decide_eq_true h3) h5 h6) (pa_tys g (ba ho).2 h2) rfl) fun σ H Q q => q
theorem vals_all {ts : List Ty} : Paired ClsV (ts.map (tyVv W)) (ts.map (tyVal W)) := by
  induction ts with
  | nil => exact .nil
  | cons t ts ih => exact .cons (tyVv_cls t) ih
theorem kd_ty (g : Gd W call N k sc hot Wx X) {ph : List Addr} {m : Store} {H : Hp} (hr : Rep W ph m H) {a : Val} {v : V} {kd : Kd} (h : VR W ph H a v) (e : kdV m a = some kd) (ho : kdOk W.G kd = true) : TyX W.K H v (kdVal W kd) := by
  have lst : ∀ {a : Addr} {xs : List V}, SqL W.K H a xs → TyX W.K H (.ref a) (.type "list") := fun h => by
    rcases h with (h | ⟨o, h⟩) | ⟨o, its, n, h1, h2, _⟩
    · exact .base (.lst h)
    · exact .base (.frz h)
    · exact .kList h1 h2
  unfold kdV at e
  split at e
  · cases h; cases e; exact .base .non
  · cases h; cases e; exact .base (.bl _)
  · cases h; cases e; exact .base (.int _)
  · cases h; cases e; exact .base (.str _)
  · cases e
    cases h with
    | tup h _ =>
      rcases h with (h | ⟨o, h⟩) | ⟨o, its, n, h1, h2, _⟩
      · exact .base (.tup h)
      · exact .fTuple h
      · exact .kTuple h1 h2
  · cases e
    cases h with
    | lst h _ _ _ => exact lst (SqL.of h)
  · cases e
    cases h with
    | scr h _ => exact lst h.sq
  · cases e
    cases h with
    | obj h _ _ _ _ =>
      have I := g.lib.ins _ ho
      exact .base (.ins h I.cl I.ha I.hn I.ht I.hm)
  · cases h
  · split at e
    · rename_i hc
      cases e
      cases h with
      | ref hn =>
        obtain ⟨vs, e1, _⟩ := hr.cell _ _ _ hn hc
        exact lst (SqL.of e1)
    · rename_i hc
      cases e
      cases h with
      | ref hn =>
        obtain ⟨dx, vs, e1, _⟩ := hr.cell _ _ _ hn hc
        have I := g.lib.ins _ ho
        exact .base (.ins e1 I.cl I.ha I.hn I.ht I.hm)
    · cases e
  · cases e
theorem kit_any (g : Gd W call N k sc hot Wx X) {kd : Kd} (ho : kdOk W.G kd = true) : ∀ {ts : List Ty} {b : Bool}, ts.all (tyOk W.G) = true → anyK W.G kd ts = some b → PySem.W.kitAny W.K (kdVal W kd) (ts.map (tyVal W)) = some b
  | [], b, _, e => by
    cases e
    exact kitAny_nil
  | t :: ts, b, ht, e => by
    rw [List.all_cons] at ht
    obtain ⟨h1, h2⟩ := ba ht
    unfold anyK at e
    cases hk : tyK W.G kd t with
    | none => rw [hk] at e; cases e
    | some c =>
      rw [hk] at e
      have q := g.lib.kit kd t c ho h1 hk
      cases c with
      | true =>
        cases e
        exact kitAny_cons q (fun z => by cases z) (fun _ => rfl)
      | false => exact kitAny_cons q (fun _ => kit_any g ho h2 e) (fun z => by cases z)

theorem anyTy_at (g : Gd W call N k sc hot Wx X) {ph : List Addr} {m : Store} {H : Hp} (hr : Rep W ph m H) {a : Val} {v : V} {ts : List Ty} {b : Bool} (h : VR W ph H a v) (ht : ts.all (tyOk W.G) = true) (e : anyTy W.G m a ts = some b) :
    ∃ t, TyX W.K H v t ∧ PySem.W.kitAny W.K t (ts.map (tyVal W)) = some b ∧ ∀ t0, ts = [t0] → PySem.W.kitOne W.K t (tyVal W t0) = some b := by
  unfold anyTy at e
  split at e
  · rename_i kd hk
    split at e
    · rename_i ho
      refine ⟨kdVal W kd, kd_ty g hr h hk ho, kit_any g ho ht e, fun t0 e0 => ?_⟩
      subst e0
      unfold anyK at e
      cases hq : tyK W.G kd t0 with
      | none => rw [hq] at e; cases e
      | some c =>
        rw [hq] at e
        have q := g.lib.kit kd t0 c ho (by simpa using ht) hq
        cases c with
        | true =>
          cases e
          exact q
        | false =>
          cases e
          exact q
    · cases e
  · cases e
theorem nm_isi : (("isinstance" : Str) ≠ "__name__") ∧ (("isinstance" : Str) == ("__debug__" : Str)) = false := by decide
theorem se_isi (g : Gd W call N k sc hot Wx X) {a : ME} {ts : List Ty} {v t : PySem.Expr} {one : Bool} (hx : x = ("isinstance" : Str)) (hg : glB sc x = true) (hv : starB v = true) (ht : ts.all (tyOk W.G) = true) (hl : ts.length < 100)
    (hm : (if one then tyB W.G sc ts [t] else match t with
      | .Tuple es _ _ => tyB W.G sc ts es
      | _ => false) = true) (ha : Pe W xa call Wx X a v) : Pe W xa call Wx X (.isi a ts one) (.Call (.Name x p) [v, t] [] pos) := by
  subst hx
  obtain ⟨n1, n2⟩ := nm_isi
  have hb := boot_ty.2.2.2.2.2.2
  have hf : X.mg "isinstance" = none := free_of g (by decide)
  have fin : ∀ (e : Env) (ph : List Addr) (s : Store) (σ : L2.St) (H : Hp) (Q : VK) (C : V → Hp → Prop), RS W xa ph H e σ → Rep W ph s H → PR W ph H (QV W Q) (fun c d H' => Wx c d σ H') (ev W.G call (.isi a ts one) e s) →
      (∀ (y : Val) (v : V) (H1 : Hp) (b : Bool) (ph1 : List Addr) (s1 : Store), Rep W ph1 s1 H1 → VR W ph1 H1 y v → anyTy W.G s1 y ts = some b → QV W Q (.bl b) s1 ph1 H1 → C v H1) → tEv W xa call a Wx σ H C := fun e ph s σ H Q C hs hr q hC => by
    unfold ev at q
    refine tEv_of hs hr (PR.mo QV.mo) (PR.fst q) fun x s1 ph1 H1 v g1 r1 v1 hs1 q1 => ?_
    obtain ⟨z, e1, q3⟩ := PR.ofO q1
    cases hb : anyTy W.G s1 x ts with
    | none => rw [hb] at e1; cases e1
    | some b =>
      rw [hb] at e1
      cases e1
      exact hC x v H1 b ph1 s1 r1 v1 hb q3
  cases one with
  | true =>
    have hm : tyB W.G sc ts [t] = true := hm
    have hst : starB t = true := ty_star hm
    obtain ⟨t0, rfl⟩ : ∃ t0, ts = [t0] := by
      cases ts with
      | nil => cases t <;> cases hm
      | cons t0 r =>
        cases t with
        | Name y yp =>
          cases r with
          | nil => exact ⟨t0, rfl⟩
          | cons t1 r =>
            have := ba (show ((decide (y = tyN W.G t0) && (glB sc y && dbgB y)) && tyB W.G sc (t1 :: r) []) = true from hm)
            cases this.2
        | _ => cases hm
    have hp : PA X [v, t] (tCons (tEv W xa call a Wx) fun _ H Q => Q [tyVv W t0] H) := pa_cons ha (pa_tys g ht hm) (star_of hv)
    refine PE.imp (pe_callB call_isi (gl_of g hg) hf hb hp n1 n2 (star_of hv) (plain_of (by simp [hst]))) fun σ H Q ⟨e, ph, s, hs, hr, q⟩ => ?_
    refine fin e ph s σ H Q _ hs hr q fun y v H1 b ph1 s1 r1 v1 hb q1 => ?_
    obtain ⟨t, h1, h2, h3⟩ := anyTy_at g r1 v1 ht hb
    exact ⟨v, tyVv W t0, t, tyVal W t0, b, rfl, tyVv_cls t0, g.eK ▸ h1, g.eK ▸ h3 t0 rfl, q1.at r1 (.bl _)⟩
  | false =>
    cases t with
    | Tuple es kk tp =>
      have hm : tyB W.G sc ts es = true := hm
      have hp : PA X [v, .Tuple es kk tp] (tCons (tEv W xa call a Wx) (tCons (tTup (fun _ H Q => Q (ts.map (tyVv W)) H)) tNil)) := pa_cons ha (pa_cons (pe_tup (pa_tys g ht hm)) pa_nil rfl) (star_of hv)
      refine PE.imp (pe_callB call_isiT (gl_of g hg) hf hb hp n1 n2 (star_of hv) rfl) fun σ H Q ⟨e, ph, s, hs, hr, q⟩ => ?_
      refine fin e ph s σ H Q _ hs hr q fun y v H1 b ph1 s1 r1 v1 hb q1 => ?_
      refine ⟨by rw [List.length_map, sizeLine_eq]; omega, fun tp htp => ?_⟩
      obtain ⟨t, h1, h2, h3⟩ := anyTy_at g (r1.fresh (o := .tup (ts.map (tyVv W))) htp) (v1.grow (Grow.fresh htp)) ht hb
      exact ⟨v, tp, ts.map (tyVv W), t, ts.map (tyVal W), b, rfl, upd_same, vals_all, g.eK ▸ h1, g.eK ▸ h2, q1 ph1 _ (.bl b) (Grow.fresh htp) (r1.fresh htp) (.bl _)⟩
    | _ => cases hm
end
end Ev

set_option Elab.async false
set_option linter.all false
set_option maxRecDepth 100000
set_option autoImplicit false
/-! Ev: == and + by a class's own defs. -/
namespace Ev
open PySem PySem.Spec PyProof.Rows L2
/-- an operation that may raise -/
def OpRS (X : Cx) (f : Value → Value → Sem Value) (r : L2.St → R2) : Prop :=
  ∀ (pins : List (Addr × Obj)) (s : Shared) (σ : L2.St) (H : Hp) (x y : V) (v u : Value) (Q : VK), Inv X pins σ H s → RelV x v → RelV y u → r σ x y H Q →
    wpAny (model X.prog X.w) X.A (f v u) (EP X pins σ Q) X.xe s
def tOpS (r : L2.St → R2) (ta tb : TE) : TE := fun σ H Q => ta σ H fun x H1 => tb σ H1 fun y H2 => r σ x y H2 Q
section
variable {X : Cx} {a b : PySem.Expr} {pos : Pos} {ta tb : TE}
theorem pe_opS {op : Operator} {r : L2.St → R2} (ho : OpRS X (binaryOp op) r) (ha : PE X a ta) (hb : PE X b tb) : PE X (.BinOp a op b pos) (tOpS r ta tb) := by
  refine ⟨fun pins s σ H Q I h => ?_⟩
  exact wpAny_BinOp (binT ha hb I h fun v u s2 x y H2 I2 rx ry q => ho pins s2 σ H2 x y v u Q I2 rx ry q)
theorem pe_cmpS {op : CmpOp} {r : L2.St → R2} (ho : OpRS X (compareOp op) r) (ha : PE X a ta) (hb : PE X b tb) (hm : behindInMarks op b = false) : PE X (.Compare a [op] [b] pos) (tOpS r ta tb) := by
  refine ⟨fun pins s σ H Q I h => ?_⟩
  exact wpAny_Compare1 (binT ha hb I h fun v u s2 x y H2 I2 rx ry q => ho pins s2 σ H2 x y v u Q I2 rx ry q) hm
theorem pt_cmpS {op : CmpOp} {r : L2.St → R2} (ho : OpRS X (compareOp op) r) (ha : PE X a ta) (hb : PE X b tb) (hm : behindInMarks op b = false) : PT X (.Compare a [op] [b] pos) (tTest (tOpS r ta tb)) := by
  refine ⟨fun pins s σ H Q I h => ?_⟩
  refine wpAny_isTrue_Compare1 (thn (ha.run pins s σ H _ I h) fun v s1 ⟨x, H1, I1, r1, q1⟩ => thn (hb.run pins s1 σ H1 _ I1 q1) fun u s2 ⟨y, H2, I2, r2, q2⟩ =>
    thn (ho pins s2 σ H2 x y v u _ I2 r1 r2 q2) fun c s3 ⟨z, H3, I3, r3, k, e, q3⟩ => ?_) hm
  subst e
  cases r3
  exact wpAny_truthy_bool ⟨H3, I3, q3⟩
end
section
variable {W : Wd} {xa : Xa} {call : Call} {N : List Str} {k : Nat} {sc : Scope} {hot : Bool} {X : Cx} {Wx : WX} {pos : Pos}
def rCmo (W : Wd) (call : Call) (Wx : WX) (o : CmpOp) : L2.St → R2 := fun σ x y H Q => ∃ (ph : List Addr) (m : Store) (a b : Val), Rep W ph m H ∧ VR W ph H a x ∧ VR W ph H b y ∧ PR W ph H (QV W Q) (WE Wx σ) (cmoV W.G call o a b m)
def rBno (W : Wd) (call : Call) (Wx : WX) (o : Operator) : L2.St → R2 := fun σ x y H Q => ∃ (ph : List Addr) (m : Store) (a b : Val), Rep W ph m H ∧ VR W ph H a x ∧ VR W ph H b y ∧ PR W ph H (QV W Q) (WE Wx σ) (bnoV W.G call o a b m)
theorem ownM_at (g : Gd W call N k sc hot Wx X) {ph : List Addr} {m : Store} {H : Hp} (hr : Rep W ph m H) {x : Val} {v : V} {i c f : Nat} (h : VR W ph H x v) (e : ownM W.G m i x = some (c, f)) :
    ∃ a dx fs, v = .ref a ∧ H a = some (.ins (W.ca c) dx fs) ∧ Meth W.K (W.ca c) (W.G.idn i) (W.fa f) := by
  unfold ownM at e
  split at e
  · rename_i c' ks ys hi
    obtain ⟨f', hm, e2⟩ := Option.map_eq_some_iff.mp e
    cases e2
    obtain ⟨a, dx, vs, rfl, h1, _, _⟩ := insOf_at hr h hi
    unfold methOf at hm
    split at hm
    · rename_i C hC
      split at hm
      · cases hm
      · obtain ⟨_, m1⟩ := g.lib.mth _ C i _ hC hm
        exact ⟨a, dx, _, rfl, h1, m1⟩
    · cases hm
  · cases e
theorem ca_ne (g : Gd W call N k sc hot Wx X) {T : String} {c : Nat} : (Value.type T == Value.ref (W.ca c)) = false := rfl
theorem fit_at (g : Gd W call N k sc hot Wx X) {ph : List Addr} {m : Store} {H : Hp} (hr : Rep W ph m H) {y : Val} {v : V} {c : Nat} (hc : c < W.G.cls.length) (h : VR W ph H y v) (e : fitB W.G m y c = true) :
    ∃ kd, kdV m y = some kd ∧ kdOk W.G kd = true ∧ PySem.W.notFirst W.K (W.ca c) (kdVal W kd) = true := by
  unfold fitB at e
  split at e
  · rename_i kd hk
    obtain ⟨h1, h2⟩ := ba e
    refine ⟨kd, hk, h1, ?_⟩
    have go : ∀ t, tyK W.G kd (.own c) = some false → kdVal W kd = t → (t == Value.ref (W.ca c)) = false → PySem.W.notFirst W.K (W.ca c) (kdVal W kd) = true := fun t h3 h4 h5 => by
      have q := g.lib.kit kd (.own c) false h1 (decide_eq_true hc) h3
      unfold PySem.W.kitOne at q
      have q : (if (kdVal W kd == Value.ref (W.ca c)) = true then some true else PySem.W.kitCls W.K (kdVal W kd) (.ref (W.ca c))) = some false := q
      rw [h4, h5] at q
      simp only [Bool.false_eq_true, if_false] at q
      unfold PySem.W.kitCls at q
      simp only at q
      split at q
      · unfold PySem.W.notFirst
        rw [h4, q, h5]; rfl
      · cases q
    cases kd with
    | ins d =>
      simp only [Bool.or_eq_true, beq_iff_eq, Bool.not_eq_true'] at h2
      rcases h2 with rfl | h2
      · unfold PySem.W.notFirst
        simp [kdVal]
      · by_cases hd : (Value.ref (W.ca d) == Value.ref (W.ca c)) = true
        · unfold PySem.W.notFirst
          show (Value.ref (W.ca d) == Value.ref (W.ca c) || _) = true
          rw [hd]; rfl
        · exact go (.ref (W.ca d)) (by show some (subC W.G d c) = _; rw [h2]) rfl (by simpa using hd)
    | exv d => cases h2
    | non => exact go _ rfl rfl rfl
    | bl => exact go _ rfl rfl rfl
    | int => exact go _ rfl rfl rfl
    | str => exact go _ rfl rfl rfl
    | tup => exact go _ rfl rfl rfl
    | lst => exact go _ rfl rfl rfl
  · cases e
theorem op_cmo (g : Gd W call N k sc hot Wx X) (hh : hot = false) (o : CmpOp) : OpRS X (compareOp o) (rCmo W call Wx o) := by
  intro pins s σ H x y v u Q I rx ry ⟨ph, m, a, b, hr, ha, hb, q⟩
  have plain : PR W ph H (QV W Q) (WE Wx σ) (R.ofO ((cmpV m o a b).map .bl) m) → wpAny (model X.prog X.w) X.A (compareOp o v u) (EP X pins σ Q) X.xe s := fun q => by
    obtain ⟨z, e1, q3⟩ := PR.ofO q
    cases h : cmpV m o a b with
    | none => rw [h] at e1; cases e1
    | some c =>
      rw [h] at e1
      cases e1
      exact op_cmp g.eK g.hu o pins s σ H x y v u Q I rx ry ⟨ph, m, a, b, c, hr, ha, hb, h, q3⟩
  unfold cmoV at q
  split at q
  · rename_i c f he
    split at q
    · rename_i hf
      obtain ⟨a1, dx, fs, rfl, h1, m1⟩ := ownM_at g hr ha he
      have hc : c < W.G.cls.length := by
        rcases Nat.lt_or_ge c W.G.cls.length with z | z
        · exact z
        · unfold ownM at he
          split at he
          · obtain ⟨f', hm, e2⟩ := Option.map_eq_some_iff.mp he
            cases e2
            unfold methOf at hm
            rw [List.getElem?_eq_none z] at hm
            cases hm
          · cases he
      obtain ⟨kd, hk, ho, hnf⟩ := fit_at g hr hc hb hf
      have ty := kd_ty g hr hb hk ho
      obtain ⟨P, KX, hP, _⟩ := kit_of I ry (g.eK ▸ ty)
      cases rx
      obtain ⟨mA, J, _⟩ := ins_get I.hok h1
      obtain ⟨od, J, _⟩ := J.look
      obtain ⟨mm, hF⟩ := I.fr
      have hs : PySem.W.findIn X.K (.ref (W.ca c)) "__eq__" = some (some (.ref (W.fa f))) := by rw [g.eK]; exact m1.at_
      refine PySem.W.cmp_K (op := .Eq) (tb := kdVal W kd) ((g.room hh).mono (by omega) : Room k X.A).units0 hF I.ok.mod.kin J (KX.ty _ _ I.kIn hP) (g.eK ▸ hnf) hs (by rw [g.eK]; exact m1.fn) ?_
      have hsp : spEv W call f [V.ref a1, y] H Q (WE Wx σ) := by
        refine ⟨ph, m, [a, b], hr, .cons ha (.cons hb .nil), ?_⟩
        revert q
        cases call f [a, b] m with
        | stk => exact fun q => q
        | ex c ks xs m => exact fun q => q
        | ok r m2 =>
          intro q
          cases r with
          | bl z => exact q
          | _ => exact q.elim
      refine wpAny_mono (run_ev (us := [.ref a1, u]) (vs := [.ref a1, y]) g ((g.room hh).mono (by omega)) I (.cons rfl (.cons ry .nil)) hsp) (fun w s' z => ?_) fun _ _ x => x
      obtain ⟨z', H', I', rz, qz⟩ := z
      exact SlX.cmpback rz ⟨z', H', I', rz, qz⟩
    · exact q.elim
  · exact plain q
theorem se_cmo (g : Gd W call N k sc hot Wx X) (hh : hot = false) {o : CmpOp} {a b : ME} {l r : PySem.Expr} (hm : setB r = true) (ha : Pe W xa call Wx X a l) (hb : Pe W xa call Wx X b r) : Pe W xa call Wx X (.cmo o a b) (.Compare l [o] [r] pos) := by
  refine PE.imp (pe_cmpS (op_cmo g hh o) ha hb (mark_of hm)) fun σ H Q ⟨e, ph, s, hs, hr, q⟩ => ?_
  unfold ev at q
  exact tEv_of hs hr (PR.mo QV.mo) (PR.fst q) fun x s1 ph1 H1 v g1 r1 v1 hs1 q1 => tEv_of hs1 r1 (PR.mo QV.mo) (PR.fst q1) fun y s2 ph2 H2 w g2 r2 v2 hs2 q2 => ⟨ph2, s2, x, y, r2, v1.grow g2, v2, q2⟩
theorem cmoV_bl {G : Prog} {o : CmpOp} {a b r : Val} {m m2 : Store} (h : cmoV G call o a b m = .ok r m2) : ∃ z, r = .bl z := by
  unfold cmoV at h
  split at h
  · split at h
    · rename_i c f _ _
      cases hc : call f [a, b] m with
      | stk => rw [hc] at h; cases h
      | ex c ks xs m => rw [hc] at h; cases h
      | ok r2 m3 =>
        rw [hc] at h
        cases r2 with
        | bl z => cases h; exact ⟨z, rfl⟩
        | _ => cases h
    · cases h
  · revert h
    generalize cmpV m _ a b = z
    intro h
    cases z with
    | none => cases h
    | some z => cases h; exact ⟨z, rfl⟩
theorem st_cmo (g : Gd W call N k sc hot Wx X) (hh : hot = false) {o : CmpOp} {a b : ME} {l r : PySem.Expr} (hm : setB r = true) (ha : Pe W xa call Wx X a l) (hb : Pe W xa call Wx X b r) : Pt W xa call Wx X (.cmo o a b) (.Compare l [o] [r] pos) := by
  refine PT.imp (pt_cmpS (op_cmo g hh o) ha hb (mark_of hm)) fun σ H Q ⟨e, ph, s, hs, hr, q⟩ => ?_
  unfold evT at q
  unfold ev at q
  have q : PR W ph H (QB W Q) (fun c d H' => Wx c d σ H') ((ev W.G call a e s).bind fun x s1 => (ev W.G call b e s1).bind fun y s2 => (cmoV W.G call o x y s2).bind fun z s3 => R.ofO (truth s3 z) s3) := by
    cases h1 : ev W.G call a e s with
    | stk => rw [h1] at q; exact q
    | ex c ks xs m => rw [h1] at q; exact q
    | ok x s1 =>
      rw [h1] at q
      cases h2 : ev W.G call b e s1 with
      | stk => rw [R.bind_ok, h2]; rw [R.bind_ok, h2] at q; exact q
      | ex c ks xs m => rw [R.bind_ok, h2]; rw [R.bind_ok, h2] at q; exact q
      | ok y s2 =>
        rw [R.bind_ok, h2, R.bind_ok]
        rw [R.bind_ok, h2, R.bind_ok] at q
        exact q
  refine tEv_of hs hr (PR.mo QB.mo) (PR.fst q) fun x s1 ph1 H1 v g1 r1 v1 hs1 q1 => tEv_of hs1 r1 (PR.mo QB.mo) (PR.fst q1) fun y s2 ph2 H2 w g2 r2 v2 hs2 q2 => ?_
  refine ⟨ph2, s2, x, y, r2, v1.grow g2, v2, ?_⟩
  cases h3 : cmoV W.G call o x y s2 with
  | stk => rw [h3] at q2; exact q2
  | ex c ks xs m => rw [h3] at q2; exact q2
  | ok z s3 =>
    rw [h3] at q2
    obtain ⟨z, rfl⟩ := cmoV_bl h3
    intro ph3 H3 v3 g3 r3 v4
    cases v4
    exact ⟨z, rfl, q2 ph3 H3 g3 r3⟩
theorem op_bno (g : Gd W call N k sc hot Wx X) (hh : hot = false) (o : Operator) : OpRS X (binaryOp o) (rBno W call Wx o) := by
  intro pins s σ H x y v u Q I rx ry ⟨ph, m, a, b, hr, ha, hb, q⟩
  unfold bnoV at q
  split at q
  · rename_i c f he
    split at q
    · rename_i hf
      obtain ⟨i, hi, he⟩ := Option.bind_eq_some_iff.mp he
      obtain ⟨a1, dx, fs, rfl, h1, m1⟩ := ownM_at g hr ha he
      unfold sameC at hf
      split at hf
      · rename_i kd hk
        obtain ⟨ho, h2⟩ := ba hf
        cases kd with
        | ins d =>
          have h2 : d = c := by simpa using h2
          subst h2
          have ty := kd_ty g hr hb hk ho
          obtain ⟨P, KX, hP, _⟩ := kit_of I ry (g.eK ▸ ty)
          cases rx
          obtain ⟨mA, J, _⟩ := ins_get I.hok h1
          obtain ⟨od, J, _⟩ := J.look
          obtain ⟨mm, hF⟩ := I.fr
          have hid : W.G.idn i = PySem.dunder o.info.2 := by
            unfold Prog.idn
            cases o <;> first | (cases hi; rfl) | (cases hi)
          have hs : PySem.W.findIn X.K (.ref (W.ca d)) (PySem.dunder o.info.2) = some (some (.ref (W.fa f))) := by rw [g.eK, ← hid]; exact m1.at_
          refine PySem.W.binop_K (op := o) hF I.ok.mod.kin J (KX.ty _ _ I.kIn hP) (by rw [g.eK]; exact (g.lib.ins d ho).sf) hs (by rw [g.eK]; exact m1.fn) ?_
          refine wpAny_mono (run_ev (us := [.ref a1, u]) (vs := [.ref a1, y]) g ((g.room hh).mono (by omega)) I (.cons rfl (.cons ry .nil)) ⟨ph, m, [a, b], hr, .cons ha (.cons hb .nil), q⟩) (fun w s' z => ?_) fun _ _ x => x
          obtain ⟨z', H', I', rz, qz⟩ := z
          exact SlX.cmpback rz ⟨z', H', I', rz, qz⟩
        | _ => cases h2
      · cases hf
    · exact q.elim
  · obtain ⟨z, e1, q3⟩ := PR.ofO q
    exact op_bin g.eK o pins s σ H x y v u Q I rx ry ⟨ph, m, a, b, z, hr, ha, hb, e1, q3⟩
theorem se_bno (g : Gd W call N k sc hot Wx X) (hh : hot = false) {o : Operator} {a b : ME} {l r : PySem.Expr} (ha : Pe W xa call Wx X a l) (hb : Pe W xa call Wx X b r) : Pe W xa call Wx X (.bno o a b) (.BinOp l o r pos) := by
  refine PE.imp (pe_opS (op_bno g hh o) ha hb) fun σ H Q ⟨e, ph, s, hs, hr, q⟩ => ?_
  unfold ev at q
  exact tEv_of hs hr (PR.mo QV.mo) (PR.fst q) fun x s1 ph1 H1 v g1 r1 v1 hs1 q1 => tEv_of hs1 r1 (PR.mo QV.mo) (PR.fst q1) fun y s2 ph2 H2 w g2 r2 v2 hs2 q2 => ⟨ph2, s2, x, y, r2, v1.grow g2, v2, q2⟩
end
end Ev

set_option Elab.async false
set_option linter.all false
set_option maxRecDepth 100000
set_option autoImplicit false
/-! Ev: a list repeated, to be changed. -/
namespace Ev
open PySem PySem.Spec PyProof.Rows L2
section
variable {W : Wd} {xa : Xa} {call : Call} {N : List Str} {k : Nat} {sc : Scope} {hot : Bool} {X : Cx} {Wx : WX} {pos : Pos}
theorem op_mlr (eK : X.K = W.K) : OpR X (binaryOp .Mult) (fun x y H Q => ∃ (ph : List Addr) (m : Store) (a b : Val) (E : XK), Rep W ph m H ∧ VR W ph H a x ∧ VR W ph H b y ∧ PR W ph H (QV W Q) E (mulR m a b)) := by
  intro pins s σ H x y v u Q I rx ry ⟨ph, m, a, b, E, hr, ha, hb, q⟩
  unfold mulR at q
  split at q
  · rename_i zs hz
    unfold mulM at hz
    split at hz
    · rename_i xs k hm
      obtain ⟨l, vs, rfl, h1, r1⟩ := asM_at hr ha hm
      cases hb with
      | int k =>
        split at hz
        · rename_i hc
          cases hz
          rw [r1.length] at hc
          exact op_rep pins s σ H _ _ v u Q I rx ry ⟨_, _, _, rfl, rfl, h1, hc.1, hc.2.1, hc.2.2, put_ok hr (r1.rep _) q⟩
        · cases hz
    · cases hz
  · exact q.elim
theorem se_mlr (g : Gd W call N k sc hot Wx X) {a b : ME} {l r : PySem.Expr} (ha : Pe W xa call Wx X a l) (hb : Pe W xa call Wx X b r) : Pe W xa call Wx X (.mlr a b) (.BinOp l .Mult r pos) := by
  refine PE.imp (pe_op (op_mlr g.eK) ha hb) fun σ H Q ⟨e, ph, s, hs, hr, q⟩ => ?_
  unfold ev at q
  exact tEv_of hs hr (PR.mo QV.mo) (PR.fst q) fun x s1 ph1 H1 v g1 r1 v1 hs1 q1 => tEv_of hs1 r1 (PR.mo QV.mo) (PR.fst q1) fun y s2 ph2 H2 w g2 r2 v2 hs2 q2 => ⟨ph2, s2, x, y, _, r2, v1.grow g2, v2, q2⟩
end
end Ev

set_option Elab.async false
set_option linter.all false
set_option maxRecDepth 100000
/-! Ev: zip of a tuple and a list, in either order. -/
namespace Ev
open PySem PySem.Spec PyProof.Rows L2
/-- a list (t) or a tuple -/
def SqX (K : PySem.W.Frag) (t : Bool) (H : Hp) (a : Addr) (xs : List V) : Prop := match t with
  | true => SqL K H a xs
  | false => SqT K H a xs
def ItX (t : Bool) (h : Heap) (i l : Addr) (k : Nat) : Prop := match t with
  | true => h.IsListIter i l k
  | false => h.IsTupleIter i l k
def HsX (t : Bool) (h : Heap) (l : Addr) (xs : Array Value) : Prop := match t with
  | true => h.IsList l xs
  | false => h.IsTuple l xs
theorem drawsX {prog : Program} {w : World} {A : Around} (t : Bool) (hh : A.handled = none) (it l : Addr) (hne : l ≠ it) (items : Array Value) :
    Draws prog w A it [it, l] items.size (fun i v => items[i]? = some v) (fun i h => ItX t h it l i ∧ HsX t h l items) := by
  cases t
  · exact Draws.tuple hh it l hne items
  · exact Draws.list hh it l hne items
theorem ItX.at {t : Bool} {h h' : Heap} {i l : Addr} {k : Nat} (x : ItX t h i l k) (hk : ∀ o, h.get? i = some o → h'.get? i = some o) : ItX t h' i l k := by
  cases t
  · exact Heap.IsTupleIter.at x hk
  · exact Heap.IsListIter.at x hk
theorem ItX.obj {t : Bool} {h : Heap} {i l : Addr} {k : Nat} (x : ItX t h i l k) : ∃ o, h.get? i = some o ∧ ∀ v, o.data ≠ .cell v := by
  cases t
  · obtain ⟨o, e, _, d⟩ := x
    exact ⟨o, e, fun v q => by rw [d] at q; cases q⟩
  · obtain ⟨o, e, _, d⟩ := x
    exact ⟨o, e, fun v q => by rw [d] at q; cases q⟩
section
variable {X : Cx} {pins : List (Addr × Obj)} {σ : L2.St} {H : Hp} {s : Shared} {t : Bool} {a : Addr} {xs ys : List V}
theorem inv_sqX (I : Inv X pins σ H s) (h : SqX X.K t H a xs) : ∃ its : List Value, Vals xs its ∧ HsX t s.heap a its.toArray ∧ a < s.heap.objs.size := by
  cases t
  · obtain ⟨its, r, p, _⟩ := I.tuple h
    obtain ⟨o, ho, _⟩ := id p
    exact ⟨its, r, p, Heap.lt_size ho⟩
  · obtain ⟨its, r, p, _⟩ := I.list h
    exact ⟨its, r, p.isList, p.lt⟩
theorem inv_sqX_inj (I : Inv X pins σ H s) (h : SqX X.K t H a xs) (h' : SqX X.K t H a ys) : xs = ys := by
  cases t
  · exact I.tuple_inj h h'
  · exact I.list_inj h h'
end
/-- the two as they stand at each turn, the items in new pairs -/
def ItzX (K : PySem.W.Frag) (t u : Bool) (a b : Addr) : It :=
  ⟨fun i H => ∃ (xs ys : List V) (x y : V), SqX K t H a xs ∧ SqX K u H b ys ∧ xs[i]? = some x ∧ ys[i]? = some y,
    fun i H v H' => ∃ T x y, v = .ref T ∧ H T = none ∧ H' = upd H T (.tup [x, y]) ∧ (∀ xs, SqX K t H a xs → xs[i]? = some x) ∧ ∀ ys, SqX K u H b ys → ys[i]? = some y,
    fun i H => ∃ xs ys : List V, SqX K t H a xs ∧ SqX K u H b ys ∧ i = min xs.length ys.length⟩
theorem ZipApart.sep {a b z TI TO i1 i2 : Addr} (D : ZipApart z TI TO i1 i2 a b) : ZipSep2 z TI TO i1 i2 [i1, a] [i2, b] where
  TIz := D.TIz
  TOz := D.TOz
  TITO := D.TITO
  TIi1 := D.TIi1
  mem1 := by simp
  zf1 := by simp only [List.mem_cons, List.not_mem_nil, or_false, not_or]; exact ⟨D.i1z.symm, D.l1z.symm⟩
  Tf1 := by simp only [List.mem_cons, List.not_mem_nil, or_false, not_or]; exact ⟨D.TOi1, D.l1TO.symm⟩
  TIi2 := D.TIi2
  mem2 := by simp
  zf2 := by simp only [List.mem_cons, List.not_mem_nil, or_false, not_or]; exact ⟨D.i2z.symm, D.l2z.symm⟩
  Tf2 := by simp only [List.mem_cons, List.not_mem_nil, or_false, not_or]; exact ⟨D.TOi2, D.l2TO.symm⟩
  sep1_2 := by simp only [List.mem_cons, List.not_mem_nil, or_false, not_or]; exact ⟨D.i12, D.l2i1.symm⟩
  sep2_1 := by simp only [List.mem_cons, List.not_mem_nil, or_false, not_or]; exact ⟨D.i12.symm, D.l1i2.symm⟩
theorem turn_zipX {P : Program} {w : World} {K : PySem.W.Frag} {elts : List PySem.Expr} {kk : Nat} {tpos : Pos} {t u : Bool} {a b z TI TO i1 i2 : Addr} (D : ZipApart z TI TO i1 i2 a b) :
    Turn P w K (.Tuple elts kk tpos) (ItzX K t u a b) [z, TI, TO, i1, i2] z (fun i h => IsZip h z TI TO .none ∧ IsPair h TI (.ref i1) (.ref i2) ∧ (∃ x y, IsPair h TO x y) ∧ ItX t h i1 a i ∧ ItX u h i2 b i) where
  mem := by simp
  obj := fun i h st c hc => by
    obtain ⟨hz, hTI, ⟨x, y, hTO⟩, h1, h2⟩ := st
    have e' : c = z ∨ c = TI ∨ c = TO ∨ c = i1 ∨ c = i2 := by simpa using hc
    rcases e' with q | q | q | q | q
    · rw [q]; exact ⟨_, hz, fun v q => nomatch q⟩
    · rw [q]; exact ⟨_, hTI, fun v q => nomatch q⟩
    · rw [q]; exact ⟨_, hTO, fun v q => nomatch q⟩
    · rw [q]; exact h1.obj
    · rw [q]; exact h2.obj
  keep := fun i h h' st k => by
    obtain ⟨hz, hTI, ⟨x, y, hTO⟩, h1, h2⟩ := st
    exact ⟨k z (by simp) _ hz, k TI (by simp) _ hTI, ⟨x, y, k TO (by simp) _ hTO⟩, h1.at fun o q => k i1 (by simp) o q, h2.at fun o q => k i2 (by simp) o q⟩
  item := by
    intro X hP hw hK hc i pins s σ H E I hf st hg
    subst hP hw hK
    obtain ⟨hz, hTI, ⟨x0, y0, hTO⟩, h1, h2⟩ := st
    obtain ⟨xs, ys, x, y, hqx, hqy, hx, hy⟩ := hg
    obtain ⟨its, rv, p, _⟩ := inv_sqX I hqx
    obtain ⟨its2, rv2, p2, _⟩ := inv_sqX I hqy
    obtain ⟨v1, hv1, rv1⟩ := rv.get hx
    obtain ⟨v2, hv2, rv2'⟩ := rv2.get hy
    have hzl : z < s.heap.objs.size := Heap.lt_size hz
    have hh : X.A.in1.handled = none := I.ok.hd hc
    have lt1 : i < its.toArray.size := by
      have := List.getElem?_eq_some_iff.mp hv1
      simpa using this.1
    have lt2 : i < its2.toArray.size := by
      have := List.getElem?_eq_some_iff.mp hv2
      simpa using this.1
    refine wpAny_pyNext_zipD2_item (ZipApart.sep D) (drawsX t hh i1 a D.l1i1 its.toArray) (drawsX u hh i2 b D.l2i2 its2.toArray) hz hTI hTO ⟨h1, p⟩ ⟨h2, p2⟩ lt1 lt2 fun x1 x2 h' tk e1 e2 z' TO' h1' h2' hT hsz hk => ?_
    have e1 : x1 = v1 := by
      have q : its.toArray[i]? = some x1 := e1
      simp [hv1] at q; exact q.symm
    have e2 : x2 = v2 := by
      have q : its2.toArray[i]? = some x2 := e2
      simp [hv2] at q; exact q.symm
    subst e1 e2
    refine ⟨_, rfl, wpAny_letOwnedTupleGo_zip (s := { s with heap := h', toks := tk }) z' fun h'' z'' sb => ?_⟩
    have hT2 : h''.get? s.heap.objs.size = some { cls := .type "tuple", data := .seq #[x1, x2] } := (sb.2 _ (Nat.ne_of_gt hzl)).trans hT
    have new : ObjOk X.prog X.w (upd H s.heap.objs.size (.tup [x, y])) h'' s.heap.objs.size (.tup [x, y]) :=
      ⟨by show 2 ≤ sizeLine; decide, [x1, x2], .cons rv1 (.cons rv2' .nil), ⟨_, hT2, rfl, _, rfl⟩⟩
    have I1 : Inv X pins σ (upd H s.heap.objs.size (.tup [x, y])) { s with heap := h'', toks := tk } :=
      I.turnedNew (t' := tk) (ch := [z, TI, TO, i1, i2]) (fun c o hb q => (sb.2 c (fun q' => hb (by simp [q']))).trans (hk c o (fun q' => hb (by simp [q'])) (fun q' => hb (by simp [q'])) (fun q' => hb (by simp [q'])) (fun q' => hb (by simp [q'])) q)) hf (Nat.le_refl _) new
    refine ⟨.ref s.heap.objs.size, _, I1, rfl, ⟨_, x, y, rfl, I.hok.fresh (Nat.le_refl _), rfl, fun l hl => by rw [inv_sqX_inj I hl hqx]; exact hx, fun l hl => by rw [inv_sqX_inj I hl hqy]; exact hy⟩, ⟨z'', ?_, ⟨x1, x2, ?_⟩, ?_, ?_⟩, fun c hcm => ?_⟩
    · exact (sb.2 _ D.TIz).trans (hk _ _ D.TIz D.TITO D.TIi1 D.TIi2 hTI)
    · exact (sb.2 _ D.TOz).trans TO'
    · exact h1'.1.at fun o q => (sb.2 _ D.i1z).trans q
    · exact h2'.1.at fun o q => (sb.2 _ D.i2z).trans q
    · have hlt : c < s.heap.objs.size := by
        have e' : c = z ∨ c = TI ∨ c = TO ∨ c = i1 ∨ c = i2 := by simpa using hcm
        rcases e' with q | q | q | q | q
        · rw [q]; exact hzl
        · rw [q]; exact Heap.lt_size hTI
        · rw [q]; exact Heap.lt_size hTO
        · rw [q]; obtain ⟨_, e1, _⟩ := h1.obj; exact Heap.lt_size e1
        · rw [q]; obtain ⟨_, e2, _⟩ := h2.obj; exact Heap.lt_size e2
      rw [upd_ne (Nat.ne_of_lt hlt)]
      exact (hf c hcm).1
  done := by
    intro X hP hw hK hc i pins s σ H E I hf st hg
    subst hP hw hK
    obtain ⟨hz, hTI, ⟨x0, y0, hTO⟩, h1, h2⟩ := st
    obtain ⟨xs, ys, hqx, hqy, hend⟩ := hg
    obtain ⟨its, rv, p, _⟩ := inv_sqX I hqx
    obtain ⟨its2, rv2, p2, _⟩ := inv_sqX I hqy
    have l1 := rv.length
    have l2 := rv2.length
    have hh : X.A.in1.handled = none := I.ok.hd hc
    exact wpAny_pyNext_zipD2_end (ZipApart.sep D) (drawsX t hh i1 a D.l1i1 its.toArray) (drawsX u hh i2 b D.l2i2 its2.toArray) hz hTI hTO ⟨h1, p⟩ ⟨h2, p2⟩ (by simp; omega) (by simp; omega) (by simp; omega) fun h' tk hk => ⟨rfl, I.turnedL (t' := tk) (ch := [z, TI, TO, i1, i2]) (fun c o hb q =>
      hk c o (fun q' => hb (by simp [q'])) (fun q' => hb (by simp [q'])) (fun q' => hb (by simp [q'])) (fun q' => hb (by simp [q'])) q) hf⟩
  self := fun A i s Q E st h => wpAny_pyIter_zip st.1 h
def begO (t : Bool) (l : Addr) : Obj := match t with
  | true => { cls := .type "list_iterator", data := .fields #[.ref l, .int 0 0] }
  | false => { cls := .type "tuple_iterator", data := .fields #[.ref l, .int 0 0] }
theorem beginsX (t : Bool) (l : Addr) (items : Array Value) : Begins (.ref l) (begO t l) fun h => HsX t h l items := by
  cases t
  · exact begins_tuple l items
  · exact begins_list l items
theorem begX_it {t : Bool} {h : Heap} {i l : Addr} (e : h.get? i = some (begO t l)) : ItX t h i l 0 := by
  cases t
  · exact ⟨_, e, rfl, rfl⟩
  · exact ⟨_, e, rfl, rfl⟩
def iZipX (K : PySem.W.Frag) (ta : TA) : TI := fun σ H R => ta σ H fun vs H1 => ∃ t u a b xs ys, vs = [.ref a, .ref b] ∧ SqX K t H1 a xs ∧ SqX K u H1 b ys ∧ R (ItzX K t u a b) H1
theorem pi_zipX {X : Cx} {e e2 : PySem.Expr} {ta : TA} {p pos tpos : Pos} {elts : List PySem.Expr} {kk : Nat} (hg : Gl X "zip") (hm : X.mg "zip" = none) (ha : PA X [e, e2] ta)
    (hs : starEach [e, e2] X.env = (false, eval e X.env) :: starEach [e2] X.env := by rfl) (hpl : (backTo pos (starEach [e2] X.env)).any (·.1) = false := by rfl) :
    PI X (.Tuple elts kk tpos) (.Call (.Name "zip" p) [e, e2] [] pos) (iZipX X.K ta) := by
  refine ⟨fun pins s σ H R I h => ?_⟩
  refine Call_ (ld_blt I hg hm PyProof.Rows.boot_zip (PyProof.Rows.callWith_type1 (thn (ha.run pos pins s σ H _ I h) fun us s1 ⟨vs, H1, I1, r1, q1⟩ => ?_) hs hpl))
  obtain ⟨t, u, a, b, xs, ys, ex, hqx, hqy, q⟩ := q1
  subst ex
  cases r1 with
  | cons r rr =>
    cases rr with
    | cons r' rr =>
      cases rr
      cases r
      cases r'
      have fresh5 : ∀ c, c ∈ [s1.heap.objs.size + 4, s1.heap.objs.size + 2, s1.heap.objs.size + 3, s1.heap.objs.size, s1.heap.objs.size + 1] → FpOk X pins H1 c := fun c hcm => by
        have hle : s1.heap.objs.size ≤ c := by
          have e' : c = s1.heap.objs.size + 4 ∨ c = s1.heap.objs.size + 2 ∨ c = s1.heap.objs.size + 3 ∨ c = s1.heap.objs.size ∨ c = s1.heap.objs.size + 1 := by simpa using hcm
          rcases e' with z | z | z | z | z
          · rw [z]; exact Nat.le_add_right _ _
          · rw [z]; exact Nat.le_add_right _ _
          · rw [z]; exact Nat.le_add_right _ _
          · rw [z]; exact Nat.le_refl _
          · rw [z]; exact Nat.le_add_right _ _
        exact I1.fpOk hle (I1.hok.fresh hle)
      obtain ⟨its, rv, p1, la⟩ := inv_sqX I1 hqx
      obtain ⟨its2, rv2, p2, lb⟩ := inv_sqX I1 hqy
      refine zip_begins2 (beginsX t a its.toArray) (beginsX u b its2.toArray) p1 p2 fun h' hz hTI hTO g1 g2 hsz hk => wpAny_pyIter_zip hz ?_
      have I2 : Inv X pins σ H1 { s1 with heap := h' } := I1.kept (t' := s1.toks) hk
      exact ⟨s1.heap.objs.size + 4, [s1.heap.objs.size + 4, s1.heap.objs.size + 2, s1.heap.objs.size + 3, s1.heap.objs.size, s1.heap.objs.size + 1], _, _, H1, rfl, I2, turn_zipX (PySem.W.ktu_apart s1.heap.objs.size a b la lb), ⟨hz, hTI, ⟨_, _, hTO⟩, begX_it g1, begX_it g2⟩, fresh5, q⟩
end Ev

set_option Elab.async false
set_option linter.all false
set_option maxRecDepth 100000
set_option maxHeartbeats 1000000
/-! Ev: enumerate of a tuple, or of a list. -/
namespace Ev
open PySem PySem.Spec PyProof.Rows L2
abbrev enO (it : Addr) : Obj := { cls := .type "enumerate", data := .fields #[.none, .bool false, .ref it, rawInt 0, .none, .none] }
theorem new_enX {v : Value} {o : Obj} {H : Heap → Prop} (B : Begins v o H) :
    Meets (Builtin.«enumerate.__new__» ⟨[.type "enumerate", v], []⟩) (fun _ R s => H s.heap ∧ R (.ok (.ret (.ref (s.heap.push o).objs.size))) { s with heap := (s.heap.push o).push (enO s.heap.objs.size) }) :=
  .of_wp fun prog w A R s z => by
    obtain ⟨hp, g, d, tk, os⟩ := s
    obtain ⟨h1, hR⟩ := z
    have sub := sub_enumerate
    have itr : ∀ {A2 : Around} {E : Value → Shared → Prop} {Q : Value → Shared → Prop}, Q (.ref hp.objs.size) ⟨hp.push o, g, d, tk, os⟩ → wpAny (model prog w) A2 (pyIter v) Q E ⟨hp, g, d, tk, os⟩ := fun {_ E Q} hq => B.iter prog w _ _ ⟨hp, g, d, tk, os⟩ _ h1 hq
    wp_walk using itr
    refine wpAny_stack_any fun st => wpAny_pure ?_
    split
    · rename_i c _ _ _ _ _
      cases (c == Value.type "enumerate")
      all_goals
        wp_walk using itr
        exact ⟨_, rfl, hR⟩
    · wp_walk using itr
      exact ⟨_, rfl, hR⟩
theorem enum_new {prog : Program} {w : World} {A : Around} {E : Value → Shared → Prop} {s : Shared} {v : Value} {o : Obj} {H : Heap → Prop} {Q : Value → Shared → Prop} (B : Begins v o H) (h1 : H s.heap)
    (h : ∀ h', IsEnum h' (s.heap.objs.size + 1) s.heap.objs.size 0 .none → h'.get? s.heap.objs.size = some o → h'.objs.size = s.heap.objs.size + 2 → (∀ b p, s.heap.get? b = some p → h'.get? b = some p) → Q (.ref (s.heap.objs.size + 1)) { s with heap := h' }) :
    wpAny (model prog w) A (call (.type "enumerate") [v]) Q E s := by
  refine callType_new F.called_enumerate (by decide) (F.typeCall_enumerate_1 v) (F.newCall_enumerate_1 v) (fun obj => F.args_object_init_2 obj v) F.entry_enumerate_new (new_enX B) ⟨h1, ?_⟩
  have hz : (s.heap.push o).objs.size = s.heap.objs.size + 1 := Heap.size_push ..
  have he : IsEnum ((s.heap.push o).push (enO s.heap.objs.size)) (s.heap.objs.size + 1) s.heap.objs.size 0 .none := by
    have q := Heap.get?_push_size (s.heap.push o) (o := enO s.heap.objs.size) rfl
    rw [hz] at q
    exact q
  show _ ∧ _
  rw [hz]
  exact ⟨⟨_, he, rfl⟩, h _ he (Heap.get?_push_of_some _ (Heap.get?_push_size _ B.free)) (by rw [Heap.size_push, hz]) fun b p z => Heap.get?_push_of_some _ (Heap.get?_push_of_some _ z)⟩
/-- the sequence as it stands at each turn, the items numbered, in new pairs -/
def ItEn (K : PySem.W.Frag) (t : Bool) (a : Addr) : It :=
  ⟨fun i H => ∃ (xs : List V) (x : V), SqX K t H a xs ∧ xs[i]? = some x,
    fun i H v H' => ∃ T x, v = .ref T ∧ H T = none ∧ H' = upd H T (.tup [.int (i : Nat), x]) ∧ ∀ xs, SqX K t H a xs → xs[i]? = some x,
    fun i H => ∃ xs : List V, SqX K t H a xs ∧ xs.length = i⟩
theorem turn_enX {P : Program} {w : World} {K : PySem.W.Frag} {elts : List PySem.Expr} {kk : Nat} {tpos : Pos} (t : Bool) (a e it : Addr) (hl : a ≠ it) (hne : e ≠ it) (hea : e ≠ a) :
    Turn P w K (.Tuple elts kk tpos) (ItEn K t a) [e, it] e (fun i h => (∃ old, IsEnum h e it ((i : Nat) : Int) old) ∧ ItX t h it a i) where
  mem := by simp
  obj := fun i h st b hb => by
    obtain ⟨⟨old, he⟩, hi⟩ := st
    rcases (by simpa using hb : b = e ∨ b = it) with rfl | rfl
    · exact ⟨_, he, fun v q => nomatch q⟩
    · exact hi.obj
  keep := fun i h h' st k => by
    obtain ⟨⟨old, he⟩, hi⟩ := st
    exact ⟨⟨old, k e (by simp) _ he⟩, hi.at fun o q => k it (by simp) o q⟩
  item := by
    intro X hP hw hK hc i pins s σ H E I hf st hg
    subst hP hw hK
    obtain ⟨⟨old, he⟩, hi⟩ := st
    obtain ⟨xs, x, hq, hx⟩ := hg
    obtain ⟨its, rv, p, _⟩ := inv_sqX I hq
    obtain ⟨v1, hv1, rv1⟩ := rv.get hx
    have hel : e < s.heap.objs.size := Heap.lt_size he
    have hil : it < s.heap.objs.size := by
      obtain ⟨_, q, _⟩ := hi.obj
      exact Heap.lt_size q
    have lt1 : i < its.toArray.size := by
      have := List.getElem?_eq_some_iff.mp hv1
      simpa using this.1
    have hh : X.A.in1.handled = none := I.ok.hd hc
    refine wpAny_pyNext_enum_itemD (drawsX t hh it a hl its.toArray) he ⟨hi, p⟩ lt1 hne (by simp [hne, hea]) fun x1 h' tk e1 ho hst hT hsz hk => ?_
    have e1 : x1 = v1 := by
      have q : its.toArray[i]? = some x1 := e1
      simp [hv1] at q; exact q.symm
    subst e1
    refine ⟨_, rfl, wpAny_letOwnedTupleGo_enum (s := { s with heap := h', toks := tk + 1 }) ho fun h'' he' sb => ?_⟩
    have hT2 : h''.get? s.heap.objs.size = some { cls := .type "tuple", data := .seq #[.int i tk, x1] } := (sb.2 _ (Nat.ne_of_gt hel)).trans hT
    have new : ObjOk X.prog X.w (upd H s.heap.objs.size (.tup [.int (i : Nat), x])) h'' s.heap.objs.size (.tup [.int (i : Nat), x]) :=
      ⟨by show 2 ≤ sizeLine; decide, [.int i tk, x1], .cons ⟨_, rfl⟩ (.cons rv1 .nil), ⟨_, hT2, rfl, _, rfl⟩⟩
    have I1 : Inv X pins σ (upd H s.heap.objs.size (.tup [.int (i : Nat), x])) { s with heap := h'', toks := tk + 1 } :=
      I.turnedNew (ch := [e, it]) (fun b ob hb q => (sb.2 b (fun z => hb (by simp [z]))).trans (hk b ob (fun z => hb (by simp [z])) (fun z => hb (by simp [z])) q)) hf (Nat.le_refl _) new
    refine ⟨.ref s.heap.objs.size, _, I1, rfl, ⟨_, x, rfl, I.hok.fresh (Nat.le_refl _), rfl, fun ys hy => by rw [inv_sqX_inj I hy hq]; exact hx⟩, ⟨⟨x1, ?_⟩, hst.1.at fun o q => (sb.2 it (Ne.symm hne)).trans q⟩, fun b hb => ?_⟩
    · rw [show ((i + 1 : Nat) : Int) = (i : Int) + 1 by omega]
      exact he'
    · have hb' : b < s.heap.objs.size := by
        rcases (by simpa using hb : b = e ∨ b = it) with rfl | rfl
        · exact hel
        · exact hil
      rw [upd_ne (Nat.ne_of_lt hb')]
      exact (hf b hb).1
  done := by
    intro X hP hw hK hc i pins s σ H E I hf st hg
    subst hP hw hK
    obtain ⟨⟨old, he⟩, hi⟩ := st
    obtain ⟨xs, hq, hx⟩ := hg
    obtain ⟨its, rv, p, _⟩ := inv_sqX I hq
    obtain ⟨f0, f1, f2, f3, f4, f5⟩ := hf it (by simp)
    have hn : its.toArray.size = i := by rw [List.size_toArray, ← rv.length]; exact hx
    have hh : X.A.in1.handled = none := I.ok.hd hc
    exact wpAny_pyNext_enum_endD (drawsX t hh it a hl its.toArray) he (by rw [hn]; exact ⟨hi, p⟩) fun h' eb => ⟨rfl, I.turned (t' := s.toks) (fun b o hb q => eb b o hb q) f0 f1 f3 f4 f5⟩
  self := fun A i s Q E st h => let ⟨⟨_, he⟩, _⟩ := st; wpAny_pyIter_enum he h
def iEnX (K : PySem.W.Frag) (ta : TA) : TI := fun σ H R => ta σ H fun vs H1 => ∃ t a xs, vs = [.ref a] ∧ SqX K t H1 a xs ∧ R (ItEn K t a) H1
theorem pi_enX {X : Cx} {e : PySem.Expr} {ta : TA} {p pos tpos : Pos} {elts : List PySem.Expr} {kk : Nat} (hg : Gl X "enumerate") (hm : X.mg "enumerate" = none) (ha : PA X [e] ta) (hs : starEach [e] X.env = [(false, eval e X.env)] := by rfl) :
    PI X (.Tuple elts kk tpos) (.Call (.Name "enumerate" p) [e] [] pos) (iEnX X.K ta) := by
  refine ⟨fun pins s σ H R I h => ?_⟩
  refine Call_ (ld_blt I hg hm boot_enumerate (PyProof.Rows.callWith_type1 (thn (ha.run pos pins s σ H _ I h) fun us s1 ⟨vs, H1, I1, r1, q1⟩ => ?_) hs rfl))
  obtain ⟨t, a, xs, ex, hq, q⟩ := q1
  subst ex
  cases r1 with
  | cons r rr =>
    cases rr
    cases r
    obtain ⟨its, rv, p1, la⟩ := inv_sqX I1 hq
    refine enum_new (beginsX t a its.toArray) p1 fun h' he hit hsz hk => wpAny_pyIter_enum he ?_
    have I2 : Inv X pins σ H1 { s1 with heap := h' } := I1.kept (t' := s1.toks) hk
    refine ⟨s1.heap.objs.size + 1, [s1.heap.objs.size + 1, s1.heap.objs.size], _, _, H1, rfl, I2, turn_enX t a (s1.heap.objs.size + 1) s1.heap.objs.size (Nat.ne_of_lt la) (Nat.succ_ne_self _) (Nat.ne_of_gt (Nat.lt_succ_of_lt la)), ⟨⟨.none, he⟩, begX_it hit⟩, fun b hb => ?_, q⟩
    have hle : s1.heap.objs.size ≤ b := by
      rcases (by simpa using hb : b = s1.heap.objs.size + 1 ∨ b = s1.heap.objs.size) with rfl | rfl
      · exact Nat.le_add_right _ _
      · exact Nat.le_refl _
    exact I1.fpOk hle (I1.hok.fresh hle)
end Ev

set_option Elab.async false
set_option linter.all false
set_option maxRecDepth 100000
set_option autoImplicit false
/-! Ev: what loops walk over. -/
namespace Ev
open PySem PySem.Spec PyProof.Rows L2
abbrev Live := Option (Nat × List Val)
/-- an iterator that gives these items -/
def ItW (W : Wd) (ph0 : List Addr) (H0 : Hp) (J : It) (xs : List Val) (live : Live) : Prop := ∀ (hd1 ph1 : List Addr) (H1 : Hp) (s1 : Store), Later W.hd ph0 H0 hd1 ph1 H1 → Rep { W with hd := hd1 } ph1 s1 H1 → stands s1 live →
  (∀ (i : Nat) (y : Val), xs[i]? = some y → J.go i H1 ∧ ∀ x H2, J.yld i H1 x H2 → Grow ph1 H1 ph1 H2 ∧ Rep { W with hd := hd1 } ph1 s1 H2 ∧ VR { W with hd := hd1 } ph1 H2 y x) ∧ J.stop xs.length H1
def QI (W : Wd) (R : It → Hp → Prop) : List Val × Live → Store → List Addr → Hp → Prop := fun p m ph H => ∀ ph' H', Grow ph H ph' H' → Rep W ph' m H' → ∀ J, ItW W ph' H' J p.1 p.2 → R J H'
theorem QI.mo {W : Wd} {R : It → Hp → Prop} : Mo (QI W R) := fun _ _ _ _ _ _ g h ph2 H2 g2 r => h ph2 H2 (g.trans g2) r
theorem QI.at {W : Wd} {R : It → Hp → Prop} {p : List Val × Live} {m : Store} {ph : List Addr} {H : Hp} {J : It} (h : QI W R p m ph H) (hr : Rep W ph m H) (hJ : ItW W ph H J p.1 p.2) : R J H := h ph H .refl hr J hJ
def iEv (W : Wd) (xa : Xa) (call : Call) (it : IT) (Wx : WX) : TI := fun σ H R => ∃ (e : Env) (ph : List Addr) (s : Store), RS W xa ph H e σ ∧ Rep W ph s H ∧ PR W ph H (QI W R) (fun c d H' => Wx c d σ H') (evI W.G call it e s)
theorem PI.imp {X : Cx} {tg e : PySem.Expr} {t t' : TI} (h : PI X tg e t) (i : ∀ σ H R, t' σ H R → t σ H R) : PI X tg e t' := ⟨fun pins s σ H R I q => h.run pins s σ H R I (i σ H R q)⟩
section
variable {W : Wd} {xa : Xa} {call : Call} {N : List Str} {k : Nat} {sc : Scope} {hot : Bool} {X : Cx} {Wx : WX} {pos p : Pos} {x : Str} {tg : PySem.Expr}
theorem itw_list {ph : List Addr} {H : Hp} {a : Addr} {xs : List Val} {live : Live} (h : ∀ hd1 ph1 H1 s1, Later W.hd ph H hd1 ph1 H1 → Rep { W with hd := hd1 } ph1 s1 H1 → stands s1 live → ∃ vs, SqL W.K H1 a vs ∧ VRs { W with hd := hd1 } ph1 H1 xs vs) : ItW W ph H (Itl W.K a) xs live := fun hd1 ph1 H1 s1 g r hs => by
  obtain ⟨vs, h1, h2⟩ := h hd1 ph1 H1 s1 g r hs
  refine ⟨fun i y hy => ?_, ⟨vs, h1, by rw [h2.length]; exact Nat.le_refl _⟩⟩
  obtain ⟨v, e1, e2⟩ := h2.get hy
  refine ⟨⟨vs, v, h1, e1⟩, fun x H2 hx => ?_⟩
  obtain ⟨rfl, hx⟩ := hx
  have := hx vs h1
  rw [e1] at this
  cases this
  exact ⟨.refl, r, e2⟩
theorem itw_tup {ph : List Addr} {H : Hp} {a : Addr} {xs : List Val} {live : Live} {vs : List V} (h1 : SqT W.K H a vs) (h2 : VRs W ph H xs vs) : ItW W ph H (Itt W.K a) xs live := fun hd1 ph1 H1 s1 g r hs => by
  have h1 := SqT.later g h1
  have h2 := h2.later g
  refine ⟨fun i y hy => ?_, ⟨vs, h1, by rw [h2.length]; exact Nat.le_refl _⟩⟩
  obtain ⟨v, e1, e2⟩ := h2.get hy
  refine ⟨⟨vs, v, h1, e1⟩, fun x H2 hx => ?_⟩
  obtain ⟨rfl, hx⟩ := hx
  have := hx vs h1
  rw [e1] at this
  cases this
  exact ⟨.refl, r, e2⟩
theorem rngL_get {lo : Int} {n i : Nat} {y : Val} (h : (rngL lo n)[i]? = some y) : i < n ∧ y = .int (lo + (i : Nat)) := by
  unfold rngL at h
  rw [List.getElem?_map] at h
  by_cases hi : i < n
  · rw [List.getElem?_range hi] at h
    cases h
    exact ⟨hi, rfl⟩
  · rw [List.getElem?_eq_none (by rw [List.length_range]; omega)] at h
    cases h
theorem rngL_len {lo : Int} {n : Nat} : (rngL lo n).length = n := by
  unfold rngL
  rw [List.length_map, List.length_range]
theorem itw_rng {ph : List Addr} {H : Hp} {lo : Int} {n : Nat} {live : Live} : ItW W ph H (Itr lo n) (rngL lo n) live := fun hd1 ph1 H1 s1 g r hs => by
  refine ⟨fun i y hy => ?_, ?_⟩
  · obtain ⟨h1, rfl⟩ := rngL_get hy
    refine ⟨h1, fun x H2 hx => ?_⟩
    obtain ⟨rfl, rfl⟩ := hx
    exact ⟨.refl, r, .int _⟩
  · show n ≤ (rngL lo n).length
    rw [rngL_len]
    exact Nat.le_refl _
/-- the list, the tuple itself -/
def iSeq (K : PySem.W.Frag) (tl : TE) : TI := fun σ H R => tl σ H fun x H1 => ∃ a, x = .ref a ∧ (((∃ xs, SqL K H1 a xs) ∧ R (Itl K a) H1) ∨ ((∃ xs, SqT K H1 a xs) ∧ R (Itt K a) H1))
theorem pi_seq {l : PySem.Expr} {tl : TE} (hl : PE X l tl) : PI X tg l (iSeq X.K tl) := by
  refine ⟨fun pins s σ H R I h => ?_⟩
  refine thn (hl.run pins s σ H _ I h) fun v s1 ⟨x, H1, I1, r1, q1⟩ => ?_
  obtain ⟨a, e, q⟩ := q1
  subst e
  cases r1
  rcases q with ⟨⟨xs, hq⟩, q⟩ | ⟨⟨xs, hq⟩, q⟩
  · obtain ⟨its, rv, p, hz⟩ := I1.list hq
    refine wpAny_pyIter_list p.isList ?_
    exact pi_one (tk := s1.toks) I1 _ (turn_list a _) ⟨_, Heap.get?_push_size _ rfl, rfl, rfl⟩ q
  · obtain ⟨its, rv, p, hz⟩ := I1.tuple hq
    refine wpAny_pyIter_tuple (show s1.heap.IsTuple a its.toArray from p) ?_
    exact pi_one (tk := s1.toks) I1 _ (turn_tuple a _) ⟨_, Heap.get?_push_size _ rfl, rfl, rfl⟩ q
theorem si_val (g : Gd W call N k sc hot Wx X) {a : ME} {l : PySem.Expr} (ha : Pe W xa call Wx X a l) : PI X tg l (iEv W xa call (.val a) Wx) := by
  refine PI.imp (pi_seq ha) fun σ H R ⟨e, ph, s, hs, hr, q⟩ => ?_
  unfold evI at q
  refine tEv_of hs hr (PR.mo QI.mo) (PR.fst q) fun x s1 ph1 H1 v g1 r1 v1 hs1 q1 => ?_
  cases hx : asS s1 x with
  | none => rw [hx] at q1; exact q1.elim
  | some xs =>
    rw [hx] at q1
    have q1 : QI W R (xs, liveOf s1 x xs) s1 ph1 H1 := q1
    clear q
    cases x with
    | tup ys =>
      cases hx
      cases v1 with
      | tup h1 h2 => exact ⟨_, rfl, .inr ⟨⟨_, g.eK ▸ h1⟩, g.eK ▸ q1.at r1 (itw_tup h1 h2)⟩⟩
    | lst ys =>
      cases hx
      cases v1 with
      | lst h1 hn hh h2 =>
        exact ⟨_, rfl, .inl ⟨⟨_, SqL.of h1⟩, g.eK ▸ q1.at r1 (itw_list fun hd2 ph2 H2 s2 g2 r2 _ => ⟨_, SqL.of (g2.keep _ _ h1 hn hh (fun ps z => by cases z)).1, h2.later g2⟩)⟩⟩
    | scr ys =>
      cases hx
      cases v1 with
      | scr h1 h2 =>
        exact ⟨_, rfl, .inl ⟨⟨_, g.eK ▸ h1.sq⟩, g.eK ▸ q1.at r1 (itw_list fun hd2 ph2 H2 s2 g2 r2 _ => ⟨_, (SqS.later g2 h1).sq, h2.later g2⟩)⟩⟩
    | ref n =>
      obtain ⟨a, vs, rfl, h1, h2⟩ := asS_at r1 v1 hx
      have hx : asL s1 (.ref n) = some xs := hx
      unfold asL at hx
      cases hc : s1[n]? with
      | none => simp only [hc] at hx; cases hx
      | some c =>
        cases c with
        | ins _ _ _ => simp only [hc] at hx; cases hx
        | dic _ _ => simp only [hc] at hx; cases hx
        | lst ys =>
          simp only [hc] at hx
          cases hx
          cases v1 with
          | ref hn =>
            obtain ⟨ws, e1, e2⟩ := r1.cell _ _ _ hn hc
            refine ⟨_, rfl, .inl ⟨⟨_, SqL.of e1⟩, g.eK ▸ q1.at r1 (itw_list fun hd2 ph2 H2 s2 g2 r2 hst => ?_)⟩⟩
            have hst : s2[n]? = some (.lst xs) := hst
            obtain ⟨rr, e3⟩ := g2.pre
            have hn2 : ph2[n]? = some a := by
              rw [e3, List.getElem?_append_left (List.getElem?_eq_some_iff.mp hn).1]
              exact hn
            obtain ⟨ws2, e4, e5⟩ := r2.cell _ _ _ hn2 hst
            exact ⟨ws2, SqL.of e4, e5⟩
    | _ => cases hx
theorem rng_ok {i : Int} (h : rngOk i = true) : -(2 ^ 62) ≤ i ∧ i < 2 ^ 62 := by
  unfold rngOk at h
  obtain ⟨h1, h2⟩ := ba h
  exact ⟨of_decide_eq_true h1, of_decide_eq_true h2⟩

theorem si_rng (g : Gd W call N k sc hot Wx X) {a : ME} {y : PySem.Expr} (hx : x = ("range" : Str)) (hg : glB sc x = true) (hy : starB y = true) (ha : Pe W xa call Wx X a y) : PI X tg (.Call (.Name x p) [y] [] pos) (iEv W xa call (.rng a) Wx) := by
  subst hx
  refine PI.imp (pi_range1 (gl_of g hg) (free_of g (by decide)) (pa_cons ha pa_nil (star_of hy)) (star_of hy)) fun σ H R ⟨e, ph, s, hs, hr, q⟩ => ?_
  unfold evI at q
  refine tEv_of hs hr (PR.mo QI.mo) (PR.fst q) fun x s1 ph1 H1 v g1 r1 v1 hs1 q1 => ?_
  cases x with
  | int j =>
    cases v1
    by_cases hj : rngOk j = true
    · simp only [hj, if_true] at q1
      obtain ⟨h1, h2⟩ := rng_ok hj
      exact ⟨j, rfl, h1, h2, QI.at (show QI W R _ s1 ph1 H1 from q1) r1 itw_rng⟩
    · simp only [hj] at q1
      exact q1.elim
  | _ => exact q1.elim
theorem si_rng2 (g : Gd W call N k sc hot Wx X) {a b : ME} {y z : PySem.Expr} (hx : x = ("range" : Str)) (hg : glB sc x = true) (hy : starB y = true) (hz : starB z = true) (ha : Pe W xa call Wx X a y) (hb : Pe W xa call Wx X b z) : PI X tg (.Call (.Name x p) [y, z] [] pos) (iEv W xa call (.rng2 a b) Wx) := by
  subst hx
  refine PI.imp (pi_range2 (gl_of g hg) (free_of g (by decide)) (pa_cons ha (pa_cons hb pa_nil (star_of hz)) (star_of hy)) (by rw [star_of hy, star_of hz]; rfl) (star_of hz)) fun σ H R ⟨e, ph, s, hs, hr, q⟩ => ?_
  unfold evI at q
  refine tEv_of hs hr (PR.mo QI.mo) (PR.fst q) fun x s1 ph1 H1 v g1 r1 v1 hs1 q1 => tEv_of hs1 r1 (PR.mo QI.mo) (PR.fst q1) fun y s2 ph2 H2 w g2 r2 v2 hs2 q2 => ?_
  cases x with
  | int i =>
    cases y with
    | int j =>
      cases v1
      cases v2
      by_cases hj : (rngOk i && rngOk j) = true
      · simp only [hj, if_true] at q2
        obtain ⟨h1, h2⟩ := ba hj
        obtain ⟨h1, h3⟩ := rng_ok h1
        obtain ⟨h2, h4⟩ := rng_ok h2
        exact ⟨i, j, rfl, ⟨h1, h3, h2, h4⟩, QI.at (show QI W R _ s2 ph2 H2 from q2) r2 itw_rng⟩
      · simp only [hj] at q2
        exact q2.elim
    | _ => exact q2.elim
  | _ => cases y <;> exact q2.elim
theorem rngC_get {lo c : Int} {n i : Nat} {y : Val} (h : (rngC lo c n)[i]? = some y) : i < n ∧ y = .int (lo + (i : Nat) * c) := by
  unfold rngC at h
  rw [List.getElem?_map] at h
  obtain ⟨k, h1, rfl⟩ := Option.map_eq_some_iff.mp h
  obtain ⟨h2, rfl⟩ := List.getElem?_eq_some_iff.mp h1
  rw [List.length_range] at h2
  exact ⟨h2, by rw [List.getElem_range]⟩
theorem itw_rngC {ph : List Addr} {H : Hp} {lo c : Int} {n : Nat} {live : Live} : ItW W ph H (Itc lo c n) (rngC lo c n) live := fun hd1 ph1 H1 s1 g r hs => by
  refine ⟨fun i y hy => ?_, ?_⟩
  · obtain ⟨h1, rfl⟩ := rngC_get hy
    refine ⟨h1, fun x H2 hx => ?_⟩
    obtain ⟨rfl, rfl⟩ := hx
    exact ⟨.refl, r, .int _⟩
  · show n ≤ (rngC lo c n).length
    unfold rngC
    rw [List.length_map, List.length_range]
    exact Nat.le_refl _
theorem si_rng3 (g : Gd W call N k sc hot Wx X) {a b d : ME} {y z w : PySem.Expr} (hx : x = ("range" : Str)) (hg : glB sc x = true) (hy : starB y = true) (hz : starB z = true) (hw : starB w = true) (ha : Pe W xa call Wx X a y) (hb : Pe W xa call Wx X b z) (hd : Pe W xa call Wx X d w) : PI X tg (.Call (.Name x p) [y, z, w] [] pos) (iEv W xa call (.rng3 a b d) Wx) := by
  subst hx
  refine PI.imp (pi_range3 (gl_of g hg) (free_of g (by decide)) (pa_cons ha (pa_cons hb (pa_cons hd pa_nil (star_of hw)) (star_of hz)) (star_of hy)) (star_of hy) (by rw [star_of hz, star_of hw]; rfl)) fun σ H R ⟨e, ph, s, hs, hr, q⟩ => ?_
  unfold evI at q
  refine tEv_of hs hr (PR.mo QI.mo) (PR.fst q) fun x s1 ph1 H1 v g1 r1 v1 hs1 q1 => tEv_of hs1 r1 (PR.mo QI.mo) (PR.fst q1) fun y s2 ph2 H2 w g2 r2 v2 hs2 q2 => tEv_of hs2 r2 (PR.mo QI.mo) (PR.fst q2) fun z s3 ph3 H3 u g3 r3 v3 hs3 q3 => ?_
  unfold rng3V at q3
  split at q3
  · rename_i hq
    split at hq
    · split at hq
      · rename_i i j c hc
        cases hq
        cases v1
        cases v2
        cases v3
        exact ⟨i, j, c, _, rfl, ⟨hc.1, hc.2.1, hc.2.2.1, (Int.toNat_of_nonneg hc.2.2.2).symm⟩, QI.at (show QI W R _ s3 ph3 H3 from q3) r3 itw_rngC⟩
      · cases hq
    · cases hq
  · exact q3.elim
theorem zipL_get : ∀ {xs ys : List Val} {i : Nat} {z : Val}, (zipL xs ys)[i]? = some z → ∃ x y, xs[i]? = some x ∧ ys[i]? = some y ∧ z = .tup [x, y]
  | [], _, i, z, h => by simp [zipL] at h
  | _ :: _, [], i, z, h => by simp [zipL] at h
  | x :: xs, y :: ys, 0, z, h => by
    have h : some (Val.tup [x, y]) = some z := h
    cases h
    exact ⟨x, y, rfl, rfl, rfl⟩
  | x :: xs, y :: ys, i + 1, z, h => zipL_get (xs := xs) (ys := ys) (i := i) h
theorem zipL_len : ∀ {xs ys : List Val}, (zipL xs ys).length = min xs.length ys.length
  | [], ys => by simp [zipL]
  | _ :: _, [] => by simp [zipL]
  | x :: xs, y :: ys => by
    rw [zipL, List.length_cons, zipL_len, List.length_cons, List.length_cons]
    exact (Nat.succ_min_succ ..).symm
theorem seq_sq {ph : List Addr} {H : Hp} {x : Val} {xs : List Val} {v : V} (h : seqOf x = some xs) (r : VR W ph H x v) :
    ∃ (t : Bool) (a : Addr) (vs : List V), v = .ref a ∧ VRs W ph H xs vs ∧ ∀ hd1 ph1 H1, Later W.hd ph H hd1 ph1 H1 → SqX W.K t H1 a vs := by
  cases r with
  | tup h1 h2 =>
    cases h
    exact ⟨false, _, _, rfl, h2, fun _ _ _ g => SqT.later g h1⟩
  | lst h1 hn hh h2 =>
    cases h
    exact ⟨true, _, _, rfl, h2, fun _ _ _ g => SqL.of (g.keep _ _ h1 hn hh (fun ps z => by cases z)).1⟩
  | _ => cases h
theorem itw_zipX {ph : List Addr} {H : Hp} {t u : Bool} {a b : Addr} {xs ys : List Val} {live : Live} {vs us : List V} (h1 : ∀ hd1 ph1 H1, Later W.hd ph H hd1 ph1 H1 → SqX W.K t H1 a vs) (h2 : VRs W ph H xs vs) (k1 : ∀ hd1 ph1 H1, Later W.hd ph H hd1 ph1 H1 → SqX W.K u H1 b us) (k2 : VRs W ph H ys us) : ItW W ph H (ItzX W.K t u a b) (zipL xs ys) live := fun hd1 ph1 H1 s1 g r hs => by
  have h1 := h1 _ _ _ g
  have h2 := h2.later g
  have k1 := k1 _ _ _ g
  have k2 := k2.later g
  refine ⟨fun i z hz => ?_, ⟨vs, us, h1, k1, ?_⟩⟩
  · obtain ⟨x, y, hx, hy, rfl⟩ := zipL_get hz
    obtain ⟨v, e1, e2⟩ := h2.get hx
    obtain ⟨u, f1, f2⟩ := k2.get hy
    refine ⟨⟨vs, us, v, u, h1, k1, e1, f1⟩, fun w H2 hw => ?_⟩
    obtain ⟨T, v', u', rfl, hT, rfl, q1, q2⟩ := hw
    have z1 := q1 vs h1
    have z2 := q2 us k1
    rw [e1] at z1
    rw [f1] at z2
    cases z1
    cases z2
    exact ⟨Grow.fresh hT, r.fresh hT, .tup (.inl (.inl upd_same)) (.cons (e2.grow (Grow.fresh hT)) (.cons (f2.grow (Grow.fresh hT)) .nil))⟩
  · rw [← h2.length, ← k2.length]
    exact zipL_len
theorem si_zip (g : Gd W call N k sc hot Wx X) {a b : ME} {y z : PySem.Expr} {elts : List PySem.Expr} {kk : Nat} {tp : Pos} (hx : x = ("zip" : Str)) (hg : glB sc x = true) (hy : starB y = true) (hz : starB z = true) (ha : Pe W xa call Wx X a y) (hb : Pe W xa call Wx X b z) :
    PI X (.Tuple elts kk tp) (.Call (.Name x p) [y, z] [] pos) (iEv W xa call (.zip a b) Wx) := by
  subst hx
  refine PI.imp (pi_zipX (gl_of g hg) (free_of g (by decide)) (pa_cons ha (pa_cons hb pa_nil (star_of hz)) (star_of hy)) (star_of hy) (plain_of (by simp [hz]))) fun σ H R ⟨e, ph, s, hs, hr, q⟩ => ?_
  unfold evI at q
  refine tEv_of hs hr (PR.mo QI.mo) (PR.fst q) fun x s1 ph1 H1 v g1 r1 v1 hs1 q1 => tEv_of hs1 r1 (PR.mo QI.mo) (PR.fst q1) fun y s2 ph2 H2 w g2 r2 v2 hs2 q2 => ?_
  have v1 := v1.grow g2
  rcases hx : seqOf x with _ | xs
  · simp only [hx] at q2
    exact q2.elim
  rcases hy : seqOf y with _ | ys
  · simp only [hx, hy] at q2
    exact q2.elim
  simp only [hx, hy] at q2
  obtain ⟨t, a, vs, rfl, h2, h1⟩ := seq_sq hx v1
  obtain ⟨u, b, us, rfl, k2, k1⟩ := seq_sq hy v2
  exact ⟨t, u, _, _, _, _, rfl, g.eK ▸ h1 _ _ _ (Later.of .refl), g.eK ▸ k1 _ _ _ (Later.of .refl), g.eK ▸ QI.at (show QI W R _ s2 ph2 H2 from q2) r2 (itw_zipX h1 h2 k1 k2)⟩
theorem enumL_get : ∀ {xs : List Val} {j i : Nat} {z : Val}, (enumL j xs)[i]? = some z → ∃ x, xs[i]? = some x ∧ z = .tup [.int ((j + i : Nat) : Int), x]
  | [], _, i, z, h => by simp [enumL] at h
  | x :: xs, j, 0, z, h => by
    have h : some (Val.tup [.int (j : Nat), x]) = some z := h
    cases h
    exact ⟨x, rfl, rfl⟩
  | x :: xs, j, i + 1, z, h => by
    obtain ⟨y, h1, h2⟩ := enumL_get (xs := xs) (j := j + 1) (i := i) h
    refine ⟨y, h1, ?_⟩
    rw [h2, show j + 1 + i = j + (i + 1) by omega]
theorem enumL_len : ∀ {xs : List Val} {j : Nat}, (enumL j xs).length = xs.length
  | [], _ => rfl
  | x :: xs, j => congrArg Nat.succ (enumL_len (xs := xs) (j := j + 1))
theorem si_enm (g : Gd W call N k sc hot Wx X) {a : ME} {y : PySem.Expr} {elts : List PySem.Expr} {kk : Nat} {tp : Pos} (hx : x = ("enumerate" : Str)) (hg : glB sc x = true) (hy : starB y = true) (ha : Pe W xa call Wx X a y) :
    PI X (.Tuple elts kk tp) (.Call (.Name x p) [y] [] pos) (iEv W xa call (.enm a) Wx) := by
  subst hx
  refine PI.imp (pi_enX (gl_of g hg) (free_of g (by decide)) (pa_cons ha pa_nil (star_of hy)) (star_of hy)) fun σ H R ⟨e, ph, s, hs, hr, q⟩ => ?_
  unfold evI at q
  refine tEv_of hs hr (PR.mo QI.mo) (PR.fst q) fun x s1 ph1 H1 v g1 r1 v1 hs1 q1 => ?_
  have go : ∀ {t : Bool} {b : Addr} {xs : List Val} {vs : List V} {live : Live}, v = .ref b → (∀ {hd2 : List Addr} {ph2 : List Addr} {H2 : Hp} {s2 : Store}, Later W.hd ph1 H1 hd2 ph2 H2 → Rep { W with hd := hd2 } ph2 s2 H2 → stands s2 live → ∃ ws, SqX W.K t H2 b ws ∧ VRs { W with hd := hd2 } ph2 H2 xs ws) → SqX W.K t H1 b vs → PR W ph1 H1 (QI W R) (fun c d H' => Wx c d σ H') (Ev.R.ok (enumL 0 xs, live) s1) →
      ∃ t a xs, [v] = [.ref a] ∧ SqX X.K t H1 a xs ∧ R (ItEn X.K t a) H1 := fun {t b xs vs live} ev h1 h0 q1 => by
    subst ev
    refine ⟨t, b, vs, rfl, g.eK ▸ h0, g.eK ▸ QI.at (show QI W R _ s1 ph1 H1 from q1) r1 fun hd2 ph2 H2 s2 g2 r2 hs => ?_⟩
    obtain ⟨vs, h1, h2⟩ := h1 g2 r2 hs
    refine ⟨fun i z hz => ?_, ⟨_, h1, by rw [enumL_len, h2.length]⟩⟩
    obtain ⟨x, hx, rfl⟩ := enumL_get hz
    obtain ⟨v, e1, e2⟩ := h2.get hx
    refine ⟨⟨_, v, h1, e1⟩, fun w H3 hw => ?_⟩
    obtain ⟨T, v', rfl, hT, rfl, q1⟩ := hw
    have z1 := q1 _ h1
    rw [e1] at z1
    cases z1
    rw [Nat.zero_add]
    exact ⟨Grow.fresh hT, r2.fresh hT, .tup (.inl (.inl upd_same)) (.cons (.int _) (.cons (e2.grow (Grow.fresh hT)) .nil))⟩
  cases x with
  | lst xs =>
    cases v1 with
    | lst h1 hn hh h2 => exact go (t := true) rfl (fun g2 _ _ => ⟨_, SqL.of (g2.keep _ _ h1 hn hh (fun ps z => by cases z)).1, h2.later g2⟩) (SqL.of h1) q1
  | tup xs =>
    cases v1 with
    | tup h1 h2 => exact go (t := false) rfl (fun g2 _ _ => ⟨_, SqT.later (W := W) g2 h1, h2.later g2⟩) h1 q1
  | ref n =>
    have q1 : PR W ph1 H1 (QI W R) (fun c d H' => Wx c d σ H') (enmC s1[n]? n s1) := q1
    cases hc : s1[n]? with
    | none => rw [hc] at q1; exact q1.elim
    | some c =>
      rw [hc] at q1
      cases c with
      | lst xs =>
        cases v1 with
        | ref hn =>
          obtain ⟨ws, e1, e2⟩ := r1.cell _ _ _ hn hc
          refine go (t := true) rfl (fun {hd2 ph2 H2 s2} g2 r2 hst => ?_) (SqL.of e1) q1
          have hst : s2[n]? = some (.lst xs) := hst
          obtain ⟨rr, e3⟩ := g2.pre
          have hn2 := (show ph2[n]? = ph1[n]? by rw [e3, List.getElem?_append_left (List.getElem?_eq_some_iff.mp hn).1]).trans hn
          obtain ⟨ws2, e4, e5⟩ := r2.cell _ _ _ hn2 hst
          exact ⟨ws2, SqL.of e4, e5⟩
      | _ => exact q1.elim
  | _ => exact q1.elim
theorem si_rev (g : Gd W call N k sc hot Wx X) {a : ME} {y : PySem.Expr} (hx : x = ("reversed" : Str)) (hg : glB sc x = true) (hy : starB y = true) (ha : Pe W xa call Wx X a y) :
    PI X tg (.Call (.Name x p) [y] [] pos) (iEv W xa call (.rev a) Wx) := by
  subst hx
  refine PI.imp (RT.pi_revA (gl_of g hg) (free_of g (by decide)) ha (star_of hy)) fun σ H R ⟨e, ph, s, hs, hr, q⟩ => ?_
  unfold evI at q
  refine tEv_of hs hr (PR.mo QI.mo) (PR.fst q) fun x s1 ph1 H1 v g1 r1 v1 hs1 q1 => ?_
  cases x with
  | lst xs =>
    cases v1 with
    | lst h1 hn hh h2 =>
      refine ⟨_, _, rfl, .inl ⟨SqL.of h1, g.eK ▸ QI.at (show QI W R _ s1 ph1 H1 from q1) r1 fun hd2 ph2 H2 s2 g2 r2 hs => ?_⟩⟩
      have h1 := SqL.of (K := W.K) (g2.keep _ _ h1 hn hh (fun ps z => by cases z)).1
      have h2 := h2.later g2
      have hl := h2.length
      refine ⟨fun i z hz => ?_, by show _ ≤ _; rw [List.length_reverse, hl]; exact Nat.le_refl _⟩
      have hi : i < xs.length := by
        have := (List.getElem?_eq_some_iff.mp hz).1
        rwa [List.length_reverse] at this
      rw [List.getElem?_reverse hi] at hz
      obtain ⟨v, e1, e2⟩ := h2.get hz
      rw [hl] at e1
      refine ⟨⟨by omega, _, v, h1, e1⟩, fun w H3 hw => ?_⟩
      obtain ⟨rfl, q1⟩ := hw
      have z1 := q1 _ h1
      rw [e1] at z1
      cases z1
      exact ⟨.refl, r2, e2⟩
  | _ => exact q1.elim
end
end Ev

set_option Elab.async false
set_option linter.all false
set_option maxRecDepth 100000
set_option autoImplicit false
/-! Ev: targets, list comprehensions. -/
namespace Ev
open PySem PySem.Spec PyProof.Rows L2

/-! ### targets -/
def setSt (σ : L2.St) : List Nat → List V → L2.St
  | i :: is, v :: vs => setSt (σ.set i (some v)) is vs
  | _, _ => σ
theorem wipe_len {σ : L2.St} : ∀ {vs : List Nat}, (wipe σ vs).length = σ.length
  | [] => rfl
  | v :: vs => by
    show ((wipe σ vs).set v none).length = _
    rw [List.length_set, wipe_len]
theorem wipe_set {σ : L2.St} {i : Nat} {o : Option V} : ∀ {vs : List Nat}, i ∈ vs → wipe (σ.set i o) vs = wipe σ vs
  | [], h => by cases h
  | v :: vs, h => by
    show (wipe (σ.set i o) vs).set v none = (wipe σ vs).set v none
    by_cases hv : i ∈ vs
    · rw [wipe_set hv]
    · have hi : i = v := (List.mem_cons.mp h).resolve_right hv
      subst hi
      have : ∀ ws : List Nat, i ∉ ws → wipe (σ.set i o) ws = (wipe σ ws).set i o := by
        intro ws
        induction ws with
        | nil => intro _; rfl
        | cons w ws ih =>
          intro hw
          show (wipe (σ.set i o) ws).set w none = ((wipe σ ws).set w none).set i o
          rw [ih fun z => hw (List.mem_cons_of_mem _ z)]
          exact List.set_comm _ _ (fun z => hw (z ▸ List.mem_cons_self))
      rw [this vs hv, List.set_set]
theorem wipe_wipe {σ : L2.St} {vs : List Nat} : ∀ {ws : List Nat}, (∀ w ∈ ws, w ∈ vs) → wipe (wipe σ ws) vs = wipe σ vs
  | [], _ => rfl
  | w :: ws, h => by
    show wipe ((wipe σ ws).set w none) vs = _
    rw [wipe_set (h w List.mem_cons_self), wipe_wipe fun z hz => h z (List.mem_cons_of_mem _ hz)]
theorem wipe_setSt {vs : List Nat} : ∀ {is : List Nat} {σ : L2.St} {xs : List V}, (∀ i ∈ is, i ∈ vs) → wipe (setSt σ is xs) vs = wipe σ vs
  | [], σ, _, _ => rfl
  | i :: is, σ, [], _ => rfl
  | i :: is, σ, x :: xs, h => by
    show wipe (setSt (σ.set i (some x)) is xs) vs = _
    rw [wipe_setSt fun z hz => h z (List.mem_cons_of_mem _ hz), wipe_set (h i List.mem_cons_self)]
section
variable {W : Wd} {xa : Xa} {call : Call} {N : List Str} {k : Nat} {sc : Scope} {hot : Bool} {X : Cx} {Wx : WX} {pos p : Pos} {x : Str} {ph : List Addr} {H : Hp} {e : Env} {σ : L2.St}
theorem RS.setAll : ∀ {is : List Nat} {xs : List Val} {vs : List V} {e : Env} {σ : L2.St}, RS W xa ph H e σ → VRs W ph H xs vs → RS W xa ph H (setAll e is xs) (setSt σ is vs)
  | [], [], _, _, _, s, .nil => s
  | [], _ :: _, _, _, _, s, .cons _ _ => s
  | _ :: _, [], _, _, _, s, .nil => s
  | i :: is, x :: xs, v :: vs, e, σ, s, .cons h r => RS.setAll (is := is) (xs := xs) (vs := vs) (e := e.set i (some x)) (σ := σ.set i (some v)) (s.set h) r
def gEv (W : Wd) (xa : Xa) (tg : TG) : L2.TG := fun v σ H Q => ∃ (e : Env) (ph : List Addr) (s : Store) (y : Val) (e' : Env), RS W xa ph H e σ ∧ Rep W ph s H ∧ VR W ph H y v ∧ asg tg y e = some e' ∧ ∀ σ', RS W xa ph H e' σ' → wipe σ' (tgS tg) = wipe σ (tgS tg) → Q σ' H
theorem PG.imp {X : Cx} {tg : PySem.Expr} {t t' : L2.TG} (h : PG X tg t) (i : ∀ v σ H Q, t' v σ H Q → t v σ H Q) : PG X tg t' := ⟨fun pins s σ H v u Q I r q => h.run pins s σ H v u Q I r (i v σ H Q q)⟩
theorem PGs.imp {X : Cx} {ts : List PySem.Expr} {t t' : TGs} (h : PGs X ts t) (i : ∀ v σ H Q, t' v σ H Q → t v σ H Q) : PGs X ts t' := ⟨fun pins s σ H v u Q I r q => h.run pins s σ H v u Q I r (i v σ H Q q)⟩
/-- the names of a scope can be written -/
def WrOk (X : Cx) (sc : Scope) : Prop := ∀ x, locB sc x = true → L2.Loc X.env.scope x ∧ (X.fn x = true ∨ X.env.scope.names.lookup x = some .local)
theorem pgs_tg (hN : X.N = N) (nd : N.Nodup) (hw : WrOk X sc) : ∀ {is : List Nat} {es : List PySem.Expr}, tgB N sc is es = true → PGs X es (fun vs σ H Q => vs.length = is.length ∧ Q (setSt σ is vs) H)
  | [], [], _ => PGs.imp pgs_nil fun vs σ H Q ⟨h1, h2⟩ => by
    cases vs with
    | nil => exact ⟨rfl, h2⟩
    | cons _ _ => cases h1
  | i :: is, .Name x p :: es, h => by
    obtain ⟨h1, h2⟩ := ba (show ((decide (N[i]? = some x) && locB sc x) && tgB N sc is es) = true from h)
    obtain ⟨h3, h4⟩ := ba h1
    obtain ⟨h5, h6⟩ := hw x h4
    refine PGs.imp (pgs_cons (pg_name (i := i) (by rw [hN]; exact nd) (by rw [hN]; exact of_decide_eq_true h3) h5 h6) (pgs_tg hN nd hw h2) rfl) fun vs σ H Q ⟨h7, h8⟩ => ?_
    cases vs with
    | nil => cases h7
    | cons v vs => exact ⟨v, vs, rfl, Nat.succ.inj h7, h8⟩
theorem asgE_len {is : List Nat} : ∀ {es : List PySem.Expr} {env : PySem.Env}, tgB N sc is es = true → (assignEach es env).length = is.length ∧ (assignEach es env).findIdx? (·.1) = none := by
  induction is with
  | nil =>
    intro es env h
    cases es with
    | nil => exact ⟨rfl, rfl⟩
    | cons e es => cases e <;> cases h
  | cons i is ih =>
    intro es env h
    cases es with
    | nil => cases h
    | cons e es =>
      cases e <;> try cases h
      have h := (ba h).2
      obtain ⟨h1, h2⟩ := ih (es := es) (env := env) h
      refine ⟨congrArg Nat.succ h1, ?_⟩
      show ((false, _) :: assignEach es env).findIdx? (·.1) = none
      rw [List.findIdx?_cons]
      simp [h2]
theorem pg_tg (hN : X.N = N) (nd : N.Nodup) (eK : X.K = W.K) (hc : X.calm = true) (hw : WrOk X sc) {tg : TG} {t : PySem.Expr} (h : matTG N sc tg t = true) : PG X t (gEv W xa tg) := by
  unfold matTG at h
  split at h
  · rename_i i x p
    obtain ⟨h3, h4⟩ := ba h
    obtain ⟨h5, h6⟩ := hw x h4
    refine PG.imp (pg_name (i := i) (by rw [hN]; exact nd) (by rw [hN]; exact of_decide_eq_true h3) h5 h6) fun v σ H Q ⟨e, ph, s, y, e', hs, hr, vr, ha, q⟩ => ?_
    cases ha
    exact q _ (hs.set vr) (wipe_set List.mem_cons_self)
  · rename_i is es kk pp
    obtain ⟨h1, h2⟩ := asgE_len (env := X.env) h
    refine PG.imp (pg_tup hc (pgs_tg hN nd hw h) h1 h2) fun v σ H Q ⟨e, ph, s, y, e', hs, hr, vr, ha, q⟩ => ?_
    unfold asg at ha
    cases y with
    | tup xs =>
      simp only at ha
      split at ha
      · rename_i hl
        cases ha
        cases vr with
        | tup t1 t2 =>
          refine ⟨_, _, rfl, eK ▸ t1, by rw [← t2.length]; exact hl, by rw [← t2.length]; exact hl, q _ (RS.setAll hs t2) (wipe_setSt fun _ z => z)⟩
      · cases ha
    | _ => cases ha
  · rename_i i is x p es kk pp kk2 pp2
    obtain ⟨h3, h4⟩ := ba h
    obtain ⟨h5, h6⟩ := ba h3
    obtain ⟨w1, w2⟩ := hw x h6
    obtain ⟨l1, l2⟩ := asgE_len (env := X.env) h4
    refine PG.imp (pg_tup (n := 2) hc (pgs_cons (pg_name (i := i) (by rw [hN]; exact nd) (by rw [hN]; exact of_decide_eq_true h5) w1 w2) (pgs_cons (pg_tup hc (pgs_tg hN nd hw h4) l1 l2) pgs_nil rfl) rfl) rfl rfl) fun v σ H Q ⟨e, ph, s, y, e', hs, hr, vr, ha, q⟩ => ?_
    unfold asg at ha
    simp only at ha
    split at ha
    · rename_i x1 xs
      split at ha
      · rename_i hl
        cases ha
        cases vr with
        | tup t1 t2 =>
          cases t2 with
          | cons v1 r1 =>
            cases r1 with
            | cons v2 r2 =>
              cases r2
              cases v2 with
              | tup t3 t4 =>
                exact ⟨_, _, rfl, eK ▸ t1, rfl, _, _, rfl, _, _, rfl, ⟨_, _, rfl, eK ▸ t3, by rw [← t4.length]; exact hl, by rw [← t4.length]; exact hl, rfl, q _ (RS.setAll (hs.set v1) t4) ((wipe_setSt fun _ z => List.mem_cons_of_mem _ z).trans (wipe_set List.mem_cons_self))⟩⟩
      · cases ha
    · cases ha
  · cases h

/-! ### a hidden list -/
theorem Later.hide {hd : List Addr} {D : Addr} {o : HO} (h : H D = none) : Later hd ph H (D :: hd) ph (upd H D o) :=
  ⟨⟨[], by simp⟩, fun a u e hn hh _ => ⟨by rw [upd_ne (ne_of_none e h)]; exact e, hn, fun z => (List.mem_cons.mp z).elim (ne_of_none e h) hh⟩, fun a xs e => by rw [upd_ne (ne_of_none e h)]; exact e, fun a q u e => by rw [upd_ne (ne_of_none e h)]; exact e⟩
theorem Later.upD {hd : List Addr} {D : Addr} {o : HO} {vs : List V} (h : H D = some (.lst vs)) : Later (D :: hd) ph H (D :: hd) ph (upd H D o) :=
  ⟨⟨[], by simp⟩, fun a u e hn hh _ => ⟨by rw [upd_ne (fun z => hh (by rw [z]; exact List.mem_cons_self))]; exact e, hn, hh⟩, fun a xs e => by rw [upd_ne (fun z => by subst z; rw [h] at e; cases e)]; exact e,
    fun a q u e => by rw [upd_ne (fun z => by subst z; rw [h] at e; cases e)]; exact e⟩
theorem CR.later {hd1 ph' : List Addr} {H' : Hp} (g : Later W.hd ph H hd1 ph' H') {a : Addr} {c : Cell} (e : ∀ o, H a = some o → H' a = some o) (h : CR W ph H a c) : CR { W with hd := hd1 } ph' H' a c := by
  cases c with
  | lst xs =>
    obtain ⟨vs, q, r⟩ := h
    exact ⟨vs, e _ q, r.later g⟩
  | ins c ks xs =>
    obtain ⟨dx, vs, q, hl, r⟩ := h
    exact ⟨dx, vs, e _ q, hl, r.later g⟩
  | dic ks xs =>
    obtain ⟨vs, q, hl, r⟩ := h
    exact ⟨vs, e _ q, hl, r.later g⟩
theorem Rep.hide {m : Store} {D : Addr} {o : HO} (r : Rep W ph m H) (h : H D = none) : Rep { W with hd := D :: W.hd } ph m (upd H D o) where
  len := r.len
  nd := r.nd
  cell := fun n a c e1 e2 => (r.cell n a c e1 e2).later (Later.hide h) fun u q => by rw [upd_ne (ne_of_none q h)]; exact q
  tabs := fun P hP => by
    obtain ⟨ps, e, t⟩ := r.tabs P hP
    exact ⟨ps, by rw [upd_ne (ne_of_none e h)]; exact e, t⟩
  hdl := fun a ha => by
    rcases List.mem_cons.mp ha with z | z
    · exact ⟨o, by rw [z, upd_same]⟩
    · obtain ⟨o', e⟩ := r.hdl a z
      exact ⟨o', by rw [upd_ne (ne_of_none e h)]; exact e⟩
  dj := fun a ha z => by
    rcases List.mem_cons.mp z with z | z
    · subst z
      exact r.notin h ha
    · exact r.dj a ha z
theorem Rep.upD {m : Store} {D : Addr} {o : HO} {vs : List V} {hd : List Addr} (r : Rep { W with hd := D :: hd } ph m H) (h : H D = some (.lst vs)) : Rep { W with hd := D :: hd } ph m (upd H D o) where
  len := r.len
  nd := r.nd
  cell := fun n a c e1 e2 => CR.later (W := { W with hd := D :: hd }) (hd1 := D :: hd) (Later.upD h) (fun u q => by
    rw [upd_ne (fun z => r.dj a (List.mem_of_getElem? e1) (by rw [z]; exact List.mem_cons_self))]
    exact q) (r.cell n a c e1 e2)
  tabs := fun P hP => by
    obtain ⟨ps, e, t⟩ := r.tabs P hP
    exact ⟨ps, by rw [upd_ne (fun z => by subst z; rw [h] at e; cases e)]; exact e, t⟩
  hdl := fun a ha => by
    by_cases z : a = D
    · exact ⟨o, by rw [z, upd_same]⟩
    · obtain ⟨o', e⟩ := r.hdl a ha
      exact ⟨o', by rw [upd_ne z]; exact e⟩
  dj := r.dj
theorem RS.later {hd1 ph' : List Addr} {H' : Hp} (s : RS W xa ph H e σ) (g : Later W.hd ph H hd1 ph' H') (hx : ∀ d fs, H d = some (.xd fs) → H' d = some (.xd fs)) : RS { W with hd := hd1 } xa ph' H' e σ :=
  ⟨s.len, fun i x h1 h2 => let ⟨v, q, p⟩ := s.val i x h1 h2; ⟨v, q, p.later g⟩, fun i c ks xs h => by
    obtain ⟨a, d, vs, h1, h2, h3, h4, h5⟩ := s.exv i c ks xs h
    exact ⟨a, d, vs, h1, h2, hx d _ h3, h4, h5.later g⟩⟩
mutual
theorem VR.unhide {D : Addr} {hd : List Addr} : ∀ {x : Val} {v : V}, VR { W with hd := D :: hd } ph H x v → VR { W with hd := hd } ph H x v
  | _, _, .non => .non
  | _, _, .bl b => .bl b
  | _, _, .int i => .int i
  | _, _, .str x => .str x
  | _, _, .tup h r => .tup h (VRs.unhide r)
  | _, _, .lst h hn hh r => .lst h hn (fun z => hh (List.mem_cons_of_mem _ z)) (VRs.unhide r)
  | _, _, .scr h r => .scr (h.elim .inl fun z => z.elim (fun z => .inr (.inl z)) fun z => .inr (.inr ⟨z.1, z.2.1, fun y => z.2.2 (List.mem_cons_of_mem _ y)⟩)) (VRs.unhide r)
  | _, _, .obj h hn hh hl r => .obj h hn (fun z => hh (List.mem_cons_of_mem _ z)) hl (VRs.unhide r)
  | _, _, .ref h => .ref h
  | _, _, .fn f => .fn f
theorem VRs.unhide {D : Addr} {hd : List Addr} : ∀ {xs : List Val} {vs : List V}, VRs { W with hd := D :: hd } ph H xs vs → VRs { W with hd := hd } ph H xs vs
  | _, _, .nil => .nil
  | _, _, .cons h r => .cons (VR.unhide h) (VRs.unhide r)
end
theorem Rep.unhide {m : Store} {D : Addr} {hd : List Addr} (r : Rep { W with hd := D :: hd } ph m H) : Rep { W with hd := hd } ph m H where
  len := r.len
  nd := r.nd
  cell := fun n a c e1 e2 => by
    have q := r.cell n a c e1 e2
    cases c with
    | lst xs =>
      obtain ⟨vs, q, r⟩ := q
      exact ⟨vs, q, r.unhide⟩
    | ins c ks xs =>
      obtain ⟨dx, vs, q, hl, r⟩ := q
      exact ⟨dx, vs, q, hl, r.unhide⟩
    | dic ks xs =>
      obtain ⟨vs, q, hl, r⟩ := q
      exact ⟨vs, q, hl, r.unhide⟩
  tabs := r.tabs
  hdl := fun a ha => r.hdl a (List.mem_cons_of_mem _ ha)
  dj := fun a ha z => r.dj a ha (List.mem_cons_of_mem _ z)
theorem Lib.hide {P : Program} {w : World} {mg : Str → Option Value} {base : Heap} (l : Lib W P w mg base call k) (hd : List Addr) : Lib { W with hd := hd } P w mg base call k :=
  ⟨l.free, l.fnm, l.fns, l.fks, l.con, l.idn, l.fld, l.mth, l.mks, l.clm, l.ins, l.exk, l.exf, l.exi, l.exm, l.kit, l.gcd⟩
end
end Ev

set_option Elab.async false
set_option linter.all false
set_option maxRecDepth 100000
set_option autoImplicit false
/-! Ev: list comprehensions. -/
namespace Ev
open PySem PySem.Spec PyProof.Rows L2
abbrev W0 : WX := fun _ _ _ _ => False
section
variable {W : Wd} {xa : Xa} {call : Call} {N : List Str} {k : Nat} {sc : Scope} {hot : Bool} {X : Cx} {Wx : WX} {pos p : Pos} {x : Str}
theorem PR.pure {γ : Type} {P : γ → Store → List Addr → Hp → Prop} {W2 : Wd} {ph1 ph2 : List Addr} {H1 H2 : Hp} {E E2 : XK} : ∀ {r : R γ}, PR W ph1 H1 P E r.nox → PR W2 ph2 H2 (fun x m _ _ => P x m ph1 H1) E2 r
  | .ok x m, h => h
  | .ex _ _ _ _, h => h.elim
  | .stk, h => h.elim
theorem moC {γ : Type} {P : γ → Store → Prop} : Mo (fun (x : γ) m (_ : List Addr) (_ : Hp) => P x m) := fun _ _ _ _ _ _ _ h => h
/-- tests, whatever is hidden -/
def tEvC (W : Wd) (xa : Xa) (call : Call) (cs : MEs) (Wx : WX) : TT := fun σ H Q => ∃ (e : Env) (ph : List Addr) (s : Store), RS W xa ph H e σ ∧ Rep W ph s H ∧ PR W ph H (QB W Q) (fun c d H' => Wx c d σ H') (evC W.G call cs e s)
def tEvA (W : Wd) (call : Call) (m : ME) : TE := fun σ H Q => ∃ hd, tEv { W with hd := hd } none call m W0 σ H Q
def tCA (W : Wd) (call : Call) (cs : MEs) : TT := fun σ H Q => ∃ hd, tEvC { W with hd := hd } none call cs W0 σ H Q
def gEvA (W : Wd) (tg : TG) : L2.TG := fun v σ H Q => ∃ hd, gEv { W with hd := hd } none tg v σ H Q
theorem pe_any {m : ME} {e : PySem.Expr} (h : ∀ hd, PE X e (tEv { W with hd := hd } none call m W0)) : PE X e (tEvA W call m) := ⟨fun pins s σ H Q I ⟨hd, q⟩ => (h hd).run pins s σ H Q I q⟩
theorem pt_any {t : List Addr → TT} {e : PySem.Expr} (h : ∀ hd, PT X e (t hd)) : PT X e (fun σ H Q => ∃ hd, t hd σ H Q) := ⟨fun pins s σ H Q I ⟨hd, q⟩ => (h hd).run pins s σ H Q I q⟩
theorem pts_any {t : List Addr → TT} {es : List PySem.Expr} (h : ∀ hd, PTs X es (t hd)) : PTs X es (fun σ H Q => ∃ hd, t hd σ H Q) := ⟨fun pins s σ H Q I ⟨hd, q⟩ => (h hd).run pins s σ H Q I q⟩
theorem pg_any {t : PySem.Expr} {tg : TG} (h : ∀ hd, PG X t (gEv { W with hd := hd } none tg)) : PG X t (gEvA W tg) := ⟨fun pins s σ H v u Q I r ⟨hd, q⟩ => (h hd).run pins s σ H v u Q I r q⟩
theorem PTs.imp {X : Cx} {es : List PySem.Expr} {t t' : TT} (h : PTs X es t) (i : ∀ σ H Q, t' σ H Q → t σ H Q) : PTs X es t' := ⟨fun pins s σ H Q I q => h.run pins s σ H Q I (i σ H Q q)⟩
theorem sc_nil : PTs X [] (tEvC W xa call .nil Wx) := by
  refine PTs.imp pts_nil fun σ H Q ⟨e, ph, s, hs, hr, q⟩ => ?_
  unfold evC at q
  exact q ph H .refl hr
theorem sc_one {c : ME} {x : PySem.Expr} (h : Pt W xa call Wx X c x) : PTs X [x] (tEvC W xa call (.cons c .nil) Wx) := by
  refine PTs.imp (pts_one h) fun σ H Q ⟨e, ph, s, hs, hr, q⟩ => ⟨e, ph, s, hs, hr, ?_⟩
  unfold evC at q
  unfold evT
  cases h1 : ev W.G call c e s with
  | stk => rw [h1] at q; exact q
  | ex d ks xs m => rw [h1] at q; exact q
  | ok x s1 =>
    rw [h1, R.bind_ok] at q
    rw [R.bind_ok]
    cases h2 : truth s1 x with
    | none => simp only [h2] at q; exact q
    | some b =>
      simp only [h2] at q
      cases b with
      | true =>
        unfold evC at q
        exact q
      | false => exact q
theorem tEvC_of {cs : MEs} {σ : L2.St} {H : Hp} {e : Env} {ph : List Addr} {s : Store} {Pk : Bool → Store → List Addr → Hp → Prop} {C : Bool → Hp → Prop} (hs : RS W xa ph H e σ) (hr : Rep W ph s H) (mo : Mo Pk) (h : PR W ph H Pk (fun c d H' => Wx c d σ H') (evC W.G call cs e s))
    (k : ∀ x s1 ph1 H1, Grow ph H ph1 H1 → Rep W ph1 s1 H1 → RS W xa ph1 H1 e σ → Pk x s1 ph1 H1 → C x H1) : tEvC W xa call cs Wx σ H C :=
  ⟨e, ph, s, hs, hr, PR.imp (fun x s1 q ph1 H1 g r => k x s1 ph1 H1 g r (hs.grow hr g) (mo _ _ _ _ _ _ g q)) h⟩
theorem own_snd {is : List Nat} : (ownOf N is).map (·.2) = is := by
  unfold ownOf
  rw [List.map_map]
  exact List.map_id is
theorem fold_of {e : PySem.Expr} {env : PySem.Env} (h : setB e = true) : ∀ x, foldedSetIterable e env x = pure x := by
  intro x
  cases e <;> first | rfl | cases h
/-- the context of a comprehension's block -/
theorem Gd.blk (g : Gd W call N k sc false Wx X) (hd : List Addr) {scope : Scope} {s : Shared} {H : Hp} {C : Addr} {cl : List (Str × Addr)} {fp : List Addr} : Gd { W with hd := hd } call N k (relS scope sc) false W0 (X.blk s H scope (compEnvC scope cl C X.env) fp) where
  lib := g.lib.hide hd
  eK := g.eK
  eN := g.eN
  nd := g.nd
  eS := by
    rw [← g.eS]
    rfl
  hu := g.hu
  gu := g.gu
  tk := takes_none5
  calm := g.calm
  room := g.room
theorem wr_blk (g : Gd W call N k sc false Wx X) {scope : Scope} {s : Shared} {H : Hp} {C : Addr} {cl : List (Str × Addr)} {fp : List Addr} : WrOk (X.blk s H scope (compEnvC scope cl C X.env) fp) scope := by
  intro x h
  unfold locB at h
  have key : ∀ kd : NameKind, kd ≠ .free → scope.names.lookup x = some kd → (X.blk s H scope (compEnvC scope cl C X.env) fp).env.scope.names.lookup x = some kd := fun kd hk e => lookup_relS_keep (sc := X.env.scope) hk e
  cases q : scope.names.lookup x with
  | none => rw [q] at h; cases h
  | some kd =>
    rw [q] at h
    cases kd <;> try cases h
    · exact ⟨.inl (key _ (by intro z; cases z) q), .inr (key _ (by intro z; cases z) q)⟩
    · refine ⟨.inr (key _ (by intro z; cases z) q), .inl ?_⟩
      show (scope.names.lookup x == some NameKind.cell) = true
      rw [q]
      rfl
/-- one item of a comprehension -/
noncomputable def stepE (G : Prog) (call : Call) (tg : TG) (cs : MEs) (el : ME) (e : Env) (x : Val) (s2 : Store) : R (Option Val) := match asg tg x (wipeE e (tgS tg)) with
  | some e1 => ((evC G call cs e1 s2).bind fun b s3 => if b then (ev G call el e1 s3).bind fun v s4 => .ok (some v) s4 else .ok none s3).nox
  | none => .stk
theorem ev_lc {G : Prog} {m : Bool} {tg : TG} {it : IT} {cs : MEs} {el : ME} {e : Env} {s : Store} : ev G call (.lc m tg it cs el) e s = (evI G call it e s).bind fun p s1 => (lcL (stepE G call tg cs el e) p.2 p.1 [] s1).bind fun xs s2 => putL m xs s2 := by
  rw [ev]
  rfl

mutual
theorem VR.expose {D : Addr} {ph : List Addr} {H : Hp} : ∀ {x : Val} {v : V}, VR { W with hd := D :: W.hd } ph H x v → VR W (ph ++ [D]) H x v
  | _, _, .non => .non
  | _, _, .bl b => .bl b
  | _, _, .int i => .int i
  | _, _, .str x => .str x
  | _, _, .tup h r => .tup h (VRs.expose r)
  | _, _, .lst h hn hh r => .lst h (fun z => (List.mem_append.mp z).elim hn fun z => hh (by rw [List.mem_singleton.mp z]; exact List.mem_cons_self)) (fun z => hh (List.mem_cons_of_mem _ z)) (VRs.expose r)
  | _, _, .scr h r => .scr (h.elim .inl fun z => z.elim (fun z => .inr (.inl z)) fun z => .inr (.inr ⟨z.1, fun y => (List.mem_append.mp y).elim z.2.1 fun y => z.2.2 (by rw [List.mem_singleton.mp y]; exact List.mem_cons_self), fun y => z.2.2 (List.mem_cons_of_mem _ y)⟩)) (VRs.expose r)
  | _, _, .obj h hn hh hl r => .obj h (fun z => (List.mem_append.mp z).elim hn fun z => hh (by rw [List.mem_singleton.mp z]; exact List.mem_cons_self)) (fun z => hh (List.mem_cons_of_mem _ z)) hl (VRs.expose r)
  | _, _, .ref h => .ref (by
      rw [List.getElem?_append_left (List.getElem?_eq_some_iff.mp h).1]
      exact h)
  | _, _, .fn f => .fn f
theorem VRs.expose {D : Addr} {ph : List Addr} {H : Hp} : ∀ {xs : List Val} {vs : List V}, VRs { W with hd := D :: W.hd } ph H xs vs → VRs W (ph ++ [D]) H xs vs
  | _, _, .nil => .nil
  | _, _, .cons h r => .cons (VR.expose h) (VRs.expose r)
end
theorem Rep.expose {D : Addr} {ph : List Addr} {H : Hp} {s : Store} {acc : List Val} {vs : List V} (r : Rep { W with hd := D :: W.hd } ph s H) (hD : H D = some (.lst vs)) (ha : VRs { W with hd := D :: W.hd } ph H acc vs) (hh : D ∉ W.hd) : Rep W (ph ++ [D]) (s ++ [.lst acc]) H where
  len := by rw [List.length_append, List.length_append, r.len]; rfl
  nd := by
    rw [List.nodup_append]
    refine ⟨r.nd, by simp, fun a ha b hb e => ?_⟩
    rw [List.mem_singleton.mp hb] at e
    rw [e] at ha
    exact r.dj D ha List.mem_cons_self
  cell := fun n a c e1 e2 => by
    by_cases hn : n < ph.length
    · rw [List.getElem?_append_left hn] at e1
      rw [List.getElem?_append_left (by rw [← r.len]; exact hn)] at e2
      have q := r.cell n a c e1 e2
      cases c with
      | lst xs =>
        obtain ⟨us, q, rr⟩ := q
        exact ⟨us, q, rr.expose⟩
      | ins c ks xs =>
        obtain ⟨dx, us, q, hl, rr⟩ := q
        exact ⟨dx, us, q, hl, rr.expose⟩
      | dic ks xs =>
        obtain ⟨us, q, hl, rr⟩ := q
        exact ⟨us, q, hl, rr.expose⟩
    · have hn' : n = ph.length := by
        have := (List.getElem?_eq_some_iff.mp e1).1
        rw [List.length_append] at this
        simp at this
        omega
      subst hn'
      rw [List.getElem?_append_right (Nat.le_refl _)] at e1
      rw [r.len, List.getElem?_append_right (Nat.le_refl _)] at e2
      simp at e1 e2
      rw [← e1, ← e2]
      exact ⟨vs, hD, ha.expose⟩
  tabs := r.tabs
  hdl := fun a ha => r.hdl a (List.mem_cons_of_mem _ ha)
  dj := fun a ha z => (List.mem_append.mp ha).elim (fun y => r.dj a y (List.mem_cons_of_mem _ z)) fun y => hh (by rw [← List.mem_singleton.mp y]; exact z)
/-- a comprehension's turns -/
theorem lc_turns (g : Gd W call N k sc false Wx X) {tg : TG} {cs : MEs} {el : ME} {m : Bool} {σ : L2.St} {e : Env} {Q : VK} {E : XK} {J : It} {xs : List Val} {live : Live} {ph1 : List Addr} {H1 : Hp} {s1 : Store} (hs : RS W none ph1 H1 e σ) (hr : Rep W ph1 s1 H1) (hJ : ItW W ph1 H1 J xs live)
    (q : PR W ph1 H1 (QV W Q) E ((lcL (stepE W.G call tg cs el e) live xs [] s1).bind fun xs s2 => putL m xs s2)) (D : Addr) (hD : H1 D = none) :
    ∃ W' : Nat → Nat → Hp → Prop, (∃ m, W' 0 m (upd H1 D (.lst []))) ∧ ∀ i m H, W' i m H →
      (J.stop i H ∧ Q (.ref D) H) ∨ (J.go i H ∧ ∃ Nx : Hp → Prop, (∀ H', Nx H' → ∃ m', m' < m ∧ W' (i + 1) m' H') ∧ ∀ x H', J.yld i H x H' → gEvA W tg x (wipe σ (tgS tg)) H' fun σ2 H2 => wipe σ2 (tgS tg) = wipe σ (tgS tg) ∧ tCA W call cs σ2 H2 fun b H3 =>
        if b = true then tEvA W call el σ2 H3 fun y H4 => ∃ acc, H4 D = some (.lst acc) ∧ acc.length < sizeLine ∧ Nx (upd H4 D (.lst (acc ++ [y]))) else Nx H3) := by
  let Pend : List Val → Store → Prop := fun ys s2 => PR W ph1 H1 (QV W Q) E (putL m ys s2)
  refine ⟨fun i mm H => mm = xs.length - i ∧ i ≤ xs.length ∧ ∃ (ph : List Addr) (s : Store) (acc : List Val) (vs : List V), Grow ph1 H1 ph H ∧ Later W.hd ph1 H1 (D :: W.hd) ph H ∧ Rep { W with hd := D :: W.hd } ph s H ∧ H D = some (.lst vs) ∧ VRs { W with hd := D :: W.hd } ph H acc vs ∧
    RS { W with hd := D :: W.hd } none ph H e σ ∧ PR W ph1 H1 (fun ys s2 _ _ => Pend ys s2) E (lcL (stepE W.G call tg cs el e) live (xs.drop i) acc s), ⟨xs.length, rfl, Nat.zero_le _, ph1, s1, [], [], Grow.fresh hD, Later.hide hD, hr.hide hD, upd_same, .nil, ?_, PR.fst q⟩, ?_⟩
  · refine RS.later hs (Later.hide hD) fun d fs h => ?_
    rw [upd_ne (ne_of_none h hD)]
    exact h
  · intro i mm H ⟨hm, hi, ph, s, acc, vs, gw, lt, rep, hDv, hacc, rs, q⟩
    have hDn : D ∉ ph := fun z => rep.dj D z List.mem_cons_self
    have hst : stands s live := by
      cases hx : xs.drop i with
      | nil =>
        rw [hx] at q
        unfold lcL at q
        split at q
        · assumption
        · exact q.elim
      | cons y r =>
        rw [hx] at q
        unfold lcL at q
        split at q
        · assumption
        · exact q.elim
    obtain ⟨hit, hstop⟩ := hJ (D :: W.hd) ph H s lt rep hst
    rcases Nat.lt_or_eq_of_le hi with hlt | heq
    · right
      have hx : xs[i]? = some xs[i] := List.getElem?_eq_getElem hlt
      obtain ⟨hgo, hy⟩ := hit i _ hx
      rw [List.drop_eq_getElem_cons hlt] at q
      refine ⟨hgo, fun H' => ∃ (ph : List Addr) (s : Store) (acc : List Val) (vs : List V), Grow ph1 H1 ph H' ∧ Later W.hd ph1 H1 (D :: W.hd) ph H' ∧ Rep { W with hd := D :: W.hd } ph s H' ∧ H' D = some (.lst vs) ∧ VRs { W with hd := D :: W.hd } ph H' acc vs ∧
        RS { W with hd := D :: W.hd } none ph H' e σ ∧ PR W ph1 H1 (fun ys s2 _ _ => Pend ys s2) E (lcL (stepE W.G call tg cs el e) live (xs.drop (i + 1)) acc s), fun H' h => ⟨xs.length - (i + 1), by omega, rfl, hlt, h⟩, fun x' H2 hyld => ?_⟩
      obtain ⟨g2, rep2, vr2⟩ := hy x' H2 hyld
      unfold lcL at q
      simp only [hst, if_true] at q
      have q := PR.fst q
      have keepD : ∀ {ph' : List Addr} {H' : Hp}, Grow ph H ph' H' → H' D = some (.lst vs) := fun g => g.keep D _ hDv hDn (fun ps z => by cases z)
      unfold stepE at q
      cases ha : asg tg xs[i] (wipeE e (tgS tg)) with
      | none => simp only [ha] at q; exact q.elim
      | some e1 =>
        simp only [ha] at q
        refine ⟨D :: W.hd, wipeE e (tgS tg), ph, s, _, e1, (rs.grow rep g2).wipe _, rep2, vr2, ha, fun σ2 rs2 hw => ⟨by rw [hw, wipe_wipe fun _ z => z], ?_⟩⟩
        have q := PR.pure (W2 := { W with hd := D :: W.hd }) (ph2 := ph) (H2 := H2) (E2 := fun c d H' => W0 c d σ2 H') q
        refine ⟨D :: W.hd, tEvC_of rs2 rep2 (PR.mo moC) (PR.fst q) fun b s3 ph3 H3 g3 rep3 rs3 q3 => ?_⟩
        have back : RS { W with hd := D :: W.hd } none ph3 H3 e σ := rs.grow rep (g2.trans g3)
        cases b with
        | false =>
          refine ite_ff ⟨ph3, s3, acc, vs, gw.trans (g2.trans g3), lt.trans (Later.of (g2.trans g3)), rep3, keepD (g2.trans g3), hacc.grow (g2.trans g3), back, ?_⟩
          exact q3
        | true =>
          refine ite_tt ⟨D :: W.hd, ?_⟩
          have q3 : PR { W with hd := D :: W.hd } ph3 H3 (fun o s1 _ _ => PR W ph1 H1 (fun ys s2 _ _ => Pend ys s2) E (match o with
              | some v => if acc.length < szL then lcL (stepE W.G call tg cs el e) live (xs.drop (i + 1)) (acc ++ [v]) s1 else .stk
              | none => lcL (stepE W.G call tg cs el e) live (xs.drop (i + 1)) acc s1)) (fun c d H' => W0 c d σ2 H') ((ev W.G call el e1 s3).bind fun v s4 => .ok (some v) s4) := q3
          refine tEv_of rs3 rep3 (PR.mo moC) (PR.fst q3) fun v s5 ph5 H5 u g5 rep5 v5 rs5 q5 => ?_
          have q5 : PR W ph1 H1 (fun ys s2 _ _ => Pend ys s2) E (if acc.length < szL then lcL (stepE W.G call tg cs el e) live (xs.drop (i + 1)) (acc ++ [v]) s5 else .stk) := q5
          have g6 := (g2.trans g3).trans g5
          have hD5 := keepD g6
          by_cases hl : acc.length < szL
          · simp only [hl, if_true] at q5
            rw [hacc.length] at hl
            refine ⟨vs, hD5, hl, ph5, s5, acc ++ [v], vs ++ [u], ?_, (lt.trans (Later.of g6)).trans (Later.upD hD5), rep5.upD hD5, upd_same, ?_, ?_, q5⟩
            · have gg := gw.trans g6
              have hD5n : D ∉ ph5 := fun z => rep5.dj D z List.mem_cons_self
              exact ⟨gg.pre, gg.new, fun a o h1 h2 h3 => by rw [upd_ne (ne_of_none h1 hD)]; exact gg.keep a o h1 h2 h3, fun a xs h1 => by rw [upd_ne (ne_of_none h1 hD)]; exact gg.tups a xs h1,
                fun a o u h1 => by rw [upd_ne (ne_of_none h1 hD)]; exact gg.frzs a o u h1, fun a ps h1 => by rw [upd_ne (ne_of_none h1 hD)]; exact gg.tabs a ps h1⟩
            · exact VRs.later (W := { W with hd := D :: W.hd }) (Later.upD hD5) ((hacc.grow g6).append (.cons v5 .nil))
            · refine RS.later (W := { W with hd := D :: W.hd }) (rs.grow rep g6) (Later.upD hD5) fun d fs h => ?_
              rw [upd_ne (fun z => by subst z; rw [hD5] at h; cases h)]
              exact h
          · simp only [hl, if_false] at q5
            exact q5.elim
    · left
      refine ⟨by rw [heq]; exact hstop, ?_⟩
      rw [heq, List.drop_length] at q
      unfold lcL at q
      simp only [hst, if_true] at q
      have q : PR W ph1 H1 (QV W Q) E (putL m acc s) := q
      unfold putL at q
      have rep0 : Rep W ph s H := rep.unhide
      have acc0 : VRs W ph H acc vs := hacc.unhide
      have hh : D ∉ W.hd := hr.nohd hD
      cases m with
      | false => exact (show QV W Q (.lst acc) s ph1 H1 from q) ph H (.ref D) gw rep0 (.lst hDv hDn hh acc0)
      | true =>
        have q : QV W Q (.ref s.length) (s ++ [.lst acc]) ph1 H1 := q
        have gD : Grow ph1 H1 (ph ++ [D]) H := ⟨by
          obtain ⟨r, er⟩ := gw.pre
          exact ⟨r ++ [D], by rw [er, List.append_assoc]⟩, fun a ha => by
          rcases List.mem_append.mp ha with z | z
          · exact gw.new a z
          · rw [List.mem_singleton.mp z]
            exact .inr hD, gw.keep, gw.tups, gw.frzs, gw.tabs⟩
        refine q (ph ++ [D]) H (.ref D) gD (Rep.expose rep hDv hacc hh) (.ref ?_)
        have hlen : ph.length = s.length := rep.len
        rw [← hlen, List.getElem?_append_right (Nat.le_refl _)]
        simp
theorem se_lc (g : Gd W call N k sc false Wx X) {m : Bool} {tg : TG} {it : IT} {cs : MEs} {el : ME} {elt t i : PySem.Expr} {fs : List PySem.Expr} {scope : Scope} (hi : PI X t i (iEv W none call it Wx)) (hsb : setB i = true) (hb : blkC N sc scope (ownOf N (tgS tg)) = true) (ht : matTG N scope tg t = true)
    (hc : ∀ hd X', Gd { W with hd := hd } call N k (relS scope sc) false W0 X' → PTs X' fs (tEvC { W with hd := hd } none call cs W0)) (he : ∀ hd X', Gd { W with hd := hd } call N k (relS scope sc) false W0 X' → Pe { W with hd := hd } none call W0 X' el elt) :
    Pe W none call Wx X (.lc m tg it cs el) (.ListComp elt [⟨t, i, fs, 0⟩] scope pos) := by
  have ok : BlkOk X.N X.env.scope scope (ownOf N (tgS tg)) := by
    rw [g.eN, g.eS]
    exact blkOk_by hb
  refine PE.imp (pe_lc (own := ownOf N (tgS tg)) (g := gEvA W tg) (tt := tCA W call cs) (te := tEvA W call el) (g.calm rfl) (by rw [g.eN]; exact g.nd) hi ok (fun s H C cl fp => pg_any fun hd => pg_tg (W := { W with hd := hd }) (X := X.blk s H scope (compEnvC scope cl C X.env) fp) (g.blk hd).eN g.nd (g.blk hd).eK (g.calm rfl) (wr_blk g) ht)
    (fun s H C cl fp => pts_any fun hd => hc hd _ (g.blk hd)) (fun s H C cl fp => pe_any fun hd => he hd _ (g.blk hd)) (fold_of hsb)) fun σ H Q ⟨e, ph, s, hs, hr, q⟩ => ?_
  rw [own_snd]
  rw [ev_lc] at q
  refine ⟨e, ph, s, hs, hr, PR.imp (fun p s1 q1 ph1 H1 g1 r1 J hJ D hD => ?_) (PR.fst q)⟩
  exact lc_turns g (hs.grow hr g1) r1 hJ (PR.grow QV.mo g1 q1) D hD
end
end Ev

set_option Elab.async false
set_option linter.all false
set_option maxRecDepth 100000
set_option autoImplicit false
/-! Ev: list comprehensions of two clauses. -/
namespace Ev
open PySem PySem.Spec PyProof.Rows L2
section
variable {W : Wd} {xa : Xa} {call : Call} {N : List Str} {k : Nat} {sc : Scope} {hot : Bool} {X : Cx} {Wx : WX} {pos p : Pos} {x : Str}
/-- what stands within a comprehension: D the new list, acc what it holds -/
structure Bd (W : Wd) (D : Addr) (ph1 : List Addr) (H1 : Hp) (ph : List Addr) (s : Store) (acc : List Val) (vs : List V) (H : Hp) : Prop where
  gw : Grow ph1 H1 ph H
  lt : Later W.hd ph1 H1 (D :: W.hd) ph H
  rep : Rep { W with hd := D :: W.hd } ph s H
  hD : H D = some (.lst vs)
  hacc : VRs { W with hd := D :: W.hd } ph H acc vs
theorem Bd.nin {D : Addr} {ph1 ph : List Addr} {H1 H : Hp} {s : Store} {acc : List Val} {vs : List V} (b : Bd W D ph1 H1 ph s acc vs H) : D ∉ ph := fun z => b.rep.dj D z List.mem_cons_self
theorem Bd.grow {D : Addr} {ph1 ph ph' : List Addr} {H1 H H' : Hp} {s s' : Store} {acc : List Val} {vs : List V} (b : Bd W D ph1 H1 ph s acc vs H) (g : Grow ph H ph' H') (r : Rep { W with hd := D :: W.hd } ph' s' H') : Bd W D ph1 H1 ph' s' acc vs H' :=
  ⟨b.gw.trans g, b.lt.trans (Later.of g), r, g.keep D _ b.hD b.nin (fun ps z => by cases z), b.hacc.grow g⟩
theorem Bd.push {D : Addr} {ph1 ph : List Addr} {H1 H : Hp} {s : Store} {acc : List Val} {vs : List V} {v : Val} {u : V} (b : Bd W D ph1 H1 ph s acc vs H) (hD0 : H1 D = none) (v5 : VR { W with hd := D :: W.hd } ph H v u) : Bd W D ph1 H1 ph s (acc ++ [v]) (vs ++ [u]) (upd H D (.lst (vs ++ [u]))) := by
  refine ⟨?_, b.lt.trans (Later.upD b.hD), b.rep.upD b.hD, upd_same, ?_⟩
  · have gg := b.gw
    exact ⟨gg.pre, gg.new, fun a o h1 h2 h3 => by rw [upd_ne (ne_of_none h1 hD0)]; exact gg.keep a o h1 h2 h3, fun a xs h1 => by rw [upd_ne (ne_of_none h1 hD0)]; exact gg.tups a xs h1,
      fun a o u h1 => by rw [upd_ne (ne_of_none h1 hD0)]; exact gg.frzs a o u h1, fun a ps h1 => by rw [upd_ne (ne_of_none h1 hD0)]; exact gg.tabs a ps h1⟩
  · exact VRs.later (W := { W with hd := D :: W.hd }) (Later.upD b.hD) (b.hacc.append (.cons v5 .nil))
theorem rs_push {D : Addr} {ph : List Addr} {H : Hp} {e : Env} {σ : L2.St} {vs ws : List V} (rs : RS { W with hd := D :: W.hd } none ph H e σ) (hD : H D = some (.lst vs)) : RS { W with hd := D :: W.hd } none ph (upd H D (.lst ws)) e σ :=
  RS.later (W := { W with hd := D :: W.hd }) rs (Later.upD hD) fun d fs h => by
    rw [upd_ne (fun z => by subst z; rw [hD] at h; cases h)]
    exact h
/-- the inner clause's turns: it hands on the list to Nx -/
theorem in_turns {tg : TG} {cs : MEs} {el : ME} {σ0 σ : L2.St} {e0 e : Env} {J : It} {xs : List Val} {live : Live} {D : Addr} {ph1 ph4 : List Addr} {H1 H4 : Hp} {s4 : Store} {acc4 : List Val} {vs4 : List V} {Pk : List Val → Store → Prop} {E : XK} {Nx : Hp → Prop} {W3 : Wd} {ph0 : List Addr} {H0 : Hp} (hD0 : H1 D = none)
    (hNx : ∀ ph s acc vs H, Bd W D ph1 H1 ph s acc vs H → RS { W with hd := D :: W.hd } none ph H e0 σ0 → Pk acc s → Nx H)
    (b4 : Bd W D ph1 H1 ph4 s4 acc4 vs4 H4) (rs0 : RS { W with hd := D :: W.hd } none ph4 H4 e0 σ0) (rs4 : RS { W with hd := D :: W.hd } none ph4 H4 e σ) (hJ : ItW { W with hd := D :: W.hd } ph4 H4 J xs live)
    (q : PR W3 ph0 H0 (fun ys s2 _ _ => Pk ys s2) E (lcL (stepE W.G call tg cs el e) live xs acc4 s4)) :
    ∃ W1 : Nat → Nat → Hp → Prop, (∃ m, W1 0 m H4) ∧ ∀ i m H, W1 i m H →
      (J.stop i H ∧ Nx H) ∨ (J.go i H ∧ ∃ Nx1 : Hp → Prop, (∀ H', Nx1 H' → ∃ m', m' < m ∧ W1 (i + 1) m' H') ∧ ∀ x H', J.yld i H x H' → gEvA W tg x (wipe σ (tgS tg)) H' fun σ2 H2 => wipe σ2 (tgS tg) = wipe σ (tgS tg) ∧ tCA W call cs σ2 H2 fun b H3 =>
        if b = true then tEvA W call el σ2 H3 fun y H4 => ∃ acc, H4 D = some (.lst acc) ∧ acc.length < sizeLine ∧ Nx1 (upd H4 D (.lst (acc ++ [y]))) else Nx1 H3) := by
  refine ⟨fun i mm H => mm = xs.length - i ∧ i ≤ xs.length ∧ ∃ (ph : List Addr) (s : Store) (acc : List Val) (vs : List V), Bd W D ph1 H1 ph s acc vs H ∧ Later (D :: W.hd) ph4 H4 (D :: W.hd) ph H ∧ RS { W with hd := D :: W.hd } none ph H e0 σ0 ∧ RS { W with hd := D :: W.hd } none ph H e σ ∧
    PR W3 ph0 H0 (fun ys s2 _ _ => Pk ys s2) E (lcL (stepE W.G call tg cs el e) live (xs.drop i) acc s), ⟨xs.length, rfl, Nat.zero_le _, ph4, s4, acc4, vs4, b4, Later.of .refl, rs0, rs4, q⟩, ?_⟩
  intro i mm H ⟨hm, hi, ph, s, acc, vs, bd, lt4, rs0, rs, q⟩
  have hst : stands s live := by
    cases hx : xs.drop i with
    | nil =>
      rw [hx] at q
      unfold lcL at q
      split at q
      · assumption
      · exact q.elim
    | cons y r =>
      rw [hx] at q
      unfold lcL at q
      split at q
      · assumption
      · exact q.elim
  obtain ⟨hit, hstop⟩ := hJ (D :: W.hd) ph H s lt4 bd.rep hst
  rcases Nat.lt_or_eq_of_le hi with hlt | heq
  · right
    have hx : xs[i]? = some xs[i] := List.getElem?_eq_getElem hlt
    obtain ⟨hgo, hy⟩ := hit i _ hx
    rw [List.drop_eq_getElem_cons hlt] at q
    refine ⟨hgo, fun H' => ∃ (ph : List Addr) (s : Store) (acc : List Val) (vs : List V), Bd W D ph1 H1 ph s acc vs H' ∧ Later (D :: W.hd) ph4 H4 (D :: W.hd) ph H' ∧ RS { W with hd := D :: W.hd } none ph H' e0 σ0 ∧ RS { W with hd := D :: W.hd } none ph H' e σ ∧
      PR W3 ph0 H0 (fun ys s2 _ _ => Pk ys s2) E (lcL (stepE W.G call tg cs el e) live (xs.drop (i + 1)) acc s), fun H' h => ⟨xs.length - (i + 1), by omega, rfl, hlt, h⟩, fun x' H2 hyld => ?_⟩
    obtain ⟨g2, rep2, vr2⟩ := hy x' H2 hyld
    unfold lcL at q
    simp only [hst, if_true] at q
    have q := PR.fst q
    unfold stepE at q
    cases ha : asg tg xs[i] (wipeE e (tgS tg)) with
    | none => simp only [ha] at q; exact q.elim
    | some e1 =>
      simp only [ha] at q
      refine ⟨D :: W.hd, wipeE e (tgS tg), ph, s, _, e1, (rs.grow bd.rep g2).wipe _, rep2, vr2, ha, fun σ2 rs2 hw => ⟨by rw [hw, wipe_wipe fun _ z => z], ?_⟩⟩
      have q := PR.pure (W2 := { W with hd := D :: W.hd }) (ph2 := ph) (H2 := H2) (E2 := fun c d H' => W0 c d σ2 H') q
      refine ⟨D :: W.hd, tEvC_of rs2 rep2 (PR.mo moC) (PR.fst q) fun b s3 ph3 H3 g3 rep3 rs3 q3 => ?_⟩
      cases b with
      | false => exact ite_ff ⟨ph3, s3, acc, vs, bd.grow (g2.trans g3) rep3, lt4.trans (Later.of (g2.trans g3)), rs0.grow bd.rep (g2.trans g3), rs.grow bd.rep (g2.trans g3), q3⟩
      | true =>
        refine ite_tt ⟨D :: W.hd, ?_⟩
        have q3 : PR { W with hd := D :: W.hd } ph3 H3 (fun o s1 _ _ => PR W3 ph0 H0 (fun ys s2 _ _ => Pk ys s2) E (match o with
            | some v => if acc.length < szL then lcL (stepE W.G call tg cs el e) live (xs.drop (i + 1)) (acc ++ [v]) s1 else .stk
            | none => lcL (stepE W.G call tg cs el e) live (xs.drop (i + 1)) acc s1)) (fun c d H' => W0 c d σ2 H') ((ev W.G call el e1 s3).bind fun v s4 => .ok (some v) s4) := q3
        refine tEv_of rs3 rep3 (PR.mo moC) (PR.fst q3) fun v s5 ph5 H5 u g5 rep5 v5 rs5 q5 => ?_
        have q5 : PR W3 ph0 H0 (fun ys s2 _ _ => Pk ys s2) E (if acc.length < szL then lcL (stepE W.G call tg cs el e) live (xs.drop (i + 1)) (acc ++ [v]) s5 else .stk) := q5
        have g6 := (g2.trans g3).trans g5
        have b5 := bd.grow g6 rep5
        by_cases hl : acc.length < szL
        · simp only [hl, if_true] at q5
          rw [bd.hacc.length] at hl
          exact ⟨vs, b5.hD, hl, ph5, s5, acc ++ [v], vs ++ [u], b5.push hD0 v5, (lt4.trans (Later.of g6)).trans (Later.upD b5.hD), rs_push (rs0.grow bd.rep g6) b5.hD, rs_push (rs.grow bd.rep g6) b5.hD, q5⟩
        · simp only [hl, if_false] at q5
          exact q5.elim
  · left
    refine ⟨by rw [heq]; exact hstop, ?_⟩
    rw [heq, List.drop_length] at q
    unfold lcL at q
    simp only [hst, if_true] at q
    exact hNx ph s acc vs H bd rs0 q
def iEvA (W : Wd) (call : Call) (it : IT) : TI := fun σ H R => ∃ hd, iEv { W with hd := hd } none call it W0 σ H R
theorem pi_any {it : IT} {t e : PySem.Expr} (h : ∀ hd, PI X t e (iEv { W with hd := hd } none call it W0)) : PI X t e (iEvA W call it) := ⟨fun pins s σ H R I ⟨hd, q⟩ => (h hd).run pins s σ H R I q⟩
/-- one item of the outer clause -/
noncomputable def outE (G : Prog) (call : Call) (tg : TG) (cs : MEs) (tg1 : TG) (it1 : IT) (cs1 : MEs) (el : ME) (e : Env) (x : Val) (acc : List Val) (s2 : Store) : R (List Val) := match asg tg x (wipeE e (tgS tg ++ tgS tg1)) with
  | some e1 => ((evC G call cs e1 s2).bind fun b s3 => if b then (evI G call it1 e1 s3).bind fun p1 s4 => lcL (stepE G call tg1 cs1 el e1) p1.2 p1.1 acc s4 else .ok acc s3).nox
  | none => .stk
theorem ev_lc2 {G : Prog} {m : Bool} {tg tg1 : TG} {it it1 : IT} {cs cs1 : MEs} {el : ME} {e : Env} {s : Store} : ev G call (.lc2 m tg it cs tg1 it1 cs1 el) e s = (evI G call it e s).bind fun p s1 => (lc2L (outE G call tg cs tg1 it1 cs1 el e) p.2 p.1 [] s1).bind fun xs s2 => putL m xs s2 := by
  rw [ev]
  rfl
theorem lc2_turns (g : Gd W call N k sc false Wx X) {tg tg1 : TG} {it1 : IT} {cs cs1 : MEs} {el : ME} {m : Bool} {σ : L2.St} {e : Env} {Q : VK} {E : XK} {J : It} {xs : List Val} {live : Live} {ph1 : List Addr} {H1 : Hp} {s1 : Store} (hs : RS W none ph1 H1 e σ) (hr : Rep W ph1 s1 H1) (hJ : ItW W ph1 H1 J xs live)
    (q : PR W ph1 H1 (QV W Q) E ((lc2L (outE W.G call tg cs tg1 it1 cs1 el e) live xs [] s1).bind fun xs s2 => putL m xs s2)) (D : Addr) (hD : H1 D = none) :
    ∃ W' : Nat → Nat → Hp → Prop, (∃ m, W' 0 m (upd H1 D (.lst []))) ∧ ∀ i m H, W' i m H →
      (J.stop i H ∧ Q (.ref D) H) ∨ (J.go i H ∧ ∃ Nx : Hp → Prop, (∀ H', Nx H' → ∃ m', m' < m ∧ W' (i + 1) m' H') ∧ ∀ x H', J.yld i H x H' → gEvA W tg x (wipe σ (tgS tg ++ tgS tg1)) H' fun σ2 H2 => wipe σ2 (tgS tg ++ tgS tg1) = wipe σ (tgS tg ++ tgS tg1) ∧ tCA W call cs σ2 H2 fun b H3 =>
        if b = true then iEvA W call it1 σ2 H3 fun J1 H4 => ∃ W1 : Nat → Nat → Hp → Prop, (∃ m, W1 0 m H4) ∧ ∀ j k H, W1 j k H →
          (J1.stop j H ∧ Nx H) ∨ (J1.go j H ∧ ∃ Nx1 : Hp → Prop, (∀ H', Nx1 H' → ∃ k', k' < k ∧ W1 (j + 1) k' H') ∧ ∀ x H', J1.yld j H x H' → gEvA W tg1 x (wipe σ2 (tgS tg1)) H' fun σ3 H5 => wipe σ3 (tgS tg1) = wipe σ2 (tgS tg1) ∧ tCA W call cs1 σ3 H5 fun b H6 =>
            if b = true then tEvA W call el σ3 H6 fun y H7 => ∃ acc, H7 D = some (.lst acc) ∧ acc.length < sizeLine ∧ Nx1 (upd H7 D (.lst (acc ++ [y]))) else Nx1 H6)
        else Nx H3) := by
  let Pend : List Val → Store → Prop := fun ys s2 => PR W ph1 H1 (QV W Q) E (putL m ys s2)
  refine ⟨fun i mm H => mm = xs.length - i ∧ i ≤ xs.length ∧ ∃ (ph : List Addr) (s : Store) (acc : List Val) (vs : List V), Bd W D ph1 H1 ph s acc vs H ∧ RS { W with hd := D :: W.hd } none ph H e σ ∧ PR W ph1 H1 (fun ys s2 _ _ => Pend ys s2) E (lc2L (outE W.G call tg cs tg1 it1 cs1 el e) live (xs.drop i) acc s),
    ⟨xs.length, rfl, Nat.zero_le _, ph1, s1, [], [], ⟨Grow.fresh hD, Later.hide hD, hr.hide hD, upd_same, .nil⟩, ?_, PR.fst q⟩, ?_⟩
  · refine RS.later hs (Later.hide hD) fun d fs h => ?_
    rw [upd_ne (ne_of_none h hD)]
    exact h
  intro i mm H ⟨hm, hi, ph, s, acc, vs, bd, rs, q⟩
  have hst : stands s live := by
    cases hx : xs.drop i with
    | nil =>
      rw [hx] at q
      unfold lc2L at q
      split at q
      · assumption
      · exact q.elim
    | cons y r =>
      rw [hx] at q
      unfold lc2L at q
      split at q
      · assumption
      · exact q.elim
  obtain ⟨hit, hstop⟩ := hJ (D :: W.hd) ph H s bd.lt bd.rep hst
  rcases Nat.lt_or_eq_of_le hi with hlt | heq
  · right
    have hx : xs[i]? = some xs[i] := List.getElem?_eq_getElem hlt
    obtain ⟨hgo, hy⟩ := hit i _ hx
    rw [List.drop_eq_getElem_cons hlt] at q
    refine ⟨hgo, fun H' => ∃ (ph : List Addr) (s : Store) (acc : List Val) (vs : List V), Bd W D ph1 H1 ph s acc vs H' ∧ RS { W with hd := D :: W.hd } none ph H' e σ ∧ PR W ph1 H1 (fun ys s2 _ _ => Pend ys s2) E (lc2L (outE W.G call tg cs tg1 it1 cs1 el e) live (xs.drop (i + 1)) acc s),
      fun H' h => ⟨xs.length - (i + 1), by omega, rfl, hlt, h⟩, fun x' H2 hyld => ?_⟩
    obtain ⟨g2, rep2, vr2⟩ := hy x' H2 hyld
    unfold lc2L at q
    simp only [hst, if_true] at q
    have q := PR.fst q
    unfold outE at q
    cases ha : asg tg xs[i] (wipeE e (tgS tg ++ tgS tg1)) with
    | none => simp only [ha] at q; exact q.elim
    | some e1 =>
      simp only [ha] at q
      refine ⟨D :: W.hd, wipeE e (tgS tg ++ tgS tg1), ph, s, _, e1, (rs.grow bd.rep g2).wipe _, rep2, vr2, ha, fun σ2 rs2 hw => ⟨?_, ?_⟩⟩
      · have hsub : ∀ w ∈ tgS tg, w ∈ tgS tg ++ tgS tg1 := fun w z => List.mem_append_left _ z
        have h := congrArg (fun z => wipe z (tgS tg ++ tgS tg1)) hw
        rw [wipe_wipe hsub, wipe_wipe hsub, wipe_wipe fun _ z => z] at h
        exact h
      have q := PR.pure (W2 := { W with hd := D :: W.hd }) (ph2 := ph) (H2 := H2) (E2 := fun c d H' => W0 c d σ2 H') q
      refine ⟨D :: W.hd, tEvC_of rs2 rep2 (PR.mo moC) (PR.fst q) fun b s3 ph3 H3 g3 rep3 rs3 q3 => ?_⟩
      cases b with
      | false => exact ite_ff ⟨ph3, s3, acc, vs, bd.grow (g2.trans g3) rep3, rs.grow bd.rep (g2.trans g3), q3⟩
      | true =>
        have q3 : PR { W with hd := D :: W.hd } ph3 H3 (fun ys s2 _ _ => PR W ph1 H1 (fun ys s2 _ _ => Pend ys s2) E (lc2L (outE W.G call tg cs tg1 it1 cs1 el e) live (xs.drop (i + 1)) ys s2)) (fun c d H' => W0 c d σ2 H') ((evI W.G call it1 e1 s3).bind fun p1 s4 => lcL (stepE W.G call tg1 cs1 el e1) p1.2 p1.1 acc s4) := q3
        refine ite_tt ⟨D :: W.hd, e1, ph3, s3, rs3, rep3, PR.imp (fun p1 s4 q4 ph4 H4 g4 rep4 J1 hJ1 => ?_) (PR.fst q3)⟩
        have g6 := (g2.trans g3).trans g4
        exact in_turns (Nx := fun H' => ∃ (ph : List Addr) (s : Store) (acc : List Val) (vs : List V), Bd W D ph1 H1 ph s acc vs H' ∧ RS { W with hd := D :: W.hd } none ph H' e σ ∧ PR W ph1 H1 (fun ys s2 _ _ => Pend ys s2) E (lc2L (outE W.G call tg cs tg1 it1 cs1 el e) live (xs.drop (i + 1)) acc s)) hD
          (fun ph s acc vs H b r pk => ⟨ph, s, acc, vs, b, r, pk⟩) (bd.grow g6 rep4) (rs.grow bd.rep g6) (rs3.grow rep3 g4) hJ1 q4
  · left
    refine ⟨by rw [heq]; exact hstop, ?_⟩
    rw [heq, List.drop_length] at q
    unfold lc2L at q
    simp only [hst, if_true] at q
    have q : PR W ph1 H1 (QV W Q) E (putL m acc s) := q
    unfold putL at q
    have rep0 : Rep W ph s H := bd.rep.unhide
    have acc0 : VRs W ph H acc vs := bd.hacc.unhide
    have hh : D ∉ W.hd := hr.nohd hD
    have gw := bd.gw
    cases m with
    | false => exact (show QV W Q (.lst acc) s ph1 H1 from q) ph H (.ref D) gw rep0 (.lst bd.hD bd.nin hh acc0)
    | true =>
      have q : QV W Q (.ref s.length) (s ++ [.lst acc]) ph1 H1 := q
      have gD : Grow ph1 H1 (ph ++ [D]) H := ⟨by
        obtain ⟨r, er⟩ := gw.pre
        exact ⟨r ++ [D], by rw [er, List.append_assoc]⟩, fun a ha => by
        rcases List.mem_append.mp ha with z | z
        · exact gw.new a z
        · rw [List.mem_singleton.mp z]
          exact .inr hD, gw.keep, gw.tups, gw.frzs, gw.tabs⟩
      refine q (ph ++ [D]) H (.ref D) gD (Rep.expose bd.rep bd.hD bd.hacc hh) (.ref ?_)
      have hlen : ph.length = s.length := bd.rep.len
      rw [← hlen, List.getElem?_append_right (Nat.le_refl _)]
      simp
theorem se_lc2 (g : Gd W call N k sc false Wx X) {m : Bool} {tg tg1 : TG} {it it1 : IT} {cs cs1 : MEs} {el : ME} {elt t i t1 i1 : PySem.Expr} {fs fs1 : List PySem.Expr} {scope : Scope} (hi : PI X t i (iEv W none call it Wx)) (hsb : setB i = true) (hsb1 : setB i1 = true) (hb : blkC N sc scope (ownOf N (tgS tg ++ tgS tg1)) = true) (ht : matTG N scope tg t = true) (ht1 : matTG N scope tg1 t1 = true)
    (hc : ∀ hd X', Gd { W with hd := hd } call N k (relS scope sc) false W0 X' → PTs X' fs (tEvC { W with hd := hd } none call cs W0)) (hi1 : ∀ hd X', Gd { W with hd := hd } call N k (relS scope sc) false W0 X' → PI X' t1 i1 (iEv { W with hd := hd } none call it1 W0)) (hc1 : ∀ hd X', Gd { W with hd := hd } call N k (relS scope sc) false W0 X' → PTs X' fs1 (tEvC { W with hd := hd } none call cs1 W0)) (he : ∀ hd X', Gd { W with hd := hd } call N k (relS scope sc) false W0 X' → Pe { W with hd := hd } none call W0 X' el elt) :
    Pe W none call Wx X (.lc2 m tg it cs tg1 it1 cs1 el) (.ListComp elt [⟨t, i, fs, 0⟩, ⟨t1, i1, fs1, 0⟩] scope pos) := by
  have ok : BlkOk X.N X.env.scope scope (ownOf N (tgS tg ++ tgS tg1)) := by
    rw [g.eN, g.eS]
    exact blkOk_by hb
  refine PE.imp (pe_lc2 (own := ownOf N (tgS tg ++ tgS tg1)) (vs1 := tgS tg1) (g := gEvA W tg) (tt := tCA W call cs) (wi1 := iEvA W call it1) (g1 := gEvA W tg1) (tt1 := tCA W call cs1) (te := tEvA W call el) (g.calm rfl) (by rw [g.eN]; exact g.nd) hi ok (fun i hi => by rw [own_snd]; exact List.mem_append_right _ hi)
    (fun s H C cl fp => pg_any fun hd => pg_tg (W := { W with hd := hd }) (X := X.blk s H scope (compEnvC scope cl C X.env) fp) (g.blk hd).eN g.nd (g.blk hd).eK (g.calm rfl) (wr_blk g) ht)
    (fun s H C cl fp => pts_any fun hd => hc hd _ (g.blk hd)) (fun s H C cl fp => pi_any fun hd => hi1 hd _ (g.blk hd))
    (fun s H C cl fp => pg_any fun hd => pg_tg (W := { W with hd := hd }) (X := X.blk s H scope (compEnvC scope cl C X.env) fp) (g.blk hd).eN g.nd (g.blk hd).eK (g.calm rfl) (wr_blk g) ht1)
    (fun s H C cl fp => pts_any fun hd => hc1 hd _ (g.blk hd)) (fun s H C cl fp => pe_any fun hd => he hd _ (g.blk hd)) (fold_of hsb) (fun env => fold_of hsb1)) fun σ H Q ⟨e, ph, s, hs, hr, q⟩ => ?_
  rw [own_snd]
  rw [ev_lc2] at q
  refine ⟨e, ph, s, hs, hr, PR.imp (fun p s1 q1 ph1 H1 g1 r1 J hJ D hD => ?_) (PR.fst q)⟩
  exact lc2_turns g (hs.grow hr g1) r1 hJ (PR.grow QV.mo g1 q1) D hD
end
end Ev

set_option Elab.async false
set_option linter.all false
set_option maxRecDepth 100000
set_option autoImplicit false
/-! Ev: dicts whose keys are texts. -/
namespace Ev
open PySem PySem.Spec PyProof.Rows L2
abbrev zK (ks : List Str) (vs : List V) : List (Key × V) := (ks.map Sum.inr).zip vs
theorem zK_cons {k : Str} {ks : List Str} {v : V} {vs : List V} : zK (k :: ks) (v :: vs) = (.inr k, v) :: zK ks vs := rfl
theorem zK_mem {x : Str} : ∀ {ks : List Str} {vs : List V} {v : V}, ((Sum.inr x : Key), v) ∈ zK ks vs → x ∈ ks
  | [], _, _, h => by cases h
  | k :: ks, [], _, h => by cases h
  | k :: ks, w :: vs, v, h => by
    rw [zK_cons] at h
    rcases List.mem_cons.mp h with e | e
    · cases e; exact List.mem_cons_self
    · exact List.mem_cons_of_mem _ (zK_mem e)
section
variable {W : Wd} {xa : Xa} {call : Call} {N : List Str} {k : Nat} {sc : Scope} {hot : Bool} {X : Cx} {Wx : WX} {pos p : Pos} {ph : List Addr} {H : Hp} {m : Store}
theorem zK_get {x : Str} {y : Val} : ∀ {ks : List Str} {xs : List Val} {vs : List V}, VRs W ph H xs vs → lookS x ks xs = some y → ∃ v, valV (zK ks vs) (.inr x) = some v ∧ VR W ph H y v
  | [], _, _, _, e => by unfold lookS at e; cases e
  | k :: ks, [], _, _, e => by unfold lookS at e; cases e
  | k :: ks, z :: xs, _, .cons (v := v) (vs := vs) h r, e => by
    unfold lookS at e
    by_cases hk : k = x
    · rw [if_pos hk] at e
      cases e
      exact ⟨v, by rw [zK_cons]; exact valV_pos (by rw [hk]), h⟩
    · rw [if_neg hk] at e
      obtain ⟨u, h1, h2⟩ := zK_get r e
      exact ⟨u, by rw [zK_cons]; rw [valV_neg (fun z => hk (by cases z; rfl))]; exact h1, h2⟩
theorem zK_same {x : Str} {u : V} : ∀ {ks : List Str} {vs : List V}, x ∉ ks → (zK ks vs).map (fun kv => if kv.1 = Sum.inr x then (kv.1, u) else kv) = zK ks vs
  | [], _, _ => rfl
  | k :: ks, [], _ => rfl
  | k :: ks, v :: vs, h => by
    rw [zK_cons, List.map_cons, zK_same fun z => h (List.mem_cons_of_mem _ z), if_neg]
    intro z
    cases z
    exact h List.mem_cons_self
theorem zK_put {x : Str} {w : Val} {u : V} (hw : VR W ph H w u) : ∀ {ks : List Str} {xs ys : List Val} {vs : List V}, VRs W ph H xs vs → ks.Nodup → putS x w ks xs = some ys →
    (zK ks vs).any (fun kv => decide (kv.1 = .inr x)) = true ∧ ∃ us, (zK ks vs).map (fun kv => if kv.1 = Sum.inr x then (kv.1, u) else kv) = zK ks us ∧ VRs W ph H ys us ∧ xs.length = ys.length
  | [], _, _, _, _, _, e => by unfold putS at e; cases e
  | k :: ks, [], _, _, _, _, e => by unfold putS at e; cases e
  | k :: ks, z :: xs, ys, _, .cons (v := v) (vs := vs) h r, nd, e => by
    obtain ⟨n1, n2⟩ := List.nodup_cons.mp nd
    unfold putS at e
    by_cases hk : k = x
    · rw [if_pos hk] at e
      cases e
      subst hk
      refine ⟨by rw [zK_cons, List.any_cons]; simp, u :: vs, ?_, .cons hw r, rfl⟩
      rw [zK_cons, List.map_cons, zK_same n1, if_pos rfl]
      rfl
    · rw [if_neg hk] at e
      obtain ⟨zs, h1, h2⟩ := Option.map_eq_some_iff.mp e
      subst h2
      obtain ⟨g1, us, g2, g3, g4⟩ := zK_put hw r n2 h1
      refine ⟨by rw [zK_cons, List.any_cons, g1, Bool.or_true], v :: us, ?_, .cons h g3, congrArg Nat.succ g4⟩
      rw [zK_cons, List.map_cons, g2, if_neg fun z => hk (by cases z; rfl)]
      rfl
theorem dgt_at (hr : Rep W ph m H) {a b z : Val} {x y : V} (ha : VR W ph H a x) (hb : VR W ph H b y) (e : dgtV m a b = some z) : ∃ l v, x = .ref l ∧ DGet H l y (some v) ∧ VR W ph H z v := by
  unfold dgtV at e
  split at e
  · split at e
    · rename_i t oc ks xs hc
      cases hb
      cases ha with
      | ref hn =>
        obtain ⟨vs, e1, hl, r⟩ := hr.cell _ _ _ hn hc
        obtain ⟨v, h1, h2⟩ := zK_get r e
        exact ⟨_, v, rfl, h1 ▸ DGet.k (k := .inr t) e1, h2⟩
    · cases e
  · cases e
theorem noSl_of {e : PySem.Expr} (h : slcB e = true) : NoSl e := by
  intro o i
  cases e <;> first | rfl | cases h
theorem se_dgt (g : Gd W call N k sc hot Wx X) {a b : ME} {l r : PySem.Expr} (hp : slcB r = true) (ha : Pe W xa call Wx X a l) (hb : Pe W xa call Wx X b r) : Pe W xa call Wx X (.dgt a b) (.Subscript l r pos) := by
  refine PE.imp (pe_dget (by have := g.hu; omega) ha hb (noSl_of hp)) fun σ H Q ⟨e, ph, s, hs, hr, q⟩ => ?_
  unfold ev at q
  refine tEv_of hs hr (PR.mo QV.mo) (PR.fst q) fun x s1 ph1 H1 v g1 r1 v1 hs1 q1 => tEv_of hs1 r1 (PR.mo QV.mo) (PR.fst q1) fun y s2 ph2 H2 w g2 r2 v2 hs2 q2 => ?_
  obtain ⟨z, e1, q3⟩ := PR.ofO q2
  obtain ⟨l, u, rfl, h1, h2⟩ := dgt_at r2 (v1.grow g2) v2 e1
  exact ⟨l, u, rfl, h1, q3.at r2 h2⟩
theorem setDV_at (hr : Rep W ph m H) {o i v : Val} {m2 : Store} {uo ui uv : V} (ho : VR W ph H o uo) (hi : VR W ph H i ui) (hv : VR W ph H v uv) (e : setDV o i v m = some m2) :
    ∃ (a : Addr) (H' : Hp), uo = .ref a ∧ DPut H a ui uv H' ∧ Rep W ph m2 H' ∧ Grow ph H ph H' := by
  unfold setDV at e
  split at e
  · split at e
    · rename_i t oc ks xs hc
      obtain ⟨ys, h1, h2⟩ := Option.map_eq_some_iff.mp e
      subst h2
      cases hi
      cases ho with
      | ref hn =>
        obtain ⟨vs, e1, hl, r⟩ := hr.cell _ _ _ hn hc
        obtain ⟨g1, us, g2, g3, g4⟩ := zK_put hv r hl.2.1 h1
        have ep : putK (zK ks vs) (Sum.inr t) uv = zK ks us := by unfold putK; rw [if_pos g1]; exact g2
        have gw : Grow ph H ph (upd H _ (.dK (zK ks us))) := Grow.write (List.mem_of_getElem? hn) e1 (fun xs z => by cases z) (fun q z y => by cases y) (fun ps z => by cases z)
        refine ⟨_, _, rfl, .inl ⟨zK ks vs, .inr t, e1, rfl, ?_, by rw [ep]⟩, hr.write hn e1 gw (fun ps z => by cases z) ⟨us, upd_same, ⟨by rw [hl.1]; exact g4, hl.2⟩, g3.grow gw⟩, gw⟩
        rw [List.length_zip, List.length_map, sizeLine_eq]
        have := Nat.min_le_left ks.length vs.length
        omega
    · cases e
  · cases e
/-! ### displays -/
theorem merge_nd : ∀ {ks : List Str} {vs : List V} {acc : List (Key × V)}, ks.Nodup → (∀ x ∈ ks, valV acc (.inr x) = none) → mergeK acc (zK ks vs) = acc ++ zK ks vs
  | [], _, acc, _, _ => (List.append_nil acc).symm
  | k :: ks, [], acc, _, _ => (List.append_nil acc).symm
  | k :: ks, v :: vs, acc, nd, h => by
    obtain ⟨n1, n2⟩ := List.nodup_cons.mp nd
    show mergeK (putK acc (.inr k) v) (zK ks vs) = _
    rw [putK_new v (h k List.mem_cons_self), merge_nd n2 fun x hx => ?_]
    · rw [List.append_assoc]; rfl
    · rw [valV_snoc _ _ _ _ (h k List.mem_cons_self), if_neg fun z => (by cases z; exact n1 hx)]
      exact h x (List.mem_cons_of_mem _ hx)
def tvH (W : Wd) (call : Call) (a : ME) (Wx : WX) : TE := fun σ H Q => ∃ hd, tEv { W with hd := hd } none call a Wx σ H Q
def trsOf (W : Wd) (call : Call) (Wx : WX) : List Str → MEs → List (TE × TE)
  | k :: ks, .cons a r => (fun σ H Q => Q (.str k) H, tvH W call a Wx) :: trsOf W call Wx ks r
  | _, _ => []
def lenM : MEs → Nat
  | .nil => 0
  | .cons _ r => lenM r + 1
theorem tPairs_of {hd : List Addr} {σ : L2.St} : ∀ {ks : List Str} {es : MEs} {e : Env} {ph : List Addr} {H : Hp} {s : Store} {Pk : List Val → Store → List Addr → Hp → Prop} {C : List (V × V) → Hp → Prop},
    ks.length = lenM es → RS { W with hd := hd } none ph H e σ → Rep { W with hd := hd } ph s H → Mo Pk → PR { W with hd := hd } ph H Pk (fun c d H' => Wx c d σ H') (evs W.G call es e s) →
    (∀ xs s1 ph1 H1 vs, Grow ph H ph1 H1 → Rep { W with hd := hd } ph1 s1 H1 → VRs { W with hd := hd } ph1 H1 xs vs → Pk xs s1 ph1 H1 → C ((ks.map V.str).zip vs) H1) → tPairs (trsOf W call Wx ks es) σ H C
  | ks, .nil, e, ph, H, s, Pk, C, hl, hs, hr, mo, q, c => by
    unfold evs at q
    have h2 := c [] s ph H [] Grow.refl hr .nil q
    cases ks with
    | nil => exact h2
    | cons _ _ => cases hl
  | [], .cons a r, e, ph, H, s, Pk, C, hl, hs, hr, mo, q, c => by cases hl
  | k :: ks, .cons a r, e, ph, H, s, Pk, C, hl, hs, hr, mo, q, c => by
    unfold evs at q
    have q : PR { W with hd := hd } ph H Pk (fun c d H' => Wx c d σ H') ((ev ({ W with hd := hd } : Wd).G call a e s).bind fun x s1 => (evs ({ W with hd := hd } : Wd).G call r e s1).bind fun xs s2 => R.ok (x :: xs) s2) := q
    refine ⟨hd, tEv_of hs hr (PR.mo mo) (PR.fst q) fun x s1 ph1 H1 v g1 r1 v1 hs1 q1 => ?_⟩
    refine tPairs_of (Nat.succ.inj hl) hs1 r1 (PR.mo mo) (PR.fst q1) fun xs s2 ph2 H2 vs g2 r2 v2 q2 => ?_
    exact c (x :: xs) s2 ph2 H2 (v :: vs) (g1.trans g2) r2 (.cons (v1.grow g2) v2) q2
theorem Later.upK {hd : List Addr} {D : Addr} {o : HO} {kvs : List (Key × V)} (h : H D = some (.dK kvs)) : Later (D :: hd) ph H (D :: hd) ph (upd H D o) :=
  ⟨⟨[], by simp⟩, fun a u e hn hh _ => ⟨by rw [upd_ne (fun z => hh (by rw [z]; exact List.mem_cons_self))]; exact e, hn, hh⟩, fun a xs e => by rw [upd_ne (fun z => by subst z; rw [h] at e; cases e)]; exact e,
    fun a q u e => by rw [upd_ne (fun z => by subst z; rw [h] at e; cases e)]; exact e⟩
theorem Rep.upK {D : Addr} {o : HO} {kvs : List (Key × V)} {hd : List Addr} (r : Rep { W with hd := D :: hd } ph m H) (h : H D = some (.dK kvs)) : Rep { W with hd := D :: hd } ph m (upd H D o) where
  len := r.len
  nd := r.nd
  cell := fun n a c e1 e2 => CR.later (W := { W with hd := D :: hd }) (hd1 := D :: hd) (Later.upK h) (fun u q => by
    rw [upd_ne (fun z => r.dj a (List.mem_of_getElem? e1) (by rw [z]; exact List.mem_cons_self))]
    exact q) (r.cell n a c e1 e2)
  tabs := fun P hP => by
    obtain ⟨ps, e, t⟩ := r.tabs P hP
    exact ⟨ps, by rw [upd_ne (fun z => by subst z; rw [h] at e; cases e)]; exact e, t⟩
  hdl := fun a ha => by
    by_cases z : a = D
    · exact ⟨o, by rw [z, upd_same]⟩
    · obtain ⟨o', e⟩ := r.hdl a ha
      exact ⟨o', by rw [upd_ne z]; exact e⟩
  dj := r.dj
theorem Rep.bare {D : Addr} {c : Cell} (r : Rep { W with hd := D :: W.hd } ph m H) (hc : CR W (ph ++ [D]) H D c) (hh : D ∉ W.hd) : Rep W (ph ++ [D]) (m ++ [c]) H where
  len := by rw [List.length_append, List.length_append, r.len]; rfl
  nd := by
    rw [List.nodup_append]
    refine ⟨r.nd, by simp, fun a ha b hb e => ?_⟩
    rw [List.mem_singleton.mp hb] at e
    rw [e] at ha
    exact r.dj D ha List.mem_cons_self
  cell := fun n a c' e1 e2 => by
    by_cases hn : n < ph.length
    · rw [List.getElem?_append_left hn] at e1
      rw [List.getElem?_append_left (by rw [← r.len]; exact hn)] at e2
      have q := r.cell n a c' e1 e2
      cases c' with
      | lst xs =>
        obtain ⟨us, q, rr⟩ := q
        exact ⟨us, q, rr.expose⟩
      | ins c ks xs =>
        obtain ⟨dx, us, q, hl, rr⟩ := q
        exact ⟨dx, us, q, hl, rr.expose⟩
      | dic ks xs =>
        obtain ⟨us, q, hl, rr⟩ := q
        exact ⟨us, q, hl, rr.expose⟩
    · have hn' : n = ph.length := by
        have := (List.getElem?_eq_some_iff.mp e1).1
        rw [List.length_append] at this
        simp at this
        omega
      subst hn'
      rw [List.getElem?_append_right (Nat.le_refl _)] at e1
      rw [r.len, List.getElem?_append_right (Nat.le_refl _)] at e2
      simp at e1 e2
      rw [← e1, ← e2]
      exact hc
  tabs := r.tabs
  hdl := fun a ha => r.hdl a (List.mem_cons_of_mem _ ha)
  dj := fun a ha z => (List.mem_append.mp ha).elim (fun y => r.dj a y (List.mem_cons_of_mem _ z)) fun y => hh (by rw [← List.mem_singleton.mp y]; exact z)
theorem zip_kV : ∀ {ks : List Str} {vs : List V}, (ks.map V.str).zip vs = (zK ks vs).map fun kv => (kV kv.1, kv.2)
  | [], _ => rfl
  | k :: ks, [] => rfl
  | k :: ks, v :: vs => by
    show (V.str k, v) :: (ks.map V.str).zip vs = _
    rw [zip_kV]; rfl
theorem se_dsp (g : Gd W call N k sc false Wx X) {ks : List Str} {es : MEs} {keys : List (Option PySem.Expr)} {vals : List PySem.Expr} (h : PPs X pos keys vals (trsOf W call Wx ks es)) (hall : keys.all (·.isSome) = true) (hl : keys.length = vals.length) (h0 : keys ≠ []) (h15 : keys.length ≤ 15) (hm : ks.length = lenM es) (hk : ks.length = keys.length) :
    Pe W none call Wx X (.dsp ks es) (.Dict keys vals pos) := by
  refine PE.imp (pe_disp h hall hl h0 h15) fun σ H Q ⟨e, ph, s, hs, hr, q⟩ => ?_
  intro p hp
  have hpn : p ∉ ph := hr.notin hp
  unfold ev at q
  have q2 : PR { W with hd := p :: W.hd } ph (upd H p (.dK [])) (fun xs m _ _ => PR W ph H (QV W Q) (fun c d H' => Wx c d σ H') (newD ks xs m)) (fun c d H' => Wx c d σ H') (evs ({ W with hd := p :: W.hd } : Wd).G call es e s) := by
    show PR _ _ _ _ _ (evs W.G call es e s)
    cases hq : evs W.G call es e s with
    | ok xs m => rw [hq] at q; exact q
    | ex c ks xs m => rw [hq] at q; exact q.elim
    | stk => rw [hq] at q; exact q.elim
  refine tPairs_of (hd := p :: W.hd) hm (RS.later hs (Later.hide hp) fun d fs h => by rw [upd_ne (ne_of_none h hp)]; exact h) (hr.hide hp) (fun _ _ _ _ _ _ _ h => h) q2 fun xs s1 ph1 H1 vs g1 r1 v1 q3 => ?_
  have hD : H1 p = some (.dK []) := g1.keep p _ upd_same hpn (fun ps z => by cases z)
  unfold newD at q3
  split at q3
  · rename_i hc
    have em : mergeK [] (zK ks vs) = zK ks vs := merge_nd hc.2.1 fun x _ => rfl
    refine ⟨hD, zK ks vs, zip_kV, ?_, ?_⟩
    · rw [List.length_zip, List.length_map]
      have := Nat.min_le_left ks.length vs.length
      omega
    · rw [em]
      have r2 := Rep.upK (o := .dK (zK ks vs)) r1 hD
      have gw : Grow ph H (ph1 ++ [p]) (upd H1 p (.dK (zK ks vs))) := by
        have ne : ∀ {a : Addr} {o : HO}, H a = some o → a ≠ p := fun e => ne_of_none e hp
        have up : ∀ {a : Addr} {o : HO}, H a = some o → upd H p (.dK []) a = some o := fun e => by rw [upd_ne (ne e)]; exact e
        refine ⟨?_, fun a ha => ?_, fun a o e hn ht => ?_, fun a ys e => ?_, fun a o u e => ?_, fun a ps e => ?_⟩
        · obtain ⟨r, er⟩ := g1.pre
          exact ⟨r ++ [p], by rw [er, List.append_assoc]⟩
        · rcases List.mem_append.mp ha with z | z
          · rcases g1.new a z with y | y
            · exact .inl y
            · by_cases hap : a = p
              · subst hap; exact .inr hp
              · rw [upd_ne hap] at y; exact .inr y
          · rw [List.mem_singleton.mp z]; exact .inr hp
        · rw [upd_ne (ne e)]; exact g1.keep a o (up e) hn ht
        · rw [upd_ne (ne e)]; exact g1.tups a ys (up e)
        · rw [upd_ne (ne e)]; exact g1.frzs a o u (up e)
        · obtain ⟨ps', e'⟩ := g1.tabs a ps (up e)
          exact ⟨ps', by rw [upd_ne (ne e)]; exact e'⟩
      have lt : Later (p :: W.hd) ph1 H1 (p :: W.hd) ph1 (upd H1 p (.dK (zK ks vs))) := Later.upK hD
      have v2 : VRs { W with hd := p :: W.hd } ph1 (upd H1 p (.dK (zK ks vs))) xs vs := VRs.later (W := { W with hd := p :: W.hd }) lt v1
      have rep := Rep.bare (c := .dic ks xs) r2 ⟨vs, upd_same, hc, v2.expose⟩ (hr.nohd hp)
      refine q3 _ _ _ gw rep (.ref ?_)
      rw [← r1.len, List.getElem?_append_right (Nat.le_refl _), Nat.sub_self]
      rfl
  · exact q3.elim
theorem pps_of (g : Gd W call N k sc false Wx X) : PPs X pos [] [] (trsOf W call Wx [] .nil) := pps_nil
theorem pps_add (g : Gd W call N k sc false Wx X) {ks : List Str} {a : ME} {r : MEs} {x : Str} {c1 : Nat} {p1 : Pos} {keys : List (Option PySem.Expr)} {v : PySem.Expr} {vals : List PySem.Expr} (hx : x.length ≤ szL) (hv : ∀ hd, Pe { W with hd := hd } none call Wx X a v) (h : PPs X pos keys vals (trsOf W call Wx ks r)) :
    PPs X pos (some (.Constant (.str x) c1 p1) :: keys) (v :: vals) (trsOf W call Wx (x :: ks) (.cons a r)) := by
  have hk : PE X (.Constant (.str x) c1 p1) (fun σ H Q => Q (.str x) H) := PE.imp pe_str fun σ H Q q => q
  exact pps_cons hk ⟨fun pins s σ H Q I ⟨hd, q⟩ => (hv hd).run pins s σ H Q I q⟩ h
end
end Ev

set_option Elab.async false
set_option linter.all false
set_option maxRecDepth 100000
set_option autoImplicit false
/-! Ev: len and in by a class's own defs. -/
namespace Ev
open PySem PySem.Spec PyProof.Rows L2
/-- len(x), x an instance whose class has its own __len__ -/
theorem len_inst {prog : Program} {w : World} {A : Around} {E : Value → Shared → Prop} {s : Shared} {K : PySem.W.Frag} {x C f : Addr} {ox : Obj} {od : Option Obj} {Q : Value → Shared → Prop} (KX : K.In s.heap) (J : PySem.W.InstAt s.heap x ox C od)
    (h1 : PySem.W.findIn K (.ref C) "__len__" = some (some (.ref f))) (h2 : PySem.W.typeIn K (.ref f) = some (.type "function"))
    (hc : wpAny (model prog w) A.in1 (call (.ref f) [.ref x]) (fun r t => ∃ n u, r = .int n u ∧ (0 ≤ n ∧ n < 2 ^ 63) ∧ Q (.int n t.toks) { t with toks := t.toks + 1 }) E s) : wpAny (model prog w) A (call (.builtin "len") [.ref x]) Q E s := by
  refine Calls.call_function_entry kind_len plain_len entry_len (args_len1 (.ref x)) (?_)
  unfold Builtin.«len»
  refine wpAny_bind (m := oneArg "len" _) (wpAny_pure (?_))
  have fin : wpAny (model prog w) A.in1 (callSpecial? (.ref x) (Str.ofString "__len__")) (fun r t => ∃ n u, r = some (.int n u) ∧ (0 ≤ n ∧ n < 2 ^ 63) ∧ Q (.int n t.toks) { t with toks := t.toks + 1 }) E s :=
    PySem.W.special_fn KX J h1 h2 (wpAny_mono hc (fun r t ⟨n, u, e, b, q⟩ => ⟨n, u, by rw [e], b, q⟩) fun _ _ z => z)
  refine wpAny_bind (m := callSpecial? (.ref x) (Str.ofString "__len__")) (wpAny_mono fin (fun r t z => ?_) fun _ _ z => z)
  obtain ⟨n, u, rfl, ⟨b0, b1⟩, q⟩ := z
  refine wpAny_bind (wpAny_holding (wpAny_pure (wpAny_bind (wpAny_letGo ?_))))
  show wpAny _ _ (if n < 0 then _ else (if n ≥ 2 ^ 63 then _ else _)) _ _ _
  rw [if_neg (show ¬ n < 0 by omega), if_neg (show ¬ n ≥ 2 ^ 63 by omega)]
  exact wpAny_bind (wpAny_mkInt (wpAny_pure ⟨_, rfl, q⟩))
section
variable {W : Wd} {xa : Xa} {call : Call} {N : List Str} {k : Nat} {sc : Scope} {hot : Bool} {X : Cx} {Wx : WX} {pos p : Pos} {x : Str}
/-- a def runs, a little further in -/
theorem run_evA (g : Gd W call N k sc hot Wx X) {f : Nat} {A' : Around} (gA : A'.guards = some []) (hr : Room k A') {pins : List (Addr × Obj)} {σ : L2.St} {H : Hp} {s : Shared} {Q : VK} {us : List Value} {vs : List V} (I : Inv X pins σ H s) (e0 : Env0 X.prog X.w X.K X.mg X.base A' X.stack s H) (r : Vals vs us)
    (h : spEv W call f vs H Q (WE Wx σ)) : wpAny (model X.prog X.w) A' (PySem.call (.ref (W.fa f)) us) (EP X pins σ Q) X.xe s := by
  refine wpAny_call (codeAny_mono (g.lib.fns f W.hd A' X.stack s H us vs Q (WE Wx σ) gA hr (g.eK ▸ e0) r h) fun r s' hq => ?_)
  cases r with
  | error e => exact passAt g.tk σ pins H s e s' I hq
  | ok fl =>
    cases fl with
    | ret u => exact I.after hq
    | next => exact False.elim hq
    | brk => exact False.elim hq
    | cont => exact False.elim hq
theorem se_lno (g : Gd W call N k sc hot Wx X) (hh : hot = false) {a : ME} {y : PySem.Expr} (hx : x = ("len" : Str)) (hg : glB sc x = true) (hy : starB y = true) (ha : Pe W xa call Wx X a y) : Pe W xa call Wx X (.lno a) (.Call (.Name x p) [y] [] pos) := by
  refine ⟨fun pins s σ H Q I ⟨e, ph, m, hs, hr, q⟩ => ?_⟩
  have hm : X.mg x = none := by
    rw [hx]
    exact free_of g (bif_free .len (by decide))
  have hv : bootBuiltins x = some (.builtin "len") := by
    rw [hx]
    exact boot_bif .len (by decide)
  have hn : x ≠ "__name__" ∧ (x == ("__debug__" : Str)) = false := by
    rw [hx]
    exact bif_nm .len
  unfold ev at q
  refine wpAny_Call_Name_kw (ld_blt I (gl_of g hg) hm hv ?_ hn.1 hn.2)
  have T : tEv W xa call a Wx σ H fun v H1 => ∃ (ph1 : List Addr) (m1 : Store) (b : Val), Rep W ph1 m1 H1 ∧ VR W ph1 H1 b v ∧ PR W ph1 H1 (QV W Q) (WE Wx σ) (lnoV W.G call b m1) :=
    tEv_of hs hr (PR.mo QV.mo) (PR.fst q) fun b s1 ph1 H1 v g1 r1 v1 hs1 q1 => ⟨ph1, s1, b, r1, v1, q1⟩
  have PA1 : PA X [y] (tCons (tEv W xa call a Wx) tNil) := pa_cons ha pa_nil (star_of hy)
  refine PyProof.Rows.callWith_builtin1 (thn (PA1.run pos pins s σ H (fun vs H1 => ∃ v, vs = [v] ∧ ∃ (ph1 : List Addr) (m1 : Store) (b : Val), Rep W ph1 m1 H1 ∧ VR W ph1 H1 b v ∧ PR W ph1 H1 (QV W Q) (WE Wx σ) (lnoV W.G call b m1)) I ?_) fun us s1 ⟨vs, H1, I1, r1, v, ev, ph1, m1, b, hr1, hb, q1⟩ => ?_) (star_of hy) rfl
  · obtain ⟨e1, ph1, s1, h1, h2, h3⟩ := T
    exact ⟨e1, ph1, s1, h1, h2, PR.imp (fun b m1 q ph2 H2 v g2 r2 v2 => ⟨v, rfl, q ph2 H2 v g2 r2 v2⟩) h3⟩
  · subst ev
    obtain ⟨u, rfl, ru⟩ : ∃ u, us = [u] ∧ RelV v u := by
      cases r1 with
      | cons h t => cases t; exact ⟨_, rfl, h⟩
    unfold lnoV at q1
    split at q1
    · rename_i c f he
      obtain ⟨a1, dx, fs, rfl, h1, m1'⟩ := ownM_at g hr1 hb he
      cases ru
      obtain ⟨mA, J, _⟩ := ins_get I1.hok h1
      obtain ⟨od, J, _⟩ := J.look
      have hs1 : PySem.W.findIn X.K (.ref (W.ca c)) "__len__" = some (some (.ref (W.fa f))) := by rw [g.eK]; exact m1'.at_
      refine len_inst I1.kIn J hs1 (beq_iff_eq.mp (by rw [g.eK]; exact m1'.fn)) ?_
      have hq : spEv W call f [V.ref a1] H1 (fun z H' => ∃ n : Int, z = .int n ∧ (0 ≤ n ∧ n < 2 ^ 62) ∧ Q (.int n) H') (WE Wx σ) := by
        refine ⟨ph1, m1, [b], hr1, .cons hb .nil, PR.imp (fun y m2 q2 ph' H' z g' r' vz => ?_) (PR.fst q1)⟩
        unfold lenR at q2
        split at q2
        · split at q2
          · rename_i hc
            cases vz
            exact ⟨_, rfl, hc, q2 ph' H' _ g' r' (.int _)⟩
          · exact q2.elim
        · exact q2.elim
      refine wpAny_mono (run_evA (A' := X.A.in1) (us := [.ref a1]) (vs := [.ref a1]) g g.gu (Room.in1 ((g.room hh).mono (by omega))) I1 I1.env0.in1 (.cons rfl .nil) hq) (fun w s' z => ?_) fun _ _ x => x
      obtain ⟨z', H', I', rz, n, rfl, hb2, qz⟩ := z
      obtain ⟨t, rfl⟩ := rz
      exact ⟨n, t, rfl, ⟨hb2.1, Int.lt_trans hb2.2 (by decide)⟩, .int n, H', I'.tok _, ⟨_, rfl⟩, qz⟩
    · exact q1.elim
def rIno (W : Wd) (call : Call) (Wx : WX) (n : Bool) : L2.St → R2 := fun σ x y H Q => ∃ (ph : List Addr) (m : Store) (a b : Val), Rep W ph m H ∧ VR W ph H a x ∧ VR W ph H b y ∧ PR W ph H (QV W Q) (WE Wx σ) (inoV W.G call n a b m)
theorem op_ino (g : Gd W call N k sc hot Wx X) (hh : hot = false) (n : Bool) : OpRS X (compareOp (if n = true then .NotIn else .In)) (rIno W call Wx n) := by
  intro pins s σ H x y v u Q I rx ry ⟨ph, m, a, b, hr, ha, hb, q⟩
  unfold inoV at q
  split at q
  · rename_i c f he
    obtain ⟨a1, dx, fs, rfl, h1, m1⟩ := ownM_at g hr hb he
    cases ry
    obtain ⟨mA, J, _⟩ := ins_get I.hok h1
    obtain ⟨od, J, _⟩ := J.look
    obtain ⟨mm, hF⟩ := I.fr
    have hs : PySem.W.findIn X.K (.ref (W.ca c)) "__contains__" = some (some (.ref (W.fa f))) := by rw [g.eK]; exact m1.at_
    have hq : spEv W call f [V.ref a1, x] H (fun z H' => ∃ t : Bool, z = .bl t ∧ Q (.bl (if n then !t else t)) H') (WE Wx σ) := by
      refine ⟨ph, m, [b, a], hr, .cons hb (.cons ha .nil), PR.imp (fun y m2 q2 ph' H' z g' r' vz => ?_) (PR.fst q)⟩
      unfold flipR at q2
      split at q2
      · cases vz
        exact ⟨_, rfl, q2 ph' H' _ g' r' (.bl _)⟩
      · exact q2.elim
    have run := run_ev (us := [.ref a1, v]) (vs := [.ref a1, x]) g ((g.room hh).mono (by omega)) I (.cons rfl (.cons rx .nil)) hq
    cases n with
    | false =>
      refine PySem.W.in_K hF I.ok.mod.kin J hs (by rw [g.eK]; exact m1.fn) (wpAny_mono run (fun w s' z => ?_) fun _ _ x => x)
      obtain ⟨z', H', I', rz, t, rfl, qz⟩ := z
      cases rz
      exact wpAny_truthy_bool ⟨.bl t, H', I', rfl, qz⟩
    | true =>
      refine PySem.W.notIn_K hF I.ok.mod.kin J hs (by rw [g.eK]; exact m1.fn) (wpAny_mono run (fun w s' z => ?_) fun _ _ x => x)
      obtain ⟨z', H', I', rz, t, rfl, qz⟩ := z
      cases rz
      exact wpAny_truthy_bool ⟨.bl (!t), H', I', rfl, qz⟩
  · exact q.elim
theorem se_ino (g : Gd W call N k sc hot Wx X) (hh : hot = false) {n : Bool} {a b : ME} {l r : PySem.Expr} (hm : setB r = true) (ha : Pe W xa call Wx X a l) (hb : Pe W xa call Wx X b r) : Pe W xa call Wx X (.ino n a b) (.Compare l [if n = true then .NotIn else .In] [r] pos) := by
  refine PE.imp (pe_cmpS (op_ino g hh n) ha hb (mark_of hm)) fun σ H Q ⟨e, ph, s, hs, hr, q⟩ => ?_
  unfold ev at q
  exact tEv_of hs hr (PR.mo QV.mo) (PR.fst q) fun x s1 ph1 H1 v g1 r1 v1 hs1 q1 => tEv_of hs1 r1 (PR.mo QV.mo) (PR.fst q1) fun y s2 ph2 H2 w g2 r2 v2 hs2 q2 => ⟨ph2, s2, x, y, r2, v1.grow g2, v2, q2⟩
theorem inoV_bl {G : Prog} {n : Bool} {a b r : Val} {m m2 : Store} (h : inoV G call n a b m = .ok r m2) : ∃ z, r = .bl z := by
  unfold inoV at h
  split at h
  · rename_i c f _
    cases hc : call f [b, a] m with
    | stk => rw [hc] at h; cases h
    | ex c ks xs m => rw [hc] at h; cases h
    | ok r2 m3 =>
      rw [hc] at h
      cases r2 with
      | bl z => cases h; exact ⟨_, rfl⟩
      | _ => cases h
  · cases h
theorem st_ino (g : Gd W call N k sc hot Wx X) (hh : hot = false) {n : Bool} {a b : ME} {l r : PySem.Expr} (hm : setB r = true) (ha : Pe W xa call Wx X a l) (hb : Pe W xa call Wx X b r) : Pt W xa call Wx X (.ino n a b) (.Compare l [if n = true then .NotIn else .In] [r] pos) := by
  refine PT.imp (pt_cmpS (op_ino g hh n) ha hb (mark_of hm)) fun σ H Q ⟨e, ph, s, hs, hr, q⟩ => ?_
  unfold evT at q
  unfold ev at q
  have q : PR W ph H (QB W Q) (fun c d H' => Wx c d σ H') ((ev W.G call a e s).bind fun x s1 => (ev W.G call b e s1).bind fun y s2 => (inoV W.G call n x y s2).bind fun z s3 => R.ofO (truth s3 z) s3) := by
    cases h1 : ev W.G call a e s with
    | stk => rw [h1] at q; exact q
    | ex c ks xs m => rw [h1] at q; exact q
    | ok x s1 =>
      rw [h1] at q
      cases h2 : ev W.G call b e s1 with
      | stk => rw [R.bind_ok, h2]; rw [R.bind_ok, h2] at q; exact q
      | ex c ks xs m => rw [R.bind_ok, h2]; rw [R.bind_ok, h2] at q; exact q
      | ok y s2 =>
        rw [R.bind_ok, h2, R.bind_ok]
        rw [R.bind_ok, h2, R.bind_ok] at q
        exact q
  refine tEv_of hs hr (PR.mo QB.mo) (PR.fst q) fun x s1 ph1 H1 v g1 r1 v1 hs1 q1 => tEv_of hs1 r1 (PR.mo QB.mo) (PR.fst q1) fun y s2 ph2 H2 w g2 r2 v2 hs2 q2 => ?_
  refine ⟨ph2, s2, x, y, r2, v1.grow g2, v2, ?_⟩
  cases h3 : inoV W.G call n x y s2 with
  | stk => rw [h3] at q2; exact q2
  | ex c ks xs m => rw [h3] at q2; exact q2
  | ok z s3 =>
    rw [h3] at q2
    obtain ⟨z, rfl⟩ := inoV_bl h3
    intro ph3 H3 v3 g3 r3 v4
    cases v4
    exact ⟨z, rfl, q2 ph3 H3 g3 r3⟩
end
end Ev

set_option Elab.async false
set_option linter.all false
set_option maxRecDepth 100000
set_option autoImplicit false
/-! Ev: repr of plain data, by callers that stand within no repr. -/
namespace Ev
open PySem PySem.Spec PyProof.Rows L2
mutual
theorem toD_plain : ∀ v : Val, v.toD.hasDict = false
  | .non => rfl
  | .bl _ => rfl
  | .int _ => rfl
  | .str _ => rfl
  | .tup xs => by
    show PyData.hasDict (.tuple (toDL xs)) = false
    unfold PyData.hasDict
    exact toDL_plain xs
  | .lst xs => by
    show PyData.hasDict (.list (toDL xs)) = false
    unfold PyData.hasDict
    exact toDL_plain xs
  | .scr _ => rfl
  | .obj _ _ _ => rfl
  | .ref _ => rfl
  | .fn _ => rfl
  | .exv _ _ _ => rfl
theorem toDL_plain : ∀ xs : List Val, PyData.hasDictAll (toDL xs) = false
  | [] => rfl
  | x :: xs => by
    show PyData.hasDictAll (x.toD :: toDL xs) = false
    unfold PyData.hasDictAll
    rw [toD_plain x, toDL_plain xs]; rfl
end
def rRep (K : PySem.W.Frag) : List V → Hp → VK → Prop := fun xs H Q => ∃ (v : V) (d : PyData), xs = [v] ∧ Dp K H v d ∧ d.hasDict = false ∧ (d.showable = true ∧ d.depth ≤ 60 ∧ d.shown.length ≤ sizeLine) ∧ Q (.str d.shown) H
theorem cr_rep {X : Cx} (hu : X.A.units + 65 < cLine) (gu : X.A.guards = some []) : CallR X (.builtin "repr") (rRep X.K) := by
  intro pins s σ H xs us Q I rv hq
  obtain ⟨v, d, rfl, dp, nd, ⟨sh, de, sz⟩, q⟩ := hq
  obtain ⟨u, rfl, ru⟩ : ∃ u, us = [u] ∧ RelV v u := by
    cases rv with
    | cons h t => cases t; exact ⟨_, rfl, h⟩
  obtain ⟨as, rd⟩ := Dp.reads I d v u dp ru
  have far : ∀ {a : Addr}, u = .ref a → wpAny (model X.prog X.w) X.A (call (.builtin "repr") [u]) (EP X pins σ Q) X.xe s := fun {a} e => by
    subst e
    exact repr_of_reads' rd sh (PyData.noDict_hsm nd) gu (by omega) (fun _ _ z => z) (fun h' t tk hk => ⟨.str d.shown, H, I.kept hk, ⟨_, rfl⟩, q⟩) sz
  cases d with
  | none => cases dp; cases ru; exact PySem.P.repr_of_none ⟨.str _, H, I.tok _, ⟨_, rfl⟩, q⟩
  | bool b => cases dp; cases ru; exact PySem.P.repr_of_bool ⟨.str _, H, I.tok _, ⟨_, rfl⟩, q⟩
  | int i =>
    cases dp
    obtain ⟨t, rfl⟩ := ru
    have h : decide (i.natAbs.log2 < 1920) = true := by
      unfold PyData.showable at sh
      exact sh
    exact PySem.P.repr_of_int (of_decide_eq_true h) ⟨.str _, H, I.tok _, ⟨_, rfl⟩, q⟩
  | str x =>
    cases dp
    obtain ⟨t, rfl⟩ := ru
    exact PySem.P.repr_of_str ⟨.str _, H, I.tok _, ⟨_, rfl⟩, q⟩ sz
  | list ds => cases dp with | lst _ _ => cases ru; exact far rfl
  | tuple ds => cases dp with | tup _ _ => cases ru; exact far rfl
  | dict _ => cases dp
section
variable {W : Wd} {xa : Xa} {call : Call} {N : List Str} {k : Nat} {sc : Scope} {hot : Bool} {X : Cx} {Wx : WX} {pos p : Pos} {x : Str}
theorem se_rep (g : Gd W call N k sc hot Wx X) {a : ME} {y : PySem.Expr} (hx : x = ("repr" : Str)) (hg : glB sc x = true) (hy : starB y = true) (ha : Pe W xa call Wx X a y) : Pe W xa call Wx X (.rep a) (.Call (.Name x p) [y] [] pos) := by
  have hm : X.mg x = none := by
    rw [hx]
    exact free_of g (bif_free .repr (by decide))
  have hv : bootBuiltins x = some (.builtin "repr") := by
    rw [hx]
    exact boot_bif .repr (by decide)
  have hn : x ≠ "__name__" ∧ (x == ("__debug__" : Str)) = false := by
    rw [hx]
    exact bif_nm .repr
  have PA1 : PA X [y] (tCons (tEv W xa call a Wx) tNil) := pa_cons ha pa_nil (star_of hy)
  refine PE.imp (pe_callB (cr_rep g.hu g.gu) (gl_of g hg) hm hv PA1 hn.1 hn.2 (star_of hy) rfl) fun σ H Q ⟨e, ph, s, hs, hr, q⟩ => ?_
  unfold ev at q
  refine tEv_of hs hr (PR.mo QV.mo) (PR.fst q) fun b s1 ph1 H1 v g1 r1 v1 hs1 q1 => ?_
  obtain ⟨z, e1, q3⟩ := PR.ofO q1
  unfold repV at e1
  split at e1
  · rename_i w hw
    split at e1
    · rename_i hc
      cases e1
      obtain ⟨_, dp⟩ := look_dp r1 v1 hw
      exact ⟨v, _, rfl, g.eK ▸ dp, toD_plain w, ⟨hc.1, hc.2.1, hc.2.2⟩, q3.at r1 (.str _)⟩
    · cases e1
  · cases e1
end
end Ev

set_option Elab.async false
set_option linter.all false
set_option maxRecDepth 100000
set_option autoImplicit false
/-! Ev: list(range(n)), the bits of a number, the place of a number in a list. -/
namespace Ev
open PySem PySem.Spec PyProof.Rows L2
section
variable {W : Wd} {xa : Xa} {call : Call} {N : List Str} {k : Nat} {sc : Scope} {hot : Bool} {X : Cx} {Wx : WX} {pos p p2 p3 : Pos} {x z : Str}
theorem vrs_rg (ph : List Addr) (H : Hp) : ∀ (l : List Nat), VRs W ph H (l.map fun i => Val.int (0 + (i : Nat))) (l.map fun i => V.int (0 + (i : Nat)))
  | [] => .nil
  | i :: r => .cons (.int _) (vrs_rg ph H r)
theorem rng_vr (ph : List Addr) (H : Hp) (j : Int) : VRs W ph H (rngL 0 j.toNat) (rgV 0 j) := by
  unfold rngL rgV
  rw [Int.sub_zero]
  exact vrs_rg ph H _
theorem se_lrg (g : Gd W call N k sc false Wx X) {m : Bool} {a : ME} {y : PySem.Expr} (hx : x = ("list" : Str)) (hg : glB sc x = true) (hz : z = ("range" : Str)) (hgz : glB sc z = true) (hy : starB y = true) (ha : Pe W xa call Wx X a y) :
    Pe W xa call Wx X (.lrg m a) (.Call (.Name x p) [.Call (.Name z p2) [y] [] p3] [] pos) := by
  subst hx hz
  refine PE.imp (pe_listRg (g.calm rfl) (gl_of g hg) (free_of g (by decide)) (prg_1 (gl_of g hgz) (free_of g (by decide)) ha (star_of hy))) fun σ H Q ⟨e, ph, s, hs, hr, q⟩ => ?_
  unfold ev at q
  refine tEv_of hs hr (PR.mo QV.mo) (PR.fst q) fun x s1 ph1 H1 v g1 r1 v1 hs1 q1 => ?_
  unfold lrgV at q1
  split at q1
  · rename_i j
    split at q1
    · rename_i hj
      obtain ⟨h1, h2⟩ := ba hj
      have h1 := of_decide_eq_true h1
      have h2 := of_decide_eq_true h2
      cases v1
      refine ⟨j, rfl, ⟨by omega, by omega, by omega, by omega, by omega⟩, put_ok r1 (rng_vr ph1 H1 j) q1⟩
    · exact q1.elim
  · exact q1.elim
theorem se_btl (g : Gd W call N k sc hot Wx X) {a : ME} {v : PySem.Expr} (hb : baseB v = true) (hn : x = ("bit_length" : Str)) (hl : (p.endLine == p2.line) = true) (ha : Pe W xa call Wx X a v) :
    Pe W xa call Wx X (.btl a) (.Call (.Attribute v x p) [] [] p2) := by
  subst hn
  refine PE.imp (pe_bits ha (base_of hb) hl) fun σ H Q ⟨e, ph, s, hs, hr, q⟩ => ?_
  unfold ev at q
  refine tEv_of hs hr (PR.mo QV.mo) (PR.fst q) fun y s1 ph1 H1 v g1 r1 v1 hs1 q1 => ?_
  obtain ⟨z, e1, q3⟩ := PR.ofO q1
  unfold btlV at e1
  split at e1
  · cases e1
    cases v1
    exact ⟨_, rfl, q3.at r1 (.int _)⟩
  · cases e1
theorem ints_get : ∀ {xs : List Val} {ns : List Int}, intsOf xs = some ns → xs = ns.map Val.int
  | [], ns, h => by cases h; rfl
  | .int i :: r, ns, h => by
    have h : (intsOf r).map (i :: ·) = some ns := h
    obtain ⟨ms, h1, rfl⟩ := Option.map_eq_some_iff.mp h
    rw [ints_get h1]; rfl
theorem ixI_at : ∀ {ns : List Int} {i : Int} {j0 j : Nat}, ixI i ns j0 = some j → ∃ d, j = j0 + d ∧ ns[d]? = some i ∧ ∀ m, m < d → ns[m]? ≠ some i
  | [], i, j0, j, h => by cases h
  | n :: r, i, j0, j, h => by
    unfold ixI at h
    split at h
    · rename_i he
      cases h
      subst he
      exact ⟨0, rfl, rfl, fun m hm => by omega⟩
    · rename_i he
      obtain ⟨d, h1, h2, h3⟩ := ixI_at h
      refine ⟨d + 1, by omega, by simpa using h2, fun m hm => ?_⟩
      cases m with
      | zero => simpa using he
      | succ m => simpa using h3 m (by omega)
theorem se_lix (g : Gd W call N k sc hot Wx X) {o a : ME} {v y : PySem.Expr} (hn : x = ("index" : Str)) (hb : baseB v = true) (hy : starB y = true) (hl : (p.endLine == p2.line) = true) (ho : Pe W xa call Wx X o v) (ha : Pe W xa call Wx X a y) :
    Pe W xa call Wx X (.lix o a) (.Call (.Attribute v x p) [y] [] p2) := by
  subst hn
  have hs0 : starEach [y] X.env = (false, eval y X.env) :: starEach [] X.env := star_of hy
  refine PE.imp (pe_bm PySem.F.plainAttrs_list PySem.F.slot_list_index PySem.F.type_list_index mt_index ho (pa_cons ha pa_nil hs0) (base_of hb) ?_ hl hs0 rfl) fun σ H Q ⟨e, ph, s, hs, hr, q⟩ => ?_
  · rw [form_all (es := [y]) (by simp [hy])]
    rfl
  · unfold ev at q
    have q : PR W ph H (QV W Q) (fun c d H' => Wx c d σ H') ((ev W.G call o e s).bind fun x s1 => (R.ofO ((asL s1 x).map fun _ => x) s1).bind fun x s1 => (ev W.G call a e s1).bind fun y s2 => R.ofO (lixV s2 x y) s2) := by
      cases h1 : ev W.G call o e s with
      | stk => rw [h1] at q; exact q
      | ex c ks xs m => rw [h1] at q; exact q
      | ok x s1 => rw [h1] at q; exact q
    refine tEv_of hs hr (PR.mo QV.mo) (PR.fst q) fun x s1 ph1 H1 v g1 r1 v1 hs1 q1 => ?_
    cases hm : asL s1 x with
    | none => rw [hm] at q1; exact q1.elim
    | some ys =>
      rw [hm] at q1
      obtain ⟨l, vs, rfl, h2, _⟩ := asL_at r1 v1 hm
      refine ⟨.inl ⟨rfl, vs, g.eK ▸ h2⟩, ?_⟩
      have q1 : PR W ph1 H1 (QV W Q) (fun c d H' => Wx c d σ H') ((ev W.G call a e s1).bind fun y s2 => R.ofO (lixV s2 x y) s2) := q1
      refine tEv_of hs1 r1 (PR.mo QV.mo) (PR.fst q1) fun y s2 ph2 H2 w g2 r2 v2 hs2 q2 => ?_
      obtain ⟨z, e1, q3⟩ := PR.ofO q2
      unfold lixV at e1
      cases hm2 : asL s2 x with
      | none => rw [hm2] at e1; cases e1
      | some zs =>
        rw [hm2] at e1
        simp only [Option.bind_some] at e1
        cases hi : intsOf zs with
        | none => rw [hi] at e1; cases e1
        | some ns =>
          rw [hi] at e1
          cases y with
          | int i =>
            obtain ⟨j, hj, rfl⟩ := Option.map_eq_some_iff.mp e1
            obtain ⟨d, h3, h4, h5⟩ := ixI_at hj
            obtain ⟨l2, ws, e2, h6, h7⟩ := asL_at r2 (v1.grow g2) hm2
            cases e2
            cases v2
            have hz : ws = ns.map V.int := by
              exact intsOf_vs h7 hi
            subst hz
            refine ⟨l, ns.map V.int, .int i, d, .int i, rfl, rfl, g.eK ▸ h6, rfl, ?_, ?_, ?_, ?_, ?_⟩
            · rw [List.all_eq_true]; intro u hu; obtain ⟨n, _, rfl⟩ := List.mem_map.mp hu; rfl
            · rw [List.getElem?_map, h4]; rfl
            · show (i == i) = true; simp
            · intro m z' hm hz
              rw [List.getElem?_map] at hz
              obtain ⟨n, hn, rfl⟩ := Option.map_eq_some_iff.mp hz
              have := h5 m hm
              rw [hn] at this
              show (n == i) = false
              simp; intro h; exact this (by rw [h])
            · rw [show d = j by omega]; exact q3.at r2 (.int _)
          | _ => cases e1
end
end Ev

set_option Elab.async false
set_option linter.all false
set_option maxRecDepth 100000
set_option autoImplicit false
/-! Ev: a generator expression's run. -/
namespace Ev
open PySem PySem.Spec PyProof.Rows L2
theorem over_genL {A : Around} {elt : PySem.Expr} {gens : List Comprehension} {scope : Scope} {pos : Pos} {it acc : Value} {cenv : PySem.Env} : A.over (.compLoop (.GeneratorExp elt gens scope pos) 0 it acc cenv) [] = A.deeper cenv := by
  first
    | rfl
    | (obtain ⟨hd, d, fr, gs, u⟩ := A; simp [Around.over, Around.deeper, marksOver, frameCount, unitsOf, envsOf, guardsOf, pushEnvs, pushGuards, Code.envs, Code.env?, Code.isFrame, Code.guards, Code.isGuard, Code.weight, Code.frames, Code.isCreation, Code.isCaller, Code.cUnits])
theorem over_genS {A : Around} {elt : PySem.Expr} {gens : List Comprehension} {scope : Scope} {pos : Pos} {it acc : Value} {cenv : PySem.Env} : A.over (.compStart (.GeneratorExp elt gens scope pos) 0 it acc cenv) [] = A.deeper cenv := by
  first
    | rfl
    | (obtain ⟨hd, d, fr, gs, u⟩ := A; simp [Around.over, Around.deeper, marksOver, frameCount, unitsOf, envsOf, guardsOf, pushEnvs, pushGuards, Code.envs, Code.env?, Code.isFrame, Code.guards, Code.isGuard, Code.weight, Code.frames, Code.isCreation, Code.isCaller, Code.cUnits])
/-- the context of a generator expression's frame; s, H: ahead of the frame -/
abbrev gcx (X : Cx) (A' : Around) (s : Shared) (H : Hp) (cenv : PySem.Env) (fp : List Addr) : Cx :=
  { X with A := A'.deeper cenv, s_0 := s, H_0 := H, env := cenv, outer := X.stack, stack := cenv :: X.stack, ex := fp, fn := fun _ => false, pn := [], xe := fun _ _ => False }
section
variable {X : Cx} {pins : List (Addr × Obj)} {σ : L2.St} {H : Hp} {s : Shared}
theorem gen_start {A' : Around} {code : Value} {scope : Scope} {own : List (Str × Nat)} {fp : List Addr} {h5 : Heap} {g' : Array GenState} {t' : Nat} {m0 : Str → Option Value}
    (I : Inv X pins σ H s) (ok : BlkOk X.N X.env.scope scope own) (hN : X.N.Nodup) (hcell : ∀ y ∈ scope.names, y.2 ≠ .cell) (hfp : ∀ b ∈ fp, FpOk X pins H b ∧ b < s.heap.objs.size)
    (hfr : A'.frames = some X.stack) (hhd : A'.handled = none) (kp : ∀ b o, s.heap.get? b = some o → h5.get? b = some o) (hns : h5.Ns s.heap.objs.size m0) (hg : AllBare g') :
    Inv (gcx X A' s H (genEnv scope (cloFrom X.env.cells scope.names []) s.heap.objs.size code builtinsNs X.env) fp) [] (wipe σ (own.map (·.2))) H { s with heap := h5, gens := g', toks := t' } := by
  have hfree : ∀ y ∈ scope.names, y.2 = .free → ∃ c, X.env.cells.lookup y.1 = some c := fun y hy e => by
    rcases ok.free y hy e with k | k
    · exact I.ok.has _ (.inl k)
    · exact I.ok.has _ (.inr k)
  generalize hcenv : genEnv scope (cloFrom X.env.cells scope.names []) s.heap.objs.size code builtinsNs X.env = cenv
  have hL : cenv.locals = s.heap.objs.size := by rw [← hcenv]; rfl
  have hcl : cenv.cells = cloFrom X.env.cells scope.names [] := by rw [← hcenv]; rfl
  have hsc : cenv.scope = scope := by rw [← hcenv]; rfl
  have hff : cenv.frame = some cenv.locals := by rw [← hcenv]; rfl
  have cm : ∀ {y c}, (y, c) ∈ cloFrom X.env.cells scope.names [] → X.env.cells.lookup y = some c ∧ c < s.heap.objs.size := fun {y c} hm => by
    rcases cloFrom_mem hm with hm | ⟨h1, rfl⟩
    · cases hm
    · obtain ⟨c, hc⟩ := hfree _ h1 rfl
      rw [hc]
      obtain ⟨w, z⟩ := I.cell _ _ hc
      exact ⟨rfl, z.lt⟩
  have mem : ∀ {y c}, cenv.cells.lookup y = some c → X.env.cells.lookup y = some c ∧ c < s.heap.objs.size := fun {y c} e => by
    rw [hcl] at e
    exact cm (PySem.mem_of_lookup e)
  have look : ∀ {y}, scope.names.lookup y = some .free → ∃ c, cenv.cells.lookup y = some c ∧ X.env.cells.lookup y = some c := fun {y} hl => by
    have hy : (y, NameKind.free) ∈ scope.names := PySem.mem_of_lookup hl
    obtain ⟨c', e'⟩ := mem_lookup (cloFrom_has (cells := X.env.cells) (acc := []) hy)
    rw [← hcl] at e'
    exact ⟨c', e', (mem e').1⟩
  have nocell : ∀ y, scope.names.lookup y ≠ some .cell := fun y e => hcell _ (PySem.mem_of_lookup e) rfl
  have okB : (gcx X A' s H cenv fp).Ok := by
    refine ⟨I.ok.mod, by show cenv.scope.kind = _; rw [hsc]; exact ok.kind, by show cenv.globals = _; rw [← hcenv]; exact I.ok.glob, by show cenv.builtins = _; rw [← hcenv]; rfl, by show s.heap.objs.size ≤ cenv.locals; rw [hL]; exact Nat.le_refl _,
      fun y z c e1 e2 => ?_, fun y hy => ?_, fun y c z e => ?_, fun _ => hhd, Around.frames_deeper hfr, .inr ⟨rfl, hff⟩, fun b hb => ⟨?_, fun y c e z => ?_⟩, I.bs, Nat.le_trans I.ok.bsz I.sz, fun b o e hb => ?_, fun b hb z => ?_, I.stack, I.stkFree⟩
    · exact I.ok.inj y z c (mem e1).1 (mem e2).1
    · show ∃ c, cenv.cells.lookup y = some c
      have hy : cenv.scope.names.lookup y = some .cell ∨ cenv.scope.names.lookup y = some .free := hy
      rw [hsc] at hy
      rcases hy with hy | hy
      · exact absurd hy (nocell y)
      · obtain ⟨c, h1, _⟩ := look hy
        exact ⟨c, h1⟩
    · cases z
    · show b ≠ cenv.locals
      rw [hL]; exact Nat.ne_of_lt (hfp b hb).2
    · exact (hfp b hb).1.2.2.2.2.1 y c (mem e).1 z
    · rcases (hfp b hb).1.2.2.2.1 with z | z
      · exact I.ok.noex b o e z
      · exact absurd (Nat.lt_of_lt_of_le (Heap.lt_size e) (Nat.le_trans I.ok.bsz z)) (Nat.lt_irrefl _)
    · rcases List.mem_cons.mp (I.stkSub b z) with z | z
      · exact (hfp b hb).1.2.1 z
      · exact (hfp b hb).1.2.2.1 z
  refine ⟨okB, rfl, hg, Un.kept kp, ⟨m0, ?_, fun i y av e1 e2 e3 => ?_⟩, fun y c e => ?_, ?_, fun y c e => ?_, fun p hp => ?_, I.hok.kept kp, by rw [wipe_length]; exact I.len⟩
  · show Heap.Ns _ cenv.locals _
    rw [hL]; exact hns
  · obtain ⟨e2, hne⟩ := wipe_some e2
    have hfr2 : scope.names.lookup y = some .free := by
      have no : ∀ k, scope.names.lookup y = some k → k = .local ∨ k = .cell → False := fun k e hh => by
        rcases ok.own _ (PySem.mem_of_lookup e) hh with e' | e'
        · obtain ⟨p, hp, hpy⟩ := List.mem_map.mp e'
          have e3 := ok.ix p hp
          have : p.1 = y := hpy
          rw [this] at e3
          exact hne (List.mem_map.mpr ⟨p, hp, nodup_ix hN e3 e1⟩)
        · exact e' (List.mem_of_getElem? e1)
      have e3 : Vis cenv.scope y := e3
      rw [hsc] at e3
      rcases e3 with e3 | e3 | e3
      · exact (no _ e3 (.inl rfl)).elim
      · exact (no _ e3 (.inr rfl)).elim
      · exact e3
    obtain ⟨m, hn, hl⟩ := I.loc
    have hvis : Vis X.env.scope y := (ok.free _ (PySem.mem_of_lookup hfr2) rfl).elim (fun k => .inr (.inl k)) (fun k => .inr (.inr k))
    obtain ⟨w, r, q⟩ := hl i y av e1 e2 hvis
    refine ⟨w, r, .inr ⟨.inr (by show cenv.scope.names.lookup y = _; rw [hsc]; exact hfr2), ?_⟩⟩
    obtain ⟨c, h1, h2⟩ := look hfr2
    rcases q with ⟨k, _⟩ | ⟨_, c', e', z⟩
    · have k : X.env.scope.names.lookup y = some .local := k
      rcases ok.free _ (PySem.mem_of_lookup hfr2) rfl with k' | k' <;> rw [show X.env.scope.names.lookup y = _ from k'] at k <;> cases k
    · rw [h2] at e'; cases e'
      exact ⟨c, h1, z.keeps kp⟩
  · obtain ⟨w, z⟩ := I.cell y c (mem e).1
    exact ⟨w, z.keeps kp⟩
  · show H cenv.locals = none
    rw [hL]; exact I.hok.fresh (Nat.le_refl _)
  · exact I.freeC y c (mem e).1
  · exact absurd (show p ∈ ([] : List (Addr × Obj)) ++ [] from hp) (by simp)
end
end Ev

set_option Elab.async false
set_option linter.all false
set_option maxRecDepth 100000
set_option autoImplicit false
/-! Ev: a generator expression's loop. -/
namespace Ev
open PySem PySem.Spec PyProof.Rows L2
/-- who takes the items: its own object (if it has one) by what was taken; which item it goes on behind; what holds at an item, at the end -/
structure Taker where
  So : Option Addr
  Sk : List Value → Obj → Prop
  Go : V → Prop
  Yd : List V → V → Nat → Hp → Prop
  Qe : List V → Hp → Prop
def pinsOf : Option Addr → Obj → List (Addr × Obj)
  | none, _ => []
  | some S, o => [(S, o)]
/-- between two items: its own object alone may change -/
structure Slp (C : Taker) (us : List Value) (v : Value) (s s' : Shared) (o : Obj) : Prop where
  os : s'.os = s.os
  bare : AllBare s'.gens
  keep : ∀ b u, some b ≠ C.So → s.heap.get? b = some u → s'.heap.get? b = some u
  sk : C.Sk (us ++ [v]) o
  own : ∀ p ∈ pinsOf C.So o, s'.heap.get? p.1 = some p.2 ∧ ∀ v, p.2.data ≠ .cell v
def YG (X : Cx) (pins : List (Addr × Obj)) (σ : L2.St) (C : Taker) (a : Addr) (g : Nat) : Protocol := fun m s₀ v s kap =>
  ∃ (ys : List V) (y : V) (us : List Value) (o : Obj) (H : Hp), Inv X pins σ H s ∧ RelV y v ∧ Vals ys us ∧ C.Sk us o ∧ (∀ p ∈ pinsOf C.So o, s₀.heap.get? p.1 = some p.2 ∧ s.heap.get? p.1 = some p.2) ∧ C.Yd ys y m H ∧ s.heap.IsGen a g ∧
    (C.Go y → ∀ s' o', Slp C us v s s' o' → kap (.send .none) s')
def RG (X : Cx) (pins : List (Addr × Obj)) (σ : L2.St) (C : Taker) (a : Addr) (g : Nat) : GenEnd := fun _ s₀ r s =>
  r = .ok .next ∧ ∃ (ys : List V) (us : List Value) (o : Obj) (H : Hp), Inv X pins σ H s ∧ Vals ys us ∧ C.Sk us o ∧ (∀ p ∈ pinsOf C.So o, s₀.heap.get? p.1 = some p.2 ∧ s.heap.get? p.1 = some p.2) ∧ C.Qe ys H ∧ s.heap.IsGen a g ∧ ∀ S, C.So = some S → FpOk X pins H S
theorem inv_gens {X : Cx} {pins : List (Addr × Obj)} {σ : L2.St} {H : Hp} {s s' : Shared} (I : Inv X pins σ H s) (hh : s'.heap = s.heap) (ho : s'.os = s.os) (hg : AllBare s'.gens) : Inv X pins σ H s' := by
  obtain ⟨h', g', d', t', o'⟩ := s'
  simp only at hh ho hg
  subst hh
  subst ho
  exact ⟨I.ok, I.os, hg, I.base, I.loc, I.cell, I.free, I.freeC, I.pin, I.hok, I.len⟩
theorem pinsOf_mem {So : Option Addr} {o : Obj} {p : Addr × Obj} (h : p ∈ pinsOf So o) : So = some p.1 := by
  cases So with
  | none => cases h
  | some S => rw [List.mem_singleton.mp h]
theorem un_slept {fs : List Addr} {H : Hp} {h h' : Heap} {So : Option Addr} (k : ∀ b u, some b ≠ So → h.get? b = some u → h'.get? b = some u) : Un fs So.toList H H h h' where
  keep := fun b o e _ _ hb => k b o (fun z => hb (by rw [← z]; simp)) e
  slot := fun b o e _ _ hb => ⟨o.slots, k b o (fun z => hb (by rw [← z]; simp)) e⟩
  free := fun _ _ _ n _ => n
  there := fun b o e hb => ⟨o, k b o (fun z => hb (by rw [← z]; simp)) e⟩
  tups := fun _ _ e => e
  frzs := fun _ _ _ e => e
  tbls := fun _ ps e => ⟨#[], by rw [e]; simp⟩
section
variable {X : Cx} {pins : List (Addr × Obj)} {σ : L2.St} {H4 : Hp} {s4 : Shared} {A' : Around} {cenv : PySem.Env} {fp : List Addr} {C : Taker} {a it : Addr} {gn : Nat} {go : Obj}
  {elt tg iter : PySem.Expr} {ifs : List PySem.Expr} {scope : Scope} {pos : Pos} {g : L2.TG} {tt : TT} {te : TE} {vs : List Nat} {J : It} {tn : Nat → Heap → Prop} {Wt : Nat → Nat → List V → Nat → Hp → Prop}
/-- back in the def's context -/
theorem gen_back (I4 : Inv X pins σ H4 s4) (hf4 : ∀ b ∈ fp, FpOk X pins H4 b ∧ b < s4.heap.objs.size) {ps : List (Addr × Obj)} {σ' : L2.St} {H : Hp} {s : Shared} (I : Inv (gcx X A' s4 H4 cenv fp) ps σ' H s) : Inv X pins σ H s :=
  I4.call' (ch := fp) I.os I.base I.hok I.bare fun b hb => ⟨(hf4 b hb).1.2.2.2.1, (hf4 b hb).1.2.1, (hf4 b hb).1.2.2.2.2.1, (hf4 b hb).1.2.2.2.2.2⟩
/-- the taker's object has changed -/
theorem gen_slept {o o' : Obj} {σ' σ'' : L2.St} {H : Hp} {s s' : Shared} {us : List Value} {v : Value} {more : List (Addr × Obj)} (I : Inv (gcx X A' s4 H4 cenv fp) ((a, go) :: pinsOf C.So o ++ more) σ' H s) (hl : σ''.length = σ'.length) (hw : ∀ (i : Nat) x, σ''[i]? = some (some x) → σ'[i]? = some (some x))
    (hS : ∀ S, C.So = some S → S ≠ a ∧ s4.heap.objs.size ≤ S ∧ S ≠ cenv.locals ∧ S ∉ frs X.stack ∧ ∀ x c, cenv.cells.lookup x = some c → c ≠ S) (sl : Slp C us v s s' o') : Inv (gcx X A' s4 H4 cenv fp) ((a, go) :: pinsOf C.So o') σ'' H s' := by
  have pa := I.pin (a, go) (List.mem_append_right _ (List.mem_append_left _ (by simp)))
  have I1 : Inv (gcx X A' s4 H4 cenv fp) [(a, go)] σ'' H s := (I.weak hl hw).pins_of fun p hp => by rw [List.mem_singleton.mp hp]; exact pa
  have pS : ∀ S, C.So = some S → s.heap.get? S = some o ∧ H S = none := fun S e => by
    have := I.pin (S, o) (List.mem_append_right _ (List.mem_append_left _ (by rw [e]; simp [pinsOf])))
    exact ⟨this.1, this.2.1⟩
  have hk : HOk X.prog X.w H s'.heap := by
    cases e : C.So with
    | none => exact I1.hok.kept fun b u q => sl.keep b u (by rw [e]; simp) q
    | some S =>
      obtain ⟨q1, q2⟩ := pS S e
      obtain ⟨h1, h2, h3, h4, h5⟩ := hS S e
      have := (I1.turned (h' := s'.heap) (t' := s.toks) (it := S) (fun b u hb q => sl.keep b u (by rw [e]; simpa using hb) q) q2 h3 (.inr h2) h5 fun p hp => by
        have hp : p ∈ ([] : List (Addr × Obj)) ++ [(a, go)] := hp
        simp at hp
        rw [hp]; exact fun z => h1 z.symm).hok
      exact this
  have I2 : Inv (gcx X A' s4 H4 cenv fp) [(a, go)] σ'' H s' := I1.call' (ch := C.So.toList) sl.os (un_slept sl.keep) hk sl.bare fun b hb => by
    have e : C.So = some b := by simpa using hb
    obtain ⟨h1, h2, h3, h4, h5⟩ := hS b e
    refine ⟨.inr h2, h3, h5, fun p hp => ?_⟩
    have hp : p ∈ ([] : List (Addr × Obj)) ++ [(a, go)] := hp
    simp at hp
    rw [hp]; exact fun z => h1 z.symm
  refine I2.pins_of fun p hp => ?_
  rcases List.mem_cons.mp hp with z | z
  · rw [z]
    exact I2.pin (a, go) (List.mem_append_right _ (by simp))
  · have e := pinsOf_mem z
    obtain ⟨h1, h2, h3, h4, h5⟩ := hS p.1 e
    exact ⟨(sl.own p z).1, (pS p.1 e).2, h3, h4, (sl.own p z).2⟩
theorem seg_genI (I4 : Inv X pins σ H4 s4) (hf4 : ∀ b ∈ fp, FpOk X pins H4 b ∧ b < s4.heap.objs.size) (hc : X.calm = true) (pg : PG (gcx X A' s4 H4 cenv fp) tg g) (pt : PTs (gcx X A' s4 H4 cenv fp) ifs tt) (pe : PE (gcx X A' s4 H4 cenv fp) elt te)
    (T : L2.Turn X.prog X.w X.K tg J fp it tn) (hco : cenv.scope.isCoroutine = false) (ha : s4.heap.objs.size ≤ a) (hgen : ∀ h : Heap, h.get? a = some go → h.IsGen a gn)
    (hS : ∀ S, C.So = some S → S ≠ a ∧ s4.heap.objs.size ≤ S ∧ S ≠ cenv.locals ∧ S ∉ frs X.stack ∧ ∀ x c, cenv.cells.lookup x = some c → c ≠ S)
    (turn : ∀ i m ys n H, Wt i m ys n H → (J.stop i H ∧ C.Qe ys H) ∨ (J.go i H ∧ ∀ x H', J.yld i H x H' → g x (wipe σ vs) H' fun σ2 H2 => wipe σ2 vs = wipe σ vs ∧ tt σ2 H2 fun b H3 =>
      if b = true then te σ2 H3 fun y H5 => ∃ n', n = n' + 1 ∧ C.Yd ys y n' H5 ∧ (C.Go y → ∃ m', m' < m ∧ Wt (i + 1) m' (ys ++ [y]) n' H5) else ∃ m', m' < m ∧ Wt (i + 1) m' ys n H3)) :
    ∀ (m i : Nat) (ys : List V) (us : List Value) (n : Nat) (H : Hp) (s s₀ : Shared) (o : Obj), Inv (gcx X A' s4 H4 cenv fp) ((a, go) :: pinsOf C.So o) (wipe σ vs) H s → tn i s.heap → (∀ b ∈ fp, H b = none) → Wt i m ys n H → Vals ys us → C.Sk us o → (∀ p ∈ pinsOf C.So o, s₀.heap.get? p.1 = some p.2) →
      Seg (model X.prog X.w) A' (RG X pins σ C a gn) (YG X pins σ C a gn) n s₀ (.compLoop (.GeneratorExp elt [⟨tg, iter, ifs, 0⟩] scope pos) 0 (.ref it) .none cenv)
        ((model X.prog X.w).den (.compLoop (.GeneratorExp elt [⟨tg, iter, ifs, 0⟩] scope pos) 0 (.ref it) .none cenv)) [] s := by
  intro m
  induction m using Nat.strongRecOn with
  | _ m ih =>
  intro i ys us n H s s₀ o I st hn hW vv sk own0
  have pf : ∀ b ∈ fp, ∀ p ∈ (a, go) :: pinsOf C.So o, p.1 ≠ b := fun b hb p hp z => by
    have lb := (hf4 b hb).2
    rcases List.mem_cons.mp hp with q | q
    · rw [q] at z
      exact absurd (Nat.lt_of_lt_of_le lb (by rw [← z]; exact ha)) (Nat.lt_irrefl _)
    · have h2 := (hS p.1 (pinsOf_mem q)).2.1
      rw [z] at h2
      exact absurd (Nat.lt_of_lt_of_le lb h2) (Nat.lt_irrefl _)
  have stat : ∀ {σ' : L2.St} {H' : Hp} {s' : Shared}, Inv (gcx X A' s4 H4 cenv fp) ((a, go) :: pinsOf C.So o) σ' H' s' → (∀ b ∈ fp, H' b = none) → ∀ b ∈ fp, FpOk (gcx X A' s4 H4 cenv fp) ((a, go) :: pinsOf C.So o) H' b := fun {σ' H' s'} I' hn b hb =>
    ⟨hn b hb, (I'.ok.exf b hb).1, I'.ok.exfs b hb, .inl hb, fun x c e => (I'.ok.exf b hb).2 x c e, fun p hp => pf b hb p (by simpa using hp)⟩
  have atS : ∀ {ps : List (Addr × Obj)} {σ' : L2.St} {H' : Hp} {s' : Shared}, Inv (gcx X A' s4 H4 cenv fp) ((a, go) :: pinsOf C.So o ++ ps) σ' H' s' → (∀ p ∈ pinsOf C.So o, s₀.heap.get? p.1 = some p.2 ∧ s'.heap.get? p.1 = some p.2) ∧ s'.heap.IsGen a gn := fun {ps σ' H' s'} I' =>
    ⟨fun p hp => ⟨own0 p hp, (I'.pin p (List.mem_append_right _ (List.mem_append_left _ (List.mem_cons_of_mem _ hp)))).1⟩, hgen _ (I'.pin (a, go) (List.mem_append_right _ (List.mem_append_left _ (by simp)))).1⟩
  show Seg _ A' _ _ n s₀ _ ((compTurn (.GeneratorExp elt [⟨tg, iter, ifs, 0⟩] scope pos) 0 (.ref it) .none cenv).onRaise (leaving cenv)) [] s
  rw [compTurn_gen, Sem.onRaise_eq_wrap]
  refine seg_bind_wrap (wpAny_standAt ?_)
  rcases turn i m ys n H hW with ⟨stop, qe⟩ | ⟨gg, step⟩
  · refine seg_bind_wrap ?_
    rw [over_genL]
    refine thnF (T.done (gcx X A' s4 H4 cenv fp) rfl rfl rfl hc i _ s _ H (fun _ _ => False) I (stat I hn) st stop) fun r s6 ⟨hr, I6⟩ => ?_
    subst hr
    obtain ⟨q1, q2⟩ := atS (ps := []) (by rw [List.append_nil]; exact I6)
    exact seg_end (.ok .next) ⟨rfl, ys, us, o, H, gen_back I4 hf4 I6, vv, sk, q1, qe, q2, fun S e => I4.fpOk (hS S e).2.1 (I6.pin (S, o) (List.mem_append_right _ (List.mem_cons_of_mem _ (by rw [e]; simp [pinsOf])))).2.1⟩
  · refine seg_bind_wrap ?_
    rw [over_genL]
    refine thnF (T.item (gcx X A' s4 H4 cenv fp) rfl rfl rfl hc i _ s _ H (fun _ _ => False) I (stat I hn) st gg) fun r s6 ⟨u, hr, h6⟩ => ?_
    subst hr
    refine seg_bind_wrap ?_
    rw [over_genL]
    refine thnF h6 fun _ s7 ⟨x, H7, I7, r7, y7, st7, n7⟩ => ?_
    have I7' := I7.pinned (stat I7 n7) (T.obj _ _ st7)
    refine seg_bind_wrap ?_
    rw [over_genL]
    refine thnF (pg.run _ s7 _ H7 x u _ I7' r7 (step x H7 y7)) fun _ s8 ⟨σ8, H8, I8, hw8, q8⟩ => ?_
    refine seg_bind_wrap ?_
    rw [over_genL]
    refine thnF (pt.run _ s8 σ8 H8 _ I8 q8) fun b s9 ⟨H9, I9, q9⟩ => ?_
    have hl : (wipe σ vs).length = σ8.length := by rw [← hw8, wipe_length]
    have hww : ∀ (j : Nat) v, (wipe σ vs)[j]? = some (some v) → σ8[j]? = some (some v) := fun j v e => by
      rw [← hw8] at e
      exact (wipe_some e).1
    have keepF : ∀ {s' : Shared} {H' : Hp} {σ' : L2.St}, Inv (gcx X A' s4 H4 cenv fp) ((a, go) :: pinsOf C.So o ++ pinsAt fp s7.heap) σ' H' s' → tn (i + 1) s'.heap ∧ ∀ b ∈ fp, H' b = none := fun {s' H' σ'} I' => by
      have pin' : ∀ b ∈ fp, ∀ o, s7.heap.get? b = some o → s'.heap.get? b = some o ∧ H' b = none := fun b hb o e =>
        let z := I'.pin (b, o) (List.mem_append_right _ (List.mem_append_right _ (mem_pinsAt hb e)))
        ⟨z.1, z.2.1⟩
      refine ⟨T.keep _ _ _ st7 fun b hb o e => (pin' b hb o e).1, fun b hb => ?_⟩
      obtain ⟨o, e, _⟩ := T.obj _ _ st7 b hb
      exact (pin' b hb o e).2
    cases b with
    | false =>
      simp only [Bool.false_eq_true, if_false] at q9 ⊢
      obtain ⟨m', hm, hW'⟩ := q9
      obtain ⟨k1, k2⟩ := keepF I9
      refine seg_again rfl (ih m' hm (i + 1) ys us n H9 s9 s₀ o ((I9.unpinned).weak hl hww) k1 k2 hW' vv sk own0)
    | true =>
      simp only [if_true] at q9 ⊢
      have hy : ∀ v, yieldOut cenv v = yieldValue v := fun v => by simp only [yieldOut, hco, Bool.false_eq_true, if_false]
      simp only [hy]
      rw [Sem.bind_eq_wrap', Sem.bind_eq_wrap', Sem.wrap_wrap, Sem.wrap_wrap]
      refine seg_wrap ?_
      rw [over_genL]
      refine thnF (pe.run _ s9 σ8 H9 _ I9 q9) fun z s10 ⟨yv, H10, I10, r10, n', en, yd, hgo⟩ => ?_
      subst en
      obtain ⟨k1, k2⟩ := keepF I10
      obtain ⟨q1, q2⟩ := atS I10
      refine seg_at (seg_yield rfl rfl rfl ⟨ys, yv, us, o, H10, gen_back I4 hf4 I10, r10, vv, sk, q1, yd, q2, fun hG s'' o' sl => ?_⟩)
      obtain ⟨m', hm, hW'⟩ := hgo hG
      refine seg_again rfl (ih m' hm (i + 1) (ys ++ [yv]) (us ++ [z]) n' H10 s'' s'' o' (gen_slept I10 hl hww hS sl) (T.keep _ _ _ k1 fun b hb ob e => sl.keep b ob (fun q => ?_) e) k2 hW' (vv.append (.cons r10 .nil)) sl.sk fun p hp => (sl.own p hp).1)
      have := (hS b q.symm).2.1
      exact absurd (Nat.lt_of_lt_of_le (hf4 b hb).2 this) (Nat.lt_irrefl _)
end
end Ev

set_option Elab.async false
set_option linter.all false
set_option maxRecDepth 100000
set_option autoImplicit false
/-! Ev: a generator expression is made. -/
namespace Ev
open PySem PySem.Spec PyProof.Rows L2
/-- a generator has been made: s4, H4: ahead of its frame -/
structure Made (X : Cx) (pins : List (Addr × Obj)) (σ : L2.St) (elt tg iter : PySem.Expr) (ifs : List PySem.Expr) (scope : Scope) (pos : Pos) (own : List (Str × Nat)) (s4 : Shared) (H4 : Hp) (J : It) (it : Addr) (fp : List Addr) (tn : Nat → Heap → Prop)
    (cenv : PySem.Env) (a gn : Nat) (go : Obj) (s5 : Shared) : Prop where
  I4 : Inv X pins σ H4 s4
  f4 : ∀ b ∈ fp, FpOk X pins H4 b ∧ b < s4.heap.objs.size
  T : L2.Turn X.prog X.w X.K tg J fp it tn
  st : tn 0 s4.heap
  env : ∃ code, cenv = genEnv scope (cloFrom X.env.cells scope.names []) s4.heap.objs.size code builtinsNs X.env
  kp : ∀ b o, s4.heap.get? b = some o → s5.heap.get? b = some o
  ns : ∃ m, s5.heap.Ns s4.heap.objs.size m
  lt : s4.heap.objs.size < a
  sz : s5.heap.objs.size = a + 1
  gs : s5.gens = s4.gens.push (.fresh (.compStart (.GeneratorExp elt [⟨tg, iter, ifs, 0⟩] scope pos) 0 (.ref it) .none cenv))
  gq : gn = s4.gens.size
  os : s5.os = s4.os
  ob : s5.heap.get? a = some go
  gen : ∀ h : Heap, h.get? a = some go → h.IsGen a gn
  gd : ∀ v, go.data ≠ .cell v
section
variable {X : Cx} {pins : List (Addr × Obj)} {σ : L2.St} {H : Hp} {s : Shared}
theorem gen_made {c P : Addr} {elt tg iter : PySem.Expr} {ifs : List PySem.Expr} {scope : Scope} {own : List (Str × Nat)} {gpos : Pos} {wi : TI} {k : Nat} {Q' : Value → Shared → Prop} {R : It → Hp → Prop}
    (hr : Room k X.A) (TB : GxR.TabB X.base X.mg c P) (hcode : X.env.code = .ref c) (hco : scope.isCoroutine = false) (hcell : ∀ y ∈ scope.names, y.2 ≠ .cell) (hdot : scope.names.lookup (".0" : Str) = some NameKind.local)
    (ok : BlkOk X.N X.env.scope scope own) (hi : PI X tg iter wi) (hs : ∀ v, genFold iter X.env v = pure v) (I : Inv X pins σ H s) (h : wi σ H fun J H1 => GxR.TabG H1 P ∧ R J H1)
    (hQ : ∀ J H2 H4 it fp tn s4 cenv a gn go s5, R J H2 → GxR.Tabbed P H2 H4 → Made X pins σ elt tg iter ifs scope gpos own s4 H4 J it fp tn cenv a gn go s5 → Q' (.ref a) s5) :
    wpAny (model X.prog X.w) X.A (eval (.GeneratorExp elt [⟨tg, iter, ifs, 0⟩] scope gpos) X.env) Q' X.xe s := by
  have hfree : ∀ y ∈ scope.names, y.2 = .free → ∃ c, X.env.cells.lookup y.1 = some c := fun y hy e => by
    rcases ok.free y hy e with k | k
    · exact I.ok.has _ (.inl k)
    · exact I.ok.has _ (.inr k)
  refine wpAny_GeneratorExp_make hco (closure_ok hfree) hcell hdot ok.kind (by have := hr.dp; omega) (thn (hi.run pins s σ H _ I h) fun xv s1 hx => thn hx fun itv s2 h2 => ?_) hs
  obtain ⟨it, fp, tn, J, H2, e, I2, T, st2, f2, ⟨ps, hP, htr⟩, q⟩ := h2
  subst e
  have hPs : s2.heap.get? P = some { cls := .none, data := .fields ps } := I2.hok P _ hP
  have cd : PySem.W.CodeHd s2.heap c P := TB.code.keeps fun b u e => I2.bk b u e
  have cont : ∀ (code : Value) (h3 : Heap) (tk : Nat) (ps' : Array Value), Heap.ExtBut P s2.heap h3 → s2.heap.objs.size ≤ h3.objs.size → h3.get? P = some { cls := .none, data := .fields ps' } → (∃ more, ps' = ps ++ more) → TriplesOk ps'.toList →
      wpAny (model X.prog X.w) X.A (builtinsFor X.env.globals X.env.builtins) (fun bi s₄ =>
        ∀ h', h'.Ns s₄.heap.objs.size (fun y => if y = ".0" then some (.ref it) else none) → Heap.SameBut s₄.heap.objs.size (s₄.heap.push { cls := .type "frame", data := .dict #[] }) h' →
          Q' (.ref h'.objs.size) { s₄ with
            gens := s₄.gens.push (.fresh (.compStart (.GeneratorExp elt [⟨tg, iter, ifs, 0⟩] scope gpos) 0 (.ref it) .none (genEnv scope (cloFrom X.env.cells scope.names []) s₄.heap.objs.size code bi X.env))),
            toks := s₄.toks + 1 + 1 + 1,
            heap := h'.push { cls := .type "generator", data := .fields #[.int s₄.gens.size 0, .str "<genexpr>" (s₄.toks + 1), .str (X.env.qual ++ "<genexpr>") (s₄.toks + 1 + 1)] } }) X.xe { s2 with heap := h3, toks := tk } := by
    intro code h3 tk ps' hx hsz hP3 hmore ht3
    obtain ⟨bm, ob, e1, e2, e3, e4, e5, e6, e7, e8⟩ := TB.bm
    have keep3 : ∀ b u, b ≠ P → s2.heap.get? b = some u → h3.get? b = some u := fun b u hb e => hx b u hb e
    refine wpAny_builtinsFor (m := X.mg) (by rw [I2.ok.glob]; exact (I2.mod.glob.keeps I2.bk).extBut hx TB.gP) e1 e2 (keep3 _ _ e4 (I2.bk _ _ e5)) e6 e7 e8 ?_
    obtain ⟨more, em⟩ := hmore
    have I4 : Inv X pins σ (upd H2 P (.tbl (ps ++ more))) { s2 with heap := h3, toks := tk } :=
      GxR.inv_tab (g' := s2.gens) (d' := s2.drawn) I2 hP keep3 (by rw [← em]; exact hP3) I2.bare
    intro h' hn' hs'
    have hsz2 : h'.objs.size = h3.objs.size + 1 := by rw [hs'.1, Heap.size_push]
    have keep' : ∀ b o, h3.get? b = some o → h'.get? b = some o := fun b o e => hs'.extBut b o (Nat.ne_of_lt (Heap.lt_size e)) (Heap.get?_push_of_some _ e)
    have szf : ∀ b ∈ fp, b < s2.heap.objs.size := fun b hb => by
      obtain ⟨o, e, _⟩ := T.obj _ _ st2 b hb
      exact Heap.lt_size e
    have nPf : ∀ b ∈ fp, b ≠ P := fun b hb z => by
      have := (f2 b hb).1
      rw [z, hP] at this; cases this
    refine hQ J H2 (upd H2 P (.tbl (ps ++ more))) it fp tn { s2 with heap := h3, toks := tk } _ h'.objs.size s2.gens.size { cls := .type "generator", data := .fields #[.int s2.gens.size 0, .str "<genexpr>" (tk + 1), .str (X.env.qual ++ "<genexpr>") (tk + 1 + 1)] } _ q ⟨⟨ps ++ more, upd_same, by rw [← em]; exact ht3⟩, fun b hb => upd_ne hb⟩ ⟨I4, fun b hb => ?_, T, ?_, ⟨code, rfl⟩, fun b o e => Heap.get?_push_of_some _ (keep' b o e), ⟨_, hn'.push _⟩, ?_, ?_, rfl, rfl, rfl, Heap.get?_push_size _ rfl, fun h e => ⟨_, _, _, e, rfl, rfl, rfl⟩, fun v z => by cases z⟩
    · obtain ⟨g1, g2⟩ := f2 b hb
      exact ⟨⟨by rw [upd_ne (nPf b hb)]; exact g1, g2⟩, Nat.lt_of_lt_of_le (szf b hb) hsz⟩
    · exact T.keep _ _ _ st2 fun b hb o e => keep3 b o (nPf b hb) e
    · show h3.objs.size < h'.objs.size
      rw [hsz2]; exact Nat.lt_succ_self _
    · show (h'.push _).objs.size = _
      rw [Heap.size_push]
  refine ⟨I2.nolimit, ?_⟩
  cases hf : codeAmong gpos ps.toList with
  | none =>
    refine wpAny_genexprCodeX hcode (cd.code hPs htr) (cd.tab hPs) hf fun c' h' tk hx hge hlt hco' _ htab' _ => ?_
    obtain ⟨o1, vs, f1, tf, fl, tg, inF, tx, tt, op, _, _, _, _, _, _, _, _, _, htr', _⟩ := hco'
    exact cont _ h' tk _ hx (Nat.le_trans hge (Nat.le_of_lt hlt)) htab'.2 ⟨_, rfl⟩ htr'
  | some cv =>
    refine wpAny_genexprCode_hit hcode (cd.code hPs htr) hf ?_
    exact cont cv s2.heap s2.toks ps (Heap.ExtBut.refl _ _) (Nat.le_refl _) hPs ⟨#[], by simp⟩ htr
end
end Ev

set_option Elab.async false
set_option linter.all false
set_option maxRecDepth 100000
set_option autoImplicit false
/-! Ev: the next item of a generator expression. -/
namespace Ev
open PySem PySem.Spec PyProof.Rows L2
/-- the generator may be asked for its next item -/
structure GAt (X : Cx) (pins : List (Addr × Obj)) (σ : L2.St) (C : Taker) (A : Around) (a gn n : Nat) (s : Shared) : Prop where
  gen : s.heap.IsGen a gn
  lim : s.heap.NoLimit
  goes : ∃ gs, s.gens[gn]? = some gs ∧ gs.Goes (model X.prog X.w) A.in1 (RG X pins σ C a gn) (YG X pins σ C a gn) n (.send .none) (s.setGen gn .running)
/-- behind an item: what is known -/
structure GItem (X : Cx) (pins : List (Addr × Obj)) (σ : L2.St) (C : Taker) (A : Around) (a gn n : Nat) (s0 : Shared) (v : Value) (s : Shared) (ys : List V) (y : V) (us : List Value) (o : Obj) (H : Hp) : Prop where
  inv : Inv X pins σ H s
  rel : RelV y v
  vals : Vals ys us
  sk : C.Sk us o
  own : ∀ p ∈ pinsOf C.So o, s0.heap.get? p.1 = some p.2 ∧ s.heap.get? p.1 = some p.2
  yd : C.Yd ys y (n - 1) H
  gen : s.heap.IsGen a gn
  next : C.Go y → ∀ t o', t.os = s.os → AllBare t.gens → t.gens[gn]? = s.gens[gn]? → (∀ b u, some b ≠ C.So → s.heap.get? b = some u → t.heap.get? b = some u) → C.Sk (us ++ [v]) o' → (∀ p ∈ pinsOf C.So o', t.heap.get? p.1 = some p.2 ∧ ∀ v, p.2.data ≠ .cell v) → ∃ m, n = m + 1 ∧ GAt X pins σ C A a gn m t
section
variable {X : Cx} {pins : List (Addr × Obj)} {σ : L2.St} {C : Taker} {A : Around} {a gn n : Nat} {s : Shared} {Q : Option Value → Shared → Prop} {E : Value → Shared → Prop}
theorem next_genF (hh : A.handled = none) (hd : A.depth < recursionLimit) (hSc : C.So ≠ some cStatics) (hSa : C.So ≠ some a) (G : GAt X pins σ C A a gn n s)
    (hsome : ∀ v s' ys y us o H, GItem X pins σ C A a gn n s v s' ys y us o H → Q (some v) s')
    (hnone : ∀ s' ys us o H, Inv X pins σ H s' → Vals ys us → C.Sk us o → (∀ p ∈ pinsOf C.So o, s.heap.get? p.1 = some p.2 ∧ s'.heap.get? p.1 = some p.2) → C.Qe ys H → (∀ S, C.So = some S → FpOk X pins H S) → Q none s') :
    wpAny (model X.prog X.w) A (pyNext (.ref a)) Q E s := by
  obtain ⟨hg, hl, gs, hgs, hgo⟩ := G
  have hlt : gn < s.gens.size := by
    rcases Nat.lt_or_ge gn s.gens.size with h' | h'
    · exact h'
    · rw [Array.getElem?_eq_none h'] at hgs; cases hgs
  refine GenW.wpAny_gsz (n := gn + 1) hlt ?_
  refine wpAny_pyNext_genexpQ (P := fun _ s₀ s => ∃ (ys : List V) (us : List Value) (o : Obj) (H : Hp), Inv X pins σ H s ∧ Vals ys us ∧ C.Sk us o ∧ (∀ p ∈ pinsOf C.So o, s₀.heap.get? p.1 = some p.2 ∧ s.heap.get? p.1 = some p.2) ∧ C.Qe ys H ∧ s.heap.IsGen a gn ∧ ∀ S, C.So = some S → FpOk X pins H S) hh hl hd hg hgs hgo (fun v s₁ gs' hb hv => ?_) (fun s₁ hp h' hk => ?_)
  · intro hsz
    obtain ⟨ys, y, us, o, H, I, r, vv, sk, own, yd, ig, kap⟩ := hv
    have hsz' : gn < s₁.gens.size := by
      have q : (s₁.setGen gn gs').gens.size = s₁.gens.size := GenW.setGen_size s₁ gn gs'
      rw [q] at hsz; exact hsz
    refine hsome v _ ys y us o H ⟨inv_gens I rfl rfl (allBare_setGen I.bare hb), r, vv, sk, own, yd, ig, fun hG t o' ho hba hge hk hsk hown => ?_⟩
    have ht : t.gens[gn]? = some gs' := by rw [hge]; exact setGen_at hsz'
    have hkap := kap hG (t.setGen gn .running) o' ⟨ho, allBare_setGen hba rfl, hk, hsk, hown⟩
    cases n with
    | zero => exact False.elim hkap
    | succ m =>
      refine ⟨m, rfl, ?_, ?_, gs', ht, hkap⟩
      · obtain ⟨ob, nm, qn, e1, r1⟩ := ig
        exact ⟨ob, nm, qn, hk a ob (fun z => hSa z.symm) e1, r1⟩
      · obtain ⟨mc, hns, hnn⟩ := I.nolimit
        exact ⟨mc, hns.at' fun o e => hk cStatics o (fun z => hSc z.symm) e, hnn⟩
  · intro _
    obtain ⟨ys, us, o, H, I, vv, sk, own, qe, ig, fo⟩ := hp
    refine hnone _ ys us o H ?_ vv sk (fun p hp => ⟨(own p hp).1, hk _ _ (own p hp).2⟩) qe fo
    have I1 : Inv X pins σ H (s₁.setGen gn .finished) := inv_gens I rfl rfl (allBare_setGen I.bare rfl)
    exact I1.kept (t' := (s₁.setGen gn .finished).toks) fun b u e => hk b u e
theorem next_gen (hh : A.handled = none) (hd : A.depth < recursionLimit) (hSc : C.So ≠ some cStatics) (hSa : C.So ≠ some a) (G : GAt X pins σ C A a gn n s)
    (hsome : ∀ v s' ys y us o H, GItem X pins σ C A a gn n s v s' ys y us o H → Q (some v) s')
    (hnone : ∀ s' ys us o H, Inv X pins σ H s' → Vals ys us → C.Sk us o → (∀ p ∈ pinsOf C.So o, s.heap.get? p.1 = some p.2 ∧ s'.heap.get? p.1 = some p.2) → C.Qe ys H → Q none s') :
    wpAny (model X.prog X.w) A (pyNext (.ref a)) Q E s :=
  next_genF hh hd hSc hSa G hsome fun s' ys us o H I vv sk own qe _ => hnone s' ys us o H I vv sk own qe
end
end Ev

set_option Elab.async false
set_option linter.all false
set_option maxRecDepth 100000
set_option autoImplicit false
/-! Ev: a generator expression begins; all, any. -/
namespace Ev
open PySem PySem.Spec PyProof.Rows L2
/-- what a turn must do -/
def Turns (C : Taker) (σ : L2.St) (vs : List Nat) (g : L2.TG) (tt : TT) (te : TE) (J : It) (Wt : Nat → Nat → List V → Nat → Hp → Prop) : Prop :=
  ∀ i m ys n H, Wt i m ys n H → (J.stop i H ∧ C.Qe ys H) ∨ (J.go i H ∧ ∀ x H', J.yld i H x H' → g x (wipe σ vs) H' fun σ2 H2 => wipe σ2 vs = wipe σ vs ∧ tt σ2 H2 fun b H3 =>
      if b = true then te σ2 H3 fun y H5 => ∃ n', n = n' + 1 ∧ C.Yd ys y n' H5 ∧ (C.Go y → ∃ m', m' < m ∧ Wt (i + 1) m' (ys ++ [y]) n' H5) else ∃ m', m' < m ∧ Wt (i + 1) m' ys n H3)
/-- a generator expression whose items C takes -/
def tGen (C : Taker) (P : Addr) (wi : TI) (g : L2.TG) (tt : TT) (te : TE) (vs : List Nat) (σ : L2.St) (H : Hp) : Prop :=
  wi σ H fun J H1 => GxR.TabG H1 P ∧ ∀ H4, GxR.Tabbed P H1 H4 → ∃ Wt m n, Wt 0 m [] n H4 ∧ Turns C σ vs g tt te J Wt
/-- its parts, in every frame of it -/
structure Parts (X : Cx) (A : Around) (elt tg iter : PySem.Expr) (ifs : List PySem.Expr) (scope : Scope) (own : List (Str × Nat)) (g : L2.TG) (tt : TT) (te : TE) : Prop where
  hN : X.N.Nodup
  hc : X.calm = true
  co : scope.isCoroutine = false
  cell : ∀ y ∈ scope.names, y.2 ≠ .cell
  dot : scope.names.lookup (".0" : Str) = some NameKind.local
  blk : BlkOk X.N X.env.scope scope own
  fold : ∀ v, genFold iter X.env v = pure v
  pg : ∀ (s : Shared) (H : Hp) (C : Addr) (code : Value) (fp : List Addr), PG (gcx X A s H (genEnv scope (cloFrom X.env.cells scope.names []) C code builtinsNs X.env) fp) tg g
  pt : ∀ (s : Shared) (H : Hp) (C : Addr) (code : Value) (fp : List Addr), PTs (gcx X A s H (genEnv scope (cloFrom X.env.cells scope.names []) C code builtinsNs X.env) fp) ifs tt
  pe : ∀ (s : Shared) (H : Hp) (C : Addr) (code : Value) (fp : List Addr), PE (gcx X A s H (genEnv scope (cloFrom X.env.cells scope.names []) C code builtinsNs X.env) fp) elt te
section
variable {X : Cx} {pins : List (Addr × Obj)} {σ : L2.St} {H H4 : Hp} {s s4 s5 : Shared} {C : Taker} {A : Around} {a gn n m : Nat} {elt tg iter : PySem.Expr} {ifs : List PySem.Expr} {scope : Scope} {pos : Pos} {own : List (Str × Nat)} {g : L2.TG} {tt : TT} {te : TE}
  {J : It} {it : Addr} {fp : List Addr} {tn : Nat → Heap → Prop} {cenv : PySem.Env} {go : Obj} {Wt : Nat → Nat → List V → Nat → Hp → Prop}
theorem gat_start (M : Made X pins σ elt tg iter ifs scope pos own s4 H4 J it fp tn cenv a gn go s5) (PP : Parts X A.in1 elt tg iter ifs scope own g tt te) (hfr : A.frames = some X.stack) (hh : A.handled = none)
    (hS : ∀ S, C.So = some S → s5.heap.objs.size ≤ S) (ho : s.os = s5.os) (hb : AllBare s.gens) (hge : s.gens[gn]? = s5.gens[gn]?) (kp : ∀ b u, s5.heap.get? b = some u → s.heap.get? b = some u) {o : Obj} (sk : C.Sk [] o)
    (hown : ∀ p ∈ pinsOf C.So o, s.heap.get? p.1 = some p.2 ∧ ∀ v, p.2.data ≠ .cell v) (hW : Wt 0 m [] n H4) (ht : Turns C σ (own.map (·.2)) g tt te J Wt) : GAt X pins σ C A a gn n s := by
  obtain ⟨I4, f4, T, st, ⟨code, henv⟩, kp5, ⟨m5, ns5⟩, lt, sz, gs, gq, os5, ob, gen, gd⟩ := M
  have kp4 : ∀ b u, s4.heap.get? b = some u → s.heap.get? b = some u := fun b u e => kp b u (kp5 b u e)
  have hga : s.heap.get? a = some go := kp a go ob
  refine ⟨gen _ hga, I4.nolimit.keeps kp4, .fresh (.compStart (.GeneratorExp elt [⟨tg, iter, ifs, 0⟩] scope pos) 0 (.ref it) .none cenv), by rw [hge, gs, gq]; exact Array.getElem?_push_size .., rfl, ?_⟩
  have hLoc : cenv.locals = s4.heap.objs.size := by rw [henv]; rfl
  have hcl : cenv.cells = cloFrom X.env.cells scope.names [] := by rw [henv]; rfl
  have fresh : ∀ b, s4.heap.objs.size < b → H4 b = none ∧ b ≠ cenv.locals ∧ b ∉ frs X.stack := fun b hb => by
    refine ⟨I4.hok.fresh (Nat.le_of_lt hb), by rw [hLoc]; exact Nat.ne_of_gt hb, fun z => ?_⟩
    rcases List.mem_cons.mp (I4.stkSub b z) with q | q
    · have h1 := I4.lt
      rw [← q] at h1
      exact absurd (Nat.lt_trans hb h1) (Nat.lt_irrefl _)
    · exact I4.nofs (Nat.le_of_lt hb) q
  have Sgt : ∀ S, C.So = some S → s4.heap.objs.size < S ∧ a < S := fun S e => by
    have h1 := hS S e
    rw [sz] at h1
    exact ⟨Nat.lt_of_lt_of_le lt (Nat.le_of_succ_le h1), h1⟩
  have hfree : ∀ y ∈ scope.names, y.2 = .free → ∃ c, X.env.cells.lookup y.1 = some c := fun y hy e => by
    rcases PP.blk.free y hy e with k | k
    · exact I4.ok.has _ (.inl k)
    · exact I4.ok.has _ (.inr k)
  have clt : ∀ y c, cenv.cells.lookup y = some c → c < s4.heap.objs.size := fun y c e => by
    rw [hcl] at e
    rcases cloFrom_mem (PySem.mem_of_lookup e) with hm | ⟨h1, rfl⟩
    · cases hm
    · obtain ⟨c, hc⟩ := hfree _ h1 rfl
      rw [hc]
      obtain ⟨w, z⟩ := I4.cell _ _ hc
      exact z.lt
  have hfr1 : A.in1.frames = some X.stack := hfr
  have hh1 : A.in1.handled = none := hh
  have nsS : s.heap.Ns s4.heap.objs.size m5 := ns5.keeps kp
  have Is : Inv (gcx X A.in1 s4 H4 cenv fp) [] (wipe σ (own.map (·.2))) H4 { s4 with heap := s.heap, gens := (s.setGen gn .running).gens, toks := s.toks } := by
    rw [henv]
    exact gen_start I4 PP.blk PP.hN PP.cell f4 hfr1 hh1 kp4 nsS (allBare_setGen hb rfl)
  have I1 : Inv (gcx X A.in1 s4 H4 cenv fp) ((a, go) :: pinsOf C.So o) (wipe σ (own.map (·.2))) H4 (s.setGen gn .running) := by
    have I0 : Inv (gcx X A.in1 s4 H4 cenv fp) [] (wipe σ (own.map (·.2))) H4 (s.setGen gn .running) := inv_gens Is rfl (show (s.setGen gn .running).os = s4.os from ho.trans os5) (allBare_setGen hb rfl)
    refine I0.pins_of fun p hp => ?_
    rcases List.mem_cons.mp hp with z | z
    · rw [z]
      obtain ⟨y1, y2, y3⟩ := fresh a lt
      exact ⟨hga, y1, y2, y3, gd⟩
    · obtain ⟨y1, y2, y3⟩ := fresh p.1 (Sgt p.1 (pinsOf_mem z)).1
      exact ⟨(hown p z).1, y1, y2, y3, (hown p z).2⟩
  have hSS : ∀ S, C.So = some S → S ≠ a ∧ s4.heap.objs.size ≤ S ∧ S ≠ cenv.locals ∧ S ∉ frs X.stack ∧ ∀ x c, cenv.cells.lookup x = some c → c ≠ S := fun S e => by
    obtain ⟨q1, q2⟩ := Sgt S e
    obtain ⟨y1, y2, y3⟩ := fresh S q1
    exact ⟨Nat.ne_of_gt q2, Nat.le_of_lt q1, y2, y3, fun x c hc z => absurd (Nat.lt_trans q1 (by rw [← z]; exact clt x c hc)) (Nat.lt_irrefl _)⟩
  have stS : tn 0 s.heap := T.keep _ _ _ st fun b _ u e => kp4 b u e
  have hco : cenv.scope.isCoroutine = false := by rw [henv]; exact PP.co
  have loop := seg_genI (A' := A.in1) (C := C) (Wt := Wt) (iter := iter) (scope := scope) (pos := pos) I4 f4 PP.hc (by rw [henv]; exact PP.pg _ _ _ _ _) (by rw [henv]; exact PP.pt _ _ _ _ _) (by rw [henv]; exact PP.pe _ _ _ _ _) T hco (Nat.le_of_lt lt) gen hSS ht m 0 [] [] n H4 (s.setGen gn .running) (s.setGen gn .running) o I1 stS (fun b hb => (f4 b hb).1.1) hW .nil sk fun p hp => (hown p hp).1
  show Seg _ A.in1 _ _ n _ _ ((compStart (.GeneratorExp elt [⟨tg, iter, ifs, 0⟩] scope pos) 0 (.ref it) .none cenv).onRaise (leaving cenv)) [] _
  unfold compStart
  rw [Sem.onRaise_eq_wrap]
  show Seg _ A.in1 _ _ n _ _ ((ask >>= _).wrap _ _ _ _) [] _
  refine seg_bind_wrap (wpAny_askSetting ?_)
  split
  · exact seg_again rfl loop
  · first
      | exact seg_bind_wrap (wpAny_rule (seg_bind_wrap (wpAny_standAt (seg_bind_wrap (T.self _ 0 _ _ _ stS (seg_again rfl loop))))))
      | (refine seg_bind_wrap (wpAny_rule ?_); show Seg _ A.in1 _ _ n _ _ ((standAt iter.pos >>= _).wrap _ _ _ _) [] _; exact seg_bind_wrap (wpAny_standAt (seg_bind_wrap (T.self _ 0 _ _ _ stS (seg_again rfl loop)))))
end
end Ev

set_option Elab.async false
set_option linter.all false
set_option maxRecDepth 100000
set_option autoImplicit false
/-! Ev: all, any of a generator expression. -/
namespace Ev
open PySem PySem.Spec PyProof.Rows L2
def takeAll (Q : VK) : Taker := ⟨none, fun _ _ => True, fun y => y = .bl true, fun _ y _ H => ∃ b : Bool, y = .bl b ∧ (b = false → Q (.bl false) H), fun _ H => Q (.bl true) H⟩
def takeAny (Q : VK) : Taker := ⟨none, fun _ _ => True, fun y => y = .bl false, fun _ y _ H => ∃ b : Bool, y = .bl b ∧ (b = true → Q (.bl true) H), fun _ H => Q (.bl false) H⟩
section
variable {X : Cx} {pins : List (Addr × Obj)} {σ : L2.St} {A : Around} {a gn : Nat} {R : Result → Shared → Prop} {Q : VK}
theorem all_loop (hh : A.handled = none) (hd : A.depth < recursionLimit) (hR : ∀ b s H, Inv X pins σ H s → Q (.bl b) H → R (.ok (.ret (.bool b))) s) : ∀ (n : Nat) (s : Shared), GAt X pins σ (takeAll Q) A.in1 a gn n s → codeAny (model X.prog X.w) A (.builtin "all.loop" ⟨[.ref a], []⟩) R s := by
  intro n
  induction n using Nat.strongRecOn with
  | _ n ih =>
  intro s G
  refine codeAny_builtin F.entry_all_loop ?_
  rw [Around.under_plainId F.plain_all_loop _]
  show wpAny _ A.in1 (pyNext (.ref a) >>= _) _ _ s
  refine wpAny_bind (next_gen hh hd (by simp [takeAll]) (by simp [takeAll]) G (fun v s' ys y us o H gi => ?_) fun s' ys us o H I vv sk own qe => ?_)
  · obtain ⟨b, rfl, qf⟩ := gi.yd
    have ev : v = .bool b := gi.rel
    subst ev
    refine wpAny_bind (wpAny_holding (wpAny_truthy_bool ?_))
    refine wpAny_bind (wpAny_letGo ?_)
    cases b with
    | true =>
      simp only [if_true]
      obtain ⟨m, rfl, G'⟩ := gi.next rfl s' o rfl gi.inv.bare rfl (fun _ _ _ e => e) trivial (fun p hp => by cases hp)
      exact wpAny_pure ⟨plainId_quiet F.plain_all_loop _, ih m (Nat.lt_succ_self m) s' G'⟩
    | false =>
      simp only [Bool.false_eq_true, if_false]
      exact wpAny_bind (wpAny_rule (wpAny_pure (hR false s' H gi.inv (qf rfl))))
  · exact wpAny_bind (wpAny_rule (wpAny_pure (hR true s' H I qe)))
theorem any_loop (hh : A.handled = none) (hd : A.depth < recursionLimit) (hR : ∀ b s H, Inv X pins σ H s → Q (.bl b) H → R (.ok (.ret (.bool b))) s) : ∀ (n : Nat) (s : Shared), GAt X pins σ (takeAny Q) A.in1 a gn n s → codeAny (model X.prog X.w) A (.builtin "any.loop" ⟨[.ref a], []⟩) R s := by
  intro n
  induction n using Nat.strongRecOn with
  | _ n ih =>
  intro s G
  refine codeAny_builtin F.entry_any_loop ?_
  rw [Around.under_plainId F.plain_any_loop _]
  show wpAny _ A.in1 (pyNext (.ref a) >>= _) _ _ s
  refine wpAny_bind (next_gen hh hd (by simp [takeAny]) (by simp [takeAny]) G (fun v s' ys y us o H gi => ?_) fun s' ys us o H I vv sk own qe => ?_)
  · obtain ⟨b, rfl, qf⟩ := gi.yd
    have ev : v = .bool b := gi.rel
    subst ev
    refine wpAny_bind (wpAny_holding (wpAny_truthy_bool ?_))
    refine wpAny_bind (wpAny_letGo ?_)
    cases b with
    | false =>
      simp only [Bool.false_eq_true, if_false]
      obtain ⟨m, rfl, G'⟩ := gi.next rfl s' o rfl gi.inv.bare rfl (fun _ _ _ e => e) trivial (fun p hp => by cases hp)
      exact wpAny_pure ⟨plainId_quiet F.plain_any_loop _, ih m (Nat.lt_succ_self m) s' G'⟩
    | true =>
      simp only [if_true]
      exact wpAny_bind (wpAny_rule (wpAny_pure (hR true s' H gi.inv (qf rfl))))
  · exact wpAny_bind (wpAny_rule (wpAny_pure (hR false s' H I qe)))
end
section
variable {X : Cx} {k : Nat} {c P : Addr} {elt tg iter : PySem.Expr} {ifs : List PySem.Expr} {scope : Scope} {own : List (Str × Nat)} {gpos p pos : Pos} {wi : TI} {g : L2.TG} {tt : TT} {te : TE}
theorem pe_genAll (hr : Room k X.A) (hg : Gl X "all") (hm : X.mg "all" = none) (hb : bootBuiltins "all" = some (.builtin "all")) (TB : GxR.TabB X.base X.mg c P) (hcode : X.env.code = .ref c) (hi : PI X tg iter wi)
    (PP : Parts X X.A.in1.in1 elt tg iter ifs scope own g tt te) :
    PE X (.Call (.Name "all" p) [.GeneratorExp elt [⟨tg, iter, ifs, 0⟩] scope gpos] [] pos) (fun σ H Q => tGen (takeAll Q) P wi g tt te (own.map (·.2)) σ H) := by
  refine ⟨fun pins s σ H Q I h => ?_⟩
  have he : starEach [.GeneratorExp elt [⟨tg, iter, ifs, 0⟩] scope gpos] X.env = (false, eval (.GeneratorExp elt [⟨tg, iter, ifs, 0⟩] scope gpos) X.env) :: starEach [] X.env := by rfl
  refine wpAny_Call_Name_kw (ld_blt I hg hm hb ?_)
  refine PyProof.Rows.callWith_builtin1 ?_ he (by rfl)
  rw [he]
  show wpAny _ _ (spliced ((false, eval (.GeneratorExp elt [⟨tg, iter, ifs, 0⟩] scope gpos) X.env) :: backTo pos (starEach [] X.env))) _ _ s
  refine Calls.spliced_cons (gen_made (R := fun J H1 => ∀ H4, GxR.Tabbed P H1 H4 → ∃ (Wt : Nat → Nat → List V → Nat → Hp → Prop) (m n : Nat), Wt 0 m [] n H4 ∧ Turns (takeAll Q) σ (own.map (fun q : Str × Nat => q.2)) g tt te J Wt) hr TB hcode PP.co PP.cell PP.dot PP.blk hi PP.fold I h fun J H2 H4 it fp tn s4 cenv a gn go s5 hR hT M => ?_)
  obtain ⟨Wt, m, n, hW, ht⟩ := hR H4 hT
  refine Calls.spliced_nil ?_
  have hba : AllBare s5.gens := by
    rw [M.gs]; exact M.I4.bare.push rfl
  have G : GAt X pins σ (takeAll Q) X.A.in1 a gn n s5 := gat_start (A := X.A.in1) (C := takeAll Q) (o := go) M PP I.ok.frames hr.hd (fun S e => by cases e) rfl hba rfl (fun _ _ e => e) trivial (fun p hp => by cases hp) hW ht
  refine call_function_tree F.kind_all F.plain_all F.entry_all (F.args_all1 _) ?_
  unfold Builtin.«all»
  refine wpAny_bind (m := oneArg "all" _) (wpAny_pure ?_)
  refine wpAny_bind (wpAny_pyIter_gen G.gen ?_)
  refine wpAny_pure ⟨plainId_quiet F.plain_all_loop _, all_loop (A := X.A) hr.hd hr.depth (fun b s H I q => ?_) n s5 G⟩
  exact ⟨.bl b, H, I, rfl, q⟩
theorem pe_genAny (hr : Room k X.A) (hg : Gl X "any") (hm : X.mg "any" = none) (hb : bootBuiltins "any" = some (.builtin "any")) (TB : GxR.TabB X.base X.mg c P) (hcode : X.env.code = .ref c) (hi : PI X tg iter wi)
    (PP : Parts X X.A.in1.in1 elt tg iter ifs scope own g tt te) :
    PE X (.Call (.Name "any" p) [.GeneratorExp elt [⟨tg, iter, ifs, 0⟩] scope gpos] [] pos) (fun σ H Q => tGen (takeAny Q) P wi g tt te (own.map (·.2)) σ H) := by
  refine ⟨fun pins s σ H Q I h => ?_⟩
  have he : starEach [.GeneratorExp elt [⟨tg, iter, ifs, 0⟩] scope gpos] X.env = (false, eval (.GeneratorExp elt [⟨tg, iter, ifs, 0⟩] scope gpos) X.env) :: starEach [] X.env := by rfl
  refine wpAny_Call_Name_kw (ld_blt I hg hm hb ?_)
  refine PyProof.Rows.callWith_builtin1 ?_ he (by rfl)
  rw [he]
  show wpAny _ _ (spliced ((false, eval (.GeneratorExp elt [⟨tg, iter, ifs, 0⟩] scope gpos) X.env) :: backTo pos (starEach [] X.env))) _ _ s
  refine Calls.spliced_cons (gen_made (R := fun J H1 => ∀ H4, GxR.Tabbed P H1 H4 → ∃ (Wt : Nat → Nat → List V → Nat → Hp → Prop) (m n : Nat), Wt 0 m [] n H4 ∧ Turns (takeAny Q) σ (own.map (fun q : Str × Nat => q.2)) g tt te J Wt) hr TB hcode PP.co PP.cell PP.dot PP.blk hi PP.fold I h fun J H2 H4 it fp tn s4 cenv a gn go s5 hR hT M => ?_)
  obtain ⟨Wt, m, n, hW, ht⟩ := hR H4 hT
  refine Calls.spliced_nil ?_
  have hba : AllBare s5.gens := by
    rw [M.gs]; exact M.I4.bare.push rfl
  have G : GAt X pins σ (takeAny Q) X.A.in1 a gn n s5 := gat_start (A := X.A.in1) (C := takeAny Q) (o := go) M PP I.ok.frames hr.hd (fun S e => by cases e) rfl hba rfl (fun _ _ e => e) trivial (fun p hp => by cases hp) hW ht
  refine call_function_tree F.kind_any F.plain_any F.entry_any (F.args_any1 _) ?_
  unfold Builtin.«any»
  refine wpAny_bind (m := oneArg "any" _) (wpAny_pure ?_)
  refine wpAny_bind (wpAny_pyIter_gen G.gen ?_)
  refine wpAny_pure ⟨plainId_quiet F.plain_any_loop _, any_loop (A := X.A) hr.hd hr.depth (fun b s H I q => ?_) n s5 G⟩
  exact ⟨.bl b, H, I, rfl, q⟩
end
end Ev

set_option Elab.async false
set_option linter.all false
set_option maxRecDepth 100000
set_option autoImplicit false
/-! Ev: sum of a generator expression. -/
namespace Ev
open PySem PySem.Spec PyProof.Rows L2
def sumO (i : Int) (t : Tok) (c : Nat) : Obj := { cls := .type "list", dict := none, data := .seq #[.int i t] c, slots := #[] }
def takeSum (S : Addr) (Q : VK) : Taker := ⟨some S, fun us o => ∃ (ns : List Int) (t : Tok) (c : Nat), Vals (ns.map V.int) us ∧ o = sumO ns.sum t c, fun _ => True, fun ys y _ _ => ∃ (ns : List Int) (n : Int), ys = ns.map V.int ∧ y = .int n ∧ InLong n ∧ InLong (ns.sum + n), fun ys H => ∃ ns : List Int, ys = ns.map V.int ∧ Q (.int ns.sum) H⟩
theorem ints_eq : ∀ {ns ms : List Int} {us : List Value}, Vals (ns.map V.int) us → Vals (ms.map V.int) us → ns = ms
  | [], [], _, _, _ => rfl
  | [], m :: ms, us, a, b => by cases a; cases b
  | n :: ns, [], us, a, b => by cases b; cases a
  | n :: ns, m :: ms, us, a, b => by
    cases a with
    | cons r1 a => cases b with
      | cons r2 b =>
        obtain ⟨t1, e1⟩ := r1
        obtain ⟨t2, e2⟩ := r2
        rw [e1] at e2
        cases e2
        rw [ints_eq a b]
section
variable {X : Cx} {pins : List (Addr × Obj)} {σ : L2.St} {A : Around} {a gn : Nat} {R : Result → Shared → Prop} {Q : VK} {S : Addr}
theorem sum_loop (hh : A.handled = none) (hd : A.depth < recursionLimit) (hSa : S ≠ a) (hSc : S ≠ cStatics)
    (hR : ∀ i t s H, Inv X pins σ H s → Q (.int i) H → R (.ok (.ret (.int i t))) s) : ∀ (n : Nat) (s : Shared) (o : Obj), GAt X pins σ (takeSum S Q) A.in1 a gn n s → (∃ (ns : List Int) (t : Tok) (c : Nat), o = sumO ns.sum t c) → s.heap.get? S = some o → codeAny (model X.prog X.w) A (.builtin "sum.loop" ⟨[.ref a, .ref S, rawInt 0, rawInt 0], []⟩) R s := by
  intro n
  induction n using Nat.strongRecOn with
  | _ n ih =>
  intro s o G sk hS
  obtain ⟨ns0, t0, c0, rfl⟩ := sk
  refine codeAny_builtin F.entry_sum_loop ?_
  rw [Around.under_plainId F.plain_sum_loop _]
  show wpAny _ A.in1 (seqItems? (.ref S) >>= _) _ _ s
  refine wpAny_bind (wpAny_seqItems hS rfl ?_)
  show wpAny _ A.in1 (tryCatch (pyNext (.ref a)) _ >>= _) _ _ s
  have hSo : (takeSum S Q).So = some S := rfl
  have own1 : ∀ {o : Obj} {s' : Shared}, (∀ p ∈ pinsOf (takeSum S Q).So o, s.heap.get? p.1 = some p.2 ∧ s'.heap.get? p.1 = some p.2) → o = sumO ns0.sum t0 c0 ∧ s'.heap.get? S = some (sumO ns0.sum t0 c0) := fun {o s'} own => by
    obtain ⟨h1, h2⟩ := own (S, o) (by rw [hSo]; simp [pinsOf])
    have e : some (sumO ns0.sum t0 c0) = some o := hS.symm.trans h1
    cases e
    exact ⟨rfl, h2⟩
  refine wpAny_bind (wpAny_tryCatch (next_gen hh hd (by rw [hSo]; simpa using hSc) (by rw [hSo]; simpa using hSa) G (fun v s' ys y us o H gi => ?_) fun s' ys us o H I vv sk own qe => ?_))
  · obtain ⟨ns, n1, rfl, rfl, ⟨f1, f2⟩, f3, f4⟩ := gi.yd
    obtain ⟨t, rfl⟩ := gi.rel
    obtain ⟨rfl, hS'⟩ := own1 gi.own
    obtain ⟨ns2, t2, c2, vv2, e2⟩ := gi.sk
    have en := ints_eq gi.vals vv2
    subst en
    have e3 : ns0.sum = ns.sum := by
      have := congrArg (fun o : Obj => o.data) e2
      simp only [sumO] at this
      injection this with h1 h2
      injection h1 with h1
      injection h1 with h1 h3
      injection h1
    have hc : ((decide (-(2 ^ 63) ≤ n1) && decide (n1 < 2 ^ 63)) && (decide (-(2 ^ 63) ≤ ns0.sum + n1) && decide (ns0.sum + n1 < 2 ^ 63))) = true := by
      rw [e3]
      simp only [Bool.and_eq_true, decide_eq_true_eq]
      exact ⟨⟨f1, f2⟩, f3, f4⟩
    show wpAny _ A.in1 (if (_ : Bool) = true then (mkInt (ns0.sum + n1) >>= _) else _) _ _ _
    split
    · refine wpAny_bind (wpAny_mkInt ?_)
      show wpAny _ A.in1 (updateSeq S (fun _ => #[.int (ns0.sum + n1) s'.toks]) >>= _) _ _ _
      refine wpAny_bind ?_
      refine wpAny_updateSeq hS' rfl (wpAny_pure ⟨plainId_quiet F.plain_sum_loop _, ?_⟩)
      have es : (ns ++ [n1]).sum = ns0.sum + n1 := by rw [List.sum_append, e3]; simp
      have hup := Heap.get?_update_self (h := s'.heap) (a := S) (fun o => Obj.mapSeq (fun _ => #[.int (ns0.sum + n1) s'.toks]) o) hS' rfl
      have hup2 : ∃ c3, Obj.mapSeq (fun _ => #[.int (ns0.sum + n1) s'.toks]) (sumO ns0.sum t0 c0) = sumO (ns ++ [n1]).sum s'.toks c3 := by
        rw [es]; exact ⟨_, rfl⟩
      obtain ⟨c3, e4⟩ := hup2
      rw [e4] at hup
      obtain ⟨m, rfl, G'⟩ := gi.next trivial { s' with heap := s'.heap.update S (fun o => Obj.mapSeq (fun _ => #[.int (ns0.sum + n1) s'.toks]) o), toks := s'.toks + 1 } (sumO (ns ++ [n1]).sum s'.toks c3) rfl gi.inv.bare rfl (fun b u hb e => (Heap.get?_update_other _ _ (fun h : S = b => hb (by rw [hSo, h]))).trans e) ⟨ns ++ [n1], _, c3, by rw [List.map_append]; exact gi.vals.append (.cons ⟨t, rfl⟩ .nil), rfl⟩ (fun p hp => by
        rw [hSo] at hp
        rw [List.mem_singleton.mp hp]
        exact ⟨hup, fun v z => by cases z⟩)
      exact ih m (Nat.lt_succ_self m) _ _ G' ⟨_, _, _, rfl⟩ hup
    · rename_i hneg
      exact absurd hc hneg
  · obtain ⟨ns, rfl, q⟩ := qe
    obtain ⟨ns2, t2, c2, vv2, e2⟩ := sk
    obtain ⟨rfl, hS'⟩ := own1 own
    have en := ints_eq vv vv2
    subst en
    have e3 : ns0.sum = ns.sum := by
      have := congrArg (fun o : Obj => o.data) e2
      simp only [sumO] at this
      injection this with h1 h2
      injection h1 with h1
      injection h1 with h1 h3
      injection h1
    rw [← e3] at q
    exact wpAny_pure (hR _ t0 s' H I q)
end
section
variable {X : Cx} {k : Nat} {c P : Addr} {elt tg iter : PySem.Expr} {ifs : List PySem.Expr} {scope : Scope} {own : List (Str × Nat)} {gpos p pos : Pos} {wi : TI} {g : L2.TG} {tt : TT} {te : TE}
theorem pe_genSum (hr : Room k X.A) (hg : Gl X "sum") (hm : X.mg "sum" = none) (hb : bootBuiltins "sum" = some (.builtin "sum")) (TB : GxR.TabB X.base X.mg c P) (hcode : X.env.code = .ref c) (hi : PI X tg iter wi)
    (PP : Parts X X.A.in1.in1 elt tg iter ifs scope own g tt te) :
    PE X (.Call (.Name "sum" p) [.GeneratorExp elt [⟨tg, iter, ifs, 0⟩] scope gpos] [] pos) (fun σ H Q => wi σ H fun J H1 => GxR.TabG H1 P ∧ ∀ H4, GxR.Tabbed P H1 H4 → ∀ S, ∃ Wt m n, Wt 0 m [] n H4 ∧ Turns (takeSum S Q) σ (own.map (·.2)) g tt te J Wt) := by
  refine ⟨fun pins s σ H Q I h => ?_⟩
  have he : starEach [.GeneratorExp elt [⟨tg, iter, ifs, 0⟩] scope gpos] X.env = (false, eval (.GeneratorExp elt [⟨tg, iter, ifs, 0⟩] scope gpos) X.env) :: starEach [] X.env := by rfl
  refine wpAny_Call_Name_kw (ld_blt I hg hm hb ?_)
  refine PyProof.Rows.callWith_builtin1 ?_ he (by rfl)
  rw [he]
  show wpAny _ _ (spliced ((false, eval (.GeneratorExp elt [⟨tg, iter, ifs, 0⟩] scope gpos) X.env) :: backTo pos (starEach [] X.env))) _ _ s
  refine Calls.spliced_cons (gen_made (R := fun J H1 => ∀ H4, GxR.Tabbed P H1 H4 → ∀ S : Addr, ∃ (Wt : Nat → Nat → List V → Nat → Hp → Prop) (m n : Nat), Wt 0 m [] n H4 ∧ Turns (takeSum S Q) σ (own.map (fun q : Str × Nat => q.2)) g tt te J Wt) hr TB hcode PP.co PP.cell PP.dot PP.blk hi PP.fold I h fun J H2 H4 it fp tn s4 cenv a gn go s5 hR hT M => ?_)
  obtain ⟨Wt, m, n, hW, ht⟩ := hR H4 hT s5.heap.objs.size
  refine Calls.spliced_nil ?_
  have hba : AllBare s5.gens := by
    rw [M.gs]; exact M.I4.bare.push rfl
  have hlim : s5.heap.NoLimit := M.I4.nolimit.keeps M.kp
  have hcl : cStatics < s5.heap.objs.size := let ⟨_, hns, _⟩ := hlim; hns.lt
  have hSa : s5.heap.objs.size ≠ a := by rw [M.sz]; exact Nat.succ_ne_self _
  refine call_function_tree F.kind_sum F.plain_sum F.entry_sum (F.args_sum1 _) ?_
  unfold Builtin.«sum»
  simp only [List.length_cons, List.length_nil]
  rw [if_neg (by decide)]
  refine wpAny_bind (wpAny_of_eq (show Builtin.Builtins.bindParams "sum" ["start"] 0 { } = pure [none] from rfl) ?_)
  refine wpAny_bind (wpAny_pyIter_gen (M.gen _ M.ob) ?_)
  refine wpAny_bind (wpAny_mkInt ?_)
  refine wpAny_bind (wpAny_pure ?_)
  simp only [List.forIn_cons, List.forIn_nil]
  refine wpAny_bind (wpAny_bind (wpAny_bind (wpAny_isInstance (T := "int") (b := false) (typeIs_int _ _ _) PySem.sub_int_str ?_)))
  simp only [Bool.false_eq_true, if_false]
  refine wpAny_pure (wpAny_bind (wpAny_bind (wpAny_isInstance (T := "int") (b := false) (typeIs_int _ _ _) PySem.sub_int_bytes ?_)))
  simp only [Bool.false_eq_true, if_false]
  refine wpAny_pure (wpAny_bind (wpAny_bind (wpAny_isInstance (T := "int") (b := false) (typeIs_int _ _ _) PySem.sub_int_bytearray ?_)))
  simp only [Bool.false_eq_true, if_false]
  refine wpAny_pure (wpAny_pure ?_)
  refine wpAny_bind (wpAny_newObj_type ?_)
  have hob : (s5.heap.push (sumO (([] : List Int).sum) s5.toks 0)).get? s5.heap.objs.size = some (sumO (([] : List Int).sum) s5.toks 0) := Heap.get?_push_size _ rfl
  have G : GAt X pins σ (takeSum s5.heap.objs.size Q) X.A.in1 a gn n { s5 with heap := s5.heap.push (sumO (([] : List Int).sum) s5.toks 0), toks := s5.toks + 1 } :=
    gat_start (A := X.A.in1) (C := takeSum s5.heap.objs.size Q) (o := sumO (([] : List Int).sum) s5.toks 0) M PP I.ok.frames hr.hd (fun S e => by cases e; exact Nat.le_refl _) rfl hba rfl (fun _ _ e => Heap.get?_push_of_some _ e) ⟨[], _, _, .nil, rfl⟩ (fun p hp => by
      have e : p = (s5.heap.objs.size, sumO (([] : List Int).sum) s5.toks 0) := List.mem_singleton.mp hp
      rw [e]
      exact ⟨hob, fun v z => by cases z⟩) hW ht
  exact wpAny_pure ⟨plainId_quiet F.plain_sum_loop _, sum_loop (A := X.A) (Q := Q) hr.hd hr.depth hSa (Nat.ne_of_gt hcl) (fun i t s H I q => ⟨.int i, H, I, ⟨t, rfl⟩, q⟩) n _ _ G ⟨[], _, _, rfl⟩ hob⟩
end
end Ev

set_option Elab.async false
set_option linter.all false
set_option maxRecDepth 100000
set_option autoImplicit false
/-! Ev: tuple of a generator expression. -/
namespace Ev
open PySem PySem.Spec PyProof.Rows L2
def takeTup (S : Addr) (QT : List V → Hp → Prop) : Taker := ⟨some S, fun us o => ∃ c : Nat, us.length ≤ sizeLine ∧ o = lstObj us.toArray c, fun _ => True, fun ys _ _ _ => ys.length < sizeLine, QT⟩
section
variable {X : Cx} {pins : List (Addr × Obj)} {σ : L2.St} {A : Around} {a gn : Nat} {R : Result → Shared → Prop} {QT : List V → Hp → Prop} {S : Addr} {res : Value}
theorem ext_loop (hh : A.handled = none) (hd : A.depth < recursionLimit) (hSa : S ≠ a) (hSc : S ≠ cStatics)
    (hR : ∀ s ys acc c H, Inv X pins σ H s → s.heap.get? S = some (lstObj acc c) → Vals ys acc.toList → ys.length ≤ sizeLine → QT ys H → R (.ok (.ret res)) s) : ∀ (n : Nat) (s : Shared) (acc : Array Value) (c : Nat), GAt X pins σ (takeTup S QT) A.in1 a gn n s → s.heap.get? S = some (lstObj acc c) → codeAny (model X.prog X.w) A (.builtin "list.extend.loop" ⟨[.ref S, .ref a, res], []⟩) R s := by
  intro n
  induction n using Nat.strongRecOn with
  | _ n ih =>
  intro s acc c G hS
  refine codeAny_builtin F.entry_extend_loop ?_
  rw [Around.under_plainId F.plain_extend_loop _]
  show wpAny _ A.in1 (pyNext (.ref a) >>= _) _ _ s
  have hSo : (takeTup S QT).So = some S := rfl
  have own1 : ∀ {o : Obj} {s' : Shared}, (∀ p ∈ pinsOf (takeTup S QT).So o, s.heap.get? p.1 = some p.2 ∧ s'.heap.get? p.1 = some p.2) → o = lstObj acc c ∧ s'.heap.get? S = some (lstObj acc c) := fun {o s'} own => by
    obtain ⟨h1, h2⟩ := own (S, o) (by rw [hSo]; simp [pinsOf])
    have e : some (lstObj acc c) = some o := hS.symm.trans h1
    cases e
    exact ⟨rfl, h2⟩
  have arr : ∀ {us : List Value} {c2 : Nat}, lstObj acc c = lstObj us.toArray c2 → acc = us.toArray := fun {us c2} e => by
    have := congrArg (fun o : Obj => o.data) e
    simp only [lstObj] at this
    injection this
  refine wpAny_bind (next_gen hh hd (by rw [hSo]; simpa using hSc) (by rw [hSo]; simpa using hSa) G (fun v s' ys y us o H gi => ?_) fun s' ys us o H I vv sk own qe => ?_)
  · obtain ⟨rfl, hS'⟩ := own1 gi.own
    obtain ⟨c2, hle, e2⟩ := gi.sk
    have ea := arr e2
    have hlt : ys.length < sizeLine := gi.yd
    have hl : us.length = ys.length := gi.vals.length.symm
    have hasz : acc.size < sizeLine := by rw [ea, List.size_toArray, hl]; exact hlt
    show wpAny _ A.in1 (updateSeq S (·.push v) >>= _) _ _ _
    refine wpAny_bind ?_
    refine wpAny_updateSeq hS' rfl (wpAny_pure ⟨plainId_quiet F.plain_extend_loop _, ?_⟩) (Nat.le_of_lt hasz) (by show (acc.push v).size ≤ sizeLine + 1; rw [Array.size_push]; omega)
    have hup := Heap.get?_update_self (h := s'.heap) (a := S) (Obj.mapSeq (·.push v)) hS' rfl
    have hup2 : ∃ c3, Obj.mapSeq (·.push v) (lstObj acc c) = lstObj (us ++ [v]).toArray c3 := by
      rw [show (us ++ [v]).toArray = acc.push v by rw [ea]; simp]
      exact ⟨_, rfl⟩
    obtain ⟨c3, e4⟩ := hup2
    rw [e4] at hup
    obtain ⟨m, rfl, G'⟩ := gi.next trivial { s' with heap := s'.heap.update S (Obj.mapSeq (·.push v)) } (lstObj (us ++ [v]).toArray c3) rfl gi.inv.bare rfl (fun b u hb e => (Heap.get?_update_other _ _ (fun h : S = b => hb (by rw [hSo, h]))).trans e) ⟨c3, by rw [List.length_append, hl]; exact hlt, rfl⟩ (fun p hp => by
      rw [hSo] at hp
      rw [List.mem_singleton.mp hp]
      exact ⟨hup, fun v z => by cases z⟩)
    exact ih m (Nat.lt_succ_self m) _ _ c3 G' hup
  · obtain ⟨rfl, hS'⟩ := own1 own
    obtain ⟨c2, hle, e2⟩ := sk
    have ea := arr e2
    exact wpAny_pure (hR s' ys acc c H I hS' (by rw [ea]; simpa using vv) (by rw [vv.length]; exact hle) qe)
end
section
variable {X : Cx} {pins : List (Addr × Obj)} {σ : L2.St} {A : Around} {a gn n m : Nat} {QT : List V → Hp → Prop} {E : Value → Shared → Prop} {H4 : Hp} {s4 s5 : Shared} {elt tg iter : PySem.Expr} {ifs : List PySem.Expr} {scope : Scope} {pos : Pos} {own : List (Str × Nat)} {g : L2.TG} {tt : TT} {te : TE}
  {J : It} {it : Addr} {fp : List Addr} {tn : Nat → Heap → Prop} {cenv : PySem.Env} {go : Obj}
theorem collect_gen {Q : List Value → Shared → Prop} (M : Made X pins σ elt tg iter ifs scope pos own s4 H4 J it fp tn cenv a gn go s5) (PP : Parts X A.in1.in1 elt tg iter ifs scope own g tt te) (hfr : A.frames = some X.stack) (hh : A.handled = none) (hd : A.depth < recursionLimit)
    (hW : ∀ S, ∃ Wt m n, Wt 0 m [] n H4 ∧ Turns (takeTup S QT) σ (own.map (·.2)) g tt te J Wt)
    (hQ : ∀ s' ys (acc : Array Value) H, Inv X pins σ H s' → Vals ys acc.toList → ys.length ≤ sizeLine → QT ys H → Q acc.toList s') : wpAny (model X.prog X.w) A (collect (.ref a)) Q E s5 := by
  obtain ⟨Wt, m, n, hW, ht⟩ := hW s5.heap.objs.size
  have hba : AllBare s5.gens := by
    rw [M.gs]; exact M.I4.bare.push rfl
  have hlim : s5.heap.NoLimit := M.I4.nolimit.keeps M.kp
  have hcl : cStatics < s5.heap.objs.size := let ⟨_, hns, _⟩ := hlim; hns.lt
  have hSa : s5.heap.objs.size ≠ a := by rw [M.sz]; exact Nat.succ_ne_self _
  have hT : ∀ s : Shared, s.heap.get? a = some go → s.TypeIs (.ref a) "generator" := fun s e => (M.gen s.heap e).typeIs
  unfold collect
  refine wpAny_bind (wpAny_runValue (codeAny_builtin F.entry_proto_collect ?_))
  rw [Around.under_plainId F.plain_proto_collect _]
  show wpAny _ A.in1 (newList [] >>= fun l => again (.builtin "list.__iadd__" ⟨[l, .ref a], []⟩)) _ _ s5
  refine wpAny_bind (wpAny_newObj_type ?_)
  refine wpAny_pure ⟨plainId_quiet F.plain_list_iadd _, codeAny_builtin F.entry_list_iadd ?_⟩
  rw [Around.under_plainId F.plain_list_iadd _]
  have ga1 : (s5.heap.push { cls := .type "list", data := .seq ([] : List Value).toArray }).get? a = some go := Heap.get?_push_of_some _ M.ob
  show wpAny _ A.in1 (Builtin.List.listExtendWith (.ref s5.heap.objs.size) (.ref a) (.ref s5.heap.objs.size)) _ _ _
  unfold Builtin.List.listExtendWith
  refine wpAny_bind (wpAny_typeOf (hT _ ga1) ?_)
  have h1 : Builtin.List.listSameRef (.ref s5.heap.objs.size) (.ref a) = false := by simp [Builtin.List.listSameRef, hSa]
  have h2 : (Value.type "generator" == Value.type "list") = false := by decide
  have h3 : (Value.type "generator" == Value.type "tuple") = false := by decide
  simp only [h1, h2, h3, Bool.or_false, Bool.false_eq_true, if_false]
  refine wpAny_bind (wpAny_pyIter_gen (M.gen _ ga1) ?_)
  refine wpAny_bind (wpAny_holding ?_)
  unfold Builtin.List.listLengthHint
  refine wpAny_bind (wpAny_specialOf (hT _ ga1) F.gen_no_len ?_)
  show wpAny _ A.in1 (specialOf (Value.ref a) (Str.ofString "__length_hint__") >>= _) _ _ _
  refine wpAny_bind (wpAny_specialOf (hT _ ga1) F.gen_no_hint ?_)
  refine wpAny_pure ?_
  show wpAny _ A.in1 (rule "list.extend.makes-room" >>= fun _ => Builtin.List.listTouch (.ref s5.heap.objs.size) >>= fun _ =>
    again (.builtin "list.extend.loop" ⟨[.ref s5.heap.objs.size, .ref a, .ref s5.heap.objs.size], []⟩)) _ _ _
  refine wpAny_bind (wpAny_rule ?_)
  have hS₁ : (s5.heap.push { cls := .type "list", data := .seq ([] : List Value).toArray }).get? s5.heap.objs.size = some { cls := .type "list", data := .seq ([] : List Value).toArray } := Heap.get?_push_size _ rfl
  refine wpAny_bind ?_
  show wpAny _ A.in1 (updateSeq s5.heap.objs.size (·.push .none) >>= fun _ => updateSeq s5.heap.objs.size (·.pop)) _ _ _
  refine wpAny_bind (wpAny_updateSeq hS₁ rfl ?_)
  have hS₂ := Heap.get?_update_self (Obj.mapSeq (·.push Value.none)) hS₁ rfl
  refine wpAny_updateSeq hS₂ rfl ?_
  have hS₃ := Heap.get?_update_self (Obj.mapSeq (·.pop)) hS₂ rfl
  have oth : ∀ b o, b ≠ s5.heap.objs.size → (s5.heap.push { cls := .type "list", data := .seq ([] : List Value).toArray }).get? b = some o →
      (((s5.heap.push { cls := .type "list", data := .seq ([] : List Value).toArray }).update s5.heap.objs.size (Obj.mapSeq (·.push Value.none))).update s5.heap.objs.size (Obj.mapSeq (·.pop))).get? b = some o :=
    fun b o hb e => (Heap.get?_update_other _ _ (Ne.symm hb)).trans ((Heap.get?_update_other _ _ (Ne.symm hb)).trans e)
  have hob : ∃ c0, (Obj.mapSeq (·.pop) (Obj.mapSeq (·.push Value.none) { cls := .type "list", data := .seq ([] : List Value).toArray })) = lstObj #[] c0 := ⟨_, rfl⟩
  obtain ⟨c0, e0⟩ := hob
  rw [e0] at hS₃
  have kp5 : ∀ b u, s5.heap.get? b = some u → (((s5.heap.push { cls := .type "list", data := .seq ([] : List Value).toArray }).update s5.heap.objs.size (Obj.mapSeq (·.push Value.none))).update s5.heap.objs.size (Obj.mapSeq (·.pop))).get? b = some u := fun b u e =>
    oth b u (fun z => absurd (Heap.lt_size e) (by rw [z]; exact Nat.lt_irrefl _)) (Heap.get?_push_of_some _ e)
  have G : GAt X pins σ (takeTup s5.heap.objs.size QT) A.in1 a gn n { s5 with heap := ((s5.heap.push { cls := .type "list", data := .seq ([] : List Value).toArray }).update s5.heap.objs.size (Obj.mapSeq (·.push Value.none))).update s5.heap.objs.size (Obj.mapSeq (·.pop)) } :=
    gat_start (A := A.in1) (C := takeTup s5.heap.objs.size QT) (o := lstObj #[] c0) M PP hfr hh (fun S e => by cases e; exact Nat.le_refl _) rfl hba rfl kp5 ⟨c0, Nat.zero_le _, rfl⟩ (fun p hp => by
      have e : p = (s5.heap.objs.size, lstObj #[] c0) := List.mem_singleton.mp hp
      rw [e]
      exact ⟨hS₃, fun v z => by cases z⟩) hW ht
  refine wpAny_pure ⟨plainId_quiet F.plain_extend_loop _, ext_loop (A := A) (QT := QT) hh hd hSa (Nat.ne_of_gt hcl) (fun s' ys acc c H I hS' vv hle q => ?_) n _ #[] c0 G hS₃⟩
  show wpAny _ A (load s5.heap.objs.size >>= _) _ _ s'
  refine wpAny_bind (wpAny_load hS' ?_)
  exact wpAny_pure (hQ s' ys acc H I vv hle q)
theorem code_tuple_gen {Q₁ : Value → Shared → Prop} (M : Made X pins σ elt tg iter ifs scope pos own s4 H4 J it fp tn cenv a gn go s5) (PP : Parts X A.in1.in1.in1 elt tg iter ifs scope own g tt te) (hfr : A.frames = some X.stack) (hh : A.handled = none) (hd : A.depth < recursionLimit)
    (hW : ∀ S, ∃ Wt m n, Wt 0 m [] n H4 ∧ Turns (takeTup S QT) σ (own.map (·.2)) g tt te J Wt)
    (h : ∀ s' ys (acc : Array Value) H, Inv X pins σ H s' → Vals ys acc.toList → ys.length ≤ sizeLine → QT ys H → Q₁ (.ref s'.heap.objs.size) { s' with heap := s'.heap.push { cls := .type "tuple", data := .seq acc } }) :
    codeAny (model X.prog X.w) A (.call (.builtin "tuple.__new__") ⟨[.type "tuple", .ref a], []⟩) (wants Q₁ E) s5 := by
  refine codeAny_of_tree ?_
  show wpAny _ A.in1 (do checkBuiltinCall "tuple.__new__" ⟨[.type "tuple", .ref a], []⟩; again (.builtin "tuple.__new__" ⟨[.type "tuple", .ref a], []⟩)) _ _ s5
  refine wpAny_bind (wpAny_of_eq (F.newCall_tuple_1 _) (wpAny_pure ⟨plainId_quiet F.plain_tuple_new _, codeAny_builtin F.entry_tuple_new ?_⟩))
  rw [Around.under_plainId F.plain_tuple_new _]
  have hsub := PySem.sub_tuple_self
  have hinit := PySem.init_tuple_lookup
  have hmh := PySem.madeHere_tuple
  have hTI : s5.TypeIs (.ref a) "generator" := (M.gen s5.heap M.ob).typeIs
  wp_walk using wpAny_typeOf hTI, collect_gen (A := A.in1) M PP hfr hh hd hW
  intro s' ys acc H I vv hle q
  show wpAny _ _ (Builtin.Tuple.tupleExact acc.toList.toArray >>= fun v => ret v) _ _ _
  unfold Builtin.Tuple.tupleExact
  refine wpAny_bind (wpAny_newObj_type ?_ (by show acc.toList.toArray.size ≤ sizeLine; rw [List.size_toArray, ← vv.length]; exact hle))
  refine wpAny_pure ?_
  have e : acc.toList.toArray = acc := by simp
  rw [e]
  exact h s' ys acc H I vv hle q
end
section
variable {X : Cx} {k : Nat} {c P : Addr} {elt tg iter : PySem.Expr} {ifs : List PySem.Expr} {scope : Scope} {own : List (Str × Nat)} {gpos p pos : Pos} {wi : TI} {g : L2.TG} {tt : TT} {te : TE}
theorem pe_genTup (hr : Room k X.A) (hg : Gl X "tuple") (hm : X.mg "tuple" = none) (hb : bootBuiltins "tuple" = some (.type "tuple")) (TB : GxR.TabB X.base X.mg c P) (hcode : X.env.code = .ref c) (hi : PI X tg iter wi)
    (PP : Parts X X.A.in1.in1.in1.in1 elt tg iter ifs scope own g tt te) :
    PE X (.Call (.Name "tuple" p) [.GeneratorExp elt [⟨tg, iter, ifs, 0⟩] scope gpos] [] pos) (fun σ H Q => wi σ H fun J H1 => GxR.TabG H1 P ∧ ∀ H4, GxR.Tabbed P H1 H4 → ∀ S, ∃ Wt m n, Wt 0 m [] n H4 ∧ Turns (takeTup S fun ys H => ∀ p, H p = none → Q (.ref p) (upd H p (.tup ys))) σ (own.map (·.2)) g tt te J Wt) := by
  refine ⟨fun pins s σ H Q I h => ?_⟩
  have he : starEach [.GeneratorExp elt [⟨tg, iter, ifs, 0⟩] scope gpos] X.env = (false, eval (.GeneratorExp elt [⟨tg, iter, ifs, 0⟩] scope gpos) X.env) :: starEach [] X.env := by rfl
  refine wpAny_Call_Name_kw (ld_blt I hg hm hb ?_)
  refine PyProof.Rows.callWith_type1 ?_ he (by rfl)
  rw [he]
  show wpAny _ _ (spliced ((false, eval (.GeneratorExp elt [⟨tg, iter, ifs, 0⟩] scope gpos) X.env) :: backTo pos (starEach [] X.env))) _ _ s
  refine Calls.spliced_cons (gen_made (R := fun J H1 => ∀ H4, GxR.Tabbed P H1 H4 → ∀ S : Addr, ∃ (Wt : Nat → Nat → List V → Nat → Hp → Prop) (m n : Nat), Wt 0 m [] n H4 ∧ Turns (takeTup S fun ys H => ∀ p, H p = none → Q (.ref p) (upd H p (.tup ys))) σ (own.map (fun q : Str × Nat => q.2)) g tt te J Wt) hr TB hcode PP.co PP.cell PP.dot PP.blk hi PP.fold I h fun J H2 H4 it fp tn s4 cenv a gn go s5 hR hT M => ?_)
  refine Calls.spliced_nil ?_
  refine callType_codes (Q₁ := fun obj s₁ => s₁.TypeIs obj "tuple" ∧ EP X pins σ Q obj s₁) F.called_tuple (F.typeCall_tuple_1 _) F.entry_object_init
    (code_tuple_gen (A := X.A.in1) M PP I.ok.frames hr.hd hr.depth (hR H4 hT) fun s' ys acc H I vv hle q => ⟨⟨_, Heap.get?_push_size _ rfl, rfl⟩, ?_⟩) fun obj s₁ h₁ => ?_
  · have hf : H s'.heap.objs.size = none := I.hok.fresh (Nat.le_refl _)
    refine ⟨.ref s'.heap.objs.size, upd H s'.heap.objs.size (.tup ys), I.laid (t' := s'.toks) (fun b u e => Heap.get?_push_of_some _ e) (Nat.le_refl _) ?_, rfl, q _ hf⟩
    exact ⟨hle, acc.toList, vv, ⟨_, Heap.get?_push_size _ rfl, rfl, 0, by simp⟩⟩
  · exact ⟨h₁.1, F.args_object_init_2 obj _, object_init_meets F.called_tuple.init.lookup F.called_tuple.made (by decide) X.prog X.w X.A.in1 _ s₁ ⟨h₁.1, rfl, h₁.2⟩⟩
end
end Ev

set_option Elab.async false
set_option linter.all false
set_option maxRecDepth 100000
set_option autoImplicit false
/-! Ev: generator expressions. -/
namespace Ev
open PySem PySem.Spec PyProof.Rows L2
/-- the room, the running def's table -/
structure GenOk (W : Wd) (k : Nat) (X : Cx) : Prop where
  room : Room (k + 4) X.A
  tb : ∃ c P, X.env.code = .ref c ∧ GxR.TabB X.base X.mg c P ∧ P ∈ W.T
theorem Grow.tab {ph : List Addr} {H H' : Hp} {P : Addr} (h : GxR.TabG H P) (t : GxR.Tabbed P H H') : Grow ph H ph H' := by
  obtain ⟨ps, hP, _⟩ := h
  obtain ⟨⟨ps', hP', _⟩, ht⟩ := t
  refine ⟨⟨[], by simp⟩, fun a ha => .inl ha, fun a o e _ hn => ?_, fun a xs e => ?_, fun a o u e => ?_, fun a qs e => ?_⟩
  · by_cases z : a = P
    · subst z; rw [hP] at e; cases e; exact absurd rfl (hn _)
    · rw [ht a z]; exact e
  · by_cases z : a = P
    · subst z; rw [hP] at e; cases e
    · rw [ht a z]; exact e
  · by_cases z : a = P
    · subst z; rw [hP] at e; cases e
    · rw [ht a z]; exact e
  · by_cases z : a = P
    · subst z; exact ⟨ps', hP'⟩
    · exact ⟨qs, by rw [ht a z]; exact e⟩
section
variable {W : Wd} {call : Call} {N : List Str} {k : Nat} {sc : Scope} {X : Cx} {Wx : WX}
theorem Rep.tab {ph : List Addr} {m : Store} {H H' : Hp} {P : Addr} (r : Rep W ph m H) (h : GxR.TabG H P) (t : GxR.Tabbed P H H') : Rep W ph m H' := by
  have g := Grow.tab (ph := ph) h t
  obtain ⟨ps, hP, hT⟩ := h
  refine ⟨r.len, r.nd, fun n a c e1 e2 => (r.cell n a c e1 e2).grow g fun o e => ?_, fun Q hQ => ?_, fun a ha => ?_, r.dj⟩
  · by_cases z : a = P
    · subst z
      have q := r.cell n a c e1 e2
      rw [hP] at e; cases e
      cases c with
      | lst xs => obtain ⟨vs, q, _⟩ := q; rw [hP] at q; cases q
      | ins c ks xs => obtain ⟨dx, vs, q, _⟩ := q; rw [hP] at q; cases q
      | dic ks xs => obtain ⟨vs, q, _⟩ := q; rw [hP] at q; cases q
    · rw [t.2 a z]; exact e
  · by_cases z : Q = P
    · subst z; exact t.1
    · obtain ⟨qs, e, tt⟩ := r.tabs Q hQ
      exact ⟨qs, by rw [t.2 Q z]; exact e, tt⟩
  · obtain ⟨o, e⟩ := r.hdl a ha
    by_cases z : a = P
    · subst z
      obtain ⟨qs, q, _⟩ := t.1
      exact ⟨_, q⟩
    · exact ⟨o, by rw [t.2 a z]; exact e⟩
/-- the context of a generator expression's frame -/
theorem Gd.gen (g : Gd W call N k sc false Wx X) (go : GenOk W k X) (hd : List Addr) {A' : Around} {scope : Scope} {s : Shared} {H : Hp} {C : Addr} {code : Value} {fp : List Addr} (hA : A' = X.A.in1.in1 ∨ A' = X.A.in1.in1.in1.in1) :
    Gd { W with hd := hd } call N k scope false W0 (gcx X A' s H (genEnv scope (cloFrom X.env.cells scope.names []) C code builtinsNs X.env) fp) where
  lib := g.lib.hide hd
  eK := g.eK
  eN := g.eN
  nd := g.nd
  eS := rfl
  hu := by
    have := go.room.un
    rcases hA with rfl | rfl
    · show X.A.units + 1 + 1 + 3 + 65 < cLine
      omega
    · show X.A.units + 1 + 1 + 1 + 1 + 3 + 65 < cLine
      omega
  gu := by
    rcases hA with rfl | rfl
    · exact g.gu
    · exact g.gu
  tk := takes_none5
  calm := g.calm
  room := fun _ => by
    obtain ⟨h1, h2, h3⟩ := go.room
    rcases hA with rfl | rfl
    · exact ⟨h1, by show X.A.depth + 1 + 3 * (k + 2) + 5 < _; omega, by show X.A.units + 1 + 1 + 3 + 16 * (k + 2) + 200 < _; omega⟩
    · exact ⟨h1, by show X.A.depth + 1 + 3 * (k + 2) + 5 < _; omega, by show X.A.units + 1 + 1 + 1 + 1 + 3 + 16 * (k + 2) + 200 < _; omega⟩
theorem wr_gen {A' : Around} {scope : Scope} {s : Shared} {H : Hp} {C : Addr} {code : Value} {fp : List Addr} (hcell : ∀ y ∈ scope.names, y.2 ≠ .cell) : WrOk (gcx X A' s H (genEnv scope (cloFrom X.env.cells scope.names []) C code builtinsNs X.env) fp) scope := by
  intro x h
  unfold locB at h
  cases q : scope.names.lookup x with
  | none => rw [q] at h; cases h
  | some kd =>
    rw [q] at h
    cases kd <;> try cases h
    · exact ⟨.inl q, .inr q⟩
    · exact absurd rfl (hcell _ (PySem.mem_of_lookup q))
/-- a generator expression's turns: AR, the evaluator's state against the taker's -/
theorem gen_turns {kc : Con} {tg : TG} {cs : MEs} {el : ME} {σ : L2.St} {e : Env} {Q : VK} {E : XK} {J : It} {xs : List Val} {live : Live} {ph1 : List Addr} {H1 H4 : Hp} {s : Store} {C : Taker} {AR : Val → List V → List Addr → Hp → Prop}
    (hs : RS W none ph1 H4 e σ) (hr : Rep W ph1 s H4) (g4 : Grow ph1 H1 ph1 H4) (hJ : ItW W ph1 H1 J xs live)
    (hmono : ∀ acc ys ph H ph' H', AR acc ys ph H → Grow ph H ph' H' → AR acc ys ph' H')
    (hstep : ∀ r acc ys v u n ph H, Grow ph1 H1 ph H → Rep W ph s H → AR acc ys ph H → VR W ph H v u → PR W ph1 H1 (QV W Q) E (conNext kc acc s (genL kc (stepE W.G call tg cs el e) live s r) (some v)) → C.Yd ys u n H ∧ (C.Go u → ∃ a, conStep kc acc v = some (.inl a) ∧ AR a (ys ++ [u]) ph H))
    (hend : ∀ acc ys ph H, Grow ph1 H1 ph H → Rep W ph s H → AR acc ys ph H → PR W ph1 H1 (QV W Q) E (R.ofO (conEnd kc acc) s) → C.Qe ys H)
    (h0 : AR (conBeg kc) [] ph1 H4) (q : PR W ph1 H1 (QV W Q) E (genL kc (stepE W.G call tg cs el e) live s xs (conBeg kc))) :
    ∃ Wt m n, Wt 0 m [] n H4 ∧ Turns C σ (tgS tg) (gEvA W tg) (tCA W call cs) (tEvA W call el) J Wt := by
  refine ⟨fun i mm ys n H => mm = xs.length - i ∧ i ≤ xs.length ∧ xs.length - i ≤ n ∧ ∃ (ph : List Addr) (acc : Val), Grow ph1 H1 ph H ∧ Rep W ph s H ∧ RS W none ph H e σ ∧ AR acc ys ph H ∧ PR W ph1 H1 (QV W Q) E (genL kc (stepE W.G call tg cs el e) live s (xs.drop i) acc),
    xs.length, xs.length, ⟨rfl, Nat.zero_le _, Nat.le_refl _, ph1, _, g4, hr, hs, h0, q⟩, ?_⟩
  intro i mm ys n H ⟨hm, hi, hn, ph, acc, gw, rep, rs, ar, q⟩
  have hst : stands s live := by
    cases hx : xs.drop i with
    | nil =>
      rw [hx] at q
      unfold genL at q
      split at q
      · assumption
      · exact q.elim
    | cons y r =>
      rw [hx] at q
      unfold genL at q
      split at q
      · assumption
      · exact q.elim
  obtain ⟨hit, hstop⟩ := hJ W.hd ph H s (Later.of gw) rep hst
  rcases Nat.lt_or_eq_of_le hi with hlt | heq
  · right
    have hx : xs[i]? = some xs[i] := List.getElem?_eq_getElem hlt
    obtain ⟨hgo, hy⟩ := hit i _ hx
    rw [List.drop_eq_getElem_cons hlt] at q
    refine ⟨hgo, fun x' H2 hyld => ?_⟩
    obtain ⟨g2, rep2, vr2⟩ := hy x' H2 hyld
    unfold genL at q
    simp only [hst, if_true] at q
    have q := PR.fst q
    unfold stepE at q
    cases ha : asg tg xs[i] (wipeE e (tgS tg)) with
    | none => simp only [ha] at q; exact q.elim
    | some e1 =>
      simp only [ha] at q
      refine ⟨W.hd, wipeE e (tgS tg), ph, s, _, e1, (rs.grow rep g2).wipe _, rep2, vr2, ha, fun σ2 rs2 hw => ⟨by rw [hw, wipe_wipe fun _ z => z], ?_⟩⟩
      have q := PR.pure (W2 := W) (ph2 := ph) (H2 := H2) (E2 := fun c d H' => W0 c d σ2 H') q
      refine ⟨W.hd, tEvC_of rs2 rep2 (PR.mo moC) (PR.fst q) fun b s3 ph3 H3 g3 rep3 rs3 q3 => ?_⟩
      have back : RS W none ph3 H3 e σ := rs.grow rep (g2.trans g3)
      cases b with
      | false =>
        have q3 : PR W ph1 H1 (QV W Q) E (open Classical in if s3 = s then conNext kc acc s (genL kc (stepE W.G call tg cs el e) live s (xs.drop (i + 1))) none else .stk) := q3
        split at q3
        · rename_i es
          subst es
          exact ite_ff ⟨xs.length - (i + 1), by omega, rfl, hlt, by omega, ph3, acc, gw.trans (g2.trans g3), rep3, back, hmono _ _ _ _ _ _ ar (g2.trans g3), q3⟩
        · exact q3.elim
      | true =>
        refine ite_tt ⟨W.hd, ?_⟩
        have q3 : PR W ph3 H3 (fun o s1 _ _ => PR W ph1 H1 (QV W Q) E (open Classical in if s1 = s then conNext kc acc s (genL kc (stepE W.G call tg cs el e) live s (xs.drop (i + 1))) o else .stk)) (fun c d H' => W0 c d σ2 H') ((ev W.G call el e1 s3).bind fun v s4 => .ok (some v) s4) := q3
        refine tEv_of rs3 rep3 (PR.mo moC) (PR.fst q3) fun v s5 ph5 H5 u g5 rep5 v5 rs5 q5 => ?_
        have q5 : PR W ph1 H1 (QV W Q) E (open Classical in if s5 = s then conNext kc acc s (genL kc (stepE W.G call tg cs el e) live s (xs.drop (i + 1))) (some v) else .stk) := q5
        have g6 := (g2.trans g3).trans g5
        split at q5
        · rename_i es
          subst es
          obtain ⟨n', en⟩ : ∃ n', n = n' + 1 := ⟨n - 1, by omega⟩
          obtain ⟨yd, hgoo⟩ := hstep (xs.drop (i + 1)) acc ys v u n' ph5 H5 (gw.trans g6) rep5 (hmono _ _ _ _ _ _ ar g6) v5 q5
          refine ⟨n', en, yd, fun hG => ?_⟩
          obtain ⟨a, ea, ar'⟩ := hgoo hG
          refine ⟨xs.length - (i + 1), by omega, rfl, hlt, by omega, ph5, a, gw.trans g6, rep5, rs.grow rep g6, ar', ?_⟩
          have q5 : PR W ph1 H1 (QV W Q) E (match conStep kc acc v with
            | some (.inl a) => genL kc (stepE W.G call tg cs el e) live s5 (xs.drop (i + 1)) a
            | some (.inr w) => .ok w s5
            | none => .stk) := q5
          rw [ea] at q5
          exact q5
        · exact q5.elim
  · left
    refine ⟨by rw [heq]; exact hstop, ?_⟩
    rw [heq, List.drop_length] at q
    unfold genL at q
    simp only [hst, if_true] at q
    exact hend acc ys ph H gw rep ar q
end
end Ev

set_option Elab.async false
set_option linter.all false
set_option maxRecDepth 100000
set_option autoImplicit false
/-! Ev: generator expressions and who takes their items. -/
namespace Ev
open PySem PySem.Spec PyProof.Rows L2
theorem ev_gen {G : Prog} {call : Call} {kc : Con} {tg : TG} {it : IT} {cs : MEs} {el : ME} {e : Env} {s : Store} : ev G call (.gen kc tg it cs el) e s = (evI G call it e s).bind fun p s1 => genL kc (stepE G call tg cs el e) p.2 s1 p.1 (conBeg kc) := by
  rw [ev] <;> rfl
theorem gfold_of {e : PySem.Expr} {env : PySem.Env} (h : setB e = true) (h2 : notList e = true) : ∀ x, genFold e env x = pure x := by
  intro x
  cases e <;> first | rfl | (simp [setB] at h; done) | (simp [notList] at h2; done)
section
variable {W : Wd} {call : Call} {N : List Str} {k : Nat} {sc : Scope} {X : Cx} {Wx : WX} {x : Str} {p gpos pos : Pos}
theorem gparts (g : Gd W call N k sc false Wx X) (go : GenOk W k X) {A' : Around} (hA : A' = X.A.in1.in1 ∨ A' = X.A.in1.in1.in1.in1) {tg : TG} {cs : MEs} {el : ME} {elt t i : PySem.Expr} {fs : List PySem.Expr} {scope : Scope} (hsb : setB i = true) (hnl : notList i = true)
    (hb : blkC N sc scope (ownOf N (tgS tg)) = true) (hgb : genB scope = true) (ht : matTG N scope tg t = true)
    (hc : ∀ hd X', Gd { W with hd := hd } call N k scope false W0 X' → PTs X' fs (tEvC { W with hd := hd } none call cs W0)) (he : ∀ hd X', Gd { W with hd := hd } call N k scope false W0 X' → Pe { W with hd := hd } none call W0 X' el elt) :
    Parts X A' elt t i fs scope (ownOf N (tgS tg)) (gEvA W tg) (tCA W call cs) (tEvA W call el) := by
  unfold genB at hgb
  obtain ⟨h1, h2⟩ := ba hgb
  obtain ⟨h2, h3⟩ := ba h2
  have hcell : ∀ y ∈ scope.names, y.2 ≠ .cell := fun y hy z => by
    have := List.all_eq_true.mp h2 y hy
    rw [z] at this; cases this
  refine ⟨by rw [g.eN]; exact g.nd, g.calm rfl, by simpa using h1, hcell, of_decide_eq_true h3, by rw [g.eN, g.eS]; exact blkOk_by hb, gfold_of hsb hnl,
    fun s H C code fp => pg_any fun hd => pg_tg (W := { W with hd := hd }) (g.gen go hd hA).eN g.nd (g.gen go hd hA).eK (g.calm rfl) (wr_gen hcell) ht,
    fun s H C code fp => pts_any fun hd => hc hd _ (g.gen go hd hA), fun s H C code fp => pe_any fun hd => he hd _ (g.gen go hd hA)⟩
theorem se_genAll (g : Gd W call N k sc false Wx X) (go : GenOk W k X) {tg : TG} {it : IT} {cs : MEs} {el : ME} {elt t i : PySem.Expr} {fs : List PySem.Expr} {scope : Scope} (hx : x = ("all" : Str)) (hgl : glB sc x = true) (hi : PI X t i (iEv W none call it Wx)) (hsb : setB i = true) (hnl : notList i = true)
    (hb : blkC N sc scope (ownOf N (tgS tg)) = true) (hgb : genB scope = true) (ht : matTG N scope tg t = true)
    (hc : ∀ hd X', Gd { W with hd := hd } call N k scope false W0 X' → PTs X' fs (tEvC { W with hd := hd } none call cs W0)) (he : ∀ hd X', Gd { W with hd := hd } call N k scope false W0 X' → Pe { W with hd := hd } none call W0 X' el elt) :
    Pe W none call Wx X (.gen .all tg it cs el) (.Call (.Name x p) [.GeneratorExp elt [⟨t, i, fs, 0⟩] scope gpos] [] pos) := by
  subst hx
  obtain ⟨c, P, hcode, TB, hP⟩ := go.tb
  refine PE.imp (pe_genAll (P := P) go.room (gl_of g hgl) (g.lib.free _ (by decide)) (by kernel_rfl) TB hcode hi (gparts g go (.inl rfl) hsb hnl hb hgb ht hc he)) fun σ H Q ⟨e, ph, s, hs, hr, q⟩ => ?_
  rw [own_snd]
  rw [ev_gen] at q
  refine ⟨e, ph, s, hs, hr, PR.imp (fun pp s1 q1 ph1 H1 g1 r1 J hJ => ⟨r1.tabs P hP, fun H4 hT => ?_⟩) (PR.fst q)⟩
  have g4 := Grow.tab (ph := ph1) (r1.tabs P hP) hT
  refine gen_turns (AR := fun acc _ _ _ => acc = .non) ((hs.grow hr g1).grow r1 g4) (r1.tab (r1.tabs P hP) hT) g4 hJ (fun _ _ _ _ _ _ h _ => h) (fun r acc ys v u n ph H gw rep ha vr q => ?_) (fun acc ys ph H gw rep ha q => ?_) rfl (PR.grow QV.mo g1 q1)
  · subst ha
    cases v with
    | bl b =>
      cases vr
      refine ⟨⟨b, rfl, fun hb => ?_⟩, fun hu => ?_⟩
      · subst hb
        exact (show QV W Q (.bl false) s1 ph1 H1 from q) ph H (.bl false) gw rep (.bl false)
      · cases hu
        exact ⟨.non, rfl, rfl⟩
    | _ => exact q.elim
  · exact (show QV W Q (.bl true) s1 ph1 H1 from q) ph H (.bl true) gw rep (.bl true)
theorem se_genAny (g : Gd W call N k sc false Wx X) (go : GenOk W k X) {tg : TG} {it : IT} {cs : MEs} {el : ME} {elt t i : PySem.Expr} {fs : List PySem.Expr} {scope : Scope} (hx : x = ("any" : Str)) (hgl : glB sc x = true) (hi : PI X t i (iEv W none call it Wx)) (hsb : setB i = true) (hnl : notList i = true)
    (hb : blkC N sc scope (ownOf N (tgS tg)) = true) (hgb : genB scope = true) (ht : matTG N scope tg t = true)
    (hc : ∀ hd X', Gd { W with hd := hd } call N k scope false W0 X' → PTs X' fs (tEvC { W with hd := hd } none call cs W0)) (he : ∀ hd X', Gd { W with hd := hd } call N k scope false W0 X' → Pe { W with hd := hd } none call W0 X' el elt) :
    Pe W none call Wx X (.gen .any tg it cs el) (.Call (.Name x p) [.GeneratorExp elt [⟨t, i, fs, 0⟩] scope gpos] [] pos) := by
  subst hx
  obtain ⟨c, P, hcode, TB, hP⟩ := go.tb
  refine PE.imp (pe_genAny (P := P) go.room (gl_of g hgl) (g.lib.free _ (by decide)) (by kernel_rfl) TB hcode hi (gparts g go (.inl rfl) hsb hnl hb hgb ht hc he)) fun σ H Q ⟨e, ph, s, hs, hr, q⟩ => ?_
  rw [own_snd]
  rw [ev_gen] at q
  refine ⟨e, ph, s, hs, hr, PR.imp (fun pp s1 q1 ph1 H1 g1 r1 J hJ => ⟨r1.tabs P hP, fun H4 hT => ?_⟩) (PR.fst q)⟩
  have g4 := Grow.tab (ph := ph1) (r1.tabs P hP) hT
  refine gen_turns (AR := fun acc _ _ _ => acc = .non) ((hs.grow hr g1).grow r1 g4) (r1.tab (r1.tabs P hP) hT) g4 hJ (fun _ _ _ _ _ _ h _ => h) (fun r acc ys v u n ph H gw rep ha vr q => ?_) (fun acc ys ph H gw rep ha q => ?_) rfl (PR.grow QV.mo g1 q1)
  · subst ha
    cases v with
    | bl b =>
      cases vr
      refine ⟨⟨b, rfl, fun hb => ?_⟩, fun hu => ?_⟩
      · subst hb
        exact (show QV W Q (.bl true) s1 ph1 H1 from q) ph H (.bl true) gw rep (.bl true)
      · cases hu
        exact ⟨.non, rfl, rfl⟩
    | _ => exact q.elim
  · exact (show QV W Q (.bl false) s1 ph1 H1 from q) ph H (.bl false) gw rep (.bl false)
theorem se_genSum (g : Gd W call N k sc false Wx X) (go : GenOk W k X) {tg : TG} {it : IT} {cs : MEs} {el : ME} {elt t i : PySem.Expr} {fs : List PySem.Expr} {scope : Scope} (hx : x = ("sum" : Str)) (hgl : glB sc x = true) (hi : PI X t i (iEv W none call it Wx)) (hsb : setB i = true) (hnl : notList i = true)
    (hb : blkC N sc scope (ownOf N (tgS tg)) = true) (hgb : genB scope = true) (ht : matTG N scope tg t = true)
    (hc : ∀ hd X', Gd { W with hd := hd } call N k scope false W0 X' → PTs X' fs (tEvC { W with hd := hd } none call cs W0)) (he : ∀ hd X', Gd { W with hd := hd } call N k scope false W0 X' → Pe { W with hd := hd } none call W0 X' el elt) :
    Pe W none call Wx X (.gen .sum tg it cs el) (.Call (.Name x p) [.GeneratorExp elt [⟨t, i, fs, 0⟩] scope gpos] [] pos) := by
  subst hx
  obtain ⟨c, P, hcode, TB, hP⟩ := go.tb
  refine PE.imp (pe_genSum (P := P) go.room (gl_of g hgl) (g.lib.free _ (by decide)) (by kernel_rfl) TB hcode hi (gparts g go (.inl rfl) hsb hnl hb hgb ht hc he)) fun σ H Q ⟨e, ph, s, hs, hr, q⟩ => ?_
  rw [own_snd]
  rw [ev_gen] at q
  refine ⟨e, ph, s, hs, hr, PR.imp (fun pp s1 q1 ph1 H1 g1 r1 J hJ => ⟨r1.tabs P hP, fun H4 hT S => ?_⟩) (PR.fst q)⟩
  have g4 := Grow.tab (ph := ph1) (r1.tabs P hP) hT
  refine gen_turns (AR := fun acc ys _ _ => ∃ ns : List Int, ys = ns.map V.int ∧ acc = .int ns.sum) ((hs.grow hr g1).grow r1 g4) (r1.tab (r1.tabs P hP) hT) g4 hJ (fun _ _ _ _ _ _ h _ => h) (fun r acc ys v u n ph H gw rep ha vr q => ?_) (fun acc ys ph H gw rep ha q => ?_) ⟨[], rfl, rfl⟩ (PR.grow QV.mo g1 q1)
  · obtain ⟨ns, rfl, rfl⟩ := ha
    cases v with
    | int j =>
      cases vr
      have q : PR W ph1 H1 (QV W Q) _ (match (if -(2 ^ 63) ≤ j ∧ j < 2 ^ 63 ∧ -(2 ^ 63) ≤ ns.sum + j ∧ ns.sum + j < 2 ^ 63 then some (Sum.inl (Val.int (ns.sum + j))) else (none : Option (Val ⊕ Val))) with
        | some (.inl a) => _
        | some (.inr w) => .ok w s1
        | none => .stk) := q
      split at q
      · rename_i hcond
        split at hcond
        · rename_i hb
          refine ⟨⟨ns, j, rfl, rfl, ⟨hb.1, hb.2.1⟩, hb.2.2⟩, fun _ => ⟨.int (ns.sum + j), ?_, ns ++ [j], by rw [List.map_append]; rfl, by rw [List.sum_append]; simp⟩⟩
          show (if -(2 ^ 63) ≤ j ∧ j < 2 ^ 63 ∧ -(2 ^ 63) ≤ ns.sum + j ∧ ns.sum + j < 2 ^ 63 then some (Sum.inl (Val.int (ns.sum + j))) else (none : Option (Val ⊕ Val))) = _
          rw [if_pos hb]
        · cases hcond
      · rename_i hcond
        split at hcond <;> cases hcond
      · exact q.elim
    | _ => exact q.elim
  · obtain ⟨ns, rfl, rfl⟩ := ha
    exact ⟨ns, rfl, (show QV W Q (.int ns.sum) s1 ph1 H1 from q) ph H (.int ns.sum) gw rep (.int _)⟩
theorem se_genTup (g : Gd W call N k sc false Wx X) (go : GenOk W k X) {tg : TG} {it : IT} {cs : MEs} {el : ME} {elt t i : PySem.Expr} {fs : List PySem.Expr} {scope : Scope} (hx : x = ("tuple" : Str)) (hgl : glB sc x = true) (hi : PI X t i (iEv W none call it Wx)) (hsb : setB i = true) (hnl : notList i = true)
    (hb : blkC N sc scope (ownOf N (tgS tg)) = true) (hgb : genB scope = true) (ht : matTG N scope tg t = true)
    (hc : ∀ hd X', Gd { W with hd := hd } call N k scope false W0 X' → PTs X' fs (tEvC { W with hd := hd } none call cs W0)) (he : ∀ hd X', Gd { W with hd := hd } call N k scope false W0 X' → Pe { W with hd := hd } none call W0 X' el elt) :
    Pe W none call Wx X (.gen .tuple tg it cs el) (.Call (.Name x p) [.GeneratorExp elt [⟨t, i, fs, 0⟩] scope gpos] [] pos) := by
  subst hx
  obtain ⟨c, P, hcode, TB, hP⟩ := go.tb
  refine PE.imp (pe_genTup (P := P) go.room (gl_of g hgl) (g.lib.free _ (by decide)) (by kernel_rfl) TB hcode hi (gparts g go (.inr rfl) hsb hnl hb hgb ht hc he)) fun σ H Q ⟨e, ph, s, hs, hr, q⟩ => ?_
  rw [own_snd]
  rw [ev_gen] at q
  refine ⟨e, ph, s, hs, hr, PR.imp (fun pp s1 q1 ph1 H1 g1 r1 J hJ => ⟨r1.tabs P hP, fun H4 hT S => ?_⟩) (PR.fst q)⟩
  have g4 := Grow.tab (ph := ph1) (r1.tabs P hP) hT
  refine gen_turns (AR := fun acc ys ph H => ∃ zs : List Val, acc = .lst zs ∧ VRs W ph H zs ys) ((hs.grow hr g1).grow r1 g4) (r1.tab (r1.tabs P hP) hT) g4 hJ (fun acc ys ph H ph' H' ⟨zs, h1, h2⟩ gg => ⟨zs, h1, h2.grow gg⟩) (fun r acc ys v u n ph H gw rep ha vr q => ?_) (fun acc ys ph H gw rep ha q => ?_) ⟨[], rfl, .nil⟩ (PR.grow QV.mo g1 q1)
  · obtain ⟨zs, rfl, vz⟩ := ha
    have q : PR W ph1 H1 (QV W Q) _ (match (if zs.length < szL then some (Sum.inl (Val.lst (zs ++ [v]))) else (none : Option (Val ⊕ Val))) with
      | some (.inl a) => _
      | some (.inr w) => .ok w s1
      | none => .stk) := q
    split at q
    · rename_i hcond
      split at hcond
      · rename_i hb
        refine ⟨by show ys.length < sizeLine; rw [← vz.length]; exact hb, fun _ => ⟨.lst (zs ++ [v]), ?_, zs ++ [v], rfl, vz.append (.cons vr .nil)⟩⟩
        show (if zs.length < szL then some (Sum.inl (Val.lst (zs ++ [v]))) else (none : Option (Val ⊕ Val))) = _
        rw [if_pos hb]
      · cases hcond
    · rename_i hcond
      split at hcond <;> cases hcond
    · exact q.elim
  · obtain ⟨zs, rfl, vz⟩ := ha
    intro p hp
    exact (show QV W Q (.tup zs) s1 ph1 H1 from q) ph (upd H p (.tup ys)) (.ref p) (gw.trans (Grow.fresh hp)) (rep.fresh hp) (.tup (.inl (.inl upd_same)) (vz.grow (Grow.fresh hp)))
end
end Ev

set_option Elab.async false
set_option linter.all false
set_option maxRecDepth 100000
set_option autoImplicit false
/-! Ev: max of a generator expression. -/
namespace Ev
open PySem PySem.Spec PyProof.Rows L2
/-- the two that max keeps: the item, what it is compared by -/
def mxA : List Int → Tok → Array Value
  | [], _ => #[]
  | n :: r, t => #[.int (maxI n r) t, .int (maxI n r) t]
theorem mxA_le (ns : List Int) (t : Tok) : (mxA ns t).size ≤ sizeLine := by
  cases ns
  · exact Nat.zero_le _
  · show 2 ≤ sizeLine
    decide
def mxO (ns : List Int) (t : Tok) (c : Nat) : Obj := { cls := .type "list", dict := none, data := .seq (mxA ns t) c, slots := #[] }
theorem maxI_app (n m : Int) : ∀ r : List Int, maxI n (r ++ [m]) = if m > maxI n r then m else maxI n r
  | [] => rfl
  | j :: r => by rw [List.cons_append, maxI, maxI]; exact maxI_app _ m r
def takeMax (S : Addr) (Q : VK) : Taker := ⟨some S, fun us o => ∃ (ns : List Int) (t : Tok) (c : Nat), Vals (ns.map V.int) us ∧ o = mxO ns t c, fun _ => True, fun ys y _ _ => ∃ (ns : List Int) (n : Int), ys = ns.map V.int ∧ y = .int n, fun ys H => ∃ (n : Int) (ns : List Int), ys = (n :: ns).map V.int ∧ Q (.int (maxI n ns)) H⟩
section
variable {prog : Program} {w : World} {A : Around} {E : Value → Shared → Prop} {s : Shared}
theorem gt_ints {i j : Int} {t u : Tok} {Q : Value → Shared → Prop} (h : Q (.bool (decide (i > j))) s) : wpAny (model prog w) A (richCompare .Gt (.int i t) (.int j u)) Q E s :=
  richCompare_gives (op := .Gt) (typeIs_int s _ t) (typeIs_int s _ u) F.slot_int_gt F.entry_int_gt (F.args_int_gt_2 _ _) (gives_int_gt _ _ t u) (fun x => nomatch x) h
end
section
variable {X : Cx} {pins : List (Addr × Obj)} {σ : L2.St} {A : Around} {a gn : Nat} {R : Result → Shared → Prop} {Q : VK} {S : Addr}
theorem max_loop (hh : A.handled = none) (hd : A.depth < recursionLimit) (hSa : S ≠ a) (hSc : S ≠ cStatics)
    (hR : ∀ i t s H, Inv X pins σ H s → Q (.int i) H → R (.ok (.ret (.int i t))) s) : ∀ (n : Nat) (s : Shared) (o : Obj), GAt X pins σ (takeMax S Q) A.in1 a gn n s → (∃ (ns : List Int) (t : Tok) (c : Nat), o = mxO ns t c) → s.heap.get? S = some o → codeAny (model X.prog X.w) A (.builtin "max.loop" ⟨[.ref a, .none, .ref S], []⟩) R s := by
  intro n
  induction n using Nat.strongRecOn with
  | _ n ih =>
  intro s o G sk hS
  have hname : (toString "max" ++ toString ".loop" : String) = "max.loop" := by decide
  obtain ⟨ns0, t0, c0, rfl⟩ := sk
  refine codeAny_builtin F.entry_max_loop ?_
  rw [Around.under_plainId F.plain_max_loop _]
  show wpAny _ A.in1 (seqItems? (.ref S) >>= _) _ _ s
  refine wpAny_bind (wpAny_seqItems hS rfl ?_)
  show wpAny _ A.in1 (tryCatch (pyNext (.ref a)) _ >>= _) _ _ s
  have hSo : (takeMax S Q).So = some S := rfl
  have own1 : ∀ {o : Obj} {s' : Shared}, (∀ p ∈ pinsOf (takeMax S Q).So o, s.heap.get? p.1 = some p.2 ∧ s'.heap.get? p.1 = some p.2) → o = mxO ns0 t0 c0 ∧ s'.heap.get? S = some (mxO ns0 t0 c0) := fun {o s'} own => by
    obtain ⟨h1, h2⟩ := own (S, o) (by rw [hSo]; simp [pinsOf])
    have e : some (mxO ns0 t0 c0) = some o := hS.symm.trans h1
    cases e
    exact ⟨rfl, h2⟩
  have same : ∀ {ns ms : List Int} {t u : Tok} {c d : Nat}, mxO ns t c = mxO ms u d → mxA ns t = mxA ms u := fun {ns ms t u c d} e => by
    have := congrArg (fun o : Obj => o.data) e
    simp only [mxO] at this
    injection this
  refine wpAny_bind (wpAny_tryCatch (next_genF hh hd (by rw [hSo]; simpa using hSc) (by rw [hSo]; simpa using hSa) G (fun v s' ys y us o H gi => ?_) fun s' ys us o H I vv sk own qe fo => ?_))
  · obtain ⟨ns, n1, rfl, rfl⟩ := gi.yd
    obtain ⟨t, rfl⟩ := gi.rel
    obtain ⟨rfl, hS'⟩ := own1 gi.own
    obtain ⟨ns2, t2, c2, vv2, e2⟩ := gi.sk
    have en := ints_eq gi.vals vv2
    subst en
    have e3 := same e2
    -- behind a turn that puts an object there
    have go : ∀ (xs : Array Value) (t3 : Tok) (hm : mxA (ns ++ [n1]) t3 = xs), codeAny (model X.prog X.w) A (.builtin "max.loop" ⟨[.ref a, .none, .ref S], []⟩) R { s' with heap := s'.heap.update S (fun o => Obj.mapSeq (fun _ => xs) o) } := fun xs t3 hm => by
      subst hm
      have hup := Heap.get?_update_self (h := s'.heap) (a := S) (fun o => Obj.mapSeq (fun _ => mxA (ns ++ [n1]) t3) o) hS' rfl
      have hup2 : ∃ c3, Obj.mapSeq (fun _ => mxA (ns ++ [n1]) t3) (mxO ns0 t0 c0) = mxO (ns ++ [n1]) t3 c3 := ⟨_, rfl⟩
      obtain ⟨c3, e4⟩ := hup2
      rw [e4] at hup
      obtain ⟨m, rfl, G'⟩ := gi.next trivial { s' with heap := s'.heap.update S (fun o => Obj.mapSeq (fun _ => mxA (ns ++ [n1]) t3) o) } (mxO (ns ++ [n1]) t3 c3) rfl gi.inv.bare rfl (fun b u hb e => (Heap.get?_update_other _ _ (fun h : S = b => hb (by rw [hSo, h]))).trans e) ⟨ns ++ [n1], _, c3, by rw [List.map_append]; exact gi.vals.append (.cons ⟨t, rfl⟩ .nil), rfl⟩ (fun p hp => by
        rw [hSo] at hp
        rw [List.mem_singleton.mp hp]
        exact ⟨hup, fun v z => by cases z⟩)
      exact ih m (Nat.lt_succ_self m) _ _ G' ⟨_, _, _, rfl⟩ hup
    cases ns with
    | nil =>
      rw [e3]
      show wpAny _ A.in1 (updateSeq S (fun _ => #[.int n1 t, .int n1 t]) >>= _) _ _ _
      refine wpAny_bind ?_
      refine wpAny_updateSeq (hz := mxA_le _ _) hS' rfl ?_
      rw [hname]
      exact wpAny_pure ⟨plainId_quiet F.plain_max_loop _, go _ t rfl⟩
    | cons n0 r =>
      rw [e3]
      show wpAny _ A.in1 (tryCatch (holding [.int n1 t, .int n1 t] (richCompare .Gt (.int n1 t) (.int (maxI n0 r) t2) >>= _)) _ >>= _) _ _ _
      refine wpAny_bind (wpAny_tryCatch (wpAny_holding (wpAny_bind (gt_ints ?_))))
      refine wpAny_bind (wpAny_holding (wpAny_truthy_bool ?_))
      refine wpAny_bind (wpAny_letGo (wpAny_pure ?_))
      by_cases hb : n1 > maxI n0 r
      · rw [if_pos (decide_eq_true hb)]
        refine wpAny_bind ?_
        refine wpAny_updateSeq (hz := mxA_le _ _) hS' rfl (wpAny_bind (wpAny_letGo ?_))
        rw [hname]
        refine wpAny_pure ⟨plainId_quiet F.plain_max_loop _, go _ t ?_⟩
        show #[Value.int (maxI n0 (r ++ [n1])) t, .int (maxI n0 (r ++ [n1])) t] = _
        rw [maxI_app, if_pos hb]
      · rw [if_neg (by simpa using hb)]
        refine wpAny_bind (wpAny_letGo ?_)
        rw [hname]
        have es : mxA (n0 :: (r ++ [n1])) t2 = mxA ns0 t0 := by
          rw [e3]
          show #[Value.int (maxI n0 (r ++ [n1])) t2, .int (maxI n0 (r ++ [n1])) t2] = _
          rw [maxI_app, if_neg hb]; rfl
        obtain ⟨m, rfl, G'⟩ := gi.next trivial s' (mxO ns0 t0 c0) rfl gi.inv.bare rfl (fun b u hb e => e) ⟨n0 :: (r ++ [n1]), t2, c0, by
          have := gi.vals.append (ws := [Value.int n1 t]) (ys := [V.int n1]) (.cons ⟨t, rfl⟩ .nil)
          simpa using this, by unfold mxO; rw [es]⟩ (fun p hp => by
          rw [hSo] at hp
          rw [List.mem_singleton.mp hp]
          exact ⟨hS', fun v z => by cases z⟩)
        exact wpAny_pure ⟨plainId_quiet F.plain_max_loop _, ih m (Nat.lt_succ_self m) _ _ G' ⟨_, _, _, rfl⟩ hS'⟩
  · obtain ⟨n1, ns, rfl, q⟩ := qe
    obtain ⟨ns2, t2, c2, vv2, e2⟩ := sk
    obtain ⟨rfl, hS'⟩ := own1 own
    have en := ints_eq vv vv2
    subst en
    have e3 := same e2
    rw [e3]
    show wpAny _ A.in1 (updateSeq S (fun _ => #[]) >>= _) _ _ _
    refine wpAny_bind ?_
    refine wpAny_updateSeq (hz := mxA_le _ _) hS' rfl (wpAny_bind (wpAny_letGo (wpAny_pure ?_)))
    refine hR _ t2 _ H ?_ q
    exact I.turnedL (ch := [S]) (fun b o hb e => (Heap.get?_update_other _ _ (fun h : S = b => hb (by simp [h]))).trans e) fun b hb => by
      have e : b = S := by simpa using hb
      subst e
      exact fo b rfl
end
section
variable {X : Cx} {k : Nat} {c P : Addr} {elt tg iter : PySem.Expr} {ifs : List PySem.Expr} {scope : Scope} {own : List (Str × Nat)} {gpos p pos : Pos} {wi : TI} {g : L2.TG} {tt : TT} {te : TE}
theorem pe_genMax (hr : Room k X.A) (hg : Gl X "max") (hm : X.mg "max" = none) (hb : bootBuiltins "max" = some (.builtin "max")) (TB : GxR.TabB X.base X.mg c P) (hcode : X.env.code = .ref c) (hi : PI X tg iter wi)
    (PP : Parts X X.A.in1.in1 elt tg iter ifs scope own g tt te) :
    PE X (.Call (.Name "max" p) [.GeneratorExp elt [⟨tg, iter, ifs, 0⟩] scope gpos] [] pos) (fun σ H Q => wi σ H fun J H1 => GxR.TabG H1 P ∧ ∀ H4, GxR.Tabbed P H1 H4 → ∀ S, ∃ Wt m n, Wt 0 m [] n H4 ∧ Turns (takeMax S Q) σ (own.map (·.2)) g tt te J Wt) := by
  refine ⟨fun pins s σ H Q I h => ?_⟩
  have hname : (toString "max" ++ toString ".loop" : String) = "max.loop" := by decide
  have he : starEach [.GeneratorExp elt [⟨tg, iter, ifs, 0⟩] scope gpos] X.env = (false, eval (.GeneratorExp elt [⟨tg, iter, ifs, 0⟩] scope gpos) X.env) :: starEach [] X.env := by rfl
  refine wpAny_Call_Name_kw (ld_blt I hg hm hb ?_)
  refine PyProof.Rows.callWith_builtin1 ?_ he (by rfl)
  rw [he]
  show wpAny _ _ (spliced ((false, eval (.GeneratorExp elt [⟨tg, iter, ifs, 0⟩] scope gpos) X.env) :: backTo pos (starEach [] X.env))) _ _ s
  refine Calls.spliced_cons (gen_made (R := fun J H1 => ∀ H4, GxR.Tabbed P H1 H4 → ∀ S : Addr, ∃ (Wt : Nat → Nat → List V → Nat → Hp → Prop) (m n : Nat), Wt 0 m [] n H4 ∧ Turns (takeMax S Q) σ (own.map (fun q : Str × Nat => q.2)) g tt te J Wt) hr TB hcode PP.co PP.cell PP.dot PP.blk hi PP.fold I h fun J H2 H4 it fp tn s4 cenv a gn go s5 hR hT M => ?_)
  obtain ⟨Wt, m, n, hW, ht⟩ := hR H4 hT s5.heap.objs.size
  refine Calls.spliced_nil ?_
  have hba : AllBare s5.gens := by
    rw [M.gs]; exact M.I4.bare.push rfl
  have hlim : s5.heap.NoLimit := M.I4.nolimit.keeps M.kp
  have hcl : cStatics < s5.heap.objs.size := let ⟨_, hns, _⟩ := hlim; hns.lt
  have hSa : s5.heap.objs.size ≠ a := by rw [M.sz]; exact Nat.succ_ne_self _
  refine call_function_tree F.kind_max F.plain_max F.entry_max (F.args_max1 _) ?_
  show wpAny _ _ (Builtin.Builtins.bindParams "max" ["key", "default"] 0 ⟨[], []⟩ >>= _) _ _ _
  refine wpAny_bind (wpAny_of_eq (show Builtin.Builtins.bindParams "max" ["key", "default"] 0 ⟨[], []⟩ = pure [none, none] from rfl) ?_)
  refine wpAny_bind (wpAny_pure ?_)
  refine wpAny_bind (wpAny_pyIter_gen (M.gen _ M.ob) ?_)
  refine wpAny_bind (wpAny_newObj_type ?_)
  have hob : (s5.heap.push (mxO [] 0 0)).get? s5.heap.objs.size = some (mxO [] 0 0) := Heap.get?_push_size _ rfl
  have G : GAt X pins σ (takeMax s5.heap.objs.size Q) X.A.in1 a gn n { s5 with heap := s5.heap.push (mxO [] 0 0) } :=
    gat_start (A := X.A.in1) (C := takeMax s5.heap.objs.size Q) (o := mxO [] 0 0) M PP I.ok.frames hr.hd (fun S e => by cases e; exact Nat.le_refl _) rfl hba rfl (fun _ _ e => Heap.get?_push_of_some _ e) ⟨[], _, _, .nil, rfl⟩ (fun p hp => by
      have e : p = (s5.heap.objs.size, mxO [] 0 0) := List.mem_singleton.mp hp
      rw [e]
      exact ⟨hob, fun v z => by cases z⟩) hW ht
  rw [hname]
  exact wpAny_pure ⟨plainId_quiet F.plain_max_loop _, max_loop (A := X.A) (Q := Q) hr.hd hr.depth hSa (Nat.ne_of_gt hcl) (fun i t s H I q => ⟨.int i, H, I, ⟨t, rfl⟩, q⟩) n _ _ G ⟨[], _, _, rfl⟩ hob⟩
end
section
variable {W : Wd} {call : Call} {N : List Str} {k : Nat} {sc : Scope} {X : Cx} {Wx : WX} {x : Str} {p gpos pos : Pos}
theorem se_genMax (g : Gd W call N k sc false Wx X) (go : GenOk W k X) {tg : TG} {it : IT} {cs : MEs} {el : ME} {elt t i : PySem.Expr} {fs : List PySem.Expr} {scope : Scope} (hx : x = ("max" : Str)) (hgl : glB sc x = true) (hi : PI X t i (iEv W none call it Wx)) (hsb : setB i = true) (hnl : notList i = true)
    (hb : blkC N sc scope (ownOf N (tgS tg)) = true) (hgb : genB scope = true) (ht : matTG N scope tg t = true)
    (hc : ∀ hd X', Gd { W with hd := hd } call N k scope false W0 X' → PTs X' fs (tEvC { W with hd := hd } none call cs W0)) (he : ∀ hd X', Gd { W with hd := hd } call N k scope false W0 X' → Pe { W with hd := hd } none call W0 X' el elt) :
    Pe W none call Wx X (.gen .max tg it cs el) (.Call (.Name x p) [.GeneratorExp elt [⟨t, i, fs, 0⟩] scope gpos] [] pos) := by
  subst hx
  obtain ⟨c, P, hcode, TB, hP⟩ := go.tb
  refine PE.imp (pe_genMax (P := P) go.room (gl_of g hgl) (g.lib.free _ (by decide)) (by kernel_rfl) TB hcode hi (gparts g go (.inl rfl) hsb hnl hb hgb ht hc he)) fun σ H Q ⟨e, ph, s, hs, hr, q⟩ => ?_
  rw [own_snd]
  rw [ev_gen] at q
  refine ⟨e, ph, s, hs, hr, PR.imp (fun pp s1 q1 ph1 H1 g1 r1 J hJ => ⟨r1.tabs P hP, fun H4 hT S => ?_⟩) (PR.fst q)⟩
  have g4 := Grow.tab (ph := ph1) (r1.tabs P hP) hT
  refine gen_turns (AR := fun acc ys _ _ => (acc = .non ∧ ys = []) ∨ ∃ (n : Int) (ns : List Int), ys = (n :: ns).map V.int ∧ acc = .int (maxI n ns)) ((hs.grow hr g1).grow r1 g4) (r1.tab (r1.tabs P hP) hT) g4 hJ (fun _ _ _ _ _ _ h _ => h) (fun r acc ys v u n ph H gw rep ha vr q => ?_) (fun acc ys ph H gw rep ha q => ?_) (.inl ⟨rfl, rfl⟩) (PR.grow QV.mo g1 q1)
  · rcases ha with ⟨rfl, rfl⟩ | ⟨m, ns, rfl, rfl⟩
    · cases v with
      | int j =>
        cases vr
        exact ⟨⟨[], j, rfl, rfl⟩, fun _ => ⟨.int j, rfl, .inr ⟨j, [], rfl, rfl⟩⟩⟩
      | _ => exact q.elim
    · cases v with
      | int j =>
        cases vr
        exact ⟨⟨m :: ns, j, rfl, rfl⟩, fun _ => ⟨.int (if j > maxI m ns then j else maxI m ns), rfl, .inr ⟨m, ns ++ [j], by simp, by rw [maxI_app]⟩⟩⟩
      | _ => exact q.elim
  · rcases ha with ⟨rfl, rfl⟩ | ⟨m, ns, rfl, rfl⟩
    · exact q.elim
    · exact ⟨m, ns, rfl, (show QV W Q (.int (maxI m ns)) s1 ph1 H1 from q) ph H (.int (maxI m ns)) gw rep (.int _)⟩
end
end Ev

set_option Elab.async false
set_option linter.all false
set_option maxRecDepth 100000
set_option autoImplicit false
/-! Ev: try with several clauses, each with a name or without one. -/
namespace Ev
open PySem PySem.Spec PyProof.Rows L2
abbrev TH := Addr → Value → Option Addr → TS
/-- the ends with slot i empty -/
def endsU (i : Nat) (D : Ends) : Ends := ⟨fun σ H => D.nx (σ.set i none) H, D.rt, fun σ H => D.bk (σ.set i none) H, fun σ H => D.ct (σ.set i none) H⟩
def clauseT (o : Option Nat) (t : TH) (a : Addr) (cls : Value) (d : Option Addr) (D : Ends) (σ : L2.St) (H : Hp) : Prop := match o with
  | none => t a cls d D σ H
  | some i => t a cls d (endsU i D) (σ.set i (some (.ref a))) H
def wishH (K : PySem.W.Frag) (out : WX) (D : Ends) : List (Value × Option Nat × TH) → WX
  | [] => out
  | (c, o, t) :: r => fun cls d σ H => ∃ b, PySem.W.exmOne K cls c = some b ∧ (b = true → ∀ a, H a = none → clauseT o t a cls d D σ H) ∧ (b = false → wishH K out D r cls d σ H)
inductive Clauses (X : Cx) : List ExceptHandler → List (Value × Option Nat × TH) → Prop
  | nil : Clauses X [] []
  | bare {x : Str} {c : Value} {t : TH} {s0 : Stmt} {ss : List Stmt} {p1 p2 : Pos} {hs : List ExceptHandler} {l : List (Value × Option Nat × TH)} (hc : Names X x c)
      (hb : ∀ (a : Addr) (oe : Obj) (cls : Value) (d : Option Addr) (pn : List (Addr × Obj)), Zc cls d oe → (∃ vs, oe.data = .fields vs) → PSs (X.suite a ((a, oe) :: pn)) (s0 :: ss) (t a cls d)) (r : Clauses X hs l) :
      Clauses X (.ExceptHandler (some (.Name x p1)) none (s0 :: ss) p2 :: hs) ((c, none, t) :: l)
  | named {x n : Str} {i : Nat} {c : Value} {t : TH} {s0 : Stmt} {ss : List Stmt} {p1 p2 : Pos} {hs : List ExceptHandler} {l : List (Value × Option Nat × TH)} (hc : Names X x c) (hi : X.N[i]? = some n) (hl : X.env.kindOf n = some .local)
      (hb : ∀ (a : Addr) (oe : Obj) (cls : Value) (d : Option Addr) (pn : List (Addr × Obj)), Zc cls d oe → (∃ vs, oe.data = .fields vs) → PSs (X.suite a ((a, oe) :: pn)) (s0 :: ss) (t a cls d)) (r : Clauses X hs l) :
      Clauses X (.ExceptHandler (some (.Name x p1)) (some n) (s0 :: ss) p2 :: hs) ((c, some i, t) :: l)
section
variable {X : Cx} {body : List Stmt} {h0 : ExceptHandler} {hs : List ExceptHandler} {l : List (Value × Option Nat × TH)} {pos : Pos} {tb : WX → TS} {out : WX}
theorem spBack {D : Ends} {pins : List (Addr × Obj)} {xe : Value → Shared → Prop} {f : Flow} {s : Shared} (ok : X.Ok) (h : SP (X.tr (X.pn ++ pins) xe) [] D f s) : SP X pins D f s := by
  cases f with
  | next => exact let ⟨a, b, I, q⟩ := h; ⟨a, b, I.ofTry ok, q⟩
  | brk => exact let ⟨a, b, I, q⟩ := h; ⟨a, b, I.ofTry ok, q⟩
  | cont => exact let ⟨a, b, I, q⟩ := h; ⟨a, b, I.ofTry ok, q⟩
  | ret u => exact let ⟨v, a, b, I, r, q⟩ := h; ⟨v, a, b, I.ofTry ok, r, q⟩
/-- what is asked where the body raises -/
abbrev seen (X : Cx) (pins : List (Addr × Obj)) (D : Ends) (hds : List ExceptHandler) : Value → Shared → Prop := fun u r1 =>
  wpAny (model X.prog X.w) X.A (noteFrame u X.env) (fun _ r2 => wpAny (model X.prog X.w) X.A (setFlight u Option.none)
    (fun _ r3 => wpAny (model X.prog X.w) X.A (handleBy u X.env hds) (SP X pins D) X.xe r3) X.xe r2) X.xe r1
theorem ps_try_h (hst : X.stack = X.env :: X.outer) (hfr : X.env.frame = some X.env.locals) (nd : X.N.Nodup) (tk : Takes X out)
    (hb : ∀ (W : WX) (pn : List (Addr × Obj)) (xe : Value → Shared → Prop), Takes (X.tr pn xe) W → PassesOwn (model X.prog X.w) X.A X.env xe → PSs (X.tr pn xe) body (tb W)) (hh : Clauses X (h0 :: hs) l) :
    PS X (.Try body (h0 :: hs) [] [] pos) (fun D σ H => tb (wishH X.K out D l) D σ H) := by
  refine ⟨fun pins s σ H D I h => wpAny_Try_except ?_⟩
  have ok := I.ok
  have fr : X.A.frames = some (X.env :: X.outer) := ok.frames.trans (congrArg some hst)
  refine wpAny_mono ((hb (wishH X.K out D l) (X.pn ++ pins) (seen X pins D (h0 :: hs)) (fun u s1 xx => ?_) PassesOwn.looking).run [] s σ H D (I.toTry _) h) (fun f s1 q => ?_) (fun e s1 q => q)
  · obtain ⟨a, B, sI, pins1, σ1, H1, cls, d, rfl, J0, nb, up, sky, na, os, ag, w⟩ := xx
    have J : Inv X pins σ1 H1 sI := J0.ofTry ok
    refine Sky.land Zc.steady fr hfr (hst ▸ sky) fun h3 fl up3 => ?_
    have J3 : Inv X pins σ1 H1 { s1 with heap := h3 } := J.landed nb fl.1 (up.trans up3) os ag
    obtain ⟨oe, vs, e3, z3, d3⟩ := fl.there
    have out_ : a ∉ frs (X.env :: X.outer) := fun hm => by
      obtain ⟨_, o1, e1, hne⟩ := fl.2.2.1.mem hm
      rw [e3] at e1
      cases e1
      exact hne _ d3
    have nL : a ≠ X.env.locals := fun z => out_ (List.mem_filterMap.mpr ⟨X.env, List.mem_cons_self, by rw [hfr, z]⟩)
    have nF : a ∉ X.fs := fun hm => let ⟨e, he, q⟩ := List.mem_filterMap.mp hm; out_ (List.mem_filterMap.mpr ⟨e, List.mem_cons_of_mem _ he, q⟩)
    have suiteAt : ∀ h4, HandSPX.FlyingZ B (X.env :: X.outer) a (Zc cls d) h4 → h3.UpToSlots h4 → ∃ o4, Inv (X.suite a ((a, o4) :: (X.pn ++ pins))) [] σ1 H1 { s1 with heap := h4 } ∧ Zc cls d o4 ∧ ∃ vs, o4.data = .fields vs := fun h4 fl4 up4 => by
      have J4 : Inv X pins σ1 H1 { s1 with heap := h4 } := J.landed nb fl4.1 ((up.trans up3).trans up4) os ag
      obtain ⟨o4, v4, e4, z4, d4⟩ := fl4.there
      exact ⟨o4, J4.suite e4 d4 na nL nF, z4, v4, d4⟩
    have LT : PySem.W.Looks (model X.prog X.w) h3 (typeOf (.ref a)) cls := fun A Q E s k q => wpAny_typeOf_ref (k _ _ e3) (by rw [z3.1]; exact q)
    have test : ∀ {x : Str} {c : Value} {p1 : Pos} {Q : Value → Shared → Prop} {E : Value → Shared → Prop}, Names X x c → Q c { s1 with heap := h3 } → wpAny (model X.prog X.w) (X.A.mark (some (.ref a))) (eval (.Name x p1) X.env) Q E { s1 with heap := h3 } := by
      intro x c p1 Q E ⟨hg, hd, hm⟩ q
      have S3 := J3.suite e3 d3 na nL nF
      rcases hm with hm | ⟨hm, hv, hn⟩
      · exact ld_glob (X := X.suite a ((a, oe) :: (X.pn ++ pins))) S3 hg hm q hd
      · exact ld_blt (X := X.suite a ((a, oe) :: (X.pn ++ pins))) S3 hg hm hv q hn hd
    have walk : ∀ {hs1 : List ExceptHandler} {l1 : List (Value × Option Nat × TH)}, Clauses X hs1 l1 → wishH X.K out D l1 cls d σ1 H1 → wpAny (model X.prog X.w) X.A (handleBy (.ref a) X.env hs1) (SP X pins D) X.xe { s1 with heap := h3 } := by
      intro hs1 l1 hk
      induction hk with
      | nil =>
        intro w
        refine wpAny_handleBy_nil ?_
        obtain ⟨_, _, _, o, us, T, oT, ts, q1, q2, q3, q4, _⟩ := id fl
        unfold PySem.passOn
        refine wpAny_bind (wpAny_field q1 q3 q4 ?_)
        rw [if_neg (show ¬ ((Value.ref T == Value.none) = true) by simp)]
        have last : wpAny (model X.prog X.w) X.A (setFlight (.ref a) X.env.frame) (fun _ s4 => wpAny (model X.prog X.w) X.A (throw (.ref a) : Sem Flow) (SP X pins D) X.xe s4) X.xe { s1 with heap := h3 } := by
          rw [hfr]
          exact HandSPX.setFlight_upZ fl fun h4 hh4 up4 => wpAny_throw (tk _ _ ⟨a, B, sI, pins, σ1, H1, cls, d, rfl, J, nb, (up.trans up3).trans up4, .inr (.inr (hst ▸ hh4)), na, os, ag, w⟩)
        first
          | exact wpAny_bind (wpAny_pure (wpAny_bind last))
          | exact wpAny_bind last
      | bare hc hbd r ih =>
        intro ⟨b, h1, hy, hn⟩
        refine wpAny_handleBy_cons (codeAny_handlers_test ?_) (by intro q; cases q)
        refine test hc ((PySem.W.exm_one (M := model X.prog X.w) J3.kIn LT h1).here ?_)
        cases b with
        | false => exact ih (hn rfl)
        | true =>
          refine codeAny_handlers_suite (HandSPX.lands_againZ fl fun h4 fl4 up4 => ?_)
          obtain ⟨o4, S4, z4, v4⟩ := suiteAt h4 fl4 up4
          refine wpAny_mono ((hbd a o4 cls d (X.pn ++ pins) z4 v4).run [] _ _ H1 _ S4 (hy rfl a na)) (fun f s6 q => ?_) (fun _ _ z => z.elim)
          cases f with
          | next => exact let ⟨x, y, S6, q6⟩ := q; ⟨x, y, S6.unsuite ok, q6⟩
          | brk => exact let ⟨x, y, S6, q6⟩ := q; ⟨x, y, S6.unsuite ok, q6⟩
          | cont => exact let ⟨x, y, S6, q6⟩ := q; ⟨x, y, S6.unsuite ok, q6⟩
          | ret u => exact let ⟨v, x, y, S6, r6, q6⟩ := q; ⟨v, x, y, S6.unsuite ok, r6, q6⟩
      | @named x n i c t s0 ss p1 p2 hs2 l2 hc hi hl hbd r ih =>
        intro ⟨b, h1, hy, hn⟩
        refine wpAny_handleBy_cons (codeAny_handlers_test ?_) (by intro q; cases q)
        refine test hc ((PySem.W.exm_one (M := model X.prog X.w) J3.kIn LT h1).here ?_)
        cases b with
        | false => exact ih (hn rfl)
        | true =>
          refine codeAny_handlers_suite_as (HandSPX.lands_againZ fl fun h4 fl4 up4 => ?_)
          obtain ⟨o4, S4, z4, v4⟩ := suiteAt h4 fl4 up4
          refine store_ok (X := X.suite a ((a, o4) :: (X.pn ++ pins))) (v := .ref a) S4 nd hi (.inl hl) rfl (fun s5 S5 => ?_) (.inr hl)
          refine wpAny_mono ((hbd a o4 cls d (X.pn ++ pins) z4 v4).run [] s5 _ H1 _ S5 (hy rfl a na)) (fun f s6 q => ?_) (fun _ _ z => z.elim)
          have gone : ∀ {σ6 : L2.St} {H6 : Hp} {Q : Shared → Prop}, Inv (X.suite a ((a, o4) :: (X.pn ++ pins))) [] σ6 H6 s6 → (∀ s7, Inv X pins (σ6.set i none) H6 s7 → Q s7) →
              wpAny (model X.prog X.w) X.A (do bindName X.env n .none; unbindBehindTheSuite X.env n p2) (fun _ s7 => Q s7) X.xe s6 := fun S6 hq => gone_ok (S6.unsuite ok) nd hi hl hq
          cases f with
          | next => exact let ⟨x, y, S6, q6⟩ := q; gone S6 fun s7 J7 => ⟨_, _, J7, q6⟩
          | brk => exact let ⟨x, y, S6, q6⟩ := q; gone S6 fun s7 J7 => ⟨_, _, J7, q6⟩
          | cont => exact let ⟨x, y, S6, q6⟩ := q; gone S6 fun s7 J7 => ⟨_, _, J7, q6⟩
          | ret u => exact let ⟨v, x, y, S6, r6, q6⟩ := q; gone S6 fun s7 J7 => ⟨_, _, _, J7, r6, q6⟩
    exact walk hh w
  · have q := spBack ok q
    cases f with
    | next => exact let ⟨x, y, J, q⟩ := q; wpAny_execs_nil ⟨x, y, J, q⟩
    | _ => exact q
end
end Ev

set_option Elab.async false
set_option linter.all false
set_option maxRecDepth 100000
set_option maxHeartbeats 1000000
set_option autoImplicit false
/-! Ev: what a suite asks of its exception. -/
namespace PySem.W
open PySem PySem.Spec PySem.Calls PyProof.Rows
section
variable {prog : Program} {w : World} {A : Around} {E : Value → Shared → Prop} {s : Shared} {K : Frag} {x D : Addr} {ox : Obj}
theorem evx_class {od : Obj} {Q : Option Value → Shared → Prop} (T : Ev.ExK K D) (X : K.In s.heap) (I : InstAt s.heap x ox D (some od)) (h : Q (some (.ref D)) { s with toks := s.toks + 1 }) : wpAny (model prog w) A (getAttr? (.ref x) "__class__") Q E s := by
  have hf : findObj K D (some od) "__class__" = some (.bind (.builtin "getset_descriptor.__get__") (.builtin "object.__class__")) := findObj_data (by obtain ⟨cd, hc, _⟩ := any_some T.hd; rw [hc]; rfl) T.ha T.hn T.ht
  obtain ⟨hp, g, d, t, os⟩ := s
  have L0 := I.type (M := model prog w)
  have L1 := looks_findIn (M := model prog w) X T.ga
  have L2 := looks_findIn (M := model prog w) X T.gg
  have L3 := looks_find (M := model prog w) X I hf
  have su : Looks (model prog w) hp (isInstance (.ref x) (.type "BaseException")) true := L0.andThen (looks_subIn X T.ex)
  have n0 : (false && onTheHeap (Value.builtin "BaseException.__getattribute__")) = false := rfl
  have n2 : (Value.builtin "BaseException.__getattribute__" == Value.builtin "object.__getattribute__") = false := by decide +kernel
  have n1 : (onTheHeap (Value.ref D) && Value.builtin "BaseException.__getattribute__" == Value.builtin "object.__getattribute__") = false := by rw [n2]; rfl
  unfold getAttr? getAttrBy? getAttrBy
  refine wpAny_bind (wpAny_mkText (wpAny_bind (wpAny_attempt (wpAny_holding (wpAny_bind (L0.at (wpAny_bind (L1.at ?_))))))))
  show wpAny _ _ (if (onTheHeap (Value.ref D) && Value.builtin "BaseException.__getattribute__" == Value.builtin "object.__getattribute__") = true then _ else _) _ _ _
  rw [n1, if_neg Bool.false_ne_true]
  unfold getAttrByItsOwn hookBefore
  refine wpAny_bind ?_
  rw [if_pos (show onTheHeap (Value.ref D) = true from rfl)]
  refine L2.at (wpAny_bind (wpAny_attempt (wpAny_holding ?_)))
  unfold callGetattribute
  rw [n0, if_neg Bool.false_ne_true]
  unfold boundAndCalled
  rw [PySem.F.excAttr_ValueError.ga.bind (.ref x)]
  refine wpAny_bind (wpAny_pure ?_)
  show wpAny _ _ (call (.builtin "BaseException.__getattribute__") [.ref x, .str "__class__" t]) _ _ _
  refine wpAny_call (codeAny_call_builtin PySem.F.excAttr_ValueError.ga.plain PySem.F.entry_bexc_ga ?_)
  refine @check_slot (model prog w) _ _ ⟨hp, g, d, t + 1, os⟩ "BaseException.__getattribute__" "BaseException" "__getattribute__" (.ref x) [.str "__class__" t] [] _ (by decide +kernel) (by decide +kernel) su (PySem.F.args_bexc_ga (.ref x) (.str "__class__" t)) ?_
  unfold Builtin.«object.__getattribute__»
  refine wpAny_bind (wpAny_of_eq (a := ((Value.ref x : Value), [Value.str "__class__" t])) (by first | rfl | (simp only [slotArgs]; rfl)) ?_)
  refine wpAny_bind (wpAny_pure (wpAny_bind (L0.at (wpAny_bind (L3.at ?_)))))
  show wpAny _ _ (holding [Value.builtin "object.__class__"] (call (.builtin "getset_descriptor.__get__") [.builtin "object.__class__", .ref x, .ref D]) >>= ret) _ _ _
  refine wpAny_bind (wpAny_holding (wpAny_call (class_get (s := ⟨hp, g, d, t + 1, os⟩) (ox := ox) (od := some od) X I T.hm ?_)))
  refine wpAny_pure ?_
  show wpAny _ _ (handedOut (.ref D)) _ _ _
  rw [handedOut_of (v := .ref D) rfl]
  first
    | exact wpAny_pure (wpAny_pure h)
    | exact wpAny_pure h
    | exact wpAny_pure (wpAny_bind (wpAny_pure (wpAny_pure h)))
theorem evx_obj (T : Ev.ExK K D) : ∃ c d cd sl, K.lookup D = some ⟨c, d, .cls cd, sl⟩ := by
  obtain ⟨cdD, hcD, _⟩ := any_some T.hd
  unfold clsIn at hcD
  split at hcD
  · rename_i ho
    exact ⟨_, _, _, _, ho⟩
  · cases hcD
theorem evx_kit (T : Ev.ExK K D) : KitX K (.ref x) (.ref D) (fun h => ∃ od, InstAt h x ox D (some od)) where
  ty := fun _ _ _ ⟨_, I⟩ => I.type
  it := fun _ _ X _ => by
    obtain ⟨c', d', cd', sl', ho⟩ := evx_obj T
    intro A' Q' E' s' k q
    unfold isType loadHead
    exact wpAny_bind (wpAny_loadPart (k _ _ (X _ _ ho)) (wpAny_pure q))
  ne := fun h tp dd its n sl X htp => by
    obtain ⟨c', d', cd', sl', ho⟩ := evx_obj T
    refine Bool.eq_false_iff.mpr fun q => ?_
    have e : D = tp := Value.ref.inj (beq_iff_eq.mp q)
    subst e
    have z := (X _ _ ho).symm.trans htp
    cases z
  ca := fun X ⟨_, I⟩ k => evx_class T X I k
end
end PySem.W
namespace Ev
open PySem PySem.Spec PyProof.Rows L2
section
variable {W : Wd} {xa : Xa} {call : Call} {N : List Str} {k : Nat} {sc : Scope} {hot : Bool} {X : Cx} {Wx : WX} {pos p p1 : Pos} {x y : Str}
/-- a suite of an except clause: where the exception is -/
def HotOk (W : Wd) (xa : Xa) (X : Cx) : Prop := ∃ (i : Nat) (a d : Addr) (c : Nat) (Y : Cx) (oe : Obj) (pn : List (Addr × Obj)), xa = some (i, a, d, c) ∧ X = Y.suite a ((a, oe) :: pn) ∧ Zc (.ref (W.ca c)) (some d) oe ∧ ∃ vs, oe.data = .fields vs
theorem call_isX {Y : Cx} {a D d : Addr} {oe : Obj} {pn : List (Addr × Obj)} (T : ExK Y.K D) (hz : Zc (.ref D) (some d) oe) (hf : ∃ vs, oe.data = .fields vs) :
    CallR (Y.suite a ((a, oe) :: pn)) (.builtin "isinstance") (fun xs H Q => ∃ (c : V) (cv : Value) (b : Bool) (fs : List (Str × V)), xs = [.ref a, c] ∧ ClsV c cv ∧ H d = some (.xd fs) ∧ PySem.W.kitOne Y.K (.ref D) cv = some b ∧ Q (.bl b) H) := by
  intro pins s σ H xs us Q I r ⟨c, cv, b, fs, e0, hcv, hd, e, q⟩
  subst e0
  obtain ⟨u1, u2, rfl, r1, r2⟩ := vals2 r
  cases r1
  have ec := hcv.eq r2
  subst ec
  obtain ⟨hget, _⟩ := I.pin (a, oe) (List.mem_append_left _ List.mem_cons_self)
  obtain ⟨vs, hv⟩ := hf
  obtain ⟨mA, hns, _⟩ := (show ObjOk Y.prog Y.w H s.heap d (.xd fs) from I.hok d _ hd)
  obtain ⟨od, ho, _⟩ := lookIn_ns hns
  have J : PySem.W.InstAt s.heap a oe D (some od) := ⟨hget, hz.1, by unfold PySem.W.notCls; rw [hv] <;> rfl, by rw [hz.2]; exact ho⟩
  exact PySem.W.kia_one (PySem.W.evx_kit T) I.kIn ⟨od, J⟩ e (fun z => nomatch z) fun tk => ⟨.bl b, H, I.kept (t' := tk) fun _ _ z => z, rfl, q⟩
theorem call_isXT {Y : Cx} {a D d : Addr} {oe : Obj} {pn : List (Addr × Obj)} (T : ExK Y.K D) (hz : Zc (.ref D) (some d) oe) (hf : ∃ vs, oe.data = .fields vs) :
    CallR (Y.suite a ((a, oe) :: pn)) (.builtin "isinstance") (fun xs H Q => ∃ (tp : Addr) (cs : List V) (ws : List Value) (b : Bool) (fs : List (Str × V)), xs = [.ref a, .ref tp] ∧ H tp = some (.tup cs) ∧ Paired ClsV cs ws ∧ H d = some (.xd fs) ∧ PySem.W.kitAny Y.K (.ref D) ws = some b ∧ Q (.bl b) H) := by
  intro pins s σ H xs us Q I r ⟨tp, cs, ws, b, fs, e0, hT, kk, hd, e, q⟩
  subst e0
  obtain ⟨u1, u2, rfl, r1, r2⟩ := vals2 r
  cases r1
  cases (show u2 = Value.ref tp from r2)
  obtain ⟨hget, _⟩ := I.pin (a, oe) (List.mem_append_left _ List.mem_cons_self)
  obtain ⟨vs, hv⟩ := hf
  obtain ⟨mA, hns, _⟩ := (show ObjOk Y.prog Y.w H s.heap d (.xd fs) from I.hok d _ hd)
  obtain ⟨od, ho, _⟩ := lookIn_ns hns
  have J : PySem.W.InstAt s.heap a oe D (some od) := ⟨hget, hz.1, by unfold PySem.W.notCls; rw [hv] <;> rfl, by rw [hz.2]; exact ho⟩
  obtain ⟨_, its, rv, o, h1, h2, n, h3⟩ := (show ObjOk Y.prog Y.w H s.heap tp (.tup cs) from I.hok tp _ hT)
  have e3 := ClsV.all kk rv
  subst e3
  obtain ⟨oc, od2, dt, sl⟩ := o
  simp only at h2 h3
  subst h2 h3
  exact PySem.W.kia_tup (PySem.W.evx_kit T) I.kIn ⟨od, J⟩ h1 e (fun z => nomatch z) fun tk => ⟨.bl b, H, I.kept (t' := tk) fun _ _ z => z, rfl, q⟩
/-- the exception's name -/
theorem pe_exv {σ : L2.St} {H : Hp} {e : Env} {ph : List Addr} {i c : Nat} {ks : List Nat} {xs : List Val} {j : Nat} {a d : Addr} {c0 : Nat} (hs : RS W (some (j, a, d, c0)) ph H e σ) (he : e[i]? = some (some (.exv c ks xs))) :
    j = i ∧ c0 = c ∧ σ[i]? = some (some (.ref a)) ∧ ∃ vs, H d = some (.xd (nmF W ks vs)) ∧ ks.length = xs.length ∧ VRs W ph H xs vs := by
  obtain ⟨a', d', vs, h1, h2, h3, h4, h5⟩ := hs.exv i c ks xs he
  cases h1
  exact ⟨rfl, rfl, h2, vs, h3, h4, h5⟩
theorem se_xat (g : Gd W call N k sc hot Wx X) (ho : HotOk W xa X) {i f : Nat} (hv : varB N sc i y = true) (hx : x = W.G.idn f) (h0 : x ≠ "") : Pe W xa call Wx X (.xat i f) (.Attribute (.Name y p) x pos) := by
  obtain ⟨j, a, d, c, Y, oe, pn, rfl, rfl, hz, hf⟩ := ho
  unfold varB at hv
  obtain ⟨h1, hv⟩ := ba hv
  obtain ⟨h2, h3⟩ := ba hv
  obtain ⟨d1, d2, _⟩ := dbg_of h3
  subst hx
  have pv : PE (Y.suite a ((a, oe) :: pn)) (.Name y p) (tVar i) := pe_var (by rw [g.eN]; exact of_decide_eq_true h1) (vis_of g h2) d1 d2
  by_cases hc : hasX W.G c f = true
  · unfold hasX at hc
    split at hc
    · rename_i C hC
      split at hc
      · rename_i ks0 hE
        have he : isExc W.G c = true := by
          unfold isExc
          simp only [hC, hE]
          rfl
        have T := g.lib.exk c he
        have hno := g.lib.exf c C ks0 f hC hE hc
        have eK : Y.K = W.K := g.eK
        have T2 : XfC Y.K (W.ca c) := by rw [eK]; exact ⟨T.ga, T.gg, T.ex, T.hd⟩
        refine PE.imp (pe_xf (pos := pos) T2 (by rw [eK]; exact hno) hz hf pv rfl) fun σ H Q ⟨e, ph, s, hs, hr, q⟩ => ?_
        unfold ev at q
        cases hq : e[i]? with
        | none => rw [hq] at q; exact q.elim
        | some o =>
          cases o with
          | none => rw [hq] at q; exact q.elim
          | some v =>
            cases v with
            | exv c' ks xs =>
              rw [hq] at q
              obtain ⟨rfl, rfl, hσ, vs, hd, hl, hvs⟩ := pe_exv hs hq
              obtain ⟨z, e1, q3⟩ := PR.ofO q
              split at e1
              · obtain ⟨w, h5, h6⟩ := look_nm g.lib.idn h0 hvs e1
                exact ⟨.ref a, hσ, rfl, rfl, d, _, w, rfl, hd, h5, QV.at q3 hr h6⟩
              · cases e1
            | _ => rw [hq] at q; exact q.elim
      · cases hc
    · cases hc
  · refine ⟨fun pins s σ H Q I ⟨e, ph, m, hs, hr, q⟩ => ?_⟩
    exfalso
    unfold ev at q
    cases hq : e[i]? with
    | none => rw [hq] at q; exact q.elim
    | some o =>
      cases o with
      | none => rw [hq] at q; exact q.elim
      | some v =>
        cases v with
        | exv c' ks xs =>
          rw [hq] at q
          obtain ⟨rfl, rfl, _⟩ := pe_exv hs hq
          obtain ⟨z, e1, q3⟩ := PR.ofO q
          rw [if_neg hc] at e1
          cases e1
        | _ => rw [hq] at q; exact q.elim
theorem anyX_at (g : Gd W call N k sc hot Wx X) {m : Store} {c : Nat} {ks : List Nat} {xs : List Val} {ts : List Ty} {b : Bool} (ht : ts.all (tyOk W.G) = true) (e : anyTy W.G m (.exv c ks xs) ts = some b) :
    isExc W.G c = true ∧ PySem.W.kitAny W.K (.ref (W.ca c)) (ts.map (tyVal W)) = some b ∧ ∀ t0, ts = [t0] → PySem.W.kitOne W.K (.ref (W.ca c)) (tyVal W t0) = some b := by
  have e : (if kdOk W.G (.exv c) = true then anyK W.G (.exv c) ts else none) = some b := e
  split at e
  · rename_i ho
    refine ⟨ho, kit_any g (kd := .exv c) ho ht e, fun t0 e0 => ?_⟩
    subst e0
    unfold anyK at e
    cases hq : tyK W.G (.exv c) t0 with
    | none => rw [hq] at e; cases e
    | some z =>
      rw [hq] at e
      have q := g.lib.kit (.exv c) t0 z ho (by simpa using ht) hq
      cases z with
      | true => cases e; exact q
      | false => cases e; exact q
  · cases e
theorem se_xis (g : Gd W call N k sc hot Wx X) (ho : HotOk W xa X) {i : Nat} {ts : List Ty} {t : PySem.Expr} {one : Bool} (hx : x = ("isinstance" : Str)) (hg : glB sc x = true) (hv : varB N sc i y = true) (ht : ts.all (tyOk W.G) = true) (hlen : ts.length < 100)
    (hm : (if one then tyB W.G sc ts [t] else match t with
      | .Tuple es _ _ => tyB W.G sc ts es
      | _ => false) = true) : Pe W xa call Wx X (.xis i ts one) (.Call (.Name x p) [.Name y p1, t] [] pos) := by
  obtain ⟨j, a, d, c, Y, oe, pn, rfl, rfl, hz, hf⟩ := ho
  unfold varB at hv
  obtain ⟨h1, hv⟩ := ba hv
  obtain ⟨h2, h3⟩ := ba hv
  obtain ⟨d1, d2, _⟩ := dbg_of h3
  subst hx
  obtain ⟨n1, n2⟩ := nm_isi
  have hb := boot_ty.2.2.2.2.2.2
  have hfr : (Y.suite a ((a, oe) :: pn)).mg "isinstance" = none := free_of g (by decide)
  have pv : PE (Y.suite a ((a, oe) :: pn)) (.Name y p1) (tVar i) := pe_var (by rw [g.eN]; exact of_decide_eq_true h1) (vis_of g h2) d1 d2
  have eK : Y.K = W.K := g.eK
  have fin : ∀ {e : Env} {ph : List Addr} {s : Store} {σ : L2.St} {H : Hp} {Q : VK} {E : XK}, RS W (some (j, a, d, c)) ph H e σ → Rep W ph s H → PR W ph H (QV W Q) E (ev W.G call (.xis i ts one) e s) →
      σ[i]? = some (some (.ref a)) ∧ isExc W.G c = true ∧ (∃ fs, H d = some (.xd fs)) ∧ ∃ b, PySem.W.kitAny W.K (.ref (W.ca c)) (ts.map (tyVal W)) = some b ∧ (∀ t0, ts = [t0] → PySem.W.kitOne W.K (.ref (W.ca c)) (tyVal W t0) = some b) ∧ QV W Q (.bl b) s ph H := fun {e ph s σ H Q E} hs hr q => by
    unfold ev at q
    cases hq : e[i]? with
    | none => rw [hq] at q; exact q.elim
    | some o =>
      cases o with
      | none => rw [hq] at q; exact q.elim
      | some v =>
        cases v with
        | exv c' ks xs =>
          rw [hq] at q
          obtain ⟨rfl, rfl, hσ, vs, hd, _⟩ := pe_exv hs hq
          obtain ⟨z, e1, q3⟩ := PR.ofO q
          cases hA : anyTy W.G s (.exv c ks xs) ts with
          | none => rw [hA] at e1; cases e1
          | some b =>
            rw [hA] at e1
            cases e1
            obtain ⟨k1, k2, k3⟩ := anyX_at g ht hA
            exact ⟨hσ, k1, ⟨_, hd⟩, b, k2, k3, q3⟩
        | _ => rw [hq] at q; exact q.elim
  by_cases hE : isExc W.G c = true
  · have T : ExK Y.K (W.ca c) := by rw [eK]; exact g.lib.exk c hE
    cases one with
    | true =>
      have hm : tyB W.G sc ts [t] = true := hm
      have hst : starB t = true := ty_star hm
      obtain ⟨t0, rfl⟩ : ∃ t0, ts = [t0] := by
        cases ts with
        | nil => cases t <;> cases hm
        | cons t0 r =>
          cases t with
          | Name y yp =>
            cases r with
            | nil => exact ⟨t0, rfl⟩
            | cons t1 r =>
              have := ba (show ((decide (y = tyN W.G t0) && (glB sc y && dbgB y)) && tyB W.G sc (t1 :: r) []) = true from hm)
              cases this.2
          | _ => cases hm
      have hp : PA (Y.suite a ((a, oe) :: pn)) [.Name y p1, t] (tCons (tVar i) fun _ H Q => Q [tyVv W t0] H) := pa_cons pv (pa_tys g ht hm) rfl
      refine PE.imp (pe_callB (call_isX T hz hf) (gl_of g hg) hfr hb hp n1 n2 rfl (plain_of (by simp [hst]))) fun σ H Q ⟨e, ph, s, hs, hr, q⟩ => ?_
      obtain ⟨hσ, _, ⟨fs, hd⟩, b, k2, k3, q3⟩ := fin hs hr q
      exact ⟨.ref a, hσ, tyVv W t0, tyVal W t0, b, fs, rfl, tyVv_cls t0, hd, eK ▸ k3 t0 rfl, q3.at hr (.bl _)⟩
    | false =>
      cases t with
      | Tuple es kk tp =>
        have hm : tyB W.G sc ts es = true := hm
        have hp : PA (Y.suite a ((a, oe) :: pn)) [.Name y p1, .Tuple es kk tp] (tCons (tVar i) (tCons (tTup (fun _ H Q => Q (ts.map (tyVv W)) H)) tNil)) := pa_cons pv (pa_cons (pe_tup (pa_tys g ht hm)) pa_nil rfl) rfl
        refine PE.imp (pe_callB (call_isXT T hz hf) (gl_of g hg) hfr hb hp n1 n2 rfl rfl) fun σ H Q ⟨e, ph, s, hs, hr, q⟩ => ?_
        obtain ⟨hσ, _, ⟨fs, hd⟩, b, k2, k3, q3⟩ := fin hs hr q
        refine ⟨.ref a, hσ, by rw [List.length_map, sizeLine_eq]; omega, fun tp htp => ?_⟩
        exact ⟨tp, ts.map (tyVv W), ts.map (tyVal W), b, fs, rfl, upd_same, vals_all, by rw [upd_ne (ne_of_none hd htp)]; exact hd, eK ▸ k2, q3 ph _ (.bl b) (Grow.fresh htp) (hr.fresh htp) (.bl _)⟩
      | _ => cases hm
  · refine ⟨fun pins s σ H Q I ⟨e, ph, m, hs, hr, q⟩ => ?_⟩
    exact absurd (fin hs hr q).2.1 hE
end
end Ev

set_option Elab.async false
set_option linter.all false
set_option maxRecDepth 100000
set_option autoImplicit false
/-! Ev: expressions: all of them. -/
namespace Ev
open PySem PySem.Spec PyProof.Rows L2
structure Cxt (W : Wd) (xa : Xa) (call : Call) (N : List Str) (k : Nat) (sc : Scope) (hot : Bool) (inl : Bool) (Wx : WX) (X : Cx) : Prop where
  gd : Gd W call N k sc hot Wx X
  cold : hot = false → xa = none
  warm : hot = true → xa = none ∨ HotOk W xa X
  gen : inl = false → hot = false → GenOk W k X
theorem matEs_star {G : Prog} {N : List Str} {inl hot : Bool} {sc : Scope} : ∀ {es : MEs} {xs : List PySem.Expr}, matEs G N inl hot sc es xs = true → xs.all starB = true ∧ NilOk es xs
  | .nil, [], _ => ⟨rfl, fun _ => rfl⟩
  | .cons a r, x :: xs, h => by
    unfold matEs at h
    obtain ⟨h1, h2⟩ := ba h
    obtain ⟨h2, h3⟩ := ba h2
    refine ⟨?_, fun z => by cases z⟩
    rw [List.all_cons, h1, (matEs_star h3).1]
    rfl
  | .nil, _ :: _, h => by unfold matEs at h; cases h
  | .cons _ _, [], h => by unfold matEs at h; cases h
theorem matEs_len {G : Prog} {N : List Str} {inl hot : Bool} {sc : Scope} : ∀ {es : MEs} {xs : List PySem.Expr}, matEs G N inl hot sc es xs = true → xs.length = lenM es
  | .nil, [], _ => rfl
  | .cons a r, x :: xs, h => by
    unfold matEs at h
    exact congrArg Nat.succ (matEs_len (ba (ba h).2).2)
  | .nil, _ :: _, h => by unfold matEs at h; cases h
  | .cons _ _, [], h => by unfold matEs at h; cases h
theorem dkB_of : ∀ {ks : List Str} {keys : List (Option PySem.Expr)}, dkB ks keys = true → keys.all (·.isSome) = true ∧ ks.length = keys.length
  | [], [], _ => ⟨rfl, rfl⟩
  | k :: ks, [], h => by cases h
  | [], _ :: _, h => by cases h
  | k :: ks, y :: keys, h => by
    unfold dkB at h
    split at h
    · rename_i q _; cases q
    · rename_i e1 e2
      cases e1
      cases e2
      obtain ⟨h1, h2⟩ := dkB_of (ba h).2
      exact ⟨by rw [List.all_cons, h1]; rfl, congrArg Nat.succ h2⟩
    · cases h
theorem Gd.hide {W : Wd} {call : Call} {N : List Str} {k : Nat} {sc : Scope} {hot : Bool} {Wx : WX} {X : Cx} (g : Gd W call N k sc hot Wx X) (hd : List Addr) : Gd { W with hd := hd } call N k sc hot Wx X :=
  ⟨g.lib.hide hd, g.eK, g.eN, g.nd, g.eS, g.hu, g.gu, g.tk, g.calm, g.room⟩
/-- the plain tests -/
def plnB : PySem.Expr → Bool
  | .UnaryOp .Not _ _ => false
  | .BoolOp _ _ _ => false
  | .IfExp _ _ _ _ => false
  | .Compare _ _ _ _ => false
  | _ => true
theorem pln_of {e : PySem.Expr} {env : PySem.Env} (h : plnB e = true) : ∀ whole, isTrue e env whole = (do let v ← whole; standAt e.pos; holding [v] (truthy v)) := by
  intro whole
  cases e <;> first | rfl | (cases h; done) | skip
  rename_i op x pos
  cases op <;> first | rfl | cases h
def isBool : PySem.Expr → Bool
  | .BoolOp _ _ _ => true
  | _ => false
set_option maxHeartbeats 4000000
theorem one_of {X : Cx} {op : BoolOp} {y : PySem.Expr} {t : TE} {pos : Pos} (h : PE X y t) : PE X (.BoolOp op [y] pos) t := pe_one h
theorem no_exv {W : Wd} {ph : List Addr} {H : Hp} {e : Env} {σ : L2.St} (h : RS W none ph H e σ) {j c' : Nat} {ks' : List Nat} {xs' : List Val} : e[j]? ≠ some (some (Val.exv c' ks' xs')) := fun z => by
  obtain ⟨_, _, _, q, _⟩ := h.exv j c' ks' xs' z
  cases q
theorem se_xno {W : Wd} {call : Call} {Wx : WX} {X : Cx} {i : Nat} {ts : List Ty} {one : Bool} {e : PySem.Expr} (_ : ∀ (e : Env) (s : Store), True = True) : Pe W none call Wx X (.xis i ts one) e := by
  refine ⟨fun pins s σ H Q I ⟨e, ph, m, hs, hr, q⟩ => ?_⟩
  exfalso
  unfold ev at q
  split at q
  · rename_i hq
    exact no_exv hs hq
  · exact q
theorem se_xno2 {W : Wd} {call : Call} {Wx : WX} {X : Cx} {i f : Nat} {e : PySem.Expr} (_ : ∀ (e : Env) (s : Store), True = True) : Pe W none call Wx X (.xat i f) e := by
  refine ⟨fun pins s σ H Q I ⟨e, ph, m, hs, hr, q⟩ => ?_⟩
  exfalso
  unfold ev at q
  split at q
  · rename_i hq
    exact no_exv hs hq
  · exact q
theorem sw_one1 {W : Wd} {xa : Xa} {call : Call} {Wx : WX} {X : Cx} {m : ME} {y : PySem.Expr} {pos : Pos} (h : Pt W xa call Wx X m y) : Pw W xa call Wx X m (.BoolOp .And [y] pos) := pw_and1 h
theorem sw_one2 {W : Wd} {xa : Xa} {call : Call} {Wx : WX} {X : Cx} {m : ME} {y : PySem.Expr} {pos : Pos} (h : Pt W xa call Wx X m y) : Pw W xa call Wx X m (.BoolOp .Or [y] pos) := pw_or1 h
mutual
theorem sE (m : ME) {W : Wd} {xa : Xa} {call : Call} {N : List Str} {k : Nat} {sc : Scope} {hot : Bool} {Wx : WX} {X : Cx} {inl : Bool} {e : PySem.Expr} (c : Cxt W xa call N k sc hot inl Wx X) (h : matE W.G N inl hot sc m e = true) : Pe W xa call Wx X m e := by
  cases m with
  | var i =>
    unfold matE at h
    split at h
    · exact se_var c.gd h
    · cases h
  | con v =>
    unfold matE at h
    split at h
    · exact se_con h
    · cases h
  | glb i =>
    unfold matE at h
    split at h
    · obtain ⟨h1, h2⟩ := ba h
      obtain ⟨h2, h3⟩ := ba h2
      exact se_glb c.gd h1 h2 h3
    · cases h
  | bin o a b =>
    unfold matE at h
    split at h
    · obtain ⟨h1, h2⟩ := ba h
      obtain ⟨h2, h3⟩ := ba h2
      obtain rfl := of_decide_eq_true h1
      exact se_bin c.gd (sE a c h2) (sE b c h3)
    · cases h
  | neg a =>
    unfold matE at h
    split at h
    · exact se_neg (sE a c h)
    · cases h
  | nt a =>
    unfold matE at h
    split at h
    · obtain ⟨h1, h2⟩ := ba h
      exact se_not c.gd (sE a c h2)
    · cases h
  | cmp o a b =>
    unfold matE at h
    split at h
    · obtain ⟨h1, h2⟩ := ba h
      obtain ⟨h1, h4⟩ := ba h1
      obtain ⟨h2, h3⟩ := ba h2
      obtain rfl := of_decide_eq_true h1
      exact se_cmp c.gd (ba h4).1 (sE a c h2) (sE b c h3)
    · cases h
  | cmo o a b =>
    unfold matE at h
    split at h
    · obtain ⟨h0, h⟩ := ba h
      obtain ⟨h1, h2⟩ := ba h
      obtain ⟨h1, h4⟩ := ba h1
      obtain ⟨h2, h3⟩ := ba h2
      obtain rfl := of_decide_eq_true h1
      exact se_cmo c.gd (by simpa using h0) (ba h4).1 (sE a c h2) (sE b c h3)
    · cases h
  | mlr a b =>
    unfold matE at h
    split at h
    · obtain ⟨h2, h3⟩ := ba h
      exact se_mlr c.gd (sE a c h2) (sE b c h3)
    · cases h
  | bno o a b =>
    unfold matE at h
    split at h
    · obtain ⟨h0, h⟩ := ba h
      obtain ⟨h1, h2⟩ := ba h
      obtain ⟨h2, h3⟩ := ba h2
      obtain rfl := of_decide_eq_true h1
      exact se_bno c.gd (by simpa using h0) (sE a c h2) (sE b c h3)
    · cases h
  | chn o p a b d =>
    unfold matE at h
    split at h
    · obtain ⟨h1, h2⟩ := ba h
      obtain ⟨h1, h5⟩ := ba h1
      obtain ⟨h1, h4⟩ := ba h1
      obtain ⟨h5, h6⟩ := ba h5
      obtain ⟨h2, h3⟩ := ba h2
      obtain ⟨h3, h7⟩ := ba h3
      obtain rfl := of_decide_eq_true h1
      obtain rfl := of_decide_eq_true h5
      exact se_chn c.gd (ba h6).1 (sE a c h2) (sE b c h3) (sE d c h7)
    · cases h
  | and a b =>
    unfold matE at h
    split at h
    · obtain ⟨h1, h2⟩ := ba h
      obtain ⟨h1, h3⟩ := ba h1
      split at h2
      · exact se_and c.gd (sE a c h3) (one_of (sE b c (ba h2).2))
      · exact se_and c.gd (sE a c h3) (sE b c h2)
    · cases h
  | or a b =>
    unfold matE at h
    split at h
    · obtain ⟨h1, h2⟩ := ba h
      obtain ⟨h1, h3⟩ := ba h1
      split at h2
      · exact se_or c.gd (sE a c h3) (one_of (sE b c (ba h2).2))
      · exact se_or c.gd (sE a c h3) (sE b c h2)
    · cases h
  | ite d a b =>
    unfold matE at h
    split at h
    · obtain ⟨h1, h2⟩ := ba h
      obtain ⟨h1, h3⟩ := ba h1
      obtain ⟨h2, h4⟩ := ba h2
      exact se_ite (sT d c h3 h1 (sE d c h3)) (sE a c h2) (sE b c h4)
    · cases h
  | tup es =>
    unfold matE at h
    split at h
    · exact se_tup (sEs es c h)
    · cases h
  | lst m es =>
    unfold matE at h
    split at h
    · exact se_lst (sEs es c h)
    · cases h
  | fnc f es =>
    unfold matE at h
    split at h
    · obtain ⟨h1, h2⟩ := ba h
      obtain ⟨h1, h3⟩ := ba h1
      obtain ⟨h3, h4⟩ := ba h3
      obtain ⟨h4, h5⟩ := ba h4
      obtain ⟨s1, s2⟩ := matEs_star h2
      exact se_fnc c.gd (by simpa using h1) (of_decide_eq_true h3) h4 h5 s1 s2 (sEs es c h2)
    · cases h
  | mk d es =>
    unfold matE at h
    split at h
    · obtain ⟨h1, h2⟩ := ba h
      obtain ⟨h1, h3⟩ := ba h1
      obtain ⟨h3, h4⟩ := ba h3
      obtain ⟨h4, h5⟩ := ba h4
      obtain ⟨s1, s2⟩ := matEs_star h2
      exact se_mk c.gd (by simpa using h1) (of_decide_eq_true h3) h4 h5 s1 s2 (sEs es c h2)
    · cases h
  | isi a ts one =>
    unfold matE at h
    split at h
    · obtain ⟨h1, h2⟩ := ba h
      obtain ⟨h1, h3⟩ := ba h1
      obtain ⟨h1, h4⟩ := ba h1
      obtain ⟨h2, h5⟩ := ba h2
      obtain ⟨h2, h6⟩ := ba h2
      obtain ⟨h6, h7⟩ := ba h6
      exact se_isi c.gd (of_decide_eq_true h1) h4 h3 h6 (of_decide_eq_true h7) h5 (sE a c h2)
    · cases h
  | xis i ts one =>
    unfold matE at h
    split at h
    · obtain ⟨h1, h2⟩ := ba h
      obtain ⟨h1, h3⟩ := ba h1
      obtain ⟨h1, h4⟩ := ba h1
      obtain ⟨h3, h5⟩ := ba h3
      obtain ⟨h2, h6⟩ := ba h2
      obtain ⟨h2, h7⟩ := ba h2
      rcases c.warm h1 with h8 | h8
      · subst h8
        exact se_xno (fun _ _ => rfl)
      exact se_xis c.gd h8 (of_decide_eq_true h4) h3 h5 h2 (of_decide_eq_true h7) h6
    · cases h
  | xat i f =>
    unfold matE at h
    split at h
    · obtain ⟨h1, h2⟩ := ba h
      obtain ⟨h1, h3⟩ := ba h1
      obtain ⟨h2, h4⟩ := ba h2
      rcases c.warm h1 with h8 | h8
      · subst h8
        exact se_xno2 (fun _ _ => rfl)
      exact se_xat c.gd h8 h3 (of_decide_eq_true h2) (by simpa using h4)
    · cases h
  | «bif» b m es =>
    cases es with
    | nil => unfold matE at h; cases h
    | cons a es =>
      unfold matE at h
      split at h
      · obtain ⟨h1, h2⟩ := ba h
        obtain ⟨h1, h3⟩ := ba h1
        obtain ⟨h2, h4⟩ := ba h2
        obtain ⟨h2, h6⟩ := ba h2
        obtain ⟨h2, h5⟩ := ba h2
        obtain ⟨s1, s2⟩ := matEs_star h4
        rw [List.all_cons] at s1
        exact se_bif c.gd (of_decide_eq_true h1) h3 h2 h5 (by simpa using h6) (ba s1).1 (ba s1).2 (sEs (.cons a es) c h4)
      · obtain ⟨q1, q2⟩ := ba h
        obtain ⟨q3, q4⟩ := ba q1
        obtain ⟨h1, h4⟩ := ba q3
        obtain ⟨q5, h5⟩ := ba q4
        obtain ⟨q6, h6⟩ := ba q2
        have hb := of_decide_eq_true q6
        have hz := of_decide_eq_true q5
        subst hb hz
        unfold matEs at h6
        obtain ⟨m1, h6⟩ := ba h6
        obtain ⟨m2, h6⟩ := ba h6
        cases es with
        | nil => unfold matEs at h6; cases h6
        | cons d r =>
          unfold matEs at h6
          obtain ⟨m3, h6⟩ := ba h6
          obtain ⟨m4, h6⟩ := ba h6
          cases r with
          | cons _ _ => unfold matEs at h6; cases h6
          | nil => exact se_maxd c.gd (of_decide_eq_true h1) h4 (by simpa using h5) m1 (ses_cons m1 (sE a c m2) ses_nil) (sE d c m4)
      · cases h
  | mth o kk es =>
    unfold matE at h
    split at h
    · obtain ⟨h1, h2⟩ := ba h
      obtain ⟨h1, h3⟩ := ba h1
      obtain ⟨h1, h4⟩ := ba h1
      obtain ⟨h4, h5⟩ := ba h4
      obtain ⟨h3, h6⟩ := ba h3
      obtain ⟨h3, h7⟩ := ba h3
      obtain ⟨h2, h8⟩ := ba h2
      obtain ⟨s1, s2⟩ := matEs_star h8
      exact se_mth c.gd (by simpa using h1) (of_decide_eq_true h3) (by simpa using h7) h6 h5 (of_decide_eq_true h4) s1 s2 (sE o c h2) (sEs es c h8)
    · cases h
  | lrg m a =>
    unfold matE at h
    split at h
    · obtain ⟨z1, z2⟩ := ba h
      obtain ⟨z3, z4⟩ := ba z1
      obtain ⟨z5, z6⟩ := ba z2
      obtain ⟨z7, z8⟩ := ba z5
      obtain ⟨k1, k2⟩ := ba z7
      obtain ⟨k3, k4⟩ := ba z8
      have hh : hot = false := by simpa using z3
      clear h z1 z2 z3 z5 z7 z8
      subst hh
      obtain rfl := c.cold rfl
      exact se_lrg c.gd (of_decide_eq_true k1) k2 (of_decide_eq_true k3) k4 z4 (sE a c z6)
    · cases h
  | btl a =>
    unfold matE at h
    split at h
    · obtain ⟨h1, h2⟩ := ba h
      obtain ⟨h1, h3⟩ := ba h1
      obtain ⟨h1, h4⟩ := ba h1
      exact se_btl c.gd h4 (of_decide_eq_true h1) h3 (sE a c h2)
    · cases h
  | lix o a =>
    unfold matE at h
    split at h
    · obtain ⟨h1, h2⟩ := ba h
      obtain ⟨h1, h3⟩ := ba h1
      obtain ⟨h1, h4⟩ := ba h1
      obtain ⟨h3, h5⟩ := ba h3
      obtain ⟨h2, h6⟩ := ba h2
      exact se_lix c.gd (of_decide_eq_true h1) h4 h3 h5 (sE o c h2) (sE a c h6)
    · cases h
  | ext o a =>
    unfold matE at h
    split at h
    · obtain ⟨h1, h2⟩ := ba h
      obtain ⟨h1, h3⟩ := ba h1
      obtain ⟨h1, h4⟩ := ba h1
      obtain ⟨h3, h5⟩ := ba h3
      obtain ⟨h2, h6⟩ := ba h2
      obtain rfl := of_decide_eq_true h1
      exact se_ext c.gd h4 h3 h5 (sE o c h2) (sE a c h6)
    · cases h
  | app o a =>
    unfold matE at h
    split at h
    · obtain ⟨h1, h2⟩ := ba h
      obtain ⟨h1, h3⟩ := ba h1
      obtain ⟨h1, h4⟩ := ba h1
      obtain ⟨h3, h5⟩ := ba h3
      obtain ⟨h2, h6⟩ := ba h2
      obtain rfl := of_decide_eq_true h1
      exact se_app c.gd h4 h3 h5 (sE o c h2) (sE a c h6)
    · cases h
  | att o f =>
    unfold matE at h
    split at h
    · obtain ⟨h1, h2⟩ := ba h
      obtain ⟨h1, h3⟩ := ba h1
      obtain ⟨h1, h4⟩ := ba h1
      exact se_att c.gd (of_decide_eq_true h1) (by simpa using h4) h3 (sE o c h2)
    · cases h
  | idx a b =>
    unfold matE at h
    split at h
    · obtain ⟨h1, h2⟩ := ba h
      obtain ⟨h2, h3⟩ := ba h2
      exact se_idx c.gd h1 (sE a c h2) (sE b c h3)
    · cases h
  | dgt a b =>
    unfold matE at h
    split at h
    · obtain ⟨h1, h2⟩ := ba h
      obtain ⟨h2, h3⟩ := ba h2
      exact se_dgt c.gd h1 (sE a c h2) (sE b c h3)
    · cases h
  | dsp ks es =>
    unfold matE at h
    split at h
    · obtain ⟨z1, z2⟩ := ba h
      obtain ⟨z3, z4⟩ := ba z1
      obtain ⟨z5, z6⟩ := ba z3
      obtain ⟨z7, z8⟩ := ba z4
      obtain ⟨z9, za⟩ := ba z7
      have hh : hot = false := by simpa using z8
      clear h z1 z3 z4 z7 z8
      subst hh
      obtain rfl := c.cold rfl
      obtain ⟨m1, m4⟩ := dkB_of z5
      have hl := of_decide_eq_true z6
      exact se_dsp c.gd (sD es c z5 z2 hl) m1 hl (fun z => by subst z; rw [List.length_nil] at m4; rw [List.length_eq_zero_iff.mp m4] at z9; cases z9) (by rw [← m4]; exact of_decide_eq_true za) (by rw [m4, hl]; exact matEs_len z2) m4
    · cases h
  | lno a =>
    unfold matE at h
    split at h
    · obtain ⟨h1, h2⟩ := ba h
      obtain ⟨h1, h3⟩ := ba h1
      obtain ⟨h1, h4⟩ := ba h1
      obtain ⟨h3, h5⟩ := ba h3
      exact se_lno c.gd (by simpa using h1) (of_decide_eq_true h3) h5 h4 (sE a c h2)
    · cases h
  | rep a =>
    unfold matE at h
    split at h
    · obtain ⟨h1, h2⟩ := ba h
      obtain ⟨h1, h3⟩ := ba h1
      obtain ⟨h2, h4⟩ := ba h2
      exact se_rep c.gd (of_decide_eq_true h1) h3 h2 (sE a c h4)
    · cases h
  | ino n a b =>
    unfold matE at h
    split at h
    · obtain ⟨h0, h⟩ := ba h
      obtain ⟨h1, h2⟩ := ba h
      obtain ⟨h1, h4⟩ := ba h1
      obtain ⟨h2, h3⟩ := ba h2
      obtain rfl := of_decide_eq_true h1
      exact se_ino c.gd (by simpa using h0) h4 (sE a c h2) (sE b c h3)
    · cases h
  | mkk d es ks ke => unfold matE at h; cases h
  | slc a lo hi =>
    unfold matE at h
    split at h
    · obtain ⟨h1, h2⟩ := ba h
      obtain ⟨h2, h3⟩ := ba h2
      exact se_slc c.gd (sE a c h1) (sO lo c h2) (sO hi c h3)
    · cases h
  | rvs a =>
    unfold matE at h
    split at h
    · obtain ⟨h1, h2⟩ := ba h
      unfold minus1 at h2
      split at h2
      · obtain rfl := beq_iff_eq.mp h2
        exact se_rvs c.gd (sE a c h1)
      · cases h2
    · cases h
  | lc m tg it cs el =>
    unfold matE at h
    split at h
    · obtain ⟨h1, h2⟩ := ba h
      obtain ⟨h2, h3⟩ := ba h2
      obtain ⟨h2, h4⟩ := ba h2
      obtain ⟨h4, h5⟩ := ba h4
      obtain ⟨h3, h6⟩ := ba h3
      obtain ⟨h3, h7⟩ := ba h3
      obtain ⟨h6, h8⟩ := ba h6
      obtain rfl := beq_iff_eq.mp h2
      have hh : hot = false := by simpa using h1
      subst hh
      obtain rfl := c.cold rfl
      exact se_lc c.gd (sI it c h3) h4 h7 h5 (fun hd X' g' => sC (inl := true) cs ⟨g', fun _ => rfl, (fun z => nomatch z), (fun z => nomatch z)⟩ h6) (fun hd X' g' => sE (inl := true) el ⟨g', fun _ => rfl, (fun z => nomatch z), (fun z => nomatch z)⟩ h8)
    · cases h
  | lc2 m tg it cs tg1 it1 cs1 el =>
    unfold matE at h
    split at h
    · obtain ⟨h1, h2⟩ := ba h
      obtain ⟨h2, h3⟩ := ba h2
      obtain ⟨h2, h4⟩ := ba h2
      obtain ⟨h2, h5⟩ := ba h2
      obtain ⟨h5, h6⟩ := ba h5
      obtain ⟨h4, h7⟩ := ba h4
      obtain ⟨h7, h8⟩ := ba h7
      obtain ⟨h3, h9⟩ := ba h3
      obtain ⟨h3, h10⟩ := ba h3
      obtain ⟨h9, h11⟩ := ba h9
      obtain ⟨h9, h12⟩ := ba h9
      obtain ⟨h11, h13⟩ := ba h11
      obtain rfl := beq_iff_eq.mp h2
      obtain rfl := beq_iff_eq.mp h4
      have hh : hot = false := by simpa using h1
      subst hh
      obtain rfl := c.cold rfl
      exact se_lc2 c.gd (sI it c h3) h5 h7 h10 h6 h8 (fun hd X' g' => sC (inl := true) cs ⟨g', fun _ => rfl, (fun z => nomatch z), (fun z => nomatch z)⟩ h9) (fun hd X' g' => sI (inl := true) it1 ⟨g', fun _ => rfl, (fun z => nomatch z), (fun z => nomatch z)⟩ h11) (fun hd X' g' => sC (inl := true) cs1 ⟨g', fun _ => rfl, (fun z => nomatch z), (fun z => nomatch z)⟩ h12) (fun hd X' g' => sE (inl := true) el ⟨g', fun _ => rfl, (fun z => nomatch z), (fun z => nomatch z)⟩ h13)
    · cases h
  | fnk f es ks ke ds =>
    unfold matE at h
    split at h
    · obtain ⟨h1, h2⟩ := ba h
      obtain ⟨h2, h3⟩ := ba h2
      obtain ⟨h2, h4⟩ := ba h2
      obtain ⟨h4, h5⟩ := ba h4
      obtain ⟨h3, h6⟩ := ba h3
      obtain ⟨h6, h7⟩ := ba h6
      split at h3
      · rename_i F hF
        obtain ⟨h8, h9⟩ := ba h3
        obtain ⟨h9, h10⟩ := ba h9
        obtain ⟨h10, h11⟩ := ba h10
        obtain ⟨m1, m2⟩ := matEs_star h6
        exact se_fnk c.gd (by simpa using h1) hF (of_decide_eq_true h2) h4 h5 m1 m2 h8 (of_decide_eq_true h9) (of_decide_eq_true h10) (of_decide_eq_true h11) (sEs es c h6) (sK ke c h7)
      · cases h3
    · cases h
  | gen kk tg it cs el =>
    unfold matE at h
    split at h
    · obtain ⟨a1, a2⟩ := ba h
      obtain ⟨a3, hk⟩ := ba a1
      obtain ⟨a4, a5⟩ := ba a3
      obtain ⟨a6, a7⟩ := ba a2
      obtain ⟨a8, h4⟩ := ba a6
      obtain ⟨b1, b2⟩ := ba a7
      obtain ⟨b3, b4⟩ := ba b1
      obtain ⟨b5, h7⟩ := ba b4
      obtain ⟨h6, h8⟩ := ba b5
      obtain ⟨b6, b7⟩ := ba b2
      obtain ⟨h5, b8⟩ := ba b6
      obtain ⟨h10, h11⟩ := ba b8
      obtain ⟨h9, h12⟩ := ba b7
      have hx := of_decide_eq_true a8
      have hh : hot = false := by simpa using a4
      have hi : inl = false := by simpa using a5
      obtain rfl := beq_iff_eq.mp b3
      clear h a1 a2 a3 a4 a5 a6 a7 a8 b1 b2 b3 b4 b5 b6 b7 b8
      subst hh
      subst hi
      obtain rfl := c.cold rfl
      have go := c.gen rfl rfl
      cases kk with
      | all => exact se_genAll c.gd go hx h4 (sI it c h5) h6 h8 h10 h11 h7 (fun hd X' g' => sC (inl := true) cs ⟨g', fun _ => rfl, (fun z => nomatch z), (fun z => nomatch z)⟩ h9) (fun hd X' g' => sE (inl := true) el ⟨g', fun _ => rfl, (fun z => nomatch z), (fun z => nomatch z)⟩ h12)
      | any => exact se_genAny c.gd go hx h4 (sI it c h5) h6 h8 h10 h11 h7 (fun hd X' g' => sC (inl := true) cs ⟨g', fun _ => rfl, (fun z => nomatch z), (fun z => nomatch z)⟩ h9) (fun hd X' g' => sE (inl := true) el ⟨g', fun _ => rfl, (fun z => nomatch z), (fun z => nomatch z)⟩ h12)
      | sum => exact se_genSum c.gd go hx h4 (sI it c h5) h6 h8 h10 h11 h7 (fun hd X' g' => sC (inl := true) cs ⟨g', fun _ => rfl, (fun z => nomatch z), (fun z => nomatch z)⟩ h9) (fun hd X' g' => sE (inl := true) el ⟨g', fun _ => rfl, (fun z => nomatch z), (fun z => nomatch z)⟩ h12)
      | tuple => exact se_genTup c.gd go hx h4 (sI it c h5) h6 h8 h10 h11 h7 (fun hd X' g' => sC (inl := true) cs ⟨g', fun _ => rfl, (fun z => nomatch z), (fun z => nomatch z)⟩ h9) (fun hd X' g' => sE (inl := true) el ⟨g', fun _ => rfl, (fun z => nomatch z), (fun z => nomatch z)⟩ h12)
      | max => exact se_genMax c.gd go hx h4 (sI it c h5) h6 h8 h10 h11 h7 (fun hd X' g' => sC (inl := true) cs ⟨g', fun _ => rfl, (fun z => nomatch z), (fun z => nomatch z)⟩ h9) (fun hd X' g' => sE (inl := true) el ⟨g', fun _ => rfl, (fun z => nomatch z), (fun z => nomatch z)⟩ h12)
    · cases h
/-- a display's pairs -/
theorem sD (es : MEs) {W : Wd} {call : Call} {N : List Str} {k : Nat} {sc : Scope} {Wx : WX} {X : Cx} {inl : Bool} {ks : List Str} {keys : List (Option PySem.Expr)} {vals : List PySem.Expr} {pos : Pos} (c : Cxt W none call N k sc false inl Wx X) (hk : dkB ks keys = true) (h : matEs W.G N true false sc es vals = true) (hl : keys.length = vals.length) : PPs X pos keys vals (trsOf W call Wx ks es) := by
  cases es with
  | nil =>
    cases vals with
    | nil =>
      cases keys with
      | nil =>
        cases ks with
        | nil => exact pps_of c.gd
        | cons _ _ => cases hk
      | cons _ _ => cases hl
    | cons _ _ => unfold matEs at h; cases h
  | cons a r =>
    cases vals with
    | nil => unfold matEs at h; cases h
    | cons v vals =>
      unfold matEs at h
      obtain ⟨h1, h2⟩ := ba h
      obtain ⟨h2, h3⟩ := ba h2
      cases keys with
      | nil => cases hl
      | cons y keys =>
        cases ks with
        | nil => cases hk
        | cons x ks =>
          unfold dkB at hk
          split at hk
          · rename_i q _; cases q
          · rename_i e1 e2
            cases e1
            cases e2
            obtain ⟨k1, k2⟩ := ba hk
            obtain ⟨k1, k3⟩ := ba k1
            obtain rfl := beq_iff_eq.mp k1
            exact pps_add c.gd (of_decide_eq_true k3) (fun hd => sE (inl := true) a ⟨c.gd.hide hd, fun _ => rfl, (fun z => nomatch z), (fun z => nomatch z)⟩ h2) (sD r c k2 h3 (Nat.succ.inj hl))
          · cases hk
theorem sT (m : ME) {W : Wd} {xa : Xa} {call : Call} {N : List Str} {k : Nat} {sc : Scope} {hot : Bool} {Wx : WX} {X : Cx} {inl : Bool} {e : PySem.Expr} (c : Cxt W xa call N k sc hot inl Wx X) (h : matE W.G N inl hot sc m e = true) (ht : tstB e = true) (he : Pe W xa call Wx X m e) : Pt W xa call Wx X m e := by
  cases m with
  | nt a =>
    unfold matE at h
    split at h
    · obtain ⟨h1, h2⟩ := ba h
      exact st_not (sT a c h2 h1 (sE a c h2))
    · cases h
  | cmp o a b =>
    unfold matE at h
    split at h
    · obtain ⟨h1, h2⟩ := ba h
      obtain ⟨h1, h4⟩ := ba h1
      obtain ⟨h2, h3⟩ := ba h2
      obtain rfl := of_decide_eq_true h1
      exact st_cmp c.gd (ba h4).1 (sE a c h2) (sE b c h3)
    · cases h
  | cmo o a b =>
    unfold matE at h
    split at h
    · obtain ⟨h0, h⟩ := ba h
      obtain ⟨h1, h2⟩ := ba h
      obtain ⟨h1, h4⟩ := ba h1
      obtain ⟨h2, h3⟩ := ba h2
      obtain rfl := of_decide_eq_true h1
      exact st_cmo c.gd (by simpa using h0) (ba h4).1 (sE a c h2) (sE b c h3)
    · cases h
  | ino n a b =>
    unfold matE at h
    split at h
    · obtain ⟨h0, h⟩ := ba h
      obtain ⟨h1, h2⟩ := ba h
      obtain ⟨h1, h4⟩ := ba h1
      obtain ⟨h2, h3⟩ := ba h2
      obtain rfl := of_decide_eq_true h1
      exact st_ino c.gd (by simpa using h0) h4 (sE a c h2) (sE b c h3)
    · cases h
  | mkk d es ks ke => unfold matE at h; cases h
  | chn o p a b d =>
    unfold matE at h
    split at h
    · obtain ⟨h1, h2⟩ := ba h
      obtain ⟨h1, h5⟩ := ba h1
      obtain ⟨h1, h4⟩ := ba h1
      obtain ⟨h5, h6⟩ := ba h5
      obtain ⟨h2, h3⟩ := ba h2
      obtain ⟨h3, h7⟩ := ba h3
      obtain rfl := of_decide_eq_true h1
      obtain rfl := of_decide_eq_true h5
      exact st_chn c.gd (ba h6).1 (sE a c h2) (sE b c h3) (sE d c h7)
    · cases h
  | and a b =>
    unfold matE at h
    split at h
    · obtain ⟨h1, h2⟩ := ba h
      obtain ⟨h1, h3⟩ := ba h1
      split at h2
      · obtain ⟨h4, h5⟩ := ba h2
        exact (sw_and (sT a c h3 h1 (sE a c h3)) (sw_one1 (sT b c h5 h4 (sE b c h5)))).pt
      · exact (sw_and (sT a c h3 h1 (sE a c h3)) (sW b c h2 rfl)).pt
    · cases h
  | or a b =>
    unfold matE at h
    split at h
    · obtain ⟨h1, h2⟩ := ba h
      obtain ⟨h1, h3⟩ := ba h1
      split at h2
      · obtain ⟨h4, h5⟩ := ba h2
        exact (sw_or (sT a c h3 h1 (sE a c h3)) (sw_one2 (sT b c h5 h4 (sE b c h5)))).pt
      · exact (sw_or (sT a c h3 h1 (sE a c h3)) (sW b c h2 rfl)).pt
    · cases h
  | ite d a b =>
    unfold matE at h
    split at h
    · cases ht
    · cases h
  | «bif» b mm es =>
    cases es with
    | nil => unfold matE at h; cases h
    | cons a es =>
      refine st_gen c.gd he (pln_of ?_)
      unfold matE at h
      split at h
      · rfl
      · rfl
      · cases h
  | neg a =>
    refine st_gen c.gd he (pln_of ?_)
    unfold matE at h
    split at h
    · rfl
    · cases h
  | gen kk tg it cs el =>
    refine st_gen c.gd he (pln_of ?_)
    unfold matE at h
    split at h
    · rfl
    · cases h
  | _ =>
    refine st_gen c.gd he (pln_of ?_)
    unfold matE at h
    split at h
    · rfl
    · cases h
theorem sW (m : ME) {W : Wd} {xa : Xa} {call : Call} {N : List Str} {k : Nat} {sc : Scope} {hot : Bool} {Wx : WX} {X : Cx} {inl : Bool} {e : PySem.Expr} (c : Cxt W xa call N k sc hot inl Wx X) (h : matE W.G N inl hot sc m e = true) (hb : isBool e = true) : Pw W xa call Wx X m e := by
  cases m with
  | and a b =>
    unfold matE at h
    split at h
    · obtain ⟨h1, h2⟩ := ba h
      obtain ⟨h1, h3⟩ := ba h1
      split at h2
      · obtain ⟨h4, h5⟩ := ba h2
        exact sw_and (sT a c h3 h1 (sE a c h3)) (sw_one1 (sT b c h5 h4 (sE b c h5)))
      · exact sw_and (sT a c h3 h1 (sE a c h3)) (sW b c h2 rfl)
    · cases h
  | or a b =>
    unfold matE at h
    split at h
    · obtain ⟨h1, h2⟩ := ba h
      obtain ⟨h1, h3⟩ := ba h1
      split at h2
      · obtain ⟨h4, h5⟩ := ba h2
        exact sw_or (sT a c h3 h1 (sE a c h3)) (sw_one2 (sT b c h5 h4 (sE b c h5)))
      · exact sw_or (sT a c h3 h1 (sE a c h3)) (sW b c h2 rfl)
    · cases h
  | «bif» b mm es =>
    cases es with
    | nil => unfold matE at h; cases h
    | cons a es =>
      unfold matE at h
      split at h
      · cases hb
      · cases hb
      · cases h
  | gen kk tg it cs el =>
    unfold matE at h
    split at h
    · cases hb
    · cases h
  | mkk d es ks ke => unfold matE at h; cases h
  | _ =>
    unfold matE at h
    split at h
    · cases hb
    · cases h
theorem sEs (m : MEs) {W : Wd} {xa : Xa} {call : Call} {N : List Str} {k : Nat} {sc : Scope} {hot : Bool} {Wx : WX} {X : Cx} {inl : Bool} {es : List PySem.Expr} (c : Cxt W xa call N k sc hot inl Wx X) (h : matEs W.G N inl hot sc m es = true) : Pa W xa call Wx X m es := by
  cases m with
  | nil =>
    cases es with
    | nil => exact ses_nil
    | cons _ _ => unfold matEs at h; cases h
  | cons a r =>
    cases es with
    | nil => unfold matEs at h; cases h
    | cons x xs =>
      unfold matEs at h
      obtain ⟨h1, h2⟩ := ba h
      obtain ⟨h2, h3⟩ := ba h2
      exact ses_cons h1 (sE a c h2) (sEs r c h3)
theorem sK (m : MEs) {W : Wd} {xa : Xa} {call : Call} {N : List Str} {k : Nat} {sc : Scope} {hot : Bool} {Wx : WX} {X : Cx} {inl : Bool} {kws : List Keyword} (c : Cxt W xa call N k sc hot inl Wx X) (h : matEs W.G N inl hot sc m (kws.map kwV) = true) : Pk W xa call Wx X m kws := by
  cases m with
  | nil =>
    cases kws with
    | nil => exact sks_nil
    | cons _ _ => rw [List.map_cons] at h; unfold matEs at h; cases h
  | cons a r =>
    cases kws with
    | nil => rw [List.map_nil] at h; unfold matEs at h; cases h
    | cons x xs =>
      rw [List.map_cons] at h
      unfold matEs at h
      obtain ⟨h1, h2⟩ := ba h
      obtain ⟨h2, h3⟩ := ba h2
      obtain ⟨nm, v, p⟩ := x
      exact sks_cons (sE a c h2) (sK r c h3)
theorem sO (m : MEs) {W : Wd} {xa : Xa} {call : Call} {N : List Str} {k : Nat} {sc : Scope} {hot : Bool} {Wx : WX} {X : Cx} {inl : Bool} {l : Option PySem.Expr} (c : Cxt W xa call N k sc hot inl Wx X) (h : (match l with
      | none => matEs W.G N inl hot sc m []
      | some y => matEs W.G N inl hot sc m [y]) = true) : PO X l (tPo W xa call m Wx) := by
  cases m with
  | nil =>
    cases l with
    | none => exact po_nil
    | some y => simp only at h; unfold matEs at h; cases h
  | cons a r =>
    cases l with
    | none => simp only at h; unfold matEs at h; cases h
    | some y =>
      simp only at h
      unfold matEs at h
      obtain ⟨h1, h2⟩ := ba h
      obtain ⟨h4, h3⟩ := ba h2
      clear h h2
      cases r with
      | nil => exact po_one (sE a c h4)
      | cons _ _ => unfold matEs at h3; cases h3
theorem sC (m : MEs) {W : Wd} {xa : Xa} {call : Call} {N : List Str} {k : Nat} {sc : Scope} {Wx : WX} {X : Cx} {inl : Bool} {fs : List PySem.Expr} (c : Cxt W xa call N k sc false inl Wx X) (h : matC W.G N inl sc m fs = true) : PTs X fs (tEvC W xa call m Wx) := by
  cases m with
  | nil =>
    unfold matC at h
    split at h
    · exact sc_nil
    · rename_i heq; cases heq
    · cases h
  | cons a r =>
    cases r with
    | nil =>
      cases fs with
      | nil => unfold matC at h; cases h
      | cons x xs =>
        cases xs with
        | nil =>
          unfold matC at h
          obtain ⟨h1, h2⟩ := ba h
          exact sc_one (sT a c h2 h1 (sE a c h2))
        | cons _ _ => unfold matC at h; cases h
    | cons _ _ => unfold matC at h; cases h
theorem sI (m : IT) {W : Wd} {xa : Xa} {call : Call} {N : List Str} {k : Nat} {sc : Scope} {hot : Bool} {Wx : WX} {X : Cx} {inl : Bool} {t e : PySem.Expr} (c : Cxt W xa call N k sc hot inl Wx X) (h : matI W.G N inl hot sc m t e = true) : PI X t e (iEv W xa call m Wx) := by
  cases m with
  | val a =>
    unfold matI at h
    exact si_val c.gd (sE a c h)
  | rng a =>
    unfold matI at h
    split at h
    · obtain ⟨h1, h2⟩ := ba h
      obtain ⟨h1, h3⟩ := ba h1
      obtain ⟨h2, h4⟩ := ba h2
      obtain rfl := of_decide_eq_true h1
      exact si_rng c.gd rfl h3 h2 (sE a c h4)
    · cases h
  | rng2 a b =>
    unfold matI at h
    split at h
    · obtain ⟨h1, h2⟩ := ba h
      obtain ⟨h1, h3⟩ := ba h1
      obtain ⟨h2, h4⟩ := ba h2
      obtain ⟨h2, h5⟩ := ba h2
      obtain ⟨h4, h6⟩ := ba h4
      obtain rfl := of_decide_eq_true h1
      exact si_rng2 c.gd rfl h3 h2 h5 (sE a c h4) (sE b c h6)
    · cases h
  | rng3 a b d =>
    unfold matI at h
    split at h
    · obtain ⟨h1, h2⟩ := ba h
      obtain ⟨h1, h3⟩ := ba h1
      obtain ⟨h2, h4⟩ := ba h2
      obtain ⟨h2, h5⟩ := ba h2
      obtain ⟨h5, h7⟩ := ba h5
      obtain ⟨h4, h6⟩ := ba h4
      obtain ⟨h6, h8⟩ := ba h6
      obtain rfl := of_decide_eq_true h1
      exact si_rng3 c.gd rfl h3 h2 h5 h7 (sE a c h4) (sE b c h6) (sE d c h8)
    · cases h
  | zip a b =>
    unfold matI at h
    obtain ⟨h0, hz⟩ := ba h
    clear h
    cases t with
    | Tuple elts kk tp =>
      split at hz
      · obtain ⟨h1, h2⟩ := ba hz
        obtain ⟨h1, h3⟩ := ba h1
        obtain ⟨h2, h4⟩ := ba h2
        obtain ⟨h2, h5⟩ := ba h2
        obtain ⟨h4, h6⟩ := ba h4
        obtain rfl := of_decide_eq_true h1
        exact si_zip c.gd rfl h3 h2 h5 (sE a c h4) (sE b c h6)
      · cases hz
    | _ => cases h0
  | enm a =>
    unfold matI at h
    obtain ⟨h0, hz⟩ := ba h
    clear h
    cases t with
    | Tuple elts kk tp =>
      split at hz
      · obtain ⟨h1, h2⟩ := ba hz
        obtain ⟨h1, h3⟩ := ba h1
        obtain ⟨h2, h4⟩ := ba h2
        obtain rfl := of_decide_eq_true h1
        exact si_enm c.gd rfl h3 h2 (sE a c h4)
      · cases hz
    | _ => cases h0
  | rev a =>
    unfold matI at h
    split at h
    · obtain ⟨h1, h2⟩ := ba h
      obtain ⟨h1, h3⟩ := ba h1
      obtain ⟨h2, h4⟩ := ba h2
      obtain rfl := of_decide_eq_true h1
      exact si_rev c.gd rfl h3 h2 (sE a c h4)
    · cases h
end
end Ev

set_option Elab.async false
set_option linter.all false
set_option maxRecDepth 100000
set_option autoImplicit false
/-! Ev: statements. -/
namespace Ev
open PySem PySem.Spec PyProof.Rows L2
/-- what is wanted of a block's outcome -/
def PO (W : Wd) (xa : Xa) (D : Ends) (Wx : WX) (ph : List Addr) (H : Hp) : O → Prop
  | .nx e s => ∀ ph' H' σ', Grow ph H ph' H' → Rep W ph' s H' → RS W xa ph' H' e σ' → D.nx σ' H'
  | .bk e s => ∀ ph' H' σ', Grow ph H ph' H' → Rep W ph' s H' → RS W xa ph' H' e σ' → D.bk σ' H'
  | .ct e s => ∀ ph' H' σ', Grow ph H ph' H' → Rep W ph' s H' → RS W xa ph' H' e σ' → D.ct σ' H'
  | .rt x s => ∀ ph' H' v, Grow ph H ph' H' → Rep W ph' s H' → VR W ph' H' x v → D.rt v H'
  | .ex c ks xs e s => ∀ ph' H' σ' d vs, Grow ph H ph' H' → Rep W ph' s H' → RS W xa ph' H' e σ' → H' d = some (.xd (nmF W ks vs)) → ks.length = xs.length → VRs W ph' H' xs vs → Wx (.ref (W.ca c)) (some d) σ' H'
  | .stk => False
section
variable {W : Wd} {xa : Xa} {call : Call} {N : List Str} {k : Nat} {sc : Scope} {hot : Bool} {X : Cx} {Wx : WX} {pos p p1 : Pos} {x y : Str} {ph ph' : List Addr} {H H' : Hp} {D : Ends} {e : Env} {s : Store} {σ : L2.St}
theorem PO.grow (g : Grow ph H ph' H') : ∀ {o : O}, PO W xa D Wx ph H o → PO W xa D Wx ph' H' o
  | .nx _ _, h => fun p2 H2 s2 g2 => h p2 H2 s2 (g.trans g2)
  | .bk _ _, h => fun p2 H2 s2 g2 => h p2 H2 s2 (g.trans g2)
  | .ct _ _, h => fun p2 H2 s2 g2 => h p2 H2 s2 (g.trans g2)
  | .rt _ _, h => fun p2 H2 s2 g2 => h p2 H2 s2 (g.trans g2)
  | .ex _ _ _ _ _, h => fun p2 H2 s2 d vs g2 => h p2 H2 s2 d vs (g.trans g2)
  | .stk, h => h
theorem PO.mo {γ : Type} {f : γ → Store → O} : Mo (fun x m ph1 H1 => PO W xa D Wx ph1 H1 (f x m)) := fun _ _ _ _ _ _ g h => PO.grow g h
theorem PO.fst {γ : Type} {r : R γ} {f : γ → Store → O} (hs : RS W xa ph H e σ) (hr : Rep W ph s H) (h : PO W xa D Wx ph H (r.thenO e f)) : PR W ph H (fun v m ph1 H1 => PO W xa D Wx ph1 H1 (f v m)) (fun c d H' => Wx c d σ H') r := by
  cases r with
  | ok x m => exact h
  | stk => exact h
  | ex c ks xs m => exact fun ph' H' d vs g r hd hl hv => h ph' H' σ d vs g r (hs.grow hr g) hd hl hv
def tSv (W : Wd) (xa : Xa) (call : Call) (m : MS) (Wx : WX) : TS := fun D σ H => ∃ (e : Env) (ph : List Addr) (s : Store), RS W xa ph H e σ ∧ Rep W ph s H ∧ PO W xa D Wx ph H (sv W.G call m e s)
def tSvs (W : Wd) (xa : Xa) (call : Call) (m : MSs) (Wx : WX) : TS := fun D σ H => ∃ (e : Env) (ph : List Addr) (s : Store), RS W xa ph H e σ ∧ Rep W ph s H ∧ PO W xa D Wx ph H (svs W.G call m e s)
abbrev Ps (W : Wd) (xa : Xa) (call : Call) (Wx : WX) (X : Cx) (m : MS) (st : PySem.Stmt) : Prop := PS X st (tSv W xa call m Wx)
abbrev Pss (W : Wd) (xa : Xa) (call : Call) (Wx : WX) (X : Cx) (m : MSs) (st : List PySem.Stmt) : Prop := PSs X st (tSvs W xa call m Wx)
theorem PS.imp {st : PySem.Stmt} {t t' : TS} (h : PS X st t) (i : ∀ D σ H, t' D σ H → t D σ H) : PS X st t' := ⟨fun pins s σ H D I q => h.run pins s σ H D I (i D σ H q)⟩
theorem PSs.imp {st : List PySem.Stmt} {t t' : TS} (h : PSs X st t) (i : ∀ D σ H, t' D σ H → t D σ H) : PSs X st t' := ⟨fun pins s σ H D I q => h.run pins s σ H D I (i D σ H q)⟩

/-! ### small ones -/
theorem ss_nil : Pss W xa call Wx X .nil [] := by
  refine PSs.imp pss_nil fun D σ H ⟨e, ph, s, hs, hr, q⟩ => ?_
  unfold svs at q
  exact q ph H σ .refl hr hs
theorem ss_cons {a : MS} {r : MSs} {st : PySem.Stmt} {rest : List PySem.Stmt} (h1 : Ps W xa call Wx X a st) (h2 : Pss W xa call Wx X r rest) : Pss W xa call Wx X (.cons a r) (st :: rest) := by
  refine PSs.imp (pss_cons h1 h2) fun D σ H ⟨e, ph, s, hs, hr, q⟩ => ⟨e, ph, s, hs, hr, ?_⟩
  unfold svs at q
  cases h : sv W.G call a e s with
  | nx e1 s1 => rw [h] at q; exact fun ph1 H1 σ1 g1 r1 rs1 => ⟨e1, ph1, s1, rs1, r1, PO.grow g1 q⟩
  | bk _ _ => rw [h] at q; exact q
  | ct _ _ => rw [h] at q; exact q
  | rt _ _ => rw [h] at q; exact q
  | ex _ _ _ _ _ => rw [h] at q; exact q
  | stk => rw [h] at q; exact q
theorem ss_brk : Ps W xa call Wx X .brk (.Break pos) := PS.imp ps_break fun D σ H ⟨e, ph, s, hs, hr, q⟩ => by unfold sv at q; exact q ph H σ .refl hr hs
theorem ss_cnt : Ps W xa call Wx X .cnt (.Continue pos) := PS.imp ps_continue fun D σ H ⟨e, ph, s, hs, hr, q⟩ => by unfold sv at q; exact q ph H σ .refl hr hs
theorem ss_pas : Ps W xa call Wx X .pas (.Pass pos) := PS.imp ps_pass fun D σ H ⟨e, ph, s, hs, hr, q⟩ => by unfold sv at q; exact q ph H σ .refl hr hs
theorem ss_retN : Ps W xa call Wx X .retN (.Return none pos) := PS.imp ps_retN fun D σ H ⟨e, ph, s, hs, hr, q⟩ => by unfold sv at q; exact q ph H .non .refl hr .non
theorem ss_ret {a : ME} {v : PySem.Expr} (h : Pe W xa call Wx X a v) : Ps W xa call Wx X (.ret a) (.Return (some v) pos) := by
  refine PS.imp (ps_ret h) fun D σ H ⟨e, ph, s, hs, hr, q⟩ => ?_
  unfold sv at q
  exact tEv_of hs hr PO.mo (PO.fst hs hr q) fun x s1 ph1 H1 v g1 r1 v1 hs1 q1 => q1 ph1 H1 v .refl r1 v1
theorem swap_no {v : PySem.Expr} {t : Option PySem.Expr} {l : Nat} {env : PySem.Env} (h : lcB v = true) : swapsWith v t l env = pure false := by
  cases v <;> first | rfl | cases h
theorem swap_other {v t : PySem.Expr} {l : Nat} {env : PySem.Env} (h : ∀ x p, t ≠ .Name x p) : swapsWith v (some t) l env = pure false := by
  cases v <;> first | rfl | (cases t <;> first | rfl | exact absurd rfl (h _ _))
theorem sole_other {v t : PySem.Expr} {l : Nat} {env : PySem.Env} (h : ∀ x p, t ≠ .Name x p) : swapsWithSole [t] v l env = pure false := swap_other h
theorem ss_expr {a : ME} {v : PySem.Expr} (hl : lcB v = true) (h : Pe W xa call Wx X a v) : Ps W xa call Wx X (.expr a) (.Expr v pos) := by
  refine PS.imp (ps_expr h (swap_no hl)) fun D σ H ⟨e, ph, s, hs, hr, q⟩ => ?_
  unfold sv at q
  exact tEv_of hs hr PO.mo (PO.fst hs hr q) fun x s1 ph1 H1 v g1 r1 v1 hs1 q1 => q1 ph1 H1 σ .refl r1 hs1
theorem ss_cond {c : ME} {a b : MSs} {t : PySem.Expr} {u v : List PySem.Stmt} (hc : Pt W xa call Wx X c t) (ha : Pss W xa call Wx X a u) (hb : Pss W xa call Wx X b v) : Ps W xa call Wx X (.cond c a b) (.If t u v pos) := by
  refine PS.imp (ps_if hc ha hb) fun D σ H ⟨e, ph, s, hs, hr, q⟩ => ?_
  unfold sv at q
  refine tEvT_of hs hr PO.mo (PO.fst hs hr q) fun b s1 ph1 H1 g1 r1 hs1 q1 => ?_
  cases b with
  | true => exact ite_tt ⟨e, ph1, s1, hs1, r1, q1⟩
  | false => exact ite_ff ⟨e, ph1, s1, hs1, r1, q1⟩

/-! ### stores -/
theorem ss_set (g : Gd W call N k sc hot Wx X) {i : Nat} {a : ME} {v : PySem.Expr} (hi : N[i]? = some x) (hw : L2.Loc X.env.scope x ∧ (X.fn x = true ∨ X.env.scope.names.lookup x = some .local)) (hsw : swapsWith v (some (.Name x p)) pos.line X.env = pure false) (h : Pe W xa call Wx X a v) :
    Ps W xa call Wx X (.set i a) (.Assign [.Name x p] v pos) := by
  refine PS.imp (ps_set (i := i) (by rw [g.eN]; exact g.nd) (by rw [g.eN]; exact hi) hw.1 h hsw hw.2) fun D σ H ⟨e, ph, s, hs, hr, q⟩ => ?_
  unfold sv at q
  exact tEv_of hs hr PO.mo (PO.fst hs hr q) fun x s1 ph1 H1 v g1 r1 v1 hs1 q1 => q1 ph1 H1 _ .refl r1 (hs1.set v1)
theorem notTup_sw {v t : PySem.Expr} {env : PySem.Env} (h : notTup v = true) : swappedStores [t] v env = pure none := by
  cases v <;> first | (cases h; done) | (cases t <;> rfl)
theorem notTup_sw2 {v : PySem.Expr} {es : List PySem.Expr} {kk : Nat} {p : Pos} {env : PySem.Env} (h : (notTup v || decide (4 ≤ es.length)) = true) : swappedStores [.Tuple es kk p] v env = pure none := by
  cases hv : notTup v with
  | true => exact notTup_sw hv
  | false =>
    rw [hv] at h
    have h4 : 4 ≤ es.length := by simpa using h
    cases v <;> first | rfl | skip
    unfold swappedStores
    have e1 : (es.length == 2) = false := beq_eq_false_iff_ne.mpr (by omega)
    have e2 : (es.length == 3) = false := beq_eq_false_iff_ne.mpr (by omega)
    simp [e1, e2]
theorem ss_setT (g : Gd W call N k sc hot Wx X) (hh : hot = false) {is : List Nat} {a : ME} {es : List PySem.Expr} {kk : Nat} {v : PySem.Expr} (ht : tgB N sc is es = true) (hn : (notTup v || decide (4 ≤ es.length)) = true) (hw : WrOk X sc) (h : Pe W xa call Wx X a v) : Ps W xa call Wx X (.setT is a) (.Assign [.Tuple es kk p] v pos) := by
  refine PS.imp (ps_asg h (pg_tg (W := W) (xa := xa) (tg := .tp is) g.eN g.nd g.eK (g.calm hh) hw ht) (sole_other (t := .Tuple es kk p) fun _ _ z => by cases z) (notTup_sw2 hn) rfl) fun D σ H ⟨e, ph, s, hs, hr, q⟩ => ?_
  unfold sv at q
  refine tEv_of hs hr PO.mo (PO.fst hs hr q) fun x s1 ph1 H1 v g1 r1 v1 hs1 q1 => ?_
  cases ha : asg (.tp is) x e with
  | none => rw [ha] at q1; exact q1.elim
  | some e1 =>
    rw [ha] at q1
    exact ⟨e, ph1, s1, x, e1, hs1, r1, v1, ha, fun σ' rs' _ => q1 ph1 H1 σ' .refl r1 rs'⟩
theorem setIV_at (hr : Rep W ph s H) {o i v : Val} {m2 : Store} {uo ui uv : V} (ho : VR W ph H o uo) (hi : VR W ph H i ui) (hv : VR W ph H v uv) (e : setIV o i v s = some m2) :
    ∃ (a : Addr) (vs : List V) (n : Int) (j : Nat), uo = .ref a ∧ ui = .int n ∧ H a = some (.lst vs) ∧ ixN vs.length n = some j ∧ Rep W ph m2 (upd H a (.lst (vs.set j uv))) ∧ Grow ph H ph (upd H a (.lst (vs.set j uv))) := by
  unfold setIV at e
  split at e
  · split at e
    · rename_i hc
      split at e
      · rename_i j hj
        cases e
        cases hi
        cases ho with
        | ref hn =>
          obtain ⟨vs, e1, r⟩ := hr.cell _ _ _ hn hc
          rw [r.length] at hj
          have gw : Grow ph H ph (upd H _ (.lst (vs.set j uv))) := Grow.write (List.mem_of_getElem? hn) e1 (fun xs z => by cases z) (fun q z y => by cases y) (fun ps z => by cases z)
          exact ⟨_, vs, _, j, rfl, rfl, e1, hj, hr.write hn e1 gw (fun ps z => by cases z) ⟨vs.set j uv, upd_same, (VRs.set hv j r).grow gw⟩, gw⟩
      · cases e
    · cases e
  · cases e
theorem sub_asg {o i : PySem.Expr} {env : PySem.Env} (h : slcB i = true) : ∀ v, assign (.Subscript o i pos) env v = (do
    let ov ← holding [v] (eval o env)
    let iv ← holding [v, ov] (eval i env)
    standAt pos
    holding [v, ov, iv] (setItem ov iv v)
    release [v, ov, iv] []) := by
  intro v
  cases i <;> first | rfl | cases h
/-- a place in a list as a target -/
def gSubE (W : Wd) (xa : Xa) (call : Call) (o i : ME) (Wx : WX) : L2.TG := fun v σ H Q => tEv W xa call o Wx σ H fun ov H1 => tEv W xa call i Wx σ H1 fun iv H2 => rSetL ov iv v H2 fun H3 => Q σ H3
theorem pg_subE {o i : ME} {o' i' : PySem.Expr} (hi : slcB i' = true) (h1 : Pe W xa call Wx X o o') (h2 : Pe W xa call Wx X i i') : PG X (.Subscript o' i' pos) (gSubE W xa call o i Wx) :=
  pg_sub h1 h2 set_list (sub_asg hi)
theorem ss_setI {o i a : ME} {o' i' v : PySem.Expr} (hi : slcB i' = true) (h1 : Pe W xa call Wx X o o') (h2 : Pe W xa call Wx X i i') (h : Pe W xa call Wx X a v) : Ps W xa call Wx X (.setI o i a) (.Assign [.Subscript o' i' p] v pos) := by
  have hsw : swappedStores [.Subscript o' i' p] v X.env = pure none := by
    unfold swappedStores
    rfl
  refine PS.imp (ps_asg h (pg_subE hi h1 h2) (sole_other (t := .Subscript o' i' p) fun _ _ z => by cases z) hsw rfl) fun D σ H ⟨e, ph, s, hs, hr, q⟩ => ?_
  unfold sv at q
  refine tEv_of hs hr PO.mo (PO.fst hs hr q) fun x s1 ph1 H1 v g1 r1 v1 hs1 q1 => ?_
  refine tEv_of hs1 r1 PO.mo (PO.fst hs1 r1 q1) fun ov s2 ph2 H2 w g2 r2 v2 hs2 q2 => ?_
  refine tEv_of hs2 r2 PO.mo (PO.fst hs2 r2 q2) fun iv s3 ph3 H3 u g3 r3 v3 hs3 q3 => ?_
  cases hI : setIV ov iv x s3 with
  | none => rw [hI] at q3; exact q3.elim
  | some s4 =>
    rw [hI] at q3
    obtain ⟨l, vs, n, j, rfl, rfl, h4, h5, h6, h7⟩ := setIV_at r3 (v2.grow g3) v3 ((v1.grow g2).grow g3) hI
    exact ⟨l, vs, n, j, rfl, rfl, h4, h5, (show PO W xa D Wx ph3 H3 (.nx e s4) from q3) ph3 _ σ h7 h6 (hs3.grow r3 h7)⟩

theorem putF_nm (hn : (rids ++ W.G.ids).Nodup) {f : Nat} (h0 : W.G.idn f ≠ "") {v : Val} {uv : V} (hv : VR W ph H v uv) : ∀ {ks : List Nat} {xs : List Val} {vs : List V}, ks.length = xs.length → VRs W ph H xs vs →
    ∃ us, nmF W (putF f v ks xs).1 us = L2.putF (W.G.idn f) uv (nmF W ks vs) ∧ (putF f v ks xs).1.length = (putF f v ks xs).2.length ∧ VRs W ph H (putF f v ks xs).2 us
  | [], [], _, _, .nil => ⟨[uv], rfl, rfl, .cons hv .nil⟩
  | k :: ks, x :: xs, _, hl, .cons (v := u) (vs := us) h r => by
    by_cases hk : k = f
    · subst hk
      have e1 : putF k v (k :: ks) (x :: xs) = (k :: ks, v :: xs) := by
        unfold putF
        rw [if_pos rfl]
      rw [e1]
      refine ⟨uv :: us, ?_, by simpa using hl, .cons hv r⟩
      show (W.G.idn k, uv) :: nmF W ks us = L2.putF (W.G.idn k) uv ((W.G.idn k, u) :: nmF W ks us)
      unfold L2.putF
      rw [if_pos rfl]
    · obtain ⟨ws, h1, h2, h3⟩ := putF_nm hn h0 hv (Nat.succ.inj hl) r
      have e1 : putF f v (k :: ks) (x :: xs) = (k :: (putF f v ks xs).1, x :: (putF f v ks xs).2) := by
        rw [putF, if_neg hk]
      rw [e1]
      refine ⟨u :: ws, ?_, by simpa using h2, .cons h h3⟩
      show (W.G.idn k, u) :: nmF W (putF f v ks xs).1 ws = L2.putF (W.G.idn f) uv ((W.G.idn k, u) :: nmF W ks us)
      rw [L2.putF, if_neg fun z => hk (idn_inj hn z.symm h0).symm, h1]
theorem setAV_at (g : Gd W call N k sc hot Wx X) (hr : Rep W ph s H) {o v : Val} {f : Nat} (h0 : W.G.idn f ≠ "") {m2 : Store} {uo uv : V} (ho : VR W ph H o uo) (hv : VR W ph H v uv) (e : setAV W.G o f v s = some m2) :
    ∃ (a dx : Addr) (c : Nat) (fs : List (Str × V)), uo = .ref a ∧ H a = some (.ins (W.ca c) dx fs) ∧ Cls W.K (W.ca c) ∧ NoAttr W.K (W.ca c) (W.G.idn f) ∧ fs.length < 1000 ∧ Rep W ph m2 (upd H a (.ins (W.ca c) dx (L2.putF (W.G.idn f) uv fs))) ∧ Grow ph H ph (upd H a (.ins (W.ca c) dx (L2.putF (W.G.idn f) uv fs))) := by
  unfold setAV at e
  split at e
  · split at e
    · rename_i n c ks xs hc
      split at e
      · rename_i hq
        obtain ⟨q1, q2, q3⟩ := hq
        cases e
        cases ho with
        | ref hn =>
          obtain ⟨dx, vs, e1, hl, r⟩ := hr.cell _ _ _ hn hc
          unfold hasF at q3
          split at q3
          · rename_i C hC
            obtain ⟨hcl, hno⟩ := g.lib.fld c C f hC q3
            obtain ⟨us, f1, f2, f3⟩ := putF_nm g.lib.idn h0 hv q2 r
            have gw : Grow ph H ph (upd H _ (.ins (W.ca c) dx (L2.putF (W.G.idn f) uv (nmF W ks vs)))) := Grow.write (List.mem_of_getElem? hn) e1 (fun xs z => by cases z) (fun q z y => by cases y) (fun ps z => by cases z)
            refine ⟨_, dx, c, nmF W ks vs, rfl, e1, hcl, hno, ?_, hr.write hn e1 gw (fun ps z => by cases z) ⟨dx, us, by rw [upd_same, f1], f2, f3.grow gw⟩, gw⟩
            unfold nmF
            rw [List.length_zip, List.length_map]
            omega
          · cases q3
      · cases e
    · cases e
  · cases e
theorem ss_setA (g : Gd W call N k sc hot Wx X) {o a : ME} {f : Nat} {o' v : PySem.Expr} (hx : x = W.G.idn f) (h0 : x ≠ "") (hb : baseB o' = true) (h1 : Pe W xa call Wx X o o') (h : Pe W xa call Wx X a v) : Ps W xa call Wx X (.setA o f a) (.Assign [.Attribute o' x p] v pos) := by
  subst hx
  refine PS.imp (ps_fld h1 h (swap_other fun _ _ z => by cases z)) fun D σ H ⟨e, ph, s, hs, hr, q⟩ => ?_
  unfold sv at q
  refine tEv_of hs hr PO.mo (PO.fst hs hr q) fun x s1 ph1 H1 v g1 r1 v1 hs1 q1 => ?_
  refine tEv_of hs1 r1 PO.mo (PO.fst hs1 r1 q1) fun ov s2 ph2 H2 w g2 r2 v2 hs2 q2 => ?_
  cases hI : setAV W.G ov f x s2 with
  | none => rw [hI] at q2; exact q2.elim
  | some s4 =>
    rw [hI] at q2
    obtain ⟨l, dx, c, fs, rfl, h4, h5, h6, h7, h8, h9⟩ := setAV_at g r2 h0 v2 (v1.grow g2) hI
    exact ⟨l, _, dx, fs, rfl, h4, g.eK ▸ h5, g.eK ▸ h6, h7, (show PO W xa D Wx ph2 H2 (.nx e s4) from q2) ph2 _ σ h9 h8 (hs2.grow r2 h9)⟩
theorem swap_sub {o1 i1 o2 i2 u v : PySem.Expr} {p1 p2 p3 p4 : Pos} {k1 k2 : Nat} {env : PySem.Env} : swappedStores [.Tuple [.Subscript o1 i1 p1, .Subscript o2 i2 p2] k1 p3] (.Tuple [u, v] k2 p4) env = pure none := by
  unfold swappedStores
  simp only []
  split
  · rfl
  · split
    · rfl
    · rfl
theorem ss_swp (g : Gd W call N k sc hot Wx X) (hh : hot = false) {o1 i1 o2 i2 a b : ME} {o1' i1' o2' i2' u v : PySem.Expr} {p2 p3 p4 : Pos} {k1 k2 : Nat} (hi1 : slcB i1' = true) (hi2 : slcB i2' = true) (hu : starB u = true) (hv : starB v = true) (h1 : Pe W xa call Wx X o1 o1') (h2 : Pe W xa call Wx X i1 i1')
    (h3 : Pe W xa call Wx X o2 o2') (h4 : Pe W xa call Wx X i2 i2') (h5 : Pe W xa call Wx X a u) (h6 : Pe W xa call Wx X b v) : Ps W xa call Wx X (.swp o1 i1 o2 i2 a b) (.Assign [.Tuple [.Subscript o1' i1' p1, .Subscript o2' i2' p2] k1 p3] (.Tuple [u, v] k2 p4) pos) := by
  have hp : PA X [u, v] (tCons (tEv W xa call a Wx) (tCons (tEv W xa call b Wx) tNil)) := pa_cons h5 (pa_cons h6 pa_nil (star_of hv)) (star_of hu)
  refine PS.imp (ps_asg (pe_tup hp) (pg_tup (g.calm hh) (pgs_cons (pg_subE hi1 h1 h2) (pgs_cons (pg_subE hi2 h3 h4) pgs_nil rfl) rfl) rfl rfl) rfl swap_sub rfl) fun D σ H ⟨e, ph, s, hs, hr, q⟩ => ?_
  unfold sv at q
  refine tEv_of hs hr PO.mo (PO.fst hs hr q) fun x s1 ph1 H1 va g1 r1 v1 hs1 q1 => ?_
  refine tEv_of hs1 r1 PO.mo (PO.fst hs1 r1 q1) fun y s2 ph2 H2 vb g2 r2 v2 hs2 q2 => ?_
  refine ⟨by show 2 ≤ sizeLine; rw [sizeLine_eq]; decide, fun t ht => ⟨t, [va, vb], rfl, .inl (.inl upd_same), rfl, ?_⟩⟩
  have gt : Grow ph2 H2 ph2 (upd H2 t (.tup [va, vb])) := Grow.fresh ht
  refine ⟨va, [vb], rfl, ?_⟩
  have q2 := PO.grow gt q2
  have rt := r2.fresh (o := .tup [va, vb]) ht
  have hst := hs2.grow r2 gt
  refine tEv_of hst rt PO.mo (PO.fst hst rt q2) fun ov s3 ph3 H3 w3 g3 r3 v3 hs3 q3 => ?_
  refine tEv_of hs3 r3 PO.mo (PO.fst hs3 r3 q3) fun iv s4 ph4 H4 w4 g4 r4 v4 hs4 q4 => ?_
  cases hI : setIV ov iv x s4 with
  | none => rw [hI] at q4; exact q4.elim
  | some s5 =>
    rw [hI] at q4
    have gg := (((g2.trans gt).trans g3).trans g4)
    obtain ⟨l, vs, n, j, rfl, rfl, e4, e5, e6, e7⟩ := setIV_at r4 (v3.grow g4) v4 (v1.grow gg) hI
    refine ⟨l, vs, n, j, rfl, rfl, e4, e5, vb, [], rfl, ?_⟩
    have q4 := PO.grow e7 q4
    have hs5 := hs4.grow r4 e7
    refine tEv_of hs5 e6 PO.mo (PO.fst hs5 e6 q4) fun ov2 s6 ph6 H6 w6 g6 r6 v6 hs6 q6 => ?_
    refine tEv_of hs6 r6 PO.mo (PO.fst hs6 r6 q6) fun iv2 s7 ph7 H7 w7 g7 r7 v7 hs7 q7 => ?_
    cases hI2 : setIV ov2 iv2 y s7 with
    | none => rw [hI2] at q7; exact q7.elim
    | some s8 =>
      rw [hI2] at q7
      obtain ⟨l2, vs2, n2, j2, rfl, rfl, f4, f5, f6, f7⟩ := setIV_at r7 (v6.grow g7) v7 (v2.grow ((((gt.trans g3).trans g4).trans e7).trans (g6.trans g7))) hI2
      exact ⟨l2, vs2, n2, j2, rfl, rfl, f4, f5, rfl, (show PO W xa D Wx ph7 H7 (.nx e s8) from q7) ph7 _ σ f7 f6 (hs7.grow r7 f7)⟩
def rAug (W : Wd) (o : Operator) : R2 := fun x y H Q => ∃ ph m a b z, Rep W ph m H ∧ VR W ph H a x ∧ VR W ph H b y ∧ augV o a b = some z ∧ QV W Q z m ph H
theorem op_aug (o : Operator) : PIp X o (rAug W o) := by
  intro pins s σ H x y v u Q I rx ry ⟨ph, m, a, b, z, hr, ha, hb, e, q⟩
  unfold augV at e
  split at e
  · cases ha; cases hb; cases e
    exact iop_add pins s σ H _ _ v u Q I rx ry ⟨_, _, rfl, rfl, q.at hr (.int _)⟩
  · cases ha; cases hb; cases e
    exact iop_sub pins s σ H _ _ v u Q I rx ry ⟨_, _, rfl, rfl, q.at hr (.int _)⟩
  · cases ha; cases hb
    split at e
    · rename_i hc
      cases e
      exact iop_mul pins s σ H _ _ v u Q I rx ry ⟨_, _, rfl, rfl, .inr hc, q.at hr (.int _)⟩
    · cases e
  · cases ha; cases hb; cases e
    exact iop_xor pins s σ H _ _ v u Q I rx ry ⟨_, _, rfl, rfl, q.at hr (.int _)⟩
  · cases ha; cases hb
    split at e
    · rename_i hc
      cases e
      exact iop_add_str pins s σ H _ _ v u Q I rx ry ⟨_, _, rfl, rfl, hc, q.at hr (.str _)⟩
    · cases e
  · cases e
theorem ss_aug (g : Gd W call N k sc hot Wx X) {i : Nat} {o : Operator} {a : ME} {v : PySem.Expr} (hi : N[i]? = some x) (hw : L2.Loc X.env.scope x ∧ (X.fn x = true ∨ X.env.scope.names.lookup x = some .local)) (h : Pe W xa call Wx X a v) : Ps W xa call Wx X (.aug i o a) (.AugAssign (.Name x p) o v pos) := by
  refine PS.imp (ps_aug (i := i) (by rw [g.eN]; exact g.nd) (by rw [g.eN]; exact hi) hw.1 h (op_aug (W := W) o) hw.2) fun D σ H ⟨e, ph, s, hs, hr, q⟩ => ?_
  unfold sv at q
  cases hx : e[i]? with
  | none => rw [hx] at q; exact q.elim
  | some ox =>
    cases ox with
    | none => rw [hx] at q; exact q.elim
    | some vx =>
      rw [hx] at q
      by_cases hq : isExv vx = true
      · simp only [hq, if_true] at q
        exact q.elim
      · have hq : isExv vx = false := by simpa using hq
        simp only [hq] at q
        have q : PO W xa D Wx ph H ((ev W.G call a e s).thenO e fun w s1 => match augV o vx w with
          | some z => .nx (e.set i (some z)) s1
          | none => .stk) := q
        obtain ⟨v0, e1, e2⟩ := hs.val i vx hx hq
        refine ⟨v0, e1, ?_⟩
        refine tEv_of hs hr PO.mo (PO.fst hs hr q) fun w s1 ph1 H1 vw g1 r1 v1 hs1 q1 => ?_
        cases hA : augV o vx w with
        | none => simp only [hA] at q1; exact q1.elim
        | some z =>
          simp only [hA] at q1
          exact ⟨ph1, s1, vx, w, z, r1, e2.grow g1, v1, hA, fun ph2 H2 v2 g2 r2 vr2 => (show PO W xa D Wx ph1 H1 (.nx (e.set i (some z)) s1) from q1) ph2 H2 _ g2 r2 ((hs1.grow r1 g2).set vr2)⟩
end
end Ev

set_option Elab.async false
set_option linter.all false
set_option maxRecDepth 100000
set_option autoImplicit false
/-! Ev: a, b = x, y with plain names. -/
namespace Ev
open PySem PySem.Spec PyProof.Rows L2
theorem sw_par {x y : Str} {px py pt pt2 : Pos} {kt k2 : Nat} {a b : PySem.Expr} {env : PySem.Env} (h : swpB env.scope x px y py a b = true) : swappedStores [.Tuple [.Name x px, .Name y py] kt pt] (.Tuple [a, b] k2 pt2) env = pure (some [x, y]) := by
  unfold swpB at h
  obtain ⟨h, h9⟩ := ba h
  obtain ⟨h, h8⟩ := ba h
  obtain ⟨h, h7⟩ := ba h
  obtain ⟨h, h6⟩ := ba h
  obtain ⟨h, h5⟩ := ba h
  obtain ⟨h, h4⟩ := ba h
  obtain ⟨h, h3⟩ := ba h
  obtain ⟨h1, h2⟩ := ba h
  have hk : env.blockKind = .function := by
    unfold PySem.Env.blockKind
    exact beq_iff_eq.mp h1
  have kx : env.kindOf x = some .local := of_decide_eq_true h2
  have ky : env.kindOf y = some .local := of_decide_eq_true h3
  have hl : px.line = py.line := beq_iff_eq.mp h4
  have hn : x ≠ y := of_decide_eq_true h5
  have sa : isStar a = false := by simpa using h6
  have sb : isStar b = false := by simpa using h7
  have h8 : [a, b].all (foldedForSure 8) = false := (Bool.not_eq_true' _).mp h8
  have h9 : [a, b].all (constantsAlone 8) = false := (Bool.not_eq_true' _).mp h9
  clear h
  simp only [swappedStores]
  rw [if_neg (by rw [hk]; exact Bool.false_ne_true)]
  rw [if_neg (by
    intro hh
    obtain ⟨e, he, h⟩ := List.any_eq_true.mp hh
    have hs : isStar e = false := by
      rcases List.mem_cons.mp he with rfl | he
      · exact sa
      · rcases List.mem_cons.mp he with rfl | he
        · exact sb
        · cases he
    clear hh he
    cases e <;> first | (cases h; done) | (cases hs))]
  have hd : [x, y].eraseDups = [x, y] := by
    have : (y == x) = false := beq_eq_false_iff_ne.mpr (Ne.symm hn)
    simp [List.eraseDups_cons, this]
  have hne : ∀ e : List Str, e = [x, y] → (do
      if (e.length != [PySem.Expr.Name x px, PySem.Expr.Name y py].length || e.eraseDups.length != e.length) = true then return none
      if [a, b].all (foldedForSure 8) = true then return none
      if [a, b].all (constantsAlone 8) = true then unsupported "assign.tuple-of-constant-expressions:order-of-the-stores"
      return some e : Sem (Option (List Str))) = pure (some [x, y]) := fun e he => by
    subst he
    rw [hd, if_neg (by exact Bool.false_ne_true), if_neg (by rw [h8]; exact Bool.false_ne_true), if_neg (by rw [h9]; exact Bool.false_ne_true)]
  refine hne _ ?_
  simp [List.filterMap_cons, kx, ky, hl, PySem.Expr.pos]
section
variable {W : Wd} {xa : Xa} {call : Call} {N : List Str} {k : Nat} {sc : Scope} {hot : Bool} {X : Cx} {Wx : WX} {pos p pt pt2 px py : Pos} {x y : Str} {kt k2 : Nat}
theorem ss_setP (g : Gd W call N k sc hot Wx X) (hh : hot = false) {i j : Nat} {a b : ME} {v w : PySem.Expr} (hi : N[i]? = some x) (hj : N[j]? = some y) (hij : i ≠ j) (hs : swpB sc x px y py v w = true) (s1 : starB v = true) (s2 : starB w = true) (h1 : Pe W xa call Wx X a v) (h2 : Pe W xa call Wx X b w) :
    Ps W xa call Wx X (.setP i j a b) (.Assign [.Tuple [.Name x px, .Name y py] kt pt] (.Tuple [v, w] k2 pt2) pos) := by
  rw [← g.eS] at hs
  have hx : X.env.scope.names.lookup x = some .local := by
    unfold swpB at hs
    exact of_decide_eq_true (ba (ba (ba (ba (ba (ba (ba (ba hs).1).1).1).1).1).1).1).2
  have hy : X.env.scope.names.lookup y = some .local := by
    unfold swpB at hs
    exact of_decide_eq_true (ba (ba (ba (ba (ba (ba (ba hs).1).1).1).1).1).1).2
  refine PS.imp (ps_par (g.calm hh) (by rw [g.eN]; exact g.nd) (by rw [g.eN]; exact hi) (by rw [g.eN]; exact hj) hij hx hy (pa_cons h1 (pa_cons h2 pa_nil (star_of s2)) (star_of s1)) (sw_par hs) (sole_other fun _ _ z => by cases z)) fun D σ H ⟨e, ph, s, hs, hr, q⟩ => ?_
  unfold sv at q
  refine tEv_of hs hr PO.mo (PO.fst hs hr q) fun x1 s1 ph1 H1 v g1 r1 v1 hs1 q1 => tEv_of hs1 r1 PO.mo (PO.fst hs1 r1 q1) fun y s2 ph2 H2 w g2 r2 v2 hs2 q2 => ⟨v, w, rfl, ?_⟩
  exact q2 ph2 H2 _ .refl r2 ((hs2.set (v1.grow g2)).set v2)
end
end Ev

set_option Elab.async false
set_option linter.all false
set_option maxRecDepth 100000
set_option autoImplicit false
/-! Ev: a key of a dict takes a value. -/
namespace Ev
open PySem PySem.Spec PyProof.Rows L2
section
variable {W : Wd} {xa : Xa} {call : Call} {N : List Str} {k : Nat} {sc : Scope} {hot : Bool} {X : Cx} {Wx : WX} {pos p : Pos}
theorem ss_setD (g : Gd W call N k sc hot Wx X) {o i a : ME} {o' i' v : PySem.Expr} (hi : slcB i' = true) (h1 : Pe W xa call Wx X o o') (h2 : Pe W xa call Wx X i i') (h : Pe W xa call Wx X a v) : Ps W xa call Wx X (.setD o i a) (.Assign [.Subscript o' i' p] v pos) := by
  refine PS.imp (ps_dput (by have := g.hu; omega) h1 h2 h (swap_other fun _ _ z => by cases z)) fun D σ H ⟨e, ph, s, hs, hr, q⟩ => ?_
  unfold sv at q
  refine tEv_of hs hr PO.mo (PO.fst hs hr q) fun x s1 ph1 H1 v g1 r1 v1 hs1 q1 => ?_
  refine tEv_of hs1 r1 PO.mo (PO.fst hs1 r1 q1) fun ov s2 ph2 H2 w g2 r2 v2 hs2 q2 => ?_
  refine tEv_of hs2 r2 PO.mo (PO.fst hs2 r2 q2) fun iv s3 ph3 H3 u g3 r3 v3 hs3 q3 => ?_
  cases hI : setDV ov iv x s3 with
  | none => rw [hI] at q3; exact q3.elim
  | some s4 =>
    rw [hI] at q3
    obtain ⟨l, H4, rfl, h4, h5, h6⟩ := setDV_at r3 (v2.grow g3) v3 ((v1.grow g2).grow g3) hI
    exact ⟨l, H4, rfl, h4, (show PO W xa D Wx ph3 H3 (.nx e s4) from q3) ph3 _ σ h6 h5 (hs3.grow r3 h6)⟩
end
end Ev

set_option Elab.async false
set_option linter.all false
set_option maxRecDepth 100000
set_option autoImplicit false
/-! Ev: loops, raise, try. -/
namespace Ev
open PySem PySem.Spec PyProof.Rows L2
section
variable {W : Wd} {xa : Xa} {call : Call} {N : List Str} {k : Nat} {sc : Scope} {hot : Bool} {X : Cx} {Wx : WX} {pos p p1 : Pos} {x y : Str} {ph ph' : List Addr} {H H' : Hp} {D : Ends} {e : Env} {s : Store} {σ : L2.St}
theorem ss_setLc (g : Gd W call N k sc false Wx X) {j : Nat} {m : Bool} {tg : TG} {it : IT} {cs : MEs} {el : ME} {elt t i : PySem.Expr} {fs : List PySem.Expr} {scope : Scope} {spos : Pos} (hj : N[j]? = some y) (hyl : sc.names.lookup y = some .local)
    (hsw : swapsWith (.ListComp elt [⟨t, i, fs, 0⟩] scope pos) (some (.Name y p)) spos.line X.env = pure true) (hi : PI X t i (iEv W none call it Wx)) (hsb : setB i = true) (hb : blkC N sc scope (ownOf N (tgS tg)) = true) (ht : matTG N scope tg t = true)
    (hc : ∀ hd X', Gd { W with hd := hd } call N k (relS scope sc) false W0 X' → PTs X' fs (tEvC { W with hd := hd } none call cs W0)) (he : ∀ hd X', Gd { W with hd := hd } call N k (relS scope sc) false W0 X' → Pe { W with hd := hd } none call W0 X' el elt) :
    Ps W none call Wx X (.set j (.lc m tg it cs el)) (.Assign [.Name y p] (.ListComp elt [⟨t, i, fs, 0⟩] scope pos) spos) := by
  have ok : BlkOk X.N X.env.scope scope (ownOf N (tgS tg)) := by
    rw [g.eN, g.eS]
    exact blkOk_by hb
  refine PS.imp (ps_setLc (i := j) (own := ownOf N (tgS tg)) (g := gEvA W tg) (tt := tCA W call cs) (te := tEvA W call el) (g.calm rfl) (by rw [g.eN]; exact g.nd) (by rw [g.eN]; exact hj) (by rw [g.eS]; exact hyl) hsw hi ok
    (fun s H C cl fp => pg_any fun hd => pg_tg (W := { W with hd := hd }) (X := X.blk s H scope (compEnvC scope cl C X.env) fp) (g.blk hd).eN g.nd (g.blk hd).eK (g.calm rfl) (wr_blk g) ht)
    (fun s H C cl fp => pts_any fun hd => hc hd _ (g.blk hd)) (fun s H C cl fp => pe_any fun hd => he hd _ (g.blk hd)) (fold_of hsb)) fun D σ H ⟨e, ph, s, hs, hr, q⟩ => ?_
  unfold sv at q
  rw [ev_lc] at q
  have q := PO.fst hs hr q
  rw [own_snd]
  refine ⟨e, ph, s, hs, hr, PR.imp (fun p s1 q1 ph1 H1 g1 r1 J hJ D' hD => ?_) (PR.fst q)⟩
  refine lc_turns (m := m) (E := fun c d H' => Wx c d σ H') (Q := fun v H2 => D.nx (σ.set j (some v)) H2) g (hs.grow hr g1) r1 hJ ?_ D' hD
  refine PR.imp (fun x m q2 => ?_) (PR.grow PO.mo g1 q1)
  exact fun ph2 H2 v g2 r2 vr => (show PO W none D Wx ph1 H1 (.nx (e.set j (some x)) m) from q2) ph2 H2 _ g2 r2 (((hs.grow hr g1).grow r1 g2).set vr)

/-! ### for -/
theorem sv_for {G : Prog} {tg : TG} {it : IT} {b : MSs} {e : Env} {s : Store} : sv G call (.for_ tg it b) e s = (evI G call it e s).thenO e fun p s1 => forL (fun x e1 s2 => match asg tg x e1 with
      | some e2 => svs G call b e2 s2
      | none => .stk) p.2 p.1 e s1 := by
  rw [sv] <;> rfl
theorem for_turns {tg : TG} {b : MSs} {J : It} {xs : List Val} {live : Live} {tb : TS} (htb : tb = tSvs W xa call b Wx) (hs : RS W xa ph H e σ) (hr : Rep W ph s H) (hJ : ItW W ph H J xs live)
    (q : PO W xa D Wx ph H (forL (fun x e1 s2 => match asg tg x e1 with
      | some e2 => svs W.G call b e2 s2
      | none => .stk) live xs e s)) :
    ∃ W' : Nat → Nat → L2.St → Hp → Prop, (∃ m, W' 0 m σ H) ∧ ∀ i m σ H, W' i m σ H →
      (J.stop i H ∧ D.nx σ H) ∨ (J.go i H ∧ ∃ N : L2.St → Hp → Prop, (∀ σ' H', N σ' H' → ∃ m', m' < m ∧ W' (i + 1) m' σ' H') ∧ ∀ x H', J.yld i H x H' → gEv W xa tg x σ H' fun σ2 H2 => tb { D with nx := N, ct := N, bk := D.nx } σ2 H2) := by
  subst htb
  refine ⟨fun i mm σ1 H1 => mm = xs.length - i ∧ i ≤ xs.length ∧ ∃ (ph1 : List Addr) (s1 : Store) (e1 : Env), Grow ph H ph1 H1 ∧ Rep W ph1 s1 H1 ∧ RS W xa ph1 H1 e1 σ1 ∧ PO W xa D Wx ph1 H1 (forL (fun x e1 s2 => match asg tg x e1 with
      | some e2 => svs W.G call b e2 s2
      | none => .stk) live (xs.drop i) e1 s1), ⟨xs.length, rfl, Nat.zero_le _, ph, s, e, .refl, hr, hs, q⟩, ?_⟩
  intro i mm σ1 H1 ⟨hm, hi, ph1, s1, e1, gw, rep, rs, q⟩
  have hst : stands s1 live := by
    cases hx : xs.drop i with
    | nil =>
      rw [hx] at q
      unfold forL at q
      split at q
      · assumption
      · exact q.elim
    | cons y r =>
      rw [hx] at q
      unfold forL at q
      split at q
      · assumption
      · exact q.elim
  obtain ⟨hit, hstop⟩ := hJ W.hd ph1 H1 s1 (Later.of gw) rep hst
  rcases Nat.lt_or_eq_of_le hi with hlt | heq
  · right
    have hx : xs[i]? = some xs[i] := List.getElem?_eq_getElem hlt
    obtain ⟨hgo, hy⟩ := hit i _ hx
    rw [List.drop_eq_getElem_cons hlt] at q
    unfold forL at q
    simp only [hst, if_true] at q
    refine ⟨hgo, fun σ' H' => ∃ (ph2 : List Addr) (s2 : Store) (e2 : Env), Grow ph H ph2 H' ∧ Rep W ph2 s2 H' ∧ RS W xa ph2 H' e2 σ' ∧ PO W xa D Wx ph2 H' (forL (fun x e1 s2 => match asg tg x e1 with
      | some e2 => svs W.G call b e2 s2
      | none => .stk) live (xs.drop (i + 1)) e2 s2), fun σ' H' h => ⟨xs.length - (i + 1), by omega, rfl, hlt, h⟩, fun x' H2 hyld => ?_⟩
    obtain ⟨g2, rep2, vr2⟩ := hy x' H2 hyld
    cases ha : asg tg xs[i] e1 with
    | none => simp only [ha] at q; exact q.elim
    | some e2 =>
      simp only [ha] at q
      refine ⟨e1, ph1, s1, _, e2, rs.grow rep g2, rep2, vr2, ha, fun σ2 rs2 _ => ⟨e2, ph1, s1, rs2, rep2, ?_⟩⟩
      cases hb : svs W.G call b e2 s1 with
      | nx e3 s3 =>
        simp only [hb] at q
        exact fun ph3 H3 σ3 g3 r3 rs3 => ⟨ph3, s3, e3, gw.trans (g2.trans g3), r3, rs3, PO.grow (g2.trans g3) q⟩
      | ct e3 s3 =>
        simp only [hb] at q
        exact fun ph3 H3 σ3 g3 r3 rs3 => ⟨ph3, s3, e3, gw.trans (g2.trans g3), r3, rs3, PO.grow (g2.trans g3) q⟩
      | bk e3 s3 =>
        simp only [hb] at q
        exact fun ph3 H3 σ3 g3 r3 rs3 => (show PO W xa D Wx ph1 H1 (.nx e3 s3) from q) ph3 H3 σ3 (g2.trans g3) r3 rs3
      | rt v s3 => simp only [hb] at q; exact PO.grow (o := .rt v s3) g2 q
      | ex c ks ys e3 s3 => simp only [hb] at q; exact PO.grow (o := .ex c ks ys e3 s3) g2 q
      | stk => simp only [hb] at q; exact q.elim
  · left
    refine ⟨by rw [heq]; exact hstop, ?_⟩
    rw [heq, List.drop_length] at q
    unfold forL at q
    simp only [hst, if_true] at q
    exact (show PO W xa D Wx ph1 H1 (.nx e1 s1) from q) ph1 H1 σ1 .refl rep rs
theorem ss_for (g : Gd W call N k sc hot Wx X) (hh : hot = false) (po : PassesOwn (model X.prog X.w) X.A X.env X.xe) {tg : TG} {it : IT} {b : MSs} {t i : PySem.Expr} {body : List PySem.Stmt} (hsb : setB i = true) (ht : matTG N sc tg t = true) (hw : WrOk X sc) (hi : PI X t i (iEv W xa call it Wx)) (hb : Pss W xa call Wx X b body) :
    Ps W xa call Wx X (.for_ tg it b) (.For t i body [] pos) := by
  refine PS.imp (ps_for po (g.calm hh) hi (pg_tg (W := W) (xa := xa) g.eN g.nd g.eK (g.calm hh) hw ht) hb (fold_of hsb)) fun D σ H ⟨e, ph, s, hs, hr, q⟩ => ?_
  rw [sv_for] at q
  refine ⟨e, ph, s, hs, hr, PR.imp (fun p s1 q1 ph1 H1 g1 r1 J hJ => ?_) (PO.fst hs hr q)⟩
  exact for_turns rfl (hs.grow hr g1) r1 hJ (PO.grow g1 q1)

/-! ### while -/
theorem ss_whl (po : PassesOwn (model X.prog X.w) X.A X.env X.xe) {c : ME} {b : MSs} {t : PySem.Expr} {body : List PySem.Stmt} (hc : Pt W xa call Wx X c t) (hb : Pss W xa call Wx X b body) : Ps W xa call Wx X (.whl c b) (.While t body [] pos) := by
  refine PS.imp (ps_while po hc hb) fun D σ H ⟨e, ph, s, hs, hr, q⟩ => ?_
  unfold sv at q
  refine ⟨fun n σ1 H1 => ∃ (ph1 : List Addr) (s1 : Store) (e1 : Env), Rep W ph1 s1 H1 ∧ RS W xa ph1 H1 e1 σ1 ∧ PO W xa D Wx ph1 H1 (whlL (evT W.G call c) (svs W.G call b) n e1 s1), ⟨_, ph, s, e, hr, hs, q⟩, ?_⟩
  intro n σ1 H1 ⟨ph1, s1, e1, r1, rs1, q1⟩
  cases n with
  | zero => unfold whlL at q1; exact q1.elim
  | succ n =>
    unfold whlL at q1
    refine tEvT_of rs1 r1 PO.mo (PO.fst rs1 r1 q1) fun bb s2 ph2 H2 g2 r2 rs2 q2 => ?_
    cases bb with
    | false => exact ite_ff ((show PO W xa D Wx ph2 H2 (.nx e1 s2) from q2) ph2 H2 σ1 .refl r2 rs2)
    | true =>
      refine ite_tt ⟨fun σ3 H3 => ∃ (ph1 : List Addr) (s1 : Store) (e1 : Env), Rep W ph1 s1 H3 ∧ RS W xa ph1 H3 e1 σ3 ∧ PO W xa D Wx ph1 H3 (whlL (evT W.G call c) (svs W.G call b) n e1 s1), fun σ' H' h => ⟨n, Nat.lt_succ_self n, h⟩, ⟨e1, ph2, s2, rs2, r2, ?_⟩⟩
      have q2 : PO W xa D Wx ph2 H2 (match svs W.G call b e1 s2 with
        | .nx e1 s2 => whlL (evT W.G call c) (svs W.G call b) n e1 s2
        | .ct e1 s2 => whlL (evT W.G call c) (svs W.G call b) n e1 s2
        | .bk e1 s2 => .nx e1 s2
        | o => o) := q2
      cases hb : svs W.G call b e1 s2 with
      | nx e3 s3 =>
        simp only [hb] at q2
        exact fun ph3 H3 σ3 g3 r3 rs3 => ⟨ph3, s3, e3, r3, rs3, PO.grow g3 q2⟩
      | ct e3 s3 =>
        simp only [hb] at q2
        exact fun ph3 H3 σ3 g3 r3 rs3 => ⟨ph3, s3, e3, r3, rs3, PO.grow g3 q2⟩
      | bk e3 s3 =>
        simp only [hb] at q2
        exact fun ph3 H3 σ3 g3 r3 rs3 => (show PO W xa D Wx ph2 H2 (.nx e3 s3) from q2) ph3 H3 σ3 g3 r3 rs3
      | rt v s3 => simp only [hb] at q2; exact q2
      | ex c ks ys e3 s3 => simp only [hb] at q2; exact q2
      | stk => simp only [hb] at q2; exact q2.elim

/-! ### raise -/
theorem exc_heap {H1 : Hp} {a dx C : Addr} {fs : List (Str × V)} (h1 : H1 a = none) (hne : dx ≠ a) : upd (del (upd (upd (upd H1 a (exo a C none)) dx (exd dx fs)) a (exo a C (some dx))) a) dx (.xd fs) = upd H1 dx (.xd fs) := by
  funext b
  by_cases hb : b = dx
  · rw [hb, upd_same, upd_same]
  · rw [upd_ne hb, upd_ne hb]
    by_cases ha : b = a
    · rw [ha, del_same, h1]
    · rw [del_ne ha, upd_ne ha, upd_ne hb, upd_ne ha]
theorem ss_rais (g : Gd W call N k sc hot Wx X) (hh : hot = false) {c : Nat} {es : MEs} {y0 : PySem.Expr} {ys : List PySem.Expr} {p2 : Pos} (hf : exR W.G c = some x) (hg : glB sc x = true) (hd : dbgB x = true) (hy : starB y0 = true) (hys : ys.all starB = true) (ha : Pa W xa call Wx X es (y0 :: ys)) :
    Ps W xa call Wx X (.rais c es) (.Raise (some (.Call (.Name x p) (y0 :: ys) [] p2)) none pos) := by
  unfold exR at hf
  split at hf
  · rename_i C hC
    split at hf
    · rename_i k0 ks0 hE
      cases hf
      obtain ⟨fI, fd, ps, T, iC, tI, F1, hb⟩ := g.lib.exi c C (k0 :: ks0) hC hE (by intro z; cases z)
      obtain ⟨hm, hk⟩ := g.lib.clm c C hC
      have eK := g.eK
      have mk := pmk_oex (X := X) (p := p) (pos := p2) (by rw [eK]; exact T) (by rw [eK]; exact iC) (by rw [eK]; exact tI) (by rw [eK]; exact F1) ((g.room hh).mono (by omega)) (by rw [eK]; exact hb) (.nil : Vals [] []) (fun _ _ _ _ _ _ _ z => by
        obtain ⟨_, _, _, _, _, _, _, _, _, _, _, _, z⟩ := z
        exact z.elim) (gl_of g hg) hm ha (dbg_of hd).1 (star_of hy) (plain_of hys)
      refine PS.imp (ps_raise (g.calm hh) g.tk mk) fun D σ H ⟨e, ph, s, hs, hr, q⟩ => ?_
      unfold sv at q
      refine tEvs_of hs hr PO.mo (PO.fst hs hr q) fun xs s1 ph1 H1 vs g1 r1 v1 hs1 q1 => ?_
      simp only [hC, hE] at q1
      by_cases hl : (k0 :: ks0).length = xs.length ∧ xs.length ≤ 1000
      · rw [if_pos hl] at q1
        obtain ⟨hl1, hl2⟩ := hl
        have hv := v1.length
        refine ⟨by rw [← hv]; exact hl2, fun a ha => ⟨a, vs ++ [], rfl, ?_, upd_same, fun dx hdx hne => ⟨rfl, dx, ((k0 :: ks0).map W.G.idn).reverse.zip (vs ++ []).reverse, upd_same, ?_, ?_, ?_⟩⟩⟩
        · rw [List.append_nil, ← hv, ← hl1, List.length_map]
        · rw [upd_ne hne, upd_same]
        · rw [upd_ne hne] at hdx
          exact hdx
        · rw [exc_heap ha hne, List.append_nil]
          rw [upd_ne hne] at hdx
          have q1 : PO W xa D Wx ph1 H1 (.ex c (k0 :: ks0).reverse xs.reverse e s1) := q1
          refine q1 ph1 _ σ dx vs.reverse (Grow.fresh hdx) (r1.fresh hdx) (hs1.grow r1 (Grow.fresh hdx)) ?_ (by rw [List.length_reverse, List.length_reverse]; exact hl1) (v1.reverse.grow (Grow.fresh hdx))
          rw [upd_same]
          unfold nmF
          rw [List.map_reverse]
      · rw [if_neg hl] at q1
        exact q1.elim
    · cases hf
  · cases hf

/-! ### try -/
theorem RS.setX {i c : Nat} {a d : Addr} {ks : List Nat} {xs : List Val} {vs : List V} (h : RS W none ph H e σ) (hd : H d = some (.xd (nmF W ks vs))) (hl : ks.length = xs.length) (hv : VRs W ph H xs vs) : RS W (some (i, a, d, c)) ph H (e.set i (some (.exv c ks xs))) (σ.set i (some (.ref a))) := by
  have noE : ∀ j c' ks' xs', e[j]? ≠ some (some (Val.exv c' ks' xs')) := fun j c' ks' xs' z => by
    obtain ⟨_, _, _, q, _⟩ := h.exv j c' ks' xs' z
    cases q
  refine ⟨by rw [List.length_set, List.length_set]; exact h.len, fun j y h1 h2 => ?_, fun j c' ks' xs' h1 => ?_⟩
  · by_cases hj : i = j
    · subst hj
      have hlt : i < e.length := by
        have := (List.getElem?_eq_some_iff.mp h1).1
        rwa [List.length_set] at this
      rw [List.getElem?_set_self hlt] at h1
      cases h1
      cases h2
    · rw [List.getElem?_set_ne hj] at h1
      obtain ⟨w, q, p⟩ := h.val j y h1 h2
      exact ⟨w, by rw [List.getElem?_set_ne hj]; exact q, p⟩
  · by_cases hj : i = j
    · subst hj
      have hlt : i < e.length := by
        have := (List.getElem?_eq_some_iff.mp h1).1
        rwa [List.length_set] at this
      rw [List.getElem?_set_self hlt] at h1
      cases h1
      exact ⟨a, d, vs, rfl, by rw [List.getElem?_set_self (by rw [← h.len]; exact hlt)], hd, hl, hv⟩
    · rw [List.getElem?_set_ne hj] at h1
      exact absurd h1 (noE j c' ks' xs')
theorem RS.anyX {i c : Nat} {a d : Addr} (h : RS W none ph H e σ) : RS W (some (i, a, d, c)) ph H e σ :=
  ⟨h.len, h.val, fun j c' ks' xs' z => by
    obtain ⟨_, _, _, q, _⟩ := h.exv j c' ks' xs' z
    cases q⟩
theorem RS.offX {i c : Nat} {a d : Addr} {o : Option V} (h : RS W (some (i, a, d, c)) ph H e σ) : RS W none ph H (e.set i none) (σ.set i o) := by
  have h2 := h.unset (i := i) (o := o)
  refine ⟨h2.len, h2.val, fun j c' ks' xs' z => ?_⟩
  obtain ⟨_, _, _, q, _⟩ := h2.exv j c' ks' xs' z
  cases q
  by_cases hlt : i < e.length
  · rw [List.getElem?_set_self hlt] at z
    cases z
  · rw [List.getElem?_eq_none (by rw [List.length_set]; omega)] at z
    cases z
theorem RS.outX {i c : Nat} {a d : Addr} (h : RS W (some (i, a, d, c)) ph H e σ) (hi : σ.length ≤ i) : RS W none ph H e σ := by
  refine ⟨h.len, h.val, fun j c' ks' xs' z => ?_⟩
  obtain ⟨_, _, _, q, _⟩ := h.exv j c' ks' xs' z
  cases q
  rw [List.getElem?_eq_none (by rw [h.len]; exact hi)] at z
  cases z

/-- a suite's reading -/
def tSuite (W : Wd) (call : Call) (i : Option Nat) (b : MSs) : TH := match i with
  | none => fun _ _ _ D σ H => tSvs W none call b W0 D σ H
  | some i0 => fun a cls d D σ H => ∃ (c : Nat) (d0 : Addr), cls = .ref (W.ca c) ∧ d = some d0 ∧ tSvs W (some (i0, a, d0, c)) call b W0 D σ H
def clsOfH (W : Wd) (call : Call) : MHs → List (Value × Option Nat × TH)
  | .nil => []
  | .cons c i b r => (.ref (W.ca c), i, tSuite W call i b) :: clsOfH W call r
theorem wish_of (g : Gd W call N k sc hot Wx X) : ∀ {hs : MHs} {c : Nat} {ks : List Nat} {xs : List Val} {e : Env} {s : Store} {ph : List Addr} {H : Hp} {σ : L2.St} {d : Addr} {vs : List V}, hdsEx W.G hs = true → Rep W ph s H → RS W none ph H e σ → H d = some (.xd (nmF W ks vs)) → ks.length = xs.length → VRs W ph H xs vs →
    PO W none D Wx ph H (svh W.G call hs c ks xs e s) → wishH W.K Wx D (clsOfH W call hs) (.ref (W.ca c)) (some d) σ H
  | .nil, c, ks, xs, e, s, ph, H, σ, d, vs, _, hr, hs, hd, hl, hv, q => by
    unfold svh at q
    exact q ph H σ d vs .refl hr hs hd hl hv
  | .cons c0 i b r, c, ks, xs, e, s, ph, H, σ, d, vs, hx, hr, hs, hd, hl, hv, q => by
    obtain ⟨hx1, hx2⟩ := ba (show (isExc W.G c0 && hdsEx W.G r) = true from hx)
    unfold svh at q
    split at q
    · rename_i hE
      refine ⟨subC W.G c c0, g.lib.exm c c0 hE hx1, fun hb a ha => ?_, fun hb => ?_⟩
      · simp only [hb, if_true] at q
        cases i with
        | none =>
          refine (show tSvs W none call b W0 D σ H from ⟨e, ph, s, hs, hr, ?_⟩)
          simp only at q
          cases hb2 : svs W.G call b e s with
          | nx e1 s1 => simp only [hb2] at q; exact q
          | bk e1 s1 => simp only [hb2] at q; exact q
          | ct e1 s1 => simp only [hb2] at q; exact q
          | rt v s1 => simp only [hb2] at q; exact q
          | ex _ _ _ _ _ => simp only [hb2] at q; exact q.elim
          | stk => simp only [hb2] at q; exact q.elim
        | some j =>
          simp only at q
          refine (show tSuite W call (some j) b a (.ref (W.ca c)) (some d) (endsU j D) (σ.set j (some (.ref a))) H from ⟨c, d, rfl, rfl, _, ph, s, hs.setX hd hl hv, hr, ?_⟩)
          cases hb2 : svs W.G call b (e.set j (some (.exv c ks xs))) s with
          | nx e1 s1 =>
            simp only [hb2] at q
            exact fun ph1 H1 σ1 g1 r1 rs1 => (show PO W none D Wx ph H (.nx (e1.set j none) s1) from q) ph1 H1 _ g1 r1 rs1.offX
          | bk e1 s1 =>
            simp only [hb2] at q
            exact fun ph1 H1 σ1 g1 r1 rs1 => (show PO W none D Wx ph H (.bk (e1.set j none) s1) from q) ph1 H1 _ g1 r1 rs1.offX
          | ct e1 s1 =>
            simp only [hb2] at q
            exact fun ph1 H1 σ1 g1 r1 rs1 => (show PO W none D Wx ph H (.ct (e1.set j none) s1) from q) ph1 H1 _ g1 r1 rs1.offX
          | rt v s1 => simp only [hb2] at q; exact q
          | ex _ _ _ _ _ => simp only [hb2] at q; exact q.elim
          | stk => simp only [hb2] at q; exact q.elim
      · rw [hb] at q
        exact wish_of g hx2 hr hs hd hl hv q
    · exact q.elim

theorem ss_try (g : Gd W call N k sc false Wx X) (hst : X.stack = X.env :: X.outer) (hfr : X.env.frame = some X.env.locals) {b : MSs} {hs : MHs} {body : List PySem.Stmt} {h0 : PySem.ExceptHandler} {hds : List PySem.ExceptHandler} (hx : hdsEx W.G hs = true)
    (hb : ∀ (W1 : WX) (pn : List (Addr × Obj)) (xe : Value → Shared → Prop), Takes (X.tr pn xe) W1 → PassesOwn (model X.prog X.w) X.A X.env xe → Pss W none call W1 (X.tr pn xe) b body) (hh : Clauses X (h0 :: hds) (clsOfH W call hs)) :
    Ps W none call Wx X (.trys b hs) (.Try body (h0 :: hds) [] [] pos) := by
  refine PS.imp (ps_try_h (tb := fun W1 => tSvs W none call b W1) hst hfr (by rw [g.eN]; exact g.nd) g.tk hb hh) fun D σ H ⟨e, ph, s, hs0, hr, q⟩ => ⟨e, ph, s, hs0, hr, ?_⟩
  unfold sv at q
  cases hb2 : svs W.G call b e s with
  | nx e1 s1 => simp only [hb2] at q; exact q
  | bk e1 s1 => simp only [hb2] at q; exact q
  | ct e1 s1 => simp only [hb2] at q; exact q
  | rt v s1 => simp only [hb2] at q; exact q
  | stk => simp only [hb2] at q; exact q.elim
  | ex c ks xs e1 s1 =>
    simp only [hb2] at q
    intro ph1 H1 σ1 d vs g1 r1 rs1 hd hl hv
    rw [g.eK]
    exact wish_of g hx r1 rs1 hd hl hv (PO.grow g1 q)
end
end Ev

set_option Elab.async false
set_option linter.all false
set_option maxRecDepth 100000
set_option autoImplicit false
/-! Ev: statements: all of them. -/
namespace Ev
open PySem PySem.Spec PyProof.Rows L2
structure SCx (W : Wd) (xa : Xa) (call : Call) (N : List Str) (k : Nat) (sc : Scope) (hot : Bool) (Wx : WX) (X : Cx) : Prop where
  cx : Cxt W xa call N k sc hot false Wx X
  po : hot = false → PassesOwn (model X.prog X.w) X.A X.env X.xe
  stk : X.stack = X.env :: X.outer
  frm : X.env.frame = some X.env.locals
  wr : WrOk X sc
  kd : sc.kind = .function
theorem swap_is {e : PySem.Expr} {gs : List Comprehension} {s : Scope} {p px : Pos} {x : Str} {l : Nat} {env : PySem.Env} :
    swapsWith (.ListComp e gs s p) (some (.Name x px)) l env = pure (env.blockKind == .function && env.kindOf x == some .local && px.line == p.line && !(s.names.any fun (n, k) => n == x && (k == .local || k == .cell))) := rfl
/-- no set, no dict by a comprehension -/
def ncB : PySem.Expr → Bool
  | .SetComp _ _ _ _ => false
  | .DictComp _ _ _ _ _ => false
  | _ => true
theorem swap_of {v : PySem.Expr} {px : Pos} {x : Str} {l : Nat} {env : PySem.Env} (hk : env.scope.kind = .function) (hl : ncB v = true) : swapsWith v (some (.Name x px)) l env = pure (swB env.scope x px v) := by
  cases v with
  | ListComp e gs s p =>
    rw [swap_is]
    have h1 : (env.blockKind == ScopeKind.function) = true := by
      unfold Env.blockKind
      rw [hk]
      rfl
    have h2 : (env.kindOf x == some NameKind.local) = decide (env.scope.names.lookup x = some .local) := by
      show (env.scope.names.lookup x == some NameKind.local) = _
      by_cases hq : env.scope.names.lookup x = some .local
      · rw [hq, decide_eq_true rfl]
        rfl
      · rw [decide_eq_false hq]
        exact beq_eq_false_iff_ne.mpr hq
    rw [h1, h2, Bool.true_and]
    unfold swB
    rw [Bool.and_assoc]
  | SetComp _ _ _ _ => cases hl
  | DictComp _ _ _ _ _ => cases hl
  | _ => rfl
theorem mat_noset {G : Prog} {N : List Str} {inl hot : Bool} {sc : Scope} {m : ME} {v : PySem.Expr} (h : matE G N inl hot sc m v = true) : ncB v = true := by
  cases v <;> first | rfl | skip
  all_goals
    exfalso
    cases m <;> first | (unfold matE at h; cases h; done) | skip
    rename_i b mm es
    cases es <;> (unfold matE at h; cases h)
set_option maxHeartbeats 4000000
mutual
theorem sS (m : MS) {W : Wd} {xa : Xa} {call : Call} {N : List Str} {k : Nat} {sc : Scope} {hot : Bool} {Wx : WX} {X : Cx} {st : PySem.Stmt} (c : SCx W xa call N k sc hot Wx X) (h : matS W.G N hot sc m st = true) : Ps W xa call Wx X m st := by
  cases m with
  | set i a =>
    unfold matS at h
    split at h
    · rename_i x p v sp
      obtain ⟨h1, h2⟩ := ba h
      obtain ⟨hn, h2⟩ := ba h2
      obtain ⟨h1, h3⟩ := ba h1
      have hsw := swap_of (v := v) (px := p) (x := x) (l := sp.line) (env := X.env) (by rw [c.cx.gd.eS]; exact c.kd) (mat_noset h2)
      by_cases hb : swB X.env.scope x p v = true
      · rw [hb] at hsw
        cases v with
        | ListComp el gs sc' vp =>
          cases a with
          | lc m tg it cs e1 =>
            unfold matE at h2
            split at h2
            · rename_i hq
              cases hq
              obtain ⟨k1, k2⟩ := ba h2
              obtain ⟨k2, k3⟩ := ba k2
              obtain ⟨k2, k4⟩ := ba k2
              obtain ⟨k4, k5⟩ := ba k4
              obtain ⟨k3, k6⟩ := ba k3
              obtain ⟨k3, k7⟩ := ba k3
              obtain ⟨k6, k8⟩ := ba k6
              obtain rfl := beq_iff_eq.mp k2
              have hh : hot = false := by simpa using k1
              subst hh
              obtain rfl := c.cx.cold rfl
              have hl : sc.names.lookup x = some .local := by
                rw [c.cx.gd.eS] at hb
                exact of_decide_eq_true (ba hb).1
              exact ss_setLc c.cx.gd (of_decide_eq_true h1) hl hsw (sI it c.cx k3) k4 k7 k5 (fun hd X' g' => sC (inl := true) cs ⟨g', fun _ => rfl, (fun z => nomatch z), (fun z => nomatch z)⟩ k6) (fun hd X' g' => sE (inl := true) e1 ⟨g', fun _ => rfl, (fun z => nomatch z), (fun z => nomatch z)⟩ k8)
            · cases h2
          | lc2 _ _ _ _ _ _ _ _ => cases hn
          | «bif» b mm es => cases es <;> (unfold matE at h2; cases h2)
          | _ => unfold matE at h2; cases h2
        | _ => cases hb
      · have hb : swB X.env.scope x p v = false := by simpa using hb
        rw [hb] at hsw
        exact ss_set c.cx.gd (of_decide_eq_true h1) (c.wr x h3) hsw (sE a c.cx h2)
    · cases h
  | setT is a =>
    unfold matS at h
    split at h
    · obtain ⟨h1, h2⟩ := ba h
      obtain ⟨h2, h3⟩ := ba h2
      obtain ⟨h2, h4⟩ := ba h2
      exact ss_setT c.cx.gd (by simpa using h1) h2 h4 c.wr (sE a c.cx h3)
    · cases h
  | setP i j a b =>
    unfold matS at h
    split at h
    · obtain ⟨z1, z2⟩ := ba h
      obtain ⟨z2, z3⟩ := ba z2
      obtain ⟨z2, z4⟩ := ba z2
      obtain ⟨z2, z5⟩ := ba z2
      obtain ⟨z2, z6⟩ := ba z2
      obtain ⟨z3, z7⟩ := ba z3
      obtain ⟨z7, z8⟩ := ba z7
      obtain ⟨z8, z9⟩ := ba z8
      exact ss_setP c.cx.gd (by simpa using z1) (of_decide_eq_true z2) (of_decide_eq_true z6) (of_decide_eq_true z5) z4 z8 z9 (sE a c.cx z3) (sE b c.cx z7)
    · cases h
  | setD o i a =>
    unfold matS at h
    split at h
    · obtain ⟨h1, h2⟩ := ba h
      obtain ⟨h2, h3⟩ := ba h2
      obtain ⟨h3, h4⟩ := ba h3
      exact ss_setD c.cx.gd h1 (sE o c.cx h2) (sE i c.cx h3) (sE a c.cx h4)
    · cases h
  | setI o i a =>
    unfold matS at h
    split at h
    · obtain ⟨h1, h2⟩ := ba h
      obtain ⟨h2, h3⟩ := ba h2
      obtain ⟨h3, h4⟩ := ba h3
      exact ss_setI h1 (sE o c.cx h2) (sE i c.cx h3) (sE a c.cx h4)
    · cases h
  | setA o f a =>
    unfold matS at h
    split at h
    · obtain ⟨h1, h2⟩ := ba h
      obtain ⟨h1, h3⟩ := ba h1
      obtain ⟨h1, h4⟩ := ba h1
      obtain ⟨h2, h5⟩ := ba h2
      exact ss_setA c.cx.gd (of_decide_eq_true h1) (by simpa using h4) h3 (sE o c.cx h2) (sE a c.cx h5)
    · cases h
  | swp o1 i1 o2 i2 a b =>
    unfold matS at h
    split at h
    · obtain ⟨h1, h2⟩ := ba h
      obtain ⟨h1, h3⟩ := ba h1
      obtain ⟨h3, h4⟩ := ba h3
      obtain ⟨h3, h5⟩ := ba h3
      obtain ⟨h4, h6⟩ := ba h4
      obtain ⟨h2, h7⟩ := ba h2
      obtain ⟨h2, h8⟩ := ba h2
      obtain ⟨h7, h9⟩ := ba h7
      obtain ⟨h7, h10⟩ := ba h7
      obtain ⟨h9, h11⟩ := ba h9
      exact ss_swp c.cx.gd (by simpa using h1) h3 h5 h4 h6 (sE o1 c.cx h2) (sE i1 c.cx h8) (sE o2 c.cx h7) (sE i2 c.cx h10) (sE a c.cx h9) (sE b c.cx h11)
    · cases h
  | aug i o a =>
    unfold matS at h
    split at h
    · obtain ⟨h1, h2⟩ := ba h
      obtain ⟨h1, h3⟩ := ba h1
      obtain ⟨h3, h4⟩ := ba h3
      obtain rfl := of_decide_eq_true h1
      exact ss_aug c.cx.gd (of_decide_eq_true h3) (c.wr _ h4) (sE a c.cx h2)
    · cases h
  | expr a =>
    unfold matS at h
    split at h
    · obtain ⟨h1, h2⟩ := ba h
      exact ss_expr h1 (sE a c.cx h2)
    · cases h
  | ret a =>
    unfold matS at h
    split at h
    · exact ss_ret (sE a c.cx h)
    · cases h
  | retN =>
    unfold matS at h
    split at h
    · exact ss_retN
    · cases h
  | cond d a b =>
    unfold matS at h
    split at h
    · obtain ⟨h1, h2⟩ := ba h
      obtain ⟨h1, h3⟩ := ba h1
      obtain ⟨h2, h4⟩ := ba h2
      exact ss_cond (sT d c.cx h3 h1 (sE d c.cx h3)) (sSs a c h2) (sSs b c h4)
    · cases h
  | for_ tg it b =>
    unfold matS at h
    split at h
    · obtain ⟨h1, h2⟩ := ba h
      obtain ⟨h1, h3⟩ := ba h1
      obtain ⟨h3, h4⟩ := ba h3
      obtain ⟨h2, h5⟩ := ba h2
      have hh : hot = false := by simpa using h1
      exact ss_for c.cx.gd hh (c.po hh) h3 h4 c.wr (sI it c.cx h2) (sSs b c h5)
    · cases h
  | whl d b =>
    unfold matS at h
    split at h
    · obtain ⟨h1, h2⟩ := ba h
      obtain ⟨h1, h3⟩ := ba h1
      obtain ⟨h3, h4⟩ := ba h3
      have hh : hot = false := by simpa using h1
      exact ss_whl (c.po hh) (sT d c.cx h4 h3 (sE d c.cx h4)) (sSs b c h2)
    · cases h
  | brk =>
    unfold matS at h
    split at h
    · exact ss_brk
    · cases h
  | cnt =>
    unfold matS at h
    split at h
    · exact ss_cnt
    · cases h
  | pas =>
    unfold matS at h
    split at h
    · exact ss_pas
    · cases h
  | rais d es =>
    unfold matS at h
    split at h
    · obtain ⟨h1, h2⟩ := ba h
      obtain ⟨h1, h3⟩ := ba h1
      obtain ⟨h3, h4⟩ := ba h3
      obtain ⟨h4, h5⟩ := ba h4
      obtain ⟨h2, h6⟩ := ba h2
      obtain ⟨s1, s2⟩ := matEs_star h2
      rw [List.all_cons] at s1
      exact ss_rais c.cx.gd (by simpa using h1) (of_decide_eq_true h3) h4 h5 (ba s1).1 (ba s1).2 (sEs es c.cx h2)
    · cases h
  | trys b hs =>
    unfold matS at h
    split at h
    · obtain ⟨h1, h2⟩ := ba h
      obtain ⟨h2, h3⟩ := ba h2
      obtain ⟨h2, h4⟩ := ba h2
      have hh : hot = false := by simpa using h1
      subst hh
      obtain rfl := c.cx.cold rfl
      have g := c.cx.gd
      exact ss_try g c.stk c.frm h4 (fun W1 pn xe tk po => sSs b ⟨⟨⟨g.lib, g.eK, g.eN, g.nd, g.eS, g.hu, g.gu, tk, g.calm, g.room⟩, fun _ => rfl, (fun z => nomatch z), fun _ hc => ⟨(c.cx.gen rfl hc).room, (c.cx.gen rfl hc).tb⟩⟩, fun _ => po, c.stk, c.frm, c.wr, c.kd⟩ h2) (sHs hs c h3)
    · cases h
theorem sSs (m : MSs) {W : Wd} {xa : Xa} {call : Call} {N : List Str} {k : Nat} {sc : Scope} {hot : Bool} {Wx : WX} {X : Cx} {st : List PySem.Stmt} (c : SCx W xa call N k sc hot Wx X) (h : matSs W.G N hot sc m st = true) : Pss W xa call Wx X m st := by
  cases m with
  | nil =>
    cases st with
    | nil => exact ss_nil
    | cons _ _ => unfold matSs at h; cases h
  | cons a r =>
    cases st with
    | nil => unfold matSs at h; cases h
    | cons x xs =>
      unfold matSs at h
      obtain ⟨h1, h2⟩ := ba h
      exact ss_cons (sS a c h1) (sSs r c h2)
theorem sHs (m : MHs) {W : Wd} {call : Call} {N : List Str} {k : Nat} {sc : Scope} {Wx : WX} {X : Cx} {hs : List PySem.ExceptHandler} (c : SCx W none call N k sc false Wx X) (h : matHs W.G N sc m hs = true) : Clauses X hs (clsOfH W call m) := by
  cases m with
  | nil =>
    cases hs with
    | nil => exact .nil
    | cons _ _ => unfold matHs at h; cases h
  | cons d i b r =>
    cases hs with
    | nil => unfold matHs at h; cases h
    | cons h0 hs =>
      unfold matHs at h
      split at h
      · rename_i x p nm s0 ss p2
        obtain ⟨h1, h2⟩ := ba h
        obtain ⟨h1, h3⟩ := ba h1
        obtain ⟨h1, h4⟩ := ba h1
        obtain ⟨h4, h5⟩ := ba h4
        obtain ⟨h2, h6⟩ := ba h2
        have g := c.cx.gd
        have hN : Names X x (.ref (W.ca d)) := by
          have h1 := of_decide_eq_true h1
          unfold exN at h1
          cases hC : W.G.cls[d]? with
          | none => rw [hC] at h1; cases h1
          | some C =>
            rw [hC] at h1
            simp only at h1
            split at h1
            · cases h1
              exact ⟨gl_of g h4, (dbg_of h5).1, .inl (g.lib.clm d C hC).1⟩
            · cases h1
        have sg : ∀ (a : Addr) (pn : List (Addr × Obj)), Gd W call N k sc true W0 (X.suite a pn) := fun a pn => ⟨g.lib, g.eK, g.eN, g.nd, g.eS, g.hu, g.gu, takes_none5, (fun z => nomatch z), (fun z => nomatch z)⟩
        cases i with
        | none =>
          cases nm with
          | some _ => cases h3
          | none =>
            refine .bare hN (fun a oe cls dd pn hz hf => ?_) (sHs r c h6)
            exact sSs b ⟨⟨sg _ _, (fun z => nomatch z), fun _ => .inl rfl, fun _ z => nomatch z⟩, (fun z => nomatch z), c.stk, c.frm, c.wr, c.kd⟩ h2
        | some j =>
          cases nm with
          | none => cases h3
          | some n =>
            obtain ⟨h7, h8⟩ := ba h3
            refine .named hN (by rw [g.eN]; exact of_decide_eq_true h7) (by rw [g.kindOf]; exact of_decide_eq_true h8) (fun a oe cls dd pn hz hf => ?_) (sHs r c h6)
            refine ⟨fun pins s σ H D I ⟨c1, d0, e1, e2, q⟩ => ?_⟩
            subst e1 e2
            exact (sSs b (xa := some (j, a, d0, c1)) ⟨⟨sg _ _, (fun z => nomatch z), fun _ => .inr ⟨j, a, d0, c1, X, oe, pn, rfl, rfl, hz, hf⟩, fun _ z => nomatch z⟩, (fun z => nomatch z), c.stk, c.frm, c.wr, c.kd⟩ h2).run pins s σ H D I q
      · cases h
end
end Ev

set_option Elab.async false
set_option linter.all false
set_option maxRecDepth 100000
set_option autoImplicit false
/-! Ev: functions. -/
namespace Ev
open PySem PySem.Spec PyProof.Rows L2
section
variable {W : Wd} {xa : Xa} {call : Call} {N : List Str} {k : Nat} {sc : Scope} {X : Cx} {Wx : WX} {ph r : List Addr} {H H1 : Hp} {D : Ends} {e : Env} {s s1 : Store} {σ : L2.St} {Q : VK} {E : XK}
theorem shut_at {keep : Bool} {x : Val} {v : V} (hr : Rep W ph s H) (q : PR W ph H (QV W Q) E (shut keep s x s1)) {ph1 : List Addr} (g : Grow ph H ph1 H1) (r1 : Rep W ph1 s1 H1) (vr : VR W ph1 H1 x v) : Q v H1 := by
  unfold shut at q
  split at q
  · split at q
    · exact (show QV W Q x s1 ph H from q) ph1 H1 v g r1 vr
    · exact q.elim
  · split at q
    · rename_i hc
      obtain ⟨w, e1, q2⟩ := PR.ofO q
      obtain ⟨rr, e2⟩ := g.pre
      subst e2
      rw [← hr.len] at e1
      exact q2 ph H1 v g.cut (Rep.cut hr r1 hc) (frz_at r1 4 x w v vr e1)
    · exact q.elim
theorem shutE_at {c : Nat} {ks : List Nat} {xs : List Val} (hr : Rep W ph s H) (q : PR W ph H (QV W Q) E (shutE s c ks xs s1)) {ph1 : List Addr} {d : Addr} {vs : List V} (g : Grow ph H ph1 H1) (r1 : Rep W ph1 s1 H1) (hd : H1 d = some (.xd (nmF W ks vs))) (hl : ks.length = xs.length) (hv : VRs W ph1 H1 xs vs) : E (.ref (W.ca c)) (some d) H1 := by
  unfold shutE at q
  split at q
  · rename_i hc
    obtain ⟨hc1, hc2⟩ := hc
    obtain ⟨rr, e2⟩ := g.pre
    subst e2
    have hb : belL ph.length xs = true := by rw [hr.len]; exact hc2
    exact (show EXP W ph H E c ks xs (s1.take s.length) from q) ph H1 d vs g.cut (Rep.cut hr r1 hc1) hd hl (VRs.cut xs hv hb)
  · exact q.elim
theorem rs_start {xs : List Val} {vs : List V} {n : Nat} (h : VRs W ph H xs vs) : RS W none ph H (xs.map some ++ List.replicate n none) (vs.map some ++ List.replicate n none) := by
  refine ⟨by simp [h.length], fun i x h1 h2 => ?_, fun i c ks ys h1 => ?_⟩
  · by_cases hi : i < xs.length
    · rw [List.getElem?_append_left (by rw [List.length_map]; exact hi), List.getElem?_map] at h1
      cases hx : xs[i]? with
      | none => rw [hx] at h1; cases h1
      | some y =>
        rw [hx] at h1
        cases h1
        obtain ⟨v, e1, e2⟩ := h.get hx
        refine ⟨v, ?_, e2⟩
        rw [List.getElem?_append_left (by rw [List.length_map, ← h.length]; exact hi), List.getElem?_map, e1]
        rfl
    · rw [List.getElem?_append_right (by rw [List.length_map]; omega), List.getElem?_replicate] at h1
      split at h1 <;> cases h1
  · exfalso
    by_cases hi : i < xs.length
    · rw [List.getElem?_append_left (by rw [List.length_map]; exact hi), List.getElem?_map] at h1
      cases hx : xs[i]? with
      | none => rw [hx] at h1; cases h1
      | some y =>
        rw [hx] at h1
        cases h1
        obtain ⟨v, e1, e2⟩ := h.get hx
        cases e2
    · rw [List.getElem?_append_right (by rw [List.length_map]; omega), List.getElem?_replicate] at h1
      split at h1 <;> cases h1
/-- a def of the text -/
structure DefOk (W : Wd) (f : Nat) (F : FnT) (fd : FuncData) (ps : List Str) : Prop where
  ex : ∃ (name qual : Str) (params : Arguments) (body : List PySem.Stmt) (scope : Scope) (dV kV doc pm cdv ct oc : Value) (an od : Option Addr) (osl : Array (Option Value)),
    fd = PySem.W.fnOf name qual params body scope dV kV doc pm an cdv ct ∧ W.K.lookup (W.fa f) = some ⟨oc, od, .func fd, osl⟩ ∧ PySem.W.codeIn W.K cdv qual = true ∧ FnScope F.names ps scope ∧ matSs W.G F.names false scope F.body body = true ∧ ∃ c P : Addr, cdv = .ref c ∧ PySem.W.codeHdIn W.K c P = true ∧ P ∈ W.T
  ar : F.ar = ps.length
/-- a def's promise for callers that stand within no repr -/
structure FnO (P : Program) (w : World) (K : PySem.W.Frag) (mg : Str → Option Value) (base : Heap) (k : Nat) (f : Addr) (fd : FuncData) (ps : List Str) (sp : Sp) : Prop where
  len : ∀ vs H Q E, sp vs H Q E → vs.length = ps.length
  run : ∀ (A : Around) (outer : List PySem.Env) (s : Shared) (H : Hp) (args : Args) (us : List Value) (vs : List V) (Q : VK) (E : XK), A.guards = some [] → Room k A → Env0 P w K mg base A outer s H → BindsTo s fd args (ps.zip us) → Vals vs us → sp vs H Q E →
    codeAny (model P w) A (.call (.ref f) args) (L2.CR (L2.CX P w) outer P w H s Q E) s
theorem fnO_of {P : Program} {w : World} {K : PySem.W.Frag} {mg : Str → Option Value} {base : Heap} {k : Nat} {f : Addr} {name qual : Str} {params : Arguments} {body : List PySem.Stmt} {scope : Scope} {dV kV doc pm cdv ct oc : Value} {an od : Option Addr} {osl : Array (Option Value)} {N ps : List Str} {sp : Sp}
    (lk : K.lookup f = some ⟨oc, od, .func (PySem.W.fnOf name qual params body scope dV kV doc pm an cdv ct), osl⟩) (hcd : PySem.W.codeIn K cdv qual = true) (S : FnScope N ps scope) (hlen : ∀ vs H Q E, sp vs H Q E → vs.length = ps.length)
    (hb : ∀ (A : Around) (outer : List PySem.Env) (s : Shared) (H : Hp) (vs : List V) (Q : VK) (E : XK), A.guards = some [] → Room k (A.deeper (envOfC qual scope s.heap.objs.size f cdv)) → sp vs H Q E →
      ∃ t, PSs (cxOf (L2.CX P w) P w K mg base N qual scope f cdv A outer s H E) body t ∧ t { nx := fun _ H' => Q .non H', rt := Q } (start N vs) H) :
    FnO P w K mg base (k + 1) f (PySem.W.fnOf name qual params body scope dV kV doc pm an cdv ct) ps sp := by
  constructor
  · exact hlen
  intro A outer s H args us vs Q E hg hR he hB hV hS
  have st : ∀ b o, base.get? b = some o → s.heap.get? b = some o := fun b o z => (he.bs b o z).1
  have KH := he.mod.kin.keeps st
  have NL := he.mod.nolimit.keeps st
  have bnd : ∀ y ∈ ps.zip us, scope.names.lookup y.1 = some .local ∨ (scope.names.lookup y.1 = some .cell ∧ ((cellsFrom (s.heap.objs.size + 1) scope.names []).lookup y.1).isSome = true) := by
    intro y hy
    have hy1 := (List.of_mem_zip (show (y.1, y.2) ∈ ps.zip us from hy)).1
    rcases S.par y.1 hy1 with z | z
    · exact Or.inl z
    · exact Or.inr ⟨z, PySem.W.cellsFrom_some _ _ _ (Or.inl z)⟩
  obtain ⟨t, ht, hq⟩ := hb A outer s H vs Q E hg (hR.deeper _) hS
  apply codeAny_call_function hR.depth (KH _ _ lk) rfl S.co S.gen rfl (PySem.W.codeRec_of KH hcd)
  apply hB
  apply wpAny_newFunctionEnv_cells S.kind bnd
  intro env e1 s1 x
  subst e1
  refine And.intro (NL.keeps x.toInCall.keep) (codeAny_func ?_)
  have J := inv_start (CX := L2.CX P w) (E := E) S hR.hd he (hlen _ _ _ _ hS) hV x
  refine wpAny_mono (ht.run [] s1 (start N vs) H _ J hq) (fun fl s2 z => ?_) (fun _ _ z => z)
  cases fl with
  | ret u => exact (let ⟨v, σ2, H2, J2, rv, q⟩ := z; ⟨v, H2, J2.os, J2.bare, J2.base, J2.hok, rv, q⟩)
  | next => exact (let ⟨σ2, H2, J2, q⟩ := z; ⟨V.non, H2, J2.os, J2.bare, J2.base, J2.hok, rfl, q⟩)
  | brk => exact (let ⟨_, _, _, q⟩ := z; False.elim q)
  | cont => exact (let ⟨_, _, _, q⟩ := z; False.elim q)
theorem FnO.raw {P : Program} {w : World} {K : PySem.W.Frag} {mg : Str → Option Value} {base : Heap} {f : Addr} {fd : FuncData} {ps : List Str} {sp : Sp} {ds : List Value} {dvs : List V} (F : FnO P w K mg base k f fd ps sp) (hb : Binds K fd ps ds) (hd : Vals dvs ds) :
    FnG P w K mg base k f (fun vs H Q E => sp (vs ++ dvs) H Q E) := by
  intro A outer s H us vs Q E hg hR he hV hS
  have r2 := hV.append hd
  have hl : (us ++ ds).length = ps.length := r2.length ▸ F.len _ _ _ _ hS
  exact F.run A outer s H ⟨us, []⟩ (us ++ ds) (vs ++ dvs) Q E hg hR he (hb s us (he.mod.kin.keeps fun b o z => (he.bs b o z).1) hl) r2 hS
theorem FnG.mono {P : Program} {w : World} {K : PySem.W.Frag} {mg : Str → Option Value} {base : Heap} {f : Addr} {j k : Nat} {sp : Sp} (F : FnG P w K mg base j f sp) (h : j ≤ k) : FnG P w K mg base k f sp := fun A outer s H us vs Q E hg hR => F A outer s H us vs Q E hg (hR.mono h)
theorem FnG.imp {P : Program} {w : World} {K : PySem.W.Frag} {mg : Str → Option Value} {base : Heap} {f : Addr} {k : Nat} {sp sp' : Sp} (F : FnG P w K mg base k f sp) (h : ∀ vs H Q E, sp' vs H Q E → sp vs H Q E) : FnG P w K mg base k f sp' := fun A outer s H us vs Q E hg hR he hV hS => F A outer s H us vs Q E hg hR he hV (h _ _ _ _ hS)
theorem fn_ev {P : Program} {w : World} {mg : Str → Option Value} {base : Heap} {n f : Nat} {F : FnT} {fd : FuncData} {ps : List Str} (lib : Lib W P w mg base (run W.G n) k) (hF : W.G.fns[f]? = some F) (hd : DefOk W f F fd ps) (tb : ∀ c P, PySem.W.codeHdIn W.K c P = true → P ∈ W.T → GxR.TabB base mg c P) :
    FnO P w W.K mg base (k + 5) (W.fa f) fd ps (spEvK W (run W.G (n + 1)) f F) := by
  obtain ⟨name, qual, params, body, scope, dV, kV, doc, pm, cdv, ct, oc, an, od, osl, rfl, lk, hcd, S, hm, cc, PP, ecd, hhd, hPT⟩ := hd.ex
  have unf : ∀ {xs : List Val} {s : Store}, run W.G (n + 1) f (xs ++ mkA F) s = if xs.length = F.ar ∧ F.ar ≤ F.names.length then (match svs W.G (run W.G n) F.body (xs.map some ++ List.replicate (F.names.length - F.ar) none) s with
        | .nx _ s1 => shut F.keep s .non s1
        | .rt v s1 => shut F.keep s v s1
        | .ex c ks ys _ s1 => shutE s c ks ys s1
        | _ => .stk) else .stk := by
    intro xs s
    rw [run]
    simp only [hF, full_mk] <;> rfl
  refine fnO_of (N := F.names) lk hcd S (fun vs H Q E ⟨ph, s, xs, hr, hv, q⟩ => ?_) fun A outer s0 H vs Q E hgu hroom ⟨ph, s, xs, hr, hv, q⟩ => ?_
  · rw [unf] at q
    split at q
    · rename_i hc
      rw [← hv.length, hc.1]
      exact hd.ar
    · exact q.elim
  · rw [unf] at q
    split at q
    · rename_i hc
      obtain ⟨hl, hle⟩ := hc
      have hlv : vs.length = F.ar := by rw [← hv.length, hl]
      refine ⟨tSvs W none (run W.G n) F.body (fun cls d _ H => E cls d H), ?_, ?_⟩
      · have gd : Gd W (run W.G n) F.names k scope false (fun cls d _ H => E cls d H) (cxOf (L2.CX P w) P w W.K mg base F.names qual scope (W.fa f) cdv A outer s0 H E) :=
          ⟨lib, rfl, rfl, S.nd, rfl, by have := hroom.un; show (A.deeper _).units + 65 < cLine; omega, hgu, takes_of rfl rfl rfl rfl, fun _ => rfl, fun _ => hroom.mono (by omega)⟩
        refine sSs F.body ⟨⟨gd, fun _ => rfl, (fun z => nomatch z), fun _ _ => ⟨hroom, cc, PP, ecd, tb cc PP hhd hPT, hPT⟩⟩, fun _ => passes_of rfl, rfl, rfl, fun x hx => ?_, S.kind⟩ hm
        refine ⟨?_, .inl rfl⟩
        unfold locB at hx
        show scope.names.lookup x = some .local ∨ scope.names.lookup x = some .cell
        cases q : scope.names.lookup x with
        | none => rw [q] at hx; cases hx
        | some kd => rw [q] at hx; cases kd <;> first | exact .inl rfl | exact .inr rfl | cases hx
      · refine ⟨xs.map some ++ List.replicate (F.names.length - F.ar) none, ph, s, ?_, hr, ?_⟩
        · unfold L2.start
          rw [hlv]
          exact rs_start hv
        · cases ho : svs W.G (run W.G n) F.body (xs.map some ++ List.replicate (F.names.length - F.ar) none) s with
          | nx e1 s1 =>
            simp only [ho] at q
            exact fun ph1 H1 σ1 g1 r1 rs1 => shut_at hr q g1 r1 .non
          | rt v s1 =>
            simp only [ho] at q
            exact fun ph1 H1 u g1 r1 vr => shut_at hr q g1 r1 vr
          | ex c ks ys e1 s1 =>
            simp only [ho] at q
            exact fun ph1 H1 σ1 d us g1 r1 rs1 hd hl hv => shutE_at hr q g1 r1 hd hl hv
          | bk _ _ => simp only [ho] at q; exact q.elim
          | ct _ _ => simp only [ho] at q; exact q.elim
          | stk => simp only [ho] at q; exact q.elim
    · exact q.elim
/-- arguments by keyword -/
def KwdB (fd : FuncData) (ps : List Str) (m : Nat) : Prop := ∀ (us ws full : List Value) (ks : List Str), us.length ≤ m → ws.length = ks.length → ks.Nodup → (∀ x ∈ ks, x ∈ ps.drop us.length) → full.length = ps.length →
  (∀ (i : Nat) (p : Str) (v : Value), ps[i]? = some p → full[i]? = some v → (ps.zip us ++ ks.zip ws).lookup p = some v) → bindArgs fd ⟨us, ks.zip ws⟩ = pure (ps.zip full)
theorem FnK.of {P : Program} {w : World} {K : PySem.W.Frag} {mg : Str → Option Value} {base : Heap} {f : Addr} {fd : FuncData} {ps : List Str} {sp : Sp} (F : FnO P w K mg base k f fd ps sp) {m : Nat} (h : KwdB fd ps m) : FnK P w K mg base k f ps m sp :=
  fun A outer s H us ws full ks vs Q E hg hr he h1 h2 h3 h4 h5 h6 r q => F.run A outer s H ⟨us, ks.zip ws⟩ full vs Q E hg hr he (BindsTo.of_eq (h us ws full ks h1 h2 h3 h4 h5 h6)) r q
theorem vrs_ints {W : Wd} {ph : List Addr} {H : Hp} {is : List Int} : ∀ {xs : List Val} {vs : List V}, VRs W ph H xs vs → VRs W ph H (xs ++ is.map .int) (vs ++ is.map V.int)
  | _, _, .nil => by
    induction is with
    | nil => exact .nil
    | cons i is ih => exact .cons (.int i) ih
  | _, _, .cons h r => .cons h (vrs_ints r)
theorem vrs_last {W : Wd} {ph : List Addr} {H : Hp} : ∀ {xs : List Val} {vs : List V}, VRs W ph H xs vs → ∀ x ∈ xs, ∃ v, VR W ph H x v
  | _, _, .nil => by simp
  | _, _, .cons h r => fun x hx => by
    rcases List.mem_cons.mp hx with rfl | hx
    · exact ⟨_, h⟩
    · exact vrs_last r x hx
theorem full_vr {W : Wd} {ph : List Addr} {H : Hp} {F : FnT} {xs : List Val} {vs : List V} (h : VRs W ph H xs vs) : fullA F xs = some (xs ++ F.dfl.map .int) := by
  unfold fullA
  cases hd : F.dfl with
  | nil => simp
  | cons i is =>
    simp only
    split
    · rename_i r hr
      exfalso
      obtain ⟨v, hv⟩ := vrs_last h (.exv 0 [] []) (by rw [← List.mem_reverse, hr]; exact List.mem_cons_self)
      cases hv
    · rfl
/-- what is known of the text, whatever is called -/
structure Facts (W : Wd) (P : Program) (w : World) (mg : Str → Option Value) (base : Heap) : Prop where
  lib0 : Lib W P w mg base (run W.G 0) 2
  defs : ∀ (f : Nat) (F : FnT), W.G.fns[f]? = some F → ∃ (fd : FuncData) (ps : List Str), DefOk W f F fd ps ∧ (∃ ds, Vals (F.dfl.map V.int) ds ∧ Binds W.K fd ps ds) ∧ KwdB fd ps (F.ar - F.dfl.length)
  tb : ∀ c P, PySem.W.codeHdIn W.K c P = true → P ∈ W.T → GxR.TabB base mg c P
theorem Lib.to {P : Program} {w : World} {mg : Str → Option Value} {base : Heap} {c2 : Call} {k2 : Nat} (l : Lib W P w mg base call k) (h : ∀ (f : Nat) (hd : List Addr), FnG P w W.K mg base k2 (W.fa f) (spEv { W with hd := hd } c2 f)) (h2 : ∀ (f : Nat) (F : FnT) (hd : List Addr), W.G.fns[f]? = some F → FnK P w W.K mg base k2 (W.fa f) (F.names.take F.ar) (F.ar - F.dfl.length) (spEvK { W with hd := hd } c2 f F)) : Lib W P w mg base c2 k2 :=
  ⟨l.free, l.fnm, h, h2, l.con, l.idn, l.fld, l.mth, l.mks, l.clm, l.ins, l.exk, l.exf, l.exi, l.exm, l.kit, l.gcd⟩
theorem DefOk.hide {f : Nat} {F : FnT} {fd : FuncData} {ps : List Str} (h : DefOk W f F fd ps) (hd : List Addr) : DefOk { W with hd := hd } f F fd ps := ⟨h.ex, h.ar⟩
theorem lib_all {P : Program} {w : World} {mg : Str → Option Value} {base : Heap} (T : Facts W P w mg base) : ∀ n : Nat, Lib W P w mg base (run W.G n) (5 * n + 2)
  | 0 => T.lib0
  | n + 1 => by
    have key : ∀ (f : Nat) (F : FnT) (hd : List Addr), W.G.fns[f]? = some F → ∃ (fd : FuncData), FnO P w W.K mg base (5 * n + 2 + 5) (W.fa f) fd (F.names.take F.ar) (spEvK { W with hd := hd } (run W.G (n + 1)) f F) ∧ (∃ ds, Vals (F.dfl.map V.int) ds ∧ Binds W.K fd (F.names.take F.ar) ds) ∧ KwdB fd (F.names.take F.ar) (F.ar - F.dfl.length) := fun f F hd hF => by
      obtain ⟨fd, ps, h1, h2, h3⟩ := T.defs f F hF
      obtain ⟨_, _, _, _, _, _, _, _, _, _, _, _, _, _, _, _, _, _, S, _, _⟩ := h1.ex
      have e : F.names.take F.ar = ps := by rw [h1.ar]; exact S.pre
      rw [e]
      exact ⟨fd, fn_ev (W := { W with hd := hd }) (k := 5 * n + 2) ((lib_all T n).hide hd) hF (h1.hide hd) T.tb, h2, h3⟩
    refine (lib_all T n).to (fun f hd => ?_) fun f F hd hF => ?_
    · cases hF : W.G.fns[f]? with
      | none =>
        intro A outer s H us vs Q E _ _ _ _ ⟨ph, m, xs, _, _, q⟩
        exfalso
        have e : run W.G (n + 1) f xs m = .stk := by
          rw [run]
          simp only [hF]
        have q : PR { W with hd := hd } ph H (QV { W with hd := hd } Q) E (run W.G (n + 1) f xs m) := q
        rw [e] at q
        exact q
      | some F =>
        obtain ⟨fd, F1, ⟨ds, hds, h2⟩, _⟩ := key f F hd hF
        have F2 : FnG P w W.K mg base (5 * n + 2 + 5) (W.fa f) (fun vs H Q E => spEvK { W with hd := hd } (run W.G (n + 1)) f F (vs ++ F.dfl.map V.int) H Q E) := F1.raw h2 hds
        refine (FnG.imp F2 fun vs H Q E h => ?_).mono (by omega)
        obtain ⟨ph, s, xs, hr, hv, q⟩ := h
        refine ⟨ph, s, xs ++ F.dfl.map .int, hr, vrs_ints hv, ?_⟩
        have e : run W.G (n + 1) f (xs ++ F.dfl.map .int ++ mkA F) s = run W.G (n + 1) f xs s := by
          rw [run, run]
          simp only [hF, full_mk, full_vr hv]
        rw [e]
        exact q
    · obtain ⟨fd, F1, _, h3⟩ := key f F hd hF
      exact (FnK.of F1 h3)
end
end Ev

set_option Elab.async false
set_option linter.all false
set_option maxRecDepth 100000
set_option autoImplicit false
/-! Ev: positional arguments, as many as there are parameters. -/
namespace Ev
open PySem PySem.Spec PyProof.Rows L2
def smpB (p : Arguments) (ps : List Str) : Bool := decide (p.posonlyargs.map (·.arg) = []) && (decide (p.args.map (·.arg) = ps) && (decide (p.kwonlyargs.map (·.arg) = []) && (p.vararg.isNone && (p.kwarg.isNone && decide ps.Nodup))))
theorem fm_congr {α β : Type} {f g : α → Option β} : ∀ {l : List α}, (∀ n ∈ l, f n = g n) → l.filterMap f = l.filterMap g
  | [], _ => rfl
  | a :: l, h => by
    rw [List.filterMap_cons, List.filterMap_cons, h a List.mem_cons_self, fm_congr fun n hn => h n (List.mem_cons_of_mem _ hn)]
theorem zip_lookup {us : List Value} : ∀ {ps : List Str}, ps.Nodup → us.length = ps.length → (∀ n ∈ ps, ((ps.zip us).lookup n).isSome = true) ∧ (ps.filterMap fun n => ((ps.zip us).lookup n).map (n, ·)) = ps.zip us := by
  induction us with
  | nil =>
    intro ps hn hl
    cases ps with
    | nil => exact ⟨fun n h => (nomatch h), rfl⟩
    | cons p ps => cases hl
  | cons u us ih =>
    intro ps hn hl
    cases ps with
    | nil => cases hl
    | cons p ps =>
      have hn := List.nodup_cons.mp hn
      obtain ⟨h1, h2⟩ := ih hn.2 (Nat.succ.inj hl)
      have key : ∀ n ∈ ps, ((p, u) :: ps.zip us).lookup n = (ps.zip us).lookup n := fun n hm => by
        rw [List.lookup_cons, beq_eq_false_iff_ne.mpr fun z => hn.1 (by rw [← z]; exact hm)]
      refine ⟨fun n hm => ?_, ?_⟩
      · rcases List.mem_cons.mp hm with z | z
        · subst z
          show (((n, u) :: ps.zip us).lookup n).isSome = true
          rw [List.lookup_cons, beq_self_eq_true]
          rfl
        · show (((p, u) :: ps.zip us).lookup n).isSome = true
          rw [key n z]
          exact h1 n z
      · show (p :: ps).filterMap (fun n => (((p, u) :: ps.zip us).lookup n).map (n, ·)) = (p, u) :: ps.zip us
        rw [List.filterMap_cons]
        have e : ((p, u) :: ps.zip us).lookup p = some u := by rw [List.lookup_cons, beq_self_eq_true]
        rw [e]
        show (p, u) :: ps.filterMap (fun n => (((p, u) :: ps.zip us).lookup n).map (n, ·)) = _
        rw [fm_congr fun n hm => by rw [key n hm], h2]
theorem bind_smp {x qual : Str} {params : Arguments} {body : List Stmt} {scope : Scope} {kV doc pm cdv ct : Value} {an : Option Addr} {ps : List Str} (h : smpB params ps = true) (us : List Value) (hl : us.length = ps.length) :
    bindArgs (PySem.W.fnOf x qual params body scope .none kV doc pm an cdv ct) ⟨us, []⟩ = pure (ps.zip us) := by
  unfold smpB at h
  simp only [Bool.and_eq_true, decide_eq_true_eq, Option.isNone_iff_eq_none] at h
  obtain ⟨h1, h2, h3, h4, h5, h6⟩ := h
  obtain ⟨k1, k2⟩ := zip_lookup h6 hl
  unfold bindArgs PySem.W.fnOf
  simp only [h1, h2, h3, h4, h5, List.nil_append]
  simp [seqItems?, hl, k2]
  have hf : ps.filter (fun n => (List.lookup n (ps.zip us)).isNone) = [] := by
    rw [List.filter_eq_nil_iff]
    intro n hn z
    have q := k1 n hn
    rw [Option.isSome_iff_ne_none] at q
    exact q (Option.isNone_iff_eq_none.mp z)
  have ht : List.take (ps.length - (List.drop ((#[] : Array Value).size - ps.length) ([] : List Value)).length) ps = ps := by simp
  simp only [ht, hf, List.isEmpty_nil, Bool.not_true, Bool.false_eq_true, if_false]
  rfl
end Ev

set_option Elab.async false
set_option linter.all false
set_option maxRecDepth 100000
set_option autoImplicit false
/-! Ev: arguments by keyword. -/
namespace Ev
open PySem PySem.Spec PyProof.Rows L2
theorem look_app {l r : List (Str × Value)} {k : Str} (h : l.lookup k = none) : (l ++ r).lookup k = r.lookup k := by
  induction l with
  | nil => rfl
  | cons p l ih =>
    obtain ⟨a, b⟩ := p
    rw [List.lookup_cons] at h
    rw [List.cons_append, List.lookup_cons]
    cases q : k == a with
    | true => rw [q] at h; cases h
    | false => rw [q] at h; exact ih h
theorem kw_loop {β : Type} {ps : List Str} {F : Str × Value → List (Str × Value) × β → Sem (ForInStep (List (Str × Value) × β))} (hF : ∀ x s, x.1 ∈ ps → s.1.lookup x.1 = none → F x s = pure (ForInStep.yield (s.1 ++ [(x.1, x.2)], s.2))) :
    ∀ (l : List (Str × Value)) (s : List (Str × Value) × β), (l.map (·.1)).Nodup → (∀ q ∈ l, q.1 ∈ ps ∧ s.1.lookup q.1 = none) → forIn l s F = pure (s.1 ++ l, s.2)
  | [], s, _, _ => by rw [List.forIn_nil, List.append_nil]
  | q :: l, s, hn, hq => by
    obtain ⟨h1, h2⟩ := hq q List.mem_cons_self
    have hn := List.nodup_cons.mp (show (q.1 :: l.map (·.1)).Nodup from hn)
    rw [List.forIn_cons, hF q s h1 h2, pure_bind]
    show forIn l (s.1 ++ [(q.1, q.2)], s.2) F = _
    rw [kw_loop hF l _ hn.2 fun z hz => ?_]
    · show pure (s.1 ++ [(q.1, q.2)] ++ l, s.2) = _
      rw [List.append_assoc]
      rfl
    · obtain ⟨k1, k2⟩ := hq z (List.mem_cons_of_mem _ hz)
      refine ⟨k1, ?_⟩
      show (s.1 ++ [(q.1, q.2)]).lookup z.1 = none
      rw [look_app k2, List.lookup_cons, beq_eq_false_iff_ne.mpr fun e => hn.1 (by rw [← e]; exact List.mem_map.mpr ⟨z, hz, rfl⟩)]
      rfl
theorem fm_zip {l : List (Str × Value)} : ∀ {ps : List Str} {vs : List Value}, vs.length = ps.length → (∀ (i : Nat) (p : Str) (v : Value), ps[i]? = some p → vs[i]? = some v → l.lookup p = some v) → (ps.filterMap fun n => (l.lookup n).map (n, ·)) = ps.zip vs
  | [], [], _, _ => rfl
  | [], _ :: _, h, _ => by cases h
  | _ :: _, [], h, _ => by cases h
  | p :: ps, v :: vs, h, hz => by
    rw [List.filterMap_cons, hz 0 p v rfl rfl]
    show (p, v) :: _ = _
    rw [fm_zip (Nat.succ.inj h) fun i p v h1 h2 => hz (i + 1) p v h1 h2]
    rfl
theorem zip_none {us : List Value} : ∀ {ps : List Str} {k : Str}, ps.Nodup → k ∈ ps.drop us.length → (ps.zip us).lookup k = none := by
  induction us with
  | nil => intro ps k _ _; rw [List.zip_nil_right]; rfl
  | cons u us ih =>
    intro ps k hn hk
    cases ps with
    | nil => cases hk
    | cons p ps =>
      have hn := List.nodup_cons.mp hn
      have hk : k ∈ ps.drop us.length := hk
      show ((p, u) :: ps.zip us).lookup k = none
      rw [List.lookup_cons, beq_eq_false_iff_ne.mpr fun e => hn.1 (by rw [← e]; exact List.mem_of_mem_drop hk)]
      exact ih hn.2 hk
theorem bind_kw {x qual : Str} {params : Arguments} {body : List Stmt} {scope : Scope} {kV doc pm cdv ct : Value} {an : Option Addr} {ps ks : List Str} (h : smpB params ps = true) (us ws : List Value) (hl : us.length ≤ ps.length) (hw : ws.length = ks.length) (hn : ks.Nodup) (hs : ∀ k ∈ ks, k ∈ ps.drop us.length) (vs : List Value) (hv : vs.length = ps.length) (hz : ∀ (i : Nat) (p : Str) (v : Value), ps[i]? = some p → vs[i]? = some v → (ps.zip us ++ ks.zip ws).lookup p = some v) :
    bindArgs (PySem.W.fnOf x qual params body scope .none kV doc pm an cdv ct) ⟨us, ks.zip ws⟩ = pure (ps.zip vs) := by
  unfold smpB at h
  simp only [Bool.and_eq_true, decide_eq_true_eq, Option.isNone_iff_eq_none] at h
  obtain ⟨h1, h2, h3, h4, h5, h6⟩ := h
  have hm : (ks.zip ws).map (·.1) = ks := by
    rw [List.map_fst_zip]
    omega
  have hall : ∀ p ∈ ps, ((ps.zip us ++ ks.zip ws).lookup p).isSome = true := fun p hp => by
    obtain ⟨i, hi, e⟩ := List.mem_iff_getElem.mp hp
    rw [hz i p (vs[i]'(by omega)) (by rw [List.getElem?_eq_getElem hi, e]) (List.getElem?_eq_getElem (by omega))]
    rfl
  unfold bindArgs PySem.W.fnOf
  simp only [h1, h2, h3, h4, h5, List.nil_append]
  simp [seqItems?]
  rw [kw_loop (ps := ps) (fun z s q1 q2 => by simp [q1, q2]) (ks.zip ws) (ps.zip us, []) (by rw [hm]; exact hn) fun q hq => ?_]
  · rw [pure_bind]
    have hf : (ps.filter fun n => ((ps.zip us ++ ks.zip ws).lookup n).isNone) = [] := by
      rw [List.filter_eq_nil_iff]
      intro n hn z
      have q := hall n hn
      rw [Option.isSome_iff_ne_none] at q
      exact q (Option.isNone_iff_eq_none.mp z)
    have ht : List.take (ps.length - (List.drop ((#[] : Array Value).size - ps.length) ([] : List Value)).length) ps = ps := by simp
    have h7 : ¬ ps.length < us.length := by omega
    simp only [ht, hf, h7, List.isEmpty_nil, Bool.not_true, Bool.false_eq_true, if_false, fm_zip hv hz]
    rfl
  · have hk : q.1 ∈ ks := by rw [← hm]; exact List.mem_map.mpr ⟨q, hq, rfl⟩
    exact ⟨List.mem_of_mem_drop (hs _ hk), zip_none h6 (hs _ hk)⟩
end Ev

set_option Elab.async false
set_option linter.all false
set_option maxRecDepth 100000
set_option autoImplicit false
/-! Ev: a def with one keyword-only parameter that has a default. -/
namespace Ev
open PySem PySem.Spec PyProof.Rows L2
def kw1B (p : Arguments) (qs : List Str) (x : Str) : Bool := decide (p.posonlyargs.map (·.arg) = []) && (decide (p.args.map (·.arg) = qs) && (decide (p.kwonlyargs.map (·.arg) = [x]) && (p.vararg.isNone && (p.kwarg.isNone && decide (qs ++ [x]).Nodup))))
theorem zip_look_none {us : List Value} {qs : List Str} {x : Str} (h : x ∉ qs) : (qs.zip us).lookup x = none := by
  induction us generalizing qs with
  | nil => cases qs <;> rfl
  | cons u us ih =>
    cases qs with
    | nil => rfl
    | cons q qs =>
      rw [List.zip_cons_cons, List.lookup_cons, beq_eq_false_iff_ne.mpr fun e => h (by rw [e]; exact List.mem_cons_self)]
      exact ih fun hm => h (List.mem_cons_of_mem _ hm)
theorem look_app1' {l r : List (Str × Value)} {k : Str} {v : Value} (h : l.lookup k = some v) : (l ++ r).lookup k = some v := by
  induction l with
  | nil => cases h
  | cons p l ih =>
    obtain ⟨a, b⟩ := p
    rw [List.lookup_cons] at h
    rw [List.cons_append, List.lookup_cons]
    cases q : k == a with
    | true => rw [q] at h; exact h
    | false => rw [q] at h; exact ih h
theorem chain_one {α β : Type} {D : Addr} {p : Str} {u : Value} {k : Option Value → Sem β} {K : β → Sem α} {a : β} {r : α} (h1 : k (some u) = pure a) (h2 : K a = pure r) : KwChain D [(p, u)] (nsGet D p >>= fun x => k x >>= K) r :=
  ⟨β, β, k, pure, K, a, by rw [bind_pure, bind_assoc], h1, by show pure a >>= K = pure r; rw [pure_bind]; exact h2⟩
theorem bind_k1d {x qual : Str} {params : Arguments} {body : List Stmt} {scope : Scope} {doc pm cdv ct : Value} {D : Addr} {an : Option Addr} {qs : List Str} {p : Str} (h : kw1B params qs p = true) (us : List Value) (u : Value) (hl : us.length = qs.length) :
    KwChain D [(p, u)] (bindArgs (PySem.W.fnOf x qual params body scope .none (.ref D) doc pm an cdv ct) ⟨us, []⟩) ((qs ++ [p]).zip (us ++ [u])) := by
  unfold kw1B at h
  simp only [Bool.and_eq_true, decide_eq_true_eq, Option.isNone_iff_eq_none] at h
  obtain ⟨h1, h2, h3, h4, h5, h6⟩ := h
  have hn : qs.Nodup := (List.nodup_append.mp h6).1
  have hx : p ∉ qs := fun hm => (List.nodup_append.mp h6).2.2 p hm p (by simp) rfl
  obtain ⟨k1, k2⟩ := zip_lookup hn hl
  have hf : qs.filter (fun n => (List.lookup n (qs.zip us)).isNone) = [] := by
    rw [List.filter_eq_nil_iff]
    intro n hn z
    have q := k1 n hn
    rw [Option.isSome_iff_ne_none] at q
    exact q (Option.isNone_iff_eq_none.mp z)
  have ht : List.take (qs.length - (List.drop ((#[] : Array Value).size - qs.length) ([] : List Value)).length) qs = qs := by simp
  unfold bindArgs PySem.W.fnOf
  simp only [h1, h2, h3, h4, h5, List.nil_append]
  simp [seqItems?, hl, k2, zip_look_none hx]
  simp only [ht, hf, List.isEmpty_nil, Bool.not_true, Bool.false_eq_true, if_false]
  rw [show (notAStandIn Value.none : Sem Unit) = pure () from rfl, pure_bind]
  refine chain_one (a := ForInStep.yield (qs.zip us ++ [(p, u)], [])) ?_ ?_
  · rfl
  · rw [pure_bind]
    have e1 : ∀ n ∈ qs, List.lookup n (qs.zip us ++ [(p, u)]) = List.lookup n (qs.zip us) := fun n hm => by
      have := k1 n hm
      obtain ⟨v, hv⟩ := Option.isSome_iff_exists.mp this
      rw [hv]
      exact look_app1' hv
    have e2 : List.lookup p (qs.zip us ++ [(p, u)]) = some u := by
      rw [look_app (zip_look_none hx), List.lookup_cons, beq_self_eq_true]
    simp only [if_true]
    rw [fm_congr fun n hm => by rw [e1 n hm], k2]
    simp [e2]
    rw [List.zip_append hl.symm]; rfl
theorem zip_left {α β : Type} {r : List α} : ∀ {qs : List α} {us : List β}, us.length ≤ qs.length → (qs ++ r).zip us = qs.zip us
  | [], [], _ => by simp
  | [], _ :: _, h => by simp at h
  | _ :: _, [], _ => by simp
  | q :: qs, u :: us, h => by rw [List.cons_append, List.zip_cons_cons, List.zip_cons_cons, zip_left (Nat.le_of_succ_le_succ h)]
theorem bind_k1 {x qual : Str} {params : Arguments} {body : List Stmt} {scope : Scope} {kV doc pm cdv ct : Value} {an : Option Addr} {qs ks : List Str} {p : Str} (h : kw1B params qs p = true) (us ws : List Value) (hl : us.length ≤ qs.length) (hw : ws.length = ks.length) (hn : ks.Nodup) (hs : ∀ k ∈ ks, k ∈ (qs ++ [p]).drop us.length) (vs : List Value) (hv : vs.length = (qs ++ [p]).length) (hz : ∀ (i : Nat) (q : Str) (v : Value), (qs ++ [p])[i]? = some q → vs[i]? = some v → ((qs ++ [p]).zip us ++ ks.zip ws).lookup q = some v) :
    bindArgs (PySem.W.fnOf x qual params body scope .none kV doc pm an cdv ct) ⟨us, ks.zip ws⟩ = pure ((qs ++ [p]).zip vs) := by
  unfold kw1B at h
  simp only [Bool.and_eq_true, decide_eq_true_eq, Option.isNone_iff_eq_none] at h
  obtain ⟨h1, h2, h3, h4, h5, h6⟩ := h
  have hzu : (qs ++ [p]).zip us = qs.zip us := zip_left hl
  have hm : (ks.zip ws).map (·.1) = ks := by
    rw [List.map_fst_zip]
    omega
  have hall : ∀ q ∈ qs ++ [p], ((qs.zip us ++ ks.zip ws).lookup q).isSome = true := fun q hq => by
    obtain ⟨i, hi, e⟩ := List.mem_iff_getElem.mp hq
    rw [← hzu, hz i q (vs[i]'(by omega)) (by rw [List.getElem?_eq_getElem hi, e]) (List.getElem?_eq_getElem (by omega))]
    rfl
  unfold bindArgs PySem.W.fnOf
  simp only [h1, h2, h3, h4, h5, List.nil_append]
  simp [seqItems?]
  rw [kw_loop (ps := qs ++ [p]) (fun z s q1 q2 => by
    rcases List.mem_append.mp q1 with q1 | q1
    · simp [q1, q2]
    · simp at q1
      simp [q1, q1 ▸ q2]) (ks.zip ws) (qs.zip us, []) (by rw [hm]; exact hn) fun q hq => ?_]
  · rw [pure_bind]
    have hf : (qs.filter fun n => ((qs.zip us ++ ks.zip ws).lookup n).isNone) = [] := by
      rw [List.filter_eq_nil_iff]
      intro n hn z
      have q := hall n (List.mem_append_left _ hn)
      rw [Option.isSome_iff_ne_none] at q
      exact q (Option.isNone_iff_eq_none.mp z)
    have hp := hall p (by simp)
    obtain ⟨vp, hvp⟩ := Option.isSome_iff_exists.mp hp
    have ht : List.take (qs.length - (List.drop ((#[] : Array Value).size - qs.length) ([] : List Value)).length) qs = qs := by simp
    have h7 : ¬ qs.length < us.length := by omega
    have hfm := fm_zip (l := qs.zip us ++ ks.zip ws) hv fun i q v a b => by rw [← hzu]; exact hz i q v a b
    simp only [ht, hf, h7, List.isEmpty_nil, Bool.not_true, Bool.false_eq_true, if_false]
    rw [show (notAStandIn Value.none : Sem Unit) = pure () from rfl, pure_bind, if_neg (by rw [hvp]; exact (fun h => by cases h)), pure_bind, pure_bind]
    simp only [if_true]
    rw [← List.filterMap_append, hfm]
  · have hk : q.1 ∈ ks := by rw [← hm]; exact List.mem_map.mpr ⟨q, hq, rfl⟩
    refine ⟨List.mem_of_mem_drop (hs _ hk), ?_⟩
    show (qs.zip us).lookup q.1 = none
    rw [← hzu]
    exact zip_none h6 (hs _ hk)
end Ev

set_option Elab.async false
set_option linter.all false
set_option maxRecDepth 100000
set_option autoImplicit false
/-! Ev: an exception's __init__: self.f = p, line by line. -/
namespace Ev
open PySem PySem.Spec PyProof.Rows L2
/-- lines self.f = p: parameters from place j on -/
def iniB (N : List Str) (sc : Scope) : Nat → List Str → List PySem.Stmt → Bool
  | _, [], [] => true
  | j, f :: fs, .Assign [.Attribute (.Name x _) g _] (.Name y _) _ :: r => (decide (g = f) && (varB N sc 0 x && varB N sc j y)) && iniB N sc (j + 1) fs r
  | _, _, _ => false
def tIni (K : PySem.W.Frag) : Nat → List Str → TS
  | _, [] => tNext
  | j, f :: fs => tSeq (tOst K f (tVar 0) (tVar j)) (tIni K (j + 1) fs)
theorem ini_ps {X : Cx} {N : List Str} {sc : Scope} (hN : X.N = N) (hs : X.env.scope = sc) : ∀ {fs : List Str} {j : Nat} {st : List PySem.Stmt}, iniB N sc j fs st = true → PSs X st (tIni X.K j fs)
  | [], j, [], _ => pss_nil
  | [], j, _ :: _, h => by cases h
  | f :: fs, j, st, h => by
    unfold iniB at h
    split at h
    · rename_i heq; cases heq
    · rename_i j2 f2 fs2 x p1 g p2 y p3 p4 r heq
      cases heq
      obtain ⟨h1, h2⟩ := Bool.and_eq_true_iff.mp h
      obtain ⟨h1, h3⟩ := Bool.and_eq_true_iff.mp h1
      obtain ⟨h3, h4⟩ := Bool.and_eq_true_iff.mp h3
      obtain rfl := of_decide_eq_true h1
      have pv : ∀ {i : Nat} {z : Str} {q : Pos}, varB N sc i z = true → PE X (.Name z q) (tVar i) := fun {i z q} hv => by
        unfold varB at hv
        obtain ⟨k1, k2⟩ := Bool.and_eq_true_iff.mp hv
        obtain ⟨k2, k3⟩ := Bool.and_eq_true_iff.mp k2
        obtain ⟨d1, d2, _⟩ := dbg_of k3
        refine pe_var (by rw [hN]; exact of_decide_eq_true k1) ?_ d1 d2
        rw [hs]
        unfold visB at k2
        unfold Vis
        cases q : sc.names.lookup z with
        | none => rw [q] at k2; cases k2
        | some kd => rw [q] at k2; cases kd <;> first | exact .inl rfl | exact .inr (.inl rfl) | exact .inr (.inr rfl) | cases k2
      exact pss_cons (ps_ost (pv h3) (pv h4)) (ini_ps hN hs h2)
    · cases h
theorem ini_run {K : PySem.W.Frag} {a C : Addr} {σ : L2.St} {D : Ends} (T : OexC K C) (h0 : σ[0]? = some (some (.ref a))) : ∀ {fs : List Str} {j : Nat} {us : List V} {H : Hp} {dx : Addr} {gs : List (Str × V)}, (∀ i v, us[i]? = some v → σ[j + i]? = some (some v)) → us.length = fs.length → gs.length + fs.length ≤ 900 →
    (∀ f ∈ fs, PySem.W.findIn K (.ref C) f = some none) → H a = some (exo a C (some dx)) → H dx = some (exd dx gs) → dx ≠ a → (∀ H', (∀ b, b ≠ dx → H' b = H b) → H' dx = some (exd dx (fs.reverse.zip us.reverse ++ gs)) → D.nx σ H') → tIni K j fs D σ H
  | [], j, [], H, dx, gs, _, _, _, _, h1, h2, hne, k => k H (fun _ _ => rfl) h2
  | f :: fs, j, u :: us, H, dx, gs, hσ, hl, hz, hno, h1, h2, hne, k => by
    refine ⟨u, by have := hσ 0 u rfl; simpa using this, .ref a, h0, a, C, rfl, T, hno f List.mem_cons_self, .inr ⟨dx, gs, h1, h2, by omega, ?_⟩⟩
    refine ini_run T h0 (fun i v hv => ?_) (Nat.succ.inj hl) ?_ (fun f hf => hno f (List.mem_cons_of_mem _ hf)) (by rw [upd_ne (Ne.symm hne)]; exact h1) upd_same hne fun H' e1 e2 => k H' (fun b hb => by rw [e1 b hb, upd_ne hb]) ?_
    · have := hσ (i + 1) v hv
      rw [show j + 1 + i = j + (i + 1) by omega]
      exact this
    · simp only [List.length_cons] at hz ⊢
      omega
    · rw [e2]
      congr 1
      rw [List.reverse_cons, List.reverse_cons, List.zip_append (by simp [Nat.succ.inj hl]), List.append_assoc]
      rfl

theorem ini_ok {P : Program} {w : World} {K : PySem.W.Frag} {mg : Str → Option Value} {base : Heap} {fI C : Addr} {name qual : Str} {params : Arguments} {body : List PySem.Stmt} {scope : Scope} {dV kV doc pm cdv ct oc : Value} {an od : Option Addr} {osl : Array (Option Value)} {N ps fs : List Str}
    (lk : K.lookup fI = some ⟨oc, od, .func (PySem.W.fnOf name qual params body scope dV kV doc pm an cdv ct), osl⟩) (hcd : PySem.W.codeIn K cdv qual = true) (S : FnScope N ps scope) (hb : iniB N scope 1 fs body = true) (hl : ps.length = fs.length + 1) (h0 : fs ≠ []) (hz : fs.length ≤ 800) (T : OexC K C)
    (hno : ∀ f ∈ fs, PySem.W.findIn K (.ref C) f = some none) : FnOk P w K mg base (L2.CX P w) 1 fI (PySem.W.fnOf name qual params body scope dV kV doc pm an cdv ct) ps (spX C fs) := by
  refine fn_of (k := 0) (N := N) lk hcd S (fun vs H Q E ⟨a, us, e, hu, _⟩ => by rw [e, List.length_cons, hu, hl]) fun A outer s0 H vs Q E hroom ⟨a, us, e, hu, ha, q⟩ => ?_
  subst e
  refine ⟨tIni K 1 fs, ini_ps rfl rfl hb, ?_⟩
  cases fs with
  | nil => exact absurd rfl h0
  | cons f fs =>
    cases us with
    | nil => cases hu
    | cons u us =>
      have hσ : ∀ i v, (V.ref a :: u :: us)[i]? = some v → (L2.start N (V.ref a :: u :: us))[i]? = some (some v) := fun i v hv => by
        unfold L2.start
        rw [List.getElem?_append_left (by rw [List.length_map]; exact (List.getElem?_eq_some_iff.mp hv).1), List.getElem?_map, hv]
        rfl
      refine ⟨u, hσ 1 u rfl, .ref a, hσ 0 _ rfl, a, C, rfl, T, hno f List.mem_cons_self, .inl ⟨ha, fun dx hdx hne => ?_⟩⟩
      refine ini_run (gs := [(f, u)]) (us := us) T (hσ 0 _ rfl) (fun i v hv => ?_) (Nat.succ.inj hu) (by simp only [List.length_cons, List.length_nil] at hz ⊢; omega) (fun g hg => hno g (List.mem_cons_of_mem _ hg)) upd_same (by rw [upd_ne hne, upd_same]) hne fun H' e1 e2 => ?_
      · have := hσ (i + 2) v hv
        rw [show 1 + 1 + i = i + 2 by omega]
        exact this
      · have e : H' = upd (upd H dx (exd dx ((f :: fs).reverse.zip (u :: us).reverse))) a (exo a C (some dx)) := by
          funext b
          by_cases hb : b = dx
          · rw [hb, e2, upd_ne hne, upd_same, List.reverse_cons, List.reverse_cons, List.zip_append (by simp [Nat.succ.inj hu])]
            rfl
          · rw [e1 b hb]
            by_cases hq : b = a
            · rw [hq, upd_same, upd_same]
            · rw [upd_ne hq, upd_ne hb, upd_ne hq, upd_ne hb]
        show Q .non H'
        rw [e]
        exact q dx hdx hne
end Ev

set_option Elab.async false
set_option linter.all false
set_option maxRecDepth 100000
set_option autoImplicit false
/-! Ev: the facts of a text, from one check. -/
namespace Ev
open PySem PySem.Spec PyProof.Rows L2
def faOf (G : Prog) (K : PySem.W.Frag) (f : Nat) : Addr := match G.fns[f]? with
  | some F => He.fAd K F.at_
  | none => 0
def caOf (G : Prog) (K : PySem.W.Frag) (c : Nat) : Addr := match G.cls[c]? with
  | some C => He.ga K C.name
  | none => 0
def wdOf (G : Prog) (K : PySem.W.Frag) (T : List Addr) : Wd := ⟨G, faOf G K, caOf G K, K, T, []⟩
def eqA (a b : Addr) : Bool := decide (a = b)
def conOk (K : PySem.W.Frag) (p : Str × Val) : Bool := match p.2 with
  | .int i => (He.Fa.int p.1 i).ok K
  | .str z => (He.Fa.str p.1 z).ok K
  | _ => false
def oexB (K : PySem.W.Frag) (C : Addr) : Bool := (match K.lookup C with
  | some ⟨.type t, _, .cls cd, sl⟩ => decide (t = "type") && (cd.hasDict && (!cd.hasDel && ((match cd.mro with
    | .ref C' :: bm => decide (C' = C) && PySem.HandSPX.refsVE bm
    | _ => false) && (match sl.toList with
    | [_, _, _, _, some (.builtin n), _] => decide (n = "ValueError.__new__")
    | _ => false))))
  | _ => false) && (decide (PySem.W.findIn K (.ref C) "__setattr__" = some (some (.builtin "object.__setattr__"))) && (decide (PySem.W.subIn K (.ref C) (.type "BaseException") = some true) && (decide (PySem.W.typeIn K (.ref C) = some (.type "type")) && PySem.W.keepIn K (.ref C))))
def insB0 (K : PySem.W.Frag) (C : Addr) : Bool := decide (PySem.W.findIn K (.ref C) "__class__" = some (some (.builtin "object.__class__"))) && (decide (PySem.W.specialIn K (.builtin "object.__class__") "__get__" = some (some (.builtin "getset_descriptor.__get__"))) &&
  (decide (PySem.W.takesIn K (.builtin "object.__class__") = some true) && decide (PySem.W.mroIn K C (.type "object") = some true)))
def insB (K : PySem.W.Frag) (C : Addr) : Bool := insB0 K C && PySem.W.selfFirst K C
def exkB (K : PySem.W.Frag) (C : Addr) : Bool := decide (PySem.W.findIn K (.ref C) "__getattribute__" = some (some (.builtin "BaseException.__getattribute__"))) && (decide (PySem.W.findIn K (.ref C) "__getattr__" = some none) && (decide (PySem.W.subIn K (.ref C) (.type "BaseException") = some true) &&
  (PySem.W.hasDictIn K C && insB0 K C)))
def clsOk (G : Prog) (K : PySem.W.Frag) (C : ClsT) : Bool := ((He.Fa.glo C.name).ok K && PySem.W.keepIn K (.ref (He.ga K C.name))) && (match C.exc with
  | none => ((He.Fa.cls C.name).ok K && insB K (He.ga K C.name)) && ((C.flds.all fun f => (He.Fa.noat C.name (G.idn f)).ok K) && ((C.meths.all fun q => (He.Fa.meth C.name (G.idn q.1)).ok K && eqA (He.ma K (He.ga K C.name) (G.idn q.1)) (faOf G K q.2)) && (match C.init with
    | some f => (He.Fa.mkr C.name).ok K && eqA (He.ma K (He.ga K C.name) "__init__") (faOf G K f)
    | none => true)))
  | some ks => ((C.flds.isEmpty && C.meths.isEmpty) && (C.init.isNone && exkB K (He.ga K C.name))) && ((ks.all fun f => (He.Fa.noat C.name (G.idn f)).ok K) && (ks.isEmpty || (oexB K (He.ga K C.name) && (He.Fa.meth C.name "__init__").ok K))))
def allTys (G : Prog) : List Ty := [.int, .bool, .str, .tuple, .list, .vErr] ++ (List.range G.cls.length).map .own
def allKds (G : Prog) : List Kd := [.non, .bl, .int, .str, .tup, .lst] ++ ((List.range G.cls.length).map .ins ++ (List.range G.cls.length).map .exv)
def kitOk (W : Wd) : Bool := (allKds W.G).all fun v => !kdOk W.G v || (allTys W.G).all fun t => match tyK W.G v t with
  | some b => decide (PySem.W.kitOne W.K (kdVal W v) (tyVal W t) = some b)
  | none => true
def exmOk (W : Wd) : Bool := (List.range W.G.cls.length).all fun c => !isExc W.G c || (List.range W.G.cls.length).all fun d => !isExc W.G d || decide (PySem.W.exmOne W.K (.ref (W.ca c)) (.ref (W.ca d)) = some (subC W.G c d))
def fnOk (G : Prog) (K : PySem.W.Frag) (F : FnT) : Bool := match F.at_.2 with
  | none => (He.Fa.glo F.at_.1).ok K && PySem.W.keepIn K (.ref (He.ga K F.at_.1))
  | some _ => true
/-- the one check -/
def facB (G : Prog) (K : PySem.W.Frag) : Bool := ((bltN.all fun x => (He.Fa.free x).ok K) && (G.fns.all (fnOk G K) && G.consts.all (conOk K))) && ((decide ((rids ++ G.ids).Nodup) && G.cls.all (clsOk G K)) && (kitOk (wdOf G K []) && (exmOk (wdOf G K []) && (!G.gcd || decide (PySem.W.nsIn K mainGlobals "gcd" = some (some (.builtin "math.gcd")))))))
section
variable {G : Prog} {K : PySem.W.Frag} {T : List Addr} {h : Heap} {mg : Str → Option Value}
theorem mem_of_get {α : Type} {l : List α} {i : Nat} {x : α} (h : l[i]? = some x) : x ∈ l := List.mem_of_getElem? h
theorem all_at {α : Type} {l : List α} {p : α → Bool} {i : Nat} {x : α} (h : l.all p = true) (e : l[i]? = some x) : p x = true := List.all_eq_true.mp h x (mem_of_get e)
theorem ty_mem {t : Ty} (h : tyOk G t = true) : t ∈ allTys G := by
  unfold allTys
  cases t with
  | own d =>
    refine List.mem_append_right _ (List.mem_map.mpr ⟨d, List.mem_range.mpr (of_decide_eq_true h), rfl⟩)
  | _ => exact List.mem_append_left _ (by simp)
theorem ins_lt {c : Nat} (h : isIns G c = true) : ∃ C, G.cls[c]? = some C ∧ C.exc = none := by
  unfold isIns at h
  split at h
  · rename_i C hC
    exact ⟨C, hC, Option.isNone_iff_eq_none.mp h⟩
  · cases h
theorem exc_lt {c : Nat} (h : isExc G c = true) : ∃ C ks, G.cls[c]? = some C ∧ C.exc = some ks := by
  unfold isExc at h
  split at h
  · rename_i C hC
    obtain ⟨ks, hk⟩ := Option.isSome_iff_exists.mp h
    exact ⟨C, ks, hC, hk⟩
  · cases h
theorem kd_mem {v : Kd} (h : kdOk G v = true) : v ∈ allKds G := by
  unfold allKds
  cases v with
  | ins c =>
    obtain ⟨C, hC, _⟩ := ins_lt (show isIns G c = true from h)
    exact List.mem_append_right _ (List.mem_append_left _ (List.mem_map.mpr ⟨c, List.mem_range.mpr (List.getElem?_eq_some_iff.mp hC).1, rfl⟩))
  | exv c =>
    obtain ⟨C, _, hC, _⟩ := exc_lt (show isExc G c = true from h)
    exact List.mem_append_right _ (List.mem_append_right _ (List.mem_map.mpr ⟨c, List.mem_range.mpr (List.getElem?_eq_some_iff.mp hC).1, rfl⟩))
  | _ => exact List.mem_append_left _ (by simp)
theorem insB_ok {C : Addr} (cl : Cls K C) (h : insB K C = true) : InsC K C := by
  obtain ⟨h, h5⟩ := ba h
  unfold insB0 at h
  obtain ⟨h1, h2⟩ := ba h
  obtain ⟨h2, h3⟩ := ba h2
  obtain ⟨h3, h4⟩ := ba h3
  exact ⟨cl, of_decide_eq_true h1, of_decide_eq_true h2, of_decide_eq_true h3, of_decide_eq_true h4, h5⟩
theorem exkB_ok {C : Addr} (h : exkB K C = true) : ExK K C := by
  unfold exkB insB0 at h
  obtain ⟨h1, h2⟩ := ba h
  obtain ⟨h2, h3⟩ := ba h2
  obtain ⟨h3, h4⟩ := ba h3
  obtain ⟨h4, h5⟩ := ba h4
  obtain ⟨h5, h6⟩ := ba h5
  obtain ⟨h6, h7⟩ := ba h6
  obtain ⟨h7, h8⟩ := ba h7
  exact ⟨of_decide_eq_true h1, of_decide_eq_true h2, of_decide_eq_true h3, h4, of_decide_eq_true h5, of_decide_eq_true h6, of_decide_eq_true h7, of_decide_eq_true h8⟩
theorem oexB_ok {C : Addr} (h : oexB K C = true) : OexC K C := by
  unfold oexB at h
  obtain ⟨h1, h2⟩ := ba h
  obtain ⟨h2, h3⟩ := ba h2
  obtain ⟨h3, h4⟩ := ba h3
  obtain ⟨h4, h5⟩ := ba h4
  refine ⟨?_, of_decide_eq_true h2, of_decide_eq_true h3, of_decide_eq_true h4, h5⟩
  clear h2 h3 h4 h5
  split at h1
  · rename_i t dd cd sl ho
    obtain ⟨k1, m1⟩ := ba h1
    obtain ⟨k2, m2⟩ := ba m1
    obtain ⟨k3, m3⟩ := ba m2
    obtain ⟨k4, k5⟩ := ba m3
    clear h1 m1 m2 m3
    obtain rfl := of_decide_eq_true k1
    have k8 : cd.hasDel = false := by simpa using k3
    clear k3
    obtain ⟨nm, bs, mro, ns, qn, hdct, sn, sub, ab, col, hdel⟩ := cd
    obtain ⟨sl⟩ := sl
    simp only at k2 k4 k5 k8
    subst k2
    subst k8
    split at k4
    · rename_i q1 C' bm
      obtain ⟨k6, k7⟩ := ba k4
      obtain rfl := of_decide_eq_true k6
      split at k5
      · rename_i q2 s0 s1 s2 s3 s5 n s4
        obtain rfl := of_decide_eq_true k5
        exact ⟨_, _, _, _, bm, _, _, _, _, _, _, _, _, _, _, ho, k7⟩
      · cases k5
    · cases k4
  · cases h1
end
end Ev

set_option Elab.async false
set_option linter.all false
set_option maxRecDepth 100000
set_option autoImplicit false
/-! Ev: a text's facts, ready for the walk. -/
namespace Ev
open PySem PySem.Spec PyProof.Rows L2
def scB (N P : List Str) (sc : Scope) : Bool := (match sc.kind with
  | .function => true
  | _ => false) && ((!sc.isCoroutine && !sc.isGenerator) && (decide N.Nodup && (decide (N.take P.length = P) && ((P.all fun x => locB sc x) && (sc.names.all fun y => match y.2 with
  | .free => false
  | _ => true)))))
theorem scB_ok {N P : List Str} {sc : Scope} (h : scB N P sc = true) : FnScope N P sc := by
  unfold scB at h
  obtain ⟨h1, h2⟩ := ba h
  obtain ⟨h3, h4⟩ := ba h2
  obtain ⟨h5, h6⟩ := ba h3
  obtain ⟨h7, h8⟩ := ba h4
  obtain ⟨h9, h10⟩ := ba h8
  obtain ⟨h11, h12⟩ := ba h10
  refine ⟨?_, by simpa using h5, by simpa using h6, of_decide_eq_true h7, of_decide_eq_true h9, fun x hx => ?_, fun y hy => ?_⟩
  · cases q : sc.kind with
    | function => rfl
    | _ => rw [q] at h1; cases h1
  · have k := List.all_eq_true.mp h11 x hx
    unfold locB at k
    cases q : sc.names.lookup x with
    | none => rw [q] at k; cases k
    | some kd => rw [q] at k; cases kd <;> first | exact .inl rfl | exact .inr rfl | cases k
  · have k := List.all_eq_true.mp h12 y hy
    intro e
    rw [e] at k
    cases k
def nodflt (d : He.DefD) : Bool := d.dfl.isEmpty && d.kwd.isEmpty
/-- a def of the text is the evaluator's function -/
def parB (F : FnT) (d : He.DefD) (ps : List Str) : Bool := match F.dfl with
  | [] => smpB d.params ps && nodflt d
  | [i] => (match d.kwd with
    | [(x, .int j)] => (decide (ps = ps.dropLast ++ [x]) && decide (i = j)) && (kw1B d.params ps.dropLast x && d.dfl.isEmpty)
    | _ => false)
  | _ => false
def dfB (G : Prog) (F : FnT) (q : He.DefD × List Str) : Bool := decide (F.at_ = q.1.at_) && ((scB F.names q.2 q.1.scope) && ((matSs G F.names false q.1.scope F.body q.1.body && decide (F.ar = q.2.length)) && parB F q.1 q.2))
def dfsB (G : Prog) : List FnT → List (He.DefD × List Str) → Bool
  | [], [] => true
  | F :: Fs, q :: qs => dfB G F q && dfsB G Fs qs
  | _, _ => false
/-- an exception's __init__ -/
structure InD where
  cl : Nat
  d : He.DefD
  N : List Str
  ps : List Str
def inB (G : Prog) (C : ClsT) (ks : List Nat) (q : InD) : Bool := (decide (q.d.at_ = (C.name, some ("__init__" : Str))) && ((scB q.N q.ps q.d.scope && smpB q.d.params q.ps) && (iniB q.N q.d.scope 1 (ks.map G.idn) q.d.body && (decide (q.ps.length = ks.length + 1) && decide (ks.length ≤ 800))))) && nodflt q.d
def insB2 (G : Prog) (is : List InD) : Bool := (List.range G.cls.length).all fun c => match G.cls[c]? with
  | some C => (match C.exc with
    | some (k :: ks) => is.any fun q => inB G C (k :: ks) q
    | _ => true)
  | none => true
def txtB (G : Prog) (ds : List (He.DefD × List Str)) (is : List InD) : Bool := dfsB G G.fns ds && insB2 G is
theorem dfsB_at {G : Prog} : ∀ {Fs : List FnT} {ds : List (He.DefD × List Str)} {f : Nat} {F : FnT}, dfsB G Fs ds = true → Fs[f]? = some F → ∃ q ∈ ds, dfB G F q = true
  | [], _, f, F, _, e => by simp at e
  | F :: Fs, [], _, _, h, _ => by cases h
  | F :: Fs, q :: qs, 0, _, h, e => by
    cases e
    exact ⟨q, List.mem_cons_self, (ba (show (dfB G F q && dfsB G Fs qs) = true from h)).1⟩
  | F :: Fs, q :: qs, f + 1, _, h, e => by
    obtain ⟨q2, h1, h2⟩ := dfsB_at (ba (show (dfB G F q && dfsB G Fs qs) = true from h)).2 (show Fs[f]? = some _ from e)
    exact ⟨q2, List.mem_cons_of_mem _ h1, h2⟩
theorem look_mem {α : Type} {m : Nat} {f : α} : ∀ {l : List (Nat × α)}, l.lookup m = some f → (m, f) ∈ l
  | [], h => by cases h
  | (b, u) :: r, h => by
    have h2 : (match m == b with | true => some u | false => r.lookup m) = some f := h
    cases q : (m == b) with
    | true =>
      rw [q] at h2
      cases h2
      rw [beq_iff_eq.mp q]
      exact List.mem_cons_self
    | false =>
      rw [q] at h2
      exact List.mem_cons_of_mem _ (look_mem h2)
section
variable {P : Program} {w : World} {G : Prog} {K : PySem.W.Frag} {T : List Addr} {base : Heap} {mg : Str → Option Value} {ds : List (He.DefD × List Str)} {is : List InD}
abbrev Has (K : PySem.W.Frag) (d : He.DefD) : Prop := ∃ fd, FunD K d.name d.qual d.params d.body d.scope (d.dvs K) (d.kws K) (He.fAd K d.at_) fd
theorem has_fn {d : He.DefD} (h : Has K d) (hn : nodflt d = true) {ps : List Str} (hp : smpB d.params ps = true) : ∃ (fd : FuncData) (dV kV doc pm cdv ct oc : Value) (an od : Option Addr) (osl : Array (Option Value)),
    fd = PySem.W.fnOf d.name d.qual d.params d.body d.scope dV kV doc pm an cdv ct ∧ K.lookup (He.fAd K d.at_) = some ⟨oc, od, .func fd, osl⟩ ∧ PySem.W.codeIn K cdv d.qual = true ∧ Binds K fd ps [] ∧ KwdB fd ps ps.length := by
  obtain ⟨fd, F⟩ := h
  obtain ⟨n1, n2⟩ := ba hn
  have e1 : d.dvs K = [] := by unfold He.DefD.dvs; rw [List.isEmpty_iff.mp n1]; rfl
  rw [e1] at F
  have hb := F.bindsN (ps := ps) fun kV doc pm an cdv ct us hl => bind_smp hp us hl
  obtain ⟨oc, od, dV, kV, doc, pm, an, cdv, ct, osl, e, lk, hcd, hD, _⟩ := F.ex
  refine ⟨fd, dV, kV, doc, pm, cdv, ct, oc, an, od, osl, e, lk, hcd, hb, fun us ws full ks q1 q2 q3 q4 q5 q6 => ?_⟩
  rcases hD with ⟨_, rfl⟩ | ⟨z, _⟩
  · rw [e]
    exact bind_kw hp us ws q1 q2 q3 q4 full q5 q6
  · exact absurd rfl z
theorem has_fnD {d : He.DefD} (h : Has K d) {F : FnT} {ps : List Str} (hp : parB F d ps = true) (har : F.ar = ps.length) : ∃ (fd : FuncData) (dV kV doc pm cdv ct oc : Value) (an od : Option Addr) (osl : Array (Option Value)),
    fd = PySem.W.fnOf d.name d.qual d.params d.body d.scope dV kV doc pm an cdv ct ∧ K.lookup (He.fAd K d.at_) = some ⟨oc, od, .func fd, osl⟩ ∧ PySem.W.codeIn K cdv d.qual = true ∧ (∃ ds, Vals (F.dfl.map V.int) ds ∧ Binds K fd ps ds) ∧ KwdB fd ps (F.ar - F.dfl.length) := by
  unfold parB at hp
  cases hd : F.dfl with
  | nil =>
    rw [hd] at hp
    obtain ⟨p1, p2⟩ := ba hp
    obtain ⟨fd, dV, kV, doc, pm, cdv, ct, oc, an, od, osl, e, lk, hcd, hb, hkw⟩ := has_fn h p2 p1
    exact ⟨fd, dV, kV, doc, pm, cdv, ct, oc, an, od, osl, e, lk, hcd, ⟨[], .nil, hb⟩, by rw [har]; exact hkw⟩
  | cons i is =>
    rw [hd] at hp
    cases is with
    | cons _ _ => cases hp
    | nil =>
      simp only at hp
      split at hp
      · rename_i x j hk
        obtain ⟨pa, pb⟩ := ba hp
        obtain ⟨pc, pd⟩ := ba pa
        obtain ⟨pe, p4⟩ := ba pb
        have p3 := of_decide_eq_true pd
        subst p3
        obtain ⟨qs, p1, p2⟩ : ∃ qs, ps = qs ++ [x] ∧ kw1B d.params qs x = true := ⟨ps.dropLast, of_decide_eq_true pc, pe⟩
        clear hp pa pb pc pd pe
        obtain ⟨fd, F0⟩ := h
        have e1 : d.dvs K = [] := by unfold He.DefD.dvs; rw [List.isEmpty_iff.mp p4]; rfl
        have e2 : d.kws K = [(x, V.int i)] := by unfold He.DefD.kws; rw [hk]; rfl
        rw [e1, e2] at F0
        have hl : ps.length = qs.length + 1 := by rw [p1]; simp
        obtain ⟨ds, hds, hb⟩ := F0.binds0 (ps := ps) qs.length (by simp) (by simp [hl]) fun D doc pm an cdv ct us ks l1 l2 => by
          obtain ⟨u, rfl⟩ : ∃ u, ks = [u] := by
            cases ks with
            | nil => cases l2
            | cons u r =>
              cases r with
              | nil => exact ⟨u, rfl⟩
              | cons _ _ => cases l2
          have := bind_k1d (x := d.name) (qual := d.qual) (body := d.body) (scope := d.scope) (doc := doc) (pm := pm) (cdv := cdv) (ct := ct) (D := D) (an := an) p2 us u l1
          rw [← p1] at this
          exact this
        obtain ⟨oc, od, dV, kV, doc, pm, an, cdv, ct, osl, e, lk, hcd, hD, _⟩ := F0.ex
        refine ⟨fd, dV, kV, doc, pm, cdv, ct, oc, an, od, osl, e, lk, hcd, ⟨ds, hds, hb⟩, fun us ws full ks q1 q2 q3 q4 q5 q6 => ?_⟩
        rcases hD with ⟨_, rfl⟩ | ⟨z, _⟩
        · rw [e]
          have q1 : us.length ≤ qs.length := by
            rw [har, hl] at q1
            simpa using q1
          have := bind_k1 (x := d.name) (qual := d.qual) (body := d.body) (scope := d.scope) (kV := kV) (doc := doc) (pm := pm) (cdv := cdv) (ct := ct) (an := an) p2 us ws q1 q2 q3 (by rw [← p1]; exact q4) full (by rw [← p1]; exact q5) (by rw [← p1]; exact q6)
          rw [← p1] at this
          exact this
        · exact absurd rfl z
      · cases hp
theorem facts_of (fb : facB G K = true) (tb : txtB G ds is = true) (h1 : ∀ q ∈ ds, Has K q.1) (h2 : ∀ q ∈ is, Has K q.d) (X : K.In base) (N : base.Ns mainGlobals mg) (hT : ∀ q ∈ ds, PySem.W.codeHdIn K (He.cT K q.1.at_).1 (He.cT K q.1.at_).2 = true ∧ (He.cT K q.1.at_).2 ∈ T) (tbs : ∀ c P, PySem.W.codeHdIn K c P = true → P ∈ T → GxR.TabB base mg c P) : Facts (wdOf G K T) P w mg base := by
  obtain ⟨t1, t2⟩ := ba tb
  unfold facB at fb
  obtain ⟨f1, f2⟩ := ba fb
  obtain ⟨f3, f4⟩ := ba f1
  obtain ⟨f4, f5⟩ := ba f4
  obtain ⟨f6, f7⟩ := ba f2
  obtain ⟨f6, f8⟩ := ba f6
  obtain ⟨f7, f9⟩ := ba f7
  obtain ⟨f9, f10⟩ := ba f9
  have hcls : ∀ {c : Nat} {C : ClsT}, G.cls[c]? = some C → clsOk G K C = true ∧ caOf G K c = He.ga K C.name := fun {c C} e => ⟨all_at f8 e, by unfold caOf; rw [e]⟩
  have hclm : ∀ {c : Nat} {C : ClsT}, G.cls[c]? = some C → mg C.name = some (.ref (caOf G K c)) ∧ PySem.W.keepIn K (.ref (caOf G K c)) = true := fun {c C} e => by
    obtain ⟨k1, k2⟩ := hcls e
    obtain ⟨k3, _⟩ := ba k1
    obtain ⟨k3, k4⟩ := ba k3
    rw [k2]
    exact ⟨He.glo_ok X N k3, k4⟩
  have hpl : ∀ {c : Nat} {C : ClsT}, G.cls[c]? = some C → C.exc = none → ((He.Fa.cls C.name).ok K && insB K (He.ga K C.name)) = true ∧ ((C.flds.all fun f => (He.Fa.noat C.name (G.idn f)).ok K) = true) ∧
      (C.meths.all fun q => (He.Fa.meth C.name (G.idn q.1)).ok K && eqA (He.ma K (He.ga K C.name) (G.idn q.1)) (faOf G K q.2)) = true ∧ (match C.init with
    | some f => (He.Fa.mkr C.name).ok K && eqA (He.ma K (He.ga K C.name) "__init__") (faOf G K f)
    | none => true) = true := fun {c C} e hx => by
    obtain ⟨k1, _⟩ := hcls e
    unfold clsOk at k1
    obtain ⟨_, k1⟩ := ba k1
    simp only [hx] at k1
    obtain ⟨k1, k2⟩ := ba k1
    obtain ⟨k2, k3⟩ := ba k2
    obtain ⟨k3, k4⟩ := ba k3
    exact ⟨k1, k2, k3, k4⟩
  have hex : ∀ {c : Nat} {C : ClsT} {ks : List Nat}, G.cls[c]? = some C → C.exc = some ks → (C.flds = [] ∧ C.meths = [] ∧ C.init = none) ∧ exkB K (He.ga K C.name) = true ∧ (ks.all fun f => (He.Fa.noat C.name (G.idn f)).ok K) = true ∧
      (ks.isEmpty || (oexB K (He.ga K C.name) && (He.Fa.meth C.name "__init__").ok K)) = true := fun {c C ks} e hx => by
    obtain ⟨k1, _⟩ := hcls e
    unfold clsOk at k1
    obtain ⟨_, k1⟩ := ba k1
    simp only [hx] at k1
    obtain ⟨k1, k2⟩ := ba k1
    obtain ⟨k3, k4⟩ := ba k1
    obtain ⟨k5, k6⟩ := ba k3
    obtain ⟨k7, k8⟩ := ba k4
    obtain ⟨k9, k10⟩ := ba k2
    exact ⟨⟨List.isEmpty_iff.mp k5, List.isEmpty_iff.mp k6, Option.isNone_iff_eq_none.mp k7⟩, k8, k9, k10⟩
  refine ⟨?_, ?_, tbs⟩
  · refine
      { free := fun x hx => He.free_ok X N (List.all_eq_true.mp f3 x hx)
        fnm := fun f x e => ?_
        fns := fun f hd => ?_
        fks := fun f F hd _ => ?_
        con := fun g p e => ?_
        idn := of_decide_eq_true f6
        fld := fun c C f e hf => ?_
        mth := fun c C m f e hf => ?_
        mks := fun c C f e hf => ?_
        clm := fun c C e => hclm e
        ins := fun c hc => ?_
        exk := fun c hc => ?_
        exf := fun c C ks f e hx hf => ?_
        exi := fun c C ks e hx h0 => ?_
        exm := fun c d hc hd => ?_
        kit := fun v t b hv ht e => ?_
        gcd := fun e => ?_ }
    · unfold fnN at e
      cases hF : G.fns[f]? with
      | none => rw [show (wdOf G K T).G.fns[f]? = none from hF] at e; cases e
      | some F =>
        rw [show (wdOf G K T).G.fns[f]? = some F from hF] at e
        simp only at e
        split at e
        · rename_i hn
          cases e
          have k := all_at f4 hF
          unfold fnOk at k
          have hn2 : F.at_.2 = none := Option.isNone_iff_eq_none.mp hn
          rw [hn2] at k
          obtain ⟨k1, k2⟩ := ba k
          have e1 : faOf G K f = He.ga K F.at_.1 := by
            unfold faOf
            rw [hF]
            show He.fAd K F.at_ = _
            unfold He.fAd
            rw [hn2]
          show mg F.at_.1 = some (.ref (faOf G K f)) ∧ PySem.W.keepIn K (.ref (faOf G K f)) = true
          rw [e1]
          exact ⟨He.glo_ok X N k1, k2⟩
        · cases e
    · intro A outer s H us vs Q E _ _ _ _ ⟨ph, m, xs, _, _, q⟩
      exact (show False from q).elim
    · intro A outer s H us ws full ks vs Q E _ _ _ _ _ _ _ _ _ _ ⟨ph, m, xs, _, _, q⟩
      exact (show False from q).elim
    · have k := all_at f5 e
      unfold conOk at k
      obtain ⟨x, v⟩ := p
      cases v with
      | int i =>
        obtain ⟨t, ht⟩ := He.int_ok X N (show (He.Fa.int x i).ok K = true from k)
        exact ⟨_, .int i, ht, ⟨t, rfl⟩, fun _ _ _ => .int i⟩
      | str z =>
        obtain ⟨t, ht⟩ := He.str_ok X N (show (He.Fa.str x z).ok K = true from k)
        exact ⟨_, .str z, ht, ⟨t, rfl⟩, fun _ _ _ => .str z⟩
      | _ => cases k
    · have ec := (hcls e).2
      show Cls K (caOf G K c) ∧ NoAttr K (caOf G K c) (G.idn f)
      rw [ec]
      cases hx : C.exc with
      | some ks =>
        rw [(hex e hx).1.1] at hf
        cases hf
      | none =>
        obtain ⟨k1, k2, _, _⟩ := hpl e hx
        exact ⟨He.cls_ok (ba k1).1, He.noat_ok (List.all_eq_true.mp k2 f (List.contains_iff_mem.mp hf))⟩
    · have ec := (hcls e).2
      show Cls K (caOf G K c) ∧ Meth K (caOf G K c) (G.idn m) (faOf G K f)
      rw [ec]
      cases hx : C.exc with
      | some ks =>
        rw [(hex e hx).1.2.1] at hf
        cases hf
      | none =>
        obtain ⟨k1, _, k3, _⟩ := hpl e hx
        have k4 := List.all_eq_true.mp k3 (m, f) (look_mem hf)
        obtain ⟨k4, k5⟩ := ba k4
        rw [← of_decide_eq_true k5]
        exact ⟨He.cls_ok (ba k1).1, He.meth_ok k4⟩
    · have ec := (hcls e).2
      show Mk K (caOf G K c) (faOf G K f) ∧ mg C.name = some (.ref (caOf G K c))
      refine ⟨?_, (hclm e).1⟩
      rw [ec]
      cases hx : C.exc with
      | some ks =>
        rw [(hex e hx).1.2.2] at hf
        cases hf
      | none =>
        obtain ⟨_, _, _, k4⟩ := hpl e hx
        rw [hf] at k4
        obtain ⟨k4, k5⟩ := ba k4
        rw [← of_decide_eq_true k5]
        exact He.mkr_ok k4
    · obtain ⟨C, hC, hx⟩ := ins_lt hc
      obtain ⟨k1, _⟩ := hpl hC hx
      obtain ⟨k1, k2⟩ := ba k1
      show InsC K (caOf G K c)
      rw [(hcls hC).2]
      exact insB_ok (He.cls_ok k1) k2
    · obtain ⟨C, ks, hC, hx⟩ := exc_lt hc
      show ExK K (caOf G K c)
      rw [(hcls hC).2]
      exact exkB_ok (hex hC hx).2.1
    · show PySem.W.findIn K (.ref (caOf G K c)) (G.idn f) = some none
      rw [(hcls e).2]
      exact He.noat_ok (List.all_eq_true.mp (hex e hx).2.2.1 f (List.contains_iff_mem.mp hf))
    · obtain ⟨_, _, _, k4⟩ := hex e hx
      cases ks with
      | nil => exact absurd rfl h0
      | cons k0 ks =>
        obtain ⟨k5, k6⟩ := ba (show (oexB K (He.ga K C.name) && (He.Fa.meth C.name "__init__").ok K) = true from k4)
        have kn := (hex e hx).2.2.1
        unfold insB2 at t2
        have t3 := List.all_eq_true.mp t2 c (List.mem_range.mpr (List.getElem?_eq_some_iff.mp e).1)
        rw [show G.cls[c]? = some C from e] at t3
        simp only [hx] at t3
        obtain ⟨q, hq, hb⟩ := List.any_eq_true.mp t3
        unfold inB at hb
        obtain ⟨b1, b2⟩ := ba hb
        obtain ⟨b3, b4⟩ := ba b1
        obtain ⟨b5, b6⟩ := ba b4
        obtain ⟨b7, b8⟩ := ba b5
        obtain ⟨b9, b10⟩ := ba b6
        obtain ⟨b11, b12⟩ := ba b10
        obtain ⟨fd, dV, kV, doc, pm, cdv, ct, oc, an, od, osl, ef, lk, hcd, hbd, _⟩ := has_fn (h2 q hq) b2 b8
        have ea : He.fAd K q.d.at_ = He.ma K (He.ga K C.name) "__init__" := by
          rw [of_decide_eq_true b3]
          rfl
        rw [ea] at lk
        obtain ⟨m1, m2, m3⟩ := He.meth_ok k6
        subst ef
        show ∃ (fI : Addr) (fd : FuncData) (ps : List Str), OexC K (caOf G K c) ∧ PySem.W.findIn K (.ref (caOf G K c)) "__init__" = some (some (.ref fI)) ∧ PySem.W.typeIn K (.ref fI) = some (.type "function") ∧
          FnOk P w K mg base (L2.CX P w) 1 fI fd ps (spX (caOf G K c) ((k0 :: ks).map G.idn)) ∧ Binds K fd ps []
        rw [(hcls e).2]
        refine ⟨_, _, q.ps, oexB_ok k5, m1, ?_, ini_ok lk hcd (scB_ok b7) b9 ?_ (List.cons_ne_nil _ _) ?_ (oexB_ok k5) fun f hf => ?_, hbd⟩
        · exact eq_of_beq (show (PySem.W.typeIn K (.ref (He.ma K (He.ga K C.name) "__init__")) == some (.type "function")) = true from m2)
        · rw [List.length_map]
          exact of_decide_eq_true b11
        · rw [List.length_map]
          exact of_decide_eq_true b12
        · obtain ⟨g, hg, rfl⟩ := List.mem_map.mp hf
          exact He.noat_ok (List.all_eq_true.mp kn g hg)
    · obtain ⟨C, ks, hC, hx⟩ := exc_lt hc
      obtain ⟨D, kt, hD, hy⟩ := exc_lt hd
      unfold exmOk at f9
      have k1 := List.all_eq_true.mp f9 c (List.mem_range.mpr (List.getElem?_eq_some_iff.mp hC).1)
      rw [show isExc (wdOf G K []).G c = true from hc] at k1
      have k2 := List.all_eq_true.mp k1 d (List.mem_range.mpr (List.getElem?_eq_some_iff.mp hD).1)
      rw [show isExc (wdOf G K []).G d = true from hd] at k2
      exact of_decide_eq_true k2
    · unfold kitOk at f7
      have k1 := List.all_eq_true.mp f7 v (kd_mem hv)
      rw [show kdOk (wdOf G K []).G v = true from hv] at k1
      have k2 := List.all_eq_true.mp k1 t (ty_mem ht)
      rw [show tyK (wdOf G K []).G v t = some b from e] at k2
      exact of_decide_eq_true k2
    · rw [show G.gcd = true from e] at f10
      exact PySem.W.mg_of X N (of_decide_eq_true f10)
  · intro f F hF
    obtain ⟨q, hq, hb⟩ := dfsB_at t1 hF
    unfold dfB at hb
    obtain ⟨k1, k2⟩ := ba hb
    obtain ⟨k2, k3⟩ := ba k2
    obtain ⟨k3, k5⟩ := ba k3
    obtain ⟨k3, k6⟩ := ba k3
    obtain ⟨fd, dV, kV, doc, pm, cdv, ct, oc, an, od, osl, e, lk, hcd, hb, hkw⟩ := has_fnD (h1 q hq) k5 (of_decide_eq_true k6)
    refine ⟨fd, q.2, ⟨⟨_, _, _, _, _, dV, kV, doc, pm, cdv, ct, oc, an, od, osl, e, ?_, hcd, scB_ok k2, k3, (He.cT K q.1.at_).1, (He.cT K q.1.at_).2, ?_, (hT q hq).1, (hT q hq).2⟩, of_decide_eq_true k6⟩, hb, hkw⟩
    · have e2 : (wdOf G K T).fa f = He.fAd K q.1.at_ := by
        show faOf G K f = _
        unfold faOf
        rw [show G.fns[f]? = some F from hF]
        exact congrArg (He.fAd K) (of_decide_eq_true k1)
      rw [e2]
      exact lk
    · obtain ⟨c, hc⟩ := He.codeIn_ref hcd
      rw [hc]
      show Value.ref c = .ref (He.codeOf K q.1.at_)
      rw [He.codeOf_eq lk (by rw [e]; exact hc)]
end
end Ev

set_option Elab.async false
set_option linter.all false
set_option maxRecDepth 100000
set_option autoImplicit false
/-! Ev: the law is called by the head, which stands within no repr. -/
namespace Ev
open PySem PySem.Spec PyProof.Rows L2
section
variable {P : Program} {w : World} {K : PySem.W.Frag} {mg mb : Str → Option Value} {k : Nat} {fa a : Addr} {cs : List (Addr × Addr)} {fd : FuncData} {x : Str} {sp : Sp} {s1 : Shared} {vs : List Value} {ns : List Int}
/-- the script's object -/
abbrev scrO (vs : List Value) : Obj := { cls := .type "list", data := .seq vs.toArray }
/-- what is tracked at the law's call: the tables, and the script if nothing written holds it -/
def H0 (K : PySem.W.Frag) (cs : List (Addr × Addr)) (a : Addr) (vs : List Value) (ns : List Int) : Hp := fun b =>
  if b ∈ cs.map (·.2) then some (.tbl #[]) else if b = a ∧ K.lookup a = none then some (.frz (scrO vs) (.lst (ns.map V.int))) else none
theorem H0_tab {p : Addr × Addr} (hp : p ∈ cs) : H0 K cs a vs ns p.2 = some (.tbl #[]) := if_pos (List.mem_map.mpr ⟨p, hp, rfl⟩)
theorem H0_some {b : Addr} (h : H0 K cs a vs ns b ≠ none) : b ∈ cs.map (·.2) ∨ (b = a ∧ K.lookup a = none) := by
  unfold H0 at h
  by_cases h1 : b ∈ cs.map (·.2)
  · exact Or.inl h1
  · rw [if_neg h1] at h
    by_cases h2 : b = a ∧ K.lookup a = none
    · exact Or.inr h2
    · exact absurd (if_neg h2) h
theorem H0_cases {b : Addr} {u : HO} (h : H0 K cs a vs ns b = some u) : (b ∈ cs.map (·.2) ∧ u = .tbl #[]) ∨ (b ∉ cs.map (·.2) ∧ b = a ∧ K.lookup a = none ∧ u = .frz (scrO vs) (.lst (ns.map V.int))) := by
  unfold H0 at h
  by_cases h1 : b ∈ cs.map (·.2)
  · rw [if_pos h1] at h
    exact Or.inl ⟨h1, (Option.some.inj h).symm⟩
  · rw [if_neg h1] at h
    by_cases h2 : b = a ∧ K.lookup a = none
    · rw [if_pos h2] at h
      exact Or.inr ⟨h1, h2.1, h2.2, (Option.some.inj h).symm⟩
    · rw [if_neg h2] at h
      cases h
structure Call0 (K : PySem.W.Frag) (mg mb : Str → Option Value) (cs : List (Addr × Addr)) (a : Addr) (vs : List Value) (ns : List Int) (s1 : Shared) : Prop where
  kx : K.In s1.heap
  ns1 : s1.heap.Ns mainGlobals mg
  bn : s1.heap.Ns builtinsNs mb
  bb : ∀ x : Str, x ≠ "__name__" → mb x = bootBuiltins x
  lim : s1.heap.NoLimit
  gens : s1.gens = #[]
  tabs : ∀ p ∈ cs, s1.heap.get? p.2 = some { cls := .none, data := .fields #[] }
  ntab : ∀ p ∈ cs, K.lookup p.2 = none
  hds : ∀ p ∈ cs, PySem.W.CodeHd s1.heap p.1 p.2
  bm : ∃ (bm : Addr) (ob : Obj), mg "__builtins__" = some (.ref bm) ∧ bm ≠ builtinsNs ∧ s1.heap.get? bm = some ob ∧ ob.cls = .type "module" ∧ ob.dict = some builtinsNs ∧ ob.data = .plain
  scr : s1.heap.get? a = some (scrO vs)
  itg : IntsAre vs ns
  few : ns.length ≤ sizeLine
variable (c : Call0 K mg mb cs a vs ns s1)
include c
theorem Call0.tab {b : Addr} (h : b ∈ cs.map (·.2)) : s1.heap.get? b = some { cls := .none, data := .fields #[] } := by
  obtain ⟨p, hp, rfl⟩ := List.mem_map.mp h
  exact c.tabs p hp
/-- what is neither a list nor a table is not tracked -/
theorem Call0.off {b : Addr} {o : Obj} (e : s1.heap.get? b = some o) (n1 : ∀ us n, o.data ≠ .seq us n) (n2 : o.data ≠ .fields #[]) : H0 K cs a vs ns b = none := by
  cases q : H0 K cs a vs ns b with
  | none => rfl
  | some u =>
    exfalso
    rcases H0_some (K := K) (cs := cs) (a := a) (vs := vs) (ns := ns) (b := b) (by rw [q]; exact Option.some_ne_none u) with h | ⟨h, _⟩
    · rw [c.tab h] at e
      exact n2 (by rw [← Option.some.inj e])
    · rw [h, c.scr] at e
      exact n1 _ _ (by rw [← Option.some.inj e])
theorem Call0.nsB {b : Addr} {m : Str → Option Value} (h : s1.heap.Ns b m) : (hidT s1.heap (H0 K cs a vs ns)).Ns b m := by
  obtain ⟨o, es, ep, e, d, r⟩ := h
  exact ⟨o, es, ep, hidT_get e (c.off e (fun us n z => by rw [d] at z; cases z) (fun z => by rw [d] at z; cases z)), d, r⟩
theorem Call0.kB : K.In (hidT s1.heap (H0 K cs a vs ns)) := by
  intro b o e
  refine hidT_get (c.kx b o e) ?_
  cases q : H0 K cs a vs ns b with
  | none => rfl
  | some u =>
    exfalso
    rcases H0_some (K := K) (cs := cs) (a := a) (vs := vs) (ns := ns) (b := b) (by rw [q]; exact Option.some_ne_none u) with h | ⟨h, h2⟩
    · obtain ⟨p, hp, rfl⟩ := List.mem_map.mp h
      rw [c.ntab p hp] at e
      cases e
    · rw [h, h2] at e
      cases e
theorem Call0.modB : L2.Mod K mg (hidT s1.heap (H0 K cs a vs ns)) := by
  obtain ⟨mc, l1, l2⟩ := c.lim
  exact ⟨c.kB, c.nsB c.ns1, ⟨mb, c.nsB c.bn, c.bb⟩, ⟨mc, c.nsB l1, l2⟩⟩
theorem Call0.tabB : ∀ p ∈ cs, LamX.TabB (hidT s1.heap (H0 K cs a vs ns)) mg p.1 p.2 := by
  intro p hp
  have tp := c.tabs p hp
  have gl : mainGlobals ≠ p.2 := by
    intro z
    obtain ⟨o, es, ep, e, d, _⟩ := c.ns1
    rw [z, tp] at e
    rw [← Option.some.inj e] at d
    cases d
  refine LamX.TabB.mk ?_ ?_ gl
  · obtain ⟨o, us, file, tf, flags, tg, inF, text, tt, e1, r1, r2, r3, rest⟩ := c.hds p hp
    refine ⟨o, us, file, tf, flags, tg, inF, text, tt, hidT_get e1 (c.off e1 ?_ ?_), r1, r2, r3, rest⟩
    · intro v n z
      rw [r2] at z
      cases z
    · intro z
      rw [r2] at z
      cases z
      simp at r3
  · obtain ⟨bm, ob, b1, b2, b3, b4, b5, b6⟩ := c.bm
    have k1 : bm ≠ mainGlobals := by
      intro z
      obtain ⟨o, es, ep, e, d, _⟩ := c.ns1
      rw [← z, b3] at e
      rw [← Option.some.inj e, b6] at d
      cases d
    have k2 : bm ≠ p.2 := by
      intro z
      rw [z, tp] at b3
      rw [← Option.some.inj b3] at b6
      cases b6
    exact ⟨bm, ob, b1, b2, k1, k2, hidT_get b3 (c.off b3 (fun v n z => by rw [b6] at z; cases z) (fun z => by rw [b6] at z; cases z)), b4, b5, b6⟩
theorem Call0.hok : HOk P w (H0 K cs a vs ns) s1.heap := by
  intro b u z
  rcases H0_cases z with ⟨h1, rfl⟩ | ⟨_, rfl, _, rfl⟩
  · exact c.tab h1
  · exact ⟨c.scr, by rw [List.length_map]; exact c.few, vs, _, vals_ints c.itg, c.scr⟩
theorem Call0.sq : SqL K (H0 K cs a vs ns) a (ns.map V.int) := by
  cases hk : K.lookup a with
  | some o =>
    have e := c.kx a o hk
    rw [c.scr] at e
    obtain rfl := Option.some.inj e
    exact Or.inr ⟨_, vs.toArray, _, hk, rfl, rfl, rfl, by rw [List.size_toArray, c.itg.length]; exact c.few, by simpa using vals_ints c.itg⟩
  | none =>
    have na : a ∉ cs.map (·.2) := by
      intro z
      have e := c.tab z
      rw [c.scr] at e
      cases e
    have e : H0 K cs a vs ns a = some (.frz (scrO vs) (.lst (ns.map V.int))) := by
      unfold H0
      rw [if_neg na, if_pos ⟨rfl, hk⟩]
    exact Or.inl (Or.inr ⟨_, e⟩)
theorem Call0.env0 : Env0 P w K mg (hidT s1.heap (H0 K cs a vs ns)) callerA [] s1 (H0 K cs a vs ns) :=
  { frames := rfl, mod := c.modB, bs := fun _ _ e => of_hidT e, bsz := Nat.le_of_eq (hidT_size _ _), funs := trivial, frf := fun b hb => (List.not_mem_nil hb).elim, hok := c.hok, bare := AllBare.of_eq c.gens }
theorem law_callG (hr : Room k callerA) (F : ∀ base : Heap, K.In base → base.Ns mainGlobals mg → (∀ p ∈ cs, LamX.TabB base mg p.1 p.2) → FnO P w K mg base k fa fd [x] sp) (hbind : ∀ (s : Shared) (u : Value), BindsTo s fd ⟨[u], []⟩ [(x, u)])
    (hsp : ∀ H : Hp, (∀ p ∈ cs, H p.2 = some (.tbl #[])) → SqL K H a (ns.map V.int) → sp [.ref a] H (fun v _ => v = .bl true) fun _ _ _ => False) (hCX : ∀ H e s', L2.CX P w [] H s1 (fun _ _ _ => False) e s' → False) :
    codeAny (model P w) callerA (.call (.ref fa) ⟨[.ref a], []⟩) (fun r s' => r = .ok (.ret (.bool true)) ∧ OldK s1.heap s'.heap ∧ s'.os = s1.os ∧ AllBare s'.gens) s1 := by
  have go := (F _ c.kB (c.nsB c.ns1) c.tabB).run callerA [] s1 (H0 K cs a vs ns) ⟨[.ref a], []⟩ [.ref a] [.ref a] _ _ rfl hr c.env0 (hbind s1 (.ref a)) (.cons rfl .nil) (hsp _ (fun p hp => H0_tab hp) c.sq)
  refine codeAny_mono go ?_
  intro r s2 z
  cases r with
  | error e => exact absurd z (hCX _ e s2)
  | ok fl =>
    cases fl with
    | next => cases z
    | brk => cases z
    | cont => cases z
    | ret u =>
      obtain ⟨v, H2, os, bare, un, hok2, rv, (rfl : v = .bl true)⟩ := z
      obtain rfl : u = Value.bool true := rv
      have more : ∀ p ∈ cs, ∃ us : Array Value, s2.heap.get? p.2 = some { cls := .none, data := .fields us } := by
        intro p hp
        obtain ⟨us, e⟩ := un.tbls p.2 #[] (H0_tab hp)
        exact ⟨_, hok2 p.2 _ e⟩
      have old : ∀ b o, b ∉ cs.map (·.2) → s1.heap.get? b = some o → s2.heap.get? b = some o := by
        intro b o nb e
        cases q : H0 K cs a vs ns b with
        | none => exact un.keep b o e q (fun z => nomatch z) (fun z => nomatch z)
        | some t =>
          rcases H0_cases q with ⟨h1, _⟩ | ⟨_, rfl, _, rfl⟩
          · exact absurd h1 nb
          · rw [c.scr] at e
            rw [← e]
            exact (hok2 b _ (un.frzs b _ _ q)).1
      refine ⟨rfl, ⟨fun b o e => ?_, fun b o e => ?_⟩, os, bare⟩
      · by_cases hb : b ∈ cs.map (·.2)
        · obtain ⟨p, hp, rfl⟩ := List.mem_map.mp hb
          obtain ⟨us, hm⟩ := more p hp
          rw [c.tabs p hp] at e
          obtain rfl := Option.some.inj e
          exact Or.inr (Or.inl ⟨((c.hds p hp).tab (c.tabs p hp)).isCodeTable, rfl, #[], us, rfl, by rw [Array.empty_append]; exact hm⟩)
        · exact Or.inl (old b o hb e)
      · by_cases hb : b ∈ cs.map (·.2)
        · obtain ⟨p, hp, rfl⟩ := List.mem_map.mp hb
          obtain ⟨us, hm⟩ := more p hp
          exact ⟨_, hm⟩
        · exact ⟨o, old b o hb e⟩
end
def LawG (l : PySem.W.OpenLaw) (w : World) (K : PySem.W.Frag) (k n : Nat) (x : Str) (mg : Str → Option Value) (fa : Addr) (h : Heap) : Prop :=
  ∃ (fd : FuncData) (cs : List (Addr × Addr)) (sp : Sp), (∀ p ∈ cs, h.get? p.2 = some { cls := .none, data := .fields #[] }) ∧ (∀ p ∈ cs, K.lookup p.2 = none) ∧ (∀ p ∈ cs, PySem.W.CodeHd h p.1 p.2) ∧ (∀ (s : Shared) (u : Value), BindsTo s fd ⟨[u], []⟩ [(x, u)]) ∧
    (∀ (H : Hp) (a : Addr) (ns : List Int), ns.length ≤ n → (∀ z ∈ ns, Builtin.Int.intBits z ≤ 1048576) → (∀ p ∈ cs, H p.2 = some (.tbl #[])) → SqL K H a (ns.map V.int) → sp [.ref a] H (fun v _ => v = .bl true) fun _ _ _ => False) ∧
    ∀ base : Heap, K.In base → base.Ns mainGlobals mg → (∀ p ∈ cs, LamX.TabB base mg p.1 p.2) → FnO l.prog w K mg base k fa fd [x] sp
theorem walk_ev {l : PySem.W.OpenLaw} {n k : Nat} {q : Program} {loose : List Str} {XP : (Str → Option Value) → Heap → Prop} {YP : World → Heap → Prop} {d : DefRec} {x : Str} (hn : l.most = some n) (hn2 : n ≤ sizeLine) (hdf : d.params.defaults = []) (hr : Room k callerA)
    (F : ∀ (w : World) (mg : Str → Option Value) (fa : Addr) (h : Heap), YP w h → h.Ns mainGlobals mg → mg d.name = some (.ref fa) → ∃ K : PySem.W.Frag, K.In h ∧ LawG l w K k n x mg fa h)
    (hCX : ∀ (w : World) (H : Hp) (s : Shared) (e : Value) (s' : Shared), L2.CX l.prog w [] H s (fun _ _ _ => False) e s' → False) : PySem.W.WalkO q loose XP YP l.row.toRowW d [] (fun f vs => PySem.call f vs) := by
  refine Att.attach_callB hn hdf ?_
  intro w s0 s1 mg mb fa o pm cd doc a vs ns G Y ho hd hcd hmg hobj hints hlen hbits hg
  obtain ⟨K, KX, fd, cs, sp, t1, t2, t3, t4, t5, t6⟩ := F w mg fa _ Y G.T.g hmg
  exact law_callG ⟨KX, G.T.g, G.T.b, G.T.builtins, G.T.nolimit, hg, t1, t2, t3, G.T.bmain, hobj, hints, Nat.le_trans hlen hn2⟩ hr t6 t4 (fun H hH hS => t5 H a ns hlen hbits hH hS) fun H e s2 => hCX w H s1 e s2
end Ev

set_option Elab.async false
set_option linter.all false
set_option maxRecDepth 100000
set_option autoImplicit false
/-! Ev: a law over its head. -/
namespace Ev
open PySem PySem.Spec PyProof.Rows L2
/-- what must be shown of a law's text -/
def Answers (G : Prog) (L m n : Nat) : Prop := ∀ ns : List Int, ns.length ≤ n → (∀ z ∈ ns, Builtin.Int.intBits z ≤ 1048576) → run G (m + 1) L [.scr (ns.map .int)] [] = .ok (.bl true) []
theorem vrs_ns {W : Wd} {ph : List Addr} {H : Hp} : ∀ ns : List Int, VRs W ph H (ns.map .int) (ns.map V.int)
  | [] => .nil
  | n :: ns => .cons (.int n) (vrs_ns ns)
theorem law_at {l : PySem.W.OpenLaw} {w : World} {G : Prog} {K : PySem.W.Frag} {ds : List (He.DefD × List Str)} {is : List InD} {L m n : Nat} {F : FnT} {d : He.DefD} {x nm : Str} {mg : Str → Option Value} {fa : Addr} {h : Heap}
    (fb : facB G K = true) (tb : txtB G ds is = true) (h1 : ∀ q ∈ ds, Has K q.1) (h2 : ∀ q ∈ is, Has K q.d) (X : K.In h) (N : h.Ns mainGlobals mg)
    (c1 : ∀ p ∈ ds.map (fun q => q.1.at_), PySem.W.codeHdIn K (He.cT K p).1 (He.cT K p).2 = true) (c2 : ∀ p ∈ ds.map (fun q => q.1.at_), K.lookup (He.cT K p).2 = none) (c3 : ∀ p ∈ ds.map (fun q => q.1.at_), h.get? (He.cT K p).2 = some { cls := .none, data := .fields #[] })
    (hF : G.fns[L]? = some F) (ha : F.at_ = (nm, none)) (hd : ds[L]? = some (d, [x])) (hk : dfB G F (d, [x]) = true) (hg : mg nm = some (.ref fa)) (ans : Answers G L m n) (hdf : F.dfl = [] := by rfl) :
    LawG l w K (5 * m + 7) n x mg fa h := by
  generalize hcs : (ds.map fun q => He.cT K q.1.at_) = cs
  have hcm : ∀ p ∈ cs, ∃ q ∈ ds, p = He.cT K q.1.at_ := fun p hp => by
    rw [← hcs] at hp
    obtain ⟨q, hq, e⟩ := List.mem_map.mp hp
    exact ⟨q, hq, e.symm⟩
  have hat : ∀ q ∈ ds, q.1.at_ ∈ ds.map (fun q => q.1.at_) := fun q hq => List.mem_map.mpr ⟨q, hq, rfl⟩
  have hin : ∀ q ∈ ds, (He.cT K q.1.at_).2 ∈ cs.map (·.2) := fun q hq => List.mem_map.mpr ⟨He.cT K q.1.at_, by rw [← hcs]; exact List.mem_map.mpr ⟨q, hq, rfl⟩, rfl⟩
  have eF : faOf G K L = fa := by
    have fb2 := fb
    unfold facB at fb2
    obtain ⟨f1, _⟩ := ba fb2
    obtain ⟨_, f4⟩ := ba f1
    obtain ⟨f4, _⟩ := ba f4
    have k := all_at f4 hF
    unfold fnOk at k
    rw [ha] at k
    have e := (He.glo_ok X N (ba k).1).symm.trans hg
    cases e
    unfold faOf
    rw [hF]
    show He.fAd K F.at_ = _
    rw [ha]
    rfl
  have hq : (d, [x]) ∈ ds := List.mem_of_getElem? hd
  unfold dfB at hk
  obtain ⟨k1, k2⟩ := ba hk
  obtain ⟨k2, k3⟩ := ba k2
  obtain ⟨k3, k5⟩ := ba k3
  obtain ⟨k3, k6⟩ := ba k3
  unfold parB at k5
  simp only [hdf] at k5
  obtain ⟨k4, k5⟩ := ba k5
  obtain ⟨fd, dV, kV, doc, pm, cdv, ct, oc, an, od, osl, e, lk, hcd, hb, _⟩ := has_fn (h1 _ hq) k5 k4
  have e2 : (wdOf G K (cs.map (·.2))).fa L = He.fAd K d.at_ := by
    show faOf G K L = _
    unfold faOf
    rw [hF]
    exact congrArg (He.fAd K) (of_decide_eq_true k1)
  have D : DefOk (wdOf G K (cs.map (·.2))) L F fd [x] := ⟨⟨_, _, _, _, _, dV, kV, doc, pm, cdv, ct, oc, an, od, osl, e, by rw [e2]; exact lk, hcd, scB_ok k2, k3, (He.cT K d.at_).1, (He.cT K d.at_).2, (by
    obtain ⟨c, hc⟩ := He.codeIn_ref hcd
    rw [hc]
    show Value.ref c = .ref (He.codeOf K d.at_)
    rw [He.codeOf_eq lk (by rw [e]; exact hc)]), c1 _ (hat _ hq), hin _ hq⟩, of_decide_eq_true k6⟩
  refine ⟨fd, cs, spEv (wdOf G K (cs.map (·.2))) (run G (m + 1)) L, fun p hp => (by obtain ⟨q, hq, rfl⟩ := hcm p hp; exact c3 _ (hat q hq)), fun p hp => (by obtain ⟨q, hq, rfl⟩ := hcm p hp; exact c2 _ (hat q hq)), fun p hp => (by obtain ⟨q, hq, rfl⟩ := hcm p hp; exact PySem.W.codeHd_of_K X (c1 _ (hat q hq))), fun s u => ?_, fun H a ns hl hz hH hS => ?_, fun base KX2 N2 hTB => ?_⟩
  · obtain ⟨fd2, FF⟩ := h1 _ hq
    obtain ⟨n1, n2⟩ := ba k5
    have e1 : d.dvs K = [] := by unfold He.DefD.dvs; rw [List.isEmpty_iff.mp n1]; rfl
    simp only [e1] at FF
    have lk2 := FF.ex
    obtain ⟨oc', od', dV', kV', doc', pm', an', cdv', ct', osl', ef, lk', _, _, _⟩ := lk2
    have ee : fd2 = fd := by
      have := lk'.symm.trans lk
      simp only [Option.some.injEq, Obj.mk.injEq, Data.func.injEq] at this
      exact this.2.2.1
    have b := FF.bindsA (ps := [x]) (fun kV doc pm an cdv ct us hl => bind_smp k4 us hl) s [u] rfl
    rw [ee] at b
    exact b
  · refine ⟨[], [], [.scr (ns.map .int)], ⟨rfl, List.nodup_nil, fun n a c e => (by cases e), fun P hP => (by
      obtain ⟨p, hp, rfl⟩ := List.mem_map.mp hP
      exact ⟨#[], hH p hp, by simp [TriplesOk]⟩), fun a ha => (by cases ha), fun a ha => (by cases ha)⟩, .cons (.scr ?_ (vrs_ns ns)) .nil, ?_⟩
    · exact hS.elim (fun z => z.elim (fun z => .inr (.inr ⟨z, List.not_mem_nil, List.not_mem_nil⟩)) .inl) fun z => .inr (.inl z)
    · show PR (wdOf G K (cs.map (·.2))) [] H (QV (wdOf G K (cs.map (·.2))) _) _ (run G (m + 1) L [.scr (ns.map .int)] [])
      rw [ans ns hl hz]
      exact fun ph1 H1 v _ _ vr => by cases vr; rfl
  · have tbs : ∀ c P, PySem.W.codeHdIn K c P = true → P ∈ cs.map (·.2) → GxR.TabB base mg c P := fun c P hcp hP => by
      obtain ⟨p, hp, rfl⟩ := List.mem_map.mp hP
      obtain ⟨_, t2, t3⟩ := hTB p hp
      exact ⟨PySem.W.codeHd_of_K KX2 hcp, t2, t3⟩
    have FA := facts_of (P := l.prog) (w := w) (T := cs.map (·.2)) fb tb h1 h2 KX2 N2 (fun q hq => ⟨c1 _ (hat q hq), hin q hq⟩) tbs
    have R := fn_ev (W := wdOf G K (cs.map (·.2))) (k := 5 * m + 2) (lib_all FA m) hF D tbs
    have e3 : (wdOf G K (cs.map (·.2))).fa L = fa := eF
    have es : spEvK (wdOf G K (cs.map (·.2))) (run G (m + 1)) L F = spEv (wdOf G K (cs.map (·.2))) (run G (m + 1)) L := by
      funext vs H Q E
      simp only [spEvK, spEv, mkA, hdf, List.append_nil]
    rw [e3] at R
    exact es ▸ R
end Ev

set_option Elab.async false
set_option linter.all false
set_option maxRecDepth 100000
set_option autoImplicit false
/-! Ev, plain: rules to compute with the evaluator by simp. -/
namespace Ev.P
open PySem
def _root_.Ev.O.seq (o : O) (k : Env → Store → O) : O := match o with
  | .nx e s => k e s
  | o => o
def _root_.Ev.O.cth (o : O) (k : Nat → List Nat → List Val → Env → Store → O) : O := match o with
  | .ex c ks xs e s => k c ks xs e s
  | o => o
section
variable {e : Env} {s : Store} {v : Val} {c : Nat} {ks : List Nat} {xs : List Val} {k k2 : Env → Store → O} {h : Nat → List Nat → List Val → Env → Store → O} {o a b : O}
@[simp] theorem seq_nx : (O.nx e s).seq k = k e s := Eq.trans rfl rfl
@[simp] theorem seq_rt : (O.rt v s).seq k = .rt v s := Eq.trans rfl rfl
@[simp] theorem seq_bk : (O.bk e s).seq k = .bk e s := Eq.trans rfl rfl
@[simp] theorem seq_ct : (O.ct e s).seq k = .ct e s := Eq.trans rfl rfl
@[simp] theorem seq_ex : (O.ex c ks xs e s).seq k = .ex c ks xs e s := Eq.trans rfl rfl
@[simp] theorem seq_stk : (O.stk).seq k = .stk := Eq.trans rfl rfl
def kSeq (k k2 : Env → Store → O) (e : Env) (s : Store) : O := (k e s).seq k2
@[simp] theorem kSeq_app : kSeq k k2 e s = (k e s).seq k2 := Eq.trans rfl rfl
@[simp] theorem seq_seq : (o.seq k).seq k2 = o.seq (kSeq k k2) := by cases o <;> rfl
/-- one of two, by a truth value; neither is looked at before it is known -/
def condO (b : Bool) (x y : Env → Store → O) (e : Env) (s : Store) : O := if b = true then x e s else y e s
@[simp] theorem condO_t {x y : Env → Store → O} : condO true x y e s = x e s := Eq.trans rfl rfl
@[simp] theorem condO_f {x y : Env → Store → O} : condO false x y e s = y e s := Eq.trans rfl rfl
theorem condO_seq {p : Bool} {x y : Env → Store → O} : (condO p x y e s).seq k = condO p (kSeq x k) (kSeq y k) e s := by cases p <;> rfl
def kCth (k : Env → Store → O) (h : Nat → List Nat → List Val → Env → Store → O) (e : Env) (s : Store) : O := (k e s).cth h
@[simp] theorem kCth_app : kCth k h e s = (k e s).cth h := Eq.trans rfl rfl
theorem condO_cth {p : Bool} {x y : Env → Store → O} : (condO p x y e s).cth h = condO p (kCth x h) (kCth y h) e s := by cases p <;> rfl
@[simp] theorem cth_nx : (O.nx e s).cth h = .nx e s := Eq.trans rfl rfl
@[simp] theorem cth_rt : (O.rt v s).cth h = .rt v s := Eq.trans rfl rfl
@[simp] theorem cth_bk : (O.bk e s).cth h = .bk e s := Eq.trans rfl rfl
@[simp] theorem cth_ct : (O.ct e s).cth h = .ct e s := Eq.trans rfl rfl
@[simp] theorem cth_ex : (O.ex c ks xs e s).cth h = h c ks xs e s := Eq.trans rfl rfl
@[simp] theorem cth_stk : (O.stk).cth h = .stk := Eq.trans rfl rfl
@[simp] theorem seq_ite {p : Prop} [Decidable p] : (if p then a else b).seq k = if p then a.seq k else b.seq k := by split <;> rfl
@[simp] theorem cth_ite {p : Prop} [Decidable p] : (if p then a else b).cth h = if p then a.cth h else b.cth h := by split <;> rfl
end
section
variable {α β : Type} {a : α} {m : Store} {c : Nat} {ks : List Nat} {xs : List Val} {f : α → Store → R β} {e : Env} {g : α → Store → O} {r r2 : R α}
@[simp] theorem bindk : (R.ok a m).bind f = f a m := Eq.trans rfl rfl
@[simp] theorem bindx : (R.ex c ks xs m : R α).bind f = .ex c ks xs m := Eq.trans rfl rfl
@[simp] theorem binds : (R.stk : R α).bind f = .stk := Eq.trans rfl rfl
@[simp] theorem bind_ite {p : Prop} [Decidable p] : (if p then r else r2).bind f = if p then r.bind f else r2.bind f := by split <;> rfl
@[simp] theorem thenOk : (R.ok a m).thenO e g = g a m := Eq.trans rfl rfl
@[simp] theorem thenOx : (R.ex c ks xs m : R α).thenO e g = .ex c ks xs e m := Eq.trans rfl rfl
@[simp] theorem thenOs : (R.stk : R α).thenO e g = .stk := Eq.trans rfl rfl
@[simp] theorem thenO_ite {p : Prop} [Decidable p] : (if p then r else r2).thenO e g = if p then r.thenO e g else r2.thenO e g := by split <;> rfl
@[simp] theorem ofO_some : R.ofO (some a) m = .ok a m := Eq.trans rfl rfl
@[simp] theorem ofO_none : R.ofO (none : Option α) m = .stk := Eq.trans rfl rfl
@[simp] theorem ofO_ite {p : Prop} [Decidable p] {x y : Option α} : R.ofO (if p then x else y) m = if p then R.ofO x m else R.ofO y m := by split <;> rfl
@[simp] theorem nox_ok : (R.ok a m).nox = .ok a m := Eq.trans rfl rfl
@[simp] theorem nox_stk : (R.stk : R α).nox = .stk := Eq.trans rfl rfl
@[simp] theorem nox_ite {p : Prop} [Decidable p] : (if p then r else r2).nox = if p then r.nox else r2.nox := by split <;> rfl
end
/-- one of two, by a truth value -/
def tru {α : Type} (o : Option Bool) (x y : R α) : R α := match o with
  | some true => x
  | some false => y
  | none => .stk
section
variable {α : Type} {x y : R α} {b : Bool}
@[simp] theorem tru_t : tru (some true) x y = x := Eq.trans rfl rfl
@[simp] theorem tru_f : tru (some false) x y = y := Eq.trans rfl rfl
@[simp high] theorem tru_and {b q : Bool} {s : Store} : tru (some b) (.ok (Val.bl q) s) (.ok (Val.bl b) s) = .ok (Val.bl (b && q)) s := by cases b <;> rfl
@[simp high] theorem tru_or {b q : Bool} {s : Store} : tru (some b) (.ok (Val.bl b) s) (.ok (Val.bl q) s) = .ok (Val.bl (b || q)) s := by cases b <;> rfl
@[simp high] theorem tru_tst {b q : Bool} {s : Store} : tru (some b) (.ok q s) (.ok false s) = .ok (b && q) s := by cases b <;> cases q <;> rfl
@[simp low] theorem tru_ok {b : Bool} {s : Store} {v w : α} : tru (some b) (.ok v s) (.ok w s) = .ok (if b = true then v else w) s := by cases b <;> rfl
@[simp] theorem tru_none : tru none x y = .stk := Eq.trans rfl rfl
end
@[simp low] theorem ite_okB {p : Prop} [Decidable p] {x y : Val} {s : Store} : (if p then R.ok x s else R.ok y s) = R.ok (if p then x else y) s := by split <;> rfl
section
variable (G : Prog) (call : Nat → List Val → Store → R Val) (e : Env) (s : Store)
/-- a variable's value -/
def varR (o : Option (Option Val)) (s : Store) : R Val := match o with
  | some (some v) => if isExv v then .stk else .ok v s
  | _ => .stk
@[simp] theorem varR_some {v : Val} {s : Store} : varR (some (some v)) s = if isExv v = true then .stk else .ok v s := Eq.trans rfl rfl
@[simp] theorem isExv_int {i : Int} : isExv (.int i) = false := Eq.trans rfl rfl
@[simp] theorem isExv_bl {i : Bool} : isExv (.bl i) = false := Eq.trans rfl rfl
@[simp] theorem isExv_non : isExv .non = false := Eq.trans rfl rfl
@[simp] theorem isExv_str {i} : isExv (.str i) = false := Eq.trans rfl rfl
@[simp] theorem isExv_tup {i} : isExv (.tup i) = false := Eq.trans rfl rfl
@[simp] theorem isExv_lst {i} : isExv (.lst i) = false := Eq.trans rfl rfl
@[simp] theorem isExv_scr {i} : isExv (.scr i) = false := Eq.trans rfl rfl
@[simp] theorem isExv_obj {a b c} : isExv (.obj a b c) = false := Eq.trans rfl rfl
@[simp] theorem isExv_ref {i} : isExv (.ref i) = false := Eq.trans rfl rfl
@[simp] theorem isExv_exv {a b c} : isExv (.exv a b c) = true := Eq.trans rfl rfl
@[simp] theorem ev_var {i} : ev G call (.var i) e s = varR e[i]? s := by rw [ev]; rfl
@[simp] theorem ev_con {v} : ev G call (.con v) e s = .ok v s := by rw [ev]
def glbR (o : Option (Str × Val)) (s : Store) : R Val := match o with
  | some p => .ok p.2 s
  | none => .stk
@[simp] theorem glbR_some {p s} : glbR (some p) s = .ok p.2 s := Eq.trans rfl rfl
@[simp] theorem ev_glb {g} : ev G call (.glb g) e s = glbR G.consts[g]? s := by rw [ev]; rfl
noncomputable def kBin2 (o : Operator) (x : Val) (y : Val) (s2 : Store) : R Val := R.ofO (binV s2 o x y) s2
@[simp] theorem kBin2_app (o : Operator) (x : Val) (y : Val) (s2 : Store) : kBin2 o x y s2 = R.ofO (binV s2 o x y) s2 := Eq.trans rfl rfl
noncomputable def kBin (o : Operator) (b : ME) (e : Env) (x : Val) (s1 : Store) : R Val := (ev G call b e s1).bind (kBin2 o x)
@[simp] theorem kBin_app (o : Operator) (b : ME) (e : Env) (x : Val) (s1 : Store) : kBin G call o b e x s1 = (ev G call b e s1).bind (kBin2 o x) := Eq.trans rfl rfl
@[simp] theorem ev_bin {o a b} : ev G call (.bin o a b) e s = (ev G call a e s).bind (kBin G call o b e) := by rw [ev]; rfl
def negR : Val → Store → R Val
  | .int i, s => .ok (.int (-i)) s
  | _, _ => .stk
@[simp] theorem negR_int {i s} : negR (.int i) s = .ok (.int (-i)) s := Eq.trans rfl rfl
@[simp] theorem ev_neg {a} : ev G call (.neg a) e s = (ev G call a e s).bind negR := by
  rw [ev]; congr 1; funext x s1; cases x <;> rfl
noncomputable def kNt  (x : Val) (s1 : Store) : R Val := R.ofO ((truth s1 x).map fun b => .bl (!b)) s1
@[simp] theorem kNt_app  (x : Val) (s1 : Store) : kNt  x s1 = R.ofO ((truth s1 x).map fun b => .bl (!b)) s1 := Eq.trans rfl rfl
@[simp] theorem ev_nt {a} : ev G call (.nt a) e s = (ev G call a e s).bind kNt := by rw [ev]; rfl
noncomputable def kCmp2 (o : CmpOp) (x : Val) (y : Val) (s2 : Store) : R Val := R.ofO ((cmpV s2 o x y).map .bl) s2
@[simp] theorem kCmp2_app (o : CmpOp) (x : Val) (y : Val) (s2 : Store) : kCmp2 o x y s2 = R.ofO ((cmpV s2 o x y).map .bl) s2 := Eq.trans rfl rfl
noncomputable def kCmp (o : CmpOp) (b : ME) (e : Env) (x : Val) (s1 : Store) : R Val := (ev G call b e s1).bind (kCmp2 o x)
@[simp] theorem kCmp_app (o : CmpOp) (b : ME) (e : Env) (x : Val) (s1 : Store) : kCmp G call o b e x s1 = (ev G call b e s1).bind (kCmp2 o x) := Eq.trans rfl rfl
@[simp] theorem ev_cmp {o a b} : ev G call (.cmp o a b) e s = (ev G call a e s).bind (kCmp G call o b e) := by rw [ev]; rfl
noncomputable def kChn3 (p : CmpOp) (c : ME) (e : Env) (y : Val) (k : Bool) (s3 : Store) : R Val := tru (some k) ((ev G call c e s3).bind (kCmp2 p y)) (.ok (.bl k) s3)
@[simp] theorem kChn3_app {p c e y k s3} : kChn3 G call p c e y k s3 = tru (some k) ((ev G call c e s3).bind (kCmp2 p y)) (.ok (.bl k) s3) := Eq.trans rfl rfl
noncomputable def kChn2 (o p : CmpOp) (c : ME) (e : Env) (x : Val) (y : Val) (s2 : Store) : R Val := (R.ofO (cmpV s2 o x y) s2).bind (kChn3 G call p c e y)
@[simp] theorem kChn2_app {o p c e x y s2} : kChn2 G call o p c e x y s2 = (R.ofO (cmpV s2 o x y) s2).bind (kChn3 G call p c e y) := Eq.trans rfl rfl
noncomputable def kChn (o p : CmpOp) (b c : ME) (e : Env) (x : Val) (s1 : Store) : R Val := (ev G call b e s1).bind (kChn2 G call o p c e x)
@[simp] theorem kChn_app {o p b c e x s1} : kChn G call o p b c e x s1 = (ev G call b e s1).bind (kChn2 G call o p c e x) := Eq.trans rfl rfl
@[simp] theorem ev_chn {o p a b c} : ev G call (.chn o p a b c) e s = (ev G call a e s).bind (kChn G call o p b c e) := by
  rw [ev]; congr 1; funext x s1; rw [kChn_app]; congr 1; funext y s2; rw [kChn2_app]; congr 1; funext k s3; cases k <;> rfl
noncomputable def kAnd (b : ME) (e : Env) (x : Val) (s1 : Store) : R Val := tru (truth s1 x) (ev G call b e s1) (.ok x s1)
@[simp] theorem kAnd_app (b : ME) (e : Env) (x : Val) (s1 : Store) : kAnd G call b e x s1 = tru (truth s1 x) (ev G call b e s1) (.ok x s1) := Eq.trans rfl rfl
@[simp] theorem ev_and {a b} : ev G call (.and a b) e s = (ev G call a e s).bind (kAnd G call b e) := by rw [ev]; rfl
noncomputable def kOr (b : ME) (e : Env) (x : Val) (s1 : Store) : R Val := tru (truth s1 x) (.ok x s1) (ev G call b e s1)
@[simp] theorem kOr_app (b : ME) (e : Env) (x : Val) (s1 : Store) : kOr G call b e x s1 = tru (truth s1 x) (.ok x s1) (ev G call b e s1) := Eq.trans rfl rfl
@[simp] theorem ev_or {a b} : ev G call (.or a b) e s = (ev G call a e s).bind (kOr G call b e) := by rw [ev]; rfl
noncomputable def kIte (a b : ME) (e : Env) (x : Val) (s1 : Store) : R Val := tru (truth s1 x) (ev G call a e s1) (ev G call b e s1)
@[simp] theorem kIte_app (a b : ME) (e : Env) (x : Val) (s1 : Store) : kIte G call a b e x s1 = tru (truth s1 x) (ev G call a e s1) (ev G call b e s1) := Eq.trans rfl rfl
@[simp] theorem ev_ite {c a b} : ev G call (.ite c a b) e s = (ev G call c e s).bind (kIte G call a b e) := by rw [ev]; rfl
noncomputable def kTup  (xs : List Val) (s1 : Store) : R Val := if xs.length ≤ szL then .ok (.tup xs) s1 else .stk
@[simp] theorem kTup_app  (xs : List Val) (s1 : Store) : kTup  xs s1 = if xs.length ≤ szL then .ok (.tup xs) s1 else .stk := Eq.trans rfl rfl
@[simp] theorem ev_tup {es} : ev G call (.tup es) e s = (evs G call es e s).bind kTup := by rw [ev]; rfl
@[simp] theorem ev_lst {m es} : ev G call (.lst m es) e s = (evs G call es e s).bind (newL m) := by rw [ev]
noncomputable def kMlr2 (x : Val) (y : Val) (s2 : Store) : R Val := mulR s2 x y
@[simp] theorem kMlr2_app {x y s2} : kMlr2 x y s2 = mulR s2 x y := Eq.trans rfl rfl
noncomputable def kMlr (b : ME) (e : Env) (x : Val) (s1 : Store) : R Val := (ev G call b e s1).bind (kMlr2 x)
@[simp] theorem kMlr_app {b e x s1} : kMlr G call b e x s1 = (ev G call b e s1).bind (kMlr2 x) := Eq.trans rfl rfl
@[simp] theorem ev_mlr {a b} : ev G call (.mlr a b) e s = (ev G call a e s).bind (kMlr G call b e) := by rw [ev]; rfl
@[simp] theorem ev_fnc {f es} : ev G call (.fnc f es) e s = (evs G call es e s).bind (call f) := by rw [ev]
noncomputable def kFnk2 (o : Option FnT) (f : Nat) (ks : List Nat) (xs ys : List Val) (s2 : Store) : R Val := match o with
    | some F => if xs.length + F.dfl.length ≤ F.ar ∧ (ks.all fun j => decide (xs.length ≤ j)) = true ∧ ys.length = ks.length then match argsOf 0 F.ar xs (ks.zip ys) with
      | some zs => call f (zs ++ mkA F) s2
      | none => .stk else .stk
    | none => .stk
@[simp] theorem kFnk2_app {F f ks xs ys s2} : kFnk2 call (some F) f ks xs ys s2 = if xs.length + F.dfl.length ≤ F.ar ∧ (ks.all fun j => decide (xs.length ≤ j)) = true ∧ ys.length = ks.length then match argsOf 0 F.ar xs (ks.zip ys) with
      | some zs => call f (zs ++ mkA F) s2
      | none => .stk else .stk := Eq.trans rfl rfl
noncomputable def kFnk (f : Nat) (ks : List Nat) (ke : MEs) (e : Env) (xs : List Val) (s1 : Store) : R Val := (evs G call ke e s1).bind (kFnk2 call G.fns[f]? f ks xs)
@[simp] theorem kFnk_app {f ks ke e xs s1} : kFnk G call f ks ke e xs s1 = (evs G call ke e s1).bind (kFnk2 call G.fns[f]? f ks xs) := Eq.trans rfl rfl
@[simp] theorem ev_fnk {f es ks ke ds} : ev G call (.fnk f es ks ke ds) e s = (evs G call es e s).bind (kFnk G call f ks ke e) := by rw [ev]; rfl
@[simp] theorem ev_mk {c es} : ev G call (.mk c es) e s = (evs G call es e s).bind (mkV G call c) := by rw [ev]
noncomputable def kIsi (ts : List Ty) (x : Val) (s1 : Store) : R Val := R.ofO ((anyTy G s1 x ts).map .bl) s1
@[simp] theorem kIsi_app (ts : List Ty) (x : Val) (s1 : Store) : kIsi G ts x s1 = R.ofO ((anyTy G s1 x ts).map .bl) s1 := Eq.trans rfl rfl
@[simp] theorem ev_isi {a ts one} : ev G call (.isi a ts one) e s = (ev G call a e s).bind (kIsi G ts) := by rw [ev]; rfl
def exvR (o : Option (Option Val)) (f : Nat → List Nat → List Val → R Val) : R Val := match o with
  | some (some (.exv c ks xs)) => f c ks xs
  | _ => .stk
@[simp] theorem exvR_some {c ks xs f} : exvR (some (some (.exv c ks xs))) f = f c ks xs := Eq.trans rfl rfl
@[simp] theorem ev_xis {i ts one} : ev G call (.xis i ts one) e s = exvR e[i]? fun c ks xs => R.ofO ((anyTy G s (.exv c ks xs) ts).map .bl) s := by
  rw [ev]; unfold exvR; rcases e[i]? with _ | _ | x <;> try rfl
@[simp] theorem ev_xat {i f} : ev G call (.xat i f) e s = exvR e[i]? fun c ks xs => R.ofO (if hasX G c f = true then lookF f ks xs else none) s := by
  rw [ev]; unfold exvR; rcases e[i]? with _ | _ | x <;> try rfl
@[simp] theorem ev_bif {b m es} : ev G call (.bif b m es) e s = (evs G call es e s).bind (bifV b m) := by rw [ev]
def kApp3 (x y : Val) (s2 : Store) : R Val := match appV x y s2 with
  | some s3 => .ok .non s3
  | none => .stk
@[simp] theorem kApp3_app {x y s2} : kApp3 x y s2 = match appV x y s2 with
  | some s3 => .ok .non s3
  | none => .stk := Eq.trans rfl rfl
noncomputable def kApp2 (a : ME) (e : Env) (x : Val) (s1 : Store) : R Val := (ev G call a e s1).bind (kApp3 x)
@[simp] theorem kApp2_app {a e x s1} : kApp2 G call a e x s1 = (ev G call a e s1).bind (kApp3 x) := Eq.trans rfl rfl
noncomputable def kApp (a : ME) (e : Env) (x : Val) (s1 : Store) : R Val := (R.ofO ((asM s1 x).map fun _ => x) s1).bind (kApp2 G call a e)
@[simp] theorem kApp_app {a e x s1} : kApp G call a e x s1 = (R.ofO ((asM s1 x).map fun _ => x) s1).bind (kApp2 G call a e) := Eq.trans rfl rfl
@[simp] theorem ev_app {o a} : ev G call (.app o a) e s = (ev G call o e s).bind (kApp G call a e) := by
  rw [ev]
  rcases ev G call o e s with ⟨x, s1⟩ | _ | _ <;> try rfl
  simp only [bindk, kApp_app]
  rcases asM s1 x with _ | _ <;> try rfl
  simp only [Option.map, ofO_some, bindk, kApp2_app]
  rcases ev G call a e s1 with ⟨y, s2⟩ | _ | _ <;> try rfl
  simp only [bindk, kApp3_app]
  rcases appV x y s2 with _ | _ <;> rfl
noncomputable def kAtt (f : Nat) (x : Val) (s1 : Store) : R Val := R.ofO (attV G s1 x f) s1
@[simp] theorem kAtt_app (f : Nat) (x : Val) (s1 : Store) : kAtt G f x s1 = R.ofO (attV G s1 x f) s1 := Eq.trans rfl rfl
@[simp] theorem ev_att {o f} : ev G call (.att o f) e s = (ev G call o e s).bind (kAtt G f) := by rw [ev]; rfl
noncomputable def kIdx2 (x : Val) (y : Val) (s2 : Store) : R Val := R.ofO (idxV s2 x y) s2
@[simp] theorem kIdx2_app (x : Val) (y : Val) (s2 : Store) : kIdx2 x y s2 = R.ofO (idxV s2 x y) s2 := Eq.trans rfl rfl
noncomputable def kIdx (i : ME) (e : Env) (x : Val) (s1 : Store) : R Val := (ev G call i e s1).bind (kIdx2 x)
@[simp] theorem kIdx_app (i : ME) (e : Env) (x : Val) (s1 : Store) : kIdx G call i e x s1 = (ev G call i e s1).bind (kIdx2 x) := Eq.trans rfl rfl
@[simp] theorem ev_idx {a i} : ev G call (.idx a i) e s = (ev G call a e s).bind (kIdx G call i e) := by rw [ev]; rfl
noncomputable def kSl3 (x : Val) (l : Option Int) (h : Option Int) (s3 : Store) : R Val := R.ofO (slcV s3 x l h) s3
@[simp] theorem kSl3_app (x : Val) (l : Option Int) (h : Option Int) (s3 : Store) : kSl3 x l h s3 = R.ofO (slcV s3 x l h) s3 := Eq.trans rfl rfl
noncomputable def kO  (l : List Val) (s2 : Store) : R (Option Int) := R.ofO (intO l) s2
@[simp] theorem kO_app  (l : List Val) (s2 : Store) : kO  l s2 = R.ofO (intO l) s2 := Eq.trans rfl rfl
noncomputable def kSl2 (hi : MEs) (e : Env) (x : Val) (l : Option Int) (s2 : Store) : R Val := ((evs G call hi e s2).bind kO).bind (kSl3 x l)
@[simp] theorem kSl2_app (hi : MEs) (e : Env) (x : Val) (l : Option Int) (s2 : Store) : kSl2 G call hi e x l s2 = ((evs G call hi e s2).bind kO).bind (kSl3 x l) := Eq.trans rfl rfl
noncomputable def kSl (lo hi : MEs) (e : Env) (x : Val) (s1 : Store) : R Val := ((evs G call lo e s1).bind kO).bind (kSl2 G call hi e x)
@[simp] theorem kSl_app (lo hi : MEs) (e : Env) (x : Val) (s1 : Store) : kSl G call lo hi e x s1 = ((evs G call lo e s1).bind kO).bind (kSl2 G call hi e x) := Eq.trans rfl rfl
@[simp] theorem ev_slc {a lo hi} : ev G call (.slc a lo hi) e s = (ev G call a e s).bind (kSl G call lo hi e) := by rw [ev]; rfl
noncomputable def kRvs  (x : Val) (s1 : Store) : R Val := R.ofO (rvsV s1 x) s1
@[simp] theorem kRvs_app  (x : Val) (s1 : Store) : kRvs  x s1 = R.ofO (rvsV s1 x) s1 := Eq.trans rfl rfl
@[simp] theorem ev_rvs {a} : ev G call (.rvs a) e s = (ev G call a e s).bind kRvs := by rw [ev]; rfl
/-- one item of a comprehension -/
noncomputable def kEl2 (v : Val) (s4 : Store) : R (Option Val) := .ok (some v) s4
@[simp] theorem kEl2_app {v s4} : kEl2 v s4 = .ok (some v) s4 := Eq.trans rfl rfl
noncomputable def kEl (el : ME) (e1 : Env) (b : Bool) (s3 : Store) : R (Option Val) := if b = true then (ev G call el e1 s3).bind kEl2 else .ok none s3
@[simp] theorem kEl_app {el e1 b s3} : kEl G call el e1 b s3 = if b = true then (ev G call el e1 s3).bind kEl2 else .ok none s3 := Eq.trans rfl rfl
noncomputable def stepA (cs : MEs) (el : ME) (s2 : Store) (o : Option Env) : R (Option Val) := match o with
  | some e1 => ((evC G call cs e1 s2).bind (kEl G call el e1)).nox
  | none => .stk
@[simp] theorem stepA_some {cs el s2 e1} : stepA G call cs el s2 (some e1) = ((evC G call cs e1 s2).bind (kEl G call el e1)).nox := Eq.trans rfl rfl
noncomputable def stepC (tg : TG) (cs : MEs) (el : ME) (x : Val) (s2 : Store) : R (Option Val) := stepA G call cs el s2 (asg tg x (wipeE e (tgS tg)))
noncomputable def kLc (m : Bool) (tg : TG) (cs : MEs) (el : ME) (p : List Val × Option (Nat × List Val)) (s1 : Store) : R Val := (lcL (stepC G call e tg cs el) p.2 p.1 [] s1).bind (putL m)
@[simp] theorem kLc_app {m tg cs el p s1} : kLc G call e m tg cs el p s1 = (lcL (stepC G call e tg cs el) p.2 p.1 [] s1).bind (putL m) := Eq.trans rfl rfl
@[simp] theorem ev_lc {m tg it cs el} : ev G call (.lc m tg it cs el) e s = (evI G call it e s).bind (kLc G call e m tg cs el) := by
  rw [ev]; rfl
@[simp] theorem evs_nil : evs G call .nil e s = .ok [] s := by rw [evs]
noncomputable def kCons2 (x : Val) (xs : List Val) (s2 : Store) : R (List Val) := .ok (x :: xs) s2
@[simp] theorem kCons2_app {x xs s2} : kCons2 x xs s2 = .ok (x :: xs) s2 := Eq.trans rfl rfl
noncomputable def kCons (r : MEs) (x : Val) (s1 : Store) : R (List Val) := (evs G call r e s1).bind (kCons2 x)
@[simp] theorem kCons_app {r x s1} : kCons G call e r x s1 = (evs G call r e s1).bind (kCons2 x) := Eq.trans rfl rfl
@[simp] theorem evs_cons {a r} : evs G call (.cons a r) e s = (ev G call a e s).bind (kCons G call e r) := by rw [evs]; rfl
@[simp] theorem evC_nil : evC G call .nil e s = .ok true s := by rw [evC]
noncomputable def kTst (r : MEs) (x : Val) (s1 : Store) : R Bool := tru (truth s1 x) (evC G call r e s1) (.ok false s1)
@[simp] theorem kTst_app {r x s1} : kTst G call e r x s1 = tru (truth s1 x) (evC G call r e s1) (.ok false s1) := Eq.trans rfl rfl
@[simp] theorem evC_cons {a r} : evC G call (.cons a r) e s = (ev G call a e s).bind (kTst G call e r) := by rw [evC]; rfl
def itV (v : Val) (s : Store) : R (List Val × Option (Nat × List Val)) := match asS s v with
  | some xs => .ok (xs, liveOf s v xs) s
  | none => .stk
@[simp] theorem evI_val {a} : evI G call (.val a) e s = (ev G call a e s).bind itV := by rw [evI]; rfl
@[simp] theorem itV_tup {xs : List Val} {s : Store} : itV (.tup xs) s = .ok (xs, none) s := Eq.trans rfl rfl
@[simp] theorem itV_lst {xs : List Val} {s : Store} : itV (.lst xs) s = .ok (xs, none) s := Eq.trans rfl rfl
@[simp] theorem itV_scr {xs : List Val} {s : Store} : itV (.scr xs) s = .ok (xs, none) s := Eq.trans rfl rfl
def rngR : Val → Store → R (List Val × Option (Nat × List Val))
  | .int j, s => if rngOk j = true then .ok (rngL 0 j.toNat, none) s else .stk
  | _, _ => .stk
@[simp] theorem rngR_int {j s} : rngR (.int j) s = if rngOk j = true then .ok (rngL 0 j.toNat, none) s else .stk := Eq.trans rfl rfl
@[simp] theorem evI_rng {a} : evI G call (.rng a) e s = (ev G call a e s).bind rngR := by
  rw [evI]; congr 1; funext x s1; cases x <;> rfl
def rng2R (x y : Val) (s : Store) : R (List Val × Option (Nat × List Val)) := match x, y with
  | .int i, .int j => if (rngOk i && rngOk j) = true then .ok (rngL i (j - i).toNat, none) s else .stk
  | _, _ => .stk
@[simp] theorem rng2R_int {i j s} : rng2R (.int i) (.int j) s = if (rngOk i && rngOk j) = true then .ok (rngL i (j - i).toNat, none) s else .stk := Eq.trans rfl rfl
noncomputable def kRng2 (b : ME) (x : Val) (s1 : Store) : R (List Val × Option (Nat × List Val)) := (ev G call b e s1).bind (rng2R x)
@[simp] theorem kRng2_app {b x s1} : kRng2 G call e b x s1 = (ev G call b e s1).bind (rng2R x) := Eq.trans rfl rfl
@[simp] theorem evI_rng2 {a b} : evI G call (.rng2 a b) e s = (ev G call a e s).bind (kRng2 G call e b) := by
  rw [evI]; congr 1
def zipR (x y : Val) (s : Store) : R (List Val × Option (Nat × List Val)) := match seqOf x, seqOf y with
  | some xs, some ys => .ok (zipL xs ys, none) s
  | _, _ => .stk
@[simp] theorem zipR_tup {xs ys s} : zipR (.tup xs) (.tup ys) s = .ok (zipL xs ys, none) s := Eq.trans rfl rfl
@[simp] theorem zipR_lst {xs ys s} : zipR (.lst xs) (.lst ys) s = .ok (zipL xs ys, none) s := Eq.trans rfl rfl
@[simp] theorem zipR_tl {xs ys s} : zipR (.tup xs) (.lst ys) s = .ok (zipL xs ys, none) s := Eq.trans rfl rfl
@[simp] theorem zipR_lt {xs ys s} : zipR (.lst xs) (.tup ys) s = .ok (zipL xs ys, none) s := Eq.trans rfl rfl
noncomputable def kZip (b : ME) (x : Val) (s1 : Store) : R (List Val × Option (Nat × List Val)) := (ev G call b e s1).bind (zipR x)
@[simp] theorem kZip_app {b x s1} : kZip G call e b x s1 = (ev G call b e s1).bind (zipR x) := Eq.trans rfl rfl
@[simp] theorem evI_zip {a b} : evI G call (.zip a b) e s = (ev G call a e s).bind (kZip G call e b) := by
  rw [evI]; congr 1
def enmR : Val → Store → R (List Val × Option (Nat × List Val))
  | .lst xs, s => .ok (enumL 0 xs, none) s
  | .tup xs, s => .ok (enumL 0 xs, none) s
  | .ref n, s => enmC s[n]? n s
  | _, _ => .stk
@[simp] theorem enmR_ref {n s} : enmR (.ref n) s = enmC s[n]? n s := Eq.trans rfl rfl
@[simp] theorem enmC_lst {xs n s} : enmC (some (.lst xs)) n s = .ok (enumL 0 xs, some (n, xs)) s := Eq.trans rfl rfl
@[simp] theorem enmR_lst {xs s} : enmR (.lst xs) s = .ok (enumL 0 xs, none) s := Eq.trans rfl rfl
@[simp] theorem enmR_tup {xs s} : enmR (.tup xs) s = .ok (enumL 0 xs, none) s := Eq.trans rfl rfl
@[simp] theorem evI_enm {a} : evI G call (.enm a) e s = (ev G call a e s).bind enmR := by
  rw [evI]; congr 1; funext x s1; cases x <;> rfl
def revR : Val → Store → R (List Val × Option (Nat × List Val))
  | .lst xs, s => .ok (xs.reverse, none) s
  | _, _ => .stk
@[simp] theorem revR_lst {xs s} : revR (.lst xs) s = .ok (xs.reverse, none) s := Eq.trans rfl rfl
@[simp] theorem evI_rev {a} : evI G call (.rev a) e s = (ev G call a e s).bind revR := by
  rw [evI]; congr 1; funext x s1; cases x <;> rfl
/-! statements -/
def asgO (o : Option Env) (s : Store) : O := match o with
  | some e1 => .nx e1 s
  | none => .stk
@[simp] theorem asgO_some {e1 s} : asgO (some e1) s = .nx e1 s := Eq.trans rfl rfl
@[simp] theorem asgO_none {s} : asgO none s = .stk := Eq.trans rfl rfl
noncomputable def kSet (i : Nat) (v : Val) (s1 : Store) : O := .nx (e.set i (some v)) s1
@[simp] theorem kSet_app {i v s1} : kSet e i v s1 = .nx (e.set i (some v)) s1 := Eq.trans rfl rfl
@[simp] theorem sv_set {i x} : sv G call (.set i x) e s = (ev G call x e s).thenO e (kSet e i) := by rw [sv]; rfl
noncomputable def kSetT (is : List Nat) (v : Val) (s1 : Store) : O := asgO (asg (.tp is) v e) s1
@[simp] theorem kSetT_app {is v s1} : kSetT e is v s1 = asgO (asg (.tp is) v e) s1 := Eq.trans rfl rfl
@[simp] theorem sv_setT {is x} : sv G call (.setT is x) e s = (ev G call x e s).thenO e (kSetT e is) := by rw [sv]; rfl
noncomputable def kSetI3 (v ov : Val) (iv : Val) (s3 : Store) : O := nxO (setIV ov iv v s3) e
@[simp] theorem kSetI3_app {v ov iv s3} : kSetI3 e v ov iv s3 = nxO (setIV ov iv v s3) e := Eq.trans rfl rfl
noncomputable def kSetI2 (i : ME) (v : Val) (ov : Val) (s2 : Store) : O := (ev G call i e s2).thenO e (kSetI3 e v ov)
@[simp] theorem kSetI2_app {i v ov s2} : kSetI2 G call e i v ov s2 = (ev G call i e s2).thenO e (kSetI3 e v ov) := Eq.trans rfl rfl
noncomputable def kSetI (o i : ME) (v : Val) (s1 : Store) : O := (ev G call o e s1).thenO e (kSetI2 G call e i v)
@[simp] theorem kSetI_app {o i v s1} : kSetI G call e o i v s1 = (ev G call o e s1).thenO e (kSetI2 G call e i v) := Eq.trans rfl rfl
@[simp] theorem sv_setI {o i x} : sv G call (.setI o i x) e s = (ev G call x e s).thenO e (kSetI G call e o i) := by rw [sv]; rfl
noncomputable def kSetA2 (f : Nat) (v : Val) (ov : Val) (s2 : Store) : O := nxO (setAV G ov f v s2) e
@[simp] theorem kSetA2_app {f v ov s2} : kSetA2 G e f v ov s2 = nxO (setAV G ov f v s2) e := Eq.trans rfl rfl
noncomputable def kSetA (o : ME) (f : Nat) (v : Val) (s1 : Store) : O := (ev G call o e s1).thenO e (kSetA2 G e f v)
@[simp] theorem kSetA_app {o f v s1} : kSetA G call e o f v s1 = (ev G call o e s1).thenO e (kSetA2 G e f v) := Eq.trans rfl rfl
@[simp] theorem sv_setA {o f x} : sv G call (.setA o f x) e s = (ev G call x e s).thenO e (kSetA G call e o f) := by rw [sv]; rfl
/-- goes on with a store -/
def stO (o : Option Store) (k : Store → O) : O := match o with
  | some s => k s
  | none => .stk
@[simp] theorem stO_some {s k} : stO (some s) k = k s := Eq.trans rfl rfl
@[simp] theorem stO_none {k} : stO none k = .stk := Eq.trans rfl rfl
noncomputable def kSw5 (o2 i2 : ME) (w : Val) (s5 : Store) : O := (ev G call o2 e s5).thenO e (kSetI2 G call e i2 w)
@[simp] theorem kSw5_app {o2 i2 w s5} : kSw5 G call e o2 i2 w s5 = (ev G call o2 e s5).thenO e (kSetI2 G call e i2 w) := Eq.trans rfl rfl
noncomputable def kSw4 (o2 i2 : ME) (v w ov : Val) (iv : Val) (s4 : Store) : O := stO (setIV ov iv v s4) (kSw5 G call e o2 i2 w)
@[simp] theorem kSw4_app {o2 i2 v w ov iv s4} : kSw4 G call e o2 i2 v w ov iv s4 = stO (setIV ov iv v s4) (kSw5 G call e o2 i2 w) := Eq.trans rfl rfl
noncomputable def kSw3 (i1 o2 i2 : ME) (v w : Val) (ov : Val) (s3 : Store) : O := (ev G call i1 e s3).thenO e (kSw4 G call e o2 i2 v w ov)
@[simp] theorem kSw3_app {i1 o2 i2 v w ov s3} : kSw3 G call e i1 o2 i2 v w ov s3 = (ev G call i1 e s3).thenO e (kSw4 G call e o2 i2 v w ov) := Eq.trans rfl rfl
noncomputable def kSw2 (o1 i1 o2 i2 : ME) (v : Val) (w : Val) (s2 : Store) : O := (ev G call o1 e s2).thenO e (kSw3 G call e i1 o2 i2 v w)
@[simp] theorem kSw2_app {o1 i1 o2 i2 v w s2} : kSw2 G call e o1 i1 o2 i2 v w s2 = (ev G call o1 e s2).thenO e (kSw3 G call e i1 o2 i2 v w) := Eq.trans rfl rfl
noncomputable def kSw (o1 i1 o2 i2 b : ME) (v : Val) (s1 : Store) : O := (ev G call b e s1).thenO e (kSw2 G call e o1 i1 o2 i2 v)
@[simp] theorem kSw_app {o1 i1 o2 i2 b v s1} : kSw G call e o1 i1 o2 i2 b v s1 = (ev G call b e s1).thenO e (kSw2 G call e o1 i1 o2 i2 v) := Eq.trans rfl rfl
@[simp] theorem sv_swp {o1 i1 o2 i2 a b} : sv G call (.swp o1 i1 o2 i2 a b) e s = (ev G call a e s).thenO e (kSw G call e o1 i1 o2 i2 b) := by
  rw [sv]; rfl
@[simp] theorem nxO_some {s e} : nxO (some s) e = .nx e s := Eq.trans rfl rfl
@[simp] theorem nxO_none {e} : nxO none e = .stk := Eq.trans rfl rfl
@[simp] theorem nxO_ite {p : Prop} [Decidable p] {x y e} : nxO (if p then x else y) e = if p then nxO x e else nxO y e := by split <;> rfl
def augO (o : Option (Option Val)) (k : Val → O) : O := match o with
  | some (some v) => if isExv v then .stk else k v
  | _ => .stk
@[simp] theorem augO_some {v k} : augO (some (some v)) k = if isExv v = true then .stk else k v := Eq.trans rfl rfl
def putE (o : Option Val) (e : Env) (i : Nat) (s : Store) : O := match o with
  | some z => .nx (e.set i (some z)) s
  | none => .stk
@[simp] theorem putE_some {z e i s} : putE (some z) e i s = .nx (e.set i (some z)) s := Eq.trans rfl rfl
noncomputable def kAug2 (i : Nat) (o : Operator) (v : Val) (w : Val) (s1 : Store) : O := putE (augV o v w) e i s1
@[simp] theorem kAug2_app {i o v w s1} : kAug2 e i o v w s1 = putE (augV o v w) e i s1 := Eq.trans rfl rfl
noncomputable def kAug (i : Nat) (o : Operator) (x : ME) (v : Val) : O := (ev G call x e s).thenO e (kAug2 e i o v)
@[simp] theorem kAug_app {i o x v} : kAug G call e s i o x v = (ev G call x e s).thenO e (kAug2 e i o v) := Eq.trans rfl rfl
@[simp] theorem sv_aug {i o x} : sv G call (.aug i o x) e s = augO e[i]? (kAug G call e s i o x) := by
  rw [sv]; unfold augO; rcases e[i]? with _ | _ | v <;> rfl
noncomputable def kExp (_v : Val) (s1 : Store) : O := .nx e s1
@[simp] theorem kExp_app {v s1} : kExp e v s1 = .nx e s1 := Eq.trans rfl rfl
@[simp] theorem sv_expr {x} : sv G call (.expr x) e s = (ev G call x e s).thenO e (kExp e) := by rw [sv]; rfl
@[simp] theorem sv_ret {x} : sv G call (.ret x) e s = (ev G call x e s).thenO e .rt := by rw [sv]
@[simp] theorem sv_retN : sv G call .retN e s = .rt .non s := by rw [sv]
noncomputable def kCnd2 (a b : MSs) (k : Bool) (s2 : Store) : O := condO k (svs G call a) (svs G call b) e s2
@[simp] theorem kCnd2_app {a b k s2} : kCnd2 G call e a b k s2 = condO k (svs G call a) (svs G call b) e s2 := Eq.trans rfl rfl
noncomputable def kCnd (a b : MSs) (x : Val) (s1 : Store) : O := (R.ofO (truth s1 x) s1).thenO e (kCnd2 G call e a b)
@[simp] theorem kCnd_app {a b x s1} : kCnd G call e a b x s1 = (R.ofO (truth s1 x) s1).thenO e (kCnd2 G call e a b) := Eq.trans rfl rfl
@[simp] theorem sv_cond {c a b} : sv G call (.cond c a b) e s = (ev G call c e s).thenO e (kCnd G call e a b) := by
  rw [sv]; unfold evT; cases ev G call c e s <;> rfl
/-- a turn of a loop -/
noncomputable def turnA (b : MSs) (s2 : Store) (o : Option Env) : O := match o with
  | some e2 => svs G call b e2 s2
  | none => .stk
@[simp] theorem turnA_some {b s2 e2} : turnA G call b s2 (some e2) = svs G call b e2 s2 := Eq.trans rfl rfl
noncomputable def turnF (tg : TG) (b : MSs) (x : Val) (e1 : Env) (s2 : Store) : O := turnA G call b s2 (asg tg x e1)
@[simp] theorem turnF_app {tg b x e1 s2} : turnF G call tg b x e1 s2 = turnA G call b s2 (asg tg x e1) := Eq.trans rfl rfl
noncomputable def kFor (tg : TG) (b : MSs) (p : List Val × Option (Nat × List Val)) (s1 : Store) : O := forL (turnF G call tg b) p.2 p.1 e s1
@[simp] theorem kFor_app {tg b p s1} : kFor G call e tg b p s1 = forL (turnF G call tg b) p.2 p.1 e s1 := Eq.trans rfl rfl
@[simp] theorem sv_for {tg it b} : sv G call (.for_ tg it b) e s = (evI G call it e s).thenO e (kFor G call e tg b) := by rw [sv]; rfl
@[simp] theorem asg_nm {i v e} : asg (.nm i) v e = some (e.set i (some v)) := Eq.trans rfl rfl
@[simp] theorem sv_whl {c b} : sv G call (.whl c b) e s = whlL (evT G call c) (svs G call b) G.fuel e s := by rw [sv]
@[simp] theorem sv_brk : sv G call .brk e s = .bk e s := by rw [sv]
@[simp] theorem sv_cnt : sv G call .cnt e s = .ct e s := by rw [sv]
@[simp] theorem sv_pas : sv G call .pas e s = .nx e s := by rw [sv]
def raiO (o : Option ClsT) (c : Nat) (xs : List Val) (e : Env) (s : Store) : O := match o with
  | some C => match C.exc with
    | some ks => if ks.length = xs.length ∧ xs.length ≤ 1000 then .ex c ks.reverse xs.reverse e s else .stk
    | none => .stk
  | none => .stk
@[simp] theorem raiO_some {C c xs e s} : raiO (some C) c xs e s = match C.exc with
    | some ks => if ks.length = xs.length ∧ xs.length ≤ 1000 then .ex c ks.reverse xs.reverse e s else .stk
    | none => .stk := Eq.trans rfl rfl
def kRai (c : Nat) (xs : List Val) (s1 : Store) : O := raiO G.cls[c]? c xs e s1
@[simp] theorem kRai_app {c xs s1} : kRai G e c xs s1 = raiO G.cls[c]? c xs e s1 := Eq.trans rfl rfl
@[simp] theorem sv_rais {c es} : sv G call (.rais c es) e s = (evs G call es e s).thenO e (kRai G e c) := by rw [sv]; rfl
@[simp] theorem sv_trys {b hs} : sv G call (.trys b hs) e s = (svs G call b e s).cth (svh G call hs) := by rw [sv]; rfl
@[simp] theorem svs_nil : svs G call .nil e s = .nx e s := by rw [svs]
@[simp] theorem svs_cons {a r} : svs G call (.cons a r) e s = (sv G call a e s).seq (svs G call r) := by rw [svs]; rfl
/-- a handler's body -/
def hotO (i : Option Nat) (o : O) : O := match i with
  | none => (match o with
    | .ex _ _ _ _ _ => .stk
    | o => o)
  | some i => match o with
    | .nx e1 s1 => .nx (e1.set i none) s1
    | .bk e1 s1 => .bk (e1.set i none) s1
    | .ct e1 s1 => .ct (e1.set i none) s1
    | .ex _ _ _ _ _ => .stk
    | o => o
def hotE (i : Option Nat) (e : Env) (v : Val) : Env := match i with
  | none => e
  | some i => e.set i (some v)
@[simp] theorem hotE_some {i e v} : hotE (some i) e v = e.set i (some v) := Eq.trans rfl rfl
@[simp] theorem hotE_none {e v} : hotE none e v = e := Eq.trans rfl rfl
@[simp] theorem hotO_rt {i v s} : hotO i (.rt v s) = .rt v s := by cases i <;> rfl
@[simp] theorem hotO_nx {i e s} : hotO (some i) (.nx e s) = .nx (e.set i none) s := Eq.trans rfl rfl
@[simp] theorem hotO_nx0 {e s} : hotO none (.nx e s) = .nx e s := Eq.trans rfl rfl
@[simp] theorem hotO_bk {i e s} : hotO (some i) (.bk e s) = .bk (e.set i none) s := Eq.trans rfl rfl
@[simp] theorem hotO_bk0 {e s} : hotO none (.bk e s) = .bk e s := Eq.trans rfl rfl
@[simp] theorem hotO_ct {i e s} : hotO (some i) (.ct e s) = .ct (e.set i none) s := Eq.trans rfl rfl
@[simp] theorem hotO_ct0 {e s} : hotO none (.ct e s) = .ct e s := Eq.trans rfl rfl
@[simp] theorem hotO_ite {i} {p : Prop} [Decidable p] {x y} : hotO i (if p then x else y) = if p then hotO i x else hotO i y := by split <;> rfl
@[simp] theorem svh_nil {c ks xs} : svh G call .nil c ks xs e s = .ex c ks xs e s := by rw [svh]
@[simp] theorem svh_cons {d i b r c ks xs} : svh G call (.cons d i b r) c ks xs e s = if isExc G c = true then (if subC G c d = true then hotO i (svs G call b (hotE i e (.exv c ks xs)) s) else svh G call r c ks xs e s) else .stk := by
  rw [svh.eq_def]; unfold hotO hotE; cases i <;> rfl
end
/-! ### a function's end -/
noncomputable def fin (keep : Bool) (s : Store) (o : O) : R Val := match o with
  | .nx _ s1 => shut keep s .non s1
  | .rt v s1 => shut keep s v s1
  | .ex c ks ys _ s1 => shutE s c ks ys s1
  | _ => .stk
section
variable {kp : Bool} {s s1 : Store} {v : Val} {e : Env} {c : Nat} {ks : List Nat} {ys : List Val} {x y : O}
@[simp] theorem fin_nx : fin kp s (.nx e s1) = shut kp s .non s1 := Eq.trans rfl rfl
@[simp] theorem fin_rt : fin kp s (.rt v s1) = shut kp s v s1 := Eq.trans rfl rfl
@[simp] theorem fin_ex : fin kp s (.ex c ks ys e s1) = shutE s c ks ys s1 := Eq.trans rfl rfl
@[simp] theorem fin_stk : fin kp s .stk = .stk := Eq.trans rfl rfl
@[simp] theorem fin_ite {p : Prop} [Decidable p] : fin kp s (if p then x else y) = if p then fin kp s x else fin kp s y := by split <;> rfl
end
theorem run_fn {G : Prog} {n f : Nat} {F : FnT} {xs : List Val} {s : Store} (h : G.fns[f]? = some F) (h1 : xs.length = F.ar) (h2 : F.ar ≤ F.names.length) (h3 : F.dfl = [] := by rfl) :
    run G (n + 1) f xs s = fin F.keep s (svs G (run G n) F.body (xs.map some ++ List.replicate (F.names.length - F.ar) none) s) := by
  rw [Ev.run, h]
  simp only [show fullA F xs = some xs by unfold fullA; rw [h3], h1, h2, and_self, if_true]
  rfl
/-- a call by keyword of a def with a default -/
theorem run_fnK {G : Prog} {n f : Nat} {F : FnT} {xs : List Val} {s : Store} (h : G.fns[f]? = some F) (h1 : xs.length = F.ar) (h2 : F.ar ≤ F.names.length) :
    run G (n + 1) f (xs ++ mkA F) s = fin F.keep s (svs G (run G n) F.body (xs.map some ++ List.replicate (F.names.length - F.ar) none) s) := by
  rw [Ev.run, h]
  simp only [full_mk, h1, h2, and_self, if_true]
  rfl
/-- a call that leaves the default -/
theorem run_fnD {G : Prog} {n f : Nat} {F : FnT} {xs : List Val} {s : Store} (h : G.fns[f]? = some F) (hx : fullA F xs = some (xs ++ F.dfl.map Val.int)) (h1 : (xs ++ F.dfl.map Val.int).length = F.ar) (h2 : F.ar ≤ F.names.length) :
    run G (n + 1) f xs s = fin F.keep s (svs G (run G n) F.body ((xs ++ F.dfl.map Val.int).map some ++ List.replicate (F.names.length - F.ar) none) s) := by
  rw [Ev.run, h]
  simp only [hx, h1, h2, and_self, if_true]
  rfl
/-- it gives a value, so that P -/
def Oks {α : Type} (r : R α) (P : α → Store → Prop) : Prop := ∃ v s, r = .ok v s ∧ P v s
@[simp] theorem oks_ok {α : Type} {v : α} {s : Store} {P : α → Store → Prop} : Oks (.ok v s) P = P v s := by
  refine propext ⟨fun ⟨_, _, h, p⟩ => ?_, fun p => ⟨_, _, rfl, p⟩⟩
  cases h; exact p
theorem Oks.imp {α : Type} {r : R α} {P P' : α → Store → Prop} (h : Oks r P) (i : ∀ v s, P v s → P' v s) : Oks r P' := let ⟨v, s, e, p⟩ := h; ⟨v, s, e, i v s p⟩
def Res (kp : Bool) (s0 : Store) (P : Val → Store → Prop) (o : O) : Prop := Oks (fin kp s0 o) P
@[simp] theorem res_rt {kp : Bool} {s0 : Store} {P : Val → Store → Prop} {v : Val} {s : Store} : Res kp s0 P (.rt v s) = Oks (shut kp s0 v s) P := Eq.trans rfl rfl
@[simp] theorem res_nx {kp : Bool} {s0 : Store} {P : Val → Store → Prop} {e : Env} {s : Store} : Res kp s0 P (.nx e s) = Oks (shut kp s0 .non s) P := Eq.trans rfl rfl
theorem run_oks {G : Prog} {n f : Nat} {F : FnT} {xs : List Val} {s : Store} {P : Val → Store → Prop} (h : G.fns[f]? = some F) (h1 : xs.length = F.ar) (h2 : F.ar ≤ F.names.length)
    (w : Res F.keep s P (svs G (run G n) F.body (xs.map some ++ List.replicate (F.names.length - F.ar) none) s)) (h3 : F.dfl = [] := by rfl) : Oks (run G (n + 1) f xs s) P := by
  rw [run_fn h h1 h2 h3]; exact w
def Nx (P : Env → Store → Prop) (o : O) : Prop := ∃ e s, o = .nx e s ∧ P e s
@[simp] theorem nx_nx {P : Env → Store → Prop} {e : Env} {s : Store} : Nx P (.nx e s) = P e s := by
  refine propext ⟨fun ⟨_, _, h, p⟩ => ?_, fun p => ⟨_, _, rfl, p⟩⟩
  cases h; exact p
/-- a name for what holds, that simp does not open -/
theorem named {α : Sort _} (a : α) : ∃ b, b = a := ⟨a, rfl⟩
/-- what holds behind a statement -/
theorem seq_cut {Q : O → Prop} {o : O} {k : Env → Store → O} (P : Env → Store → Prop) (h : Nx P o) (hk : ∀ e s, P e s → Q (k e s)) : Q (o.seq k) := by
  obtain ⟨e, s, rfl, p⟩ := h
  exact hk e s p
theorem cond_seq {Q : O → Prop} {b : Bool} {x y : Env → Store → O} {e : Env} {s : Store} {k : Env → Store → O} (h1 : b = true → Q ((x e s).seq k)) (h2 : b = false → Q ((y e s).seq k)) : Q ((condO b x y e s).seq k) := by
  cases b
  · exact h2 rfl
  · exact h1 rfl
theorem cond_one {Q : O → Prop} {b : Bool} {x y : Env → Store → O} {e : Env} {s : Store} (h1 : b = true → Q (x e s)) (h2 : b = false → Q (y e s)) : Q (condO b x y e s) := by
  cases b
  · exact h2 rfl
  · exact h1 rfl
/-! ### stores -/
theorem frz_bel {s : Store} {k d : Nat} {v : Val} (h : v.bel k = true) : frz s k d v = some v := by
  cases d <;> simp [frz, h]
theorem cutOk_refl (s : Store) : cutOk s s := ⟨Nat.le_refl _, fun _ _ _ h => .inl h⟩
theorem cutOk_app (s l : Store) : cutOk s (s ++ l) := ⟨by simp, fun i c h g => .inl (by rwa [List.getElem?_append_left h] at g)⟩
theorem cutOk_st {c c' : Cell} {tl l : Store} (h : c'.bel (tl.length + 1) = true) : cutOk (c :: tl) (c' :: (tl ++ l)) := by
  refine ⟨by simp, fun i d hi g => ?_⟩
  cases i with
  | zero => simp at g; subst g; exact .inr h
  | succ j =>
    simp at hi g
    rw [List.getElem?_append_left hi] at g
    exact .inl (by simpa using g)
theorem shut_same {s : Store} {v : Val} (h : v.bel s.length = true) : shut false s v s = .ok v s := by
  unfold shut
  simp [cutOk_refl, frz_bel h]
theorem shut_app {s l : Store} {v : Val} : shut false s v (s ++ l) = R.ofO (frz (s ++ l) s.length 4 v) s := by
  unfold shut
  simp [cutOk_app]
theorem shut_st {c c' : Cell} {tl l : Store} {v : Val} (h : c'.bel (tl.length + 1) = true) : shut false (c :: tl) v (c' :: (tl ++ l)) = R.ofO (frz (c' :: (tl ++ l)) (tl.length + 1) 4 v) (c' :: tl) := by
  unfold shut
  simp [cutOk_st h]
theorem shutE_same {s : Store} {c : Nat} {ks : List Nat} {xs : List Val} (h : belL s.length xs = true) : shutE s c ks xs s = .ex c ks xs s := by
  unfold shutE
  simp [cutOk_refl, h]
theorem shutE_app {s l : Store} {c : Nat} {ks : List Nat} {xs : List Val} (h : belL s.length xs = true) : shutE s c ks xs (s ++ l) = .ex c ks xs s := by
  unfold shutE
  simp [cutOk_app, h]
mutual
theorem dat_bel : ∀ {v : Val} (k : Nat), v.dat = true → v.bel k = true
  | .non, _, _ => rfl
  | .bl _, _, _ => rfl
  | .int _, _, _ => rfl
  | .str _, _, _ => rfl
  | .tup xs, k, h => by rw [Val.bel]; rw [Val.dat] at h; exact datL_bel k h
  | .lst xs, k, h => by rw [Val.bel]; rw [Val.dat] at h; exact datL_bel k h
  | .scr _, _, h => by simp [Val.dat] at h
  | .obj _ _ _, _, h => by simp [Val.dat] at h
  | .ref _, _, h => by simp [Val.dat] at h
  | .fn _, _, h => by simp [Val.dat] at h
  | .exv _ _ _, _, h => by simp [Val.dat] at h
theorem datL_bel : ∀ {xs : List Val} (k : Nat), datL xs = true → belL k xs = true
  | [], _, _ => rfl
  | x :: xs, k, h => by
    rw [datL, Bool.and_eq_true] at h
    rw [belL, dat_bel k h.1, datL_bel k h.2]; rfl
end
@[simp] theorem getApp0 {α : Type} {s l : List α} : (s ++ l)[s.length]? = l[0]? := by
  rw [List.getElem?_append_right (Nat.le_refl _), Nat.sub_self]
@[simp] theorem getAppK {α : Type} {s l : List α} {k : Nat} : (s ++ l)[s.length + k]? = l[k]? := by
  rw [List.getElem?_append_right (by omega), Nat.add_sub_cancel_left]
@[simp] theorem setApp0 {α : Type} {s l : List α} {x : α} : (s ++ l).set s.length x = s ++ l.set 0 x := by
  rw [List.set_append_right _ _ (Nat.le_refl _), Nat.sub_self]
@[simp] theorem setAppK {α : Type} {s l : List α} {k : Nat} {x : α} : (s ++ l).set (s.length + k) x = s ++ l.set k x := by
  rw [List.set_append_right _ _ (by omega), Nat.add_sub_cancel_left]
/-! ### loops -/
@[simp] theorem stands_none {s : Store} : stands s none = True := Eq.trans rfl rfl
section
variable {f : Val → Env → Store → O} {e : Env} {s : Store} {x : Val} {r xs : List Val}
@[simp] theorem forL_nil : forL f none [] e s = .nx e s := by simp [forL]
/-- behind a turn -/
def _root_.Ev.O.nxt (o : O) (k : Env → Store → O) : O := match o with
  | .nx e s => k e s
  | .ct e s => k e s
  | .bk e s => .nx e s
  | o => o
@[simp] theorem nxt_nx {k} : (O.nx e s).nxt k = k e s := Eq.trans rfl rfl
@[simp] theorem nxt_ct {k} : (O.ct e s).nxt k = k e s := Eq.trans rfl rfl
@[simp] theorem nxt_bk {k} : (O.bk e s).nxt k = .nx e s := Eq.trans rfl rfl
@[simp] theorem nxt_rt {k v} : (O.rt v s).nxt k = .rt v s := Eq.trans rfl rfl
@[simp] theorem nxt_ex {k c ks xs} : (O.ex c ks xs e s).nxt k = .ex c ks xs e s := Eq.trans rfl rfl
@[simp] theorem nxt_stk {k} : (O.stk).nxt k = .stk := Eq.trans rfl rfl
@[simp] theorem nxt_ite {p : Prop} [Decidable p] {a b : O} {k} : (if p then a else b).nxt k = if p then a.nxt k else b.nxt k := by split <;> rfl
theorem forL_cons : forL f none (x :: r) e s = (f x e s).nxt (forL f none r) := by
  rw [forL]
  simp only [stands_none, ↓reduceIte]
  rfl
/-- a turn's outcome: it goes on within I, or ends the loop within Q -/
@[irreducible] def Turn (I : Env → Store → Prop) (Q : O → Prop) (o : O) : Prop := match o with
  | .nx e s => I e s
  | .ct e s => I e s
  | .bk e s => Q (.nx e s)
  | o => Q o
@[simp] theorem turn_nx {I Q e s} : Turn I Q (.nx e s) = I e s := by unfold Turn; rfl
@[simp] theorem turn_ct {I Q e s} : Turn I Q (.ct e s) = I e s := by unfold Turn; rfl
@[simp] theorem turn_bk {I Q e s} : Turn I Q (.bk e s) = Q (.nx e s) := by unfold Turn; rfl
@[simp] theorem turn_rt {I Q v s} : Turn I Q (.rt v s) = Q (.rt v s) := by unfold Turn; rfl
@[simp] theorem turn_ex {I Q c ks xs e s} : Turn I Q (.ex c ks xs e s) = Q (.ex c ks xs e s) := by unfold Turn; rfl
theorem for_ind {Q : O → Prop} (I : List Val → Env → Store → Prop) (hn : ∀ e s, I [] e s → Q (.nx e s)) (hc : ∀ x r e s, I (x :: r) e s → Turn (I r) Q (f x e s)) : ∀ xs e s, I xs e s → Q (forL f none xs e s)
  | [], e, s, h => by rw [forL_nil]; exact hn e s h
  | x :: r, e, s, h => by
    rw [forL_cons]
    have t := hc x r e s h
    revert t
    cases f x e s <;> simp only [Turn, O.nxt] <;> intro t
    · exact for_ind I hn hc r _ _ t
    · exact t
    · exact t
    · exact for_ind I hn hc r _ _ t
    · exact t
    · exact t
theorem rngL_zero {i : Int} : rngL i 0 = [] := rfl
theorem rngL_succ {i : Int} {n : Nat} : rngL i (n + 1) = .int i :: rngL (i + 1) n := by
  unfold rngL
  rw [List.range_succ_eq_map, List.map_cons, List.map_map]
  simp only [Int.natCast_zero, Int.add_zero, List.cons.injEq, true_and]
  refine List.map_congr_left fun k _ => ?_
  simp only [Function.comp, Val.int.injEq]
  omega
theorem rng_ind {Q : O → Prop} {n : Nat} {i : Int} (I : Nat → Env → Store → Prop) (hn : ∀ e s, I n e s → Q (.nx e s)) (hc : ∀ k e s, k < n → I k e s → Turn (I (k + 1)) Q (f (.int (i + (k : Nat))) e s)) {e s} (h0 : I 0 e s) : Q (forL f none (rngL i n) e s) := by
  have g : ∀ m k e s, k + m = n → I k e s → Q (forL f none (rngL (i + (k : Nat)) m) e s) := by
    intro m
    induction m with
    | zero => intro k e s hk h; rw [rngL_zero, forL_nil]; exact hn e s (by rw [show k = n by omega] at h; exact h)
    | succ m ih =>
      intro k e s hk h
      rw [rngL_succ, forL_cons]
      have t := hc k e s (by omega) h
      revert t
      have e1 : i + (k : Nat) + 1 = i + ((k + 1 : Nat) : Int) := by omega
      rw [e1]
      cases f (.int (i + (k : Nat))) e s <;> simp only [Turn, O.nxt] <;> intro t
      · exact ih _ _ _ (by omega) t
      · exact t
      · exact t
      · exact ih _ _ _ (by omega) t
      · exact t
      · exact t
  have := g n 0 e s (by omega) h0
  simpa using this
end
/-- the loop ends as such: what follows -/
theorem for_seq {Q : O → Prop} {f : Val → Env → Store → O} {xs : List Val} {e : Env} {s : Store} {k : Env → Store → O} (I : List Val → Env → Store → Prop) (h0 : I xs e s) (hn : ∀ e s, I [] e s → Q (k e s)) (hc : ∀ x r e s, I (x :: r) e s → Turn (I r) (fun o => Q (o.seq k)) (f x e s)) : Q ((forL f none xs e s).seq k) :=
  for_ind (Q := fun o => Q (o.seq k)) I (fun e s h => hn e s h) hc xs e s h0
theorem rng_seq {Q : O → Prop} {f : Val → Env → Store → O} {n : Nat} {i : Int} {e : Env} {s : Store} {k : Env → Store → O} (I : Nat → Env → Store → Prop) (h0 : I 0 e s) (hn : ∀ e s, I n e s → Q (k e s)) (hc : ∀ j e s, j < n → I j e s → Turn (I (j + 1)) (fun o => Q (o.seq k)) (f (.int (i + (j : Nat))) e s)) : Q ((forL f none (rngL i n) e s).seq k) :=
  rng_ind (Q := fun o => Q (o.seq k)) I (fun e s h => hn e s h) hc h0
theorem for_indL {Q : O → Prop} {f : Val → Env → Store → O} {live : Option (Nat × List Val)} (I : List Val → Env → Store → Prop) (hs : ∀ r e s, I r e s → stands s live) (hn : ∀ e s, I [] e s → Q (.nx e s)) (hc : ∀ x r e s, I (x :: r) e s → Turn (I r) Q (f x e s)) : ∀ xs e s, I xs e s → Q (forL f live xs e s)
  | [], e, s, h => by rw [forL, if_pos (hs _ _ _ h)]; exact hn e s h
  | x :: r, e, s, h => by
    rw [forL, if_pos (hs _ _ _ h)]
    have t := hc x r e s h
    revert t
    cases f x e s <;> simp only [Turn] <;> intro t
    · exact for_indL I hs hn hc r _ _ t
    · exact t
    · exact t
    · exact for_indL I hs hn hc r _ _ t
    · exact t
    · exact t
theorem for_seqL {Q : O → Prop} {f : Val → Env → Store → O} {live : Option (Nat × List Val)} {xs : List Val} {e : Env} {s : Store} {k : Env → Store → O} (I : List Val → Env → Store → Prop) (hs : ∀ r e s, I r e s → stands s live) (h0 : I xs e s) (hn : ∀ e s, I [] e s → Q (k e s)) (hc : ∀ x r e s, I (x :: r) e s → Turn (I r) (fun o => Q (o.seq k)) (f x e s)) : Q ((forL f live xs e s).seq k) :=
  for_indL (Q := fun o => Q (o.seq k)) I hs (fun e s h => hn e s h) hc xs e s h0
theorem eq_of_oks {α : Type} {r : R α} {x : α} {s : Store} (h : Oks r fun v s' => v = x ∧ s' = s) : r = .ok x s := by
  obtain ⟨v, s', e, rfl, rfl⟩ := h; exact e
noncomputable def kT (x : Val) (s1 : Store) : R Bool := R.ofO (truth s1 x) s1
@[simp] theorem kT_app {x : Val} {s1 : Store} : kT x s1 = R.ofO (truth s1 x) s1 := Eq.trans rfl rfl
@[simp] theorem evT_def {G : Prog} {call : Nat → List Val → Store → R Val} {c : ME} {e : Env} {s : Store} : evT G call c e s = (ev G call c e s).bind kT := Eq.trans rfl rfl
theorem whl_seq {Q : O → Prop} {c : Env → Store → R Bool} {f : Env → Store → O} {k : Env → Store → O} (I : Nat → Env → Store → Prop)
    (hc : ∀ m e s, I m e s → Oks (c e s) fun b s1 => (b = false → Q (k e s1)) ∧ (b = true → ∃ m', m = m' + 1 ∧ Turn (I m') (fun o => Q (o.seq k)) (f e s1))) : ∀ {N m : Nat} {e : Env} {s : Store}, m < N → I m e s → Q ((whlL c f N e s).seq k)
  | 0, m, e, s, h, _ => absurd h (by omega)
  | N + 1, m, e, s, h, h0 => by
    rw [whlL]
    obtain ⟨b, s1, e1, p1, p2⟩ := hc m e s h0
    rw [e1]
    cases b with
    | false => exact p1 rfl
    | true =>
      obtain ⟨m', rfl, t⟩ := p2 rfl
      simp only [thenOk, ↓reduceIte]
      revert t
      cases f e s1 <;> simp only [Turn] <;> intro t
      · exact whl_seq I hc (by omega) t
      · exact t
      · exact t
      · exact whl_seq I hc (by omega) t
      · exact t
      · exact t
/-- a comprehension whose items change nothing -/
theorem lcL_pure {f : Val → Store → R (Option Val)} {s : Store} (g : Val → Option Val) : ∀ (xs acc : List Val), (∀ x ∈ xs, f x s = .ok (g x) s) → acc.length + xs.length ≤ szL → lcL f none xs acc s = .ok (acc ++ xs.filterMap g) s
  | [], acc, _, _ => by simp [lcL]
  | x :: r, acc, h, hl => by
    rw [lcL]
    simp only [stands_none, ↓reduceIte]
    rw [h x (by simp), bindk]
    rcases hg : g x with _ | v
    · simp only [List.filterMap_cons, hg]
      exact lcL_pure g r acc (fun y hy => h y (by simp [hy])) (by simp at hl ⊢; omega)
    · simp only [List.filterMap_cons, hg]
      rw [if_pos (by simp at hl; omega), lcL_pure g r (acc ++ [v]) (fun y hy => h y (by simp [hy])) (by simp at hl ⊢; omega)]
      simp
/-- a comprehension whose items may change the store -/
theorem lc_ind {f : Val → Store → R (Option Val)} {Q : R (List Val) → Prop} (I : List Val → List Val → Store → Prop) (hn : ∀ acc s, I [] acc s → Q (.ok acc s))
    (hc : ∀ x r acc s, I (x :: r) acc s → ∃ o s1, f x s = .ok o s1 ∧ acc.length < szL ∧ I r (match o with | some v => acc ++ [v] | none => acc) s1) : ∀ xs acc s, I xs acc s → Q (lcL f none xs acc s)
  | [], acc, s, h => by simp only [lcL, stands_none, ↓reduceIte]; exact hn _ _ h
  | x :: r, acc, s, h => by
    obtain ⟨o, s1, e1, hl, hI⟩ := hc x r acc s h
    rw [lcL]
    simp only [stands_none, ↓reduceIte]
    rw [e1, bindk]
    cases o with
    | none => exact lc_ind I hn hc r acc s1 hI
    | some v =>
      simp only [hl, ↓reduceIte]
      exact lc_ind I hn hc r _ s1 hI
end Ev.P

set_option Elab.async false
set_option linter.all false
set_option maxRecDepth 100000
set_option autoImplicit false
/-! Ev, plain: values. -/
namespace Ev.P
open PySem
section
variable {m : Store} {i j : Int} {p q : Bool} {x y : Str} {xs ys : List Val}
@[simp] theorem binV_add : binV m .Add (.int i) (.int j) = some (.int (i + j)) := Eq.trans rfl rfl
@[simp] theorem binV_sub : binV m .Sub (.int i) (.int j) = some (.int (i - j)) := Eq.trans rfl rfl
theorem binV_mulE : binV m .Mult (.int i) (.int j) = if mulOk i j then some (.int (i * j)) else none := rfl
theorem mulOk_of (h1 : i.natAbs < 2 ^ 900) (h2 : j.natAbs < 2 ^ 900) : mulOk i j = true := by
  unfold mulOk
  have k : ∀ n : Nat, n < 2 ^ 900 → n.log2 < 900 := fun n h => by
    by_cases hn : n = 0
    · subst hn; rw [Nat.log2_zero]; omega
    · exact (Nat.log2_lt hn).mpr h
  have := k _ h1
  have := k _ h2
  rw [Bool.or_eq_true]
  exact .inl (decide_eq_true (by omega))
/-- one factor of at most 64 bits -/
theorem binV_mulR (h2 : j.natAbs < 18446744073709551616) : binV m .Mult (.int i) (.int j) = some (.int (i * j)) := by
  rw [binV_mulE, if_pos (by unfold mulOk; rw [Bool.or_eq_true, Bool.or_eq_true]; exact .inr (.inr (decide_eq_true h2)))]
theorem binV_mulL (h2 : i.natAbs < 18446744073709551616) : binV m .Mult (.int i) (.int j) = some (.int (i * j)) := by
  rw [binV_mulE, if_pos (by unfold mulOk; rw [Bool.or_eq_true, Bool.or_eq_true]; exact .inr (.inl (decide_eq_true h2)))]
theorem binV_mul (h1 : i.natAbs < 2 ^ 900) (h2 : j.natAbs < 2 ^ 900) : binV m .Mult (.int i) (.int j) = some (.int (i * j)) := by
  rw [binV_mulE, if_pos (mulOk_of h1 h2)]
theorem binV_div (h : 0 < j) (h2 : j < 1073741824) : binV m .FloorDiv (.int i) (.int j) = some (.int (i / j)) := by
  show (if j ≠ 0 ∧ j.natAbs < 1073741824 then some (Val.int (i.fdiv j)) else if 0 < j ∧ j.natAbs.log2 < 9000 then some (Val.int (i / j)) else none) = _
  rw [if_pos (by omega), Int.fdiv_eq_ediv_of_nonneg i (by omega : 0 ≤ j)]
theorem binV_divBig (h : 0 < j) (h2 : j.natAbs < 2 ^ 900) : binV m .FloorDiv (.int i) (.int j) = some (.int (i / j)) := by
  show (if j ≠ 0 ∧ j.natAbs < 1073741824 then some (Val.int (i.fdiv j)) else if 0 < j ∧ j.natAbs.log2 < 9000 then some (Val.int (i / j)) else none) = _
  split
  · rw [Int.fdiv_eq_ediv_of_nonneg i (by omega : 0 ≤ j)]
  · rw [if_pos ⟨h, by
      have : j.natAbs.log2 < 900 := (Nat.log2_lt (by omega)).mpr h2
      omega⟩]
theorem binV_mod (h : 0 < j) : binV m .Mod (.int i) (.int j) = some (.int (i % j)) := by
  show (if j ≠ 0 then some (Val.int (i.fmod j)) else none) = _
  rw [if_pos (by omega), Int.fmod_eq_emod_of_nonneg i (by omega : 0 ≤ j)]
theorem binV_powE : binV m .Pow (.int i) (.int j) = if powOk i j then some (.int (i ^ j.toNat)) else none := rfl
@[simp] theorem binV_addT : binV m .Add (.tup xs) (.tup ys) = if xs.length + ys.length ≤ szL then some (.tup (xs ++ ys)) else none := Eq.trans rfl rfl
@[simp] theorem binV_addL : binV m .Add (.lst xs) (.lst ys) = if xs.length + ys.length ≤ szL then some (.lst (xs ++ ys)) else none := Eq.trans rfl rfl
@[simp] theorem truth_bl : truth m (.bl p) = some p := Eq.trans rfl rfl
@[simp] theorem truth_int : truth m (.int i) = some (i != 0) := Eq.trans rfl rfl
@[simp] theorem truth_non : truth m .non = some false := Eq.trans rfl rfl
@[simp] theorem truth_tup : truth m (.tup xs) = some (!xs.isEmpty) := Eq.trans rfl rfl
@[simp] theorem truth_lst : truth m (.lst xs) = some (!xs.isEmpty) := Eq.trans rfl rfl
@[simp] theorem cmp_lt : cmpV m .Lt (.int i) (.int j) = some (decide (i < j)) := Eq.trans rfl rfl
@[simp] theorem cmp_le : cmpV m .LtE (.int i) (.int j) = some (decide (i ≤ j)) := Eq.trans rfl rfl
@[simp] theorem cmp_gt : cmpV m .Gt (.int i) (.int j) = some (decide (j < i)) := Eq.trans rfl rfl
@[simp] theorem cmp_ge : cmpV m .GtE (.int i) (.int j) = some (decide (j ≤ i)) := Eq.trans rfl rfl
@[simp] theorem cmp_eq {a b : Val} : cmpV m .Eq a b = eqv m a b := by cases a <;> rfl
@[simp] theorem cmp_ne {a b : Val} : cmpV m .NotEq a b = (eqv m a b).map (!·) := by cases a <;> rfl
@[simp] theorem cmp_is {a : Val} : cmpV m .Is a .non = some (isNonV a) := by cases a <;> rfl
@[simp] theorem cmp_isn {a : Val} : cmpV m .IsNot a .non = some (!isNonV a) := by cases a <;> rfl
@[simp] theorem cmp_in {a b : Val} : cmpV m .In a b = inV m a b := by cases a <;> rfl
@[simp] theorem cmp_nin {a b : Val} : cmpV m .NotIn a b = (inV m a b).map (!·) := by cases a <;> rfl
@[simp] theorem asS_tup : asS m (.tup xs) = some xs := Eq.trans rfl rfl
@[simp] theorem asS_lst : asS m (.lst xs) = some xs := Eq.trans rfl rfl
@[simp] theorem asS_scr : asS m (.scr xs) = some xs := Eq.trans rfl rfl
@[simp] theorem asS_ref {n : Nat} : asS m (.ref n) = asL m (.ref n) := Eq.trans rfl rfl
@[simp] theorem asL_lst : asL m (.lst xs) = some xs := Eq.trans rfl rfl
@[simp] theorem asL_scr : asL m (.scr xs) = some xs := Eq.trans rfl rfl
@[simp] theorem asM_lst : asM m (.lst xs) = some xs := Eq.trans rfl rfl
end
/-- what a cell that should be a list holds -/
def celL : Option Cell → Option (List Val)
  | some (.lst xs) => some xs
  | _ => none
@[simp] theorem celL_lst {xs : List Val} : celL (some (.lst xs)) = some xs := Eq.trans rfl rfl
@[simp] theorem asL_ref {m : Store} {n : Nat} : asL m (.ref n) = celL m[n]? := by
  show (match m[n]? with | some (.lst xs) => some xs | _ => none) = _
  unfold celL; rfl
@[simp] theorem asM_ref {m : Store} {n : Nat} : asM m (.ref n) = celL m[n]? := by
  show (match m[n]? with | some (.lst xs) => some xs | _ => none) = _
  unfold celL; rfl
/-! isinstance -/
section
variable {G : Prog} {m : Store} {ts : List Ty} {k : Kd} {t : Ty} {r : List Ty} {d : Nat}
def anyK1 (o : Option Bool) (b : Option Bool) : Option Bool := match o with
  | some true => some true
  | some false => b
  | none => none
@[simp] theorem anyK1_t {b} : anyK1 (some true) b = some true := Eq.trans rfl rfl
@[simp] theorem anyK1_f {b} : anyK1 (some false) b = b := Eq.trans rfl rfl
@[simp] theorem anyK_nil : anyK G k [] = some false := Eq.trans rfl rfl
@[simp] theorem anyK_cons : anyK G k (t :: r) = anyK1 (tyK G k t) (anyK G k r) := by rw [anyK]; rfl
@[simp] theorem isi_non : anyTy G m .non ts = anyK G .non ts := Eq.trans rfl rfl
@[simp] theorem isi_bl {b} : anyTy G m (.bl b) ts = anyK G .bl ts := Eq.trans rfl rfl
@[simp] theorem isi_int {i} : anyTy G m (.int i) ts = anyK G .int ts := Eq.trans rfl rfl
@[simp] theorem isi_str {i} : anyTy G m (.str i) ts = anyK G .str ts := Eq.trans rfl rfl
@[simp] theorem isi_tup {i} : anyTy G m (.tup i) ts = anyK G .tup ts := Eq.trans rfl rfl
@[simp] theorem isi_lst {i} : anyTy G m (.lst i) ts = anyK G .lst ts := Eq.trans rfl rfl
@[simp] theorem isi_scr {i} : anyTy G m (.scr i) ts = anyK G .lst ts := Eq.trans rfl rfl
@[simp] theorem isi_obj {c ks xs} : anyTy G m (.obj c ks xs) ts = if isIns G c = true then anyK G (.ins c) ts else none := Eq.trans rfl rfl
@[simp] theorem isi_exv {c ks xs} : anyTy G m (.exv c ks xs) ts = if isExc G c = true then anyK G (.exv c) ts else none := Eq.trans rfl rfl
@[simp] theorem tyK_ins {c} : tyK G (.ins c) (.own d) = some (subC G c d) := Eq.trans rfl rfl
@[simp] theorem tyK_exv {c} : tyK G (.exv c) (.own d) = some (subC G c d) := Eq.trans rfl rfl
@[simp] theorem tyK_vErr {c} : tyK G (.exv c) .vErr = some (isExc G c) := Eq.trans rfl rfl
@[simp] theorem tyK_non_int : tyK G .non .int = some false := Eq.trans rfl rfl
@[simp] theorem tyK_non_bool : tyK G .non .bool = some false := Eq.trans rfl rfl
@[simp] theorem tyK_non_str : tyK G .non .str = some false := Eq.trans rfl rfl
@[simp] theorem tyK_non_tuple : tyK G .non .tuple = some false := Eq.trans rfl rfl
@[simp] theorem tyK_non_list : tyK G .non .list = some false := Eq.trans rfl rfl
@[simp] theorem tyK_non_own : tyK G .non (.own d) = some false := Eq.trans rfl rfl
@[simp] theorem tyK_bl_int : tyK G .bl .int = some true := Eq.trans rfl rfl
@[simp] theorem tyK_bl_bool : tyK G .bl .bool = some true := Eq.trans rfl rfl
@[simp] theorem tyK_bl_str : tyK G .bl .str = some false := Eq.trans rfl rfl
@[simp] theorem tyK_bl_tuple : tyK G .bl .tuple = some false := Eq.trans rfl rfl
@[simp] theorem tyK_bl_list : tyK G .bl .list = some false := Eq.trans rfl rfl
@[simp] theorem tyK_bl_own : tyK G .bl (.own d) = some false := Eq.trans rfl rfl
@[simp] theorem tyK_int_int : tyK G .int .int = some true := Eq.trans rfl rfl
@[simp] theorem tyK_int_bool : tyK G .int .bool = some false := Eq.trans rfl rfl
@[simp] theorem tyK_int_str : tyK G .int .str = some false := Eq.trans rfl rfl
@[simp] theorem tyK_int_tuple : tyK G .int .tuple = some false := Eq.trans rfl rfl
@[simp] theorem tyK_int_list : tyK G .int .list = some false := Eq.trans rfl rfl
@[simp] theorem tyK_int_own : tyK G .int (.own d) = some false := Eq.trans rfl rfl
@[simp] theorem tyK_str_int : tyK G .str .int = some false := Eq.trans rfl rfl
@[simp] theorem tyK_str_bool : tyK G .str .bool = some false := Eq.trans rfl rfl
@[simp] theorem tyK_str_str : tyK G .str .str = some true := Eq.trans rfl rfl
@[simp] theorem tyK_str_tuple : tyK G .str .tuple = some false := Eq.trans rfl rfl
@[simp] theorem tyK_str_list : tyK G .str .list = some false := Eq.trans rfl rfl
@[simp] theorem tyK_str_own : tyK G .str (.own d) = some false := Eq.trans rfl rfl
@[simp] theorem tyK_tup_int : tyK G .tup .int = some false := Eq.trans rfl rfl
@[simp] theorem tyK_tup_bool : tyK G .tup .bool = some false := Eq.trans rfl rfl
@[simp] theorem tyK_tup_str : tyK G .tup .str = some false := Eq.trans rfl rfl
@[simp] theorem tyK_tup_tuple : tyK G .tup .tuple = some true := Eq.trans rfl rfl
@[simp] theorem tyK_tup_list : tyK G .tup .list = some false := Eq.trans rfl rfl
@[simp] theorem tyK_tup_own : tyK G .tup (.own d) = some false := Eq.trans rfl rfl
@[simp] theorem tyK_lst_int : tyK G .lst .int = some false := Eq.trans rfl rfl
@[simp] theorem tyK_lst_bool : tyK G .lst .bool = some false := Eq.trans rfl rfl
@[simp] theorem tyK_lst_str : tyK G .lst .str = some false := Eq.trans rfl rfl
@[simp] theorem tyK_lst_tuple : tyK G .lst .tuple = some false := Eq.trans rfl rfl
@[simp] theorem tyK_lst_list : tyK G .lst .list = some true := Eq.trans rfl rfl
@[simp] theorem tyK_lst_own : tyK G .lst (.own d) = some false := Eq.trans rfl rfl
@[simp] theorem tyK_ins_int {c} : tyK G (.ins c) .int = some false := Eq.trans rfl rfl
@[simp] theorem tyK_ins_bool {c} : tyK G (.ins c) .bool = some false := Eq.trans rfl rfl
@[simp] theorem tyK_ins_str {c} : tyK G (.ins c) .str = some false := Eq.trans rfl rfl
@[simp] theorem tyK_ins_tuple {c} : tyK G (.ins c) .tuple = some false := Eq.trans rfl rfl
@[simp] theorem tyK_ins_list {c} : tyK G (.ins c) .list = some false := Eq.trans rfl rfl
end
/-! plain data -/
mutual
theorem eqv_refl : ∀ v : Val, PyData.eqv v.toD v.toD = true
  | .non => rfl
  | .bl b => by cases b <;> rfl
  | .int i => by simp [Val.toD, PyData.eqv]
  | .str x => by simp [Val.toD, PyData.eqv]
  | .tup xs => by rw [Val.toD, PyData.eqv]; exact eqvL_refl xs
  | .lst xs => by rw [Val.toD, PyData.eqv]; exact eqvL_refl xs
  | .scr _ => rfl
  | .obj _ _ _ => rfl
  | .ref _ => rfl
  | .fn _ => rfl
  | .exv _ _ _ => rfl
theorem eqvL_refl : ∀ xs : List Val, PyData.eqvAll (toDL xs) (toDL xs) = true
  | [] => rfl
  | x :: xs => by rw [toDL, PyData.eqvAll, eqv_refl x, eqvL_refl xs]; rfl
end
@[simp] theorem eqB_refl {v : Val} : eqB v v = true := eqv_refl v
@[simp] theorem eqB_int {i j : Int} : eqB (.int i) (.int j) = decide (i = j) := by
  show PyData.eqv (.int i) (.int j) = _
  rw [PyData.eqv]
  by_cases h : i = j <;> simp [h]
@[simp] theorem eqB_bl {i j : Bool} : eqB (.bl i) (.bl j) = (i == j) := by
  show PyData.eqv (.bool i) (.bool j) = _
  rw [PyData.eqv]
@[simp] theorem eqB_str {i j : Str} : eqB (.str i) (.str j) = (i == j) := by
  show PyData.eqv (.str i) (.str j) = _
  rw [PyData.eqv]
@[simp] theorem eqB_tup {xs ys : List Val} : eqB (.tup xs) (.tup ys) = eqL xs ys := by
  show PyData.eqv (.tuple _) (.tuple _) = _
  rw [PyData.eqv]; rfl
@[simp] theorem eqB_lst {xs ys : List Val} : eqB (.lst xs) (.lst ys) = eqL xs ys := by
  show PyData.eqv (.list _) (.list _) = _
  rw [PyData.eqv]; rfl
@[simp] theorem eqL_nil : eqL [] [] = true := Eq.trans rfl rfl
@[simp] theorem eqL_cons {x y : Val} {xs ys : List Val} : eqL (x :: xs) (y :: ys) = (eqB x y && eqL xs ys) := by
  show PyData.eqvAll (_ :: _) (_ :: _) = _
  rw [PyData.eqvAll]; rfl
@[simp] theorem eqL_nc {y : Val} {ys : List Val} : eqL [] (y :: ys) = false := by
  show PyData.eqvAll [] (_ :: _) = _
  rw [PyData.eqvAll]
@[simp] theorem eqL_cn {y : Val} {ys : List Val} : eqL (y :: ys) [] = false := by
  show PyData.eqvAll (_ :: _) [] = _
  rw [PyData.eqvAll]
theorem eqL_ints {a b : List Int} : eqL (a.map .int) (b.map .int) = decide (a = b) := by
  induction a generalizing b with
  | nil => cases b <;> simp
  | cons x a ih =>
    cases b with
    | nil => simp
    | cons y b => simp [ih]
theorem look_dat {m : Store} {v : Val} (h : v.dat = true) : look m v = some v := by unfold look; rw [if_pos h]
/-- plain and not too deep -/
def pl (v : Val) : Prop := v.dat = true ∧ v.dep ≤ 60
theorem eqv_pl {m : Store} {a b : Val} (ha : pl a) (hb : pl b) : eqv m a b = some (eqB a b) := by
  have e : eqvD m a b = some (eqB a b) := by
    unfold eqvD
    rw [look_dat ha.1, look_dat hb.1]
    simp [ha.2, hb.2]
  unfold eqv
  split
  · rw [eqB_str]
  · exact e
@[simp] theorem eqv_str {m : Store} {x y : Str} : eqv m (.str x) (.str y) = some (x == y) := Eq.trans rfl rfl
@[simp] theorem pl_int {i : Int} : pl (.int i) := ⟨rfl, by simp [Val.dep]⟩
@[simp] theorem pl_bl {i : Bool} : pl (.bl i) := ⟨rfl, by simp [Val.dep]⟩
@[simp] theorem pl_non : pl .non := ⟨rfl, by simp [Val.dep]⟩
theorem datL_all {xs : List Val} : datL xs = true ↔ ∀ x ∈ xs, x.dat = true := by
  induction xs with
  | nil => simp [datL]
  | cons x xs ih => simp [datL, ih]
theorem depL_le {xs : List Val} {n : Nat} : depL xs ≤ n ↔ ∀ x ∈ xs, x.dep ≤ n := by
  induction xs with
  | nil => simp [depL]
  | cons x xs ih => simp [depL, ih, Nat.max_le]
theorem belL_all {xs : List Val} {k : Nat} : belL k xs = true ↔ ∀ x ∈ xs, x.bel k = true := by
  induction xs with
  | nil => simp [belL]
  | cons x xs ih => simp [belL, ih]
@[simp] theorem eqv_int {m : Store} {i j : Int} : eqv m (.int i) (.int j) = some (decide (i = j)) := by rw [eqv_pl pl_int pl_int, eqB_int]
@[simp] theorem eqv_bl {m : Store} {i j : Bool} : eqv m (.bl i) (.bl j) = some (i == j) := by rw [eqv_pl pl_bl pl_bl, eqB_bl]
@[simp] theorem datL_ints {ns : List Int} : datL (ns.map .int) = true := by rw [datL_all]; intro x hx; obtain ⟨i, _, rfl⟩ := List.mem_map.mp hx; rfl
@[simp] theorem depL_ints {ns : List Int} : depL (ns.map .int) = 0 := by
  have : depL (ns.map .int) ≤ 0 := depL_le.mpr fun x hx => by obtain ⟨i, _, rfl⟩ := List.mem_map.mp hx; simp [Val.dep]
  omega
@[simp] theorem belL_ints {ns : List Int} {k : Nat} : belL k (ns.map .int) = true := datL_bel k datL_ints
theorem pl_tup {xs : List Val} (h : datL xs = true) (h2 : depL xs ≤ 59) : pl (.tup xs) := ⟨by rw [Val.dat]; exact h, by rw [Val.dep]; omega⟩
theorem pl_lst {xs : List Val} (h : datL xs = true) (h2 : depL xs ≤ 59) : pl (.lst xs) := ⟨by rw [Val.dat]; exact h, by rw [Val.dep]; omega⟩
@[simp] theorem bel_tupInts {ns : List Int} {k : Nat} : (Val.tup (ns.map .int)).bel k = true := by rw [Val.bel]; exact belL_ints
@[simp] theorem bel_lstInts {ns : List Int} {k : Nat} : (Val.lst (ns.map .int)).bel k = true := by rw [Val.bel]; exact belL_ints
@[simp] theorem bel_int {i : Int} {k : Nat} : (Val.int i).bel k = true := Eq.trans rfl rfl
@[simp] theorem bel_bl {i : Bool} {k : Nat} : (Val.bl i).bel k = true := Eq.trans rfl rfl
@[simp] theorem bel_non {k : Nat} : (Val.non).bel k = true := Eq.trans rfl rfl
@[simp] theorem bel_str {i : Str} {k : Nat} : (Val.str i).bel k = true := Eq.trans rfl rfl
@[simp] theorem bel_tup {xs : List Val} {k : Nat} : (Val.tup xs).bel k = belL k xs := Eq.trans rfl rfl
@[simp] theorem bel_lst {xs : List Val} {k : Nat} : (Val.lst xs).bel k = belL k xs := Eq.trans rfl rfl
@[simp] theorem belL_nil {k : Nat} : belL k [] = true := Eq.trans rfl rfl
@[simp] theorem belL_cons {x : Val} {xs : List Val} {k : Nat} : belL k (x :: xs) = (x.bel k && belL k xs) := Eq.trans rfl rfl
@[simp] theorem dat_int {i : Int} : (Val.int i).dat = true := Eq.trans rfl rfl
@[simp] theorem dat_bl {i : Bool} : (Val.bl i).dat = true := Eq.trans rfl rfl
@[simp] theorem dat_non : (Val.non).dat = true := Eq.trans rfl rfl
@[simp] theorem dat_tup {xs : List Val} : (Val.tup xs).dat = datL xs := Eq.trans rfl rfl
@[simp] theorem dat_lst {xs : List Val} : (Val.lst xs).dat = datL xs := Eq.trans rfl rfl
@[simp] theorem datL_nil : datL [] = true := Eq.trans rfl rfl
@[simp] theorem datL_cons {x : Val} {xs : List Val} : datL (x :: xs) = (x.dat && datL xs) := Eq.trans rfl rfl
@[simp] theorem belL_append {xs ys : List Val} {k : Nat} : belL k (xs ++ ys) = (belL k xs && belL k ys) := by
  induction xs with
  | nil => simp
  | cons x xs ih => simp [ih, Bool.and_assoc]
@[simp] theorem datL_append {xs ys : List Val} : datL (xs ++ ys) = (datL xs && datL ys) := by
  induction xs with
  | nil => simp
  | cons x xs ih => simp [ih, Bool.and_assoc]
theorem szL_eq : szL = 16777216 := rfl
theorem le_szL {n : Nat} (h : n ≤ 16777216) : n ≤ szL := by rw [szL_eq]; exact h
theorem lt_szL {n : Nat} (h : n < 16777216) : n < szL := by rw [szL_eq]; exact h
/-- the return of a list that was made within the call -/
theorem frz_ref {s l : Store} {j d : Nat} {xs : List Val} (h : l[j]? = some (.lst xs)) (hb : belL s.length xs = true) : frz (s ++ l) s.length (d + 1) (.ref (s.length + j)) = some (.lst xs) := by
  rw [frz]
  rw [if_neg (by simp [Val.bel])]
  simp only [getAppK, h]
  have : ∀ ys : List Val, belL s.length ys = true → List.mapM (frz (s ++ l) s.length d) ys = some ys := by
    intro ys
    induction ys with
    | nil => intro _; rfl
    | cons y ys ih =>
      intro hy
      rw [belL, Bool.and_eq_true] at hy
      rw [List.mapM_cons, frz_bel hy.1, ih hy.2]; rfl
  rw [this xs hb]; rfl
theorem frz_ref0 {s l : Store} {d : Nat} {xs : List Val} (h : l[0]? = some (.lst xs)) (hb : belL s.length xs = true) : frz (s ++ l) s.length (d + 1) (.ref s.length) = some (.lst xs) := frz_ref (j := 0) h hb
/-! built-in functions -/
section
variable {s : Store} {mu : Bool} {v : Val} {xs : List Val} {i j : Int}
@[simp] theorem bif_len : bifV .len mu xs s = R.ofO (lenV xs s) s := Eq.trans rfl rfl
@[simp] theorem bif_int : bifV .int mu xs s = R.ofO (intV xs) s := Eq.trans rfl rfl
@[simp] theorem bif_abs : bifV .abs mu xs s = R.ofO (absV xs) s := Eq.trans rfl rfl
@[simp] theorem bif_list : bifV .list mu xs s = putO mu (oneS xs s) s := Eq.trans rfl rfl
@[simp] theorem bif_tuple : bifV .tuple mu xs s = R.ofO (tupV xs s) s := Eq.trans rfl rfl
@[simp] theorem bif_sum : bifV .sum mu xs s = R.ofO (sumV xs s) s := Eq.trans rfl rfl
@[simp] theorem bif_max : bifV .max mu xs s = R.ofO (bigV xs s) s := Eq.trans rfl rfl
@[simp] theorem bif_min : bifV .min mu xs s = R.ofO (lowV xs s) s := Eq.trans rfl rfl
@[simp] theorem bif_all : bifV .all mu xs s = R.ofO (allV xs s) s := Eq.trans rfl rfl
@[simp] theorem bif_any : bifV .any mu xs s = R.ofO (anyV xs s) s := Eq.trans rfl rfl
@[simp] theorem bif_sorted : bifV .sorted mu xs s = putO mu (srtV xs s) s := Eq.trans rfl rfl
@[simp] theorem bif_str : bifV .str mu xs s = R.ofO (strV xs) s := Eq.trans rfl rfl
@[simp] theorem bif_maxd : bifV .maxd mu xs s = R.ofO (mxdV xs s) s := Eq.trans rfl rfl
@[simp] theorem lenV_lst : lenV [.lst xs] s = some (.int xs.length) := Eq.trans rfl rfl
@[simp] theorem lenV_tup : lenV [.tup xs] s = some (.int xs.length) := Eq.trans rfl rfl
@[simp] theorem lenV_scr : lenV [.scr xs] s = some (.int xs.length) := Eq.trans rfl rfl
@[simp] theorem lenV_ref {n : Nat} : lenV [.ref n] s = (celL s[n]?).map fun xs => .int xs.length := by
  show (match asS s (.ref n) with | some ys => some (Val.int ys.length) | none => none) = _
  rw [asS_ref, asL_ref]; cases celL s[n]? <;> rfl
@[simp] theorem intV_int : intV [.int i] = some (.int i) := Eq.trans rfl rfl
@[simp] theorem intV_bl {b : Bool} : intV [.bl b] = some (.int (if b then 1 else 0)) := Eq.trans rfl rfl
@[simp] theorem absV_int : absV [.int i] = some (.int i.natAbs) := by
  show some (Val.int (if i < 0 then -i else i)) = _
  congr 2; split <;> omega
@[simp] theorem bigV_two : bigV [.int i, .int j] s = some (.int (if j > i then j else i)) := Eq.trans rfl rfl
@[simp] theorem lowV_two : lowV [.int i, .int j] s = some (.int (if j < i then j else i)) := Eq.trans rfl rfl
@[simp] theorem oneS_lst : oneS [.lst xs] s = some xs := Eq.trans rfl rfl
@[simp] theorem oneS_tup : oneS [.tup xs] s = some xs := Eq.trans rfl rfl
@[simp] theorem oneS_scr : oneS [.scr xs] s = some xs := Eq.trans rfl rfl
@[simp] theorem oneS_ref {n : Nat} : oneS [.ref n] s = celL s[n]? := by show asS s (.ref n) = _; rw [asS_ref, asL_ref]
@[simp] theorem tupV_lst : tupV [.lst xs] s = some (.tup xs) := Eq.trans rfl rfl
@[simp] theorem tupV_tup : tupV [.tup xs] s = some (.tup xs) := Eq.trans rfl rfl
@[simp] theorem tupV_ref {n : Nat} : tupV [.ref n] s = (celL s[n]?).map .tup := by unfold tupV; rw [oneS_ref]
@[simp] theorem putO_some {ys : List Val} : putO mu (some ys) s = putL mu ys s := Eq.trans rfl rfl
@[simp] theorem putL_t {ys : List Val} : putL true ys s = .ok (.ref s.length) (s ++ [.lst ys]) := Eq.trans rfl rfl
@[simp] theorem putL_f {ys : List Val} : putL false ys s = .ok (.lst ys) s := Eq.trans rfl rfl
@[simp] theorem newL_t {ys : List Val} : newL true ys s = if ys.length ≤ szL then .ok (.ref s.length) (s ++ [.lst ys]) else .stk := Eq.trans rfl rfl
@[simp] theorem newL_f {ys : List Val} : newL false ys s = if ys.length ≤ szL then .ok (.lst ys) s else .stk := Eq.trans rfl rfl
@[simp] theorem intO_nil : intO [] = some none := Eq.trans rfl rfl
@[simp] theorem intO_int : intO [.int i] = some (some i) := Eq.trans rfl rfl
@[simp] theorem slcV_lst {lo hi : Option Int} : slcV s (.lst xs) lo hi = some (.lst (cutL xs lo hi)) := Eq.trans rfl rfl
@[simp] theorem slcV_tup {lo hi : Option Int} : slcV s (.tup xs) lo hi = some (.tup (cutL xs lo hi)) := Eq.trans rfl rfl
theorem cutL_mem {lo hi : Option Int} {x : Val} (h : x ∈ cutL xs lo hi) : x ∈ xs := List.mem_of_mem_drop (List.mem_of_mem_take h)
theorem cutL_dat {lo hi : Option Int} (h : datL xs = true) : datL (cutL xs lo hi) = true := datL_all.mpr fun x hx => datL_all.mp h x (cutL_mem hx)
theorem cutL_dep {lo hi : Option Int} {n : Nat} (h : depL xs ≤ n) : depL (cutL xs lo hi) ≤ n := depL_le.mpr fun x hx => depL_le.mp h x (cutL_mem hx)
theorem cutL_len {lo hi : Option Int} : (cutL xs lo hi).length ≤ xs.length := by
  unfold cutL; rw [List.length_take, List.length_drop]; omega
theorem depL_append {ys : List Val} : depL (xs ++ ys) = max (depL xs) (depL ys) := by
  induction xs with
  | nil => simp [depL]
  | cons x xs ih => simp [depL, ih, Nat.max_assoc]
/-- into a list's place -/
def celS (o : Option Cell) (n : Nat) (k : Int) (v : Val) (s : Store) : Option Store := match o with
  | some (.lst xs) => match L2.ixN xs.length k with
    | some j => some (s.set n (.lst (xs.set j v)))
    | none => none
  | _ => none
@[simp] theorem celS_lst {n k} : celS (some (.lst xs)) n k v s = match L2.ixN xs.length k with | some j => some (s.set n (.lst (xs.set j v))) | none => none := Eq.trans rfl rfl
@[simp] theorem setIV_ref {n k} : setIV (.ref n) (.int k) v s = celS s[n]? n k v s := by
  show (match s[n]? with | some (.lst xs) => _ | _ => none) = _
  unfold celS; rfl
def celA (o : Option Cell) (n : Nat) (v : Val) (s : Store) : Option Store := match o with
  | some (.lst ys) => if ys.length < szL then some (s.set n (.lst (ys ++ [v]))) else none
  | _ => none
@[simp] theorem celA_lst {n} : celA (some (.lst xs)) n v s = if xs.length < szL then some (s.set n (.lst (xs ++ [v]))) else none := Eq.trans rfl rfl
@[simp] theorem appV_ref {n} : appV (.ref n) v s = celA s[n]? n v s := by
  show (match s[n]? with | some (.lst xs) => _ | _ => none) = _
  unfold celA; rfl
theorem ixN_nat {n k : Nat} (h : k < n) : L2.ixN n (k : Int) = some k := by
  unfold L2.ixN; rw [if_pos (by omega), if_pos (by omega)]; simp
theorem ixN_int {n : Nat} {k : Int} (h0 : 0 ≤ k) (h : k < n) : L2.ixN n k = some k.toNat := by
  unfold L2.ixN; rw [if_pos (by omega), if_pos (by omega)]
theorem atI_int {α : Type} {xs : List α} {k : Int} (h0 : 0 ≤ k) (h : k < xs.length) : L2.atI xs k = xs[k.toNat]? := by
  unfold L2.atI; rw [ixN_int h0 h]; rfl
@[simp] theorem idxV_tup {k} : idxV s (.tup xs) (.int k) = L2.atI xs k := Eq.trans rfl rfl
@[simp] theorem idxV_lst {k} : idxV s (.lst xs) (.int k) = L2.atI xs k := Eq.trans rfl rfl
@[simp] theorem idxV_scr {k} : idxV s (.scr xs) (.int k) = L2.atI xs k := Eq.trans rfl rfl
def atO (o : Option (List Val)) (k : Int) : Option Val := match o with
  | some xs => L2.atI xs k
  | none => none
@[simp] theorem atO_some {k} : atO (some xs) k = L2.atI xs k := Eq.trans rfl rfl
@[simp] theorem idxV_ref {n k} : idxV s (.ref n) (.int k) = atO (celL s[n]?) k := by
  show (match asS s (.ref n) with | some xs => L2.atI xs k | none => _) = _
  rw [asS_ref, asL_ref]; cases celL s[n]? <;> rfl
end
section
variable {α : Type} {a b c d e f : α} {r : List α}
@[simp] theorem atI0 : L2.atI (a :: r) 0 = some a := by rw [atI_int (by omega) (by simp)]; rfl
@[simp] theorem atI1 : L2.atI (a :: b :: r) 1 = some b := by rw [atI_int (by omega) (by simp <;> omega)]; rfl
@[simp] theorem atI2 : L2.atI (a :: b :: c :: r) 2 = some c := by rw [atI_int (by omega) (by simp <;> omega)]; rfl
@[simp] theorem atI3 : L2.atI (a :: b :: c :: d :: r) 3 = some d := by rw [atI_int (by omega) (by simp <;> omega)]; rfl
@[simp] theorem atI4 : L2.atI (a :: b :: c :: d :: e :: r) 4 = some e := by rw [atI_int (by omega) (by simp <;> omega)]; rfl
end
end Ev.P

set_option Elab.async false
set_option linter.all false
set_option maxRecDepth 100000
set_option autoImplicit false
/-! Ev, plain: generator expressions, bits, pure comprehensions. -/
namespace Ev.P
open PySem
section
variable (G : Prog) (call : Nat → List Val → Store → R Val) (e : Env) (s : Store)
noncomputable def kGen (k : Con) (tg : TG) (cs : MEs) (el : ME) (p : List Val × Option (Nat × List Val)) (s1 : Store) : R Val := genL k (stepC G call e tg cs el) p.2 s1 p.1 (conBeg k)
@[simp] theorem kGen_app {k tg cs el p s1} : kGen G call e k tg cs el p s1 = genL k (stepC G call e tg cs el) p.2 s1 p.1 (conBeg k) := Eq.trans rfl rfl
@[simp] theorem ev_genP {k tg it cs el} : ev G call (.gen k tg it cs el) e s = (evI G call it e s).bind (kGen G call e k tg cs el) := by
  rw [ev] <;> rfl
end
@[simp] theorem conBeg_all : conBeg .all = .non := Eq.trans rfl rfl
@[simp] theorem conBeg_any : conBeg .any = .non := Eq.trans rfl rfl
@[simp] theorem conBeg_sum : conBeg .sum = .int 0 := Eq.trans rfl rfl
@[simp] theorem conBeg_tup : conBeg .tuple = .lst [] := Eq.trans rfl rfl
section
variable {f : Val → Store → R (Option Val)} {s : Store}
theorem gen_all (p : Val → Bool) : ∀ xs : List Val, (∀ x ∈ xs, f x s = .ok (some (.bl (p x))) s) → genL .all f none s xs .non = .ok (.bl (xs.all p)) s
  | [], _ => by rw [genL]; simp only [stands_none, ↓reduceIte]; rfl
  | x :: r, h => by
    rw [genL]
    simp only [stands_none, ↓reduceIte]
    rw [h x (by simp), bindk]
    simp only [↓reduceIte, conNext, conStep]
    cases hp : p x with
    | true => simp only [↓reduceIte]; rw [gen_all p r fun y hy => h y (by simp [hy])]; simp [hp]
    | false => simp [hp]
/-- up to the first that is not so -/
theorem gen_all_stop (p : Val → Bool) : ∀ (xs ys : List Val) (y : Val), (∀ x ∈ xs, f x s = .ok (some (.bl true)) s) → f y s = .ok (some (.bl false)) s → genL .all f none s (xs ++ y :: ys) .non = .ok (.bl false) s
  | [], ys, y, _, h => by
    rw [List.nil_append, genL]
    simp only [stands_none, ↓reduceIte]
    rw [h, bindk]
    simp [conNext, conStep]
  | x :: r, ys, y, h, h2 => by
    rw [List.cons_append, genL]
    simp only [stands_none, ↓reduceIte]
    rw [h x (by simp), bindk]
    simp only [↓reduceIte, conNext, conStep]
    exact gen_all_stop p r ys y (fun z hz => h z (by simp [hz])) h2
theorem gen_any (p : Val → Bool) : ∀ xs : List Val, (∀ x ∈ xs, f x s = .ok (some (.bl (p x))) s) → genL .any f none s xs .non = .ok (.bl (xs.any p)) s
  | [], _ => by rw [genL]; simp only [stands_none, ↓reduceIte]; rfl
  | x :: r, h => by
    rw [genL]
    simp only [stands_none, ↓reduceIte]
    rw [h x (by simp), bindk]
    simp only [↓reduceIte, conNext, conStep]
    cases hp : p x with
    | false => simp only [Bool.false_eq_true, ↓reduceIte]; rw [gen_any p r fun y hy => h y (by simp [hy])]; simp [hp]
    | true => simp [hp]
theorem gen_tup (g : Val → Option Val) : ∀ xs acc : List Val, (∀ x ∈ xs, f x s = .ok (g x) s) → acc.length + xs.length ≤ szL → genL .tuple f none s xs (.lst acc) = .ok (.tup (acc ++ xs.filterMap g)) s
  | [], acc, _, _ => by rw [genL]; simp only [stands_none, ↓reduceIte]; simp [conEnd]
  | x :: r, acc, h, hl => by
    rw [genL]
    simp only [stands_none, ↓reduceIte]
    rw [h x (by simp), bindk]
    simp only [↓reduceIte]
    rcases hg : g x with _ | v
    · simp only [conNext, List.filterMap_cons, hg]
      exact gen_tup g r acc (fun y hy => h y (by simp [hy])) (by simp at hl ⊢; omega)
    · simp only [conNext, conStep, List.filterMap_cons, hg]
      rw [if_pos (by simp at hl; omega)]
      simp only
      rw [gen_tup g r (acc ++ [v]) (fun y hy => h y (by simp [hy])) (by simp at hl ⊢; omega)]
      simp
def inLong (i : Int) : Prop := -9223372036854775808 ≤ i ∧ i < 9223372036854775808
theorem gen_sum (g : Val → Int) (B : Int) (hB : 0 ≤ B) : ∀ (xs : List Val) (acc : Int), (∀ x ∈ xs, f x s = .ok (some (.int (g x))) s ∧ -B ≤ g x ∧ g x ≤ B) → (acc.natAbs : Int) + B * xs.length < 9223372036854775808 → genL .sum f none s xs (.int acc) = .ok (.int (acc + (xs.map g).sum)) s
  | [], acc, _, _ => by rw [genL]; simp only [stands_none, ↓reduceIte]; simp [conEnd]
  | x :: r, acc, h, hl => by
    obtain ⟨h1, h2, h3⟩ := h x (by simp)
    have e : B * ((x :: r).length : Nat) = B * (r.length : Nat) + B := by
      rw [List.length_cons, Int.natCast_add, Int.mul_add]; simp
    have hr : 0 ≤ B * (r.length : Nat) := Int.mul_nonneg hB (by omega)
    rw [e] at hl
    rw [genL]
    simp only [stands_none, ↓reduceIte]
    rw [h1, bindk]
    simp only [↓reduceIte, conNext, conStep]
    rw [if_pos (by
      have : (2 : Int) ^ 63 = 9223372036854775808 := by decide
      rw [this]
      omega)]
    simp only
    rw [gen_sum g B hB r (acc + g x) (fun y hy => h y (by simp [hy])) (by omega)]
    simp [Int.add_assoc]
end
section
variable {m : Store} {i j : Int} {n : Nat}
@[simp] theorem binV_and1 : binV m .BitAnd (.int i) (.int 1) = some (.int (i % 2)) := by
  show some (Val.int (Builtin.bitAnd i 1)) = _
  rw [PyProof.Rows.bitAnd_m1]
theorem binV_andE : binV m .BitAnd (.int i) (.int j) = some (.int (Builtin.bitAnd i j)) := rfl
theorem binV_xorE : binV m .BitXor (.int i) (.int j) = some (.int (Builtin.bitXor i j)) := rfl
theorem powOk_of (h0 : 0 ≤ j) (h1 : j ≤ 1000) (h2 : i.natAbs < 1000000000) : powOk i j = true := by
  unfold powOk
  rw [Bool.and_eq_true, Bool.and_eq_true]
  exact ⟨decide_eq_true h0, decide_eq_true (by omega), decide_eq_true (by omega)⟩
theorem binV_shl (h0 : 0 ≤ j) (h1 : j ≤ 1000) (h2 : i.natAbs < 1000000000) : binV m .LShift (.int i) (.int j) = some (.int (i * 2 ^ j.toNat)) := by
  show (if powOk i j = true then some (Val.int (i * 2 ^ j.toNat)) else none) = _
  rw [if_pos (powOk_of h0 h1 h2)]
theorem binV_shr (h0 : 0 ≤ j) : binV m .RShift (.int i) (.int j) = some (.int (i / 2 ^ j.toNat)) := by
  show (if 0 ≤ j then some (Val.int (i / 2 ^ j.toNat)) else none) = _
  rw [if_pos h0]
end
end Ev.P

set_option Elab.async false
set_option linter.all false
set_option maxRecDepth 100000
set_option autoImplicit false
/-! Ev, plain: instances, lists by a map. -/
namespace Ev.P
open PySem
section
variable {G : Prog} {m : Store} {ts : List Ty} {n : Nat}
/-- a cell's kind -/
def kdC : Option Cell → Option Kd
  | some (.lst _) => some .lst
  | some (.ins c _ _) => some (.ins c)
  | _ => none
@[simp] theorem kdC_lst {xs} : kdC (some (.lst xs)) = some .lst := Eq.trans rfl rfl
@[simp] theorem kdC_ins {c ks xs} : kdC (some (.ins c ks xs)) = some (.ins c) := Eq.trans rfl rfl
def anyO (G : Prog) (o : Option Kd) (ts : List Ty) : Option Bool := match o with
  | some k => if kdOk G k then anyK G k ts else none
  | none => none
@[simp] theorem anyO_lst : anyO G (some .lst) ts = anyK G .lst ts := Eq.trans rfl rfl
@[simp] theorem anyO_ins {c} : anyO G (some (.ins c)) ts = if isIns G c = true then anyK G (.ins c) ts else none := Eq.trans rfl rfl
@[simp] theorem isi_ref : anyTy G m (.ref n) ts = anyO G (kdC m[n]?) ts := by
  unfold anyTy anyO
  rw [show kdV m (.ref n) = kdC m[n]? from by rw [kdV.eq_def]; simp only; rcases m[n]? with _ | _ | _ | _ <;> rfl]
  all_goals (cases kdC m[n]? <;> rfl)
/-- into an instance's field -/
def celF (G : Prog) (o : Option Cell) (n f : Nat) (v : Val) (s : Store) : Option Store := match o with
  | some (.ins c ks xs) => if ks.length < 1000 ∧ ks.length = xs.length ∧ hasF G c f = true then some (s.set n (.ins c (putF f v ks xs).1 (putF f v ks xs).2)) else none
  | _ => none
@[simp] theorem celF_ins {c ks xs f v s} : celF G (some (.ins c ks xs)) n f v s = if ks.length < 1000 ∧ ks.length = xs.length ∧ hasF G c f = true then some (s.set n (.ins c (putF f v ks xs).1 (putF f v ks xs).2)) else none := Eq.trans rfl rfl
@[simp] theorem setAV_ref {f v s} : setAV G (.ref n) f v s = celF G s[n]? n f v s := by
  unfold celF
  rw [setAV.eq_def] <;> (try simp only) <;> (try rfl)
theorem mkV_imm {call : Nat → List Val → Store → R Val} {c f : Nat} {xs ys : List Val} {s : Store} {C : ClsT} {ks : List Nat} (hC : G.cls[c]? = some C) (hi : C.init = some f) (him : C.imm = true)
    (hcall : call f (.ref s.length :: xs) (s ++ [.ins c [] []]) = .ok .non (s ++ [.ins c ks ys])) (hb : belL s.length ys = true) : mkV G call c xs s = .ok (.obj c ks ys) s := by
  unfold mkV
  rw [hC]; simp only
  rw [hi]; simp only
  rw [hcall]; simp only
  simp [him, hb, cutOk_app]
end
@[simp] theorem itV_ref {n : Nat} {s : Store} : itV (.ref n) s = match celL s[n]? with
    | some xs => .ok (xs, some (n, xs)) s
    | none => .stk := by
  unfold itV; rw [asS_ref, asL_ref]; cases celL s[n]? <;> rfl
section
variable {f : Val → Store → R (Option Val)} {s : Store} {α : Type}
theorem lcL_map (a b : α → Val) : ∀ (L : List α) (acc : List Val), (∀ x ∈ L, f (a x) s = .ok (some (b x)) s) → acc.length + L.length ≤ szL → lcL f none (L.map a) acc s = .ok (acc ++ L.map b) s
  | [], acc, _, _ => by simp [lcL]
  | x :: r, acc, h, hl => by
    rw [List.map_cons, lcL]
    simp only [stands_none, ↓reduceIte]
    rw [h x (by simp), bindk]
    simp only
    rw [if_pos (by simp at hl; omega), lcL_map a b r (acc ++ [b x]) (fun y hy => h y (by simp [hy])) (by simp at hl ⊢; omega)]
    simp
theorem lcL_filt (a b : α → Val) (p : α → Bool) : ∀ (L : List α) (acc : List Val), (∀ x ∈ L, f (a x) s = .ok (if p x = true then some (b x) else none) s) → acc.length + L.length ≤ szL → lcL f none (L.map a) acc s = .ok (acc ++ (L.filter p).map b) s
  | [], acc, _, _ => by simp [lcL]
  | x :: r, acc, h, hl => by
    rw [List.map_cons, lcL]
    simp only [stands_none, ↓reduceIte]
    rw [h x (by simp), bindk]
    cases hp : p x with
    | true =>
      simp only [↓reduceIte]
      rw [if_pos (by simp at hl; omega), lcL_filt a b p r (acc ++ [b x]) (fun y hy => h y (by simp [hy])) (by simp at hl ⊢; omega)]
      simp [hp]
    | false =>
      simp only [Bool.false_eq_true, ↓reduceIte]
      rw [lcL_filt a b p r acc (fun y hy => h y (by simp [hy])) (by simp at hl ⊢; omega)]
      simp [hp]
theorem lcL_none (a : α → Val) : ∀ (L : List α) (acc : List Val), (∀ x ∈ L, f (a x) s = .ok none s) → lcL f none (L.map a) acc s = .ok acc s
  | [], acc, _ => by simp [lcL]
  | x :: r, acc, h => by
    rw [List.map_cons, lcL]
    simp only [stands_none, ↓reduceIte]
    rw [h x (by simp), bindk]
    exact lcL_none a r acc (fun y hy => h y (by simp [hy]))
theorem gen_tupM (a b : α → Val) : ∀ (L : List α) (acc : List Val), (∀ x ∈ L, f (a x) s = .ok (some (b x)) s) → acc.length + L.length ≤ szL → genL .tuple f none s (L.map a) (.lst acc) = .ok (.tup (acc ++ L.map b)) s
  | [], acc, _, _ => by rw [List.map_nil, genL]; simp only [stands_none, ↓reduceIte]; simp [conEnd]
  | x :: r, acc, h, hl => by
    rw [List.map_cons, genL]
    simp only [stands_none, ↓reduceIte]
    rw [h x (by simp), bindk]
    simp only [↓reduceIte, conNext, conStep]
    rw [if_pos (by simp at hl; omega)]
    simp only
    rw [gen_tupM a b r (acc ++ [b x]) (fun y hy => h y (by simp [hy])) (by simp at hl ⊢; omega)]
    simp
/-- over any live list -/
theorem gen_allM {lv : Option (Nat × List Val)} (hs : stands s lv) (a : α → Val) : ∀ L : List α, (∀ x ∈ L, f (a x) s = .ok (some (.bl true)) s) → genL .all f lv s (L.map a) .non = .ok (.bl true) s
  | [], _ => by rw [List.map_nil, genL]; rw [if_pos hs]; rfl
  | x :: r, h => by
    rw [List.map_cons, genL]
    rw [if_pos hs]
    rw [h x (by simp), bindk]
    simp only [↓reduceIte, conNext, conStep]
    exact gen_allM hs a r fun y hy => h y (by simp [hy])
end
theorem rngL_map {i : Int} {n : Nat} : rngL i n = (List.range n).map fun k => Val.int (i + (k : Nat)) := rfl
section
variable {m : Store} {n k j : Nat}
theorem shl1 (h : k ≤ 1000) : binV m .LShift (.int 1) (.int (k : Int)) = some (.int ((2 ^ k : Nat) : Int)) := by
  rw [binV_shl (by omega) (by omega) (by decide)]
  simp
theorem shlStep (h : j < n) (hn : n ≤ 1000) : binV m .LShift (.int 1) (.int ((n : Int) - 1 - (j : Int))) = some (.int ((2 ^ (n - 1 - j) : Nat) : Int)) := by
  rw [show ((n : Int) - 1 - (j : Int)) = ((n - 1 - j : Nat) : Int) by omega]
  exact shl1 (by omega)
theorem divN (h : 0 < k) (h2 : k < 1073741824) : binV m .FloorDiv (.int (j : Int)) (.int (k : Int)) = some (.int ((j / k : Nat) : Int)) := by
  rw [binV_div (by omega) (by omega)]; simp
theorem shrStep (h : j < n) : binV m .RShift (.int (k : Int)) (.int ((n : Int) - 1 - (j : Int))) = some (.int ((k / 2 ^ (n - 1 - j) : Nat) : Int)) := by
  rw [show ((n : Int) - 1 - (j : Int)) = ((n - 1 - j : Nat) : Int) by omega, binV_shr (by omega)]
  simp
theorem atN {cs : List Int} (h : k < cs.length) : L2.atI (cs.map Val.int) (k : Int) = some (.int (cs.getD k 0)) := by
  rw [atI_int (by omega) (by simpa using h), List.getElem?_map]
  simp [List.getElem?_eq_getElem h]
end
section
variable (G : Prog) (call : Nat → List Val → Store → R Val) (e : Env) (s : Store)
noncomputable def kCmo2 (o : CmpOp) (x : Val) (y : Val) (s2 : Store) : R Val := cmoV G call o x y s2
@[simp] theorem kCmo2_app {o x y s2} : kCmo2 G call o x y s2 = cmoV G call o x y s2 := Eq.trans rfl rfl
noncomputable def kCmo (o : CmpOp) (b : ME) (e : Env) (x : Val) (s1 : Store) : R Val := (ev G call b e s1).bind (kCmo2 G call o x)
@[simp] theorem kCmo_app {o b e x s1} : kCmo G call o b e x s1 = (ev G call b e s1).bind (kCmo2 G call o x) := Eq.trans rfl rfl
@[simp] theorem ev_cmo {o a b} : ev G call (.cmo o a b) e s = (ev G call a e s).bind (kCmo G call o b e) := by rw [ev]; rfl
noncomputable def kBno2 (o : Operator) (x : Val) (y : Val) (s2 : Store) : R Val := bnoV G call o x y s2
@[simp] theorem kBno2_app {o x y s2} : kBno2 G call o x y s2 = bnoV G call o x y s2 := Eq.trans rfl rfl
noncomputable def kBno (o : Operator) (b : ME) (e : Env) (x : Val) (s1 : Store) : R Val := (ev G call b e s1).bind (kBno2 G call o x)
@[simp] theorem kBno_app {o b e x s1} : kBno G call o b e x s1 = (ev G call b e s1).bind (kBno2 G call o x) := Eq.trans rfl rfl
@[simp] theorem ev_bno {o a b} : ev G call (.bno o a b) e s = (ev G call a e s).bind (kBno G call o b e) := by rw [ev]; rfl
noncomputable def cmoO (m : Option (Nat × Nat)) (x y : Val) (s : Store) : R Val := match m with
  | some p => if fitB G s y p.1 = true then (call p.2 [x, y] s).bind blR else .stk
  | none => R.ofO ((eqv s x y).map .bl) s
@[simp] theorem cmoO_some {p x y} : cmoO G call (some p) x y s = if fitB G s y p.1 = true then (call p.2 [x, y] s).bind blR else .stk := Eq.trans rfl rfl
@[simp] theorem cmoO_none {x y} : cmoO G call none x y s = R.ofO ((eqv s x y).map .bl) s := Eq.trans rfl rfl
@[simp] theorem cmoV_eq {x y} : cmoV G call .Eq x y s = cmoO G call (ownM G s 17 x) x y s := by
  unfold cmoV cmoO
  cases ownM G s 17 x with
  | none => simp only; rw [cmp_eq]
  | some p => rfl
noncomputable def bnoO (o : Operator) (m : Option (Nat × Nat)) (x y : Val) (s : Store) : R Val := match m with
  | some p => if sameC G s y p.1 = true then call p.2 [x, y] s else .stk
  | none => R.ofO (binV s o x y) s
@[simp] theorem bnoO_some {o p x y} : bnoO G call o (some p) x y s = if sameC G s y p.1 = true then call p.2 [x, y] s else .stk := Eq.trans rfl rfl
@[simp] theorem bnoO_none {o x y} : bnoO G call o none x y s = R.ofO (binV s o x y) s := Eq.trans rfl rfl
@[simp] theorem bnoV_add {x y} : bnoV G call .Add x y s = bnoO G call .Add (ownM G s 14 x) x y s := by
  unfold bnoV bnoO
  show (match ownM G s 14 x with | some (c, f) => _ | none => _) = _
  cases ownM G s 14 x <;> rfl
@[simp] theorem bnoV_sub {x y} : bnoV G call .Sub x y s = bnoO G call .Sub (ownM G s 15 x) x y s := by
  unfold bnoV bnoO
  show (match ownM G s 15 x with | some (c, f) => _ | none => _) = _
  cases ownM G s 15 x <;> rfl
@[simp] theorem bnoV_mul {x y} : bnoV G call .Mult x y s = bnoO G call .Mult (ownM G s 16 x) x y s := by
  unfold bnoV bnoO
  show (match ownM G s 16 x with | some (c, f) => _ | none => _) = _
  cases ownM G s 16 x <;> rfl
variable {G s} {i : Nat}
@[simp] theorem ownM_int {j} : ownM G s i (.int j) = none := Eq.trans rfl rfl
@[simp] theorem ownM_bl {j} : ownM G s i (.bl j) = none := Eq.trans rfl rfl
@[simp] theorem ownM_non : ownM G s i .non = none := Eq.trans rfl rfl
@[simp] theorem ownM_str {j} : ownM G s i (.str j) = none := Eq.trans rfl rfl
@[simp] theorem ownM_tup {j} : ownM G s i (.tup j) = none := Eq.trans rfl rfl
@[simp] theorem ownM_lst {j} : ownM G s i (.lst j) = none := Eq.trans rfl rfl
@[simp] theorem blR_bl {b} : blR (.bl b) s = .ok (.bl b) s := Eq.trans rfl rfl
end
end Ev.P

set_option Elab.async false
set_option linter.all false
set_option maxRecDepth 100000
set_option autoImplicit false
/-! Ev, plain: dicts, len, in. -/
namespace Ev.P
open PySem
section
variable (G : Prog) (call : Nat → List Val → Store → R Val) (e : Env) (s : Store)
noncomputable def kDsp (ks : List Str) (xs : List Val) (s1 : Store) : R Val := newD ks xs s1
@[simp] theorem kDsp_app {ks xs s1} : kDsp ks xs s1 = newD ks xs s1 := Eq.trans rfl rfl
@[simp] theorem ev_dsp {ks es} : ev G call (.dsp ks es) e s = ((evs G call es e s).nox).bind (kDsp ks) := by rw [ev]; rfl
noncomputable def kDgt2 (x y : Val) (s2 : Store) : R Val := R.ofO (dgtV s2 x y) s2
@[simp] theorem kDgt2_app {x y s2} : kDgt2 x y s2 = R.ofO (dgtV s2 x y) s2 := Eq.trans rfl rfl
noncomputable def kDgt (b : ME) (e : Env) (x : Val) (s1 : Store) : R Val := (ev G call b e s1).bind (kDgt2 x)
@[simp] theorem kDgt_app {b e x s1} : kDgt G call b e x s1 = (ev G call b e s1).bind (kDgt2 x) := Eq.trans rfl rfl
@[simp] theorem ev_dgt {a b} : ev G call (.dgt a b) e s = (ev G call a e s).bind (kDgt G call b e) := by rw [ev]; rfl
@[simp] theorem ev_lno {a} : ev G call (.lno a) e s = (ev G call a e s).bind (lnoV G call) := by rw [ev]
noncomputable def kIno (n : Bool) (b : ME) (e : Env) (x : Val) (s1 : Store) : R Val := (ev G call b e s1).bind (inoV G call n x)
@[simp] theorem kIno_app {n b e x s1} : kIno G call n b e x s1 = (ev G call b e s1).bind (inoV G call n x) := Eq.trans rfl rfl
@[simp] theorem ev_ino {n a b} : ev G call (.ino n a b) e s = (ev G call a e s).bind (kIno G call n b e) := by rw [ev]; rfl
noncomputable def lnoO (o : Option (Nat × Nat)) (x : Val) (s : Store) : R Val := match o with
  | some p => (call p.2 [x] s).bind lenR
  | none => .stk
@[simp] theorem lnoO_some {p x} : lnoO call (some p) x s = (call p.2 [x] s).bind lenR := Eq.trans rfl rfl
@[simp] theorem lnoV_eq {x} : lnoV G call x s = lnoO call (ownM G s 18 x) x s := by
  unfold lnoV lnoO
  rcases ownM G s 18 x with _ | ⟨c, f⟩ <;> rfl
noncomputable def inoO (n : Bool) (o : Option (Nat × Nat)) (x y : Val) (s : Store) : R Val := match o with
  | some p => (call p.2 [y, x] s).bind (flipR n)
  | none => .stk
@[simp] theorem inoO_some {n p x y} : inoO call n (some p) x y s = (call p.2 [y, x] s).bind (flipR n) := Eq.trans rfl rfl
@[simp] theorem inoV_eq {n x y} : inoV G call n x y s = inoO call n (ownM G s 20 y) x y s := by
  unfold inoV inoO
  rcases ownM G s 20 y with _ | ⟨c, f⟩ <;> rfl
@[simp] theorem lenR_int {i : Int} : lenR (.int i) s = if 0 ≤ i ∧ i < 2 ^ 62 then .ok (.int i) s else .stk := Eq.trans rfl rfl
@[simp] theorem flipR_f {b : Bool} : flipR false (.bl b) s = .ok (.bl b) s := Eq.trans rfl rfl
@[simp] theorem flipR_t {b : Bool} : flipR true (.bl b) s = .ok (.bl (!b)) s := Eq.trans rfl rfl
def dgtC (o : Option Cell) (x : Str) : Option Val := match o with
  | some (.dic ks xs) => lookS x ks xs
  | _ => none
@[simp] theorem dgtC_dic {ks xs x} : dgtC (some (.dic ks xs)) x = lookS x ks xs := Eq.trans rfl rfl
@[simp] theorem dgtV_ref {n x} : dgtV s (.ref n) (.str x) = dgtC s[n]? x := by
  unfold dgtV dgtC
  simp only <;> (rcases s[n]? with _ | _ | _ | _ <;> rfl)
def celD (o : Option Cell) (n : Nat) (x : Str) (v : Val) (s : Store) : Option Store := match o with
  | some (.dic ks xs) => (putS x v ks xs).map fun ys => s.set n (.dic ks ys)
  | _ => none
@[simp] theorem celD_dic {ks xs n x v} : celD (some (.dic ks xs)) n x v s = (putS x v ks xs).map fun ys => s.set n (.dic ks ys) := Eq.trans rfl rfl
@[simp] theorem setDV_ref {n x v} : setDV (.ref n) (.str x) v s = celD s[n]? n x v s := by
  unfold setDV celD
  simp only <;> (rcases s[n]? with _ | _ | _ | _ <;> rfl)
noncomputable def kSetD3 (v ov : Val) (iv : Val) (s3 : Store) : O := nxO (setDV ov iv v s3) e
@[simp] theorem kSetD3_app {v ov iv s3} : kSetD3 e v ov iv s3 = nxO (setDV ov iv v s3) e := Eq.trans rfl rfl
noncomputable def kSetD2 (i : ME) (v : Val) (ov : Val) (s2 : Store) : O := (ev G call i e s2).thenO e (kSetD3 e v ov)
@[simp] theorem kSetD2_app {i v ov s2} : kSetD2 G call e i v ov s2 = (ev G call i e s2).thenO e (kSetD3 e v ov) := Eq.trans rfl rfl
noncomputable def kSetD (o i : ME) (v : Val) (s1 : Store) : O := (ev G call o e s1).thenO e (kSetD2 G call e i v)
@[simp] theorem kSetD_app {o i v s1} : kSetD G call e o i v s1 = (ev G call o e s1).thenO e (kSetD2 G call e i v) := Eq.trans rfl rfl
@[simp] theorem sv_setD {o i x} : sv G call (.setD o i x) e s = (ev G call x e s).thenO e (kSetD G call e o i) := by rw [sv]; rfl
@[simp] theorem asg_tq {i is x xs} : asg (.tq i is) (.tup [x, .tup xs]) e = if xs.length = is.length then some (setAll (e.set i (some x)) is xs) else none := Eq.trans rfl rfl
@[simp] theorem cmp_isB {a b : Bool} : cmpV s .Is (.bl a) (.bl b) = some (a == b) := by cases a <;> cases b <;> rfl
@[simp] theorem cmp_isnB {a b : Bool} : cmpV s .IsNot (.bl a) (.bl b) = some (!(a == b)) := by cases a <;> cases b <;> rfl
/-- a method call -/
def mOf (s : Store) (x : Val) (k : Nat) : Option Nat := match insOf s x with
  | some (c, ks, _) => methOf G c k ks
  | none => none
@[simp] theorem mOf_obj {c ks xs k} : mOf G s (.obj c ks xs) k = methOf G c k ks := Eq.trans rfl rfl
noncomputable def kMth2 (f : Nat) (x : Val) (xs : List Val) (s2 : Store) : R Val := call f (x :: xs) s2
@[simp] theorem kMth2_app {f x xs s2} : kMth2 call f x xs s2 = call f (x :: xs) s2 := Eq.trans rfl rfl
noncomputable def mthO (o : Option Nat) (es : MEs) (e : Env) (x : Val) (s1 : Store) : R Val := match o with
  | some f => (evs G call es e s1).bind (kMth2 call f x)
  | none => .stk
@[simp] theorem mthO_some {f es e x s1} : mthO G call (some f) es e x s1 = (evs G call es e s1).bind (kMth2 call f x) := Eq.trans rfl rfl
noncomputable def kMth (k : Nat) (es : MEs) (e : Env) (x : Val) (s1 : Store) : R Val := mthO G call (mOf G s1 x k) es e x s1
@[simp] theorem kMth_app {k es e x s1} : kMth G call k es e x s1 = mthO G call (mOf G s1 x k) es e x s1 := Eq.trans rfl rfl
@[simp] theorem ev_mth {o k es} : ev G call (.mth o k es) e s = (ev G call o e s).bind (kMth G call k es e) := by
  rw [ev]; congr 1; funext x s1
  rw [kMth_app]
  unfold mOf mthO
  rcases insOf s1 x with _ | ⟨c, ks, _⟩
  · rfl
  · simp only
    rcases methOf G c k ks with _ | f <;> rfl
/-- repr -/
noncomputable def kRep (x : Val) (s1 : Store) : R Val := R.ofO (repV s1 x) s1
@[simp] theorem kRep_app {x s1} : kRep x s1 = R.ofO (repV s1 x) s1 := Eq.trans rfl rfl
@[simp] theorem ev_rep {a} : ev G call (.rep a) e s = (ev G call a e s).bind kRep := by rw [ev]; rfl
noncomputable def kExt3 (x y : Val) (s2 : Store) : R Val := match extW x y s2 with
  | some s3 => .ok .non s3
  | none => .stk
@[simp] theorem kExt3_app {x y s2} : kExt3 x y s2 = match extW x y s2 with
  | some s3 => .ok .non s3
  | none => .stk := Eq.trans rfl rfl
noncomputable def kExt2 (a : ME) (e : Env) (x : Val) (s1 : Store) : R Val := (ev G call a e s1).bind (kExt3 x)
@[simp] theorem kExt2_app {a e x s1} : kExt2 G call a e x s1 = (ev G call a e s1).bind (kExt3 x) := Eq.trans rfl rfl
noncomputable def kExt (a : ME) (e : Env) (x : Val) (s1 : Store) : R Val := (R.ofO ((asM s1 x).map fun _ => x) s1).bind (kExt2 G call a e)
@[simp] theorem kExt_app {a e x s1} : kExt G call a e x s1 = (R.ofO ((asM s1 x).map fun _ => x) s1).bind (kExt2 G call a e) := Eq.trans rfl rfl
@[simp] theorem ev_ext {o a} : ev G call (.ext o a) e s = (ev G call o e s).bind (kExt G call a e) := by
  rw [ev]
  rcases ev G call o e s with ⟨x, s1⟩ | _ | _ <;> try rfl
  simp only [bindk, kExt_app]
  rcases asM s1 x with _ | _ <;> try rfl
  simp only [Option.map, ofO_some, bindk, kExt2_app]
  rcases ev G call a e s1 with ⟨y, s2⟩ | _ | _ <;> try rfl
  simp only [bindk, kExt3_app]
  rcases extW x y s2 with _ | _ <;> rfl
def celX (o : Option Cell) (n : Nat) (zs : List Val) (s : Store) : Option Store := match o with
  | some (.lst ys) => if ys.length + zs.length ≤ szL then some (s.set n (.lst (ys ++ zs))) else none
  | _ => none
@[simp] theorem celX_lst {xs n zs} : celX (some (.lst xs)) n zs s = if xs.length + zs.length ≤ szL then some (s.set n (.lst (xs ++ zs))) else none := Eq.trans rfl rfl
@[simp] theorem extW_lst {n zs} : extW (.ref n) (.lst zs) s = celX s[n]? n zs s := by
  show (match s[n]? with | some (.lst xs) => _ | _ => none) = _
  unfold celX; rfl
def rng3R (x y z : Val) (s : Store) : R (List Val × Option (Nat × List Val)) := match rng3V x y z with
  | some xs => .ok (xs, none) s
  | none => .stk
@[simp] theorem rng3R_app {x y z} : rng3R x y z s = match rng3V x y z with
  | some xs => .ok (xs, none) s
  | none => .stk := Eq.trans rfl rfl
noncomputable def kRng3c (c : ME) (x y : Val) (s2 : Store) : R (List Val × Option (Nat × List Val)) := (ev G call c e s2).bind (rng3R x y)
@[simp] theorem kRng3c_app {c x y s2} : kRng3c G call e c x y s2 = (ev G call c e s2).bind (rng3R x y) := Eq.trans rfl rfl
noncomputable def kRng3b (b c : ME) (x : Val) (s1 : Store) : R (List Val × Option (Nat × List Val)) := (ev G call b e s1).bind (kRng3c G call e c x)
@[simp] theorem kRng3b_app {b c x s1} : kRng3b G call e b c x s1 = (ev G call b e s1).bind (kRng3c G call e c x) := Eq.trans rfl rfl
@[simp] theorem evI_rng3 {a b c} : evI G call (.rng3 a b c) e s = (ev G call a e s).bind (kRng3b G call e b c) := by
  rw [evI]; congr 1
theorem rng3_up {i c : Int} {n : Nat} (hi : -1000000 ≤ i ∧ i ≤ 1000000) (hc : 1 ≤ c ∧ c ≤ 1000) (hn : n ≤ 1000000) : rng3V (.int i) (.int (i + (n : Nat) * c)) (.int c) = some (rngC i c n) := by
  have hm : (n : Int) * c ≤ (n : Int) * 1000 := Int.mul_le_mul_of_nonneg_left hc.2 (by omega)
  have h0 : 0 ≤ (n : Int) * c := Int.mul_nonneg (by omega) (by omega)
  have e : Builtin.Range.rangeSize i (i + (n : Nat) * c) c = n := by
    unfold Builtin.Range.rangeSize
    rw [if_pos (by omega)]
    rcases Nat.eq_zero_or_pos n with rfl | hp
    · simp
    · have : c ≤ (n : Int) * c := by
        have := Int.mul_le_mul_of_nonneg_right (show (1 : Int) ≤ n by omega) (show 0 ≤ c by omega)
        omega
      rw [if_pos (by omega)]
      have e1 : i + (n : Int) * c - i - 1 = ((n : Int) - 1) * c + (c - 1) := by rw [Int.sub_mul]; omega
      rw [e1, show ((n : Int) - 1) * c + (c - 1) = (c - 1) + ((n : Int) - 1) * c by omega, Int.add_mul_ediv_right _ _ (by omega), Int.ediv_eq_zero_of_lt (by omega) (by omega)]
      omega
  have hs : Builtin.Range.small i (i + (n : Nat) * c) c = true := by
    unfold Builtin.Range.small
    rw [e]
    rw [if_pos (show c > 0 by omega)]
    simp only [Builtin.Range.rangeFitsLong, Bool.and_eq_true, Bool.or_eq_true, decide_eq_true_eq, beq_iff_eq, show (2 : Int) ^ 63 = 9223372036854775808 by decide]
    refine ⟨⟨⟨⟨?_, ?_⟩, ?_⟩, ?_⟩, .inr ?_⟩ <;> constructor <;> omega
  unfold rng3V
  simp only
  rw [if_pos ⟨by omega, by omega, hs, by rw [e]; omega⟩, e]
  simp
noncomputable def kSetP2 (i j : Nat) (v w : Val) (s2 : Store) : O := .nx ((e.set i (some v)).set j (some w)) s2
@[simp] theorem kSetP2_app {i j v w s2} : kSetP2 e i j v w s2 = .nx ((e.set i (some v)).set j (some w)) s2 := Eq.trans rfl rfl
noncomputable def kSetP (i j : Nat) (b : ME) (v : Val) (s1 : Store) : O := (ev G call b e s1).thenO e (kSetP2 e i j v)
@[simp] theorem kSetP_app {i j b v s1} : kSetP G call e i j b v s1 = (ev G call b e s1).thenO e (kSetP2 e i j v) := Eq.trans rfl rfl
@[simp] theorem sv_setP {i j a b} : sv G call (.setP i j a b) e s = (ev G call a e s).thenO e (kSetP G call e i j b) := by rw [sv]; rfl
/-- list(range(n)), bits, places -/
@[simp] theorem ev_lrg {m a} : ev G call (.lrg m a) e s = (ev G call a e s).bind (lrgV m) := by rw [ev]
theorem lrgV_nat {m : Bool} {n : Nat} (h : n ≤ 1000000) : lrgV m (.int (n : Int)) s = putL m (rngL 0 n) s := by
  unfold lrgV
  simp only
  rw [if_pos (by rw [Bool.and_eq_true]; exact ⟨decide_eq_true (by omega), decide_eq_true (by omega)⟩), Int.toNat_natCast]
noncomputable def kBtl (x : Val) (s1 : Store) : R Val := R.ofO (btlV x) s1
@[simp] theorem kBtl_app {x s1} : kBtl x s1 = R.ofO (btlV x) s1 := Eq.trans rfl rfl
@[simp] theorem ev_btl {a} : ev G call (.btl a) e s = (ev G call a e s).bind kBtl := by rw [ev]; rfl
@[simp] theorem btlV_int {i : Int} : btlV (.int i) = some (.int (Builtin.Int.intBits i : Nat)) := Eq.trans rfl rfl
noncomputable def kLix3 (x y : Val) (s2 : Store) : R Val := R.ofO (lixV s2 x y) s2
@[simp] theorem kLix3_app {x y s2} : kLix3 x y s2 = R.ofO (lixV s2 x y) s2 := Eq.trans rfl rfl
noncomputable def kLix2 (a : ME) (e : Env) (x : Val) (s1 : Store) : R Val := (ev G call a e s1).bind (kLix3 x)
@[simp] theorem kLix2_app {a e x s1} : kLix2 G call a e x s1 = (ev G call a e s1).bind (kLix3 x) := Eq.trans rfl rfl
noncomputable def kLix (a : ME) (e : Env) (x : Val) (s1 : Store) : R Val := (R.ofO ((asL s1 x).map fun _ => x) s1).bind (kLix2 G call a e)
@[simp] theorem kLix_app {a e x s1} : kLix G call a e x s1 = (R.ofO ((asL s1 x).map fun _ => x) s1).bind (kLix2 G call a e) := Eq.trans rfl rfl
@[simp] theorem ev_lix {o a} : ev G call (.lix o a) e s = (ev G call o e s).bind (kLix G call a e) := by
  rw [ev]
  rcases ev G call o e s with ⟨x, s1⟩ | _ | _ <;> try rfl
theorem lixV_lst {ns : List Int} {i : Int} : lixV s (.lst (ns.map .int)) (.int i) = (ixI i ns 0).map fun j => .int (j : Nat) := by
  unfold lixV
  have : ∀ ns : List Int, intsOf (ns.map Val.int) = some ns := fun ns => by
    induction ns with
    | nil => rfl
    | cons n ns ih => rw [List.map_cons, intsOf, ih]; rfl
  simp only [asL_lst, Option.bind_some, this]
/-- two clauses -/
noncomputable def kInB (tg1 : TG) (cs1 : MEs) (el : ME) (e1 : Env) (acc : List Val) (p1 : List Val × Option (Nat × List Val)) (s4 : Store) : R (List Val) := lcL (stepC G call e1 tg1 cs1 el) p1.2 p1.1 acc s4
@[simp] theorem kInB_app {tg1 cs1 el e1 acc p1 s4} : kInB G call tg1 cs1 el e1 acc p1 s4 = lcL (stepC G call e1 tg1 cs1 el) p1.2 p1.1 acc s4 := Eq.trans rfl rfl
noncomputable def kInA (it1 : IT) (tg1 : TG) (cs1 : MEs) (el : ME) (e1 : Env) (acc : List Val) (b : Bool) (s3 : Store) : R (List Val) := if b = true then (evI G call it1 e1 s3).bind (kInB G call tg1 cs1 el e1 acc) else .ok acc s3
@[simp] theorem kInA_app {it1 tg1 cs1 el e1 acc b s3} : kInA G call it1 tg1 cs1 el e1 acc b s3 = if b = true then (evI G call it1 e1 s3).bind (kInB G call tg1 cs1 el e1 acc) else .ok acc s3 := Eq.trans rfl rfl
noncomputable def outA (cs : MEs) (it1 : IT) (tg1 : TG) (cs1 : MEs) (el : ME) (acc : List Val) (s2 : Store) (o : Option Env) : R (List Val) := match o with
  | some e1 => ((evC G call cs e1 s2).bind (kInA G call it1 tg1 cs1 el e1 acc)).nox
  | none => .stk
@[simp] theorem outA_some {cs it1 tg1 cs1 el acc s2 e1} : outA G call cs it1 tg1 cs1 el acc s2 (some e1) = ((evC G call cs e1 s2).bind (kInA G call it1 tg1 cs1 el e1 acc)).nox := Eq.trans rfl rfl
noncomputable def outC (tg : TG) (cs : MEs) (tg1 : TG) (it1 : IT) (cs1 : MEs) (el : ME) (x : Val) (acc : List Val) (s2 : Store) : R (List Val) := outA G call cs it1 tg1 cs1 el acc s2 (asg tg x (wipeE e (tgS tg ++ tgS tg1)))
noncomputable def kLc2 (m : Bool) (tg : TG) (cs : MEs) (tg1 : TG) (it1 : IT) (cs1 : MEs) (el : ME) (p : List Val × Option (Nat × List Val)) (s1 : Store) : R Val := (lc2L (outC G call e tg cs tg1 it1 cs1 el) p.2 p.1 [] s1).bind (putL m)
@[simp] theorem kLc2_app {m tg cs tg1 it1 cs1 el p s1} : kLc2 G call e m tg cs tg1 it1 cs1 el p s1 = (lc2L (outC G call e tg cs tg1 it1 cs1 el) p.2 p.1 [] s1).bind (putL m) := Eq.trans rfl rfl
@[simp] theorem ev_lc2 {m tg it cs tg1 it1 cs1 el} : ev G call (.lc2 m tg it cs tg1 it1 cs1 el) e s = (evI G call it e s).bind (kLc2 G call e m tg cs tg1 it1 cs1 el) := by
  rw [ev]; rfl
theorem lc2L_map {f : Val → List Val → Store → R (List Val)} {s : Store} {α : Type} (a : α → Val) (g : α → List Val) (w B : Nat) : ∀ (L : List α) (acc : List Val), (∀ x ∈ L, ∀ acc : List Val, acc.length + w ≤ B → f (a x) acc s = .ok (acc ++ g x) s) → (∀ x ∈ L, (g x).length ≤ w) → acc.length + L.length * w ≤ B → lc2L f none (L.map a) acc s = .ok (acc ++ L.flatMap g) s
  | [], acc, _, _, _ => by simp [lc2L]
  | x :: r, acc, h, hw, hl => by
    have hx := hw x (by simp)
    have e : (x :: r).length * w = r.length * w + w := by rw [List.length_cons, Nat.add_mul, Nat.one_mul]
    rw [e] at hl
    rw [List.map_cons, lc2L]
    simp only [stands_none, ↓reduceIte]
    rw [h x (by simp) acc (by omega), bindk, lc2L_map a g w B r (acc ++ g x) (fun y hy => h y (by simp [hy])) (fun y hy => hw y (by simp [hy])) (by rw [List.length_append]; omega)]
    simp
end
end Ev.P

set_option Elab.async false
set_option linter.all false
set_option maxRecDepth 100000
set_option autoImplicit false
namespace KK
open PySem PySem.Spec PyProof.Rows L2 Ev
def topS (i : Nat) : PySem.Stmt := PySem.Challenge.pw_fourread_k24_equations_added.main.body.getD i (.Pass ⟨0, 0, 0, 0⟩)
def inS (i j : Nat) : PySem.Stmt := match topS i with
  | .ClassDef _ _ _ b _ _ _ _ _ _ _ => b.getD j (.Pass ⟨0, 0, 0, 0⟩)
  | _ => .Pass ⟨0, 0, 0, 0⟩
def f0 : FnT := ⟨("is_integer", none), 1, ["value"],
    (.cons (.ret (.and (.isi (.var 0) [.int] true) (.nt (.isi (.var 0) [.bool] true))))
    .nil), false, []⟩
def f1 : FnT := ⟨("is_between", none), 3, ["value", "low", "high"],
    (.cons (.ret (.and (.fnc 0 (.cons (.var 0) .nil)) (.chn .LtE .LtE (.var 1) (.var 0) (.var 2))))
    .nil), false, []⟩
def f2 : FnT := ⟨("is_bit", none), 1, ["value"],
    (.cons (.ret (.fnc 1 (.cons (.var 0) (.cons (.con (.int 0)) (.cons (.con (.int 1)) .nil)))))
    .nil), false, []⟩
def f3 : FnT := ⟨("is_bits", none), 1, ["value", "one"],
    (.cons (.ret (.and (.isi (.var 0) [.tuple] true) (.gen .all (.nm 1) (.val (.var 0)) .nil (.fnc 2 (.cons (.var 1) .nil)))))
    .nil), false, []⟩
def f4 : FnT := ⟨("is_some_word", none), 1, ["value"],
    (.cons (.ret (.and (.fnc 3 (.cons (.var 0) .nil)) (.chn .LtE .LtE (.con (.int 1)) (.bif .len false (.cons (.var 0) .nil)) (.glb 0))))
    .nil), false, []⟩
def f5 : FnT := ⟨("is_word", none), 2, ["value", "n"],
    (.cons (.ret (.and (.fnc 4 (.cons (.var 0) .nil)) (.cmp .Eq (.bif .len false (.cons (.var 0) .nil)) (.var 1))))
    .nil), false, []⟩
def f6 : FnT := ⟨("word_at", none), 2, ["n", "number", "place"],
    (.cons (.ret (.gen .tuple (.nm 2) (.rng (.var 0)) .nil (.bin .BitAnd (.bin .RShift (.var 1) (.bin .Sub (.bin .Sub (.var 0) (.con (.int 1))) (.var 2))) (.con (.int 1)))))
    .nil), false, []⟩
def f7 : FnT := ⟨("all_words", none), 1, ["n", "number"],
    (.cons (.cond (.nt (.fnc 1 (.cons (.var 0) (.cons (.con (.int 1)) (.cons (.glb 0) .nil)))))
    (.cons (.rais 1 (.cons (.var 0) .nil))
    .nil)
    .nil)
    (.cons (.ret (.gen .tuple (.nm 1) (.rng (.bin .LShift (.con (.int 1)) (.var 0))) .nil (.fnc 6 (.cons (.var 0) (.cons (.var 1) .nil)))))
    .nil)), false, []⟩
def f8 : FnT := ⟨("is_number_below", none), 2, ["value", "limit"],
    (.cons (.ret (.and (.isi (.var 0) [.int] true) (.and (.nt (.isi (.var 0) [.bool] true)) (.chn .LtE .Lt (.con (.int 0)) (.var 0) (.var 1)))))
    .nil), false, []⟩
def f9 : FnT := ⟨("ascends", none), 1, ["row", "k"],
    (.cons (.ret (.gen .all (.nm 1) (.rng (.bin .Sub (.bif .len false (.cons (.var 0) .nil)) (.con (.int 1)))) .nil (.cmp .Lt (.idx (.var 0) (.var 1)) (.idx (.var 0) (.bin .Add (.var 1) (.con (.int 1)))))))
    .nil), false, []⟩
def f10 : FnT := ⟨("is_pair", none), 2, ["value", "n"],
    (.cons (.cond (.or (.nt (.isi (.var 0) [.tuple] true)) (.cmp .NotEq (.bif .len false (.cons (.var 0) .nil)) (.con (.int 2))))
    (.cons (.ret (.con (.bl false)))
    .nil)
    .nil)
    (.cons (.cond (.or (.nt (.fnc 8 (.cons (.idx (.var 0) (.con (.int 0))) (.cons (.var 1) .nil)))) (.nt (.fnc 8 (.cons (.idx (.var 0) (.con (.int 1))) (.cons (.var 1) .nil)))))
    (.cons (.ret (.con (.bl false)))
    .nil)
    .nil)
    (.cons (.ret (.cmp .Lt (.idx (.var 0) (.con (.int 0))) (.idx (.var 0) (.con (.int 1)))))
    .nil))), false, []⟩
def f11 : FnT := ⟨("is_equation", none), 2, ["value", "n", "pairs", "singles", "right", "pair", "i"],
    (.cons (.cond (.or (.nt (.isi (.var 0) [.tuple] true)) (.cmp .NotEq (.bif .len false (.cons (.var 0) .nil)) (.con (.int 3))))
    (.cons (.ret (.con (.bl false)))
    .nil)
    .nil)
    (.cons (.setT [2, 3, 4] (.var 0))
    (.cons (.cond (.or (.nt (.isi (.var 2) [.tuple] true)) (.or (.nt (.isi (.var 3) [.tuple] true)) (.nt (.fnc 8 (.cons (.var 4) (.cons (.con (.int 2)) .nil))))))
    (.cons (.ret (.con (.bl false)))
    .nil)
    .nil)
    (.cons (.cond (.or (.nt (.gen .all (.nm 5) (.val (.var 2)) .nil (.fnc 10 (.cons (.var 5) (.cons (.var 1) .nil))))) (.nt (.gen .all (.nm 6) (.val (.var 3)) .nil (.fnc 8 (.cons (.var 6) (.cons (.var 1) .nil))))))
    (.cons (.ret (.con (.bl false)))
    .nil)
    .nil)
    (.cons (.ret (.and (.fnc 9 (.cons (.var 2) .nil)) (.fnc 9 (.cons (.var 3) .nil))))
    .nil))))), false, []⟩
def f12 : FnT := ⟨("fits", none), 2, ["equation", "word", "pairs", "singles", "right", "total", "i", "j"],
    (.cons (.setT [2, 3, 4] (.var 0))
    (.cons (.set 5 (.bin .Add (.gen .sum (.tp [6, 7]) (.val (.var 2)) .nil (.bin .Mult (.idx (.var 1) (.var 6)) (.idx (.var 1) (.var 7)))) (.gen .sum (.nm 6) (.val (.var 3)) .nil (.idx (.var 1) (.var 6)))))
    (.cons (.ret (.cmp .Eq (.bin .Mod (.var 5) (.con (.int 2))) (.var 4)))
    .nil))), false, []⟩
def f13 : FnT := ⟨("pairs_below", none), 1, ["n", "i", "j"],
    (.cons (.ret (.lc2 false (.nm 1) (.rng (.var 0)) .nil (.nm 2) (.rng2 (.bin .Add (.var 1) (.con (.int 1))) (.var 0)) .nil (.tup (.cons (.var 1) (.cons (.var 2) .nil)))))
    .nil), false, []⟩
def f14 : FnT := ⟨("added_terms", none), 3, ["every", "one", "other", "term"],
    (.cons (.ret (.bif .tuple false (.cons (.lc false (.nm 3) (.val (.var 0)) (.cons (.cmp .NotEq (.cmp .In (.var 3) (.var 1)) (.cmp .In (.var 3) (.var 2))) .nil) (.var 3)) .nil)))
    .nil), false, []⟩
def f15 : FnT := ⟨("row_added", none), 3, ["system", "i", "j", "number", "one", "other", "pairs", "singles", "both"],
    (.cons (.for_ (.nm 3) (.val (.tup (.cons (.var 1) (.cons (.var 2) .nil))))
    (.cons (.cond (.nt (.fnc 8 (.cons (.var 3) (.cons (.bif .len false (.cons (.att (.var 0) 22) .nil)) .nil))))
    (.cons (.rais 1 (.cons (.var 3) .nil))
    .nil)
    .nil)
    .nil))
    (.cons (.cond (.cmp .Eq (.var 1) (.var 2))
    (.cons (.rais 4 (.cons (.con (.str "rows")) .nil))
    .nil)
    .nil)
    (.cons (.set 4 (.idx (.att (.var 0) 22) (.var 1)))
    (.cons (.set 5 (.idx (.att (.var 0) 22) (.var 2)))
    (.cons (.set 6 (.fnc 14 (.cons (.fnc 13 (.cons (.att (.var 0) 23) .nil)) (.cons (.idx (.var 4) (.con (.int 0))) (.cons (.idx (.var 5) (.con (.int 0))) .nil)))))
    (.cons (.set 7 (.fnc 14 (.cons (.lrg false (.att (.var 0) 23)) (.cons (.idx (.var 4) (.con (.int 1))) (.cons (.idx (.var 5) (.con (.int 1))) .nil)))))
    (.cons (.set 8 (.tup (.cons (.var 6) (.cons (.var 7) (.cons (.bin .Mod (.bin .Add (.idx (.var 4) (.con (.int 2))) (.idx (.var 5) (.con (.int 2)))) (.con (.int 2))) .nil)))))
    (.cons (.ret (.mk 5 (.cons (.att (.var 0) 23) (.cons (.bin .Add (.bin .Add (.slc (.att (.var 0) 22) .nil (.cons (.var 2) .nil)) (.tup (.cons (.var 8) .nil))) (.slc (.att (.var 0) 22) (.cons (.bin .Add (.var 2) (.con (.int 1))) .nil) .nil)) .nil))))
    .nil)))))))), false, []⟩
def f16 : FnT := ⟨("_law_mixed", none), 2, ["_law_number", "_law_turn", "_law_first", "_law_second"],
    (.cons (.set 2 (.bin .Mod (.bif .int false (.cons (.bin .Add (.bin .Add (.bin .Mult (.var 0) (.con (.int 48271))) (.bin .Mult (.var 1) (.con (.int 69621)))) (.con (.int 11))) .nil)) (.con (.int 2147483647))))
    (.cons (.set 3 (.bin .Mod (.bif .int false (.cons (.bin .Add (.bin .Add (.bin .Mult (.var 2) (.con (.int 16807))) (.bin .FloorDiv (.var 2) (.con (.int 127773)))) (.bin .Mult (.var 1) (.con (.int 271)))) .nil)) (.con (.int 1000003))))
    (.cons (.ret (.bin .Mod (.bif .int false (.cons (.bin .Add (.bin .Mult (.var 3) (.var 3)) (.bin .FloorDiv (.var 2) (.con (.int 1009)))) .nil)) (.con (.int 999983))))
    .nil))), false, []⟩
def f17 : FnT := ⟨("_law_tape", none), 1, ["_law_script"],
    (.cons (.ret (.dsp ["cells", "at", "great", "left", "seed", "turn"] (.cons (.bif .list false (.cons (.var 0) .nil)) (.cons (.con (.int 0)) (.cons (.con (.int 0)) (.cons (.con (.int 0)) (.cons (.con (.int 7)) (.cons (.con (.int 0)) .nil))))))))
    .nil), true, []⟩
def f18 : FnT := ⟨("_law_draw", none), 2, ["_law_tape_here", "_law_many", "_law_cell", "_law_digit"],
    (.cons (.setD (.var 0) (.con (.str "turn")) (.bin .Add (.dgt (.var 0) (.con (.str "turn"))) (.con (.int 1))))
    (.cons (.cond (.and (.cmp .Eq (.dgt (.var 0) (.con (.str "left"))) (.con (.int 0))) (.cmp .Lt (.dgt (.var 0) (.con (.str "at"))) (.bif .len false (.cons (.dgt (.var 0) (.con (.str "cells"))) .nil))))
    (.cons (.set 2 (.idx (.dgt (.var 0) (.con (.str "cells"))) (.dgt (.var 0) (.con (.str "at")))))
    (.cons (.setD (.var 0) (.con (.str "at")) (.bin .Add (.dgt (.var 0) (.con (.str "at"))) (.con (.int 1))))
    (.cons (.setD (.var 0) (.con (.str "seed")) (.fnc 16 (.cons (.bin .Add (.dgt (.var 0) (.con (.str "seed"))) (.var 2)) (.cons (.dgt (.var 0) (.con (.str "at"))) .nil))))
    (.cons (.setD (.var 0) (.con (.str "left")) (.con (.int 4)))
    (.cons (.cond (.cmp .GtE (.var 2) (.bin .Pow (.con (.int 10)) (.con (.int 18))))
    (.cons (.setD (.var 0) (.con (.str "great")) (.var 2))
    (.cons (.setD (.var 0) (.con (.str "left")) (.con (.int 60)))
    .nil))
    .nil)
    .nil)))))
    .nil)
    (.cons (.cond (.cmp .Gt (.dgt (.var 0) (.con (.str "left"))) (.con (.int 0)))
    (.cons (.setD (.var 0) (.con (.str "left")) (.bin .Sub (.dgt (.var 0) (.con (.str "left"))) (.con (.int 1))))
    .nil)
    .nil)
    (.cons (.cond (.cmp .Eq (.dgt (.var 0) (.con (.str "great"))) (.con (.int 0)))
    (.cons (.ret (.bin .Mod (.bif .int false (.cons (.fnc 16 (.cons (.dgt (.var 0) (.con (.str "seed"))) (.cons (.dgt (.var 0) (.con (.str "turn"))) .nil))) .nil)) (.var 1)))
    .nil)
    .nil)
    (.cons (.set 3 (.bin .Mod (.bif .int false (.cons (.dgt (.var 0) (.con (.str "great"))) .nil)) (.con (.int 1009))))
    (.cons (.setD (.var 0) (.con (.str "great")) (.bin .FloorDiv (.dgt (.var 0) (.con (.str "great"))) (.con (.int 1009))))
    (.cons (.cond (.or (.cmp .Eq (.dgt (.var 0) (.con (.str "great"))) (.con (.int 0))) (.cmp .Eq (.dgt (.var 0) (.con (.str "left"))) (.con (.int 0))))
    (.cons (.setD (.var 0) (.con (.str "great")) (.con (.int 0)))
    (.cons (.setD (.var 0) (.con (.str "left")) (.con (.int 0)))
    .nil))
    .nil)
    (.cons (.ret (.bin .Mod (.bif .int false (.cons (.var 3) .nil)) (.var 1)))
    .nil)))))))), false, []⟩
def f19 : FnT := ⟨("_law_pick", none), 2, ["_law_tape_here", "_law_row"],
    (.cons (.ret (.idx (.var 1) (.fnc 18 (.cons (.var 0) (.cons (.bif .len false (.cons (.var 1) .nil)) .nil)))))
    .nil), false, []⟩
def f20 : FnT := ⟨("_law_word", none), 2, ["_law_tape_here", "_law_n", "_law_bits", "_law_k", "_law_number", "_law_at"],
    (.cons (.set 2 (.lst false .nil))
    (.cons (.for_ (.nm 3) (.rng (.bin .FloorDiv (.bin .Add (.var 1) (.con (.int 7))) (.con (.int 8))))
    (.cons (.set 4 (.fnc 18 (.cons (.var 0) (.cons (.con (.int 256)) .nil))))
    (.cons (.set 2 (.bin .Add (.var 2) (.lc false (.nm 5) (.rng (.con (.int 8))) .nil (.bin .Mod (.bif .int false (.cons (.bin .RShift (.var 4) (.var 5)) .nil)) (.con (.int 2))))))
    .nil)))
    (.cons (.ret (.bif .tuple false (.cons (.slc (.var 2) .nil (.cons (.var 1) .nil)) .nil)))
    .nil))), false, []⟩
def f21 : FnT := ⟨("_law_words", none), 1, ["_law_n", "_law_at", "_law_number"],
    (.cons (.ret (.lc false (.nm 2) (.rng (.bin .LShift (.con (.int 1)) (.var 0))) .nil (.bif .tuple false (.cons (.lc false (.nm 1) (.rng (.var 0)) .nil (.bin .Mod (.bif .int false (.cons (.bin .RShift (.var 2) (.bin .Sub (.bin .Sub (.var 0) (.con (.int 1))) (.var 1))) .nil)) (.con (.int 2)))) .nil))))
    .nil), false, []⟩
def f22 : FnT := ⟨("_law_left", none), 2, ["_law_word_here", "_law_equation_here", "_law_total", "_law_i", "_law_j"],
    (.cons (.set 2 (.bin .Add (.bif .sum false (.cons (.lc false (.tp [3, 4]) (.val (.idx (.var 1) (.con (.int 0)))) .nil (.bin .Mult (.idx (.var 0) (.var 3)) (.idx (.var 0) (.var 4)))) .nil)) (.bif .sum false (.cons (.lc false (.nm 3) (.val (.idx (.var 1) (.con (.int 1)))) .nil (.idx (.var 0) (.var 3))) .nil))))
    (.cons (.ret (.bin .Mod (.bif .int false (.cons (.var 2) .nil)) (.con (.int 2))))
    .nil)), false, []⟩
def f23 : FnT := ⟨("_law_fits", none), 2, ["_law_word_here", "_law_equation_here"],
    (.cons (.ret (.cmp .Eq (.fnc 22 (.cons (.var 0) (.cons (.var 1) .nil))) (.idx (.var 1) (.con (.int 2)))))
    .nil), false, []⟩
def f24 : FnT := ⟨("_law_equation", none), 3, ["_law_tape_here", "_law_n", "_law_word_here", "_law_pairs", "_law_i", "_law_j", "_law_singles", "_law_right"],
    (.cons (.set 3 (.lst true .nil))
    (.cons (.for_ (.nm 4) (.rng (.var 1))
    (.cons (.for_ (.nm 5) (.rng2 (.bin .Add (.var 4) (.con (.int 1))) (.var 1))
    (.cons (.cond (.cmp .Lt (.fnc 18 (.cons (.var 0) (.cons (.bin .Add (.var 1) (.con (.int 1))) .nil))) (.con (.int 2)))
    (.cons (.expr (.app (.var 3) (.tup (.cons (.var 4) (.cons (.var 5) .nil)))))
    .nil)
    .nil)
    .nil))
    .nil))
    (.cons (.set 6 (.bif .tuple false (.cons (.lc false (.nm 4) (.rng (.var 1)) (.cons (.cmp .Eq (.fnc 18 (.cons (.var 0) (.cons (.con (.int 3)) .nil))) (.con (.int 0))) .nil) (.var 4)) .nil)))
    (.cons (.set 7 (.fnc 22 (.cons (.var 2) (.cons (.tup (.cons (.var 3) (.cons (.var 6) (.cons (.con (.int 0)) .nil)))) .nil))))
    (.cons (.cond (.cmp .Eq (.fnc 18 (.cons (.var 0) (.cons (.con (.int 5)) .nil))) (.con (.int 0)))
    (.cons (.set 7 (.fnc 18 (.cons (.var 0) (.cons (.con (.int 2)) .nil))))
    .nil)
    .nil)
    (.cons (.ret (.tup (.cons (.bif .tuple false (.cons (.var 3) .nil)) (.cons (.var 6) (.cons (.var 7) .nil)))))
    .nil)))))), false, []⟩
def f25 : FnT := ⟨("_law_equations", none), 4, ["_law_tape_here", "_law_n", "_law_many", "_law_word_here", "_law_k"],
    (.cons (.ret (.bif .tuple false (.cons (.lc false (.nm 4) (.rng (.var 2)) .nil (.fnc 24 (.cons (.var 0) (.cons (.var 1) (.cons (.var 3) .nil))))) .nil)))
    .nil), false, []⟩
def f26 : FnT := ⟨("_law_solves", none), 2, ["_law_word_here", "_law_equations_here", "_law_one"],
    (.cons (.ret (.cmp .Eq (.lc false (.nm 2) (.val (.var 1)) (.cons (.nt (.fnc 23 (.cons (.var 0) (.cons (.var 2) .nil)))) .nil) (.var 2)) (.lst false .nil)))
    .nil), false, []⟩
def f27 : FnT := ⟨("_law_solutions", none), 2, ["_law_n", "_law_equations_here", "_law_word_here"],
    (.cons (.ret (.bif .tuple false (.cons (.lc false (.nm 2) (.val (.fnc 21 (.cons (.var 0) .nil))) (.cons (.fnc 26 (.cons (.var 2) (.cons (.var 1) .nil))) .nil) (.var 2)) .nil)))
    .nil), false, []⟩
def f28 : FnT := ⟨("_law_either", none), 2, ["_law_one", "_law_other", "_law_thing"],
    (.cons (.ret (.bif .tuple false (.cons (.bif .sorted false (.cons (.bin .Add (.lc false (.nm 2) (.val (.var 0)) (.cons (.cmp .NotIn (.var 2) (.var 1)) .nil) (.var 2)) (.lc false (.nm 2) (.val (.var 1)) (.cons (.cmp .NotIn (.var 2) (.var 0)) .nil) (.var 2))) .nil)) .nil)))
    .nil), false, []⟩
def f29 : FnT := ⟨("_law_refusal", none), 3, ["_law_system", "_law_i", "_law_j", "e"],
    (.cons (.trys (.cons (.expr (.fnc 15 (.cons (.var 0) (.cons (.var 1) (.cons (.var 2) .nil)))))
    .nil)
    (.cons 1 (some 3) (.cons (.ret (.ite (.and (.xis 3 [.own 0] true) (.nt (.xis 3 [.own 4] true))) (.tup (.cons (.con (.str "number")) (.cons (.xat 3 24) .nil))) (.con .non)))
    .nil)
    (.cons 4 (some 3) (.cons (.ret (.ite (.and (.xis 3 [.own 0] true) (.nt (.xis 3 [.own 1] true))) (.tup (.cons (.xat 3 25) (.cons (.con (.int 0)) .nil))) (.con .non)))
    .nil)
    .nil)))
    (.cons (.ret (.tup (.cons (.con (.str "none")) (.cons (.con (.int 0)) .nil))))
    .nil)), false, []⟩
def f30 : FnT := ⟨("law", none), 1, ["_law_script", "_law_tape_here", "_law_n", "_law_many", "_law_equations_here", "_law_system", "_law_due", "_law_at", "_law_i", "_law_j", "_law_one", "_law_other", "_law_before", "_law_more", "_law_bad"],
    (.cons (.set 1 (.fnc 17 (.cons (.var 0) .nil)))
    (.cons (.set 2 (.fnc 19 (.cons (.var 1) (.cons (.lst false (.cons (.con (.int 1)) (.cons (.con (.int 2)) (.cons (.con (.int 3)) (.cons (.con (.int 4)) (.cons (.con (.int 5)) (.cons (.con (.int 6)) (.cons (.con (.int 11)) .nil)))))))) .nil))))
    (.cons (.set 3 (.bin .Add (.con (.int 2)) (.fnc 18 (.cons (.var 1) (.cons (.con (.int 4)) .nil)))))
    (.cons (.set 4 (.fnc 25 (.cons (.var 1) (.cons (.var 2) (.cons (.var 3) (.cons (.fnc 20 (.cons (.var 1) (.cons (.var 2) .nil))) .nil))))))
    (.cons (.set 5 (.mk 5 (.cons (.var 2) (.cons (.var 4) .nil))))
    (.cons (.set 6 (.bif .list true (.cons (.var 4) .nil)))
    (.cons (.for_ (.nm 7) (.rng (.bin .Add (.con (.int 1)) (.fnc 18 (.cons (.var 1) (.cons (.con (.int 4)) .nil)))))
    (.cons (.set 8 (.fnc 18 (.cons (.var 1) (.cons (.var 3) .nil))))
    (.cons (.set 9 (.bin .Mod (.bif .int false (.cons (.bin .Add (.bin .Add (.var 8) (.con (.int 1))) (.fnc 18 (.cons (.var 1) (.cons (.bin .Sub (.var 3) (.con (.int 1))) .nil)))) .nil)) (.var 3)))
    (.cons (.setP 10 11 (.idx (.var 6) (.var 8)) (.idx (.var 6) (.var 9)))
    (.cons (.setI (.var 6) (.var 9) (.tup (.cons (.fnc 28 (.cons (.idx (.var 10) (.con (.int 0))) (.cons (.idx (.var 11) (.con (.int 0))) .nil))) (.cons (.fnc 28 (.cons (.idx (.var 10) (.con (.int 1))) (.cons (.idx (.var 11) (.con (.int 1))) .nil))) (.cons (.bin .Mod (.bif .int false (.cons (.bin .Add (.idx (.var 10) (.con (.int 2))) (.idx (.var 11) (.con (.int 2)))) .nil)) (.con (.int 2))) .nil)))))
    (.cons (.set 12 (.rep (.tup (.cons (.att (.var 5) 23) (.cons (.att (.var 5) 22) .nil)))))
    (.cons (.set 13 (.fnc 15 (.cons (.var 5) (.cons (.var 8) (.cons (.var 9) .nil)))))
    (.cons (.cond (.or (.cmp .NotEq (.rep (.tup (.cons (.att (.var 5) 23) (.cons (.att (.var 5) 22) .nil)))) (.var 12)) (.nt (.isi (.var 13) [.own 5] true)))
    (.cons (.ret (.con (.bl false)))
    .nil)
    .nil)
    (.cons (.set 5 (.var 13))
    (.cons (.cond (.cmp .NotEq (.rep (.tup (.cons (.att (.var 5) 23) (.cons (.att (.var 5) 22) .nil)))) (.rep (.tup (.cons (.var 2) (.cons (.bif .tuple false (.cons (.var 6) .nil)) .nil)))))
    (.cons (.ret (.con (.bl false)))
    .nil)
    .nil)
    .nil))))))))))
    (.cons (.cond (.and (.cmp .Lt (.var 2) (.con (.int 7))) (.cmp .NotEq (.rep (.mth (.var 5) 26 .nil)) (.rep (.fnc 27 (.cons (.var 2) (.cons (.var 4) .nil))))))
    (.cons (.ret (.con (.bl false)))
    .nil)
    .nil)
    (.cons (.set 14 (.fnc 19 (.cons (.var 1) (.cons (.lst false (.cons (.var 3) (.cons (.neg (.con (.int 1))) (.cons (.con (.bl true)) (.cons (.con .non) (.cons (.con (.str "0")) (.cons (.tup (.cons (.con (.int 0)) .nil)) (.cons (.bin .Pow (.con (.int 10)) (.con (.int 30))) .nil)))))))) .nil))))
    (.cons (.set 8 (.fnc 18 (.cons (.var 1) (.cons (.var 3) .nil))))
    (.cons (.cond (.cmp .NotEq (.rep (.fnc 29 (.cons (.var 5) (.cons (.var 14) (.cons (.fnc 19 (.cons (.var 1) (.cons (.lst false (.cons (.var 8) (.cons (.con .non) (.cons (.var 3) .nil)))) .nil))) .nil))))) (.rep (.tup (.cons (.con (.str "number")) (.cons (.var 14) .nil)))))
    (.cons (.ret (.con (.bl false)))
    .nil)
    .nil)
    (.cons (.ret (.and (.cmp .Eq (.rep (.fnc 29 (.cons (.var 5) (.cons (.var 8) (.cons (.var 14) .nil))))) (.rep (.tup (.cons (.con (.str "number")) (.cons (.var 14) .nil))))) (.cmp .Eq (.fnc 29 (.cons (.var 5) (.cons (.var 8) (.cons (.var 8) .nil)))) (.tup (.cons (.con (.str "rows")) (.cons (.con (.int 0)) .nil))))))
    .nil)))))))))))), false, []⟩
def f31 : FnT := ⟨("System", some ("__init__" : Str)), 3, ["self", "n", "equations", "k", "equation"],
    (.cons (.cond (.or (.nt (.fnc 8 (.cons (.var 1) (.cons (.con (.int 13)) .nil)))) (.cmp .Eq (.var 1) (.con (.int 0))))
    (.cons (.rais 3 (.cons (.con (.str "size")) (.cons (.con (.int 0)) .nil)))
    .nil)
    .nil)
    (.cons (.cond (.nt (.isi (.var 2) [.list, .tuple] false))
    (.cons (.rais 3 (.cons (.con (.str "equations")) (.cons (.con (.int 0)) .nil)))
    .nil)
    .nil)
    (.cons (.for_ (.tp [3, 4]) (.enm (.var 2))
    (.cons (.cond (.nt (.fnc 11 (.cons (.var 4) (.cons (.var 1) .nil))))
    (.cons (.rais 3 (.cons (.con (.str "equations")) (.cons (.var 3) .nil)))
    .nil)
    .nil)
    .nil))
    (.cons (.setA (.var 0) 23 (.var 1))
    (.cons (.setA (.var 0) 22 (.bif .tuple false (.cons (.var 2) .nil)))
    .nil))))), false, []⟩
def f32 : FnT := ⟨("System", some ("first_wrong" : Str)), 2, ["self", "word", "k", "equation"],
    (.cons (.cond (.nt (.fnc 5 (.cons (.var 1) (.cons (.att (.var 0) 23) .nil))))
    (.cons (.rais 2 (.cons (.var 1) .nil))
    .nil)
    .nil)
    (.cons (.for_ (.tp [2, 3]) (.enm (.att (.var 0) 22))
    (.cons (.cond (.nt (.fnc 12 (.cons (.var 3) (.cons (.var 1) .nil))))
    (.cons (.ret (.var 2))
    .nil)
    .nil)
    .nil))
    (.cons (.ret (.con .non))
    .nil))), false, []⟩
def f33 : FnT := ⟨("System", some ("solutions" : Str)), 1, ["self", "word"],
    (.cons (.ret (.bif .tuple false (.cons (.lc false (.nm 1) (.val (.fnc 7 (.cons (.att (.var 0) 23) .nil))) (.cons (.cmp .Is (.mth (.var 0) 27 (.cons (.var 1) .nil)) (.con .non)) .nil) (.var 1)) .nil)))
    .nil), false, []⟩
def G : Prog := ⟨[f0, f1, f2, f3, f4, f5, f6, f7, f8, f9, f10, f11, f12, f13, f14, f15, f16, f17, f18, f19, f20, f21, f22, f23, f24, f25, f26, f27, f28, f29, f30, f31, f32, f33],
  [⟨"ReadError", none, [], [], false, some [], [0]⟩,
    ⟨"InvalidNumber", none, [], [], false, some [24], [1, 0]⟩,
    ⟨"InvalidWord", none, [], [], false, some [24], [2, 0]⟩,
    ⟨"InvalidSystem", none, [], [], false, some [28, 29], [3, 0]⟩,
    ⟨"Undefined", none, [], [], false, some [25], [4, 0]⟩,
    ⟨"System", (some 31), [23, 22], [(27, 32), (26, 33)], true, none, [5]⟩],
  ["equations", "n", "value", "what", "solutions", "first_wrong", "part", "place"],
  [("LONGEST", .int (12))],
  64, false⟩
def d0 : He.DefD := ⟨("is_integer", none), "is_integer", "is_integer", defArgs (topS 9), defBody (topS 9), defScope (topS 9), [], []⟩
def d1 : He.DefD := ⟨("is_between", none), "is_between", "is_between", defArgs (topS 10), defBody (topS 10), defScope (topS 10), [], []⟩
def d2 : He.DefD := ⟨("is_bit", none), "is_bit", "is_bit", defArgs (topS 11), defBody (topS 11), defScope (topS 11), [], []⟩
def d3 : He.DefD := ⟨("is_bits", none), "is_bits", "is_bits", defArgs (topS 12), defBody (topS 12), defScope (topS 12), [], []⟩
def d4 : He.DefD := ⟨("is_some_word", none), "is_some_word", "is_some_word", defArgs (topS 13), defBody (topS 13), defScope (topS 13), [], []⟩
def d5 : He.DefD := ⟨("is_word", none), "is_word", "is_word", defArgs (topS 14), defBody (topS 14), defScope (topS 14), [], []⟩
def d6 : He.DefD := ⟨("word_at", none), "word_at", "word_at", defArgs (topS 15), defBody (topS 15), defScope (topS 15), [], []⟩
def d7 : He.DefD := ⟨("all_words", none), "all_words", "all_words", defArgs (topS 16), defBody (topS 16), defScope (topS 16), [], []⟩
def d8 : He.DefD := ⟨("is_number_below", none), "is_number_below", "is_number_below", defArgs (topS 18), defBody (topS 18), defScope (topS 18), [], []⟩
def d9 : He.DefD := ⟨("ascends", none), "ascends", "ascends", defArgs (topS 19), defBody (topS 19), defScope (topS 19), [], []⟩
def d10 : He.DefD := ⟨("is_pair", none), "is_pair", "is_pair", defArgs (topS 20), defBody (topS 20), defScope (topS 20), [], []⟩
def d11 : He.DefD := ⟨("is_equation", none), "is_equation", "is_equation", defArgs (topS 21), defBody (topS 21), defScope (topS 21), [], []⟩
def d12 : He.DefD := ⟨("fits", none), "fits", "fits", defArgs (topS 22), defBody (topS 22), defScope (topS 22), [], []⟩
def d13 : He.DefD := ⟨("pairs_below", none), "pairs_below", "pairs_below", defArgs (topS 24), defBody (topS 24), defScope (topS 24), [], []⟩
def d14 : He.DefD := ⟨("added_terms", none), "added_terms", "added_terms", defArgs (topS 25), defBody (topS 25), defScope (topS 25), [], []⟩
def d15 : He.DefD := ⟨("row_added", none), "row_added", "row_added", defArgs (topS 26), defBody (topS 26), defScope (topS 26), [], []⟩
def d16 : He.DefD := ⟨("_law_mixed", none), "_law_mixed", "_law_mixed", defArgs (topS 28), defBody (topS 28), defScope (topS 28), [], []⟩
def d17 : He.DefD := ⟨("_law_tape", none), "_law_tape", "_law_tape", defArgs (topS 29), defBody (topS 29), defScope (topS 29), [], []⟩
def d18 : He.DefD := ⟨("_law_draw", none), "_law_draw", "_law_draw", defArgs (topS 30), defBody (topS 30), defScope (topS 30), [], []⟩
def d19 : He.DefD := ⟨("_law_pick", none), "_law_pick", "_law_pick", defArgs (topS 31), defBody (topS 31), defScope (topS 31), [], []⟩
def d20 : He.DefD := ⟨("_law_word", none), "_law_word", "_law_word", defArgs (topS 32), defBody (topS 32), defScope (topS 32), [], []⟩
def d21 : He.DefD := ⟨("_law_words", none), "_law_words", "_law_words", defArgs (topS 33), defBody (topS 33), defScope (topS 33), [], []⟩
def d22 : He.DefD := ⟨("_law_left", none), "_law_left", "_law_left", defArgs (topS 34), defBody (topS 34), defScope (topS 34), [], []⟩
def d23 : He.DefD := ⟨("_law_fits", none), "_law_fits", "_law_fits", defArgs (topS 35), defBody (topS 35), defScope (topS 35), [], []⟩
def d24 : He.DefD := ⟨("_law_equation", none), "_law_equation", "_law_equation", defArgs (topS 36), defBody (topS 36), defScope (topS 36), [], []⟩
def d25 : He.DefD := ⟨("_law_equations", none), "_law_equations", "_law_equations", defArgs (topS 37), defBody (topS 37), defScope (topS 37), [], []⟩
def d26 : He.DefD := ⟨("_law_solves", none), "_law_solves", "_law_solves", defArgs (topS 38), defBody (topS 38), defScope (topS 38), [], []⟩
def d27 : He.DefD := ⟨("_law_solutions", none), "_law_solutions", "_law_solutions", defArgs (topS 39), defBody (topS 39), defScope (topS 39), [], []⟩
def d28 : He.DefD := ⟨("_law_either", none), "_law_either", "_law_either", defArgs (topS 40), defBody (topS 40), defScope (topS 40), [], []⟩
def d29 : He.DefD := ⟨("_law_refusal", none), "_law_refusal", "_law_refusal", defArgs (topS 41), defBody (topS 41), defScope (topS 41), [], []⟩
def d30 : He.DefD := ⟨("law", none), "law", "law", defArgs (topS 42), defBody (topS 42), defScope (topS 42), [], []⟩
def d31 : He.DefD := ⟨("System", some ("__init__" : Str)), "__init__", "System.__init__", defArgs (inS 23 0), defBody (inS 23 0), defScope (inS 23 0), [], []⟩
def d32 : He.DefD := ⟨("System", some ("first_wrong" : Str)), "first_wrong", "System.first_wrong", defArgs (inS 23 4), defBody (inS 23 4), defScope (inS 23 4), [], []⟩
def d33 : He.DefD := ⟨("System", some ("solutions" : Str)), "solutions", "System.solutions", defArgs (inS 23 5), defBody (inS 23 5), defScope (inS 23 5), [], []⟩
def di1 : He.DefD := ⟨("InvalidNumber", some ("__init__" : Str)), "__init__", "InvalidNumber.__init__", defArgs (inS 3 0), defBody (inS 3 0), defScope (inS 3 0), [], []⟩
def di2 : He.DefD := ⟨("InvalidWord", some ("__init__" : Str)), "__init__", "InvalidWord.__init__", defArgs (inS 4 0), defBody (inS 4 0), defScope (inS 4 0), [], []⟩
def di3 : He.DefD := ⟨("InvalidSystem", some ("__init__" : Str)), "__init__", "InvalidSystem.__init__", defArgs (inS 5 0), defBody (inS 5 0), defScope (inS 5 0), [], []⟩
def di4 : He.DefD := ⟨("Undefined", some ("__init__" : Str)), "__init__", "Undefined.__init__", defArgs (inS 6 0), defBody (inS 6 0), defScope (inS 6 0), [], []⟩
def ds : List (He.DefD × List Str) := [(d0, (["value"] : List Str)), (d1, (["value", "low", "high"] : List Str)), (d2, (["value"] : List Str)), (d3, (["value"] : List Str)), (d4, (["value"] : List Str)), (d5, (["value", "n"] : List Str)), (d6, (["n", "number"] : List Str)), (d7, (["n"] : List Str)), (d8, (["value", "limit"] : List Str)), (d9, (["row"] : List Str)), (d10, (["value", "n"] : List Str)), (d11, (["value", "n"] : List Str)), (d12, (["equation", "word"] : List Str)), (d13, (["n"] : List Str)), (d14, (["every", "one", "other"] : List Str)), (d15, (["system", "i", "j"] : List Str)), (d16, (["_law_number", "_law_turn"] : List Str)), (d17, (["_law_script"] : List Str)), (d18, (["_law_tape_here", "_law_many"] : List Str)), (d19, (["_law_tape_here", "_law_row"] : List Str)), (d20, (["_law_tape_here", "_law_n"] : List Str)), (d21, (["_law_n"] : List Str)), (d22, (["_law_word_here", "_law_equation_here"] : List Str)), (d23, (["_law_word_here", "_law_equation_here"] : List Str)), (d24, (["_law_tape_here", "_law_n", "_law_word_here"] : List Str)), (d25, (["_law_tape_here", "_law_n", "_law_many", "_law_word_here"] : List Str)), (d26, (["_law_word_here", "_law_equations_here"] : List Str)), (d27, (["_law_n", "_law_equations_here"] : List Str)), (d28, (["_law_one", "_law_other"] : List Str)), (d29, (["_law_system", "_law_i", "_law_j"] : List Str)), (d30, (["_law_script"] : List Str)), (d31, (["self", "n", "equations"] : List Str)), (d32, (["self", "word"] : List Str)), (d33, (["self"] : List Str))]
def is : List InD := [⟨1, di1, ["self", "value"], ["self", "value"]⟩, ⟨2, di2, ["self", "value"], ["self", "value"]⟩, ⟨3, di3, ["self", "part", "place"], ["self", "part", "place"]⟩, ⟨4, di4, ["self", "what"], ["self", "what"]⟩]
/- slots: 0 is_integer, 1 is_between, 2 is_bit, 3 is_bits, 4 is_some_word, 5 is_word, 6 word_at, 7 all_words, 8 is_number_below, 9 ascends, 10 is_pair, 11 is_equation, 12 fits, 13 pairs_below, 14 added_terms, 15 row_added, 16 _law_mixed, 17 _law_tape, 18 _law_draw, 19 _law_pick, 20 _law_word, 21 _law_words, 22 _law_left, 23 _law_fits, 24 _law_equation, 25 _law_equations, 26 _law_solves, 27 _law_solutions, 28 _law_either, 29 _law_refusal, 30 law, 31 System.__init__, 32 System.first_wrong, 33 System.solutions -/
end KK
namespace Ev.KP
open PySem Ev.P KK
/-! family A -/
theorem dep {d k : Nat} (h : k ≤ d) : ∃ n, d = n + k := ⟨d - k, by omega⟩
def isI : Val → Bool
  | .int _ => true
  | _ => false
/-! family B: the tape -/
theorem isExv_dat {v : Val} (h : v.dat = true) : isExv v = false := by cases v <;> simp [Val.dat] at h <;> rfl
theorem rngOk_of {i : Int} (h : -1000000000 ≤ i ∧ i ≤ 1000000000) : rngOk i = true := by
  unfold rngOk
  rw [Bool.and_eq_true]
  exact ⟨decide_eq_true (by omega), decide_eq_true (by omega)⟩
theorem le_sz {n : Nat} (h : n ≤ 10000000) : n ≤ szL := le_szL (by omega)
theorem lt_sz {n : Nat} (h : n ≤ 10000000) : n < szL := lt_szL (by omega)
theorem atI_ints {ns : List Int} {p : Int} (h0 : 0 ≤ p) (h1 : p < ns.length) : ∃ i, L2.atI (ns.map Val.int) p = some (.int i) := by
  rw [atI_int h0 (by simpa using h1)]
  refine ⟨ns[p.toNat]'(by omega), ?_⟩
  rw [List.getElem?_map, List.getElem?_eq_getElem (by omega)]; rfl
@[simp] theorem pow_18 {m : Store} : binV m .Pow (.int 10) (.int 18) = some (.int 1000000000000000000) := by rw [binV_powE, show powOk 10 18 = true by decide]; rfl
abbrev tapeK : List Str := ["cells", "at", "great", "left", "seed", "turn"]
section
variable {a b c d e f w : Val}
@[simp] theorem lk_cells : lookS "cells" tapeK [a, b, c, d, e, f] = some a := Eq.trans rfl rfl
@[simp] theorem lk_at : lookS "at" tapeK [a, b, c, d, e, f] = some b := Eq.trans rfl rfl
@[simp] theorem lk_great : lookS "great" tapeK [a, b, c, d, e, f] = some c := Eq.trans rfl rfl
@[simp] theorem lk_left : lookS "left" tapeK [a, b, c, d, e, f] = some d := Eq.trans rfl rfl
@[simp] theorem lk_seed : lookS "seed" tapeK [a, b, c, d, e, f] = some e := Eq.trans rfl rfl
@[simp] theorem lk_turn : lookS "turn" tapeK [a, b, c, d, e, f] = some f := Eq.trans rfl rfl
@[simp] theorem pt_at : putS "at" w tapeK [a, b, c, d, e, f] = some [a, w, c, d, e, f] := Eq.trans rfl rfl
@[simp] theorem pt_great : putS "great" w tapeK [a, b, c, d, e, f] = some [a, b, w, d, e, f] := Eq.trans rfl rfl
@[simp] theorem pt_left : putS "left" w tapeK [a, b, c, d, e, f] = some [a, b, c, w, e, f] := Eq.trans rfl rfl
@[simp] theorem pt_seed : putS "seed" w tapeK [a, b, c, d, e, f] = some [a, b, c, d, w, f] := Eq.trans rfl rfl
@[simp] theorem pt_turn : putS "turn" w tapeK [a, b, c, d, e, f] = some [a, b, c, d, e, w] := Eq.trans rfl rfl
end
@[simp] theorem newD_tape {a b c d e f : Val} {s : Store} : newD tapeK [a, b, c, d, e, f] s = .ok (.ref s.length) (s ++ [.dic tapeK [a, b, c, d, e, f]]) := by
  unfold newD
  rw [if_pos ⟨rfl, by decide, by decide⟩]
def IsH (c : Cell) : Prop := ∃ (ns : List Int) (p g l d t : Int), c = .dic tapeK [.lst (ns.map .int), .int p, .int g, .int l, .int d, .int t] ∧ 0 ≤ p
theorem IsH.bel {c : Cell} (h : IsH c) (k : Nat) : c.bel k = true := by
  obtain ⟨ns, p, g, l, d, t, rfl, _⟩ := h
  simp [Cell.bel]
theorem shut_h {c c' : Cell} {tl : Store} {v : Val} (h : IsH c') (hv : v.bel (tl.length + 1) = true) : shut false (c :: tl) v (c' :: tl) = .ok v (c' :: tl) := by
  have := shut_st (c := c) (c' := c') (tl := tl) (l := []) (v := v) (h.bel _)
  simp only [List.append_nil] at this
  rw [this, frz_bel (by simpa using hv)]; simp
def taken (lim : Int) (tl : Store) (v : Val) (s : Store) : Prop := ∃ i c, v = .int i ∧ s = c :: tl ∧ IsH c ∧ 0 ≤ i ∧ i < lim
theorem r_law_mixed {d : Nat} (h : 1 ≤ d) (a b : Int) {s : Store} : ∃ i : Int, run G d 16 [.int a, .int b] s = .ok (.int i) s := by
  obtain ⟨m, rfl⟩ := dep h
  suffices hs : Oks (run G (m + 1) 16 [.int a, .int b] s) (fun v s' => ∃ i : Int, v = .int i ∧ s' = s) by
    obtain ⟨v, s', e, i, rfl, rfl⟩ := hs
    exact ⟨i, e⟩
  refine run_oks (F := f16) rfl rfl (by decide) ?_
  have m1 : ∀ {m : Store} {x : Int}, binV m .Mult (.int x) (.int 48271) = some (.int (x * 48271)) := fun {m x} => binV_mulR (by decide)
  have m2 : ∀ {m : Store} {x : Int}, binV m .Mult (.int x) (.int 69621) = some (.int (x * 69621)) := fun {m x} => binV_mulR (by decide)
  have m3 : ∀ {m : Store} {x : Int}, binV m .Mult (.int x) (.int 16807) = some (.int (x * 16807)) := fun {m x} => binV_mulR (by decide)
  have m4 : ∀ {m : Store} {x : Int}, binV m .Mult (.int x) (.int 271) = some (.int (x * 271)) := fun {m x} => binV_mulR (by decide)
  have m5 : ∀ {m : Store} {x : Int}, binV m .Mult (.int (x % 1000003)) (.int (x % 1000003)) = some (.int ((x % 1000003) * (x % 1000003))) := fun {m x} => binV_mulR (by omega)
  simp [f16, m1, m2, m3, m4, m5, binV_mod, binV_div]
  rw [shut_same (by simp)]
  simp
theorem r_law_draw {d : Nat} (h : 2 ≤ d) {c : Cell} (hd : IsH c) (tl : Store) (lim : Int) (hl : 0 < lim) : Oks (run G d 18 [.ref 0, .int lim] (c :: tl)) (taken lim tl) := by
  obtain ⟨n, rfl⟩ := dep h
  obtain ⟨ns, p, g, l, d, t, rfl, hp⟩ := hd
  refine run_oks (F := f18) rfl rfl (by decide) ?_
  simp [f18]
  obtain ⟨P, hP⟩ := named fun (e : Env) (s : Store) => ∃ (x2 : Option Val) (ns : List Int) (p g l d t : Int), e = [some (.ref 0), some (.int lim), x2, none] ∧ s = .dic tapeK [.lst (ns.map .int), .int p, .int g, .int l, .int d, .int t] :: tl ∧ 0 ≤ p
  refine seq_cut P (cond_one (fun h => ?_) fun h => ?_) fun e s h => ?_
  · simp at h
    obtain ⟨i, hi⟩ := atI_ints hp h.2
    obtain ⟨j, hj⟩ := r_law_mixed (d := n + 1) (by omega) (d + i) (p + 1) (s := .dic tapeK [.lst (ns.map .int), .int (p + 1), .int g, .int l, .int d, .int (t + 1)] :: tl)
    simp [hi, hj]
    refine cond_seq (fun h => ?_) fun h => ?_
    · simp
      rw [hP]
      exact ⟨_, ns, p + 1, i, 60, j, t + 1, rfl, rfl, by omega⟩
    · simp
      rw [hP]
      exact ⟨_, ns, p + 1, g, 4, j, t + 1, rfl, rfl, by omega⟩
  · simp
    rw [hP]
    exact ⟨_, ns, p, g, l, d, t + 1, rfl, rfl, hp⟩
  rw [hP] at h
  obtain ⟨x2, ns, p, g, l, d, t, rfl, rfl, hp⟩ := h
  simp
  refine seq_cut P (cond_one (fun h => ?_) fun h => ?_) fun e s h => ?_
  · simp
    rw [hP]
    exact ⟨_, ns, p, g, l - 1, d, t, rfl, rfl, hp⟩
  · simp
    rw [hP]
    exact ⟨_, ns, p, g, l, d, t, rfl, rfl, hp⟩
  rw [hP] at h
  clear hP P
  obtain ⟨x2, ns, p, g, l, d, t, rfl, rfl, hp⟩ := h
  simp
  refine cond_seq (fun h => ?_) fun h => ?_
  · obtain ⟨j, hj⟩ := r_law_mixed (d := n + 1) (by omega) d t (s := .dic tapeK [.lst (ns.map .int), .int p, .int g, .int l, .int d, .int t] :: tl)
    simp [hj, binV_mod hl]
    rw [shut_h ⟨ns, p, g, l, d, t, rfl, hp⟩ (by simp)]
    simp
    exact ⟨_, _, rfl, rfl, ⟨ns, p, g, l, d, t, rfl, hp⟩, Int.emod_nonneg _ (by omega), Int.emod_lt_of_pos _ hl⟩
  · simp [binV_mod (show (0 : Int) < 1009 by decide), binV_div (show (0 : Int) < 1009 by decide) (by decide)]
    refine cond_seq (fun h => ?_) fun h => ?_
    · simp [binV_mod hl]
      rw [shut_h ⟨ns, p, 0, 0, d, t, rfl, hp⟩ (by simp)]
      simp
      exact ⟨_, _, rfl, rfl, ⟨ns, p, 0, 0, d, t, rfl, hp⟩, Int.emod_nonneg _ (by omega), Int.emod_lt_of_pos _ hl⟩
    · simp [binV_mod hl]
      rw [shut_h ⟨ns, p, _, l, d, t, rfl, hp⟩ (by simp)]
      simp
      exact ⟨_, _, rfl, rfl, ⟨ns, p, _, l, d, t, rfl, hp⟩, Int.emod_nonneg _ (by omega), Int.emod_lt_of_pos _ hl⟩
theorem r_law_tape {d : Nat} (h : 1 ≤ d) (ns : List Int) : ∃ c, IsH c ∧ run G d 17 [.scr (ns.map .int)] [] = .ok (.ref 0) [c] := by
  obtain ⟨m, rfl⟩ := dep h
  refine ⟨_, ⟨ns, 0, 0, 0, 7, 0, rfl, by omega⟩, ?_⟩
  rw [run_fn (F := f17) rfl rfl (by decide)]
  simp [f17, shut]
/-! the transform by signs: mathematics -/
/-- a number's bit -/
def bt (k j : Nat) : Nat := k / 2 ^ j % 2
theorem bt_lt (k j : Nat) : bt k j < 2 := Nat.mod_lt _ (by decide)
def par : Nat → Nat → Nat → Nat
  | 0, _, _ => 0
  | j + 1, a, k => par j a k + bt a j * bt k j
def sg (j a k : Nat) : Int := if par j a k % 2 = 0 then 1 else -1
def sumR (M : Nat) (f : Nat → Int) : Int := ((List.range M).map f).sum
def FF (t : Nat → Int) : Nat → Nat → Int
  | 0, k => t k
  | j + 1, k => if bt k j = 0 then FF t j k + FF t j (k + 2 ^ j) else FF t j (k - 2 ^ j) - FF t j k
theorem sumR_add (a b : Nat) (f : Nat → Int) : sumR (a + b) f = sumR a f + sumR b fun m => f (a + m) := by
  unfold sumR
  rw [List.range_add, List.map_append, List.sum_append, List.map_map]; rfl
theorem sumR_first (n : Nat) (f : Nat → Int) : sumR (n + 1) f = f 0 + sumR n fun p => f (p + 1) := by
  unfold sumR
  rw [List.range_succ_eq_map, List.map_cons, List.sum_cons, List.map_map]; rfl
theorem sumR_last (n : Nat) (f : Nat → Int) : sumR (n + 1) f = sumR n f + f n := by
  rw [sumR_add]; unfold sumR; simp
theorem sumR_congr {M : Nat} {f g : Nat → Int} (h : ∀ m, m < M → f m = g m) : sumR M f = sumR M g := by
  unfold sumR
  rw [List.map_congr_left fun m hm => h m (List.mem_range.mp hm)]
theorem sumR_plus (f g : Nat → Int) : ∀ M, sumR M (fun m => f m + g m) = sumR M f + sumR M g
  | 0 => rfl
  | M + 1 => by rw [sumR_last, sumR_last, sumR_last, sumR_plus f g M]; omega
theorem sumR_neg (f : Nat → Int) : ∀ M, sumR M (fun m => - f m) = - sumR M f
  | 0 => rfl
  | M + 1 => by rw [sumR_last, sumR_last, sumR_neg f M]; omega
theorem sumR_lin (d : Nat → Int) : ∀ M : Nat, sumR M (fun m => 1 - 2 * d m) = (M : Int) - 2 * sumR M d
  | 0 => rfl
  | M + 1 => by rw [sumR_last, sumR_last, sumR_lin d M]; omega
theorem sumR_bd {d : Nat → Int} (h : ∀ m, d m = 0 ∨ d m = 1) : ∀ M : Nat, 0 ≤ sumR M d ∧ sumR M d ≤ M
  | 0 => ⟨Int.le_refl _, Int.le_refl _⟩
  | M + 1 => by rw [sumR_last]; have := sumR_bd h M; rcases h M with h | h <;> omega
theorem bt_small {m j : Nat} (h : m < 2 ^ j) : bt m j = 0 := by unfold bt; rw [Nat.div_eq_of_lt h]
theorem bt_up {k i j : Nat} (h : i < j) : bt (k + 2 ^ j) i = bt k i := by
  obtain ⟨c, rfl⟩ : ∃ c, j = i + 1 + c := ⟨j - i - 1, by omega⟩
  unfold bt
  rw [show 2 ^ (i + 1 + c) = 2 ^ i * (2 * 2 ^ c) by rw [Nat.pow_add, Nat.pow_add, Nat.mul_assoc], Nat.add_mul_div_left _ _ (Nat.pow_pos (by decide)), Nat.add_mul_mod_self_left]
theorem bt_top {m j : Nat} (h : m < 2 ^ j) : bt (2 ^ j + m) j = 1 := by
  unfold bt
  rw [Nat.add_div_left _ (Nat.pow_pos (by decide)), Nat.div_eq_of_lt h]
theorem par_congr : ∀ {j a b k m : Nat}, (∀ i, i < j → bt a i = bt b i) → (∀ i, i < j → bt k i = bt m i) → par j a k = par j b m
  | 0, _, _, _, _, _, _ => rfl
  | j + 1, a, b, k, m, h1, h2 => by
    rw [par, par, par_congr (fun i hi => h1 i (by omega)) (fun i hi => h2 i (by omega)), h1 j (by omega), h2 j (by omega)]
theorem sg_congr {j a b k m : Nat} (h1 : ∀ i, i < j → bt a i = bt b i) (h2 : ∀ i, i < j → bt k i = bt m i) : sg j a k = sg j b m := by
  unfold sg; rw [par_congr h1 h2]
theorem sg_low {j a m : Nat} (h : m < 2 ^ j) : sg (j + 1) a m = sg j a m := by
  unfold sg; rw [par, bt_small h]; rfl
theorem sg_up0 {j a m : Nat} (h : m < 2 ^ j) (hb : bt a j = 0) : sg (j + 1) a (2 ^ j + m) = sg j a m := by
  unfold sg; rw [par, hb, Nat.zero_mul, Nat.add_zero, Nat.add_comm, par_congr (fun _ _ => rfl) fun i hi => bt_up hi]
theorem sg_up1 {j a m : Nat} (h : m < 2 ^ j) (hb : bt a j = 1) : sg (j + 1) a (2 ^ j + m) = - sg j a m := by
  unfold sg
  rw [par, hb, bt_top h, Nat.add_comm (2 ^ j) m, par_congr (fun _ _ => rfl) fun i hi => bt_up hi]
  split <;> split <;> first | rfl | omega
theorem FF_eq (t : Nat → Int) : ∀ j k, FF t j k = sumR (2 ^ j) fun m => sg j k m * t (k / 2 ^ j * 2 ^ j + m)
  | 0, k => by
    show t k = sumR (2 ^ 0) _
    rw [show (2 : Nat) ^ 0 = 0 + 1 from rfl, sumR_last]
    simp [sumR, sg, par]
  | j + 1, k => by
    have hp : 0 < 2 ^ j := Nat.pow_pos (by decide)
    have e2 : 2 ^ (j + 1) = 2 ^ j + 2 ^ j := by rw [Nat.pow_succ]; omega
    have dd : k / 2 ^ (j + 1) = k / 2 ^ j / 2 := by rw [Nat.pow_succ, Nat.div_div_eq_div_mul]
    have hb := bt_lt k j
    rw [FF]
    have e3 : sumR (2 ^ (j + 1)) (fun m => sg (j + 1) k m * t (k / 2 ^ (j + 1) * 2 ^ (j + 1) + m)) = sumR (2 ^ j) (fun m => sg j k m * t (k / 2 ^ j / 2 * 2 ^ (j + 1) + m)) + sumR (2 ^ j) (fun m => sg (j + 1) k (2 ^ j + m) * t (k / 2 ^ j / 2 * 2 ^ (j + 1) + (2 ^ j + m))) := by
      rw [dd]
      generalize k / 2 ^ j / 2 * 2 ^ (j + 1) = B
      rw [e2, sumR_add]
      congr 1
      exact sumR_congr fun m hm => by rw [sg_low hm]
    rw [e3]
    by_cases h0 : bt k j = 0
    · rw [if_pos h0, FF_eq t j k, FF_eq t j (k + 2 ^ j)]
      have q : k / 2 ^ j / 2 * 2 ^ (j + 1) = k / 2 ^ j * 2 ^ j := by
        unfold bt at h0
        rw [Nat.pow_succ, Nat.mul_comm (2 ^ j) 2, ← Nat.mul_assoc]
        congr 1; omega
      rw [q]
      congr 1
      refine sumR_congr fun m hm => ?_
      rw [sg_up0 hm h0, sg_congr (fun i hi => bt_up hi) (fun _ _ => rfl), Nat.add_div_right _ hp, Nat.succ_mul, Nat.add_assoc]
    · have h1 : bt k j = 1 := by omega
      rw [if_neg h0, FF_eq t j k, FF_eq t j (k - 2 ^ j)]
      unfold bt at h1
      have hk : 2 ^ j ≤ k := by
        rcases Nat.lt_or_ge k (2 ^ j) with h | h
        · rw [Nat.div_eq_of_lt h] at h1; omega
        · exact h
      have q : k / 2 ^ j / 2 * 2 ^ (j + 1) = (k / 2 ^ j - 1) * 2 ^ j := by
        rw [Nat.pow_succ, Nat.mul_comm (2 ^ j) 2, ← Nat.mul_assoc]
        congr 1; omega
      have q2 : (k - 2 ^ j) / 2 ^ j = k / 2 ^ j - 1 := by have := Nat.sub_mul_div k (2 ^ j) 1; rwa [Nat.mul_one] at this
      have q3 : (k / 2 ^ j - 1) * 2 ^ j + 2 ^ j = k / 2 ^ j * 2 ^ j := by
        rw [← Nat.succ_mul, show (k / 2 ^ j - 1).succ = k / 2 ^ j from Nat.sub_add_cancel (Nat.div_pos hk hp)]
      rw [q, q2, Int.sub_eq_add_neg, ← sumR_neg]
      congr 1
      · refine sumR_congr fun m hm => ?_
        rw [sg_congr (a := k - 2 ^ j) (b := k) (fun i hi => by rw [← bt_up (k := k - 2 ^ j) hi, Nat.sub_add_cancel hk]) (fun _ _ => rfl)]
      · refine sumR_congr fun m hm => ?_
        rw [sg_up1 hm h1, ← Nat.add_assoc, q3, Int.neg_mul]
/-! family B: words -/
def wd (n k : Nat) : List Int := (List.range n).map fun p => ((k / 2 ^ (n - 1 - p) % 2 : Nat) : Int)
theorem r_word_at {d : Nat} (h : 1 ≤ d) {n k : Nat} (hn : n ≤ 12) {s : Store} : run G d 6 [.int (n : Int), .int (k : Int)] s = .ok (.tup ((wd n k).map .int)) s := by
  obtain ⟨m, rfl⟩ := dep h
  rw [run_fn (F := f6) rfl rfl (by decide)]
  simp [f6, rngOk_of (show -1000000000 ≤ (n : Int) ∧ (n : Int) ≤ 1000000000 by omega)]
  rw [rngL_map, gen_tupM (fun p : Nat => Val.int (0 + (p : Int))) (fun p : Nat => Val.int ((k / 2 ^ (n - 1 - p) % 2 : Nat) : Int)) _ _ (fun p hp => ?_) (le_szL (by simp; omega))]
  · simp [wd, List.map_map, Function.comp]
    rw [shut_same (by simp; exact datL_bel _ (datL_all.mpr (by simp)))]
    simp [Function.comp]
  · simp at hp
    simp [stepC, tgS, wipeE, shrStep hp]
abbrev wT (n a : Nat) : Val := .tup ((wd n a).map .int)
theorem pow12 {n : Nat} (h : n ≤ 12) : 1 ≤ 2 ^ n ∧ 2 ^ n ≤ 4096 := ⟨Nat.pow_pos (by decide), Nat.le_trans (Nat.pow_le_pow_right (by decide) h) (by decide)⟩
theorem wd_len {n k : Nat} : (wd n k).length = n := by simp [wd]
theorem wd_bt (n k : Nat) : wd n k = (List.range n).map fun p => ((bt k (n - 1 - p) : Nat) : Int) := rfl
theorem wd_01 {n k : Nat} : ∀ x ∈ wd n k, x = 0 ∨ x = 1 := by
  intro x hx
  obtain ⟨p, _, rfl⟩ := List.mem_map.mp hx
  omega
theorem rev_rng {α : Type} (f : Nat → α) : ∀ n, ((List.range n).map f).reverse = (List.range n).map fun p => f (n - 1 - p)
  | 0 => rfl
  | n + 1 => by
    rw [List.range_succ, List.map_append, List.reverse_append, rev_rng f n]
    show f n :: _ = _
    rw [← List.range_succ, List.range_succ_eq_map, List.map_cons, List.map_map]
    congr 1
    refine List.map_congr_left fun p hp => ?_
    show f (n - 1 - p) = f (n + 1 - 1 - (p + 1))
    rw [show n + 1 - 1 - (p + 1) = n - 1 - p by omega]
theorem wd_onto : ∀ {n : Nat} {g : List Int}, g.length = n → (∀ b ∈ g, b = 0 ∨ b = 1) → ∃ k, k < 2 ^ n ∧ wd n k = g
  | 0, [], _, _ => ⟨0, by decide, rfl⟩
  | n + 1, b :: g, hl, h => by
    obtain ⟨k, hk, e⟩ := wd_onto (n := n) (g := g) (by simpa using hl) fun x hx => h x (by simp [hx])
    have go : ∀ (k' : Nat) (b' : Nat), bt k' n = b' → (∀ i, i < n → bt k' i = bt k i) → wd (n + 1) k' = (b' : Int) :: g := fun k' b' e1 e2 => by
      rw [wd_bt, List.range_succ_eq_map, List.map_cons, List.map_map, ← e, wd_bt]
      congr 1
      · show ((bt k' (n + 1 - 1 - 0) : Nat) : Int) = _
        rw [show n + 1 - 1 - 0 = n by omega, e1]
      · refine List.map_congr_left fun p hp => ?_
        have hp := List.mem_range.mp hp
        show ((bt k' (n + 1 - 1 - (p + 1)) : Nat) : Int) = _
        rw [show n + 1 - 1 - (p + 1) = n - 1 - p by omega, e2 _ (by omega)]
    have e2 : 2 ^ (n + 1) = 2 ^ n + 2 ^ n := by rw [Nat.pow_succ]; omega
    rcases h b (by simp) with rfl | rfl
    · exact ⟨k, by omega, go k 0 (bt_small hk) fun _ _ => rfl⟩
    · exact ⟨2 ^ n + k, by omega, go _ 1 (bt_top hk) fun i hi => by rw [Nat.add_comm, bt_up hi]⟩
theorem wd_succ (n a : Nat) : wd (n + 1) a = ((bt a n : Nat) : Int) :: wd n a := by
  rw [wd_bt, List.range_succ_eq_map, List.map_cons, List.map_map, wd_bt]
  congr 1
  refine List.map_congr_left fun p hp => ?_
  show ((bt a (n + 1 - 1 - (p + 1)) : Nat) : Int) = _
  rw [show n + 1 - 1 - (p + 1) = n - 1 - p by omega]
def bv (acc : Int) : List Int → Int
  | [] => acc
  | b :: r => bv (2 * acc + b) r
theorem bv_wd (a : Nat) : ∀ (n : Nat) (acc : Int), bv acc (wd n a) = acc * ((2 ^ n : Nat) : Int) + ((a % 2 ^ n : Nat) : Int)
  | 0, acc => by simp [wd, bv, Nat.mod_one]
  | n + 1, acc => by
    rw [wd_succ, bv, bv_wd a n, Nat.mod_pow_succ, Nat.pow_succ]
    unfold bt
    have e1 : (2 * acc + ((a / 2 ^ n % 2 : Nat) : Int)) * ((2 ^ n : Nat) : Int) = acc * ((2 ^ n : Nat) : Int) * 2 + ((2 ^ n * (a / 2 ^ n % 2) : Nat) : Int) := by
      rw [Int.add_mul, Int.natCast_mul (2 ^ n), Int.mul_comm ((2 ^ n : Nat) : Int), Int.mul_comm 2 acc, Int.mul_assoc, Int.mul_comm 2, ← Int.mul_assoc]
    rw [e1, Int.natCast_mul (2 ^ n) 2, ← Int.mul_assoc, Int.natCast_add]
    rw [show ((2 : Nat) : Int) = 2 from rfl]
    omega
theorem bv_w {n a : Nat} (h : a < 2 ^ n) : bv 0 (wd n a) = (a : Int) := by rw [bv_wd, Nat.mod_eq_of_lt h]; simp
theorem wd_inj {n a b : Nat} (ha : a < 2 ^ n) (hb : b < 2 ^ n) (h : wd n a = wd n b) : a = b := by
  have := bv_w ha
  rw [h, bv_w hb] at this
  omega
theorem atRng {f : Nat → Val} {k N : Nat} (h : k < N) : L2.atI ((List.range N).map f) (k : Int) = some (f k) := by
  rw [atI_int (by omega) (by simpa using h)]
  simp [h]
theorem lc_rng {f : Val → Store → R (Option Val)} {n : Nat} {i : Int} {s : Store} {P : List Val → Store → Prop} (I : Nat → List Val → Store → Prop) (h0 : I 0 [] s) (hn : ∀ acc s, I n acc s → P acc s)
    (hc : ∀ j acc s, j < n → I j acc s → ∃ v s1, f (.int (i + (j : Nat))) s = .ok (some v) s1 ∧ acc.length < szL ∧ I (j + 1) (acc ++ [v]) s1) : Oks (lcL f none (rngL i n) [] s) P := by
  refine lc_ind (Q := fun r => Oks r P) (fun r acc s => ∃ k, r = rngL (i + (k : Nat)) (n - k) ∧ k ≤ n ∧ I k acc s) (fun acc s h => ?_) (fun x r acc s h => ?_) _ _ _ ⟨0, by simp, by omega, h0⟩
  · obtain ⟨k, e, hk, h⟩ := h
    have : n - k = 0 := by
      cases hz : n - k with
      | zero => rfl
      | succ m => rw [hz, rngL_succ] at e; cases e
    exact ⟨_, _, rfl, hn _ _ (by rw [show k = n by omega] at h; exact h)⟩
  · obtain ⟨k, e, hk, h⟩ := h
    cases hz : n - k with
    | zero => rw [hz, rngL_zero] at e; cases e
    | succ m =>
      rw [hz, rngL_succ] at e
      cases e
      obtain ⟨v, s1, e1, e2, e3⟩ := hc k acc s (by omega) h
      exact ⟨some v, s1, e1, e2, k + 1, by rw [show n - (k + 1) = m by omega]; congr 1; omega, by omega, e3⟩
theorem lcL_mapL {f : Val → Store → R (Option Val)} {s : Store} {α : Type} {lv : Option (Nat × List Val)} (hs : stands s lv) (a b : α → Val) : ∀ (L : List α) (acc : List Val), (∀ x ∈ L, f (a x) s = .ok (some (b x)) s) → acc.length + L.length ≤ szL → lcL f lv (L.map a) acc s = .ok (acc ++ L.map b) s
  | [], acc, _, _ => by simp [lcL, hs]
  | x :: r, acc, h, hl => by
    rw [List.map_cons, lcL]
    rw [if_pos hs, h x (by simp), bindk]
    simp only
    rw [if_pos (by simp at hl; omega), lcL_mapL hs a b r (acc ++ [b x]) (fun y hy => h y (by simp [hy])) (by simp at hl ⊢; omega)]
    simp
theorem intsOf_ints : ∀ {ns : List Int}, intsOf (ns.map .int) = some ns
  | [] => rfl
  | n :: ns => by rw [List.map_cons, intsOf, intsOf_ints]; rfl
theorem intsOf_map (g : Nat → Int) (L : List Nat) : intsOf (L.map fun k => Val.int (g k)) = some (L.map g) := by
  rw [← intsOf_ints (ns := L.map g), List.map_map]; rfl
theorem gen_sumB {f : Val → Store → R (Option Val)} {s : Store} {α : Type} (a : α → Val) (b : α → Int) (B : Int) (hB : 0 ≤ B) : ∀ (L : List α) (acc : Int), (∀ x ∈ L, f (a x) s = .ok (some (.int (b x))) s ∧ -B ≤ b x ∧ b x ≤ B) → (acc.natAbs : Int) + B * L.length < 9223372036854775808 → genL .sum f none s (L.map a) (.int acc) = .ok (.int (acc + (L.map b).sum)) s
  | [], acc, _, _ => by rw [List.map_nil, genL]; simp only [stands_none, ↓reduceIte]; simp [conEnd]
  | x :: r, acc, h, hl => by
    obtain ⟨h1, h2, h3⟩ := h x (by simp)
    have e : B * ((x :: r).length : Nat) = B * (r.length : Nat) + B := by
      rw [List.length_cons, Int.natCast_add, Int.mul_add]; simp
    have hr : 0 ≤ B * (r.length : Nat) := Int.mul_nonneg hB (by omega)
    rw [e] at hl
    rw [List.map_cons, genL]
    simp only [stands_none, ↓reduceIte]
    rw [h1, bindk]
    simp only [↓reduceIte, conNext, conStep]
    rw [if_pos (by
      have : (2 : Int) ^ 63 = 9223372036854775808 := by decide
      rw [this]
      omega)]
    simp only
    rw [gen_sumB a b B hB r (acc + b x) (fun y hy => h y (by simp [hy])) (by omega)]
    simp [Int.add_assoc]
@[simp] theorem glb0 : G.consts[0]? = some (("LONGEST" : Str), Val.int 12) := Eq.trans rfl rfl
theorem r_is_integer {d : Nat} (hd : 1 ≤ d) {v : Val} {s : Store} (hv : v.dat = true) : run G d 0 [v] s = .ok (.bl (isI v)) s := by
  obtain ⟨n, rfl⟩ := dep hd
  rw [run_fn (F := f0) rfl rfl (by decide)]
  cases v <;> simp [Val.dat] at hv <;> simp [f0, anyTy, kdV, kdOk, anyK, tyK, isI, shut_same]
theorem r_is_between {d : Nat} (h : 2 ≤ d) {i lo hi : Int} {s : Store} : run G d 1 [.int i, .int lo, .int hi] s = .ok (.bl (decide (lo ≤ i) && decide (i ≤ hi))) s := by
  obtain ⟨n, rfl⟩ := dep h
  rw [run_fn (F := f1) rfl rfl (by decide)]
  simp [f1, r_is_integer (d := n + 1) (by omega) (dat_int (i := i)), isI, shut_same]
theorem r_is_bit {d : Nat} (h : 3 ≤ d) {i : Int} {s : Store} : run G d 2 [.int i] s = .ok (.bl (decide (0 ≤ i) && decide (i ≤ 1))) s := by
  obtain ⟨n, rfl⟩ := dep h
  rw [run_fn (F := f2) rfl rfl (by decide)]
  simp [f2, r_is_between (d := n + 2) (by omega), shut_same]
theorem cut_pre {xs : List Val} {k : Nat} : cutL xs none (some (k : Int)) = xs.take k := by
  unfold cutL
  rw [HT.sIx_none, HT.sIx_nat, List.drop_zero, Nat.sub_zero]
  rw [List.take_eq_take_iff]; omega
/-! family B: equations -/
structure Eqn where
  ps : List (Nat × Nat)
  ss : List Nat
  r : Nat
def prV (p : Nat × Nat) : Val := .tup [.int (p.1 : Int), .int (p.2 : Int)]
def nV (i : Nat) : Val := .int (i : Int)
def eqV (E : Eqn) : Val := .tup [.tup (E.ps.map prV), .tup (E.ss.map nV), .int (E.r : Int)]
def ltP (p q : Nat × Nat) : Prop := p.1 < q.1 ∨ (p.1 = q.1 ∧ p.2 < q.2)
structure Good (n : Nat) (E : Eqn) : Prop where
  pw : E.ps.Pairwise ltP
  pb : ∀ p ∈ E.ps, p.1 < p.2 ∧ p.2 < n
  sw : E.ss.Pairwise (· < ·)
  sb : ∀ i ∈ E.ss, i < n
  rb : E.r < 2
  pl : E.ps.length ≤ 1000
  sl : E.ss.length ≤ 1000
def lhs (n a : Nat) (ps : List (Nat × Nat)) (ss : List Nat) : Int := (ps.map fun p => (wd n a).getD p.1 0 * (wd n a).getD p.2 0).sum + (ss.map fun i => (wd n a).getD i 0).sum
def fitB (n a : Nat) (E : Eqn) : Bool := decide (lhs n a E.ps E.ss % 2 = (E.r : Int))
theorem wd_b {n a : Nat} (i : Nat) : (wd n a).getD i 0 = 0 ∨ (wd n a).getD i 0 = 1 := by
  rcases Nat.lt_or_ge i (wd n a).length with h | h
  · rw [List.getD_eq_getElem?_getD, List.getElem?_eq_getElem h]
    exact wd_01 _ (List.getElem_mem h)
  · rw [List.getD_eq_getElem?_getD, List.getElem?_eq_none h]; exact .inl rfl
theorem wd_at {n a i : Nat} (h : i < n) : L2.atI ((wd n a).map Val.int) (i : Int) = some (.int ((wd n a).getD i 0)) := atN (by rw [wd_len]; exact h)
theorem sum_map {α : Type} {L : List α} {g : α → Int} {s : Store} : sumV [.lst (L.map fun x => Val.int (g x))] s = some (.int (L.map g).sum) := by
  have e : ∀ L : List α, intsOf (L.map fun x => Val.int (g x)) = some (L.map g) := fun L => by
    induction L with
    | nil => rfl
    | cons x L ih => rw [List.map_cons, intsOf, ih]; rfl
  unfold sumV
  simp only [oneL, asL_lst, e]
  rfl
theorem isExv_prV {p : Nat × Nat} : isExv (prV p) = false := rfl
theorem step_pair {n a : Nat} {call : Nat → List Val → Store → R Val} {p : Nat × Nat} {s : Store} {y : Val} {x2 x3 x4 : Option Val} (h : p.1 < p.2 ∧ p.2 < n) (hy : isExv y = false) :
    stepC G call [some (wT n a), some y, x2, x3, x4] (.tp [3, 4]) .nil (.bin .Mult (.idx (.var 0) (.var 3)) (.idx (.var 0) (.var 4))) (prV p) s = .ok (some (.int ((wd n a).getD p.1 0 * (wd n a).getD p.2 0))) s := by
  have mu : ∀ {m : Store}, binV m .Mult (.int ((wd n a).getD p.1 0)) (.int ((wd n a).getD p.2 0)) = some (.int ((wd n a).getD p.1 0 * (wd n a).getD p.2 0)) := fun {m} => binV_mulR (by rcases wd_b (n := n) (a := a) p.2 with h | h <;> rw [h] <;> decide)
  simp [stepC, tgS, wipeE, prV, asg, setAll, wd_at (show p.1 < n by omega), wd_at (show p.2 < n by omega), mu, -List.getD_eq_getElem?_getD]
theorem r_law_left {d : Nat} (h : 1 ≤ d) {n a : Nat} {ps : List (Nat × Nat)} {ss : List Nat} {X Y : Val} (hp : ∀ p ∈ ps, p.1 < p.2 ∧ p.2 < n) (hs : ∀ i ∈ ss, i < n) (pl : ps.length ≤ 1000) (sl : ss.length ≤ 1000) {s : Store}
    (hX : X = .tup (ps.map prV) ∨ ∃ k, X = .ref k ∧ s[k]? = some (.lst (ps.map prV))) : run G d 22 [wT n a, .tup [X, .tup (ss.map nV), Y]] s = .ok (.int (lhs n a ps ss % 2)) s := by
  obtain ⟨m, rfl⟩ := dep h
  have st2 : ∀ {x2 x3 x4 : Option Val} {i : Nat}, i ∈ ss → stepC G (run G m) [some (wT n a), some (.tup [X, .tup (ss.map nV), Y]), x2, x3, x4] (.nm 3) .nil (.idx (.var 0) (.var 3)) (nV i) s = .ok (some (.int ((wd n a).getD i 0))) s := fun {x2 x3 x4 i} hi => by
    simp [stepC, tgS, wipeE, nV, wd_at (hs i hi), -List.getD_eq_getElem?_getD]
  rw [run_fn (F := f22) rfl rfl (by decide)]
  have e2 := lcL_map (f := stepC G (run G m) [some (wT n a), some (.tup [X, .tup (ss.map nV), Y]), none, none, none] (.nm 3) .nil (.idx (.var 0) (.var 3))) (s := s) nV (fun i : Nat => Val.int ((wd n a).getD i 0)) ss [] (fun i hi => st2 hi) (le_sz (by simp; omega))
  rcases hX with rfl | ⟨k, rfl, hk⟩
  · have e1 := lcL_map (f := stepC G (run G m) [some (wT n a), some (.tup [.tup (ps.map prV), .tup (ss.map nV), Y]), none, none, none] (.tp [3, 4]) .nil (.bin .Mult (.idx (.var 0) (.var 3)) (.idx (.var 0) (.var 4)))) (s := s) prV (fun p => Val.int ((wd n a).getD p.1 0 * (wd n a).getD p.2 0)) ps [] (fun p hq => step_pair (hp p hq) rfl) (le_sz (by simp; omega))
    simp [f22, e1, e2, sum_map, binV_mod, -List.getD_eq_getElem?_getD]
    rw [shut_same (by simp)]
    rfl
  · have e1 := lcL_mapL (f := stepC G (run G m) [some (wT n a), some (.tup [.ref k, .tup (ss.map nV), Y]), none, none, none] (.tp [3, 4]) .nil (.bin .Mult (.idx (.var 0) (.var 3)) (.idx (.var 0) (.var 4)))) (s := s) (lv := some (k, ps.map prV)) hk prV (fun p => Val.int ((wd n a).getD p.1 0 * (wd n a).getD p.2 0)) ps [] (fun p hq => step_pair (hp p hq) rfl) (le_sz (by simp; omega))
    simp [f22, hk, e1, e2, sum_map, binV_mod, -List.getD_eq_getElem?_getD]
    rw [shut_same (by simp)]
    rfl
theorem r_law_fits {d : Nat} (h : 2 ≤ d) {n a : Nat} {E : Eqn} (hE : Good n E) {s : Store} : run G d 23 [wT n a, eqV E] s = .ok (.bl (fitB n a E)) s := by
  obtain ⟨m, rfl⟩ := dep h
  have e := r_law_left (d := m + 1) (by omega) (a := a) (Y := .int (E.r : Int)) hE.pb hE.sb hE.pl hE.sl (s := s) (.inl rfl)
  rw [run_fn (F := f23) rfl rfl (by decide)]
  unfold eqV
  simp [f23, e]
  rw [shut_same (by simp)]
  rfl
theorem sum_bd {α : Type} {f : α → Int} : ∀ {L : List α}, (∀ x ∈ L, f x = 0 ∨ f x = 1) → 0 ≤ (L.map f).sum ∧ (L.map f).sum ≤ L.length
  | [], _ => by simp
  | x :: L, h => by
    have h1 := h x (by simp)
    have h2 := sum_bd (L := L) fun y hy => h y (by simp [hy])
    simp only [List.map_cons, List.sum_cons, List.length_cons]
    omega
theorem r_fits {d : Nat} (h : 1 ≤ d) {n a : Nat} {E : Eqn} (hE : Good n E) {s : Store} : run G d 12 [eqV E, wT n a] s = .ok (.bl (fitB n a E)) s := by
  obtain ⟨m, rfl⟩ := dep h
  rw [run_fn (F := f12) rfl rfl (by decide)]
  have mu : ∀ {m : Store} (p : Nat × Nat), binV m .Mult (.int ((wd n a).getD p.1 0)) (.int ((wd n a).getD p.2 0)) = some (.int ((wd n a).getD p.1 0 * (wd n a).getD p.2 0)) := fun {m} p => binV_mulR (by rcases wd_b (n := n) (a := a) p.2 with h | h <;> rw [h] <;> decide)
  have b1 : ∀ p : Nat × Nat, -1 ≤ (wd n a).getD p.1 0 * (wd n a).getD p.2 0 ∧ (wd n a).getD p.1 0 * (wd n a).getD p.2 0 ≤ 1 := fun p => by
    rcases wd_b (n := n) (a := a) p.1 with h | h <;> rcases wd_b (n := n) (a := a) p.2 with h2 | h2 <;> rw [h, h2] <;> decide
  have pl := hE.pl
  have sl := hE.sl
  unfold eqV
  have e1 := gen_sumB (f := stepC G (run G m) [some (.tup [.tup (E.ps.map prV), .tup (E.ss.map nV), .int (E.r : Int)]), some (wT n a), some (.tup (E.ps.map prV)), some (.tup (E.ss.map nV)), some (.int (E.r : Int)), none, none, none] (.tp [6, 7]) .nil (.bin .Mult (.idx (.var 1) (.var 6)) (.idx (.var 1) (.var 7)))) (s := s) prV (fun p => (wd n a).getD p.1 0 * (wd n a).getD p.2 0) 1 (by omega) E.ps 0 (fun p hq => ⟨by
    have := hE.pb p hq
    simp [stepC, tgS, wipeE, prV, asg, setAll, wd_at (show p.1 < n by omega), wd_at (show p.2 < n by omega), mu p, -List.getD_eq_getElem?_getD], b1 p⟩) (by simp; omega)
  have e2 := gen_sumB (f := stepC G (run G m) [some (.tup [.tup (E.ps.map prV), .tup (E.ss.map nV), .int (E.r : Int)]), some (wT n a), some (.tup (E.ps.map prV)), some (.tup (E.ss.map nV)), some (.int (E.r : Int)), none, none, none] (.nm 6) .nil (.idx (.var 1) (.var 6))) (s := s) nV (fun i => (wd n a).getD i 0) 1 (by omega) E.ss 0 (fun i hi => ⟨by
    simp [stepC, tgS, wipeE, nV, wd_at (hE.sb i hi), -List.getD_eq_getElem?_getD], by rcases wd_b (n := n) (a := a) i with h | h <;> rw [h] <;> decide⟩) (by simp; omega)
  simp [f12, asg, setAll, e1, e2, binV_mod, -List.getD_eq_getElem?_getD]
  rw [shut_same (by simp)]
  rfl
/-! family B: drawn words and equations -/
def wordV (n : Nat) (tl : Store) (v : Val) (s : Store) : Prop := ∃ (a : Nat) (c : Cell), v = wT n a ∧ a < 2 ^ n ∧ s = c :: tl ∧ IsH c
theorem r_law_word {d : Nat} (h : 3 ≤ d) {c : Cell} (hc : IsH c) (tl : Store) {n : Nat} (hn : n ≤ 1000) : Oks (run G d 20 [.ref 0, .int (n : Int)] (c :: tl)) (wordV n tl) := by
  obtain ⟨m, rfl⟩ := dep h
  obtain ⟨M, hM⟩ : ∃ M : Nat, ((n : Int) + 7) / 8 = (M : Int) ∧ n ≤ 8 * M ∧ M ≤ 200 := ⟨(n + 7) / 8, by omega, by omega, by omega⟩
  refine run_oks (F := f20) rfl rfl (by decide) ?_
  simp [f20, le_sz, binV_div (show (0 : Int) < 8 by decide) (by decide), hM.1, rngOk_of (show -1000000000 ≤ (M : Int) ∧ (M : Int) ≤ 1000000000 by omega)]
  obtain ⟨I, hI⟩ := named fun (j : Nat) (e : Env) (s : Store) => ∃ (bs : List Int) (c : Cell) (x3 x4 x5 : Option Val), e = [some (.ref 0), some (.int (n : Int)), some (.lst (bs.map .int)), x3, x4, x5] ∧ s = c :: tl ∧ IsH c ∧ bs.length = 8 * j ∧ ∀ b ∈ bs, b = 0 ∨ b = 1
  refine rng_seq (n := M) I (by rw [hI]; exact ⟨[], c, none, none, none, rfl, rfl, hc, rfl, by simp⟩) (fun e s h => ?_) (fun j e s hj h => ?_)
  · rw [hI] at h
    obtain ⟨bs, c, x3, x4, x5, rfl, rfl, hc, hl, hb⟩ := h
    simp
    rw [cut_pre, ← List.map_take]
    obtain ⟨a, ha, hw⟩ := wd_onto (n := n) (g := bs.take n) (by rw [List.length_take]; omega) fun b hb2 => hb b (List.mem_of_mem_take hb2)
    rw [← hw, shut_h hc (by simp)]
    simp
    exact ⟨a, c, rfl, ha, rfl, hc⟩
  · rw [hI] at h
    obtain ⟨bs, c, x3, x4, x5, rfl, rfl, hc, hl, hb⟩ := h
    simp
    obtain ⟨_, _, hr, q, c, rfl, rfl, hc, q0, q1⟩ := r_law_draw (d := m + 2) (by omega) hc tl 256 (by omega)
    simp [hr, show rngOk 8 = true by decide]
    rw [rngL_map, lcL_map (fun p : Nat => Val.int (0 + (p : Int))) (fun p : Nat => Val.int (q / 2 ^ p % 2)) _ _ (fun p hp => ?_) (le_sz (by simp))]
    · have hz : bs.length + 8 ≤ szL := le_sz (by omega)
      simp [hz]
      rw [hI]
      refine ⟨bs ++ (List.range 8).map fun p : Nat => q / 2 ^ p % 2, c, some (.int (j : Int)), some (.int q), x5, by simp [Function.comp], rfl, hc, by simp [hl]; omega, fun b hb2 => ?_⟩
      rcases List.mem_append.mp hb2 with z | z
      · exact hb b z
      · obtain ⟨p, _, rfl⟩ := List.mem_map.mp z
        omega
    · simp [stepC, tgS, wipeE, binV_shr, binV_mod]
theorem r_law_words {d : Nat} (h : 1 ≤ d) {n : Nat} (hn : n ≤ 12) {s : Store} : run G d 21 [.int (n : Int)] s = .ok (.lst ((List.range (2 ^ n)).map (wT n))) s := by
  obtain ⟨m, rfl⟩ := dep h
  have hp := pow12 hn
  rw [run_fn (F := f21) rfl rfl (by decide)]
  simp [f21, shl1 (show n ≤ 1000 by omega), rngOk_of (show -1000000000 ≤ ((2 ^ n : Nat) : Int) ∧ ((2 ^ n : Nat) : Int) ≤ 1000000000 by omega), -Int.natCast_pow]
  rw [rngL_map, lcL_map (fun p : Nat => Val.int (0 + (p : Int))) (wT n) _ _ (fun k hk => ?_) (le_sz (by simp; omega))]
  · simp
    rw [shut_same (by simp; rw [belL_all]; intro x hx; obtain ⟨k, _, rfl⟩ := List.mem_map.mp hx; simp)]
  · simp [stepC, tgS, wipeE, rngOk_of (show -1000000000 ≤ (n : Int) ∧ (n : Int) ≤ 1000000000 by omega)]
    rw [rngL_map, lcL_map (fun p : Nat => Val.int (0 + (p : Int))) (fun p : Nat => Val.int ((k / 2 ^ (n - 1 - p) % 2 : Nat) : Int)) _ _ (fun p hp => ?_) (le_sz (by simp; omega))]
    · simp [wd, Function.comp]
    · have hp := List.mem_range.mp hp
      simp [stepC, tgS, wipeE, shrStep hp, binV_mod]
theorem r_all_words {d : Nat} (h : 3 ≤ d) {n : Nat} (h1 : 1 ≤ n) (hn : n ≤ 12) {s : Store} : run G d 7 [.int (n : Int)] s = .ok (.tup ((List.range (2 ^ n)).map (wT n))) s := by
  obtain ⟨m, rfl⟩ := dep h
  have hp := pow12 hn
  rw [run_fn (F := f7) rfl rfl (by decide)]
  simp [f7, r_is_between (d := m + 2) (by omega), show (1 : Int) ≤ n by omega, show (n : Int) ≤ 12 by omega, shl1 (show n ≤ 1000 by omega), rngOk_of (show -1000000000 ≤ ((2 ^ n : Nat) : Int) ∧ ((2 ^ n : Nat) : Int) ≤ 1000000000 by omega), -Int.natCast_pow]
  rw [rngL_map, gen_tupM (fun p : Nat => Val.int (0 + (p : Int))) (wT n) _ _ (fun k hk => by simp [stepC, tgS, wipeE, r_word_at (d := m + 2) (by omega) hn]) (le_sz (by simp; omega))]
  simp
  rw [shut_same (by simp; rw [belL_all]; intro x hx; obtain ⟨k, _, rfl⟩ := List.mem_map.mp hx; simp)]
theorem r_is_word {d : Nat} (h : 6 ≤ d) {n a : Nat} (h1 : 1 ≤ n) (hn : n ≤ 12) {s : Store} : run G d 5 [wT n a, .int (n : Int)] s = .ok (.bl true) s := by
  obtain ⟨m, rfl⟩ := dep h
  have e1 : run G (m + 4) 3 [wT n a] s = .ok (.bl true) s := by
    rw [run_fn (F := f3) rfl rfl (by decide)]
    simp [f3]
    rw [gen_allM (by simp) Val.int (wd n a) (fun i hi => by
      rcases wd_01 i hi with rfl | rfl <;> simp [stepC, tgS, wipeE, r_is_bit (d := m + 3) (by omega)])]
    simp
    rw [shut_same (by simp)]
  have e2 : run G (m + 5) 4 [wT n a] s = .ok (.bl true) s := by
    rw [run_fn (F := f4) rfl rfl (by decide)]
    simp [f4, e1, wd_len, show (1 : Int) ≤ n by omega, show (n : Int) ≤ 12 by omega]
    rw [shut_same (by simp)]
  rw [run_fn (F := f5) rfl rfl (by decide)]
  simp [f5, e2, wd_len]
  rw [shut_same (by simp)]
def eqnV (n : Nat) (tl : Store) (v : Val) (s : Store) : Prop := ∃ (E : Eqn) (c : Cell), v = eqV E ∧ Good n E ∧ s = c :: tl ∧ IsH c
theorem prs_bel {ps : List (Nat × Nat)} {k : Nat} : belL k (ps.map prV) = true := by
  rw [belL_all]; intro x hx; obtain ⟨p, _, rfl⟩ := List.mem_map.mp hx; simp [prV]
theorem nVs_bel {ss : List Nat} {k : Nat} : belL k (ss.map nV) = true := by
  rw [belL_all]; intro x hx; obtain ⟨p, _, rfl⟩ := List.mem_map.mp hx; simp [nV]
theorem pw_snoc {α : Type} {R : α → α → Prop} {L : List α} {x : α} (h : L.Pairwise R) (hx : ∀ y ∈ L, R y x) : (L ++ [x]).Pairwise R :=
  List.pairwise_append.mpr ⟨h, by simp, fun y hy z hz => by simp at hz; subst hz; exact hx y hy⟩
theorem r_law_equation {d : Nat} (h : 3 ≤ d) {cc : Cell} (hc : IsH cc) (tl : Store) {n a : Nat} (hn : n ≤ 12) : Oks (run G d 24 [.ref 0, .int (n : Int), wT n a] (cc :: tl)) (eqnV n tl) := by
  obtain ⟨m, rfl⟩ := dep h
  have hrn := rngOk_of (show -1000000000 ≤ (n : Int) ∧ (n : Int) ≤ 1000000000 by omega)
  refine run_oks (F := f24) rfl rfl (by decide) ?_
  simp [f24, le_sz, hrn]
  obtain ⟨B, hB⟩ := named fun (i j : Nat) (ps : List (Nat × Nat)) => ps.Pairwise ltP ∧ (∀ p ∈ ps, (p.1 < p.2 ∧ p.2 < n) ∧ (p.1 < i ∨ (p.1 = i ∧ p.2 < j))) ∧ ps.length ≤ i * n + j
  obtain ⟨I, hI⟩ := named fun (i : Nat) (e : Env) (s : Store) => ∃ (ps : List (Nat × Nat)) (c : Cell) (x4 x5 : Option Val), e = [some (.ref 0), some (.int (n : Int)), some (wT n a), some (.ref (tl.length + 1)), x4, x5, none, none] ∧ s = c :: (tl ++ [.lst (ps.map prV)]) ∧ IsH c ∧ B i 0 ps
  refine rng_seq (n := n) I (by rw [hI]; exact ⟨[], cc, none, none, rfl, rfl, hc, by rw [hB]; simp⟩) (fun e s h => ?_) (fun i e s hi h => ?_)
  · rw [hI] at h
    obtain ⟨ps, c, x4, x5, rfl, rfl, hc, hb⟩ := h
    rw [hB] at hb
    obtain ⟨pw, pb, pl⟩ := hb
    have pl : ps.length ≤ 1000 := by
      have : n * n ≤ 12 * 12 := Nat.mul_le_mul hn hn
      omega
    simp [hrn]
    generalize hr : lcL _ none _ _ _ = r
    have hs : Oks r fun acc s => ∃ (ss : List Nat) (c : Cell), acc = ss.map nV ∧ s = c :: (tl ++ [.lst (ps.map prV)]) ∧ IsH c ∧ ss.Pairwise (· < ·) ∧ (∀ i ∈ ss, i < n) ∧ ss.length ≤ n := by
      rw [← hr]
      refine lc_ind (Q := fun r => Oks r _) (fun r acc s => ∃ (k : Nat) (ss : List Nat) (c : Cell), r = rngL (k : Int) (n - k) ∧ k ≤ n ∧ acc = ss.map nV ∧ s = c :: (tl ++ [.lst (ps.map prV)]) ∧ IsH c ∧ ss.Pairwise (· < ·) ∧ (∀ i ∈ ss, i < k) ∧ ss.length ≤ k) (fun acc s h => ?_) (fun x r acc s h => ?_) _ _ _ ⟨0, [], c, rfl, by omega, rfl, rfl, hc, by simp, by simp, by simp⟩
      · obtain ⟨k, ss, c, _, hk, rfl, rfl, hc, h1, h2, h3⟩ := h
        exact ⟨_, _, rfl, ss, c, rfl, rfl, hc, h1, fun i hi => Nat.lt_of_lt_of_le (h2 i hi) hk, by omega⟩
      · obtain ⟨k, ss, c, e, hk, rfl, rfl, hc, h1, h2, h3⟩ := h
        cases hz : n - k with
        | zero => rw [hz, rngL_zero] at e; cases e
        | succ q =>
          rw [hz, rngL_succ] at e
          cases e
          obtain ⟨_, _, hr, t, c, rfl, rfl, hc, t0, t1⟩ := r_law_draw (d := m + 2) (by omega) hc (tl ++ [.lst (ps.map prV)]) 3 (by omega)
          have er : rngL ((k : Int) + 1) q = rngL ((k + 1 : Nat) : Int) (n - (k + 1)) := by rw [show n - (k + 1) = q by omega]; rfl
          by_cases ht : t = 0
          · subst ht
            refine ⟨some (nV k), c :: (tl ++ [.lst (ps.map prV)]), by simp [stepC, tgS, wipeE, hr, nV], lt_sz (by simp; omega), k + 1, ss ++ [k], c, er, by omega, by simp, rfl, hc, pw_snoc h1 h2, fun i hi => ?_, by simp; omega⟩
            rcases List.mem_append.mp hi with z | z
            · have := h2 i z; omega
            · simp at z; omega
          · exact ⟨none, c :: (tl ++ [.lst (ps.map prV)]), by simp [stepC, tgS, wipeE, hr, ht], lt_sz (by simp; omega), k + 1, ss, c, er, by omega, rfl, rfl, hc, h1, fun i hi => by have := h2 i hi; omega, by omega⟩
    obtain ⟨_, _, rfl, ss, c, rfl, rfl, hc, sw, sb, sl⟩ := hs
    obtain ⟨r0, hr0, hr1⟩ : ∃ r : Nat, lhs n a ps ss % 2 = (r : Int) ∧ r < 2 := ⟨(lhs n a ps ss % 2).toNat, by omega, by omega⟩
    have hleft := r_law_left (d := m + 2) (by omega) (n := n) (a := a) (ps := ps) (ss := ss) (X := .ref (tl.length + 1)) (Y := .int 0) (fun p hp => (pb p hp).1) sb pl (by omega) (s := c :: (tl ++ [.lst (ps.map prV)])) (.inr ⟨_, rfl, by simp⟩)
    rw [hr0] at hleft
    simp [le_sz, hleft]
    obtain ⟨_, _, hr, t, c, rfl, rfl, hc, t0, t1⟩ := r_law_draw (d := m + 2) (by omega) hc (tl ++ [.lst (ps.map prV)]) 5 (by omega)
    simp [hr]; clear hr
    have fin : ∀ (c0 c : Cell) (r : Nat), IsH c → r < 2 → Res false (c0 :: tl) (eqnV n tl) (.rt (.tup [.tup (ps.map prV), .tup (ss.map nV), .int (r : Int)]) (c :: (tl ++ [.lst (ps.map prV)]))) := fun c0 c r hc hr2 => by
      simp
      rw [shut_st (hc.bel _), frz_bel (by simp [prs_bel, nVs_bel])]
      simp
      exact ⟨⟨ps, ss, r⟩, c, rfl, ⟨pw, fun p hp => (pb p hp).1, sw, sb, hr2, pl, by show ss.length ≤ 1000; omega⟩, rfl, hc⟩
    refine cond_seq (fun h => ?_) fun h => ?_
    · simp
      obtain ⟨_, _, hr, t2, c, rfl, rfl, hc, u0, u1⟩ := r_law_draw (d := m + 2) (by omega) hc (tl ++ [.lst (ps.map prV)]) 2 (by omega)
      obtain ⟨r, rfl⟩ : ∃ r : Nat, t2 = (r : Int) := ⟨t2.toNat, by omega⟩
      simp [hr, le_sz]; clear hr
      have := fin cc c r hc (by omega)
      simpa using this
    · simp [le_sz]
      have := fin cc c r0 hc hr1
      simpa using this
  · rw [hI] at h
    obtain ⟨ps, c, x4, x5, rfl, rfl, hc, hb⟩ := h
    simp [hrn, rngOk_of (show -1000000000 ≤ (i : Int) + 1 ∧ (i : Int) + 1 ≤ 1000000000 by omega)]
    rw [show ((n : Int) - ((i : Int) + 1)).toNat = n - (i + 1) by omega]
    obtain ⟨I2, hI2⟩ := named fun (q : Nat) (e : Env) (s : Store) => ∃ (ps : List (Nat × Nat)) (c : Cell) (x5 : Option Val), e = [some (.ref 0), some (.int (n : Int)), some (wT n a), some (.ref (tl.length + 1)), some (.int (i : Int)), x5, none, none] ∧ s = c :: (tl ++ [.lst (ps.map prV)]) ∧ IsH c ∧ B i (i + 1 + q) ps
    have hn2 : i * n + n ≤ 144 := by
      have : (i + 1) * n ≤ 12 * 12 := Nat.mul_le_mul (by omega) hn
      rw [Nat.add_mul, Nat.one_mul] at this
      omega
    refine rng_seq (n := n - (i + 1)) I2 (by
      rw [hI2]
      refine ⟨ps, c, x5, rfl, rfl, hc, ?_⟩
      rw [hB] at hb ⊢
      exact ⟨hb.1, fun p hp => ⟨(hb.2.1 p hp).1, by have := (hb.2.1 p hp).2; omega⟩, by have := hb.2.2; omega⟩) (fun e s h => ?_) (fun q e s hq h => ?_)
    · rw [hI2] at h
      obtain ⟨ps, c, x5, rfl, rfl, hc, hb⟩ := h
      simp
      rw [hI]
      refine ⟨ps, c, _, _, rfl, rfl, hc, ?_⟩
      rw [hB] at hb ⊢
      refine ⟨hb.1, fun p hp => ⟨(hb.2.1 p hp).1, by have := (hb.2.1 p hp).2; omega⟩, ?_⟩
      have := hb.2.2
      rw [Nat.add_mul, Nat.one_mul]
      omega
    · rw [hI2] at h
      obtain ⟨ps, c, x5, rfl, rfl, hc, hb⟩ := h
      rw [hB] at hb
      obtain ⟨pw, pb, pl⟩ := hb
      simp
      obtain ⟨_, _, hr, t, c, rfl, rfl, hc, t0, t1⟩ := r_law_draw (d := m + 2) (by omega) hc (tl ++ [.lst (ps.map prV)]) ((n : Int) + 1) (by omega)
      simp [hr]; clear hr
      refine cond_seq (fun h => ?_) fun h => ?_
      · have hz : ps.length < szL := lt_sz (by omega)
        simp [le_sz, hz]
        rw [hI2]
        refine ⟨ps ++ [(i, i + 1 + q)], c, some (.int ((i : Int) + 1 + q)), rfl, by simp [prV], hc, ?_⟩
        rw [hB]
        refine ⟨pw_snoc pw fun p hp => ?_, fun p hp => ?_, by simp; omega⟩
        · have := (pb p hp).2
          show p.1 < i ∨ (p.1 = i ∧ p.2 < i + 1 + q)
          exact this
        · rcases List.mem_append.mp hp with z | z
          · exact ⟨(pb p z).1, by have := (pb p z).2; omega⟩
          · simp at z
            subst z
            exact ⟨⟨by show i < i + 1 + q; omega, by show i + 1 + q < n; omega⟩, .inr ⟨rfl, by show i + 1 + q < i + 1 + (q + 1); omega⟩⟩
      · simp
        rw [hI2]
        refine ⟨ps, c, some (.int ((i : Int) + 1 + q)), rfl, rfl, hc, ?_⟩
        rw [hB]
        exact ⟨pw, fun p hp => ⟨(pb p hp).1, by have := (pb p hp).2; omega⟩, by omega⟩
def eqnsV (n m : Nat) (tl : Store) (v : Val) (s : Store) : Prop := ∃ (Es : List Eqn) (c : Cell), v = .tup (Es.map eqV) ∧ (∀ E ∈ Es, Good n E) ∧ Es.length = m ∧ s = c :: tl ∧ IsH c
theorem eqV_bel {E : Eqn} {k : Nat} : (eqV E).bel k = true := by
  unfold eqV
  simp [prs_bel, nVs_bel]
theorem eqVs_bel {Es : List Eqn} {k : Nat} : belL k (Es.map eqV) = true := by
  rw [belL_all]; intro x hx; obtain ⟨E, _, rfl⟩ := List.mem_map.mp hx; exact eqV_bel
theorem r_law_equations {d : Nat} (h : 4 ≤ d) {c : Cell} (hc : IsH c) (tl : Store) {n a M : Nat} (hn : n ≤ 12) (hM : M ≤ 1000) : Oks (run G d 25 [.ref 0, .int (n : Int), .int (M : Int), wT n a] (c :: tl)) (eqnsV n M tl) := by
  obtain ⟨m, rfl⟩ := dep h
  refine run_oks (F := f25) rfl rfl (by decide) ?_
  simp [f25, rngOk_of (show -1000000000 ≤ (M : Int) ∧ (M : Int) ≤ 1000000000 by omega)]
  generalize hr : lcL _ none _ _ _ = r
  have hs : Oks r fun acc s => ∃ (Es : List Eqn) (c : Cell), acc = Es.map eqV ∧ (∀ E ∈ Es, Good n E) ∧ Es.length = M ∧ s = c :: tl ∧ IsH c := by
    rw [← hr]
    refine lc_rng (fun j acc s => ∃ (Es : List Eqn) (c : Cell), acc = Es.map eqV ∧ (∀ E ∈ Es, Good n E) ∧ Es.length = j ∧ s = c :: tl ∧ IsH c) ⟨[], c, rfl, by simp, rfl, rfl, hc⟩ (fun acc s h => h) fun j acc s hj h => ?_
    obtain ⟨Es, c, rfl, hE, hl, rfl, hc⟩ := h
    obtain ⟨_, _, hr, E, c, rfl, hG, rfl, hc⟩ := r_law_equation (d := m + 3) (by omega) hc tl (n := n) (a := a) hn
    refine ⟨eqV E, c :: tl, by simp [stepC, tgS, wipeE, hr], lt_sz (by simp; omega), Es ++ [E], c, by simp, fun F hF => ?_, by simp [hl], rfl, hc⟩
    rcases List.mem_append.mp hF with z | z
    · exact hE F z
    · simp at z; subst z; exact hG
  obtain ⟨_, _, rfl, Es, c, rfl, hE, hl, rfl, hc⟩ := hs
  simp
  rw [shut_h hc (by simp [eqVs_bel])]
  simp
  exact ⟨Es, c, rfl, hE, hl, rfl, hc⟩
/-! family B: systems -/
abbrev SyV (n : Nat) (Es : List Eqn) : Val := .obj 5 [23, 22] [.int (n : Int), .tup (Es.map eqV)]
@[simp] theorem isInsSy : isIns G 5 = true := Eq.trans rfl rfl
@[simp] theorem subCSy : subC G 5 5 = true := Eq.trans rfl rfl
@[simp] theorem hasFsn : hasF G 5 23 = true := Eq.trans rfl rfl
@[simp] theorem hasFse : hasF G 5 22 = true := Eq.trans rfl rfl
@[simp] theorem att_sn {m : Store} {v w : Val} : attV G m (.obj 5 [23, 22] [v, w]) 23 = some v := Eq.trans rfl rfl
@[simp] theorem att_se {m : Store} {v w : Val} : attV G m (.obj 5 [23, 22] [v, w]) 22 = some w := Eq.trans rfl rfl
@[simp] theorem m_first : methOf G 5 27 [23, 22] = some 32 := Eq.trans rfl rfl
@[simp] theorem m_solu : methOf G 5 26 [23, 22] = some 33 := Eq.trans rfl rfl
theorem r_is_number_below {d : Nat} (h : 1 ≤ d) {i l : Int} {s : Store} : run G d 8 [.int i, .int l] s = .ok (.bl (decide (0 ≤ i) && decide (i < l))) s := by
  obtain ⟨m, rfl⟩ := dep h
  rw [run_fn (F := f8) rfl rfl (by decide)]
  simp [f8]
  rw [shut_same (by simp)]
theorem r_ascends {d : Nat} (h : 1 ≤ d) {xs : List Val} (hl : xs.length ≤ 100000) (ha : ∀ (k : Nat) (x y : Val) (m : Store), xs[k]? = some x → xs[k + 1]? = some y → cmpV m .Lt x y = some true) {s : Store} (hb : belL s.length xs = true) : run G d 9 [.tup xs] s = .ok (.bl true) s := by
  obtain ⟨m, rfl⟩ := dep h
  rw [run_fn (F := f9) rfl rfl (by decide)]
  simp [f9, rngOk_of (show -1000000000 ≤ (xs.length : Int) - 1 ∧ (xs.length : Int) - 1 ≤ 1000000000 by omega)]
  rw [rngL_map, gen_allM (by simp) (fun p : Nat => Val.int (0 + (p : Int))) _ (fun k hk => ?_)]
  · simp
    rw [shut_same (by simp)]
  · have hk := List.mem_range.mp hk
    have h1 : k < xs.length := by omega
    have h2 : k + 1 < xs.length := by omega
    have e1 : L2.atI xs (k : Int) = some xs[k] := by rw [atI_int (by omega) (by omega)]; simp [h1]
    have e2 : L2.atI xs ((k : Int) + 1) = some xs[k + 1] := by
      rw [show (k : Int) + 1 = ((k + 1 : Nat) : Int) by omega, atI_int (by omega) (by omega)]
      simp [h2]
    have := ha k xs[k] xs[k + 1] s (List.getElem?_eq_getElem h1) (List.getElem?_eq_getElem h2)
    simp [stepC, tgS, wipeE, e1, e2, this]
theorem pw_next {α : Type} {R : α → α → Prop} {L : List α} (h : L.Pairwise R) {k : Nat} {x y : α} (hx : L[k]? = some x) (hy : L[k + 1]? = some y) : R x y := by
  obtain ⟨h1, rfl⟩ := List.getElem?_eq_some_iff.mp hx
  obtain ⟨h2, rfl⟩ := List.getElem?_eq_some_iff.mp hy
  exact List.pairwise_iff_getElem.mp h _ _ _ _ (by omega)
theorem lt_prV {p q : Nat × Nat} (h : ltP p q) {m : Store} : cmpV m .Lt (prV p) (prV q) = some true := by
  unfold prV cmpV
  simp only [intsOf, Option.map_some]
  congr 1
  rw [HT.lexLt_cons, HT.lexLt_cons]
  rcases h with h | ⟨h1, h2⟩
  · rw [if_neg (by omega), decide_eq_true (by omega)]
  · rw [if_pos (by omega), if_neg (by omega), decide_eq_true (by omega)]
theorem r_is_pair {d : Nat} (h : 2 ≤ d) {n : Nat} {p : Nat × Nat} (hp : p.1 < p.2 ∧ p.2 < n) {s : Store} : run G d 10 [prV p, .int (n : Int)] s = .ok (.bl true) s := by
  obtain ⟨m, rfl⟩ := dep h
  rw [run_fn (F := f10) rfl rfl (by decide)]
  unfold prV
  simp [f10, r_is_number_below (d := m + 1) (by omega), show (p.1 : Int) < (n : Int) by omega, show (p.2 : Int) < (n : Int) by omega, show (p.1 : Int) < (p.2 : Int) by omega]
  rw [shut_same (by simp)]
theorem r_is_equation {d : Nat} (h : 3 ≤ d) {n : Nat} {E : Eqn} (hE : Good n E) {s : Store} : run G d 11 [eqV E, .int (n : Int)] s = .ok (.bl true) s := by
  obtain ⟨m, rfl⟩ := dep h
  have pl := hE.pl
  have sl := hE.sl
  have rb := hE.rb
  rw [run_fn (F := f11) rfl rfl (by decide)]
  have a1 : run G (m + 2) 9 [.tup (E.ps.map prV)] s = .ok (.bl true) s := r_ascends (by omega) (by simp; omega) (fun k x y mm hx hy => by
    rw [List.getElem?_map] at hx hy
    obtain ⟨p, h1, rfl⟩ := Option.map_eq_some_iff.mp hx
    obtain ⟨q, h2, rfl⟩ := Option.map_eq_some_iff.mp hy
    exact lt_prV (pw_next hE.pw h1 h2)) prs_bel
  have a2 : run G (m + 2) 9 [.tup (E.ss.map nV)] s = .ok (.bl true) s := r_ascends (by omega) (by simp; omega) (fun k x y mm hx hy => by
    rw [List.getElem?_map] at hx hy
    obtain ⟨p, h1, rfl⟩ := Option.map_eq_some_iff.mp hx
    obtain ⟨q, h2, rfl⟩ := Option.map_eq_some_iff.mp hy
    have := pw_next hE.sw h1 h2
    simp [nV]; omega) nVs_bel
  have g1 := gen_allM (lv := none) (f := stepC G (run G (m + 2)) [some (eqV E), some (.int (n : Int)), some (.tup (E.ps.map prV)), some (.tup (E.ss.map nV)), some (.int (E.r : Int)), none, none] (.nm 5) .nil (.fnc 10 (.cons (.var 5) (.cons (.var 1) .nil)))) (s := s) (by simp) prV E.ps (fun p hp => by
    simp [stepC, tgS, wipeE, isExv_prV, r_is_pair (d := m + 2) (by omega) (hE.pb p hp)])
  have g2 := gen_allM (lv := none) (f := stepC G (run G (m + 2)) [some (eqV E), some (.int (n : Int)), some (.tup (E.ps.map prV)), some (.tup (E.ss.map nV)), some (.int (E.r : Int)), none, none] (.nm 6) .nil (.fnc 8 (.cons (.var 6) (.cons (.var 1) .nil)))) (s := s) (by simp) nV E.ss (fun i hi => by
    have := hE.sb i hi
    simp [stepC, tgS, wipeE, nV, r_is_number_below (d := m + 2) (by omega), show (i : Int) < (n : Int) by omega])
  unfold eqV at g1 g2 ⊢
  simp [f11, asg, setAll, r_is_number_below (d := m + 2) (by omega), show (E.r : Int) < 2 by omega, g1, g2, a1, a2]
  rw [shut_same (by simp)]
/-! family B: System at work -/
theorem hshut {s : Store} {c0 c : Cell} (hc : c.bel (s.length + 1) = true) : shut false (s ++ [c0]) Val.non (s ++ [c]) = .ok .non (s ++ [c]) := by
  have e : cutOk (s ++ [c0]) (s ++ [c]) := by
    refine ⟨by simp, fun i d hi g => ?_⟩
    rcases Nat.lt_or_ge i s.length with h | h
    · rw [List.getElem?_append_left h] at g ⊢; exact .inl g
    · rw [show i = s.length by simp at hi; omega] at g
      simp at g; subst g; exact .inr (by simpa using hc)
  unfold shut
  simp [e, frz_bel]
  rw [List.take_of_length_le (by simp)]
theorem isExv_eqV {E : Eqn} : isExv (eqV E) = false := rfl
theorem r_system {d : Nat} (h : 4 ≤ d) {n : Nat} {Es : List Eqn} {s : Store} (h1 : 1 ≤ n) (hn : n ≤ 12) (hE : ∀ E ∈ Es, Good n E) : mkV G (run G d) 5 [.int (n : Int), .tup (Es.map eqV)] s = .ok (SyV n Es) s := by
  refine mkV_imm (f := 31) rfl rfl rfl ?_ (by simp [eqVs_bel])
  obtain ⟨m, rfl⟩ := dep h
  refine eq_of_oks (run_oks (F := f31) rfl rfl (by decide) ?_)
  simp [f31, r_is_number_below (d := m + 3) (by omega), show (n : Int) < 13 by omega, show ¬ ((n : Int) = 0) by omega, show ¬ n = 0 by omega]
  obtain ⟨Q, hQ⟩ := named fun (v : Val) (s' : Store) => v = Val.non ∧ s' = s ++ [.ins 5 [23, 22] [.int (n : Int), .tup (Es.map eqV)]]
  rw [← hQ]
  obtain ⟨I, hI⟩ := named fun (r : List Val) (e : Env) (s' : Store) => ∃ (i : Nat) (L : List Eqn) (x3 x4 : Option Val), r = enumL i (L.map eqV) ∧ (∀ E ∈ L, Good n E) ∧ e = [some (.ref s.length), some (.int (n : Int)), some (.tup (Es.map eqV)), x3, x4] ∧ s' = s ++ [.ins 5 [] []]
  refine for_seq I (by rw [hI]; exact ⟨0, Es, none, none, rfl, hE, rfl, rfl⟩) (fun e s h => ?_) (fun x r e s h => ?_)
  · rw [hI] at h
    obtain ⟨i, L, x3, x4, -, -, rfl, rfl⟩ := h
    simp [putF]
    rw [hshut (by simp [Cell.bel, eqVs_bel])]
    simp
    rw [hQ]
    exact ⟨rfl, rfl⟩
  · rw [hI] at h
    obtain ⟨i, L, x3, x4, e1, hL, rfl, rfl⟩ := h
    cases L with
    | nil => cases e1
    | cons E L =>
      rw [List.map_cons, enumL] at e1
      cases e1
      simp [asg, setAll, isExv_eqV, r_is_equation (d := m + 3) (by omega) (hL E (by simp))]
      rw [hI]
      exact ⟨i + 1, L, _, _, rfl, fun E hE => hL E (by simp [hE]), rfl, rfl⟩
theorem r_first_wrong {d : Nat} (h : 7 ≤ d) {n a : Nat} {Es : List Eqn} {s : Store} (h1 : 1 ≤ n) (hn : n ≤ 12) (hE : ∀ E ∈ Es, Good n E) : Oks (run G d 32 [SyV n Es, wT n a] s) fun v s' => s' = s ∧ ((v = .non ∧ Es.all (fitB n a) = true) ∨ ((∃ i, v = .int i) ∧ Es.all (fitB n a) = false)) := by
  obtain ⟨m, rfl⟩ := dep h
  refine run_oks (F := f32) rfl rfl (by decide) ?_
  simp only [f32]
  simp [r_is_word (d := m + 6) (by omega) (a := a) h1 hn]
  obtain ⟨Q, hQ⟩ := named fun (v : Val) (s' : Store) => s' = s ∧ ((v = .non ∧ Es.all (fitB n a) = true) ∨ ((∃ i, v = .int i) ∧ Es.all (fitB n a) = false))
  have hQ2 : (fun (v : Val) (s' : Store) => s' = s ∧ ((v = .non ∧ ∀ x ∈ Es, fitB n a x = true) ∨ ((∃ i, v = .int i) ∧ ∃ x ∈ Es, fitB n a x = false))) = Q := by
    rw [hQ]
    simp
  rw [hQ2]
  obtain ⟨I, hI⟩ := named fun (r : List Val) (e : Env) (s' : Store) => ∃ (i : Nat) (L : List Eqn) (x3 x4 : Option Val), r = enumL i (L.map eqV) ∧ (∀ E ∈ L, Good n E) ∧ Es.all (fitB n a) = L.all (fitB n a) ∧ e = [some (SyV n Es), some (wT n a), x3, x4] ∧ s' = s
  refine for_seq I (by rw [hI]; exact ⟨0, Es, none, none, rfl, hE, rfl, rfl, rfl⟩) (fun e s h => ?_) (fun x r e s h => ?_)
  · rw [hI] at h
    obtain ⟨i, L, x3, x4, e1, -, e2, rfl, rfl⟩ := h
    cases L with
    | cons E L => rw [List.map_cons, enumL] at e1; cases e1
    | nil =>
      simp
      rw [shut_same (by simp)]
      simp
      rw [hQ]
      exact ⟨rfl, .inl ⟨rfl, e2⟩⟩
  · rw [hI] at h
    obtain ⟨i, L, x3, x4, e1, hL, e2, rfl, rfl⟩ := h
    cases L with
    | nil => cases e1
    | cons E L =>
      rw [List.map_cons, enumL] at e1
      cases e1
      cases hf : fitB n a E with
      | true =>
        simp [asg, setAll, isExv_eqV, r_fits (d := m + 6) (by omega) (a := a) (hL E (by simp)), hf]
        rw [hI]
        exact ⟨i + 1, L, _, _, rfl, fun E hE => hL E (by simp [hE]), by rw [e2, List.all_cons, hf]; rfl, rfl, rfl⟩
      | false =>
        simp [asg, setAll, isExv_eqV, r_fits (d := m + 6) (by omega) (a := a) (hL E (by simp)), hf]
        rw [shut_same (by simp)]
        simp
        rw [hQ]
        exact ⟨rfl, .inr ⟨⟨_, rfl⟩, by rw [e2, List.all_cons, hf]; rfl⟩⟩
theorem wTs_bel {n k : Nat} {L : List Nat} : belL k (L.map (wT n)) = true := by
  rw [belL_all]; intro x hx; obtain ⟨a, _, rfl⟩ := List.mem_map.mp hx; simp
abbrev sols (n : Nat) (Es : List Eqn) : List Nat := (List.range (2 ^ n)).filter fun a => Es.all (fitB n a)
theorem isN_is {v : Val} {m : Store} {b : Bool} (h : (v = .non ∧ b = true) ∨ ((∃ i, v = .int i) ∧ b = false)) : cmpV m .Is v .non = some b := by
  rcases h with ⟨rfl, rfl⟩ | ⟨⟨i, rfl⟩, rfl⟩ <;> rfl
theorem isN_isn {v : Val} {b : Bool} (h : (v = .non ∧ b = true) ∨ ((∃ i, v = .int i) ∧ b = false)) : isExv v = false := by
  rcases h with ⟨rfl, rfl⟩ | ⟨⟨i, rfl⟩, rfl⟩ <;> rfl
theorem isExv_wT {n a : Nat} : isExv (wT n a) = false := rfl
theorem r_solutions {d : Nat} (h : 8 ≤ d) {n : Nat} {Es : List Eqn} {s : Store} (h1 : 1 ≤ n) (hn : n ≤ 12) (hE : ∀ E ∈ Es, Good n E) : run G d 33 [SyV n Es] s = .ok (.tup ((sols n Es).map (wT n))) s := by
  obtain ⟨m, rfl⟩ := dep h
  have hp := pow12 hn
  rw [run_fn (F := f33) rfl rfl (by decide)]
  simp [f33, r_all_words (d := m + 7) (by omega) h1 hn, le_sz, -List.all_eq_true]
  rw [lcL_filt (wT n) (wT n) (fun a => Es.all (fitB n a)) _ _ (fun a ha => ?_) (le_sz (by simp; omega))]
  · have hz : (sols n Es).length ≤ szL := le_sz (Nat.le_trans (List.length_filter_le _ _) (by simp; omega))
    simp [hz, -List.all_eq_true]
    rw [shut_same (by simp [wTs_bel])]
  · obtain ⟨v, s', hr, rfl, hv⟩ := r_first_wrong (d := m + 7) (by omega) (a := a) (s := s) h1 hn hE
    cases hb : Es.all (fitB n a) with
    | true =>
      rw [hb] at hv
      simp [stepC, tgS, wipeE, hr, isExv_wT, isN_is hv, isN_isn hv]
    | false =>
      rw [hb] at hv
      simp [stepC, tgS, wipeE, hr, isExv_wT, isN_is hv, isN_isn hv]
theorem gen_allB {f : Val → Store → R (Option Val)} {s : Store} {α : Type} (a : α → Val) (b : α → Bool) : ∀ L : List α, (∀ x ∈ L, f (a x) s = .ok (some (.bl (b x))) s) → genL .all f none s (L.map a) .non = .ok (.bl (L.all b)) s
  | [], _ => by rw [List.map_nil, genL]; simp only [stands_none, ↓reduceIte]; rfl
  | x :: r, h => by
    rw [List.map_cons, genL]
    simp only [stands_none, ↓reduceIte]
    rw [h x (by simp), bindk]
    cases hb : b x with
    | true =>
      simp only [↓reduceIte, conNext, conStep, List.all_cons, hb, Bool.true_and]
      exact gen_allB a b r fun y hy => h y (by simp [hy])
    | false =>
      simp [conNext, conStep, List.all_cons, hb]
theorem prV_dat {p : Nat × Nat} : (prV p).dat = true := rfl
theorem prV_dep {p : Nat × Nat} : (prV p).dep ≤ 1 := by unfold prV; simp [Val.dep, depL]
theorem nV_dat {p : Nat} : (nV p).dat = true := rfl
theorem nV_dep {p : Nat} : (nV p).dep ≤ 0 := by unfold nV; simp [Val.dep]
theorem eqV_dat {E : Eqn} : (eqV E).dat = true := by
  unfold eqV
  simp only [Val.dat, datL, Bool.and_true, Bool.and_eq_true]
  refine ⟨datL_all.mpr fun x hx => ?_, datL_all.mpr fun x hx => ?_⟩ <;> obtain ⟨p, _, rfl⟩ := List.mem_map.mp hx <;> rfl
theorem eqV_dep {E : Eqn} : (eqV E).dep ≤ 3 := by
  have h1 : depL (E.ps.map prV) ≤ 1 := depL_le.mpr fun x hx => by obtain ⟨p, _, rfl⟩ := List.mem_map.mp hx; exact prV_dep
  have h2 : depL (E.ss.map nV) ≤ 0 := depL_le.mpr fun x hx => by obtain ⟨p, _, rfl⟩ := List.mem_map.mp hx; exact nV_dep
  unfold eqV
  simp only [Val.dep, depL]
  omega
theorem eqVs_pl {L : List Eqn} : pl (.lst (L.map eqV)) := pl_lst (datL_all.mpr fun x hx => by obtain ⟨p, _, rfl⟩ := List.mem_map.mp hx; exact eqV_dat) (Nat.le_trans (depL_le.mpr fun x hx => by obtain ⟨p, _, rfl⟩ := List.mem_map.mp hx; exact eqV_dep) (by decide : 3 ≤ 59))
theorem pl_nil : pl (.lst []) := pl_lst rfl (by simp [depL])
theorem eqL_nil {xs : List Val} : eqL xs [] = xs.isEmpty := by cases xs <;> simp
theorem r_law_solves {d : Nat} (h : 3 ≤ d) {n a : Nat} {Es : List Eqn} {s : Store} (hE : ∀ E ∈ Es, Good n E) (hl : Es.length ≤ 1000) : run G d 26 [wT n a, .tup (Es.map eqV)] s = .ok (.bl (Es.all (fitB n a))) s := by
  obtain ⟨m, rfl⟩ := dep h
  rw [run_fn (F := f26) rfl rfl (by decide)]
  simp [f26, -List.all_eq_true]
  rw [lcL_filt eqV eqV (fun E => !fitB n a E) _ _ (fun E hF => by
    cases hb : fitB n a E <;> simp [stepC, tgS, wipeE, isExv_eqV, r_law_fits (d := m + 2) (by omega) (a := a) (hE E hF), hb]) (le_sz (by simp; omega))]
  have e : (List.filter (fun E => !fitB n a E) Es).isEmpty = Es.all (fitB n a) := by
    induction Es with
    | nil => rfl
    | cons E Es ih =>
      have ih := ih (fun E h => hE E (by simp [h])) (by simp at hl; omega)
      rw [List.filter_cons, List.all_cons]
      cases hb : fitB n a E with
      | true => simpa using ih
      | false => simp
  simp [-List.all_eq_true, eqv_pl eqVs_pl pl_nil, eqL_nil, e]
  rw [shut_same (by simp)]
theorem r_law_solutions {d : Nat} (h : 4 ≤ d) {n : Nat} {Es : List Eqn} {s : Store} (hn : n ≤ 12) (hE : ∀ E ∈ Es, Good n E) (hl : Es.length ≤ 1000) : run G d 27 [.int (n : Int), .tup (Es.map eqV)] s = .ok (.tup ((sols n Es).map (wT n))) s := by
  obtain ⟨m, rfl⟩ := dep h
  have hp := pow12 hn
  rw [run_fn (F := f27) rfl rfl (by decide)]
  simp [f27, r_law_words (d := m + 3) (by omega) hn, le_sz, -List.all_eq_true]
  rw [lcL_filt (wT n) (wT n) (fun a => Es.all (fitB n a)) _ _ (fun a ha => by
    cases hb : Es.all (fitB n a) <;> simp [stepC, tgS, wipeE, r_law_solves (d := m + 3) (by omega) (a := a) hE hl, isExv_wT, hb]) (le_sz (by simp; omega))]
  have hz : (sols n Es).length ≤ szL := le_sz (Nat.le_trans (List.length_filter_le _ _) (by simp; omega))
  simp [hz, -List.all_eq_true]
  rw [shut_same (by simp [wTs_bel])]
theorem r_law_pick {d : Nat} (h : 3 ≤ d) {c : Cell} (hd : IsH c) (tl : Store) (r : List Int) (hr : 0 < r.length) (hr2 : r.length ≤ 1000) : Oks (run G d 19 [.ref 0, .lst (r.map .int)] (c :: tl)) (fun v s => ∃ i c, v = .int i ∧ i ∈ r ∧ s = c :: tl ∧ IsH c) := by
  obtain ⟨m, rfl⟩ := dep h
  refine run_oks (F := f19) rfl rfl (by decide) ?_
  obtain ⟨_, _, e, i, c, rfl, rfl, hc, i0, i1⟩ := r_law_draw (d := m + 2) (by omega) hd tl r.length (by omega)
  have h1 : i.toNat < r.length := by omega
  have e2 : L2.atI (r.map Val.int) i = some (.int r[i.toNat]) := by
    rw [atI_int i0 (by simpa using i1), List.getElem?_map, List.getElem?_eq_getElem h1]; rfl
  simp [f19, le_sz, e, e2]
  rw [shut_h hc (by simp)]
  simp
  exact hc
/-! repr -/
theorem toDL_map : ∀ xs : List Val, toDL xs = xs.map Val.toD
  | [] => rfl
  | x :: xs => by rw [toDL, toDL_map xs]; rfl
structure Rp (w : Nat) (d : PyData) : Prop where
  sh : d.showable = true
  ls : d.leavesShort 40 = true
  wt : d.weight ≤ w
theorem rp_all {w : Nat} : ∀ {ds : List PyData}, (∀ d ∈ ds, Rp w d) → PyData.showableAll ds = true ∧ PyData.leavesShortAll 40 ds = true ∧ PyData.weightAll ds ≤ ds.length * (w + 1)
  | [], _ => ⟨rfl, rfl, by simp [PyData.weightAll]⟩
  | d :: ds, h => by
    obtain ⟨h1, h2, h3⟩ := rp_all (ds := ds) fun x hx => h x (by simp [hx])
    have hd := h d (by simp)
    refine ⟨by rw [PyData.showableAll, hd.sh, h1]; rfl, by rw [PyData.leavesShortAll, hd.ls, h2]; rfl, ?_⟩
    have := hd.wt
    rw [PyData.weightAll, List.length_cons, Nat.add_mul]
    omega
theorem rp_tup {w m : Nat} {xs : List Val} (h : ∀ x ∈ xs, Rp w x.toD) (hm : xs.length ≤ m) : Rp (m * (w + 1)) (Val.tup xs).toD := by
  obtain ⟨h1, h2, h3⟩ := rp_all (w := w) (ds := toDL xs) (by
    rw [toDL_map]; intro d hd; obtain ⟨x, hx, rfl⟩ := List.mem_map.mp hd; exact h x hx)
  rw [Val.toD]
  refine ⟨by rw [PyData.showable]; exact h1, by rw [PyData.leavesShort]; exact h2, ?_⟩
  rw [PyData.weight]
  refine Nat.le_trans h3 (Nat.mul_le_mul_right _ ?_)
  rw [toDL_map, List.length_map]; exact hm
theorem dep_toD : ∀ {k : Nat} {v : Val}, v.dep ≤ k → v.dat = true → v.toD.depth ≤ k
  | k, .tup xs, h, hd => by
    rw [Val.dep] at h
    rw [Val.dat, datL_all] at hd
    rw [Val.toD, PyData.depth]
    obtain ⟨k, rfl⟩ : ∃ q, k = q + 1 := ⟨k - 1, by omega⟩
    have : PyData.depthAll (toDL xs) ≤ k := by
      have hk : depL xs ≤ k := by omega
      rw [depL_le] at hk
      clear h
      induction xs with
      | nil => simp [toDL, PyData.depthAll]
      | cons x xs ih =>
        rw [toDL, PyData.depthAll]
        exact Nat.max_le.mpr ⟨dep_toD (hk x (by simp)) (hd x (by simp)), ih (fun y hy => hd y (by simp [hy])) (fun y hy => hk y (by simp [hy]))⟩
    omega
  | k, .lst xs, h, hd => by
    rw [Val.dep] at h
    rw [Val.dat, datL_all] at hd
    rw [Val.toD, PyData.depth]
    obtain ⟨k, rfl⟩ : ∃ q, k = q + 1 := ⟨k - 1, by omega⟩
    have : PyData.depthAll (toDL xs) ≤ k := by
      have hk : depL xs ≤ k := by omega
      rw [depL_le] at hk
      clear h
      induction xs with
      | nil => simp [toDL, PyData.depthAll]
      | cons x xs ih =>
        rw [toDL, PyData.depthAll]
        exact Nat.max_le.mpr ⟨dep_toD (hk x (by simp)) (hd x (by simp)), ih (fun y hy => hd y (by simp [hy])) (fun y hy => hk y (by simp [hy]))⟩
    omega
  | k, .non, _, _ => by show PyData.depth .none ≤ k; simp [PyData.depth]
  | k, .bl _, _, _ => by rw [Val.toD]; simp [PyData.depth]
  | k, .int _, _, _ => by rw [Val.toD]; simp [PyData.depth]
  | k, .str _, _, _ => by rw [Val.toD]; simp [PyData.depth]
theorem rep_of {v : Val} {w : Nat} {m : Store} (hp : pl v) (h : Rp w v.toD) (hw : w ≤ 300000) : repV m v = some (.str v.toD.shown) := by
  unfold repV
  rw [look_dat hp.1]
  simp only
  have hl := PyData.shown_le 40 (by decide) v.toD h.ls
  have := h.wt
  rw [if_pos ⟨h.sh, dep_toD hp.2 hp.1, by show _ ≤ 16777216; omega⟩]
theorem rp_bit {i : Int} (h : i = 0 ∨ i = 1) : Rp 1 (Val.int i).toD := by
  rcases h with rfl | rfl
  · exact ⟨by decide, by rw [Val.toD, PyData.leavesShort]; exact decide_eq_true (Nat.le_trans (PyData.shown_int_le (i := 0) (by decide)) (by decide)), by rw [Val.toD, PyData.weight]; decide⟩
  · exact ⟨by decide, by rw [Val.toD, PyData.leavesShort]; exact decide_eq_true (Nat.le_trans (PyData.shown_int_le (i := 1) (by decide)) (by decide)), by rw [Val.toD, PyData.weight]; decide⟩
theorem rp_wT {n a : Nat} (hn : n ≤ 12) : Rp 24 (wT n a).toD := rp_tup (m := 12) (w := 1) (fun x hx => by obtain ⟨i, hi, rfl⟩ := List.mem_map.mp hx; exact rp_bit (wd_01 i hi)) (by rw [List.length_map, wd_len]; exact hn)
theorem wTs_dat {n : Nat} {L : List Nat} : datL (L.map (wT n)) = true := datL_all.mpr fun x hx => by obtain ⟨a, _, rfl⟩ := List.mem_map.mp hx; simp [Val.dat]
theorem wTs_dep {n : Nat} {L : List Nat} : depL (L.map (wT n)) ≤ 1 := depL_le.mpr fun x hx => by obtain ⟨a, _, rfl⟩ := List.mem_map.mp hx; simp [Val.dep]
theorem rep_words {n : Nat} {L : List Nat} {m : Store} (hn : n ≤ 12) (hl : L.length ≤ 4096) : repV m (.tup (L.map (wT n))) = some (.str (Val.tup (L.map (wT n))).toD.shown) :=
  rep_of (w := 4096 * 25) (pl_tup wTs_dat (Nat.le_trans wTs_dep (by decide))) (rp_tup (fun x hx => by obtain ⟨a, _, rfl⟩ := List.mem_map.mp hx; exact rp_wT hn) (by simpa using hl)) (by decide)
theorem in_words {n a : Nat} {L : List Nat} {m : Store} (ha : a < 2 ^ n) (hL : ∀ b ∈ L, b < 2 ^ n) : inV m (wT n a) (.tup (L.map (wT n))) = some (decide (a ∈ L)) := by
  unfold inV asS
  simp only
  rw [look_dat (by simp [Val.dat])]
  have h1 : (wT n a).dep ≤ 60 := by simp [Val.dep]
  have h2 : depL (L.map (wT n)) ≤ 60 := Nat.le_trans wTs_dep (by decide)
  simp only [wTs_dat, h1, h2, decide_true, Bool.and_true, ↓reduceIte]
  congr 1
  clear h1 h2
  induction L with
  | nil => simp
  | cons b L ih =>
    rw [List.map_cons, List.any_cons, ih (fun b hb => hL b (by simp [hb])), eqB_tup, eqL_ints]
    have : (wd n b = wd n a) ↔ a = b := ⟨fun h => (wd_inj (hL b (by simp)) ha h).symm, fun h => by rw [h]⟩
    simp only [this, List.mem_cons, Bool.decide_or]
theorem sols_lt {n : Nat} {Es : List Eqn} : ∀ b ∈ sols n Es, b < 2 ^ n := fun b hb => List.mem_range.mp (List.mem_filter.mp hb).1
theorem sols_in {n a : Nat} {Es : List Eqn} (ha : a < 2 ^ n) : decide (a ∈ sols n Es) = Es.all (fitB n a) := by
  have : a ∈ sols n Es ↔ Es.all (fitB n a) = true := by
    rw [List.mem_filter, List.mem_range]; exact ⟨fun h => h.2, fun h => ⟨ha, h⟩⟩
  cases hb : Es.all (fitB n a) with
  | true => exact decide_eq_true (this.mpr hb)
  | false => exact decide_eq_false fun h => by rw [this.mp h] at hb; cases hb
theorem in_sols {n a : Nat} {Es : List Eqn} {m : Store} (ha : a < 2 ^ n) : inV m (wT n a) (.tup ((sols n Es).map (wT n))) = some (Es.all (fitB n a)) := by rw [in_words ha sols_lt, sols_in ha]
/-! k24: what is shared with the colourings -/
structure Rl (v : Val) : Prop where
  dt : v.dat = true
  dp : v.dep = 0
  rp : Rp 128 v.toD
theorem rl_int {i : Int} (h : i.natAbs < 10 ^ 38) : Rl (.int i) := by
  have h2 : i.natAbs.log2 < 127 ∨ i.natAbs = 0 := by
    rcases Nat.eq_zero_or_pos i.natAbs with h0 | h0
    · exact .inr h0
    · exact .inl ((Nat.log2_lt (by omega)).mpr (Nat.lt_of_lt_of_le h (by decide)))
  refine ⟨rfl, by simp [Val.dep], ⟨?_, ?_, ?_⟩⟩
  · rw [Val.toD, PyData.showable]
    refine decide_eq_true ?_
    rcases h2 with h2 | h2
    · omega
    · rw [h2]; decide
  · rw [Val.toD, PyData.leavesShort]
    refine decide_eq_true ?_
    have e := int_text_length_le10 (k := 38) (by decide) h
    show (Str.ofString (toString i)).length ≤ 40
    rw [ofString_length]; omega
  · rw [Val.toD, PyData.weight]
    split
    · omega
    · rcases h2 with h2 | h2
      · omega
      · rw [h2]; decide
theorem rl_non : Rl .non := ⟨rfl, by simp [Val.dep], ⟨rfl, rfl, by show PyData.weight .none ≤ 128; rw [PyData.weight]; omega⟩⟩
theorem rl_bl {b : Bool} : Rl (.bl b) := ⟨rfl, by simp [Val.dep], ⟨rfl, rfl, by rw [Val.toD, PyData.weight]; omega⟩⟩
theorem rl_str {x : Str} (h0 : (Val.str x).dat = true) (h1 : (x.cps.toList.all fun c => decide (c < 16 ^ 8)) = true) (h2 : x.cps.size ≤ 128) : Rl (.str x) := ⟨h0, by simp [Val.dep], ⟨rfl, by rw [Val.toD, PyData.leavesShort]; exact h1, by rw [Val.toD, PyData.weight]; exact h2⟩⟩
theorem rp_mo {w w' : Nat} {d : PyData} (h : Rp w d) (hw : w ≤ w') : Rp w' d := ⟨h.sh, h.ls, Nat.le_trans h.wt hw⟩
structure P1 (v : Val) : Prop where
  dt : v.dat = true
  dp : v.dep ≤ 1
  rp : Rp 2580 v.toD
theorem Rl.p1 {v : Val} (h : Rl v) : P1 v := ⟨h.dt, by rw [h.dp]; omega, rp_mo h.rp (by omega)⟩
theorem p1_tup {xs : List Val} (h : ∀ x ∈ xs, Rl x) (hl : xs.length ≤ 20) : P1 (.tup xs) := by
  have : depL xs ≤ 0 := depL_le.mpr fun x hx => by rw [(h x hx).dp]; omega
  exact ⟨by rw [Val.dat]; exact datL_all.mpr fun x hx => (h x hx).dt, by rw [Val.dep]; omega, rp_mo (rp_tup (w := 128) (fun x hx => (h x hx).rp) hl) (by omega)⟩
theorem P1.pl {v : Val} (h : P1 v) : pl v := ⟨h.dt, Nat.le_trans h.dp (by decide)⟩
theorem P1.rep {v : Val} (h : P1 v) {m : Store} : repV m v = some (.str v.toD.shown) := rep_of h.pl h.rp (by decide)
theorem rep_pair {v : Val} {x : Str} (hx : Rl (.str x)) (h : P1 v) {m : Store} : repV m (.tup [.str x, v]) = some (.str (Val.tup [.str x, v]).toD.shown) := by
  have hd := h.dt
  have hp := h.dp
  refine rep_of (w := 2 * 2581) ⟨by have := hx.dt; simp only [Val.dat, datL, hd, Bool.and_true] at this ⊢; exact this, ?_⟩ (rp_tup (w := 2580) (fun y hy => ?_) (by simp)) (by decide)
  · simp only [Val.dep, depL]
    omega
  · simp at hy
    rcases hy with rfl | rfl
    · exact rp_mo hx.rp (by omega)
    · exact h.rp
theorem rl_number : Rl (.str "number") := rl_str (by decide +kernel) (by decide +kernel) (by decide +kernel)
theorem rl_0 : Rl (.str "0") := rl_str (by decide +kernel) (by decide +kernel) (by decide +kernel)
theorem r_law_pickV {d : Nat} (h : 3 ≤ d) {c : Cell} (hd : IsH c) (tl : Store) (P : Val → Prop) (r : List Val) (hr : 0 < r.length) (hr2 : r.length ≤ 1000) (hP : ∀ v ∈ r, P v ∧ v.dat = true) : Oks (run G d 19 [.ref 0, .lst r] (c :: tl)) (fun v s => ∃ c, P v ∧ v.dat = true ∧ s = c :: tl ∧ IsH c) := by
  obtain ⟨m, rfl⟩ := dep h
  refine run_oks (F := f19) rfl rfl (by decide) ?_
  obtain ⟨_, _, e, i, c, rfl, rfl, hc, i0, i1⟩ := r_law_draw (d := m + 2) (by omega) hd tl r.length (by omega)
  have h1 : i.toNat < r.length := by omega
  have e2 : L2.atI r i = some r[i.toNat] := by
    rw [atI_int i0 i1, List.getElem?_eq_getElem h1]
  have hp := hP _ (List.getElem_mem h1)
  simp [f19, le_sz, e, e2]
  rw [shut_h hc (dat_bel _ hp.2)]
  simp
  exact ⟨hp.1, hp.2, hc⟩
theorem cut_suf {xs : List Val} {k : Nat} : cutL xs (some (k : Int)) none = xs.drop k := by
  unfold cutL
  rw [HT.sIx_none, HT.sIx_nat]
  by_cases h : k ≤ xs.length
  · rw [Nat.min_eq_left h, List.take_of_length_le (by simp)]
  · rw [Nat.min_eq_right (by omega), Nat.sub_self, List.take_zero, List.drop_of_length_le (by omega)]
@[simp] theorem pow_30 {m : Store} : binV m .Pow (.int 10) (.int 30) = some (.int 1000000000000000000000000000000) := by rw [binV_powE, show powOk 10 30 = true by decide]; rfl
theorem rl_n {i : Int} (h : -1000 ≤ i ∧ i ≤ 1000) : Rl (.int i) := rl_int (Nat.lt_of_le_of_lt (show i.natAbs ≤ 1000 by omega) (by decide))
def isB (v : Val) (b : Int) : Bool := match v with
  | .int i => decide (0 ≤ i) && decide (i < b)
  | _ => false
/-! k24: terms that stand in just one of two rows -/
theorem st_eq {α : Type} {R : α → α → Prop} (ir : ∀ a, ¬ R a a) (as : ∀ a b, R a b → ¬ R b a) : ∀ {L M : List α}, L.Pairwise R → M.Pairwise R → (∀ x, x ∈ L ↔ x ∈ M) → L = M
  | [], [], _, _, _ => rfl
  | [], b :: M, _, _, h => absurd ((h b).mpr (by simp)) (by simp)
  | a :: L, [], _, _, h => absurd ((h a).mp (by simp)) (by simp)
  | a :: L, b :: M, hL, hM, h => by
    have hL := List.pairwise_cons.mp hL
    have hM := List.pairwise_cons.mp hM
    have hab : a = b := by
      rcases List.mem_cons.mp ((h a).mp (by simp)) with e | e
      · exact e
      · rcases List.mem_cons.mp ((h b).mpr (by simp)) with e2 | e2
        · exact e2.symm
        · exact absurd (hL.1 b e2) (as _ _ (hM.1 a e))
    subst hab
    rw [st_eq ir as hL.2 hM.2 fun x => ⟨fun hx => ?_, fun hx => ?_⟩]
    · rcases List.mem_cons.mp ((h x).mp (by simp [hx])) with e | e
      · subst e; exact absurd (hL.1 x hx) (ir x)
      · exact e
    · rcases List.mem_cons.mp ((h x).mpr (by simp [hx])) with e | e
      · subst e; exact absurd (hM.1 x hx) (ir x)
      · exact e
theorem ltP_ir (a : Nat × Nat) : ¬ ltP a a := fun h => by unfold ltP at h; omega
theorem ltP_as (a b : Nat × Nat) (h : ltP a b) : ¬ ltP b a := fun k => by unfold ltP at h k; omega
theorem lt_ir (a : Nat) : ¬ a < a := by omega
theorem lt_as (a b : Nat) (h : a < b) : ¬ b < a := by omega
def evP (n : Nat) : List (Nat × Nat) := (List.range n).flatMap fun i => (List.range (n - (i + 1))).map fun q => (i, i + 1 + q)
theorem evP_mem {n : Nat} {p : Nat × Nat} : p ∈ evP n ↔ p.1 < p.2 ∧ p.2 < n := by
  unfold evP
  rw [List.mem_flatMap]
  constructor
  · rintro ⟨i, hi, h⟩
    obtain ⟨q, hq, rfl⟩ := List.mem_map.mp h
    have := List.mem_range.mp hi
    have := List.mem_range.mp hq
    exact ⟨by show i < i + 1 + q; omega, by show i + 1 + q < n; omega⟩
  · rintro ⟨h1, h2⟩
    refine ⟨p.1, List.mem_range.mpr (by omega), List.mem_map.mpr ⟨p.2 - (p.1 + 1), List.mem_range.mpr (by omega), ?_⟩⟩
    rw [show p.1 + 1 + (p.2 - (p.1 + 1)) = p.2 by omega]
theorem evP_pw {n : Nat} : (evP n).Pairwise ltP := by
  unfold evP
  rw [List.pairwise_flatMap]
  refine ⟨fun i _ => ?_, ?_⟩
  · rw [List.pairwise_map]
    refine List.Pairwise.imp (fun {a b} h => ?_) List.pairwise_lt_range
    exact .inr ⟨rfl, by show i + 1 + a < i + 1 + b; omega⟩
  · refine List.Pairwise.imp (fun {a b} h x hx y hy => ?_) List.pairwise_lt_range
    obtain ⟨q, _, rfl⟩ := List.mem_map.mp hx
    obtain ⟨r, _, rfl⟩ := List.mem_map.mp hy
    exact .inl h
theorem evP_len {n : Nat} (h : n ≤ 12) : (evP n).length ≤ 66 := by
  have : ∀ n ∈ List.range 13, (evP n).length ≤ 66 := by decide
  exact this n (List.mem_range.mpr (by omega))
def xorF {α : Type} [DecidableEq α] (ev P Q : List α) : List α := ev.filter fun t => decide (t ∈ P) != decide (t ∈ Q)
theorem xor_mem {α : Type} [DecidableEq α] {ev P Q : List α} (hP : ∀ x ∈ P, x ∈ ev) (hQ : ∀ x ∈ Q, x ∈ ev) {x : α} : x ∈ xorF ev P Q ↔ (x ∈ P ∧ ¬ x ∈ Q) ∨ (x ∈ Q ∧ ¬ x ∈ P) := by
  unfold xorF
  rw [List.mem_filter]
  by_cases h1 : x ∈ P <;> by_cases h2 : x ∈ Q <;> simp [h1, h2]
  · exact hP x h1
  · exact hQ x h2
theorem filt_eq {α : Type} [DecidableEq α] {R : α → α → Prop} (ir : ∀ a, ¬ R a a) (as : ∀ a b, R a b → ¬ R b a) {ev P : List α} (he : ev.Pairwise R) (hp : P.Pairwise R) (hP : ∀ x ∈ P, x ∈ ev) : P = ev.filter fun t => decide (t ∈ P) :=
  st_eq ir as hp (he.filter _) fun x => by
    rw [List.mem_filter]
    simp
    exact fun h => hP x h
theorem sum_xor {α : Type} [DecidableEq α] (f : α → Int) (P Q : List α) : ∀ ev : List α, ((xorF ev P Q).map f).sum % 2 = (((ev.filter fun t => decide (t ∈ P)).map f).sum + ((ev.filter fun t => decide (t ∈ Q)).map f).sum) % 2
  | [] => rfl
  | x :: ev => by
    have ih := sum_xor f P Q ev
    unfold xorF at ih ⊢
    simp only [List.filter_cons]
    by_cases h1 : x ∈ P <;> by_cases h2 : x ∈ Q <;> simp only [h1, h2, decide_true, decide_false, bne_self_eq_false, Bool.false_eq_true, ↓reduceIte, List.map_cons, List.sum_cons, show (true != false) = true from rfl, show (false != true) = true from rfl] <;> omega
def addE (n : Nat) (E F : Eqn) : Eqn := ⟨xorF (evP n) E.ps F.ps, xorF (List.range n) E.ss F.ss, (E.r + F.r) % 2⟩
theorem good_ps {n : Nat} {E : Eqn} (h : Good n E) : ∀ x ∈ E.ps, x ∈ evP n := fun x hx => evP_mem.mpr (h.pb x hx)
theorem good_ss {n : Nat} {E : Eqn} (h : Good n E) : ∀ x ∈ E.ss, x ∈ List.range n := fun x hx => List.mem_range.mpr (h.sb x hx)
theorem add_good {n : Nat} (hn : n ≤ 12) {E F : Eqn} (hE : Good n E) (hF : Good n F) : Good n (addE n E F) where
  pw := evP_pw.filter _
  pb := fun p hp => evP_mem.mp (List.mem_filter.mp hp).1
  sw := List.pairwise_lt_range.filter _
  sb := fun i hi => List.mem_range.mp (List.mem_filter.mp hi).1
  rb := by show (E.r + F.r) % 2 < 2; omega
  pl := Nat.le_trans (List.length_filter_le _ _) (Nat.le_trans (evP_len hn) (by decide))
  sl := Nat.le_trans (List.length_filter_le _ _) (by rw [List.length_range]; omega)
theorem good_len {n : Nat} (hn : n ≤ 12) {E : Eqn} (h : Good n E) : E.ps.length ≤ 66 ∧ E.ss.length ≤ 12 := by
  constructor
  · rw [filt_eq ltP_ir ltP_as evP_pw h.pw (good_ps h)]
    exact Nat.le_trans (List.length_filter_le _ _) (evP_len hn)
  · rw [filt_eq lt_ir lt_as List.pairwise_lt_range h.sw (good_ss h)]
    exact Nat.le_trans (List.length_filter_le _ _) (by rw [List.length_range]; exact hn)
theorem lhs_add {n a : Nat} {E F : Eqn} (hE : Good n E) (hF : Good n F) : lhs n a (addE n E F).ps (addE n E F).ss % 2 = (lhs n a E.ps E.ss + lhs n a F.ps F.ss) % 2 := by
  have h1 := sum_xor (fun p : Nat × Nat => (wd n a).getD p.1 0 * (wd n a).getD p.2 0) E.ps F.ps (evP n)
  have h2 := sum_xor (fun i : Nat => (wd n a).getD i 0) E.ss F.ss (List.range n)
  rw [← filt_eq ltP_ir ltP_as evP_pw hE.pw (good_ps hE), ← filt_eq ltP_ir ltP_as evP_pw hF.pw (good_ps hF)] at h1
  rw [← filt_eq lt_ir lt_as List.pairwise_lt_range hE.sw (good_ss hE), ← filt_eq lt_ir lt_as List.pairwise_lt_range hF.sw (good_ss hF)] at h2
  unfold lhs addE
  simp only
  omega
theorem fit_add {n a : Nat} {E F : Eqn} (hE : Good n E) (hF : Good n F) (h : fitB n a E = true) : fitB n a (addE n E F) = fitB n a F := by
  have e := lhs_add (a := a) hE hF
  have h := of_decide_eq_true h
  have hr : (((addE n E F).r : Nat) : Int) = ((E.r : Int) + (F.r : Int)) % 2 := by show (((E.r + F.r) % 2 : Nat) : Int) = _; omega
  have rE := hE.rb
  have rF := hF.rb
  unfold fitB
  rw [hr]
  by_cases hf : lhs n a F.ps F.ss % 2 = (F.r : Int)
  · rw [decide_eq_true hf]; exact decide_eq_true (by omega)
  · rw [decide_eq_false hf]; exact decide_eq_false (by omega)
theorem all_set {α : Type} {p : α → Bool} {Es : List α} {i j : Nat} {X : α} (hi : i < Es.length) (hj : j < Es.length) (hij : i ≠ j) (h : p Es[i] = true → p X = p Es[j]) : (Es.set j X).all p = Es.all p := by
  rw [Bool.eq_iff_iff, List.all_eq_true, List.all_eq_true]
  constructor
  · intro k
    have hx : p X = true := k X (List.mem_set hj X)
    have hi2 : p Es[i] = true := k _ (List.mem_iff_getElem.mpr ⟨i, by simpa using hi, by rw [List.getElem_set_ne (Ne.symm hij)]⟩)
    intro y hy
    obtain ⟨q, hq, rfl⟩ := List.mem_iff_getElem.mp hy
    by_cases e : q = j
    · subst e; rw [← h hi2]; exact hx
    · exact k _ (List.mem_iff_getElem.mpr ⟨q, by simpa using hq, by rw [List.getElem_set_ne (Ne.symm e)]⟩)
  · intro k y hy
    rcases List.mem_or_eq_of_mem_set hy with z | rfl
    · exact k y z
    · rw [h (k _ (List.getElem_mem hi))]; exact k _ (List.getElem_mem hj)
theorem sols_set {n i j : Nat} {Es : List Eqn} (hE : ∀ E ∈ Es, Good n E) (hi : i < Es.length) (hj : j < Es.length) (hij : i ≠ j) : sols n (Es.set j (addE n Es[i] Es[j])) = sols n Es := by
  unfold sols
  refine List.filter_congr fun a _ => ?_
  exact all_set hi hj hij fun h => fit_add (hE _ (List.getElem_mem hi)) (hE _ (List.getElem_mem hj)) h
theorem set_good {n i j : Nat} (hn : n ≤ 12) {Es : List Eqn} (hE : ∀ E ∈ Es, Good n E) (hi : i < Es.length) (hj : j < Es.length) : ∀ E ∈ Es.set j (addE n Es[i] Es[j]), Good n E := fun E h => by
  rcases List.mem_or_eq_of_mem_set h with z | rfl
  · exact hE E z
  · exact add_good hn (hE _ (List.getElem_mem hi)) (hE _ (List.getElem_mem hj))
/-! sorted -/
theorem insI_mem {i x : Int} : ∀ {l : List Int}, x ∈ insI i l ↔ x = i ∨ x ∈ l
  | [] => by simp [insI]
  | j :: r => by
    rw [insI]
    split
    · simp
    · rw [List.mem_cons, insI_mem, List.mem_cons]
      constructor
      · rintro (h | h | h) <;> simp [h]
      · rintro (h | h | h) <;> simp [h]
theorem insI_pw {i : Int} : ∀ {l : List Int}, l.Pairwise (· < ·) → ¬ i ∈ l → (insI i l).Pairwise (· < ·)
  | [], _, _ => by simp [insI]
  | j :: r, h, hi => by
    have h := List.pairwise_cons.mp h
    have h1 : i ≠ j := fun e => hi (by simp [e])
    have h2 : ¬ i ∈ r := fun e => hi (by simp [e])
    rw [insI]
    split
    · rename_i hle
      refine List.pairwise_cons.mpr ⟨fun x hx => ?_, List.pairwise_cons.mpr h⟩
      rcases List.mem_cons.mp hx with rfl | hx
      · omega
      · have := h.1 x hx; omega
    · rename_i hle
      refine List.pairwise_cons.mpr ⟨fun x hx => ?_, insI_pw h.2 h2⟩
      rcases insI_mem.mp hx with rfl | hx
      · omega
      · exact h.1 x hx
theorem sortI_mem {x : Int} : ∀ {l : List Int}, x ∈ sortI l ↔ x ∈ l
  | [] => by simp [sortI]
  | i :: r => by rw [sortI, insI_mem, sortI_mem, List.mem_cons]
theorem sortI_pw : ∀ {l : List Int}, l.Nodup → (sortI l).Pairwise (· < ·)
  | [], _ => by simp [sortI]
  | i :: r, h => by
    have h := List.nodup_cons.mp h
    rw [sortI]
    exact insI_pw (sortI_pw h.2) fun z => h.1 (sortI_mem.mp z)
def bP (q p : Int × Int) : Prop := belP q p = true
theorem bP_iff {q p : Int × Int} : bP q p ↔ q.1 < p.1 ∨ (q.1 = p.1 ∧ q.2 < p.2) := by
  unfold bP belP
  split
  · rw [decide_eq_true_eq]; omega
  · rw [decide_eq_true_eq]; omega
theorem insP_mem {i x : Int × Int} : ∀ {l : List (Int × Int)}, x ∈ insP i l ↔ x = i ∨ x ∈ l
  | [] => by simp [insP]
  | j :: r => by
    rw [insP]
    split
    · rw [List.mem_cons, insP_mem, List.mem_cons]
      constructor
      · rintro (h | h | h) <;> simp [h]
      · rintro (h | h | h) <;> simp [h]
    · simp
theorem insP_pw {i : Int × Int} : ∀ {l : List (Int × Int)}, l.Pairwise bP → ¬ i ∈ l → (insP i l).Pairwise bP
  | [], _, _ => by simp [insP]
  | j :: r, h, hi => by
    have h := List.pairwise_cons.mp h
    have h1 : i ≠ j := fun e => hi (by simp [e])
    have h2 : ¬ i ∈ r := fun e => hi (by simp [e])
    rw [insP]
    split
    · rename_i hle
      refine List.pairwise_cons.mpr ⟨fun x hx => ?_, insP_pw h.2 h2⟩
      rcases insP_mem.mp hx with rfl | hx
      · exact hle
      · exact h.1 x hx
    · rename_i hle
      have hij : bP i j := by
        rw [bP_iff]
        have hle : ¬ bP j i := hle
        rw [bP_iff] at hle
        have : ¬ (i.1 = j.1 ∧ i.2 = j.2) := fun e => h1 (Prod.ext e.1 e.2)
        omega
      refine List.pairwise_cons.mpr ⟨fun x hx => ?_, List.pairwise_cons.mpr h⟩
      rcases List.mem_cons.mp hx with rfl | hx
      · exact hij
      · have := h.1 x hx
        rw [bP_iff] at hij this ⊢
        omega
theorem sortP_mem {x : Int × Int} : ∀ {l : List (Int × Int)}, x ∈ sortP l ↔ x ∈ l
  | [] => by simp [sortP]
  | i :: r => by rw [sortP, insP_mem, sortP_mem, List.mem_cons]
theorem sortP_pw : ∀ {l : List (Int × Int)}, l.Nodup → (sortP l).Pairwise bP
  | [], _ => by simp [sortP]
  | i :: r, h => by
    have h := List.nodup_cons.mp h
    rw [sortP]
    exact insP_pw (sortP_pw h.2) fun z => h.1 (sortP_mem.mp z)
def eith {α : Type} [DecidableEq α] (P Q : List α) : List α := (P.filter fun t => !decide (t ∈ Q)) ++ (Q.filter fun t => !decide (t ∈ P))
theorem eith_mem {α : Type} [DecidableEq α] {P Q : List α} {x : α} : x ∈ eith P Q ↔ (x ∈ P ∧ ¬ x ∈ Q) ∨ (x ∈ Q ∧ ¬ x ∈ P) := by
  unfold eith
  simp
theorem eith_nd {α : Type} [DecidableEq α] {R : α → α → Prop} (ir : ∀ a, ¬ R a a) {P Q : List α} (hP : P.Pairwise R) (hQ : Q.Pairwise R) : (eith P Q).Nodup := by
  have nd : ∀ {L : List α}, L.Pairwise R → L.Nodup := fun {L} h => List.Pairwise.imp (S := (· ≠ ·)) (fun {a b} r e => ir a (by rw [← e] at r; exact r)) h
  unfold eith
  refine List.nodup_append.mpr ⟨(nd hP).filter _, (nd hQ).filter _, fun a ha b hb e => ?_⟩
  subst e
  have h1 := (List.mem_filter.mp ha).2
  have h2 := (List.mem_filter.mp hb).1
  simp [h2] at h1
theorem nd_map {α β : Type} {f : α → β} (hf : ∀ a b, f a = f b → a = b) {L : List α} (h : L.Nodup) : (L.map f).Nodup :=
  List.pairwise_map.mpr (h.imp fun {a b} r e => r (hf a b e))
def cP (p : Nat × Nat) : Int × Int := ((p.1 : Int), (p.2 : Int))
theorem cP_inj (a b : Nat × Nat) (h : cP a = cP b) : a = b := by
  unfold cP at h
  have h1 := congrArg Prod.fst h
  have h2 := congrArg Prod.snd h
  simp only at h1 h2
  exact Prod.ext (by omega) (by omega)
theorem prs_map : ∀ L : List (Nat × Nat), prsOf (L.map prV) = some (L.map cP)
  | [] => rfl
  | p :: L => by
    rw [List.map_cons, prV, prsOf, prs_map L]
    rfl
theorem srt_S {n : Nat} {P Q : List Nat} (hn : n ≤ 12) (hP : P.Pairwise (· < ·)) (hQ : Q.Pairwise (· < ·)) (bP : ∀ x ∈ P, x ∈ List.range n) (bQ : ∀ x ∈ Q, x ∈ List.range n) {m : Store} : srtV [.lst ((eith P Q).map nV)] m = some ((xorF (List.range n) P Q).map nV) := by
  have nd := eith_nd lt_ir hP hQ
  have e : sortI ((eith P Q).map fun k : Nat => (k : Int)) = (xorF (List.range n) P Q).map fun k : Nat => (k : Int) := by
    refine st_eq (R := (· < ·)) (fun a => by omega) (fun a b h => by omega) (sortI_pw (nd_map (fun a b h => by omega) nd)) ?_ fun x => ?_
    · rw [List.pairwise_map]
      exact (List.pairwise_lt_range.filter _).imp fun {a b} h => by omega
    · rw [sortI_mem]
      simp only [List.mem_map, eith_mem, xor_mem bP bQ]
  have hl : ((eith P Q).map fun k : Nat => (k : Int)).length < 64 := by
    have h1 : P.length ≤ n := by
      rw [filt_eq lt_ir lt_as List.pairwise_lt_range hP bP]
      exact Nat.le_trans (List.length_filter_le _ _) (by rw [List.length_range]; omega)
    have h2 : Q.length ≤ n := by
      rw [filt_eq lt_ir lt_as List.pairwise_lt_range hQ bQ]
      exact Nat.le_trans (List.length_filter_le _ _) (by rw [List.length_range]; omega)
    unfold eith
    rw [List.length_map, List.length_append]
    have h3 := List.length_filter_le (fun t => !decide (t ∈ Q)) P
    have h4 := List.length_filter_le (fun t => !decide (t ∈ P)) Q
    omega
  unfold srtV
  simp only [oneL, asL_lst]
  have hi : intsOf ((eith P Q).map nV) = some ((eith P Q).map fun k : Nat => (k : Int)) := intsOf_map _ _
  rw [hi]
  simp only
  rw [if_pos hl, e, List.map_map]
  rfl
theorem srt_P {n : Nat} {P Q : List (Nat × Nat)} (hP : P.Pairwise ltP) (hQ : Q.Pairwise ltP) (bP2 : ∀ x ∈ P, x ∈ evP n) (bQ : ∀ x ∈ Q, x ∈ evP n) {m : Store} : srtV [.lst ((eith P Q).map prV)] m = some ((xorF (evP n) P Q).map prV) := by
  have nd := eith_nd ltP_ir hP hQ
  have e : sortP ((eith P Q).map cP) = (xorF (evP n) P Q).map cP := by
    refine st_eq (R := bP) (fun a h => by rw [bP_iff] at h; omega) (fun a b h k => by rw [bP_iff] at h k; omega) (sortP_pw (nd_map cP_inj nd)) ?_ fun x => ?_
    · rw [List.pairwise_map]
      refine (evP_pw.filter _).imp fun {a b} h => ?_
      rw [bP_iff]
      unfold cP
      unfold ltP at h
      simp only
      omega
    · rw [sortP_mem]
      simp only [List.mem_map, eith_mem, xor_mem bP2 bQ]
  unfold srtV
  simp only [oneL, asL_lst]
  cases hE : eith P Q with
  | nil =>
    rw [hE] at e
    have : xorF (evP n) P Q = [] := by
      cases hx : xorF (evP n) P Q with
      | nil => rfl
      | cons a L => rw [hx] at e; cases e
    rw [this]
    rfl
  | cons p L =>
    rw [hE] at e
    have hi : intsOf ((p :: L).map prV) = none := rfl
    rw [hi]
    simp only
    rw [prs_map, ]
    simp only
    rw [e, List.map_map]
    rfl
/-! k24: the functions -/
@[simp] theorem bif_srt {mu : Bool} {xs : List Val} {s : Store} : bifV .sorted mu xs s = putO mu (srtV xs s) s := Eq.trans rfl rfl
theorem r_pairs_below {d : Nat} (h : 1 ≤ d) {n : Nat} (hn : n ≤ 12) {s : Store} : run G d 13 [.int (n : Int)] s = .ok (.lst ((evP n).map prV)) s := by
  obtain ⟨m, rfl⟩ := dep h
  have hrn := rngOk_of (show -1000000000 ≤ (n : Int) ∧ (n : Int) ≤ 1000000000 by omega)
  rw [run_fn (F := f13) rfl rfl (by decide)]
  simp [f13, hrn]
  rw [rngL_map, lc2L_map (fun p : Nat => Val.int (0 + (p : Int))) (fun i => (List.range (n - (i + 1))).map fun q => prV (i, i + 1 + q)) 12 1000 _ _ (fun i hi acc hl => ?_) (fun i _ => by simp; omega) (by simp; omega)]
  · have e : (List.range n).flatMap (fun i => (List.range (n - (i + 1))).map fun q => prV (i, i + 1 + q)) = (evP n).map prV := by
      unfold evP
      rw [List.map_flatMap]
      simp only [List.map_map]
      rfl
    rw [List.nil_append, e]
    simp
    rw [shut_same (by simp [prs_bel])]
  · have hi := List.mem_range.mp hi
    simp [outC, tgS, wipeE, hrn, rngOk_of (show -1000000000 ≤ (i : Int) + 1 ∧ (i : Int) + 1 ≤ 1000000000 by omega)]
    rw [show ((n : Int) - ((i : Int) + 1)).toNat = n - (i + 1) by omega, rngL_map, lcL_map (fun p : Nat => Val.int ((i : Int) + 1 + (p : Int))) (fun q : Nat => prV (i, i + 1 + q)) _ _ (fun q hq => ?_) (le_sz (by simp; omega))]
    · simp
    · simp [stepC, tgS, wipeE, prV, le_sz (show 2 ≤ 10000000 by decide)]
theorem in_V {α : Type} [DecidableEq α] (V : α → Val) (hd : ∀ x, (V x).dat = true) (hp : ∀ x, (V x).dep ≤ 1) (he : ∀ x y, eqB (V x) (V y) = decide (x = y)) {a : α} {L : List α} {m : Store} : inV m (V a) (.tup (L.map V)) = some (decide (a ∈ L)) := by
  unfold inV asS
  simp only
  rw [look_dat (hd a)]
  have h1 : (V a).dep ≤ 60 := Nat.le_trans (hp a) (by decide)
  have h2 : depL (L.map V) ≤ 60 := depL_le.mpr fun x hx => by obtain ⟨y, _, rfl⟩ := List.mem_map.mp hx; exact Nat.le_trans (hp y) (by decide)
  have h3 : datL (L.map V) = true := datL_all.mpr fun x hx => by obtain ⟨y, _, rfl⟩ := List.mem_map.mp hx; exact hd y
  simp only [h3, h1, h2, decide_true, Bool.and_true, ↓reduceIte]
  congr 1
  clear h1 h2 h3
  induction L with
  | nil => simp
  | cons b L ih =>
    rw [List.map_cons, List.any_cons, ih, he]
    have : (b = a) ↔ a = b := ⟨Eq.symm, Eq.symm⟩
    simp only [this, List.mem_cons, Bool.decide_or]
theorem eq_prV (x y : Nat × Nat) : eqB (prV x) (prV y) = decide (x = y) := by
  have e : (x = y) ↔ ([(x.1 : Int), (x.2 : Int)] = [(y.1 : Int), (y.2 : Int)]) := by
    constructor
    · rintro rfl; rfl
    · intro h
      injection h with h1 h2
      injection h2 with h2 h3
      exact Prod.ext (by omega) (by omega)
  show eqB (.tup ([(x.1 : Int), (x.2 : Int)].map Val.int)) (.tup ([(y.1 : Int), (y.2 : Int)].map Val.int)) = _
  rw [eqB_tup, eqL_ints]
  exact decide_eq_decide.mpr e.symm
theorem eq_nV (x y : Nat) : eqB (nV x) (nV y) = decide (x = y) := by
  unfold nV
  simp
  omega
theorem in_S {a : Nat} {L : List Nat} {m : Store} : inV m (nV a) (.tup (L.map nV)) = some (decide (a ∈ L)) := in_V nV (fun _ => rfl) (fun _ => Nat.le_trans nV_dep (by decide)) eq_nV
theorem r_added {d : Nat} (h : 1 ≤ d) {α : Type} [DecidableEq α] (V : α → Val) (hx : ∀ x, (V x).dat = true) (hin : ∀ (x : α) (L : List α) (m : Store), inV m (V x) (.tup (L.map V)) = some (decide (x ∈ L))) {ev P Q : List α} (hl : ev.length ≤ 1000) {s : Store} : run G d 14 [.lst (ev.map V), .tup (P.map V), .tup (Q.map V)] s = .ok (.tup ((xorF ev P Q).map V)) s := by
  obtain ⟨m, rfl⟩ := dep h
  rw [run_fn (F := f14) rfl rfl (by decide)]
  simp [f14]
  rw [lcL_filt V V (fun t => decide (t ∈ P) != decide (t ∈ Q)) _ _ (fun t ht => ?_) (le_sz (by simp; omega))]
  · have hz : (xorF ev P Q).length ≤ szL := le_sz (Nat.le_trans (List.length_filter_le _ _) (by omega))
    unfold xorF at hz ⊢
    simp [hz]
    rw [shut_same (by simp; rw [belL_all]; intro x hxx; obtain ⟨y, _, rfl⟩ := List.mem_map.mp hxx; exact dat_bel _ (hx y))]
  · by_cases h1 : t ∈ P <;> by_cases h2 : t ∈ Q <;> simp [stepC, tgS, wipeE, isExv_dat (hx t), hin, h1, h2]
theorem r_either {d : Nat} (h : 1 ≤ d) {α : Type} [DecidableEq α] (V : α → Val) (hx : ∀ x, (V x).dat = true) (hin : ∀ (x : α) (L : List α) (m : Store), inV m (V x) (.tup (L.map V)) = some (decide (x ∈ L))) {P Q T : List α} (hp : P.length ≤ 1000) (hq : Q.length ≤ 1000) (ht : T.length ≤ 2000) (hs : ∀ m : Store, srtV [.lst ((eith P Q).map V)] m = some (T.map V)) {s : Store} : run G d 28 [.tup (P.map V), .tup (Q.map V)] s = .ok (.tup (T.map V)) s := by
  obtain ⟨m, rfl⟩ := dep h
  rw [run_fn (F := f28) rfl rfl (by decide)]
  have f1 : ∀ (A B : List α) (e : Env), e = [some (.tup (A.map V)), some (.tup (B.map V)), none] → lcL (stepC G (run G m) e (.nm 2) (.cons (.cmp .NotIn (.var 2) (.var 1)) .nil) (.var 2)) none (A.map V) [] s = .ok ([] ++ (A.filter fun t => !decide (t ∈ B)).map V) s ∨ 1000 < A.length := fun A B e he => by
    subst he
    by_cases hA : A.length ≤ 1000
    · refine .inl (lcL_filt V V (fun t => !decide (t ∈ B)) _ _ (fun t ht => ?_) (le_sz (by simp; omega)))
      by_cases h2 : t ∈ B <;> simp [stepC, tgS, wipeE, isExv_dat (hx t), hin, h2]
    · exact .inr (by omega)
  have e1 : lcL (stepC G (run G m) [some (.tup (P.map V)), some (.tup (Q.map V)), none] (.nm 2) (.cons (.cmp .NotIn (.var 2) (.var 1)) .nil) (.var 2)) none (P.map V) [] s = .ok ([] ++ (P.filter fun t => !decide (t ∈ Q)).map V) s :=
    lcL_filt V V (fun t => !decide (t ∈ Q)) _ _ (fun t ht => by by_cases h2 : t ∈ Q <;> simp [stepC, tgS, wipeE, isExv_dat (hx t), hin, h2]) (le_sz (by simp; omega))
  have e2 : lcL (stepC G (run G m) [some (.tup (P.map V)), some (.tup (Q.map V)), none] (.nm 2) (.cons (.cmp .NotIn (.var 2) (.var 0)) .nil) (.var 2)) none (Q.map V) [] s = .ok ([] ++ (Q.filter fun t => !decide (t ∈ P)).map V) s :=
    lcL_filt V V (fun t => !decide (t ∈ P)) _ _ (fun t ht => by by_cases h2 : t ∈ P <;> simp [stepC, tgS, wipeE, isExv_dat (hx t), hin, h2]) (le_sz (by simp; omega))
  have z1 := List.length_filter_le (fun t => !decide (t ∈ Q)) P
  have z2 := List.length_filter_le (fun t => !decide (t ∈ P)) Q
  have hz : ((P.filter fun t => !decide (t ∈ Q)).map V).length + ((Q.filter fun t => !decide (t ∈ P)).map V).length ≤ szL := le_sz (by rw [List.length_map, List.length_map]; omega)
  have hs2 := hs s
  unfold eith at hs2
  rw [List.map_append] at hs2
  have hT : T.length ≤ szL := le_sz (by omega)
  simp only [List.nil_append] at e1 e2
  obtain ⟨A, hA⟩ := named ((P.filter fun t => !decide (t ∈ Q)).map V)
  obtain ⟨B, hB⟩ := named ((Q.filter fun t => !decide (t ∈ P)).map V)
  rw [← hA] at e1 hz hs2
  rw [← hB] at e2 hz hs2
  simp [f28, e1, e2, hz, hs2, hT]
  rw [shut_same (by simp; rw [belL_all]; intro x hxx; obtain ⟨y, _, rfl⟩ := List.mem_map.mp hxx; exact dat_bel _ (hx y))]
theorem r_nb {d : Nat} (h : 1 ≤ d) {v : Val} (hv : v.dat = true) {b : Int} {s : Store} : run G d 8 [v, .int b] s = .ok (.bl (isB v b)) s := by
  obtain ⟨m, rfl⟩ := dep h
  rw [run_fn (F := f8) rfl rfl (by decide)]
  cases v <;> simp [Val.dat] at hv <;> simp [f8, anyTy, kdV, kdOk, anyK, tyK, isB, shut_same]
@[simp] theorem clsNum : G.cls[1]? = some ⟨"InvalidNumber", none, [], [], false, some [24], [1, 0]⟩ := Eq.trans rfl rfl
@[simp] theorem clsUnd : G.cls[4]? = some ⟨"Undefined", none, [], [], false, some [25], [4, 0]⟩ := Eq.trans rfl rfl
theorem set_app {Es : List Eqn} {j : Nat} {X : Eqn} (hj : j < Es.length) : cutL (Es.map eqV) none (some (j : Int)) ++ (eqV X :: cutL (Es.map eqV) (some ((j : Int) + 1)) none) = (Es.set j X).map eqV := by
  rw [cut_pre, show (j : Int) + 1 = ((j + 1 : Nat) : Int) by omega, cut_suf, List.set_eq_take_append_cons_drop, if_pos hj, List.map_append, List.map_cons, List.map_take, List.map_drop]
theorem eqs_at {Es : List Eqn} {i : Nat} (h : i < Es.length) : L2.atI (Es.map eqV) (i : Int) = some (eqV Es[i]) := by
  rw [atI_int (by omega) (by simpa using h)]
  simp [h]
theorem r_row_added {d : Nat} (h : 5 ≤ d) {n i j : Nat} {Es : List Eqn} (h1 : 1 ≤ n) (hn : n ≤ 12) (hE : ∀ E ∈ Es, Good n E) (hl : Es.length ≤ 1000) (hi : i < Es.length) (hj : j < Es.length) (hij : i ≠ j) {s : Store} : run G d 15 [SyV n Es, .int (i : Int), .int (j : Int)] s = .ok (SyV n (Es.set j (addE n Es[i] Es[j]))) s := by
  obtain ⟨m, rfl⟩ := dep h
  refine eq_of_oks (run_oks (F := f15) rfl rfl (by decide) ?_)
  obtain ⟨Q, hQ⟩ := named fun (v : Val) (s' : Store) => v = SyV n (Es.set j (addE n Es[i] Es[j])) ∧ s' = s
  rw [← hQ]
  simp [f15, le_sz (show 2 ≤ 10000000 by decide)]
  obtain ⟨I, hI⟩ := named fun (r : List Val) (e : Env) (s' : Store) => ∃ x3 : Option Val, e = [some (SyV n Es), some (.int (i : Int)), some (.int (j : Int)), x3, none, none, none, none, none] ∧ s' = s ∧ ∀ v ∈ r, ∃ k : Nat, v = .int (k : Int) ∧ k < Es.length
  refine for_seq I (by rw [hI]; exact ⟨none, rfl, rfl, fun v hv => by
    simp only [List.mem_cons, List.not_mem_nil, or_false] at hv
    rcases hv with rfl | rfl
    · exact ⟨i, rfl, hi⟩
    · exact ⟨j, rfl, hj⟩⟩) (fun e s' h => ?_) (fun v r e s' h => ?_)
  rotate_left
  · rw [hI] at h
    obtain ⟨x3, rfl, rfl, hv⟩ := h
    obtain ⟨k, rfl, hk⟩ := hv v (by simp)
    simp [r_is_number_below (d := m + 4) (by omega), show (k : Int) < (Es.length : Int) by omega]
    rw [hI]
    exact ⟨_, rfl, rfl, fun v h => hv v (by simp [h])⟩
  rw [hI] at h
  obtain ⟨x3, rfl, rfl, -⟩ := h
  clear hI I
  have gE := hE _ (List.getElem_mem hi)
  have gF := hE _ (List.getElem_mem hj)
  have gX : addE n Es[i] Es[j] = ⟨xorF (evP n) Es[i].ps Es[j].ps, xorF (List.range n) Es[i].ss Es[j].ss, (Es[i].r + Es[j].r) % 2⟩ := rfl
  have hS := set_good hn hE hi hj
  have hq := set_app (X := addE n Es[i] Es[j]) hj
  obtain ⟨X, hX⟩ := named (addE n Es[i] Es[j])
  rw [← hX] at gX hS hq hQ
  have hsys := r_system (d := m + 4) (s := s') (by omega) h1 hn hS
  rw [← hq] at hsys
  have q1 := eqs_at hi
  have q2 := eqs_at hj
  obtain ⟨E, hEe⟩ := named Es[i]
  obtain ⟨F, hFe⟩ := named Es[j]
  rw [← hEe] at q1 gE gX
  rw [← hFe] at q2 gF gX
  have a1 := r_added (d := m + 4) (by omega) prV (fun _ => rfl) (fun _ _ _ => in_V prV (fun _ => rfl) (fun _ => prV_dep) eq_prV) (ev := evP n) (P := E.ps) (Q := F.ps) (Nat.le_trans (evP_len hn) (by decide)) (s := s')
  have a2 := r_added (d := m + 4) (by omega) nV (fun _ => rfl) (fun _ _ _ => in_S) (ev := List.range n) (P := E.ss) (Q := F.ss) (by simp; omega) (s := s')
  have e3 : rngL 0 n = (List.range n).map nV := by
    rw [rngL_map]
    refine List.map_congr_left fun k _ => ?_
    simp [nV]
  have hne : ¬ (i : Int) = (j : Int) := by omega
  have l1 : (cutL (Es.map eqV) none (some (j : Int))).length ≤ 1000 := Nat.le_trans cutL_len (by simp; omega)
  have l2 : (cutL (Es.map eqV) (some ((j : Int) + 1)) none).length ≤ 1000 := Nat.le_trans cutL_len (by simp; omega)
  have eX : eqV X = .tup [.tup ((xorF (evP n) E.ps F.ps).map prV), .tup ((xorF (List.range n) E.ss F.ss).map nV), .int (((E.r : Int) + (F.r : Int)) % 2)] := by
    rw [gX]
    unfold eqV
    simp
  obtain ⟨EV, hEV⟩ := named (Es.map eqV)
  rw [← hEV] at q1 q2 l1 l2 hsys
  have s1 : ((cutL EV none (some (j : Int))).length + 1) ≤ szL := le_sz (by omega)
  have s2 : (cutL EV none (some (j : Int))).length + 1 + (cutL EV (some ((j : Int) + 1)) none).length ≤ szL := le_sz (by omega)
  have s3 : (cutL EV none (some (j : Int))).length + ((cutL EV (some ((j : Int) + 1)) none).length + 1) ≤ szL := le_sz (by omega)
  rw [eX] at hsys
  unfold SyV
  rw [← hEV]
  unfold eqV at q1 q2
  simp [hne, show ¬ i = j from hij, q1, q2, r_pairs_below (d := m + 4) (by omega) hn, lrgV_nat s' (show n ≤ 1000000 by omega), e3, a1, a2, binV_mod, le_sz (show 3 ≤ 10000000 by decide), le_sz (show 1 ≤ 10000000 by decide), s1, s2, s3]
  try simp only [List.append_assoc, List.cons_append, List.nil_append] at hsys ⊢
  rw [hsys]
  simp
  rw [shut_same (show (SyV n (Es.set j X)).bel s'.length = true from by rw [Val.bel]; simp [eqVs_bel, -List.map_set])]
  simp
  rw [hQ]
  exact ⟨rfl, rfl⟩
/-! k24: refusals, the law -/
theorem r_row_bad1 {d : Nat} (h : 2 ≤ d) {n : Nat} {Es : List Eqn} {v w : Val} (hv : v.dat = true) (hw : w.dat = true) (hb : isB v (Es.length : Int) = false) {s : Store} : run G d 15 [SyV n Es, v, w] s = .ex 1 [24] [v] s := by
  obtain ⟨m, rfl⟩ := dep h
  rw [run_fn (F := f15) rfl rfl (by decide)]
  simp [f15, isExv_dat hv, isExv_dat hw, le_sz (show 2 ≤ 10000000 by decide)]
  obtain ⟨I, hI⟩ := named fun (r : List Val) (e : Env) (s' : Store) => r = [v, w] ∧ e = [some (SyV n Es), some v, some w, none, none, none, none, none, none] ∧ s' = s
  refine for_seq (Q := fun o => fin false s o = _) I (by rw [hI]; exact ⟨rfl, rfl, rfl⟩) (fun e s' h => ?_) (fun x r e s' h => ?_)
  · rw [hI] at h; cases h.1
  · rw [hI] at h
    obtain ⟨h, rfl, rfl⟩ := h
    cases h
    simp [isExv_dat hv, isExv_dat hw, r_nb (d := m + 1) (by omega) hv, hb]
    rw [shutE_same (by simp [dat_bel _ hv])]
theorem r_row_bad2 {d : Nat} (h : 2 ≤ d) {n i : Nat} {Es : List Eqn} {w : Val} (hi : i < Es.length) (hw : w.dat = true) (hb : isB w (Es.length : Int) = false) {s : Store} : run G d 15 [SyV n Es, .int (i : Int), w] s = .ex 1 [24] [w] s := by
  obtain ⟨m, rfl⟩ := dep h
  rw [run_fn (F := f15) rfl rfl (by decide)]
  simp [f15, isExv_dat hw, le_sz (show 2 ≤ 10000000 by decide)]
  obtain ⟨I, hI⟩ := named fun (r : List Val) (e : Env) (s' : Store) => (r = [.int (i : Int), w] ∨ r = [w]) ∧ (∃ z, e = [some (SyV n Es), some (.int (i : Int)), some w, z, none, none, none, none, none]) ∧ s' = s
  refine for_seq (Q := fun o => fin false s o = _) I (by rw [hI]; exact ⟨.inl rfl, ⟨_, rfl⟩, rfl⟩) (fun e s' h => ?_) (fun x r e s' h => ?_)
  · rw [hI] at h; rcases h.1 with h | h <;> cases h
  · rw [hI] at h
    obtain ⟨h, ⟨z, rfl⟩, rfl⟩ := h
    rcases h with h | h <;> cases h
    · simp [r_is_number_below (d := m + 1) (by omega), show (i : Int) < (Es.length : Int) by omega]
      rw [hI]
      exact ⟨.inr rfl, ⟨_, rfl⟩, rfl⟩
    · simp [isExv_dat hw, r_nb (d := m + 1) (by omega) hw, hb]
      rw [shutE_same (by simp [dat_bel _ hw])]
theorem r_row_same {d : Nat} (h : 2 ≤ d) {n i : Nat} {Es : List Eqn} (hi : i < Es.length) {s : Store} : run G d 15 [SyV n Es, .int (i : Int), .int (i : Int)] s = .ex 4 [25] [.str "rows"] s := by
  obtain ⟨m, rfl⟩ := dep h
  rw [run_fn (F := f15) rfl rfl (by decide)]
  simp [f15, le_sz (show 2 ≤ 10000000 by decide)]
  obtain ⟨I, hI⟩ := named fun (r : List Val) (e : Env) (s' : Store) => (∀ v ∈ r, v = .int (i : Int)) ∧ (∃ z, e = [some (SyV n Es), some (.int (i : Int)), some (.int (i : Int)), z, none, none, none, none, none]) ∧ s' = s
  refine for_seq (Q := fun o => fin false s o = _) I (by rw [hI]; exact ⟨by simp, ⟨_, rfl⟩, rfl⟩) (fun e s' h => ?_) (fun x r e s' h => ?_)
  · rw [hI] at h
    obtain ⟨-, ⟨z, rfl⟩, rfl⟩ := h
    simp
    rw [shutE_same (by simp)]
  · rw [hI] at h
    obtain ⟨h, ⟨z, rfl⟩, rfl⟩ := h
    obtain rfl := h x (by simp)
    simp [r_is_number_below (d := m + 1) (by omega), show (i : Int) < (Es.length : Int) by omega]
    rw [hI]
    exact ⟨fun v hv => h v (by simp [hv]), ⟨_, rfl⟩, rfl⟩
theorem r_refusal_num {m : Nat} {a b c v : Val} {s : Store} (ha : isExv a = false) (hb : isExv b = false) (hc : isExv c = false) (hv : v.dat = true) (hr : run G m 15 [a, b, c] s = .ex 1 [24] [v] s) : run G (m + 1) 29 [a, b, c] s = .ok (.tup [.str "number", v]) s := by
  rw [run_fn (F := f29) rfl rfl (by decide)]
  simp [f29, ha, hb, hc, hr, show isExc G 1 = true from rfl, show subC G 1 1 = true from rfl, show subC G 1 0 = true from rfl, show subC G 1 4 = false from rfl, show hasX G 1 24 = true from rfl, lookF, isExv_dat hv, le_sz (show 2 ≤ 10000000 by decide)]
  rw [shut_same (by simp [dat_bel _ hv])]
theorem r_refusal_rows {m : Nat} {a b c : Val} {s : Store} (ha : isExv a = false) (hb : isExv b = false) (hc : isExv c = false) (hr : run G m 15 [a, b, c] s = .ex 4 [25] [.str "rows"] s) : run G (m + 1) 29 [a, b, c] s = .ok (.tup [.str "rows", .int 0]) s := by
  rw [run_fn (F := f29) rfl rfl (by decide)]
  simp [f29, ha, hb, hc, hr, show isExc G 4 = true from rfl, show subC G 4 1 = false from rfl, show subC G 4 4 = true from rfl, show subC G 4 0 = true from rfl, show hasX G 4 25 = true from rfl, lookF, le_sz (show 2 ≤ 10000000 by decide)]
  rw [shut_same (by simp)]
theorem rp_sm {i : Nat} (h : i ≤ 12) : Rp 16 (Val.int (i : Int)).toD := by
  refine ⟨(rl_n (by omega)).rp.sh, (rl_n (by omega)).rp.ls, ?_⟩
  rw [Val.toD, PyData.weight]
  split
  · omega
  · rename_i h2
    have h3 : (i : Int).natAbs.log2 < 4 ∨ (i : Int).natAbs = 0 := by
      rcases Nat.eq_zero_or_pos (i : Int).natAbs with h0 | h0
      · exact .inr h0
      · exact .inl ((Nat.log2_lt (by omega)).mpr (by omega))
    rcases h3 with h3 | h3
    · omega
    · rw [h3]; decide
theorem rp_eqV {n : Nat} {E : Eqn} (hn : n ≤ 12) (hE : Good n E) : Rp 6933 (eqV E).toD := by
  have hl := good_len hn hE
  refine rp_mo (rp_tup (w := 2310) (m := 3) (fun x hx => ?_) (by simp)) (by omega)
  simp at hx
  rcases hx with rfl | rfl | rfl
  · refine rp_mo (rp_tup (w := 34) (m := 66) (fun y hy => ?_) (by simpa using hl.1)) (by omega)
    obtain ⟨p, hm, rfl⟩ := List.mem_map.mp hy
    have := hE.pb p hm
    refine rp_tup (w := 16) (m := 2) (fun z hz => ?_) (by simp)
    simp at hz
    rcases hz with rfl | rfl
    · exact rp_sm (by omega)
    · exact rp_sm (by omega)
  · refine rp_mo (rp_tup (w := 16) (m := 12) (fun y hy => ?_) (by simpa using hl.2)) (by omega)
    obtain ⟨i, hm, rfl⟩ := List.mem_map.mp hy
    have := hE.sb i hm
    exact rp_sm (by omega)
  · have := hE.rb
    exact rp_mo (rp_sm (by omega)) (by omega)
theorem rep_sys {n : Nat} {Es : List Eqn} {m : Store} (hn : n ≤ 12) (hE : ∀ E ∈ Es, Good n E) (hl : Es.length ≤ 5) : repV m (.tup [.int (n : Int), .tup (Es.map eqV)]) = some (.str (Val.tup [.int (n : Int), .tup (Es.map eqV)]).toD.shown) := by
  have hd : datL (Es.map eqV) = true := datL_all.mpr fun x hx => by obtain ⟨E, _, rfl⟩ := List.mem_map.mp hx; exact eqV_dat
  have hp : depL (Es.map eqV) ≤ 3 := depL_le.mpr fun x hx => by obtain ⟨E, _, rfl⟩ := List.mem_map.mp hx; exact eqV_dep
  have r2 : Rp (5 * 6934) (Val.tup (Es.map eqV)).toD := rp_tup (fun x hx => by
    obtain ⟨E, hm, rfl⟩ := List.mem_map.mp hx
    exact rp_eqV hn (hE E hm)) (by simpa using hl)
  refine rep_of (w := 2 * 34671) ⟨by simp only [Val.dat, datL, hd, Bool.and_true], by simp only [Val.dep, depL]; omega⟩ (rp_tup (w := 34670) (fun x hx => ?_) (by simp)) (by decide)
  simp at hx
  rcases hx with rfl | rfl
  · exact rp_mo (rp_sm hn) (by omega)
  · exact r2
theorem rl_rows : Rl (.str "rows") := rl_str (by decide +kernel) (by decide +kernel) (by decide +kernel)
theorem wrong_n {M : Nat} (hM : M ≤ 5) : ∀ v ∈ [Val.int (M : Int), .int (-1), .bl true, .non, .str "0", .tup [.int 0], .int 1000000000000000000000000000000], (P1 v ∧ isB v (M : Int) = false) ∧ v.dat = true := by
  have p3 : P1 (.tup [.int 0]) := p1_tup (by simp; exact rl_n (by decide)) (by simp)
  have pb : Rl (.int 1000000000000000000000000000000) := rl_int (by decide)
  intro v hv
  simp only [List.mem_cons, List.not_mem_nil, or_false] at hv
  rcases hv with rfl | rfl | rfl | rfl | rfl | rfl | rfl
  · exact ⟨⟨(rl_n (by omega)).p1, by simp [isB]⟩, rfl⟩
  · exact ⟨⟨(rl_n (by decide)).p1, by simp [isB]⟩, rfl⟩
  · exact ⟨⟨rl_bl.p1, rfl⟩, rfl⟩
  · exact ⟨⟨rl_non.p1, rfl⟩, rfl⟩
  · exact ⟨⟨rl_0.p1, rfl⟩, rl_0.dt⟩
  · exact ⟨⟨p3, rfl⟩, rfl⟩
  · exact ⟨⟨pb.p1, by simp [isB]; omega⟩, rfl⟩
theorem shut_nil {v : Val} {s : Store} (h : v.bel 0 = true) : shut false [] v s = .ok v [] := by
  have := shut_app (s := []) (l := s) (v := v)
  rw [List.nil_append] at this
  rw [this, frz_bel (show v.bel ([] : Store).length = true from h)]; rfl
theorem r_law {d : Nat} (h : 9 ≤ d) (ns : List Int) : run G d 30 [.scr (ns.map .int)] [] = .ok (.bl true) [] := by
  obtain ⟨m, rfl⟩ := dep h
  refine eq_of_oks (run_oks (F := f30) rfl rfl (by decide) ?_)
  obtain ⟨Q, hQ⟩ := named fun (v : Val) (s' : Store) => v = Val.bl true ∧ s' = []
  rw [← hQ]
  have z1 : 1 ≤ szL := by decide
  have z2 : 2 ≤ szL := by decide
  have z3 : 3 ≤ szL := by decide
  have z7 : 7 ≤ szL := by decide
  obtain ⟨c, hc, hr⟩ := r_law_tape (d := m + 8) (by omega) ns
  simp [f30, hr, z7]; clear hr
  obtain ⟨_, _, hr, i, c, rfl, hi, rfl, hc⟩ := r_law_pick (d := m + 8) (by omega) hc [] [1, 2, 3, 4, 5, 6, 11] (by decide) (by decide)
  simp only [List.map_cons, List.map_nil] at hr
  simp [hr]; clear hr
  obtain ⟨n, rfl, n1, hn⟩ : ∃ n : Nat, i = (n : Int) ∧ 1 ≤ n ∧ n ≤ 11 := by
    simp at hi
    exact ⟨i.toNat, by omega, by omega, by omega⟩
  clear hi
  obtain ⟨_, _, hr, t, c, rfl, rfl, hc, t0, t1⟩ := r_law_draw (d := m + 8) (by omega) hc [] 4 (by omega)
  simp [hr]; clear hr
  obtain ⟨M, hM, hM2, hM5⟩ : ∃ M : Nat, 2 + t = (M : Int) ∧ 2 ≤ M ∧ M ≤ 5 := ⟨(2 + t).toNat, by omega, by omega, by omega⟩
  rw [hM]
  clear hM t0 t1
  obtain ⟨_, _, hr, a, c, rfl, ha, rfl, hc⟩ := r_law_word (d := m + 8) (by omega) hc [] (n := n) (by omega)
  simp [hr]; clear hr
  obtain ⟨_, _, hr, E0, c, rfl, hE0, hl0, rfl, hc⟩ := r_law_equations (d := m + 8) (by omega) hc [] (n := n) (a := a) (M := M) (by omega) (by omega)
  simp [hr, r_system (d := m + 8) (s := [c]) (by omega) n1 (show n ≤ 12 by omega) hE0]; clear hr
  obtain ⟨_, _, hr, t, c, rfl, rfl, hc, t0, t1⟩ := r_law_draw (d := m + 8) (by omega) hc [.lst (E0.map eqV)] 4 (by omega)
  simp [hr]; clear hr
  obtain ⟨K, hK, hK5⟩ : ∃ K : Nat, 1 + t = (K : Int) ∧ K ≤ 5 := ⟨(1 + t).toNat, by omega, by omega⟩
  rw [hK]
  simp [rngOk_of (show -1000000000 ≤ (K : Int) ∧ (K : Int) ≤ 1000000000 by omega)]
  clear hK t0 t1
  obtain ⟨I, hI⟩ := named fun (k : Nat) (e : Env) (s' : Store) => ∃ (c : Cell) (Es : List Eqn) (x7 x8 x9 x10 x11 x12 x13 : Option Val), e = [some (.scr (ns.map .int)), some (.ref 0), some (.int (n : Int)), some (.int (M : Int)), some (.tup (E0.map eqV)), some (SyV n Es), some (.ref 1), x7, x8, x9, x10, x11, x12, x13, none] ∧ s' = [c, .lst (Es.map eqV)] ∧ IsH c ∧ Es.length = M ∧ (∀ E ∈ Es, Good n E) ∧ sols n Es = sols n E0
  refine rng_seq (n := K) I (by rw [hI]; exact ⟨c, E0, none, none, none, none, none, none, none, rfl, rfl, hc, hl0, hE0, rfl⟩) (fun e s h => ?_) (fun k e s hk h => ?_)
  · rw [hI] at h
    obtain ⟨c, Es, x7, x8, x9, x10, x11, x12, x13, rfl, rfl, hc, hEl, hE, hS⟩ := h
    clear hI I
    have so := r_solutions (d := m + 8) (s := [c, .lst (Es.map eqV)]) (by omega) n1 (show n ≤ 12 by omega) hE
    have lo := r_law_solutions (d := m + 8) (s := [c, .lst (Es.map eqV)]) (by omega) (show n ≤ 12 by omega) hE0 (by omega)
    rw [hS] at so
    rw [svs_cons]
    obtain ⟨P, hP⟩ := named fun (e : Env) (s' : Store) => e = [some (.scr (ns.map .int)), some (.ref 0), some (.int (n : Int)), some (.int (M : Int)), some (.tup (E0.map eqV)), some (SyV n Es), some (.ref 1), x7, x8, x9, x10, x11, x12, x13, none] ∧ s' = [c, .lst (Es.map eqV)]
    refine seq_cut P ?_ fun e s h => ?_
    · by_cases h7 : n < 7
      · have hp : (sols n E0).length ≤ 4096 := Nat.le_trans (List.length_filter_le _ _) (by
          rw [List.length_range]
          exact Nat.le_trans (Nat.pow_le_pow_right (by decide) (show n ≤ 6 by omega)) (by decide))
        simp [show (n : Int) < 7 by omega, so, lo, rep_words (show n ≤ 12 by omega) hp, -List.all_eq_true]
        rw [hP]
        exact ⟨rfl, rfl⟩
      · simp [show ¬ (n : Int) < 7 by omega, h7]
        rw [hP]
        exact ⟨rfl, rfl⟩
    rw [hP] at h
    obtain ⟨rfl, rfl⟩ := h
    clear hP P so lo
    simp [z1, z7]
    obtain ⟨b, _, hr, c, ⟨hb1, hb2⟩, hbd, rfl, hc⟩ := r_law_pickV (d := m + 8) (by omega) hc [.lst (Es.map eqV)] (fun v => P1 v ∧ isB v (M : Int) = false) [.int (M : Int), .int (-1), .bl true, .non, .str "0", .tup [.int 0], .int 1000000000000000000000000000000] (by simp) (by simp) (wrong_n hM5)
    simp [hr, isExv_dat hbd]; clear hr
    obtain ⟨_, _, hr, i, c, rfl, rfl, hc, i0, i1⟩ := r_law_draw (d := m + 8) (by omega) hc [.lst (Es.map eqV)] (M : Int) (by omega)
    obtain ⟨i, rfl⟩ : ∃ k : Nat, i = (k : Int) := ⟨i.toNat, by omega⟩
    have hi : i < Es.length := by omega
    rw [← hEl] at hb2
    simp [hr, isExv_dat hbd, z3]; clear hr
    obtain ⟨w, _, hr, c, -, hwd, rfl, hc⟩ := r_law_pickV (d := m + 8) (by omega) hc [.lst (Es.map eqV)] (fun v => True) [.int (i : Int), .non, .int (M : Int)] (by simp) (by simp) (fun v hv => ⟨trivial, by simp at hv; rcases hv with rfl | rfl | rfl <;> rfl⟩)
    have f1 := r_refusal_num (m := m + 7) (s := [c, .lst (Es.map eqV)]) (a := SyV n Es) (b := b) (c := w) rfl (isExv_dat hbd) (isExv_dat hwd) hbd (r_row_bad1 (d := m + 7) (by omega) hbd hwd hb2)
    have f2 := r_refusal_num (m := m + 7) (s := [c, .lst (Es.map eqV)]) (a := SyV n Es) (b := .int (i : Int)) (c := b) rfl rfl (isExv_dat hbd) hbd (r_row_bad2 (d := m + 7) (by omega) hi hbd hb2)
    have f3 := r_refusal_rows (m := m + 7) (s := [c, .lst (Es.map eqV)]) (a := SyV n Es) (b := .int (i : Int)) (c := .int (i : Int)) rfl rfl rfl (r_row_same (d := m + 7) (by omega) hi)
    have rb : ∀ {m : Store}, repV m (.tup [.str "number", b]) = some (.str (Val.tup [.str "number", b]).toD.shown) := fun {m} => rep_pair rl_number hb1
    have prows : pl (.tup [.str "rows", .int 0]) := by
      have h := rl_rows.dt
      refine ⟨by simp only [Val.dat, datL, Bool.and_true] at h ⊢; exact h, by simp [Val.dep, depL]⟩
    have erows : ∀ {m : Store}, eqv m (.tup [.str "rows", .int 0]) (.tup [.str "rows", .int 0]) = some true := fun {m} => by rw [eqv_pl prows prows, eqB_refl]
    simp [hr, isExv_dat hbd, isExv_dat hwd, f1, f2, f3, rb, z2, erows]
    rw [shut_nil rfl]
    simp
    rw [hQ]
    exact ⟨rfl, rfl⟩
  · rw [hI] at h
    obtain ⟨c, Es, x7, x8, x9, x10, x11, x12, x13, rfl, rfl, hc, hEl, hE, hS⟩ := h
    simp
    obtain ⟨_, _, hr, i, c, rfl, rfl, hc, i0, i1⟩ := r_law_draw (d := m + 8) (by omega) hc [.lst (Es.map eqV)] (M : Int) (by omega)
    simp [hr]; clear hr
    obtain ⟨_, _, hr, t, c, rfl, rfl, hc, t0, t1⟩ := r_law_draw (d := m + 8) (by omega) hc [.lst (Es.map eqV)] ((M : Int) - 1) (by omega)
    simp [hr, binV_mod (show (0 : Int) < (M : Int) by omega)]; clear hr
    obtain ⟨i, rfl⟩ : ∃ k : Nat, i = (k : Int) := ⟨i.toNat, by omega⟩
    obtain ⟨j, hj, hjM, hij⟩ : ∃ j : Nat, ((i : Int) + 1 + t) % (M : Int) = (j : Int) ∧ j < M ∧ i ≠ j := by
      have h0 := Int.emod_nonneg ((i : Int) + 1 + t) (show (M : Int) ≠ 0 by omega)
      have h1 := Int.emod_lt_of_pos ((i : Int) + 1 + t) (show (0 : Int) < (M : Int) by omega)
      refine ⟨(((i : Int) + 1 + t) % (M : Int)).toNat, by omega, by omega, fun e => ?_⟩
      by_cases hlt : (i : Int) + 1 + t < M
      · rw [Int.emod_eq_of_lt (by omega) hlt] at e; omega
      · have : ((i : Int) + 1 + t) % (M : Int) = (i : Int) + 1 + t - M := by
          rw [← Int.sub_emod_right, Int.emod_eq_of_lt (by omega) (by omega)]
        rw [this] at e; omega
    rw [hj]
    clear hj t0 t1
    have hi : i < Es.length := by omega
    have hj : j < Es.length := by omega
    have q1 := eqs_at hi
    have q2 := eqs_at hj
    have gE := hE _ (List.getElem_mem hi)
    have gF := hE _ (List.getElem_mem hj)
    have lE := good_len (show n ≤ 12 by omega) gE
    have lF := good_len (show n ≤ 12 by omega) gF
    have sW : ∀ {st : Store}, run G (m + 8) 15 [SyV n Es, .int (i : Int), .int (j : Int)] st = .ok (SyV n (Es.set j (addE n Es[i] Es[j]))) st := fun {st} => r_row_added (d := m + 8) (by omega) n1 (by omega) hE (by omega) hi hj hij
    have gG := set_good (n := n) (by omega) hE hi hj
    have sG := (sols_set hE hi hj hij).trans hS
    have lG : (Es.set j (addE n Es[i] Es[j])).length = M := by rw [List.length_set]; exact hEl
    have eW : (Es.map eqV).set j (eqV (addE n Es[i] Es[j])) = (Es.set j (addE n Es[i] Es[j])).map eqV := List.map_set.symm
    have gX : addE n Es[i] Es[j] = ⟨xorF (evP n) Es[i].ps Es[j].ps, xorF (List.range n) Es[i].ss Es[j].ss, (Es[i].r + Es[j].r) % 2⟩ := rfl
    obtain ⟨X, hX⟩ := named (addE n Es[i] Es[j])
    rw [← hX] at gX sW gG sG lG eW
    obtain ⟨E, hEe⟩ := named Es[i]
    obtain ⟨F, hFe⟩ := named Es[j]
    rw [← hEe] at q1 gE gX lE
    rw [← hFe] at q2 gF gX lF
    have eX : eqV X = .tup [.tup ((xorF (evP n) E.ps F.ps).map prV), .tup ((xorF (List.range n) E.ss F.ss).map nV), .int (((E.r : Int) + (F.r : Int)) % 2)] := by
      rw [gX]
      unfold eqV
      simp
    have T1 : (xorF (evP n) E.ps F.ps).length ≤ 2000 := Nat.le_trans (List.length_filter_le _ _) (Nat.le_trans (evP_len (by omega)) (by decide))
    have T2 : (xorF (List.range n) E.ss F.ss).length ≤ 2000 := Nat.le_trans (List.length_filter_le _ _) (by rw [List.length_range]; omega)
    have a1 : ∀ {st : Store}, run G (m + 8) 28 [.tup (E.ps.map prV), .tup (F.ps.map prV)] st = .ok (.tup ((xorF (evP n) E.ps F.ps).map prV)) st := fun {st} => r_either (d := m + 8) (by omega) prV (fun _ => rfl) (fun _ _ _ => in_V prV (fun _ => rfl) (fun _ => prV_dep) eq_prV) (by omega) (by omega) T1 (fun _ => srt_P gE.pw gF.pw (good_ps gE) (good_ps gF))
    have a2 : ∀ {st : Store}, run G (m + 8) 28 [.tup (E.ss.map nV), .tup (F.ss.map nV)] st = .ok (.tup ((xorF (List.range n) E.ss F.ss).map nV)) st := fun {st} => r_either (d := m + 8) (by omega) nV (fun _ => rfl) (fun _ _ _ => in_S) (by omega) (by omega) T2 (fun _ => srt_S (show n ≤ 12 by omega) gE.sw gF.sw (good_ss gE) (good_ss gF))
    have r1 : ∀ {st : Store}, repV st (.tup [.int (n : Int), .tup (Es.map eqV)]) = some (.str (Val.tup [.int (n : Int), .tup (Es.map eqV)]).toD.shown) := fun {st} => rep_sys (by omega) hE (by omega)
    have r2 : ∀ {st : Store}, repV st (.tup [.int (n : Int), .tup ((Es.set j X).map eqV)]) = some (.str (Val.tup [.int (n : Int), .tup ((Es.set j X).map eqV)]).toD.shown) := fun {st} => rep_sys (by omega) gG (by omega)
    have hEvl : (Es.map eqV).length = M := by rw [List.length_map]; exact hEl
    have hjv : j < (Es.map eqV).length := by omega
    obtain ⟨EV, hEV⟩ := named (Es.map eqV)
    obtain ⟨FV, hFV⟩ := named ((Es.set j X).map eqV)
    have hFl : FV.length = M := by rw [hFV, List.length_map]; exact lG
    unfold SyV at sW ⊢
    rw [← hEV] at q1 q2 eW r1 hEvl hjv sW ⊢
    rw [← hFV] at eW r2 sW
    rw [eX] at eW
    unfold eqV at q1 q2
    have mz : M ≤ szL := le_sz (by omega)
    have ix : L2.ixN M (j : Int) = some j := by unfold L2.ixN; simp; omega
    simp [q1, q2, a1, a2, binV_mod, z2, z3, hEvl, hjM, ix, eW, r1, sW, r2, hFl, mz]
    rw [hI]
    exact ⟨c, Es.set j X, _, _, _, _, _, _, _, by rw [hFV], by rw [hFV], hc, lG, gG, sG⟩
theorem answers : Answers G 30 9 63 := fun ns _ _ => r_law (by decide) ns
end Ev.KP
namespace KK
open PySem PySem.Spec PyProof.Rows L2 Ev
theorem txt_ok : txtB G ds is = true := by decide +kernel
abbrev fnL : List He.DefD := ds.map (·.1) ++ is.map (·.d)
abbrev tfL : List He.Defn := ds.map (fun q => q.1.at_)
abbrev R : PySem.W.OpenRow := PySem.W.OpenLaw.row PySem.Challenge.rw_fourread_k24_equations_added
abbrev hk : PySem.W.Hook := He.hookX 5 [] fnL [] tfL (facB G)
def ob (s : PySem.W.SharedT) : He.AlX := He.obsX 5 [] fnL [] tfL (facB G) (HandSHeadRun.getT s)
theorem ob_eq (s : PySem.W.SharedT) : ob s = hk.obs s.abs := He.obsX_eq (HandSHeadRun.getT_eq s)
theorem run0 (w : World) : HandSHeadRun.RunEq R (PySem.W.view R.prog [42]) hk ob 4000 ("_wall" :: "ReadError" :: "InvalidNumber" :: "InvalidWord" :: "InvalidSystem" :: "Undefined" :: "LONGEST" :: "is_integer" :: "is_between" :: "is_bit" :: "is_bits" :: "is_some_word" :: "is_word" :: "word_at" :: "all_words" :: "is_number_below" :: "ascends" :: "is_pair" :: "is_equation" :: "fits" :: "System" :: "pairs_below" :: "added_terms" :: "row_added" :: "_law_mixed" :: "_law_tape" :: "_law_draw" :: "_law_pick" :: "_law_word" :: "_law_words" :: "_law_left" :: "_law_fits" :: "_law_equation" :: "_law_equations" :: "_law_solves" :: "_law_solutions" :: "_law_either" :: "_law_refusal" :: []) w := by
  intro os
  kernel_rfl
theorem atL {w : World} {K : PySem.W.Frag} {h : Heap} {mg : Str → Option Value} {fa : Addr} (X : K.In h) (N : h.Ns mainGlobals mg) (hg : mg ("law" : Str) = some (.ref fa)) (c : He.SaysX [] fnL [] tfL (facB G) w h K) :
    LawG PySem.Challenge.rw_fourread_k24_equations_added w K 52 63 "_law_script" mg fa h :=
  law_at (ds := ds) (is := is) (F := f30) (d := d30) c.more txt_ok (fun q hq => c.t.d.defs (List.mem_append_left _ (List.mem_map.mpr ⟨q, hq, rfl⟩))) (fun q hq => c.t.d.defs (List.mem_append_right _ (List.mem_map.mpr ⟨q, hq, rfl⟩))) X N c.hd c.out c.empty rfl rfl rfl (by decide +kernel) hg Ev.KP.answers
end KK
open PySem PySem.W PySem.Calls PyProof.Rows
theorem PySem.Challenge.cw_fourread_k24_equations_added_holds : PySem.Challenge.rw_fourread_k24_equations_added.Holds := by
  w_on; o_law
  refine HandSHeadRun.head_any (r := OpenLaw.row PySem.Challenge.rw_fourread_k24_equations_added) (q := view (OpenLaw.row PySem.Challenge.rw_fourread_k24_equations_added).prog [42]) (H := KK.hk) (ob := KK.ob) (M := 4000) (loose := ("_wall" :: "ReadError" :: "InvalidNumber" :: "InvalidWord" :: "InvalidSystem" :: "Undefined" :: "LONGEST" :: "is_integer" :: "is_between" :: "is_bit" :: "is_bits" :: "is_some_word" :: "is_word" :: "word_at" :: "all_words" :: "is_number_below" :: "ascends" :: "is_pair" :: "is_equation" :: "fits" :: "System" :: "pairs_below" :: "added_terms" :: "row_added" :: "_law_mixed" :: "_law_tape" :: "_law_draw" :: "_law_pick" :: "_law_word" :: "_law_words" :: "_law_left" :: "_law_fits" :: "_law_equation" :: "_law_equations" :: "_law_solves" :: "_law_solutions" :: "_law_either" :: "_law_refusal" :: [])) (d := HandSHeadRun.topDef (OpenLaw.row PySem.Challenge.rw_fourread_k24_equations_added).prog 42) (kwd := []) KK.ob_eq
    (by kernel_rfl) (fun s => by kernel_rfl) KK.run0 (by kernel_rfl) (by kernel_rfl) (by kernel_rfl) (by rfl) (by first | assumption | decide +kernel) (by decide +kernel) ⟨rfl, rfl, rfl, rfl, rfl, by decide +kernel⟩ ?hw ?hc
  case hw => w_witness2
  case hc =>
    refine Ev.walk_ev (l := PySem.Challenge.rw_fourread_k24_equations_added) (n := 63) (k := 52) (x := "_law_script") rfl (by decide) (by kernel_rfl) ⟨rfl, by decide, by decide⟩ ?F ?hX
    case hX => exact fun _ _ _ _ _ ⟨_, _, _, _, _, _, _, _, _, _, _, _, z⟩ => z
    intro w mg fa h Y G hmg0
    obtain ⟨K, KX, c⟩ := Y
    have hmg : mg ("law" : PySem.Str) = some (.ref fa) := by
      have e : (HandSHeadRun.topDef (OpenLaw.row PySem.Challenge.rw_fourread_k24_equations_added).prog 42).name = ("law" : PySem.Str) := by kernel_rfl
      rw [← e]
      exact hmg0
    exact ⟨K, KX, KK.atL KX G hmg c⟩
