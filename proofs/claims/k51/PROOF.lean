import PyProof.Rows.All
import HandS.ForMost
import HandS.ForExc
import HandS.Star
import HandS.TupAny
import HandS.Deep
import HandS.Zip
import HandS.Property
import HandS.ClsMeth
import HandS.Head0
import HandS.Head1
import HandS.Head2
import HandS.HeadEnd
import HandS.HeadWalk
import HandS.HeadHook1
import HandS.HeadHook2
import HandS.HeadHook3
import HandS.HeadHook4
import HandS.HeadNt
import HandS.ExcInit
import HandS.ExcField
import KE.KNestM
import HandS.ExcOwn
import HandS.Lambda
import KE.DataEq
import KE.DatumMore
import HandS.TupMul
import HandS.TupLe
import KE.DataFind
import KE.DatumIndex
import HandS.Style
import PySem.Challenge.RW_climbtickets_k51_trips_joined
import HandS.Defaults
import HandS.ExcIs
import KE.KOpsOwn
import KE.GoesEnum
import KE.GoesMore
import HandS.Iter
import PyProof.FactsLen
import PyProof.Rows.FactsT1
import PyProof.Rows.FactsN_isinstance
import PyProof.Rows.SeqCalls
import PyProof.Rows.SeqGen
import PyProof.Rows.FactsN_abs
import HandS.FStr
import HandS.Dict
import PyProof.AutoSeq1
import KE.KAssignIn
import HandS.ExcValue
set_option Elab.async false
set_option linter.all false
set_option maxRecDepth 100000
section
set_option Elab.async false
set_option linter.all false
set_option maxRecDepth 100000
/-! Ev, part A: values as trees, a small syntax with slots, an evaluator. -/
namespace Ev
open PySem

/-- a value: what cannot change is a tree; ref n is the n-th mutable cell -/
inductive T where
  | non | bl (b : Bool) | int (i : Int) | str (x : Str)
  | tup (l : List T) | lst (l : List T) | frl (l : List T)
  /-- a list that a name alone holds, looked at -/
  | vl (l : List T)
  /-- a tuple known to its object -/
  | ptu (l : List T)
  | ins (c : Nat) (fs : List (Nat × T))
  | exc (c : Nat) (fs : List (Nat × T))
  | ref (a : Nat) | cls (c : Nat) | fn (f : Nat) | ty (n : Nat) | nim

/-- a mutable cell -/
inductive MO where
  | lst (l : List T)
  | dct (l : List (L2.Key × T))
  | ins (c : Nat) (fs : List (Nat × T))
  | gone
  /-- a table of code objects: the t-th def that makes lambdas -/
  | tab (t : Nat)

abbrev Hh := List MO

inductive Bop where | add | sub | mul | fdiv | mod | pow
  deriving DecidableEq
inductive Cop where | eq | ne | lt | le | gt | ge | is_ | isn | in_ | nin
  deriving DecidableEq

/-- a target: a slot, or a tuple of slots -/
inductive Tg where | nm (i : Nat) | tup (l : List Nat)
  deriving DecidableEq

inductive CE where
  | var (i : Nat)
  | con (t : T)
  | glob (x : Nat)
  | bin (o : Bop) (a b : CE)
  | neg (a : CE)
  | not (a : CE)
  | bop (isAnd : Bool) (l : List CE)
  | ife (c a b : CE)
  | cmp (o : Cop) (a b : CE)
  | cmp2 (o o' : Cop) (a b c : CE)
  | tup (l : List CE)
  | lst (l : List CE)
  | star (a : CE)
  | dct (ks vs : List CE)
  | sub (a b : CE)
  | slc (a : CE) (lo hi : Option CE)
  | rev (a : CE)
  | attr (a : CE) (f : Nat)
  | call (f : CE) (args : List CE) (kws : List (Nat × CE))
  | comp (e : CE) (tg : Tg) (it : CE) (ifs : List CE) (ws : List Nat)
  | comp2 (e : CE) (tg : Tg) (it : CE) (ifs : List CE) (tg2 : Tg) (it2 : CE) (ifs2 : List CE) (ws ws2 : List Nat)
  | fmt (l : List CE)
  | fval (a : CE) (spec : Option Str)
  /-- g(lambda: b), made in the t-th def that makes lambdas -/
  | lam (g t : Nat) (b : CE)
  /-- the closure of a slot is called -/
  | lcl (i : Nat)
  /-- only to be walked: range(..), enumerate(a), zip(a, b) -/
  | irng (l : List CE) | ienm (a : CE) | izip (a b : CE)

/-- a local name's slot: nothing known; a value; a list that this name alone holds; an instance in the making; a closure: its text, its maker's slots -/
inductive SV where
  | no | val (t : T) | own (l : List T) | self (c : Nat) (fs : List (Nat × T))
  | clo (b : CE) (σ : List SV)
abbrev Sl := List SV

inductive CS where
  | set (tg : Tg) (e : CE)
  | own (i : Nat) (e : CE)
  | box (i : Nat) (e : CE)
  | setL (i : Nat) (e : CE)
  | par (is : List (Nat × Nat)) (es : List CE)
  | fld (i : Nat) (f : Nat) (e : CE)
  | flds (l : List (Nat × Nat)) (es : List CE)
  | item (a k e : CE)
  | itemB (a k e : CE)
  | aug (i : Nat) (o : Bop) (e : CE)
  | app (i : Nat) (e : CE)
  | ext (i : Nat) (e : CE)
  | oset (i : Nat) (k e : CE)
  | frz (i : Nat)
  | exp (e : CE)
  | ret (e : CE)
  | ife (c : CE) (a b : List CS)
  | for_ (tg : Tg) (it : CE) (b : List CS)
  | while_ (c : CE) (b : List CS)
  | raise_ (c : CE) (args : List CE)
  | try_ (b : List CS) (hs : List (List Nat × Option Nat × List CS))
  | pass | brk | cont | nev

/-- results: a value and the cells; an own exception in flight -/
inductive Rs (α : Type) where
  | ok (a : α) (h : Hh)
  | ex (c : Nat) (fs : List (Nat × T)) (h : Hh)
abbrev Ro (α : Type) := Option (Rs α)
@[reducible] def Ro.ok {α : Type} (a : α) (h : Hh) : Ro α := some (.ok a h)
def Ro.bd {α β : Type} (m : Ro α) (f : α → Hh → Ro β) : Ro β := match m with
  | none => none
  | some (.ok a h) => f a h
  | some (.ex c fs h) => some (.ex c fs h)
@[simp] theorem Ro.bd_ok {α β : Type} (a : α) (h : Hh) (f : α → Hh → Ro β) : Ro.bd (some (.ok a h)) f = f a h := rfl
@[simp] theorem Ro.bd_ex {α β : Type} (c : Nat) (fs : List (Nat × T)) (h : Hh) (f : α → Hh → Ro β) : Ro.bd (some (.ex c fs h)) f = some (.ex c fs h) := rfl
@[simp] theorem Ro.bd_none {α β : Type} (f : α → Hh → Ro β) : Ro.bd none f = none := rfl
/-- a heap-free answer -/
def lift {α : Type} (o : Option α) (h : Hh) : Ro α := match o with
  | some a => some (.ok a h)
  | none => none
@[simp] theorem lift_some {α : Type} (a : α) (h : Hh) : lift (some a) h = some (.ok a h) := rfl
@[simp] theorem lift_none {α : Type} (h : Hh) : lift (none : Option α) h = none := rfl

inductive Fl where
  | nx (σ : Sl) | rt (t : T) | bk (σ : Sl) | ct (σ : Sl) | ex (c : Nat) (fs : List (Nat × T)) (σ : Sl)

/-! ### the program -/
inductive Bi where
  | len | range | enumerate | zip | zips | sum | max | min | all | any | sorted | abs | isinstance | repr
  deriving DecidableEq
/-- what a module's name stands for -/
inductive G where
  | fn (f : Nat) | cls (c : Nat) | ty (n : Nat) | bi (b : Bi) | con (t : T)

structure FnD where
  ps : List Nat
  star : Bool := false
  /-- parameters that are None where they are left out -/
  dn : List Nat := []
  /-- the shapes of its calls: how many by position, which by name -/
  shp : List (Nat × List Nat) := []
  /-- its one parameter may be a closure -/
  lam : Bool := false
  n : Nat
  body : List CS

structure ClD where
  kind : Nat
  up : List Nat := []
  init : Option Nat := none
  meth : List (Nat × Nat) := []
  prop : List (Nat × Nat) := []
  con : List (Nat × T) := []
  cm : List (Nat × Nat) := []
  sm : List (Nat × Nat) := []
  flds : List Nat := []
/-- an exception class: those above it, its fields -/
structure XcD where
  up : List Nat := []
  exf : List (Nat × Option T) := []

structure Prg where
  fn : Nat → Option FnD
  cl : Nat → Option ClD
  xc : Nat → Option XcD
  gl : Nat → Option G

/-! names that the language itself asks for, by number -/
abbrev nEq := 0
abbrev nLt := 1
abbrev nLe := 2
abbrev nAdd := 3
abbrev nSub := 4
abbrev nNeg := 5
abbrev nIn := 6
abbrev nIx := 7
abbrev nLen := 8
abbrev nBool := 9
abbrev nCall := 10
abbrev nAppend := 11
abbrev nExtend := 12
abbrev nPop := 13
abbrev nCount := 14
abbrev nIndex := 15
abbrev nGet := 16
abbrev nSetdefault := 17
abbrev nRemove := 18
abbrev nJoin := 19
abbrev nSplit := 20
/-! types by number -/
abbrev tyInt := 0
abbrev tyBool := 1
abbrev tyStr := 2
abbrev tyTuple := 3
abbrev tyList := 4
abbrev tyDict := 5
abbrev tyNone := 6
abbrev tyValueError := 7

def big : Nat := 1000000

/-! ### values without cells -/
/-- a place by an index of any sign -/
def ixT (l : List T) (i : Int) : Option T := L2.atI l i

/-- the items of l[lo:hi] -/
def cutT (l : List T) (lo hi : Option Int) : List T := (l.drop (HT.sIx l.length 0 lo)).take (HT.sIx l.length l.length hi - HT.sIx l.length 0 lo)

mutual
/-- == of data -/
def eqB : T → T → Bool
  | .non, .non => true
  | .bl a, .bl b => a == b
  | .int a, .int b => a == b
  | .bl a, .int b => (if a then 1 else 0) == b
  | .int a, .bl b => a == (if b then 1 else 0)
  | .str a, .str b => a == b
  | .tup a, .tup b => eqBs a b
  | .tup a, .ptu b => eqBs a b
  | .ptu a, .tup b => eqBs a b
  | .ptu a, .ptu b => eqBs a b
  | .lst a, .lst b => eqBs a b
  | _, _ => false
def eqBs : List T → List T → Bool
  | [], [] => true
  | x :: xs, y :: ys => eqB x y && eqBs xs ys
  | _, _ => false
end
mutual
/-- data alone, at most so deep -/
def okD : Nat → T → Bool
  | _, .non => true | _, .bl _ => true | _, .int _ => true | _, .str _ => true
  | n + 1, .tup l => okDs n l
  | n + 1, .ptu l => okDs n l
  | n + 1, .lst l => okDs n l
  | _, _ => false
def okDs : Nat → List T → Bool
  | _, [] => true
  | n, t :: r => okD n t && okDs n r
end
def eqT (a b : T) : Option Bool := if okD 8 a && okD 8 b then some (eqB a b) else none

/-- a list or a tuple that is read: is it a tuple, its items -/
def seqOf (h : Hh) : T → Option (Bool × List T)
  | .tup l => some (true, l)
  | .ptu l => some (true, l)
  | .lst l => some (false, l)
  | .vl l => some (false, l)
  | .ref a => match h[a]? with
    | some (.lst l) => some (false, l)
    | _ => none
  | _ => none
/-- a cell's list as a list -/
def view (h : Hh) (t : T) : T := match t with
  | .vl l => .lst l
  | .ref a => (match h[a]? with
    | some (.lst l) => .lst l
    | _ => t)
  | _ => t

def lexLt : List Int → List Int → Bool := HT.lexLt
def intsT : List T → Option (List Int)
  | [] => some []
  | .int i :: r => (intsT r).map (i :: ·)
  | _ :: _ => none
def strsT : List T → Option (List Str)
  | [] => some []
  | .str i :: r => (strsT r).map (i :: ·)
  | _ :: _ => none
def blsT : List T → Option (List Bool)
  | [] => some []
  | .bl i :: r => (blsT r).map (i :: ·)
  | _ :: _ => none

def smallI (i : Int) : Bool := decide (-(2 ^ 62) ≤ i) && decide (i < 2 ^ 62)
def mulOk (i j : Int) : Bool := (decide (-(2 ^ 64) < i) && decide (i < 2 ^ 64)) || (decide (-(2 ^ 64) < j) && decide (j < 2 ^ 64))

/-- two-place operators -/
def addT (h : Hh) (a b : T) : Option T := match a with
  | .int i => (match b with
    | .int j => some (.int (i + j))
    | _ => none)
  | .str x => (match b with
    | .str y => if decide (x.length + y.length ≤ big) then some (.str (x ++ y)) else none
    | _ => none)
  | a => (match seqOf h a, seqOf h b with
    | some (true, l), some (true, m) => if decide (l.length + m.length ≤ big) then some (.tup (l ++ m)) else none
    | some (false, l), some (false, m) => if decide (l.length + m.length ≤ big) then some (.lst (l ++ m)) else none
    | _, _ => none)
def mulT (h : Hh) (a b : T) : Option T := match b with
  | .int k => (match a with
    | .int i => if mulOk i k then some (.int (i * k)) else none
    | a => (match seqOf h a with
      | some (false, l) => if smallI k && decide (l.length * k.toNat ≤ big) then some (.lst (List.replicate k.toNat l).flatten) else none
      | some (true, l) => if decide (2 ≤ k) && decide (k ≤ 1000) && decide (l.length ≤ 1000) && !l.isEmpty then some (.tup (List.replicate k.toNat l).flatten) else none
      | none => none))
  | _ => none
def intOp (f : Int → Int → Option T) (a b : T) : Option T := match a with
  | .int i => (match b with
    | .int j => f i j
    | _ => none)
  | _ => none
def binT (o : Bop) (h : Hh) (a b : T) : Option T := match o with
  | .add => addT h a b
  | .mul => mulT h a b
  | .sub => intOp (fun i j => some (.int (i - j))) a b
  | .fdiv => intOp (fun i j => if decide (0 < j) && decide (j < 1073741824) then some (.int (i / j)) else none) a b
  | .mod => intOp (fun i j => if decide (0 < j) then some (.int (i % j)) else none) a b
  | .pow => intOp (fun i j => if decide (0 ≤ j) && decide (j ≤ 1000) && decide (i.natAbs < 2 ^ 64) then some (.int (i ^ j.toNat)) else none) a b

/-- comparisons of what is no own instance -/
def ordT (f : Int → Int → Bool) (g : List Int → List Int → Option Bool) (a b : T) : Option Bool := match a with
  | .int i => (match b with
    | .int j => some (f i j)
    | _ => none)
  | .tup l => (match b with
    | .tup m => (match intsT l with
      | some x => (match intsT m with
        | some y => g x y
        | none => none)
      | none => none)
    | _ => none)
  | _ => none
def isT (neg : Bool) (a b : T) : Option Bool := match b with
  | .non => (match a with
    | .non => some (!neg)
    | _ => some neg)
  | .bl y => (match a with
    | .bl x => some ((x == y) != neg)
    | _ => none)
  | _ => none
def inT (neg : Bool) (h : Hh) (a b : T) : Option Bool := match b with
  | .str y => (match a with
    | .str x => some ((!(Builtin.Str.occurrences y x 0 y.length 1).isEmpty) != neg)
    | _ => none)
  | b => (match seqOf h b with
    | some (_, l) => if okD 8 a && okDs 7 l then some ((l.any fun z => eqB z a) != neg) else none
    | none => none)
def cmpT (o : Cop) (h : Hh) (a b : T) : Option Bool := match o with
  | .eq => eqT (view h a) (view h b)
  | .ne => (eqT (view h a) (view h b)).map (!·)
  | .lt => ordT (fun i j => decide (i < j)) (fun x y => some (HT.lexLt x y)) a b
  | .le => ordT (fun i j => decide (i ≤ j)) (fun _ _ => none) a b
  | .gt => ordT (fun i j => decide (j < i)) (fun _ _ => none) a b
  | .ge => ordT (fun i j => decide (j ≤ i)) (fun _ _ => none) a b
  | .is_ => isT false a b
  | .isn => isT true a b
  | .in_ => inT false h a b
  | .nin => inT true h a b

/-- the truth of what is no own instance -/
def truT (h : Hh) : T → Option Bool
  | .non => some false
  | .bl b => some b
  | .int i => some (i != 0)
  | .str x => if decide (x.length ≤ big) then some ((x.length : Int) != 0) else none
  | t => match seqOf h t with
    | some (_, l) => some (!l.isEmpty)
    | none => none

/-! ### names -/
def putF (f : Nat) (v : T) : List (Nat × T) → List (Nat × T)
  | [] => [(f, v)]
  | (g, x) :: r => if g = f then (g, v) :: r else (g, x) :: putF f v r

/-- arguments to parameters -/
def bindP {α : Type} (nn : α) (dn : List Nat) : List Nat → List α → List (Nat × α) → Option (List α)
  | [], [], _ => some []
  | [], _ :: _, _ => none
  | _ :: ps, t :: ts, ks => (bindP nn dn ps ts ks).map (t :: ·)
  | p :: ps, [], ks => (match ks.lookup p with
    | some t => (bindP nn dn ps [] ks).map (t :: ·)
    | none => if dn.contains p then (bindP nn dn ps [] ks).map (nn :: ·) else none)
def bindA (d : FnD) (ts : List T) (ks : List (Nat × T)) : Option (List T) :=
  if d.star then
    (if d.ps.length ≤ ts.length && ks.isEmpty && decide (ts.length ≤ big) then some (ts.take d.ps.length ++ [.tup (ts.drop d.ps.length)]) else none)
  else if d.shp.contains (ts.length, ks.map (·.1)) then bindP .non d.dn d.ps ts ks else none
/-- an exception's fields -/
def bindX (xs : List (Nat × Option T)) (ts : List T) : Option (List (Nat × T)) := match xs, ts with
  | [], [] => some []
  | [], _ :: _ => none
  | (f, _) :: r, t :: ts => (bindX r ts).map ((f, t) :: ·)
  | (f, some d) :: r, [] => (bindX r []).map ((f, d) :: ·)
  | (_, none) :: _, [] => none

def Prg.isSub (P : Prg) (c d : Nat) : Bool := c == d || (match P.cl c with
  | some k => k.up.contains d
  | none => false)
def Prg.isSubX (P : Prg) (c d : Nat) : Bool := c == d || (match P.xc c with
  | some k => k.up.contains d
  | none => false)
/-- the class of an instance -/
def clsOf (h : Hh) : T → Option Nat
  | .ins c _ => some c
  | .ref a => match h[a]? with
    | some (.ins c _) => some c
    | _ => none
  | _ => none
def isTy (h : Hh) (t : T) (n : Nat) : Option Bool := match t with
  | .non => some (n == tyNone)
  | .bl _ => some (n == tyBool || n == tyInt)
  | .int _ => some (n == tyInt)
  | .str _ => some (n == tyStr)
  | .tup _ => some (n == tyTuple)
  | .ptu _ => some (n == tyTuple)
  | .lst _ => some (n == tyList)
  | .frl _ => some (n == tyList)
  | .vl _ => some (n == tyList)
  | .ins .. => some false
  | .exc .. => some (n == tyValueError)
  | .ref a => (match h[a]? with
    | some (.lst _) => some (n == tyList)
    | some (.dct _) => some (n == tyDict)
    | some (.ins ..) => some false
    | _ => none)
  | _ => none
def keyT : T → Option L2.Key
  | .int i => some (.inl i)
  | .str x => some (.inr x)
  | _ => none
def dlook (k : L2.Key) : List (L2.Key × T) → Option T
  | [] => none
  | (j, v) :: r => if j = k then some v else dlook k r
def dput (k : L2.Key) (v : T) (l : List (L2.Key × T)) : List (L2.Key × T) :=
  if l.any (fun p => decide (p.1 = k)) then l.map (fun p => if p.1 = k then (p.1, v) else p) else l ++ [(k, v)]

/-! ### the evaluator, one level over another -/
structure Rec where
  e : Sl → CE → Hh → Ro T
  ss : Sl → List CS → Hh → Option (Fl × Hh)
  call : Nat → List T → Hh → Ro T
  init : Nat → Nat → List (Nat × T) → List T → Hh → Ro (List (Nat × T))
  lcall : Nat → CE → Sl → Hh → Ro T

section
variable (P : Prg) (r : Rec)

/-- a value that is only looked at: a list that a name alone holds may be read -/
def evV (σ : Sl) (e : CE) (h : Hh) : Ro T := match e with
  | .var i => (match σ[i]? with
    | some (.own l) => some (.ok (.vl l) h)
    | some (.val t) => some (.ok t h)
    | _ => none)
  | e => r.e σ e h

def evArgs (σ : Sl) : List CE → Hh → Ro (List T)
  | [], h => some (.ok [] h)
  | .star a :: es, h => Ro.bd (evV r σ a h) fun t h => match seqOf h t with
    | some (_, l) => Ro.bd (evArgs σ es h) fun ts h => some (.ok (l ++ ts) h)
    | none => none
  | e :: es, h => Ro.bd (r.e σ e h) fun t h => Ro.bd (evArgs σ es h) fun ts h => some (.ok (t :: ts) h)
def evKws (σ : Sl) : List (Nat × CE) → Hh → Ro (List (Nat × T))
  | [], h => some (.ok [] h)
  | (k, e) :: es, h => Ro.bd (r.e σ e h) fun t h => Ro.bd (evKws σ es h) fun ts h => some (.ok ((k, t) :: ts) h)

/-- a call of the f-th def -/
def callF (f : Nat) (ts : List T) (ks : List (Nat × T)) (h : Hh) : Ro T := match P.fn f with
  | some d => (match bindA d ts ks with
    | some bs => r.call f bs h
    | none => none)
  | none => none
/-- a method, by its name's number -/
def methOf (c m : Nat) : Option Nat := match P.cl c with
  | some k => k.meth.lookup m
  | none => none
/-- C(..) -/
def makeC (c : Nat) (ts : List T) (ks : List (Nat × T)) (h : Hh) : Ro T := match P.cl c with
  | none => none
  | some k => match k.kind with
    | 0 => (match k.init with
      | some f => (match P.fn f with
        | some d => (match bindA d (.non :: ts) ks with
          | some (.non :: bs) => Ro.bd (r.init f c [] bs h) fun fs h => some (.ok (.ins c fs) h)
          | _ => none)
        | none => none)
      | none => none)
    | _ => none

/-- no exception leaves -/
def noEx {α : Type} (m : Ro α) : Ro α := match m with
  | some (.ex _ _ _) => none
  | m => m
/-- may the field be read and written? -/
def fldOk (c f : Nat) (fs : List (Nat × T)) : Bool := match P.cl c with
  | some k => k.flds.contains f && decide (fs.length < 900)
  | none => false
/-- an instance's attribute, its fields at hand -/
def attrI (t : T) (c : Nat) (fs : List (Nat × T)) (f : Nat) (h : Hh) : Ro T := match P.cl c with
  | some k => (match k.prop.lookup f with
    | some g => noEx (callF P r g [t] [] h)
    | none => (match fs.lookup f with
      | some v => if k.flds.contains f then some (.ok v h) else none
      | none => lift (k.con.lookup f) h))
  | none => none
/-- an attribute of a value -/
def attrT (t : T) (f : Nat) (h : Hh) : Ro T := match t with
  | .cls c => (match P.cl c with
    | some k => lift (k.con.lookup f) h
    | none => none)
  | .exc c fs => (match P.xc c with
    | some k => if (k.exf.map (·.1)).contains f then lift (fs.lookup f) h else none
    | none => none)
  | .ins c fs => attrI P r t c fs f h
  | .ref a => (match h[a]? with
    | some (.ins c fs) => attrI P r t c fs f h
    | _ => none)
  | _ => none

/-- an own class's special method of a value -/
def ownM (h : Hh) (t : T) (m : Nat) : Option Nat := match clsOf h t with
  | some c => methOf P c m
  | none => none
/-- one, as a bool -/
def asB (m : Ro T) : Ro Bool := Ro.bd m fun t h => match t with
  | .bl b => some (.ok b h)
  | _ => none
/-- is its type known? -/
def okY (h : Hh) (t : T) : Bool := match t with
  | .non => true | .bl _ => true | .int _ => true | .str _ => true | .tup _ => true | .ptu _ => true | .lst _ => true | .frl _ => true
  | .ins c _ => (P.cl c).isSome
  | .ref a => (match h[a]? with
    | some (.lst _) => true
    | some (.dct _) => true
    | some (.ins c _) => (P.cl c).isSome
    | _ => false)
  | _ => false
def okI (h : Hh) (t : T) : Bool := match t with
  | .vl _ => true
  | .exc c _ => (P.xc c).isSome
  | t => okY P h t
/-- isinstance -/
def isInst (h : Hh) (t c : T) : Option Bool := if okI P h t then (match c with
  | .ty n => if n < 8 then isTy h t n else none
  | .cls d => (match P.cl d with
    | none => (match P.xc d with
      | none => none
      | some _ => (match t with
        | .exc k _ => some (P.isSubX k d)
        | _ => some false))
    | some _ => (match clsOf h t with
      | some k => some (P.isSub k d)
      | none => some false))
  | _ => none) else none
/-- a right operand: an instance of the same class, or of one without the method -/
def okR (h : Hh) (x y : T) (m : Nat) : Bool := match clsOf h x, clsOf h y with
  | some c, some d => c == d || (match P.cl d with
    | some k => (k.meth.lookup m).isNone
    | none => false)
  | _, _ => false
/-- a binary operator -/
def binE (o : Bop) (x y : T) (h : Hh) : Ro T := match o with
  | .add => (match ownM P h x nAdd with
    | some f => if okR P h x y nAdd then callF P r f [x, y] [] h else none
    | none => lift (binT .add h x y) h)
  | .sub => (match ownM P h x nSub with
    | some f => if okR P h x y nSub then callF P r f [x, y] [] h else none
    | none => lift (binT .sub h x y) h)
  | o => lift (binT o h x y) h
/-- minus -/
def negE (x : T) (h : Hh) : Ro T := match x with
  | .int i => some (.ok (.int (-i)) h)
  | x => (match ownM P h x nNeg with
    | some f => callF P r f [x] [] h
    | none => none)
/-- a comparison -/
def cmpE (o : Cop) (a b : T) (h : Hh) : Ro Bool := match o with
  | .eq => (match ownM P h a nEq with
    | some f => if okY P h b then asB (callF P r f [a, b] [] h) else none
    | none => lift (cmpT .eq h a b) h)
  | .ne => (match ownM P h a nEq with
    | some _ => none
    | none => lift (cmpT .ne h a b) h)
  | .lt => (match ownM P h a nLt with
    | some f => if okY P h b then asB (callF P r f [a, b] [] h) else none
    | none => lift (cmpT .lt h a b) h)
  | .le => (match ownM P h a nLe with
    | some f => if okY P h b then asB (callF P r f [a, b] [] h) else none
    | none => lift (cmpT .le h a b) h)
  | .in_ => (match ownM P h b nIn with
    | some f => if okY P h a then asB (callF P r f [b, a] [] h) else none
    | none => lift (cmpT .in_ h a b) h)
  | .nin => (match ownM P h b nIn with
    | some f => if okY P h a then Ro.bd (asB (callF P r f [b, a] [] h)) fun b h => some (.ok (!b) h) else none
    | none => lift (cmpT .nin h a b) h)
  | o => lift (cmpT o h a b) h
/-- two comparisons in one -/
def cmp2E (o o' : Cop) (σ : Sl) (a b c : CE) (h : Hh) : Ro Bool := Ro.bd (r.e σ a h) fun x h => Ro.bd (r.e σ b h) fun y h => Ro.bd (lift (cmpT o h x y) h) fun k h => if k then Ro.bd (r.e σ c h) fun z h => lift (cmpT o' h y z) h else some (.ok false h)
/-- truth -/
def truE (t : T) (h : Hh) : Ro Bool := match ownM P h t nBool with
  | some f => asB (callF P r f [t] [] h)
  | none => lift (truT h t) h

/-- what a for walks -/
def rangeL (a : Int) (n : Nat) : List T := (List.range n).map fun (k : Nat) => T.int (a + k)
def enumL (k : Int) : List T → List T
  | [] => []
  | t :: r => .tup [.int k, t] :: enumL (k + 1) r
def zipL : List T → List T → List T
  | a :: as, b :: bs => .tup [a, b] :: zipL as bs
  | _, _ => []
/-- what is walked, its items: no cell -/
def seqF : T → Option (Bool × List T)
  | .tup l => some (true, l)
  | .ptu l => some (true, l)
  | .lst l => some (false, l)
  | .frl l => some (false, l)
  | .vl l => some (false, l)
  | _ => none
/-- .. a str, too -/
def itT : T → Option (List T)
  | .str x => some (x.cps.toList.map fun c => .str ⟨#[c]⟩)
  | t => (seqF t).map (·.2)
def evW (w : Bool) (σ : Sl) (e : CE) (h : Hh) : Ro T := if w then evV r σ e h else r.e σ e h
def evIt (w : Bool) (σ : Sl) (it : CE) (h : Hh) : Ro (List T) := match it with
  | .irng args => Ro.bd (evArgs r σ args h) fun ts h => (match ts with
    | [.int j] => if smallI j then some (.ok (rangeL 0 j.toNat) h) else none
    | [.int i, .int j] => if smallI i && smallI j then some (.ok (rangeL i (j - i).toNat) h) else none
    | _ => none)
  | .ienm a => Ro.bd (evW r w σ a h) fun t h => (match seqF t with
    | some (_, l) => some (.ok (enumL 0 l) h)
    | none => none)
  | .izip a b => Ro.bd (evW r w σ a h) fun t h => Ro.bd (evW r w σ b h) fun u h => (match seqF t, seqF u with
    | some (x, l), some (y, m) => if x == y then some (.ok (zipL l m) h) else none
    | _, _ => none)
  | it => Ro.bd (evW r w σ it h) fun t h => (match itT t with
    | some l => some (.ok l h)
    | none => none)

def setTg (tg : Tg) (t : T) (σ : Sl) : Option Sl := match tg with
  | .nm i => some (σ.set i (.val t))
  | .tup is => (match t with
    | .tup l => if l.length = is.length then some ((is.zip l).foldl (fun σ p => σ.set p.1 (.val p.2)) σ) else none
    | _ => none)
def wipeS (σ : Sl) : List Nat → Sl
  | [] => σ
  | v :: vs => (wipeS σ vs).set v .no

/-- a test -/
def evB : Nat → Sl → CE → Hh → Ro Bool
  | 0, _, _, _ => none
  | _ + 1, _, .bop _ [], _ => none
  | n + 1, σ, .not a, h => Ro.bd (evB n σ a h) fun b h => some (.ok (!b) h)
  | n + 1, σ, .bop k [a], h => evB n σ a h
  | n + 1, σ, .bop true (a :: b :: l), h => Ro.bd (evB n σ a h) fun x h => if x then evB n σ (.bop true (b :: l)) h else some (.ok false h)
  | n + 1, σ, .bop false (a :: b :: l), h => Ro.bd (evB n σ a h) fun x h => if x then some (.ok true h) else evB n σ (.bop false (b :: l)) h
  | _ + 1, σ, .cmp o a b, h => Ro.bd (evV r σ a h) fun x h => Ro.bd (evV r σ b h) fun y h => cmpE P r o x y h
  | _ + 1, σ, .cmp2 o o' a b c, h => cmp2E r o o' σ a b c h
  | n + 1, σ, .ife c a b, h => Ro.bd (evB n σ c h) fun k h => if k then evB n σ a h else evB n σ b h
  | _ + 1, σ, e, h => Ro.bd (evV r σ e h) fun t h => truE P r t h

/-- the items of a comprehension: tests, then the element -/
def compL (tg : Tg) (tst : Sl → Hh → Ro Bool) (el : Sl → Hh → Ro (List T)) (σ : Sl) : List T → Hh → Ro (List T)
  | [], h => some (.ok [] h)
  | t :: ts, h => match setTg tg t σ with
    | none => none
    | some σ' => Ro.bd (tst σ' h) fun b h => if b then Ro.bd (el σ' h) fun u h => Ro.bd (compL tg tst el σ ts h) fun us h => some (.ok (u ++ us) h) else compL tg tst el σ ts h
def evIfs (σ : Sl) : List CE → Hh → Ro Bool
  | [], h => some (.ok true h)
  | [c], h => evB P r 50 σ c h
  | _, _ => none

/-- an expression's part that may be left out -/
def evO (σ : Sl) (e : Option CE) (h : Hh) : Ro (Option Int) := match e with
  | none => some (.ok none h)
  | some l => Ro.bd (r.e σ l h) fun t h => (match t with
    | .int i => some (.ok (some i) h)
    | _ => none)

/-- an expression that makes a new list: its items -/
def evL (σ : Sl) (e : CE) (h : Hh) : Ro (List T) := match e with
  | .lst es => Ro.bd (evArgs r σ es h) fun ts h => if ts.length ≤ big then some (.ok ts h) else none
  | .comp el tg it ifs ws => Ro.bd (evIt r true σ it h) fun l h => if l.length ≤ big then
      compL tg (fun σ h => noEx (evIfs P r σ ifs h)) (fun σ h => Ro.bd (noEx (r.e σ el h)) fun t h => some (.ok [t] h)) (wipeS σ ws) l h else none
  | .comp2 el tg it ifs tg2 it2 ifs2 ws ws2 => Ro.bd (evIt r true σ it h) fun l h => if l.length ≤ big then
      Ro.bd (compL tg (fun σ h => noEx (evIfs P r σ ifs h)) (fun σ h => Ro.bd (noEx (evIt r true σ it2 h)) fun l2 h =>
        compL tg2 (fun σ h => noEx (evIfs P r σ ifs2 h)) (fun σ h => Ro.bd (noEx (r.e σ el h)) fun t h => some (.ok [t] h)) (wipeS σ ws2) l2 h) (wipeS σ ws) l h) fun us h => if us.length ≤ big then some (.ok us h) else none else none
  | .bin .add a b => Ro.bd (evV r σ a h) fun x h => Ro.bd (evV r σ b h) fun y h => (match seqOf h x, seqOf h y with
    | some (false, l), some (false, m) => if l.length + m.length ≤ big then some (.ok (l ++ m) h) else none
    | _, _ => none)
  | .bin .mul a b => Ro.bd (evV r σ a h) fun x h => Ro.bd (r.e σ b h) fun y h => (match seqOf h x, y with
    | some (false, l), .int k => if smallI k && decide (l.length * k.toNat ≤ big) then some (.ok (List.replicate k.toNat l).flatten h) else none
    | _, _ => none)
  | .slc a lo hi => Ro.bd (evV r σ a h) fun x h => Ro.bd (evO r σ lo h) fun l h => Ro.bd (evO r σ hi h) fun u h => (match seqOf h x with
    | some (false, xs) => some (.ok (cutT xs l u) h)
    | _ => none)
  | .rev a => Ro.bd (evV r σ a h) fun x h => (match seqOf h x with
    | some (false, xs) => some (.ok xs.reverse h)
    | _ => none)
  | .call (.glob g) [a] [] => (match P.gl g with
    | some (.ty 4) => Ro.bd (evV r σ a h) fun x h => (match seqOf h x with
      | some (_, xs) => some (.ok xs h)
      | none => none)
    | some (.bi .sorted) => Ro.bd (evV r σ a h) fun x h => (match seqOf h x with
      | some (false, xs) => (match intsT xs with
        | some is => if decide (is.length < 64) then some (.ok ((is.mergeSort (fun a b => decide (a ≤ b))).map T.int) h) else none
        | none => none)
      | _ => none)
    | _ => none)
  | _ => none

/-- a built-in function of values -/
def biT (b : Bi) (ts : List T) (h : Hh) : Option T := match b, ts with
  | .len, [t] => (match t with
    | .str x => if decide (x.length ≤ big) then some (.int x.length) else none
    | .frl l => some (.int l.length)
    | t => (match seqOf h t with
      | some (_, l) => some (.int l.length)
      | none => none))
  | .sum, [t] => (match seqOf h t with
    | some (false, l) => (intsT l).map fun is => .int is.sum
    | _ => none)
  | .max, [t] => (match seqOf h t with
    | some (false, l) => (match intsT l with
      | some (i :: is) => some (.int (is.foldl max i))
      | _ => none)
    | _ => none)
  | .min, [t] => (match seqOf h t with
    | some (false, l) => (match intsT l with
      | some (i :: is) => some (.int (is.foldl min i))
      | _ => none)
    | _ => none)
  | .max, [.int i, .int j] => some (.int (if j > i then j else i))
  | .min, [.int i, .int j] => some (.int (if j < i then j else i))
  | .all, [t] => (match seqOf h t with
    | some (false, l) => (blsT l).map fun bs => .bl (bs.all id)
    | _ => none)
  | .any, [t] => (match seqOf h t with
    | some (false, l) => (blsT l).map fun bs => .bl (bs.any id)
    | _ => none)
  | .abs, [.int i] => some (.int (if i < 0 then -i else i))
  | _, _ => none
/-- a call of a built-in type -/
def tyT (n : Nat) (t : T) (h : Hh) : Option T := match n, t with
  | 0, .int i => some (.int i)
  | 0, .str x => if decide (x.length ≤ 640) then (intText? x).map T.int else none
  | 1, .int i => some (.bl (i != 0))
  | 1, .bl b => some (.bl b)
  | 2, .int i => if decide (i.natAbs.log2 < 1920) then some (.str (toString i)) else none
  | 3, t => (match seqOf h t with
    | some (false, l) => some (.ptu l)
    | some (true, _) => some t
    | none => none)
  | _, _ => none

/-- one subscript -/
def ixE (t u : T) (h : Hh) : Ro T := match ownM P h t nIx with
  | some f => if okY P h u then callF P r f [t, u] [] h else none
  | none => (match t, u with
    | .str x, .int i => if decide (x.length ≤ big) then (match L2.atI x.cps.toList i with
      | some c => some (.ok (.str ⟨#[c]⟩) h)
      | none => none) else none
    | .ref a, u => (match h[a]? with
      | some (.dct l) => (match keyT u with
        | some k => lift (dlook k l) h
        | none => none)
      | some (.lst l) => (match u with
        | .int i => lift (ixT l i) h
        | _ => none)
      | _ => none)
    | t, .int i => (match seqF t with
      | some (_, l) => lift (ixT l i) h
      | none => none)
    | _, _ => none)

/-- has an instance no field of the name? -/
def noFld (h : Hh) (t : T) (m : Nat) : Bool := match t with
  | .ins _ fs => (fs.lookup m).isNone
  | .ref a => (match h[a]? with
    | some (.ins _ fs) => (fs.lookup m).isNone
    | _ => false)
  | _ => false
/-- a built-in value's type, by number -/
def tyK (h : Hh) (t : T) : Nat := match t with
  | .str _ => 2
  | .ptu _ => 3
  | .lst _ => 4
  | .vl _ => 4
  | .ref a => (match h[a]? with
    | some (.lst _) => 4
    | some (.dct _) => 5
    | _ => 0)
  | _ => 0
/-- does the type have the method? -/
def bmOk (k m : Nat) : Bool := [(4, 11), (4, 13), (4, 14), (4, 15), (3, 14), (3, 15), (2, 19), (2, 20)].contains (k, m)
/-- methods of a built-in value: what they give, the cells behind it -/
def bCount (t : T) (ts : List T) (h : Hh) : Ro T := match ts with
  | [u] => (match seqOf h t with
    | some (_, l) => if okD 8 u && okDs 7 l then some (.ok (.int ((l.countP fun z => eqB z u : Nat) : Int)) h) else none
    | none => none)
  | _ => none
def bIndex (t : T) (ts : List T) (h : Hh) : Ro T := match ts with
  | [u] => (match seqOf h t with
    | some (_, l) => if okD 8 u && okDs 7 l then (match l.findIdx? fun z => eqB z u with
      | some j => some (.ok (.int (j : Nat)) h)
      | none => none) else none
    | none => none)
  | _ => none
/-- the cell of a list -/
def cellL (h : Hh) (t : T) : Option (Nat × List T) := match t with
  | .ref a => (match h[a]? with
    | some (.lst l) => some (a, l)
    | _ => none)
  | _ => none
def bAppend (t : T) (ts : List T) (h : Hh) : Ro T := match ts with
  | [u] => (match cellL h t with
    | some (a, l) => if l.length < big then some (.ok .non (h.set a (.lst (l ++ [u])))) else none
    | none => none)
  | _ => none
def bPop (t : T) (ts : List T) (h : Hh) : Ro T := match cellL h t with
  | some (a, l) => (match ts with
    | [] => (match l[l.length - 1]? with
      | some u => some (.ok u (h.set a (.lst l.dropLast)))
      | none => none)
    | [.int i] => if smallI i then (match L2.ixN l.length i with
      | some k => (match l[k]? with
        | some u => some (.ok u (h.set a (.lst (l.eraseIdx k))))
        | none => none)
      | none => none) else none
    | _ => none)
  | none => none
def bJoin (t : T) (ts : List T) (h : Hh) : Ro T := match t, ts with
  | .str x, [u] => (match seqOf h u with
    | some (_, l) => (match strsT l with
      | some ys => if (ys.map (·.length)).sum + ys.length * x.length ≤ big then some (.ok (.str (Txt.join x ys)) h) else none
      | none => none)
    | none => none)
  | _, _ => none
def bSplit (t : T) (ts : List T) (h : Hh) : Ro T := match t, ts with
  | .str x, [.str y] => if y.length != 0 && decide (x.length ≤ big) then some (.ok (.lst ((Txt.split x y).map T.str)) h) else none
  | _, _ => none
def bmT (t : T) (m : Nat) (ts : List T) (h : Hh) : Ro T := match m with
  | 11 => bAppend t ts h
  | 13 => bPop t ts h
  | 14 => bCount t ts h
  | 15 => bIndex t ts h
  | 19 => bJoin t ts h
  | 20 => bSplit t ts h
  | _ => none

/-- str() of a part of an f-string -/
def fmtT (t : T) (spec : Option Str) : Option Str := match t, spec with
  | .int i, none => if decide (i.natAbs.log2 < 1920) then some (toString i) else none
  | .str x, none => some x
  | _, _ => none
def evFmt (σ : Sl) : List CE → Hh → Ro (List Str)
  | [], h => some (.ok [] h)
  | .con (.str x) :: es, h => if x.length ≤ 1000 then Ro.bd (evFmt σ es h) fun xs h => some (.ok (x :: xs) h) else none
  | .fval a sp :: es, h => Ro.bd (evV r σ a h) fun t h => (match fmtT t sp with
    | some x => if x.length ≤ 1000 then Ro.bd (evFmt σ es h) fun xs h => some (.ok (x :: xs) h) else none
    | none => none)
  | _, _ => none
def catS (acc : Str) (xs : List Str) : Str := xs.foldl (fun a b => a ++ b) acc

def evPairs (σ : Sl) : List CE → List CE → Hh → Ro (List (L2.Key × T))
  | [], [], h => some (.ok [] h)
  | k :: ks, v :: vs, h => Ro.bd (r.e σ k h) fun t h => Ro.bd (r.e σ v h) fun u h => (match keyT t with
    | some key => Ro.bd (evPairs σ ks vs h) fun l h => some (.ok ((key, u) :: l) h)
    | none => none)
  | _, _, _ => none
def mergeD (l : List (L2.Key × T)) : List (L2.Key × T) := l.foldl (fun acc p => dput p.1 p.2 acc) []

/-- is the thing called one that makes a list? -/
def isLs : G → Bool
  | .ty 4 => true
  | .bi .sorted => true
  | _ => false
def isClsT : T → Bool
  | .cls _ => true
  | _ => false
def lenE (x : T) (h : Hh) : Ro T := match ownM P h x nLen with
  | some f => Ro.bd (callF P r f [x] [] h) fun t h => (match t with
    | .int n => if decide (0 ≤ n) && smallI n then some (.ok (.int n) h) else none
    | _ => none)
  | none => lift (biT .len [x] h) h
/-- a call of a built-in function -/
def callB (σ : Sl) (b : Bi) (args : List CE) (h : Hh) : Ro T := match b with
  | .isinstance => (match args with
    | [_, .star _] => none
    | [a, b] => Ro.bd (evV r σ a h) fun x h => Ro.bd (r.e σ b h) fun y h => lift ((isInst P h x y).map T.bl) h
    | _ => none)
  | .len => (match args with
    | [a] => Ro.bd (evV r σ a h) fun x h => lenE P r x h
    | _ => none)
  | b => Ro.bd (evArgs r σ args h) fun ts h => lift (biT b ts h) h
/-- .. of a built-in type -/
def callT (σ : Sl) (n : Nat) (args : List CE) (h : Hh) : Ro T := match args with
  | [a] => Ro.bd (evV r σ a h) fun x h => lift (tyT n x h) h
  | _ => none
def callG (σ : Sl) (g : G) (args : List CE) (kws : List (Nat × CE)) (h : Hh) : Ro T := match g with
  | .fn f => Ro.bd (evArgs r σ args h) fun ts h => Ro.bd (evKws r σ kws h) fun ks h => callF P r f ts ks h
  | .cls c => Ro.bd (evArgs r σ args h) fun ts h => Ro.bd (evKws r σ kws h) fun ks h => makeC P r c ts ks h
  | .bi b => if kws.isEmpty then callB P r σ b args h else none
  | .ty n => if kws.isEmpty then callT r σ n args h else none
  | .con _ => none
/-- a method's call, the object at hand -/
def methE (σ : Sl) (x : T) (m : Nat) (args : List CE) (kws : List (Nat × CE)) (h : Hh) : Ro T := match ownM P h x m with
  | some f => if noFld h x m then Ro.bd (evArgs r σ args h) fun ts h => Ro.bd (evKws r σ kws h) fun ks h => callF P r f (x :: ts) ks h else none
  | none => if kws.isEmpty && bmOk (tyK h x) m then Ro.bd (evArgs r σ args h) fun ts h' => (if tyK h' x = tyK h x then bmT x m ts h' else none) else none
/-- expressions -/
def evE (σ : Sl) (e : CE) (h : Hh) : Ro T := match e with
  | .var i => (match σ[i]? with
    | some (.val t) => some (.ok t h)
    | _ => none)
  | .con t => some (.ok t h)
  | .glob x => (match P.gl x with
    | some (.fn f) => some (.ok (.fn f) h)
    | some (.cls c) => some (.ok (.cls c) h)
    | some (.ty n) => some (.ok (.ty n) h)
    | some (.con t) => some (.ok t h)
    | _ => none)
  | .bin o a b => Ro.bd (evV r σ a h) fun x h => Ro.bd (evV r σ b h) fun y h => binE P r o x y h
  | .neg a => Ro.bd (r.e σ a h) fun x h => negE P r x h
  | .not a => Ro.bd (evV r σ a h) fun t h => Ro.bd (truE P r t h) fun b h => some (.ok (.bl (!b)) h)
  | .bop k l => (match l with
    | [] => none
    | [a] => r.e σ a h
    | a :: l => Ro.bd (r.e σ a h) fun x h => (match x with
      | .bl b => if b == k then r.e σ (.bop k l) h else some (.ok (.bl b) h)
      | _ => none))
  | .ife c a b => Ro.bd (evB P r 50 σ c h) fun x h => if x then r.e σ a h else r.e σ b h
  | .cmp o a b => Ro.bd (evV r σ a h) fun x h => Ro.bd (evV r σ b h) fun y h => Ro.bd (cmpE P r o x y h) fun b h => some (.ok (.bl b) h)
  | .cmp2 o o' a b c => Ro.bd (cmp2E r o o' σ a b c h) fun k h => some (.ok (.bl k) h)
  | .tup es => Ro.bd (evArgs r σ es h) fun ts h => if ts.length ≤ big then some (.ok (.tup ts) h) else none
  | .dct ks vs => Ro.bd (evPairs r σ ks vs h) fun l h => if l.length ≤ 15 then some (.ok (.ref h.length) (h ++ [.dct (mergeD l)])) else none
  | .sub a b => Ro.bd (evV r σ a h) fun x h => Ro.bd (r.e σ b h) fun y h => ixE P r x y h
  | .attr a f => (match a with
    | .var i => (match σ[i]? with
      | some (.self c fs) => if fldOk P c f fs then lift (fs.lookup f) h else none
      | some (.val t) => attrT P r t f h
      | _ => none)
    | a => Ro.bd (r.e σ a h) fun x h => attrT P r x f h)
  | .slc a lo hi => Ro.bd (evV r σ a h) fun x h => Ro.bd (evO r σ lo h) fun l h => Ro.bd (evO r σ hi h) fun u h => (match seqOf h x with
    | some (true, xs) => some (.ok (.tup (cutT xs l u)) h)
    | some (false, xs) => some (.ok (.lst (cutT xs l u)) h)
    | none => none)
  | .rev a => Ro.bd (evV r σ a h) fun x h => (match seqOf h x with
    | some (false, xs) => some (.ok (.lst xs.reverse) h)
    | _ => none)
  | .fmt es => if 2 ≤ es.length && decide (es.length ≤ 100) then Ro.bd (evFmt r σ es h) fun xs h => some (.ok (.str (catS Str.empty xs)) h) else none
  | .call f args kws => (match f with
    | .glob g => (match P.gl g with
      | some x => if isLs x then Ro.bd (evL P r σ e h) fun l h => some (.ok (.lst l) h) else callG P r σ x args kws h
      | none => none)
    | .attr o m => Ro.bd (evV r σ o h) fun x h => if isClsT x then none else methE P r σ x m args kws h
    | f => Ro.bd (r.e σ f h) fun x h => (match ownM P h x nCall with
      | some f => Ro.bd (evArgs r σ args h) fun ts h => Ro.bd (evKws r σ kws h) fun ks h => callF P r f (x :: ts) ks h
      | none => none))
  | .lam g t b => (match P.gl g with
    | some (.fn f) => (match h[t]? with
      | some (.tab t') => if t' = t then r.lcall f b σ h else none
      | _ => none)
    | _ => none)
  | .lcl i => (match σ[i]? with
    | some (.clo b σ') => r.e σ' b h
    | _ => none)
  | e => Ro.bd (evL P r σ e h) fun l h => some (.ok (.lst l) h)

/-! ### statements -/
abbrev So := Option (Fl × Hh)
/-- an expression within a statement -/
def So.of {α : Type} (σ : Sl) (m : Ro α) (f : α → Hh → So) : So := match m with
  | none => none
  | some (.ok a h) => f a h
  | some (.ex c fs h) => some (.ex c fs σ, h)
end

section
variable (P : Prg) (r : Rec)
def forL (tg : Tg) (b : List CS) (ss : Sl → List CS → Hh → So) : List T → Sl → Hh → So
  | [], σ, h => some (.nx σ, h)
  | t :: ts, σ, h => match setTg tg t σ with
    | none => none
    | some σ' => (match ss σ' b h with
      | some (.nx σ', h') => forL tg b ss ts σ' h'
      | some (.ct σ', h') => forL tg b ss ts σ' h'
      | some (.bk σ', h') => some (.nx σ', h')
      | o => o)
def whileL (c : Sl → Hh → Ro Bool) (b : List CS) (ss : Sl → List CS → Hh → So) : Nat → Sl → Hh → So
  | 0, _, _ => none
  | n + 1, σ, h => So.of σ (c σ h) fun k h => if k then (match ss σ b h with
      | some (.nx σ', h') => whileL c b ss n σ' h'
      | some (.ct σ', h') => whileL c b ss n σ' h'
      | some (.bk σ', h') => some (.nx σ', h')
      | o => o) else some (.nx σ, h)
/-- what extend takes -/
def extF : T → Option (List T)
  | .lst l => some l
  | .vl l => some l
  | _ => none
/-- x[y] = t, x a cell -/
def itemS (σ : Sl) (x y t : T) (h : Hh) : So := match x with
  | .ref a => (match h[a]? with
    | some (.dct l) => (match keyT y with
      | some key => if l.length < big then some (.nx σ, h.set a (.dct (dput key t l))) else none
      | none => none)
    | some (.lst l) => (match y with
      | .int i => (match L2.ixN l.length i with
        | some j => some (.nx σ, h.set a (.lst (l.set j t)))
        | none => none)
      | _ => none)
    | _ => none)
  | _ => none
/-- for each slot of a parallel assignment: 0 a value, 1 held alone, 2 a cell -/
def parL (σ : Sl) : List (Nat × Nat) → List CE → Sl → Hh → Ro Sl
  | [], [], acc, h => some (.ok acc h)
  | (i, 0) :: is, e :: es, acc, h => Ro.bd (r.e σ e h) fun t h => parL σ is es (acc.set i (.val t)) h
  | (i, 1) :: is, e :: es, acc, h => Ro.bd (evL P r σ e h) fun l h => parL σ is es (acc.set i (.own l)) h
  | (i, _) :: is, e :: es, acc, h => Ro.bd (evL P r σ e h) fun l h => parL σ is es (acc.set i (.val (.ref h.length))) (h ++ [.lst l])
  | _, _, _, _ => none
/-- the class that a name of the module stands for, an exception's -/
def xcOf (g : Nat) : Option Nat := match P.gl g with
  | some (.cls d) => (match P.xc d with
    | some _ => some d
    | none => none)
  | _ => none
def isH (c g : Nat) : Bool := match xcOf P g with
  | some d => P.isSubX c d
  | none => false
def tryOk (hs : List (List Nat × Option Nat × List CS)) : Bool := hs.all fun h => h.1.all fun g => (xcOf P g).isSome
/-- clauses: the names of their classes by number, the slot of the name, the suite -/
def handler (c : Nat) : List (List Nat × Option Nat × List CS) → Option (Option Nat × List CS)
  | [] => none
  | (cs, o, b) :: hs => if cs.any (fun d => isH P c d) then some (o, b) else handler c hs
def setOpt (o : Option Nat) (v : SV) (σ : Sl) : Sl := match o with
  | none => σ
  | some i => σ.set i v
def flWipe (o : Option Nat) : Fl → Fl
  | .nx σ => .nx (setOpt o .no σ)
  | .bk σ => .bk (setOpt o .no σ)
  | .ct σ => .ct (setOpt o .no σ)
  | f => f
def evS (wf : Nat) (σ : Sl) (s : CS) (h : Hh) : So := match s with
  | .set tg e => So.of σ (r.e σ e h) fun t h => (match setTg tg t σ with
    | some σ' => some (.nx σ', h)
    | none => none)
  | .own i e => So.of σ (evL P r σ e h) fun l h => some (.nx (σ.set i (.own l)), h)
  | .box i e => So.of σ (evL P r σ e h) fun l h => some (.nx (σ.set i (.val (.ref h.length))), h ++ [.lst l])
  | .setL i e => So.of σ (evL P r σ e h) fun l h => some (.nx (σ.set i (.val (.lst l))), h)
  | .par is es => So.of σ (parL P r σ is es σ h) fun σ' h => some (.nx σ', h)
  | .fld i f e => So.of σ (r.e σ e h) fun t h => (match σ[i]? with
    | some (.self c fs) => if fldOk P c f fs then some (.nx (σ.set i (.self c (putF f t fs))), h) else none
    | some (.val (.ref a)) => (match h[a]? with
      | some (.ins c fs) => if fldOk P c f fs then some (.nx σ, h.set a (.ins c (putF f t fs))) else none
      | _ => none)
    | _ => none)
  | .flds l es => So.of σ (evArgs r σ es h) fun ts h => if ts.length = l.length then (match l with
      | (i, _) :: _ => (match σ[i]? with
        | some (.self c fs) => if l.all (fun p => p.1 == i && fldOk P c p.2 fs) && decide (l.length ≤ 20) then some (.nx (σ.set i (.self c ((l.zip ts).foldl (fun fs p => putF p.1.2 p.2 fs) fs))), h) else none
        | _ => none)
      | [] => none) else none
  | .item a k e => So.of σ (r.e σ e h) fun t h => So.of σ (r.e σ a h) fun x h => So.of σ (r.e σ k h) fun y h => itemS σ x y t h
  | .itemB a k e => So.of σ (evL P r σ e h) fun l h => So.of σ (r.e σ a (h ++ [.lst l])) fun x h' => So.of σ (r.e σ k h') fun y h' => itemS σ x y (.ref h.length) h'
  | .aug i o e => (match σ[i]? with
    | some (.val x) => So.of σ (r.e σ e h) fun y h => (match o, x, y with
      | .add, .int a, .int b => some (.nx (σ.set i (.val (.int (a + b)))), h)
      | _, _, _ => none)
    | _ => none)
  | .app i e => (match σ[i]? with
    | some (.own l) => So.of σ (r.e σ e h) fun t h => if l.length < big then some (.nx (σ.set i (.own (l ++ [t]))), h) else none
    | _ => none)
  | .ext i e => (match σ[i]? with
    | some (.own l) => So.of σ (evV r σ e h) fun t h => (match extF t with
      | some m => if l.length + m.length ≤ big then some (.nx (σ.set i (.own (l ++ m))), h) else none
      | none => none)
    | _ => none)
  | .oset i k e => (match σ[i]? with
    | some (.own l) => So.of σ (r.e σ e h) fun t h => So.of σ (r.e σ k h) fun y h => (match y with
      | .int n => (match L2.ixN l.length n with
        | some j => some (.nx (σ.set i (.own (l.set j t))), h)
        | none => none)
      | _ => none)
    | _ => none)
  | .frz i => (match σ[i]? with
    | some (.own l) => some (.nx (σ.set i (.val (.lst l))), h)
    | some (.val _) => some (.nx σ, h)
    | _ => none)
  | .exp e => So.of σ (r.e σ e h) fun _ h => some (.nx σ, h)
  | .ret e => So.of σ (r.e σ e h) fun t h => some (.rt t, h)
  | .ife c a b => So.of σ (evB P r 50 σ c h) fun k h => if k then r.ss σ a h else r.ss σ b h
  | .for_ tg it b => So.of σ (evIt r false σ it h) fun l h => forL tg b r.ss l σ h
  | .while_ c b => whileL (fun σ h => evB P r 50 σ c h) b r.ss wf σ h
  | .raise_ (.glob g) args => (match P.gl g with
    | some (.cls c) => (match P.xc c with
      | some k => if decide (args.length = k.exf.length) && !k.exf.isEmpty then So.of σ (evArgs r σ args h) fun ts h => (match bindX k.exf ts with
        | some fs => some (.ex c fs.reverse σ, h)
        | none => none) else none
      | none => none)
    | _ => none)
  | .raise_ _ _ => none
  | .try_ b hs => if !tryOk P hs then none else (match r.ss σ b h with
    | some (.ex c fs σ', h') => (match P.xc c with
      | none => none
      | some _ => (match handler P c hs with
        | some (o, b') => (match r.ss (setOpt o (.val (.exc c fs)) σ') b' h' with
          | some (f, h'') => some (flWipe o f, h'')
          | none => none)
        | none => some (.ex c fs σ', h')))
    | o => o)
  | .pass => some (.nx σ, h)
  | .brk => some (.bk σ, h)
  | .cont => some (.ct σ, h)
  | .nev => none
def evSs (wf : Nat) : Sl → List CS → Hh → So
  | σ, [], h => some (.nx σ, h)
  | σ, s :: ss, h => match evS P r wf σ s h with
    | some (.nx σ', h') => evSs wf σ' ss h'
    | o => o

/-- the body of the f-th def at its parameters' values -/
def startS (n : Nat) (ts : List T) : Sl := ts.map SV.val ++ List.replicate (n - ts.length) SV.no
def evCall (f : Nat) (ts : List T) (h : Hh) : Ro T := match P.fn f with
  | none => none
  | some d => match r.ss (startS d.n ts) d.body h with
    | some (.nx _, h) => some (.ok .non h)
    | some (.rt t, h) => some (.ok t h)
    | some (.ex c fs _, h) => some (.ex c fs h)
    | _ => none
/-- an __init__ of an instance in the making: its fields -/
def evInit (f c : Nat) (fs : List (Nat × T)) (ts : List T) (h : Hh) : Ro (List (Nat × T)) := match P.fn f with
  | none => none
  | some d => match r.ss ((startS d.n (.non :: ts)).set 0 (.self c fs)) d.body h with
    | some (.nx σ, h) => (match (σ : List SV)[(0 : Nat)]? with
      | some (SV.self c' fs) => if c' = c then some (.ok fs h) else none
      | _ => none)
    | some (.ex c fs _, h) => some (.ex c fs h)
    | _ => none
/-- the f-th def gets a closure -/
def evLcall (f : Nat) (b : CE) (σ : Sl) (h : Hh) : Ro T := match P.fn f with
  | none => none
  | some d => if d.lam then (match r.ss (.clo b σ :: List.replicate (d.n - 1) SV.no) d.body h with
    | some (.nx _, h) => some (.ok .non h)
    | some (.rt t, h) => some (.ok t h)
    | some (.ex c fs _, h) => some (.ex c fs h)
    | _ => none) else none
def step (wf : Nat) : Rec where
  e := evE P r
  ss := evSs P r wf
  call := evCall P r
  init := evInit P r
  lcall := evLcall P r
end
def run (P : Prg) (wf : Nat) : Nat → Rec
  | 0 => ⟨fun _ _ _ => none, fun _ _ _ => none, fun _ _ _ => none, fun _ _ _ _ _ => none, fun _ _ _ _ => none⟩
  | n + 1 => step P (run P wf n) wf
theorem run_succ (P : Prg) (wf n : Nat) : run P wf (n + 1) = step P (run P wf n) wf := rfl
end Ev
end
section
set_option Elab.async false
set_option linter.all false
set_option maxRecDepth 100000
set_option maxHeartbeats 1000000
/-! Ev, part Hc: a program as lists, what its top must leave, as tests (no proofs: it stands ahead of the run). -/
namespace Ev
open PySem PySem.Spec PyProof.Rows L2
def tyN : Nat → String
  | 0 => "int" | 1 => "bool" | 2 => "str" | 3 => "tuple" | 4 => "list" | 5 => "dict" | 6 => "NoneType" | _ => "ValueError"
def biN : Bi → String
  | .len => "len" | .range => "range" | .enumerate => "enumerate" | .zip => "zip" | .zips => "zip" | .sum => "sum" | .max => "max" | .min => "min" | .all => "all" | .any => "any" | .sorted => "sorted" | .abs => "abs" | .isinstance => "isinstance" | .repr => "repr"
def nmOf (l : List Str) (i : Nat) : Str := match l[i]? with
  | some x => x
  | none => ⟨Array.replicate (1000 + i) 97⟩
/-- where a def stands: a name of the module; a class and its method; a class and its property -/
inductive Pl where
  | top (x : Str) | meth (c m : Str) | prop (c m : Str)
/-- all by number: the numbers are those of one table for all laws, a law has some of them -/
structure Tx where
  fns : List (Nat × FnD)
  cls : List (Nat × ClD)
  xcs : List (Nat × XcD)
  /-- where the __init__ of an exception class stands -/
  xis : List (Nat × Pl) := []
  /-- the base of the exception classes -/
  xba : Str := "ClimbticketsError"
  /-- the defs that make lambdas -/
  tabs : List Nat := []
  gls : List (Nat × G)
  wf : Nat
  nms : List Str
  gns : List Str
  cns : List Str
  fps : List (Nat × Pl)
def Tx.G (t : Tx) : Prg := ⟨fun f => t.fns.lookup f, fun c => t.cls.lookup c, fun c => t.xcs.lookup c, fun g => t.gls.lookup g⟩
def getA (K : PySem.W.Frag) (p : Addr) : Addr := match PySem.W.recIn K p "property" with
  | some (.ref g :: _) => g
  | _ => 0
def Pl.ad (K : PySem.W.Frag) : Pl → Addr
  | .top x => He.ga K x
  | .meth c m => He.ma K (He.ga K c) m
  | .prop c m => getA K (He.ma K (He.ga K c) m)
def Tx.cn (t : Tx) (c : Nat) : Str := t.cns.getD c Str.empty
def Tx.cA (t : Tx) (K : PySem.W.Frag) (c : Nat) : Addr := He.ga K (t.cn c)
def Tx.fA (t : Tx) (K : PySem.W.Frag) (f : Nat) : Addr := match t.fps.lookup f with
  | some p => p.ad K
  | none => 0
def oB (K : PySem.W.Frag) (C : Addr) (x : Str) (r : Option (Option Value)) : Bool := decide (PySem.W.findIn K (.ref C) x = r)
def mtB (K : PySem.W.Frag) (C : Addr) (m : Str) (f : Addr) : Bool := oB K C m (some (some (.ref f))) && PySem.W.isFn K (.ref f) && PySem.W.keepIn K (.ref f) && PySem.W.fnIn K f
def prB (K : PySem.W.Frag) (C : Addr) (x : Str) (p g : Addr) : Bool := oB K C x (some (some (.ref p))) && decide (PySem.W.specialIn K (.ref p) "__get__" = some (some (.builtin "property.__get__"))) && decide (PySem.W.takesIn K (.ref p) = some true) && (match PySem.W.recIn K p "property" with
  | some (.ref q :: _) => decide (q = g)
  | _ => false)
def valB : T → Value → Bool
  | .int i, .int j _ => decide (i = j)
  | .str x, .str y _ => decide (x = y)
  | .bl a, .bool b => a == b
  | .non, .none => true
  | _, _ => false
/-- a constant of a class -/
def cnB (K : PySem.W.Frag) (C : Addr) (f : Str) (t : T) : Bool := (match PySem.W.findIn K (.ref C) f with
  | some (some u) => valB t u && decide (PySem.W.specialIn K u "__get__" = some none) && (match PySem.W.findCls K (.ref C) (.type "type") f with
    | some (.val x) => decide (x = u)
    | _ => false)
  | _ => false) && !(PySem.W.copiedNames.contains f) && PySem.W.readsIn K C (.type "type") && decide (PySem.W.specialIn K (.ref C) "__getattribute__" = some (some (.builtin "type.__getattribute__")))
/-- no class of it fills a number's slot -/
def noFill (K : PySem.W.Frag) (C : Addr) (nm : String) : Bool := match PySem.W.clsIn K C with
  | some cd => cd.mro.all fun v => decide (PySem.W.findIn K v (PySem.dunder nm) = some none) && decide (PySem.W.findIn K v (dunderR nm) = some none)
  | none => false
/-- a class whose instances have a dict -/
def clB (t : Tx) (K : PySem.W.Frag) (c : Nat) (k : ClD) : Bool :=
  let C := t.cA K c
  PySem.W.plainGet K C Str.empty && PySem.W.hasDictIn K C && PySem.W.plainOver K C && oB K C "__setattr__" (some (some (.builtin "object.__setattr__"))) &&
  (match k.init with
    | none => true
    | some f => PySem.W.makesIn K C && oB K C "__init__" (some (some (.ref (t.fA K f)))) && PySem.W.isFn K (.ref (t.fA K f)) && PySem.W.keepIn K (.ref C)) &&
  (k.flds.all fun f => oB K C (nmOf t.nms f) (some none)) &&
  (k.meth.all fun p => mtB K C (nmOf t.nms p.1) (t.fA K p.2)) &&
  (k.prop.all fun p => prB K C (nmOf t.nms p.1) (He.ma K C (nmOf t.nms p.1)) (t.fA K p.2)) &&
  (k.con.all fun p => cnB K C (nmOf t.nms p.1) p.2) &&
  k.cm.isEmpty && PySem.W.noSeq K C && PySem.W.selfFirst K C && oB K C "__class__" (some (some (.builtin "object.__class__"))) &&
  decide (PySem.W.specialIn K (.builtin "object.__class__") "__get__" = some (some (.builtin "getset_descriptor.__get__"))) && decide (PySem.W.takesIn K (.builtin "object.__class__") = some true) &&
  decide (PySem.W.mroIn K C (.type "object") = some true) &&
  ((List.range 8).all fun n => PySem.W.notFirst K C (.type (tyN n)) && decide (PySem.W.kitOne K (.type (tyN n)) (.ref C) = some false) && decide (PySem.W.kitOne K (.ref C) (.type (tyN n)) = some false)) &&
  (t.cls.all fun p => PySem.W.notFirst K C (.ref (t.cA K p.1)) && decide (PySem.W.kitOne K (.ref (t.cA K p.1)) (.ref C) = some (t.G.isSub p.1 c))) &&
  ((k.meth.lookup nAdd).isSome || noFill K C "add") && ((k.meth.lookup nSub).isSome || noFill K C "sub")
/-- an own exception class over ValueError -/
def oexB (K : PySem.W.Frag) (C : Addr) : Bool := (match K.lookup C with
  | some ⟨.type t, _, .cls cd, sl⟩ => decide (t = "type") && cd.hasDict && !cd.hasDel && (match cd.mro with
    | .ref c :: bm => decide (c = C) && PySem.HandSPX.refsVE bm
    | _ => false) && decide (sl.size = 6) && decide (sl[4]? = some (some (.builtin "ValueError.__new__")))
  | _ => false) && oB K C "__setattr__" (some (some (.builtin "object.__setattr__"))) && decide (PySem.W.subIn K (.ref C) (.type "BaseException") = some true) && decide (PySem.W.typeIn K (.ref C) = some (.type "type")) && PySem.W.keepIn K (.ref C)
def excB (K : PySem.W.Frag) (C : Addr) : Bool := oB K C "__getattribute__" (some (some (.builtin "BaseException.__getattribute__"))) && oB K C "__getattr__" (some none) && decide (PySem.W.subIn K (.ref C) (.type "BaseException") = some true) && PySem.W.hasDictIn K C &&
  oB K C "__class__" (some (some (.builtin "object.__class__"))) && decide (PySem.W.specialIn K (.builtin "object.__class__") "__get__" = some (some (.builtin "getset_descriptor.__get__"))) && decide (PySem.W.takesIn K (.builtin "object.__class__") = some true) && decide (PySem.W.mroIn K C (.type "object") = some true)
def xcB (t : Tx) (K : PySem.W.Frag) (c : Nat) (k : XcD) : Bool :=
  let C := t.cA K c
  oexB K C && xfB K C && (t.xcs.all fun p => decide (PySem.W.exmOne K (.ref C) (.ref (t.cA K p.1)) = some (t.G.isSubX c p.1))) && excB K C && (t.xcs.all fun p => decide (PySem.W.kitOne K (.ref C) (.ref (t.cA K p.1)) = some (t.G.isSubX c p.1))) && (t.cls.all fun p => decide (PySem.W.kitOne K (.ref C) (.ref (t.cA K p.1)) = some false) && decide (PySem.W.kitOne K (.ref (t.cA K p.1)) (.ref C) = some false)) && ((List.range 8).all fun n => decide (PySem.W.kitOne K (.ref C) (.type (tyN n)) = some (n == 7)) && decide (PySem.W.kitOne K (.type (tyN n)) (.ref C) = some false)) && (k.exf.all fun p => oB K C (nmOf t.nms p.1) (some none)) && decide (k.exf.length ≤ 20) && (k.exf.all fun p => match p.2 with
    | none => true
    | some .non => true
    | _ => false) &&
  (match t.xis.lookup c with
    | some p => oB K C "__init__" (some (some (.ref (p.ad K)))) && decide (PySem.W.typeIn K (.ref (p.ad K)) = some (.type "function"))
    | none => k.exf.isEmpty)
/-- the base's __init__ -/
def xbaB (t : Tx) (K : PySem.W.Frag) : Bool := decide (PySem.W.nsIn K mainGlobals t.xba = some (some (.ref (He.ga K t.xba)))) && PySem.W.readsIn K (He.ga K t.xba) (.type "type") && decide (PySem.W.specialIn K (.ref (He.ga K t.xba)) "__getattribute__" = some (some (.builtin "type.__getattribute__"))) &&
  (match PySem.W.findCls K (.ref (He.ga K t.xba)) (.type "type") "__init__" with
    | some (.val v) => decide (v = .builtin "ValueError.__init__")
    | _ => false)
/-- a def's code object and its table -/
def codeA (K : PySem.W.Frag) (f : Addr) : Addr := match K.lookup f with
  | some ⟨_, _, .func fd, _⟩ => (match fd.code with
    | .ref c => c
    | _ => 0)
  | _ => 0
def tabA (K : PySem.W.Frag) (f : Addr) : Addr × Addr := (codeA K f, He.tabOf K (codeA K f))
def tabB (g : Addr → Option Obj) (K : PySem.W.Frag) (f : Addr) : Bool := PySem.W.codeHdIn K (tabA K f).1 (tabA K f).2 && (match g (tabA K f).2 with
  | some o => He.emptyTab o
  | none => false)
theorem ba2c {a b : Bool} (h : (a && b) = true) : a = true ∧ b = true := Bool.and_eq_true_iff.mp h
def nsB (K : PySem.W.Frag) (x : Str) (r : Option Value) : Bool := decide (PySem.W.nsIn K mainGlobals x = some r)
def glChk (t : Tx) (K : PySem.W.Frag) (x : Str) : G → Bool
  | .fn f => nsB K x (some (.ref (t.fA K f))) && PySem.W.keepIn K (.ref (t.fA K f))
  | .cls c => nsB K x (some (.ref (t.cA K c))) && PySem.W.keepIn K (.ref (t.cA K c))
  | .ty n => nsB K x none && (decide (n < 6) || decide (n = 7)) && decide (x = Str.ofString (tyN n))
  | .bi b => nsB K x none && decide (x = Str.ofString (biN b))
  | .con u => match PySem.W.nsIn K mainGlobals x with
    | some (some v) => valB u v
    | _ => false
/-- what the top leaves -/
def Tx.exB (t : Tx) (K : PySem.W.Frag) : Bool :=
  (t.cls.all fun p => clB t K p.1 p.2) &&
  ((List.range 8).all fun a => (List.range 8).all fun b => decide (PySem.W.kitOne K (.type (tyN a)) (.type (tyN b)) = some (b == a || (a == 1 && b == 0)))) &&
  nsB K "range" none && nsB K "enumerate" none && nsB K "zip" none &&
  (t.gls.all fun p => glChk t K (nmOf t.gns p.1) p.2) &&
  (K.all fun p => decide (p.2.cls ≠ .type "list")) &&
  (t.xcs.all fun p => xcB t K p.1 p.2) && (t.xcs.isEmpty || xbaB t K) && decide ((t.tabs.map fun f => (tabA K (t.fA K f)).2).Nodup)
/-- the tables are empty -/
def Tx.tbB (t : Tx) (g : Addr → Option Obj) (K : PySem.W.Frag) : Bool := t.tabs.all fun f => tabB g K (t.fA K f)
/-- a def as the text has it: where it stands, its statement, all its names, its parameters -/
structure Df where
  pl : Pl
  name : Str
  qual : Str
  st : Stmt
  N : List Str
  ps : List Str
  /-- how many of the last positional parameters are None by default, which of the keyword-only ones -/
  dn : Nat := 0
  kn : List Str := []
def Df.dfl (d : Df) : List He.Dv := List.replicate d.dn .non
def Df.kwd (d : Df) : List (Str × He.Dv) := d.kn.map fun x => (x, .non)
def Df.dvs (d : Df) : List V := List.replicate d.dn .non
def Df.kws (d : Df) : List (Str × V) := d.kn.map fun x => (x, .non)
def Df.ad (d : Df) : He5.DefA := ⟨d.pl.ad, d.name, d.qual, L2.defArgs d.st, L2.defBody d.st, L2.defScope d.st, d.dfl, d.kwd⟩
theorem Df.ad_dvs (d : Df) (K : PySem.W.Frag) : d.ad.dvs K = d.dvs := by
  show (List.replicate d.dn He.Dv.non).map (He.Dv.v K) = _
  rw [List.map_replicate]
  rfl
theorem Df.ad_kws (d : Df) (K : PySem.W.Frag) : d.ad.kws K = d.kws := by
  show (d.kn.map fun x => (x, He.Dv.non)).map (fun q => (q.1, q.2.v K)) = _
  rw [List.map_map]
  rfl
/-- all that the addresses reach, each once, in at most n steps -/
def dfs (g : Addr → Option Obj) : Nat → Nat → List Addr → List Addr
  | 0, _, _ => []
  | _ + 1, _, [] => []
  | n + 1, seen, a :: fr => match Nat.testBit seen a with
    | true => dfs g n seen fr
    | false => a :: dfs g n (seen ||| 1 <<< a) ((match g a with
      | some o => He.refsD o
      | none => []) ++ fr)
def frV (g : Addr → Option Obj) (n : Nat) : PySem.W.Frag := He.frT g (dfs g n 0 [mainGlobals, cStatics])
/-- what is looked at of a top: its facts, its tables -/
structure Ex where
  ex : PySem.W.Frag → Bool
  tb : (Addr → Option Obj) → PySem.W.Frag → Bool
def Tx.Ex (t : Tx) : Ex := ⟨t.exB, t.tbB⟩
def obsV (n : Nat) (ds : List Df) (ex : Ex) (g : Addr → Option Obj) : He.AlD := ((ds.all fun d => d.ad.ok (frV g n)) && ex.ex (frV g n) && ex.tb g (frV g n), ds.map fun d => He5.fnA (frV g n) (d.pl.ad (frV g n)))
def wantV (ds : List Df) : He.AlD := (true, ds.map fun d => d.ad.val)
structure SaysV (ds : List Df) (ex : PySem.W.Frag → Bool) (K : PySem.W.Frag) : Prop where
  more : ex K = true
  defs : ∀ (i : Nat) (d : Df), ds[i]? = some d → ∃ fd, FunD K d.name d.qual (L2.defArgs d.st) (L2.defBody d.st) (L2.defScope d.st) d.dvs d.kws (d.pl.ad K) fd
theorem saysV_of {n : Nat} {ds : List Df} {ex : Ex} {g : Addr → Option Obj} (e : obsV n ds ex g = wantV ds) : SaysV ds ex.ex (frV g n) ∧ ex.tb g (frV g n) = true := by
  obtain ⟨e1, e2⟩ := Prod.mk.inj e
  obtain ⟨e1, h3⟩ := ba2c e1
  obtain ⟨h1, h2⟩ := ba2c e1
  refine ⟨⟨h2, fun i d hd => ?_⟩, h3⟩
  have q : (ds.map fun d => He5.fnA (frV g n) (d.pl.ad (frV g n)))[i]? = (ds.map fun d => d.ad.val)[i]? := by rw [e2]
  rw [List.getElem?_map, List.getElem?_map, hd] at q
  have z := He5.DefA.funD (d := d.ad) (Option.some.inj q) (List.all_eq_true.mp h1 d (List.mem_of_getElem? hd))
  rw [Df.ad_dvs, Df.ad_kws] at z
  exact z
/-- the tables stand empty, and K does not tell them -/
def TabsV (t : Tx) (K : PySem.W.Frag) (h : Heap) : Prop := ∀ f ∈ t.tabs, PySem.W.codeHdIn K (tabA K (t.fA K f)).1 (tabA K (t.fA K f)).2 = true ∧ K.lookup (tabA K (t.fA K f)).2 = none ∧ h.get? (tabA K (t.fA K f)).2 = some { cls := .none, data := .fields #[] }
theorem tabsV_of {t : Tx} {n : Nat} {h : Heap} (e : t.tbB h.get? (frV h.get? n) = true) : TabsV t (frV h.get? n) h := fun f hf => by
  have q := List.all_eq_true.mp e f hf
  obtain ⟨q1, q2⟩ := ba2c q
  cases hg : h.get? (tabA (frV h.get? n) (t.fA (frV h.get? n) f)).2 with
  | none => rw [hg] at q2; cases q2
  | some o =>
    rw [hg] at q2
    exact ⟨q1, He.frT_none hg q2, by rw [He.emptyTab_eq q2]⟩
def hookV (n : Nat) (ds : List Df) (t : Tx) : PySem.W.Hook where
  α := He.AlD
  obs := fun s => obsV n ds t.Ex s.heap.get?
  val := fun _ => wantV ds
  says := fun _ h => ∃ K : PySem.W.Frag, K.In h ∧ SaysV ds t.exB K ∧ TabsV t K h
  of := fun _ _ e => ⟨_, He.frT_in, (saysV_of e).1, tabsV_of (saysV_of e).2⟩
  keeps := fun _ _ _ ⟨K, hK, c, d⟩ k => ⟨K, PySem.W.Frag.In.keeps hK k, c, fun f hf => ⟨(d f hf).1, (d f hf).2.1, k _ _ (d f hf).2.2⟩⟩
theorem obsV_eq {n : Nat} {ds : List Df} {t : Tx} {g : Addr → Option Obj} {s : Shared} (h : ∀ a, g a = s.heap.get? a) : obsV n ds t.Ex g = (hookV n ds t).obs s := by
  have e : g = s.heap.get? := funext h
  rw [e] <;> rfl
end Ev
end
section
set_option Elab.async false
set_option linter.all false
set_option maxRecDepth 100000
set_option maxHeartbeats 1000000
/-! Ev, part B: how trees and cells lie in the abstract heap; what a reading is. -/
namespace Ev
open PySem PySem.Spec PyProof.Rows L2

/-- a def that makes lambdas: its code object, the table of it, the name that its lambdas bear -/
structure TabI where
  code : Addr
  tbl : Addr
  q : Str
/-- the program and where the text has it -/
structure Gam where
  G : Prg
  wf : Nat
  cA : Nat → Addr
  fA : Nat → Addr
  nm : Nat → Str
  gn : Nat → Str
  K : PySem.W.Frag
  prog : Program
  w : World
  mg : Str → Option Value
  base : Heap
  tb : List TabI := []

/-- a tuple of the text -/
def KTup (K : PySem.W.Frag) (a : Addr) (xs : List V) : Prop :=
  ∃ (o : Obj) (its : Array Value) (n : Nat), K.lookup a = some o ∧ o.cls = .type "tuple" ∧ o.data = .seq its n ∧ its.size ≤ sizeLine ∧ Vals xs its.toList
def RT (Γ : Gam) (Z : Addr → Prop) (H : Hp) (a : Addr) (vs : List V) : Prop := (Z a ∧ Rd H a (.tup vs)) ∨ KTup Γ.K a vs
def RL (Z : Addr → Prop) (H : Hp) (a : Addr) (vs : List V) : Prop := Z a ∧ H a = some (.lst vs)
def RF (Z : Addr → Prop) (H : Hp) (a : Addr) (vs : List V) : Prop := Z a ∧ Rd H a (.lst vs)
/-- a tuple of which the object is known: it has no dict -/
def RP (Z : Addr → Prop) (H : Hp) (a : Addr) (vs : List V) : Prop := Z a ∧ ∃ o : Obj, H a = some (.frz o (.tup vs)) ∧ o.dict = none
theorem RP.rt {Γ : Gam} {Z : Addr → Prop} {H : Hp} {a : Addr} {vs : List V} (h : RP Z H a vs) : RT Γ Z H a vs := by
  obtain ⟨z, o, e, _⟩ := h
  exact .inl ⟨z, .inr ⟨o, e⟩⟩
theorem RT.sq {Γ : Gam} {Z : Addr → Prop} {H : Hp} {a : Addr} {vs : List V} (h : RT Γ Z H a vs) : SqT Γ.K H a vs := by
  rcases h with ⟨_, h⟩ | h
  · exact .inl h
  · exact .inr h
theorem RL.sq {K : PySem.W.Frag} {Z : Addr → Prop} {H : Hp} {a : Addr} {vs : List V} (h : RL Z H a vs) : SqL K H a vs := .inl (.inl h.2)
theorem RF.sq {K : PySem.W.Frag} {Z : Addr → Prop} {H : Hp} {a : Addr} {vs : List V} (h : RF Z H a vs) : SqL K H a vs := .inl h.2

/-- a caught exception: an object of the class at C with its dict at d -/
def XcO (C d a : Addr) : HO := .ext fun h => ∃ (oe : Obj) (vs : Array Value), h.get? a = some oe ∧ oe.cls = .ref C ∧ oe.dict = some d ∧ oe.data = .fields vs
mutual
inductive TV (Γ : Gam) (Z : Addr → Prop) (φ : List Addr) (H : Hp) : V → T → Prop
  | non : TV Γ Z φ H .non .non
  | bl (b : Bool) : TV Γ Z φ H (.bl b) (.bl b)
  | int (i : Int) : TV Γ Z φ H (.int i) (.int i)
  | str (x : Str) : TV Γ Z φ H (.str x) (.str x)
  | tup {a : Addr} {vs : List V} {ts : List T} (h : RT Γ Z H a vs) (r : TVs Γ Z φ H vs ts) : TV Γ Z φ H (.ref a) (.tup ts)
  | ptu {a : Addr} {vs : List V} {ts : List T} (h : RP Z H a vs) (r : TVs Γ Z φ H vs ts) : TV Γ Z φ H (.ref a) (.ptu ts)
  | lst {a : Addr} {vs : List V} {ts : List T} (h : RL Z H a vs) (r : TVs Γ Z φ H vs ts) : TV Γ Z φ H (.ref a) (.lst ts)
  | frl {a : Addr} {vs : List V} {ts : List T} (h : RF Z H a vs) (r : TVs Γ Z φ H vs ts) : TV Γ Z φ H (.ref a) (.frl ts)
  | ins {a dx : Addr} {gs : List (Str × V)} {c : Nat} {fs : List (Nat × T)} (hz : Z a) (h : H a = some (.ins (Γ.cA c) dx gs)) (r : TFs Γ Z φ H gs fs) : TV Γ Z φ H (.ref a) (.ins c fs)
  | exc {a d : Addr} {gs : List (Str × V)} {c : Nat} {fs : List (Nat × T)} (hz : Z a) (hd : Z d) (h : H a = some (XcO (Γ.cA c) d a)) (h2 : H d = some (.xd gs)) (r : TFs Γ Z φ H gs fs) : TV Γ Z φ H (.ref a) (.exc c fs)
  | ref {a : Addr} {n : Nat} (h : φ[n]? = some a) : TV Γ Z φ H (.ref a) (.ref n)
  | cls (c : Nat) : TV Γ Z φ H (.ref (Γ.cA c)) (.cls c)
  | fn (f : Nat) : TV Γ Z φ H (.ref (Γ.fA f)) (.fn f)
  | ty (n : Nat) : TV Γ Z φ H (.ty (tyN n)) (.ty n)
inductive TVs (Γ : Gam) (Z : Addr → Prop) (φ : List Addr) (H : Hp) : List V → List T → Prop
  | nil : TVs Γ Z φ H [] []
  | cons {v : V} {t : T} {vs : List V} {ts : List T} (h : TV Γ Z φ H v t) (r : TVs Γ Z φ H vs ts) : TVs Γ Z φ H (v :: vs) (t :: ts)
inductive TFs (Γ : Gam) (Z : Addr → Prop) (φ : List Addr) (H : Hp) : List (Str × V) → List (Nat × T) → Prop
  | nil : TFs Γ Z φ H [] []
  | cons {v : V} {t : T} {f : Nat} {gs : List (Str × V)} {fs : List (Nat × T)} (h : TV Γ Z φ H v t) (r : TFs Γ Z φ H gs fs) : TFs Γ Z φ H ((Γ.nm f, v) :: gs) ((f, t) :: fs)
end

/-- later: what is no cell stands as it stood -/
structure Le (Z : Addr → Prop) (φ : List Addr) (H : Hp) (Z' : Addr → Prop) (φ' : List Addr) (H' : Hp) : Prop where
  pf : ∀ (n : Nat) (a : Addr), φ[n]? = some a → φ'[n]? = some a
  kp : ∀ (a : Addr) (o : HO), H a = some o → a ∉ φ → H' a = some o ∧ (Z' a ↔ Z a) ∧ a ∉ φ'
theorem Le.refl {Z : Addr → Prop} {φ : List Addr} {H : Hp} : Le Z φ H Z φ H := ⟨fun _ _ h => h, fun _ _ h n => ⟨h, Iff.rfl, n⟩⟩
theorem Le.trans {Z Z1 Z2 : Addr → Prop} {φ φ1 φ2 : List Addr} {H H1 H2 : Hp} (a : Le Z φ H Z1 φ1 H1) (b : Le Z1 φ1 H1 Z2 φ2 H2) : Le Z φ H Z2 φ2 H2 :=
  ⟨fun n x h => b.pf n x (a.pf n x h), fun x o h n => by
    obtain ⟨h1, z1, n1⟩ := a.kp x o h n
    obtain ⟨h2, z2, n2⟩ := b.kp x o h1 n1
    exact ⟨h2, z2.trans z1, n2⟩⟩

/-- a table of code objects -/
def TabQ (Z : Addr → Prop) (H : Hp) (a : Addr) (q : Str) : Prop := ∃ ps : Array Value, H a = some (.tbl ps) ∧ TriplesOk ps.toList ∧ ∀ (pos : Pos) (cv : Value), codeAmong pos ps.toList = some cv → ∃ c, cv = .ref c ∧ Z c ∧ H c = some (LamX.CodeO c q)
theorem TabQ.mono {Z Z' : Addr → Prop} {H H' : Hp} {a : Addr} {q : Str} (x : TabQ Z H a q) (e : H' a = H a) (k : ∀ c, Z c → Z' c ∧ H' c = H c) : TabQ Z' H' a q := by
  obtain ⟨ps, h1, h2, h3⟩ := x
  refine ⟨ps, e.trans h1, h2, fun pos cv hc => ?_⟩
  obtain ⟨c, e1, z, e2⟩ := h3 pos cv hc
  exact ⟨c, e1, (k c z).1, (k c z).2.trans e2⟩
/-- a cell -/
inductive MOk (Γ : Gam) (Z : Addr → Prop) (φ : List Addr) (H : Hp) (a : Addr) : MO → Prop
  | lst {vs : List V} {ts : List T} (h : H a = some (.lst vs)) (r : TVs Γ Z φ H vs ts) : MOk Γ Z φ H a (.lst ts)
  | dct {kvs : List (Key × V)} {l : List (Key × T)} (h : H a = some (.dK kvs)) (k : kvs.map (·.1) = l.map (·.1)) (r : TVs Γ Z φ H (kvs.map (·.2)) (l.map (·.2))) : MOk Γ Z φ H a (.dct l)
  | ins {dx : Addr} {gs : List (Str × V)} {c : Nat} {fs : List (Nat × T)} (h : H a = some (.ins (Γ.cA c) dx gs)) (r : TFs Γ Z φ H gs fs) : MOk Γ Z φ H a (.ins c fs)
  | gone {o : HO} (h : H a = some o) : MOk Γ Z φ H a .gone
  | tab {t : Nat} {ti : TabI} (h : Γ.tb[t]? = some ti) (e : a = ti.tbl) (k : TabQ Z H a ti.q) : MOk Γ Z φ H a (.tab t)
theorem MOk.some {Γ : Gam} {Z : Addr → Prop} {φ : List Addr} {H : Hp} {a : Addr} {m : MO} (h : MOk Γ Z φ H a m) : ∃ o, H a = some o := by
  cases h with
  | lst h _ => exact ⟨_, h⟩
  | dct h _ _ => exact ⟨_, h⟩
  | ins h _ => exact ⟨_, h⟩
  | gone h => exact ⟨_, h⟩
  | tab _ _ k => obtain ⟨ps, h, _⟩ := k; exact ⟨_, h⟩

/-- the cells and what is settled -/
structure R (Γ : Gam) (Z : Addr → Prop) (φ : List Addr) (H : Hp) (h : Hh) : Prop where
  nd : φ.Nodup
  len : φ.length = h.length
  dz : ∀ (a : Addr), Z a → a ∉ φ ∧ ∃ o, H a = some o
  ok : ∀ (n : Nat) (m : MO) (a : Addr), h[n]? = some m → φ[n]? = some a → MOk Γ Z φ H a m

section
variable {Γ : Gam} {Z Z' Z1 : Addr → Prop} {φ φ' φ1 : List Addr} {H H' H1 : Hp} {h h' : Hh}
theorem R.cell (r : R Γ Z φ H h) {n : Nat} {m : MO} (e : h[n]? = some m) : ∃ a, φ[n]? = some a ∧ MOk Γ Z φ H a m := by
  have hn : n < h.length := (List.getElem?_eq_some_iff.mp e).1
  have hn' : n < φ.length := by rw [r.len]; exact hn
  exact ⟨φ[n], List.getElem?_eq_getElem hn', r.ok n m _ e (List.getElem?_eq_getElem hn')⟩
theorem R.some (r : R Γ Z φ H h) {a : Addr} (ha : a ∈ φ) : ∃ o, H a = some o := by
  obtain ⟨n, hn, e⟩ := List.getElem_of_mem ha
  have hh : n < h.length := by rw [← r.len]; exact hn
  exact (r.ok n h[n] a (List.getElem?_eq_getElem hh) (by rw [List.getElem?_eq_getElem hn, e])).some
theorem R.zs (r : R Γ Z φ H h) (le : Le Z φ H Z' φ' H') {a : Addr} (z : Z a) : Z' a ∧ H' a = H a := by
  obtain ⟨n, o, e⟩ := r.dz a z
  obtain ⟨e', z', _⟩ := le.kp a o e n
  exact ⟨z'.mpr z, e'.trans e.symm⟩
theorem R.rd (r : R Γ Z φ H h) (le : Le Z φ H Z' φ' H') {a : Addr} {u : HO} (z : Z a) (x : Rd H a u) : Rd H' a u := by
  have e := (r.zs le z).2
  rcases x with x | ⟨o, x⟩
  · exact .inl (e.trans x)
  · exact .inr ⟨o, e.trans x⟩
theorem R.rt (r : R Γ Z φ H h) (le : Le Z φ H Z' φ' H') {a : Addr} {vs : List V} (x : RT Γ Z H a vs) : RT Γ Z' H' a vs := by
  rcases x with ⟨z, x⟩ | x
  · exact .inl ⟨(r.zs le z).1, r.rd le z x⟩
  · exact .inr x
theorem R.rl (r : R Γ Z φ H h) (le : Le Z φ H Z' φ' H') {a : Addr} {vs : List V} (x : RL Z H a vs) : RL Z' H' a vs := ⟨(r.zs le x.1).1, (r.zs le x.1).2.trans x.2⟩
theorem R.rf (r : R Γ Z φ H h) (le : Le Z φ H Z' φ' H') {a : Addr} {vs : List V} (x : RF Z H a vs) : RF Z' H' a vs := ⟨(r.zs le x.1).1, r.rd le x.1 x.2⟩
mutual
theorem TV.mono {v : V} {t : T} (r : R Γ Z φ H h) (le : Le Z φ H Z' φ' H') : TV Γ Z φ H v t → TV Γ Z' φ' H' v t
  | .non => .non
  | .bl b => .bl b
  | .int i => .int i
  | .str x => .str x
  | .tup x y => .tup (r.rt le x) (TVs.mono r le y)
  | .ptu x y => .ptu ⟨(r.zs le x.1).1, by obtain ⟨_, o, e, d⟩ := x; exact ⟨o, (r.zs le (by assumption)).2.trans e, d⟩⟩ (TVs.mono r le y)
  | .lst x y => .lst (r.rl le x) (TVs.mono r le y)
  | .frl x y => .frl (r.rf le x) (TVs.mono r le y)
  | .ins z x y => .ins (r.zs le z).1 ((r.zs le z).2.trans x) (TFs.mono r le y)
  | .exc z zd x xd y => .exc (r.zs le z).1 (r.zs le zd).1 ((r.zs le z).2.trans x) ((r.zs le zd).2.trans xd) (TFs.mono r le y)
  | .ref x => .ref (le.pf _ _ x)
  | .cls c => .cls c
  | .fn f => .fn f
  | .ty n => .ty n
theorem TVs.mono {v : List V} {t : List T} (r : R Γ Z φ H h) (le : Le Z φ H Z' φ' H') : TVs Γ Z φ H v t → TVs Γ Z' φ' H' v t
  | .nil => .nil
  | .cons x y => .cons (TV.mono r le x) (TVs.mono r le y)
theorem TFs.mono {v : List (Str × V)} {t : List (Nat × T)} (r : R Γ Z φ H h) (le : Le Z φ H Z' φ' H') : TFs Γ Z φ H v t → TFs Γ Z' φ' H' v t
  | .nil => .nil
  | .cons x y => .cons (TV.mono r le x) (TFs.mono r le y)
end
theorem TVs.length {v : List V} {t : List T} : TVs Γ Z φ H v t → v.length = t.length
  | .nil => rfl
  | .cons _ y => by rw [List.length_cons, List.length_cons, TVs.length y]
theorem TVs.app {v u : List V} {t s : List T} : TVs Γ Z φ H v t → TVs Γ Z φ H u s → TVs Γ Z φ H (v ++ u) (t ++ s)
  | .nil, y => y
  | .cons x y, z => .cons x (TVs.app y z)
theorem TVs.get {v : List V} {t : List T} : TVs Γ Z φ H v t → ∀ {i : Nat} {x : T}, t[i]? = some x → ∃ u, v[i]? = some u ∧ TV Γ Z φ H u x
  | .nil, i, x, e => by simp at e
  | .cons a b, 0, x, e => by simp at e; subst e; exact ⟨_, rfl, a⟩
  | .cons a b, i + 1, x, e => by
    obtain ⟨u, h1, h2⟩ := TVs.get b (i := i) (x := x) (by simpa using e)
    exact ⟨u, by simpa using h1, h2⟩
theorem TVs.get' {v : List V} {t : List T} : TVs Γ Z φ H v t → ∀ {i : Nat} {u : V}, v[i]? = some u → ∃ x, t[i]? = some x ∧ TV Γ Z φ H u x
  | .nil, i, x, e => by simp at e
  | .cons a b, 0, x, e => by simp at e; subst e; exact ⟨_, rfl, a⟩
  | .cons a b, i + 1, x, e => by
    obtain ⟨u, h1, h2⟩ := TVs.get' b (i := i) (u := x) (by simpa using e)
    exact ⟨u, by simpa using h1, h2⟩
theorem TVs.take {v : List V} {t : List T} : ∀ (n : Nat), TVs Γ Z φ H v t → TVs Γ Z φ H (v.take n) (t.take n)
  | 0, _ => .nil
  | _ + 1, .nil => .nil
  | n + 1, .cons a b => .cons a (TVs.take n b)
theorem TVs.drop {v : List V} {t : List T} : ∀ (n : Nat), TVs Γ Z φ H v t → TVs Γ Z φ H (v.drop n) (t.drop n)
  | 0, r => r
  | _ + 1, .nil => .nil
  | n + 1, .cons _ b => TVs.drop n b
theorem TVs.set {v : List V} {t : List T} {u : V} {x : T} (a : TV Γ Z φ H u x) : ∀ (i : Nat), TVs Γ Z φ H v t → TVs Γ Z φ H (v.set i u) (t.set i x)
  | _, .nil => .nil
  | 0, .cons _ b => .cons a b
  | i + 1, .cons q b => .cons q (TVs.set a i b)
theorem TVs.erase {v : List V} {t : List T} : ∀ (i : Nat), TVs Γ Z φ H v t → TVs Γ Z φ H (v.eraseIdx i) (t.eraseIdx i)
  | _, .nil => .nil
  | 0, .cons _ b => b
  | i + 1, .cons q b => .cons q (TVs.erase i b)
theorem TVs.reverse {v : List V} {t : List T} : TVs Γ Z φ H v t → TVs Γ Z φ H v.reverse t.reverse
  | .nil => .nil
  | .cons a b => by rw [List.reverse_cons, List.reverse_cons]; exact TVs.app (TVs.reverse b) (.cons a .nil)
theorem TVs.rep {v : List V} {t : List T} (r : TVs Γ Z φ H v t) : ∀ k : Nat, TVs Γ Z φ H (List.replicate k v).flatten (List.replicate k t).flatten
  | 0 => .nil
  | k + 1 => by rw [List.replicate_succ, List.replicate_succ, List.flatten_cons, List.flatten_cons]; exact r.app (TVs.rep r k)
theorem TVs.dropLast {v : List V} {t : List T} (r : TVs Γ Z φ H v t) : TVs Γ Z φ H v.dropLast t.dropLast := by
  rw [List.dropLast_eq_take, List.dropLast_eq_take, r.length]; exact r.take _

/-- a value that is only looked at: also a list that a name alone holds -/
def TW (Γ : Gam) (Z : Addr → Prop) (φ : List Addr) (H : Hp) (v : V) (t : T) : Prop :=
  TV Γ Z φ H v t ∨ ∃ (p : Addr) (vs : List V) (l : List T), v = .ref p ∧ t = .vl l ∧ H p = some (.lst vs) ∧ TVs Γ Z φ H vs l ∧ ¬ Z p ∧ p ∉ φ
theorem TW.mono {v : V} {t : T} (r : R Γ Z φ H h) (le : Le Z φ H Z' φ' H') (w : TW Γ Z φ H v t) : TW Γ Z' φ' H' v t := by
  rcases w with w | ⟨p, vs, l, rfl, rfl, e, rr, nz, np⟩
  · exact .inl (w.mono r le)
  · obtain ⟨e', z', n'⟩ := le.kp p _ e np
    exact .inr ⟨p, vs, l, rfl, rfl, e', rr.mono r le, fun z => nz (z'.mp z), n'⟩

/-- a slot -/
def SOk (Γ : Gam) (Z : Addr → Prop) (φ : List Addr) (H : Hp) (o : Option V) : SV → Prop
  | .no => True
  | .val t => ∃ v, o = some v ∧ TV Γ Z φ H v t
  | .own l => ∃ (p : Addr) (vs : List V), o = some (.ref p) ∧ H p = some (.lst vs) ∧ TVs Γ Z φ H vs l ∧ ¬ Z p ∧ p ∉ φ
  | .self c fs => ∃ (p dx : Addr) (gs : List (Str × V)), o = some (.ref p) ∧ H p = some (.ins (Γ.cA c) dx gs) ∧ TFs Γ Z φ H gs fs ∧ ¬ Z p ∧ p ∉ φ
  | .clo _ _ => True
def SV.held : SV → Bool
  | .own _ => true
  | .self _ _ => true
  | _ => false
theorem SOk.mono {o : Option V} {x : SV} (r : R Γ Z φ H h) (le : Le Z φ H Z' φ' H') (s : SOk Γ Z φ H o x) : SOk Γ Z' φ' H' o x := by
  cases x with
  | no => trivial
  | val t => obtain ⟨v, e, w⟩ := s; exact ⟨v, e, w.mono r le⟩
  | own l =>
    obtain ⟨p, vs, eo, e, rr, nz, np⟩ := s
    obtain ⟨e', z', n'⟩ := le.kp p _ e np
    exact ⟨p, vs, eo, e', rr.mono r le, fun z => nz (z'.mp z), n'⟩
  | self c fs =>
    obtain ⟨p, dx, gs, eo, e, rr, nz, np⟩ := s
    obtain ⟨e', z', n'⟩ := le.kp p _ e np
    exact ⟨p, dx, gs, eo, e', rr.mono r le, fun z => nz (z'.mp z), n'⟩
  | clo b σ => trivial
/-- the slots -/
structure SR (Γ : Gam) (Z : Addr → Prop) (φ : List Addr) (H : Hp) (σ : Sl) (σv : L2.St) : Prop where
  len : σ.length = σv.length
  at_ : ∀ (i : Nat) (x : SV), σ[i]? = some x → ∃ o, σv[i]? = some o ∧ SOk Γ Z φ H o x
  sep : ∀ (i j : Nat) (x y : SV) (v : V), σ[i]? = some x → σ[j]? = some y → x.held = true → y.held = true → σv[i]? = some (some v) → σv[j]? = some (some v) → i = j
theorem SR.mono {σ : Sl} {σv : L2.St} (r : R Γ Z φ H h) (le : Le Z φ H Z' φ' H') (s : SR Γ Z φ H σ σv) : SR Γ Z' φ' H' σ σv :=
  ⟨s.len, fun i x e => by
    obtain ⟨o, e1, k⟩ := s.at_ i x e
    exact ⟨o, e1, k.mono r le⟩, s.sep⟩
theorem SR.val {σ : Sl} {σv : L2.St} (s : SR Γ Z φ H σ σv) {i : Nat} {t : T} (e : σ[i]? = some (.val t)) : ∃ v, σv[i]? = some (some v) ∧ TV Γ Z φ H v t := by
  obtain ⟨o, e1, v, rfl, w⟩ := s.at_ i _ e
  exact ⟨v, e1, w⟩

theorem Le.notin {d : Addr} (le : Le Z φ H Z' φ' H') (np : d ∉ φ') : d ∉ φ := fun hm => by
  obtain ⟨n, hn, e⟩ := List.getElem_of_mem hm
  exact np (List.mem_of_getElem? (le.pf n d (by rw [List.getElem?_eq_getElem hn, e])))
theorem Le.fresh {d : Addr} (le : Le Z φ H Z' φ' H') (nh : H' d = none) (np : d ∉ φ') : H d = none := by
  cases e : H d with
  | none => rfl
  | some o =>
    have := (le.kp d o e (le.notin np)).1
    rw [nh] at this
    cases this
/-- what is wanted of an exception -/
def ExP (Γ : Gam) (W : WX) (σv : L2.St) (Z : Addr → Prop) (φ : List Addr) (H : Hp) (c : Nat) (fs : List (Nat × T)) (h : Hh) : Prop :=
  ∀ (Z' : Addr → Prop) (φ' : List Addr) (H' : Hp) (d : Addr) (gs : List (Str × V)), Le Z φ H Z' φ' H' → R Γ Z' φ' H' h → H' d = some (.xd gs) → ¬ Z' d → d ∉ φ' → H d = none → TFs Γ Z' φ' H' gs fs → W (.ref (Γ.cA c)) (some d) σv H'
/-- what a result m must bring: every state behind it, then Q -/
def Post {α β : Type} (Γ : Gam) (W : WX) (σv : L2.St) (rel : (Addr → Prop) → List Addr → Hp → β → α → Prop) (Z : Addr → Prop) (φ : List Addr) (H : Hp) (m : Ro α) (Q : β → Hp → Prop) : Prop := match m with
  | none => False
  | some (.ok a h) => ∀ (Z' : Addr → Prop) (φ' : List Addr) (H' : Hp) (b : β), Le Z φ H Z' φ' H' → R Γ Z' φ' H' h → rel Z' φ' H' b a → Q b H'
  | some (.ex c fs h) => ExP Γ W σv Z φ H c fs h
theorem Post.later {α β : Type} {W : WX} {σv : L2.St} {rel : (Addr → Prop) → List Addr → Hp → β → α → Prop} {m : Ro α} {Q : β → Hp → Prop} (le : Le Z φ H Z' φ' H') (p : Post Γ W σv rel Z φ H m Q) : Post Γ W σv rel Z' φ' H' m Q := by
  cases m with
  | none => exact p
  | some x => cases x with
    | ok a h => exact fun Z2 φ2 H2 b l => p Z2 φ2 H2 b (le.trans l)
    | ex c fs h => exact fun Z2 φ2 H2 d gs l r hd nz np nh tf => p Z2 φ2 H2 d gs (le.trans l) r hd nz np (le.fresh nh (l.notin np)) tf
theorem Post.bd {α β γ δ : Type} {W : WX} {σv : L2.St} {rel : (Addr → Prop) → List Addr → Hp → β → α → Prop} {rel2 : (Addr → Prop) → List Addr → Hp → δ → γ → Prop} {m : Ro α} {f : α → Hh → Ro γ} {Q : δ → Hp → Prop}
    (p : Post Γ W σv rel2 Z φ H (Ro.bd m f) Q) : Post Γ W σv rel Z φ H m (fun b H1 => ∃ (Z1 : Addr → Prop) (φ1 : List Addr) (h1 : Hh) (a : α), Le Z φ H Z1 φ1 H1 ∧ R Γ Z1 φ1 H1 h1 ∧ rel Z1 φ1 H1 b a ∧ Post Γ W σv rel2 Z1 φ1 H1 (f a h1) Q) := by
  cases m with
  | none => exact p
  | some x => cases x with
    | ok a h => exact fun Z2 φ2 H2 b l r q => ⟨Z2, φ2, h, a, l, r, q, p.later l⟩
    | ex c fs h => exact p
theorem Post.mono {α β : Type} {W : WX} {σv : L2.St} {rel : (Addr → Prop) → List Addr → Hp → β → α → Prop} {m : Ro α} {Q Q' : β → Hp → Prop} (hq : ∀ b H', Q b H' → Q' b H') (p : Post Γ W σv rel Z φ H m Q) : Post Γ W σv rel Z φ H m Q' := by
  cases m with
  | none => exact p
  | some x => cases x with
    | ok a h => exact fun Z2 φ2 H2 b l r q => hq _ _ (p Z2 φ2 H2 b l r q)
    | ex c fs h => exact p

/-- the reading of an expression that the evaluator takes by ev -/
def rd {α β : Type} (Γ : Gam) (W : WX) (rel : (Addr → Prop) → List Addr → Hp → β → α → Prop) (ev : Sl → Hh → Ro α) : L2.St → Hp → (β → Hp → Prop) → Prop := fun σv H Q =>
  ∃ (Z : Addr → Prop) (φ : List Addr) (h : Hh) (σ : Sl), R Γ Z φ H h ∧ SR Γ Z φ H σ σv ∧ Post Γ W σv rel Z φ H (ev σ h) Q
abbrev rdE (Γ : Gam) (W : WX) (ev : Sl → Hh → Ro T) : TE := rd Γ W (TV Γ) ev
abbrev rdW (Γ : Gam) (W : WX) (ev : Sl → Hh → Ro T) : TE := rd Γ W (TW Γ) ev
abbrev rdA (Γ : Gam) (W : WX) (ev : Sl → Hh → Ro (List T)) : TA := rd Γ W (TVs Γ) ev
abbrev rdB (Γ : Gam) (W : WX) (ev : Sl → Hh → Ro Bool) : TT := rd Γ W (fun _ _ _ b a => b = a) ev
/-- one after another -/
theorem rd_bd {α β γ δ : Type} {W : WX} {rel : (Addr → Prop) → List Addr → Hp → β → α → Prop} {rel2 : (Addr → Prop) → List Addr → Hp → δ → γ → Prop} {ev : Sl → Hh → Ro α} {f : Sl → α → Hh → Ro γ} {σv : L2.St} {Q : δ → Hp → Prop}
    (p : rd Γ W rel2 (fun σ h => Ro.bd (ev σ h) (f σ)) σv H Q) :
    rd Γ W rel ev σv H (fun b H1 => ∃ (Z1 : Addr → Prop) (φ1 : List Addr) (h1 : Hh) (σ : Sl) (a : α), R Γ Z1 φ1 H1 h1 ∧ SR Γ Z1 φ1 H1 σ σv ∧ rel Z1 φ1 H1 b a ∧ Post Γ W σv rel2 Z1 φ1 H1 (f σ a h1) Q) := by
  obtain ⟨Z, φ, h, σ, r, s, q⟩ := p
  refine ⟨Z, φ, h, σ, r, s, (Post.bd (rel := rel) q).mono fun b H1 ⟨Z1, φ1, h1, a, le, r1, rr, q1⟩ => ⟨Z1, φ1, h1, σ, a, r1, s.mono r le, rr, q1⟩⟩

/-! ### new objects -/
theorem Le.new {p : Addr} {o : HO} (hp : H p = none) : Le Z φ H (fun a => Z a ∨ a = p) φ (upd H p o) :=
  ⟨fun _ _ h => h, fun a u e n => by
    have ne : a ≠ p := ne_of_none e hp
    exact ⟨by rw [upd_ne ne]; exact e, ⟨fun z => z.elim id fun z => absurd z ne, .inl⟩, n⟩⟩
theorem Le.held {p : Addr} {o : HO} (hp : H p = none) : Le Z φ H Z φ (upd H p o) :=
  ⟨fun _ _ h => h, fun a u e n => by
    have ne : a ≠ p := ne_of_none e hp
    exact ⟨by rw [upd_ne ne]; exact e, Iff.rfl, n⟩⟩
theorem R.notin (r : R Γ Z φ H h) {p : Addr} (hp : H p = none) : p ∉ φ := fun hm => by
  obtain ⟨o, e⟩ := r.some hm
  rw [hp] at e; cases e
theorem MOk.mono {a : Addr} {m : MO} (r : R Γ Z φ H h) (le : Le Z φ H Z' φ' H') (e : H' a = H a) (k : MOk Γ Z φ H a m) : MOk Γ Z' φ' H' a m := by
  cases k with
  | lst h q => exact .lst (e.trans h) (q.mono r le)
  | dct h k q => exact .dct (e.trans h) k (q.mono r le)
  | ins h q => exact .ins (e.trans h) (q.mono r le)
  | gone h => exact .gone (e.trans h)
  | tab h1 h2 k => exact .tab h1 h2 (k.mono e fun c z => r.zs le z)
theorem R.new (r : R Γ Z φ H h) {p : Addr} {o : HO} (hp : H p = none) : R Γ (fun a => Z a ∨ a = p) φ (upd H p o) h :=
  ⟨r.nd, r.len, fun a z => by
    rcases z with z | rfl
    · obtain ⟨n, u, e⟩ := r.dz a z
      exact ⟨n, u, by rw [upd_ne (ne_of_none e hp)]; exact e⟩
    · exact ⟨r.notin hp, o, upd_same⟩,
   fun n m a e1 e2 => by
    have k := r.ok n m a e1 e2
    obtain ⟨u, e⟩ := k.some
    exact k.mono r (Le.new hp) (upd_ne (ne_of_none e hp))⟩
theorem R.held (r : R Γ Z φ H h) {p : Addr} {o : HO} (hp : H p = none) : R Γ Z φ (upd H p o) h :=
  ⟨r.nd, r.len, fun a z => by
    obtain ⟨n, u, e⟩ := r.dz a z
    exact ⟨n, u, by rw [upd_ne (ne_of_none e hp)]; exact e⟩,
   fun n m a e1 e2 => by
    have k := r.ok n m a e1 e2
    obtain ⟨u, e⟩ := k.some
    exact k.mono r (Le.held hp) (upd_ne (ne_of_none e hp))⟩
/-- a new tuple, settled -/
theorem TV.newTup {p : Addr} {vs : List V} {ts : List T} (r : R Γ Z φ H h) (hp : H p = none) (q : TVs Γ Z φ H vs ts) : TV Γ (fun a => Z a ∨ a = p) φ (upd H p (.tup vs)) (.ref p) (.tup ts) :=
  .tup (.inl ⟨.inr rfl, .inl upd_same⟩) (q.mono r (Le.new hp))
theorem TV.newLst {p : Addr} {vs : List V} {ts : List T} (r : R Γ Z φ H h) (hp : H p = none) (q : TVs Γ Z φ H vs ts) : TV Γ (fun a => Z a ∨ a = p) φ (upd H p (.lst vs)) (.ref p) (.lst ts) :=
  .lst ⟨.inr rfl, upd_same⟩ (q.mono r (Le.new hp))
end
end Ev
end
section
set_option Elab.async false
set_option linter.all false
set_option maxRecDepth 100000
set_option maxHeartbeats 1000000
/-! Ev, part C: operators, comparisons, truth. -/
namespace Ev
open PySem PySem.Spec PyProof.Rows L2

theorem big_line : big ≤ sizeLine := by rw [sizeLine_eq]; decide
theorem big_lt {n : Nat} (h : n ≤ big) : n ≤ sizeLine := Nat.le_trans h big_line

section
variable {Γ : Gam} {Z Z' Z1 : Addr → Prop} {φ φ' φ1 : List Addr} {H H' H1 : Hp} {h h' : Hh} {W : WX} {σv : L2.St} {X : Cx}

theorem pe_weaken {e : Expr} {t t' : TE} (he : PE X e t) (hw : ∀ σ H Q, t' σ H Q → t σ H Q) : PE X e t' := ⟨fun pins s σ H Q I q => he.run pins s σ H Q I (hw σ H Q q)⟩
theorem pt_weaken {e : Expr} {t t' : TT} (he : PT X e t) (hw : ∀ σ H Q, t' σ H Q → t σ H Q) : PT X e t' := ⟨fun pins s σ H Q I q => he.run pins s σ H Q I (hw σ H Q q)⟩
theorem pw_weaken {e : Expr} {t t' : TT} (he : PW X e t) (hw : ∀ σ H Q, t' σ H Q → t σ H Q) : PW X e t' := ⟨fun w pins s σ H Q I q => he.run w pins s σ H Q I (hw σ H Q q)⟩
theorem rd.mono {α β : Type} {rel : (Addr → Prop) → List Addr → Hp → β → α → Prop} {ev : Sl → Hh → Ro α} {Q Q' : β → Hp → Prop} (p : rd Γ W rel ev σv H Q) (hq : ∀ b H', Q b H' → Q' b H') : rd Γ W rel ev σv H Q' := by
  obtain ⟨Z, φ, h, σ, r, s, q⟩ := p
  exact ⟨Z, φ, h, σ, r, s, q.mono hq⟩
/-- an answer that stands -/
theorem Post.ok {α β : Type} {rel : (Addr → Prop) → List Addr → Hp → β → α → Prop} {a : α} {b : β} {Q : β → Hp → Prop} (r : R Γ Z φ H h) (rr : rel Z φ H b a) (p : Post Γ W σv rel Z φ H (some (.ok a h)) Q) : Q b H := p Z φ H b Le.refl r rr
/-- a new object for the answer, settled -/
theorem Post.tup {vs : List V} {ts : List T} {p : Addr} {Q : VK} (r : R Γ Z φ H h) (rr : TVs Γ Z φ H vs ts) (hp : H p = none) (q : Post Γ W σv (TV Γ) Z φ H (some (.ok (.tup ts) h)) Q) : Q (.ref p) (upd H p (.tup vs)) :=
  q _ _ _ _ (Le.new hp) (r.new hp) (TV.newTup r hp rr)
theorem Post.lst {vs : List V} {ts : List T} {p : Addr} {Q : VK} (r : R Γ Z φ H h) (rr : TVs Γ Z φ H vs ts) (hp : H p = none) (q : Post Γ W σv (TV Γ) Z φ H (some (.ok (.lst ts) h)) Q) : Q (.ref p) (upd H p (.lst vs)) :=
  q _ _ _ _ (Le.new hp) (r.new hp) (TV.newLst r hp rr)

/-! ### names and constants -/
theorem s_var {r : Rec} {i : Nat} {x : Str} {pos : Pos} {G : Prg} (hN : X.N[i]? = some x) (hv : Vis X.env.scope x) (hd : (x == ("__debug__" : Str)) = false) (hcd : (x == ("__classdict__" : Str)) = false) :
    PE X (.Name x pos) (rdE Γ W fun σ h => evE G r σ (.var i) h) := pe_weaken (pe_var hN hv hd hcd) fun σv H Q p => by
  obtain ⟨Z, φ, h, σ, rr, s, q⟩ := p
  have q : Post Γ W σv (TV Γ) Z φ H (match σ[i]? with | some (.val t) => some (.ok t h) | _ => none) Q := q
  cases e : σ[i]? with
  | none => rw [e] at q; exact q.elim
  | some x => cases x with
    | val t =>
      rw [e] at q
      obtain ⟨v, e1, w⟩ := s.val e
      exact ⟨v, e1, q.ok rr w⟩
    | no => rw [e] at q; exact q.elim
    | own l => rw [e] at q; exact q.elim
    | self c fs => rw [e] at q; exact q.elim
    | clo b σ => rw [e] at q; exact q.elim
theorem s_varV {r : Rec} {i : Nat} {x : Str} {pos : Pos} (hN : X.N[i]? = some x) (hv : Vis X.env.scope x) (hd : (x == ("__debug__" : Str)) = false) (hcd : (x == ("__classdict__" : Str)) = false) :
    PE X (.Name x pos) (rdW Γ W fun σ h => evV r σ (.var i) h) := pe_weaken (pe_var hN hv hd hcd) fun σv H Q p => by
  obtain ⟨Z, φ, h, σ, rr, s, q⟩ := p
  have q : Post Γ W σv (TW Γ) Z φ H (match σ[i]? with | some (.own l) => some (.ok (.vl l) h) | some (.val t) => some (.ok t h) | _ => none) Q := q
  cases e : σ[i]? with
  | none => rw [e] at q; exact q.elim
  | some x => cases x with
    | val t =>
      rw [e] at q
      obtain ⟨v, e1, w⟩ := s.val e
      exact ⟨v, e1, q.ok rr (.inl w)⟩
    | no => rw [e] at q; exact q.elim
    | own l =>
      rw [e] at q
      obtain ⟨o, e1, p, vs, rfl, hp, w, nz, np⟩ := s.at_ i _ e
      exact ⟨.ref p, e1, q.ok rr (.inr ⟨p, vs, l, rfl, rfl, hp, w, nz, np⟩)⟩
    | self c fs => rw [e] at q; exact q.elim
    | clo b σ => rw [e] at q; exact q.elim
theorem s_con {e : Expr} {v : V} {t : T} {ev : Sl → Hh → Ro T} (he : PE X e (tC v)) (hr : ∀ Z φ H, TV Γ Z φ H v t) (hev : ∀ σ h, ev σ h = some (.ok t h)) : PE X e (rdE Γ W ev) := pe_weaken he fun σv H Q p => by
  obtain ⟨Z, φ, h, σ, rr, s, q⟩ := p
  rw [hev] at q
  exact q.ok rr (hr _ _ _)
theorem s_toW {e : Expr} {ev : Sl → Hh → Ro T} (he : PE X e (rdE Γ W ev)) : PE X e (rdW Γ W ev) := pe_weaken he fun σv H Q p => by
  obtain ⟨Z, φ, h, σ, rr, s, q⟩ := p
  refine ⟨Z, φ, h, σ, rr, s, ?_⟩
  cases e : ev σ h with
  | none => rw [e] at q; exact q
  | some x => cases x with
    | ok a h => rw [e] at q; exact fun Z2 φ2 H2 b l r w => q Z2 φ2 H2 b l r (.inl w)
    | ex c fs h => rw [e] at q; exact q

/-! ### two operands -/
/-- what is known at an operation -/
def At2 (Γ : Gam) (W : WX) (σv : L2.St) {α β : Type} (rel : (Addr → Prop) → List Addr → Hp → β → α → Prop) (F : T → T → Hh → Ro α) (Q : β → Hp → Prop) (x y : V) (H : Hp) : Prop :=
  ∃ (Z : Addr → Prop) (φ : List Addr) (h : Hh) (t u : T), R Γ Z φ H h ∧ TW Γ Z φ H x t ∧ TW Γ Z φ H y u ∧ Post Γ W σv rel Z φ H (F t u h) Q
theorem at2 {α β : Type} {rel : (Addr → Prop) → List Addr → Hp → β → α → Prop} {F : T → T → Hh → Ro α} {Q : β → Hp → Prop} {e1 e2 : Sl → Hh → Ro T}
    (p : rd Γ W rel (fun σ h => Ro.bd (e1 σ h) fun x h => Ro.bd (e2 σ h) fun y h => F x y h) σv H Q) :
    rdW Γ W e1 σv H fun x H1 => rdW Γ W e2 σv H1 fun y H2 => At2 Γ W σv rel F Q x y H2 := by
  refine (rd_bd (rel := TW Γ) p).mono fun x H1 ⟨Z1, φ1, h1, σ, t, r1, s1, w1, q1⟩ => ?_
  refine ⟨Z1, φ1, h1, σ, r1, s1, (Post.bd (rel := TW Γ) q1).mono fun y H2 ⟨Z2, φ2, h2, u, le, r2, w2, q2⟩ => ?_⟩
  exact ⟨Z2, φ2, h2, t, u, r2, w1.mono r1 le, w2, q2⟩

/-- what an operand is, by the list that it is read as -/
theorem seq_of (r : R Γ Z φ H h) {v : V} {t : T} {k : Bool} {l : List T} (w : TW Γ Z φ H v t) (e : seqOf h t = some (k, l)) :
    ∃ (a : Addr) (vs : List V), v = .ref a ∧ TVs Γ Z φ H vs l ∧ ((k = true ∧ TV Γ Z φ H (.ref a) (.tup l) ∧ SqT Γ.K H a vs) ∨ (k = false ∧ H a = some (.lst vs))) := by
  rcases w with w | ⟨p, vs, l', rfl, rfl, hp, rr, _, _⟩
  · cases w with
    | tup x y => cases e; exact ⟨_, _, rfl, y, .inl ⟨rfl, .tup x y, x.sq⟩⟩
    | ptu x y => cases e; exact ⟨_, _, rfl, y, .inl ⟨rfl, .tup x.rt y, (x.rt (Γ := Γ)).sq⟩⟩
    | lst x y => cases e; exact ⟨_, _, rfl, y, .inr ⟨rfl, x.2⟩⟩
    | ref x =>
      have e : (match h[_]? with | some (MO.lst l) => some (false, l) | _ => none) = some (k, l) := e
      split at e
      · rename_i l2 hl
        cases e
        have m := r.ok _ _ _ hl x
        cases m with
        | lst hm rm => exact ⟨_, _, rfl, rm, .inr ⟨rfl, hm⟩⟩
      · cases e
    | _ => cases e
  · cases e
    exact ⟨p, vs, rfl, rr, .inr ⟨rfl, hp⟩⟩
/-- .. as it is only read -/
theorem seq_sq (r : R Γ Z φ H h) {v : V} {t : T} {k : Bool} {l : List T} (w : TW Γ Z φ H v t) (e : seqOf h t = some (k, l)) :
    ∃ (a : Addr) (vs : List V), v = .ref a ∧ TVs Γ Z φ H vs l ∧ ((k = true ∧ SqT Γ.K H a vs) ∨ (k = false ∧ SqL Γ.K H a vs)) := by
  obtain ⟨a, vs, e1, rr, c⟩ := seq_of r w e
  refine ⟨a, vs, e1, rr, ?_⟩
  rcases c with ⟨k1, _, s⟩ | ⟨k1, s⟩
  · exact .inl ⟨k1, s⟩
  · exact .inr ⟨k1, SqL.of s⟩
theorem seq_F {v : V} {t : T} {k : Bool} {l : List T} (w : TW Γ Z φ H v t) (e : seqF t = some (k, l)) :
    ∃ (a : Addr) (vs : List V), v = .ref a ∧ TVs Γ Z φ H vs l ∧ ((k = true ∧ SqT Γ.K H a vs) ∨ (k = false ∧ SqL Γ.K H a vs)) := by
  rcases w with w | ⟨p, vs, l', rfl, rfl, hp, rr, _, _⟩
  · cases w with
    | tup x y => cases e; exact ⟨_, _, rfl, y, .inl ⟨rfl, x.sq⟩⟩
    | ptu x y => cases e; exact ⟨_, _, rfl, y, .inl ⟨rfl, (x.rt (Γ := Γ)).sq⟩⟩
    | lst x y => cases e; exact ⟨_, _, rfl, y, .inr ⟨rfl, x.sq⟩⟩
    | frl x y => cases e; exact ⟨_, _, rfl, y, .inr ⟨rfl, x.sq⟩⟩
    | _ => cases e
  · cases e
    exact ⟨p, vs, rfl, rr, .inr ⟨rfl, SqL.of hp⟩⟩
theorem tw_int {v : V} {i : Int} (w : TW Γ Z φ H v (.int i)) : v = .int i := by
  rcases w with w | ⟨_, _, _, _, e, _⟩
  · cases w; rfl
  · cases e
theorem tw_str {v : V} {i : Str} (w : TW Γ Z φ H v (.str i)) : v = .str i := by
  rcases w with w | ⟨_, _, _, _, e, _⟩
  · cases w; rfl
  · cases e
theorem tw_bl {v : V} {i : Bool} (w : TW Γ Z φ H v (.bl i)) : v = .bl i := by
  rcases w with w | ⟨_, _, _, _, e, _⟩
  · cases w; rfl
  · cases e
theorem tw_non {v : V} (w : TW Γ Z φ H v .non) : v = .non := by
  rcases w with w | ⟨_, _, _, _, e, _⟩
  · cases w; rfl
  · cases e
/-- a binary operation whose answer leans on values alone -/
def OpB (Γ : Gam) (X : Cx) (f : Value → Value → Sem Value) (F : T → T → Hh → Option T) : Prop :=
  ∀ (pins : List (Addr × Obj)) (s : Shared) (σ : L2.St) (H : Hp) (x y : V) (v u : Value) (Z : Addr → Prop) (φ : List Addr) (h : Hh) (t1 t2 t : T) (Q : VK), Inv X pins σ H s → RelV x v → RelV y u →
    R Γ Z φ H h → TW Γ Z φ H x t1 → TW Γ Z φ H y t2 → F t1 t2 h = some t → (∀ (Z' : Addr → Prop) (φ' : List Addr) (H' : Hp) (b : V), Le Z φ H Z' φ' H' → R Γ Z' φ' H' h → TV Γ Z' φ' H' b t → Q b H') →
    wpAny (model X.prog X.w) X.A (f v u) (EP X pins σ Q) X.xe s
theorem inv_of {pins : List (Addr × Obj)} {s : Shared} {σ : L2.St} (I : Inv X pins σ H s) : True := trivial
theorem mulOk_C {i j : Int} (e : mulOk i j = true) : CMul i j := by
  unfold mulOk at e
  rw [Bool.or_eq_true, Bool.and_eq_true, Bool.and_eq_true, decide_eq_true_eq, decide_eq_true_eq, decide_eq_true_eq, decide_eq_true_eq] at e
  exact e
theorem ob_int {o : Bop} {f : Value → Value → Sem Value} {C : Int → Int → Prop} {g : Int → Int → Int} (ho : OpR X f (rI C fun i j => .int (g i j)))
    {i j : Int} {pins : List (Addr × Obj)} {s : Shared} {σ : L2.St} {H : Hp} {x y : V} {v u : Value} {Z : Addr → Prop} {φ : List Addr} {h : Hh} {Q : VK} (I : Inv X pins σ H s) (rx : RelV x v) (ry : RelV y u)
    (r : R Γ Z φ H h) (wx : TW Γ Z φ H x (.int i)) (wy : TW Γ Z φ H y (.int j)) (hc : C i j) (q : ∀ (Z' : Addr → Prop) (φ' : List Addr) (H' : Hp) (b : V), Le Z φ H Z' φ' H' → R Γ Z' φ' H' h → TV Γ Z' φ' H' b (.int (g i j)) → Q b H') :
    wpAny (model X.prog X.w) X.A (f v u) (EP X pins σ Q) X.xe s := by
  have ex := tw_int wx
  have ey := tw_int wy
  subst ex ey
  exact ho pins s σ H _ _ v u Q I rx ry ⟨i, j, rfl, rfl, hc, q Z φ H _ Le.refl r (.int _)⟩

theorem ob_intOp {o : Bop} {f : Value → Value → Sem Value} {C : Int → Int → Prop} {g : Int → Int → Int} {k : Int → Int → Option T} (ho : OpR X f (rI C fun i j => .int (g i j))) (hk : ∀ i j t, k i j = some t → C i j ∧ t = .int (g i j)) :
    OpB Γ X f (fun a b _ => intOp k a b) := by
  intro pins s σ H x y v u Z φ h t1 t2 t Q I rx ry r wx wy e q
  cases t1 with
  | int i => cases t2 with
    | int j =>
      have e : k i j = some t := e
      obtain ⟨hc, rfl⟩ := hk i j t e
      exact ob_int (o := o) ho I rx ry r wx wy hc q
    | _ => cases e
  | _ => cases e
theorem ob_sub : OpB Γ X (binaryOp .Sub) (fun a b h => binT .sub h a b) :=
  ob_intOp (o := .sub) (C := fun _ _ => True) (g := fun i j => i - j) (fun pins s σ H x y v u Q I rx ry ⟨i, j, e1, e2, _, q⟩ => op_sub pins s σ H x y v u Q I rx ry ⟨i, j, e1, e2, q⟩) fun i j t e => ⟨trivial, by cases e; rfl⟩
theorem ob_fdiv : OpB Γ X (binaryOp .FloorDiv) (fun a b h => binT .fdiv h a b) :=
  ob_intOp (o := .fdiv) (C := CDiv) (g := fun i j => i / j) op_fdiv fun i j t e => by
    have e : (if decide (0 < j) && decide (j < 1073741824) then some (T.int (i / j)) else none) = some t := e
    split at e
    · rename_i hc
      rw [Bool.and_eq_true, decide_eq_true_eq, decide_eq_true_eq] at hc
      cases e; exact ⟨hc, rfl⟩
    · cases e
theorem ob_mod : OpB Γ X (binaryOp .Mod) (fun a b h => binT .mod h a b) :=
  ob_intOp (o := .mod) (C := fun _ j => 0 < j) (g := fun i j => i % j) op_mod fun i j t e => by
    have e : (if decide (0 < j) then some (T.int (i % j)) else none) = some t := e
    split at e
    · rename_i hc
      rw [decide_eq_true_eq] at hc
      cases e; exact ⟨hc, rfl⟩
    · cases e
theorem ob_pow : OpB Γ X (binaryOp .Pow) (fun a b h => binT .pow h a b) :=
  ob_intOp (o := .pow) (C := CPow) (g := fun i j => i ^ j.toNat) op_pow fun i j t e => by
    have e : (if decide (0 ≤ j) && decide (j ≤ 1000) && decide (i.natAbs < 2 ^ 64) then some (T.int (i ^ j.toNat)) else none) = some t := e
    split at e
    · rename_i hc
      rw [Bool.and_eq_true, Bool.and_eq_true, decide_eq_true_eq, decide_eq_true_eq, decide_eq_true_eq] at hc
      cases e; exact ⟨⟨hc.1.1, by omega, hc.2⟩, rfl⟩
    · cases e
theorem ob_addSeq (hK : X.K = Γ.K) {pins : List (Addr × Obj)} {s : Shared} {σ : L2.St} {H : Hp} {x y : V} {v u : Value} {Z : Addr → Prop} {φ : List Addr} {h : Hh} {t1 t2 t : T} {Q : VK} (I : Inv X pins σ H s) (rx : RelV x v) (ry : RelV y u)
    (r : R Γ Z φ H h) (wx : TW Γ Z φ H x t1) (wy : TW Γ Z φ H y t2)
    (e : (match seqOf h t1, seqOf h t2 with
      | some (true, l), some (true, m) => if decide (l.length + m.length ≤ big) then some (.tup (l ++ m)) else none
      | some (false, l), some (false, m) => if decide (l.length + m.length ≤ big) then some (.lst (l ++ m)) else none
      | _, _ => none) = some t)
    (q : ∀ (Z' : Addr → Prop) (φ' : List Addr) (H' : Hp) (b : V), Le Z φ H Z' φ' H' → R Γ Z' φ' H' h → TV Γ Z' φ' H' b t → Q b H') :
    wpAny (model X.prog X.w) X.A (binaryOp .Add v u) (EP X pins σ Q) X.xe s := by
  split at e
  · rename_i l m e1 e2
    split at e
    · rename_i hc
      rw [decide_eq_true_eq] at hc
      cases e
      obtain ⟨a, vs, rfl, r1, c1⟩ := seq_of r wx e1
      obtain ⟨b, ws, rfl, r2, c2⟩ := seq_of r wy e2
      rcases c1 with ⟨_, h1, c1⟩ | ⟨k, _⟩
      rcases c2 with ⟨_, h2, c2⟩ | ⟨k, _⟩
      · refine op_catA pins s σ H _ _ v u Q I rx ry ⟨a, b, vs, ws, rfl, rfl, hK ▸ c1, hK ▸ c2, by rw [r1.length, r2.length]; exact big_lt hc, fun z => ?_, fun z z2 => ?_, fun _ _ p hp => ?_⟩
        · subst z
          cases r1
          exact q _ _ _ _ Le.refl r h2
        · subst z2
          cases r2
          rw [List.append_nil] at q
          exact q _ _ _ _ Le.refl r h1
        · exact q _ _ _ _ (Le.new hp) (r.new hp) (TV.newTup r hp (r1.app r2))
      · cases k
      · cases k
    · cases e
  · rename_i l m e1 e2
    split at e
    · rename_i hc
      rw [decide_eq_true_eq] at hc
      cases e
      obtain ⟨a, vs, rfl, r1, c1⟩ := seq_of r wx e1
      obtain ⟨b, ws, rfl, r2, c2⟩ := seq_of r wy e2
      rcases c1 with ⟨k, _⟩ | ⟨_, c1⟩
      · cases k
      rcases c2 with ⟨k, _⟩ | ⟨_, c2⟩
      · cases k
      refine op_cat pins s σ H _ _ v u Q I rx ry ⟨a, b, vs, ws, rfl, rfl, c1, c2, by rw [r1.length, r2.length]; exact big_lt hc, fun p hp => ?_⟩
      exact q _ _ _ _ (Le.new hp) (r.new hp) (TV.newLst r hp (r1.app r2))
    · cases e
  · cases e
theorem ob_add (hK : X.K = Γ.K) : OpB Γ X (binaryOp .Add) (fun a b h => binT .add h a b) := by
  intro pins s σ H x y v u Z φ h t1 t2 t Q I rx ry r wx wy e q
  have e : addT h t1 t2 = some t := e
  cases t1 with
  | int i => cases t2 with
    | int j =>
      cases e
      have ex := tw_int wx
      have ey := tw_int wy
      subst ex ey
      exact op_add pins s σ H _ _ v u Q I rx ry ⟨i, j, rfl, rfl, q Z φ H _ Le.refl r (.int _)⟩
    | _ => cases e
  | str i => cases t2 with
    | str j =>
      have e : (if decide (i.length + j.length ≤ big) then some (T.str (i ++ j)) else none) = some t := e
      split at e
      · rename_i hc
        rw [decide_eq_true_eq] at hc
        cases e
        have ex := tw_str wx
        have ey := tw_str wy
        subst ex ey
        exact op_add_str pins s σ H _ _ v u Q I rx ry ⟨i, j, rfl, rfl, big_lt hc, q Z φ H _ Le.refl r (.str _)⟩
      · cases e
    | _ => cases e
  | tup l => exact ob_addSeq hK I rx ry r wx wy e q
  | ptu l => exact ob_addSeq hK I rx ry r wx wy e q
  | lst l => exact ob_addSeq hK I rx ry r wx wy e q
  | vl l => exact ob_addSeq hK I rx ry r wx wy e q
  | ref a => exact ob_addSeq hK I rx ry r wx wy e q
  | _ => cases e
theorem smallI_iff {i : Int} (h : smallI i = true) : -(2 ^ 62) ≤ i ∧ i < 2 ^ 62 := by
  unfold smallI at h
  rw [Bool.and_eq_true, decide_eq_true_eq, decide_eq_true_eq] at h
  exact h
theorem ob_mulSeq (hK : X.K = Γ.K) {pins : List (Addr × Obj)} {s : Shared} {σ : L2.St} {H : Hp} {x y : V} {v u : Value} {Z : Addr → Prop} {φ : List Addr} {h : Hh} {t1 t : T} {k : Int} {Q : VK} (I : Inv X pins σ H s) (rx : RelV x v) (ry : RelV y u)
    (r : R Γ Z φ H h) (wx : TW Γ Z φ H x t1) (wy : TW Γ Z φ H y (.int k))
    (e : (match seqOf h t1 with
      | some (false, l) => if smallI k && decide (l.length * k.toNat ≤ big) then some (.lst (List.replicate k.toNat l).flatten) else none
      | some (true, l) => if decide (2 ≤ k) && decide (k ≤ 1000) && decide (l.length ≤ 1000) && !l.isEmpty then some (.tup (List.replicate k.toNat l).flatten) else none
      | none => none) = some t)
    (q : ∀ (Z' : Addr → Prop) (φ' : List Addr) (H' : Hp) (b : V), Le Z φ H Z' φ' H' → R Γ Z' φ' H' h → TV Γ Z' φ' H' b t → Q b H') :
    wpAny (model X.prog X.w) X.A (binaryOp .Mult v u) (EP X pins σ Q) X.xe s := by
  have ey := tw_int wy
  subst ey
  split at e
  · rename_i l e1
    split at e
    · rename_i hc
      rw [Bool.and_eq_true, decide_eq_true_eq] at hc
      have hs := smallI_iff hc.1
      cases e
      obtain ⟨a, vs, rfl, r1, c1⟩ := seq_of r wx e1
      rcases c1 with ⟨k, _⟩ | ⟨_, c1⟩
      · cases k
      refine op_rep pins s σ H _ _ v u Q I rx ry ⟨a, k, vs, rfl, rfl, c1, by omega, by omega, by rw [r1.length]; exact big_lt hc.2, fun p hp => ?_⟩
      exact q _ _ _ _ (Le.new hp) (r.new hp) (TV.newLst r hp (r1.rep _))
    · cases e
  · rename_i l e1
    split at e
    · rename_i hc
      rw [Bool.and_eq_true, Bool.and_eq_true, Bool.and_eq_true, decide_eq_true_eq, decide_eq_true_eq, decide_eq_true_eq] at hc
      obtain ⟨⟨⟨h1, h2⟩, h3⟩, h4⟩ := hc
      cases e
      obtain ⟨a, vs, rfl, r1, c1⟩ := seq_of r wx e1
      rcases c1 with ⟨_, _, c1⟩ | ⟨k, _⟩
      · refine op_repT pins s σ H _ _ v u Q I rx ry ⟨a, k, vs, rfl, rfl, hK ▸ c1, fun z => ?_, h1, h2, by rw [r1.length]; exact h3, fun p hp => ?_⟩
        · subst z; cases r1; simp at h4
        · exact q _ _ _ _ (Le.new hp) (r.new hp) (TV.newTup r hp (r1.rep _))
      · cases k
    · cases e
  · cases e
theorem ob_mul (hK : X.K = Γ.K) : OpB Γ X (binaryOp .Mult) (fun a b h => binT .mul h a b) := by
  intro pins s σ H x y v u Z φ h t1 t2 t Q I rx ry r wx wy e q
  have e : mulT h t1 t2 = some t := e
  cases t2 with
  | int k => cases t1 with
    | int i =>
      have e : (if mulOk i k then some (T.int (i * k)) else none) = some t := e
      split at e
      · rename_i hc
        cases e
        exact ob_int (o := .mul) op_mul I rx ry r wx wy (mulOk_C hc) q
      · cases e
    | tup l => exact ob_mulSeq hK I rx ry r wx wy e q
    | ptu l => exact ob_mulSeq hK I rx ry r wx wy e q
    | lst l => exact ob_mulSeq hK I rx ry r wx wy e q
    | vl l => exact ob_mulSeq hK I rx ry r wx wy e q
    | ref a => exact ob_mulSeq hK I rx ry r wx wy e q
    | _ => cases e
  | _ => cases e

/-! ### data -/
mutual
def toD : T → PyData
  | .bl b => .bool b
  | .int i => .int i
  | .str x => .str x
  | .tup l => .tuple (toDs l)
  | .ptu l => .tuple (toDs l)
  | .lst l => .list (toDs l)
  | _ => .none
def toDs : List T → List PyData
  | [] => []
  | t :: r => toD t :: toDs r
end
mutual
theorem eqv_toD : ∀ (n m : Nat) (a b : T), okD n a = true → okD m b = true → PyData.eqv (toD a) (toD b) = eqB a b
  | n, m, .non, b, _, hb => by cases b <;> first | rfl | (cases m <;> simp [okD] at hb)
  | n, m, .bl _, b, _, hb => by cases b <;> first | rfl | (cases m <;> simp [okD] at hb)
  | n, m, .int _, b, _, hb => by cases b <;> first | rfl | (cases m <;> simp [okD] at hb)
  | n, m, .str _, b, _, hb => by cases b <;> first | rfl | (cases m <;> simp [okD] at hb)
  | 0, m, .tup l, b, ha, _ => by simp [okD] at ha
  | 0, m, .ptu l, b, ha, _ => by simp [okD] at ha
  | 0, m, .lst l, b, ha, _ => by simp [okD] at ha
  | n + 1, m, .tup l, b, ha, hb => by
    cases b with
    | tup k => cases m with
      | zero => simp [okD] at hb
      | succ m => exact eqv_toDs n m l k ha hb
    | ptu k => cases m with
      | zero => simp [okD] at hb
      | succ m => exact eqv_toDs n m l k ha hb
    | _ => first | rfl | (cases m <;> simp [okD] at hb)
  | n + 1, m, .ptu l, b, ha, hb => by
    cases b with
    | tup k => cases m with
      | zero => simp [okD] at hb
      | succ m => exact eqv_toDs n m l k ha hb
    | ptu k => cases m with
      | zero => simp [okD] at hb
      | succ m => exact eqv_toDs n m l k ha hb
    | _ => first | rfl | (cases m <;> simp [okD] at hb)
  | n + 1, m, .lst l, b, ha, hb => by
    cases b with
    | lst k => cases m with
      | zero => simp [okD] at hb
      | succ m => exact eqv_toDs n m l k ha hb
    | _ => first | rfl | (cases m <;> simp [okD] at hb)
  | n, _, .frl _, _, ha, _ => by cases n <;> simp [okD] at ha
  | n, _, .ins _ _, _, ha, _ => by cases n <;> simp [okD] at ha
  | n, _, .exc _ _, _, ha, _ => by cases n <;> simp [okD] at ha
  | n, _, .ref _, _, ha, _ => by cases n <;> simp [okD] at ha
  | n, _, .cls _, _, ha, _ => by cases n <;> simp [okD] at ha
  | n, _, .fn _, _, ha, _ => by cases n <;> simp [okD] at ha
  | n, _, .ty _, _, ha, _ => by cases n <;> simp [okD] at ha
  | n, _, .nim, _, ha, _ => by cases n <;> simp [okD] at ha
theorem eqv_toDs : ∀ (n m : Nat) (a b : List T), okDs n a = true → okDs m b = true → PyData.eqvAll (toDs a) (toDs b) = eqBs a b
  | n, m, [], [], _, _ => by simp [toDs, eqBs, PyData.eqvAll]
  | n, m, [], _ :: _, _, _ => by simp [toDs, eqBs, PyData.eqvAll]
  | n, m, _ :: _, [], _, _ => by simp [toDs, eqBs, PyData.eqvAll]
  | n, m, x :: xs, y :: ys, ha, hb => by
    simp only [okDs, Bool.and_eq_true] at ha hb
    simp only [toDs, eqBs, PyData.eqvAll]
    rw [eqv_toD n m x y ha.1 hb.1, eqv_toDs n m xs ys ha.2 hb.2]
end
mutual
theorem plain_toD : ∀ (n : Nat) (a : T), okD n a = true → (toD a).plain = true ∧ (toD a).depth ≤ n
  | n, .non, _ => ⟨by simp [toD, PyData.plain], by simp [toD, PyData.depth]⟩
  | n, .bl _, _ => ⟨by simp [toD, PyData.plain], by simp [toD, PyData.depth]⟩
  | n, .int _, _ => ⟨by simp [toD, PyData.plain], by simp [toD, PyData.depth]⟩
  | n, .str _, _ => ⟨by simp [toD, PyData.plain], by simp [toD, PyData.depth]⟩
  | 0, .tup l, ha => by simp [okD] at ha
  | 0, .ptu l, ha => by simp [okD] at ha
  | 0, .lst l, ha => by simp [okD] at ha
  | n + 1, .tup l, ha => by
    obtain ⟨h1, h2⟩ := plain_toDs n l ha
    simp only [toD, PyData.plain, PyData.depth]
    exact ⟨h1, Nat.succ_le_succ h2⟩
  | n + 1, .ptu l, ha => by
    obtain ⟨h1, h2⟩ := plain_toDs n l ha
    simp only [toD, PyData.plain, PyData.depth]
    exact ⟨h1, Nat.succ_le_succ h2⟩
  | n + 1, .lst l, ha => by
    obtain ⟨h1, h2⟩ := plain_toDs n l ha
    simp only [toD, PyData.plain, PyData.depth]
    exact ⟨h1, Nat.succ_le_succ h2⟩
  | n, .frl _, ha => by cases n <;> simp [okD] at ha
  | n, .ins _ _, ha => by cases n <;> simp [okD] at ha
  | n, .exc _ _, ha => by cases n <;> simp [okD] at ha
  | n, .ref _, ha => by cases n <;> simp [okD] at ha
  | n, .cls _, ha => by cases n <;> simp [okD] at ha
  | n, .fn _, ha => by cases n <;> simp [okD] at ha
  | n, .ty _, ha => by cases n <;> simp [okD] at ha
  | n, .nim, ha => by cases n <;> simp [okD] at ha
theorem plain_toDs : ∀ (n : Nat) (a : List T), okDs n a = true → PyData.plainAll (toDs a) = true ∧ PyData.depthAll (toDs a) ≤ n
  | n, [], _ => ⟨by simp [toDs, PyData.plainAll], by simp [toDs, PyData.depthAll]⟩
  | n, x :: xs, ha => by
    simp only [okDs, Bool.and_eq_true] at ha
    obtain ⟨h1, h2⟩ := plain_toD n x ha.1
    obtain ⟨h3, h4⟩ := plain_toDs n xs ha.2
    simp only [toDs, PyData.plainAll, PyData.depthAll, Bool.and_eq_true]
    exact ⟨⟨h1, h3⟩, Nat.max_le.mpr ⟨h2, h4⟩⟩
end
mutual
theorem dp_of : ∀ {v : V} {t : T} (n : Nat), TV Γ Z φ H v t → okD n t = true → Dp Γ.K H v (toD t)
  | _, _, _, .non, _ => .non
  | _, _, _, .bl b, _ => .bl b
  | _, _, _, .int i, _ => .int i
  | _, _, _, .str x, _ => .str x
  | _, _, 0, .tup x y, ha => by simp [okD] at ha
  | _, _, 0, .ptu x y, ha => by simp [okD] at ha
  | _, _, 0, .lst x y, ha => by simp [okD] at ha
  | _, _, n + 1, .tup x y, ha => .tup x.sq (dps_of n y ha)
  | _, _, n + 1, .ptu x y, ha => .tup (x.rt (Γ := Γ)).sq (dps_of n y ha)
  | _, _, n + 1, .lst x y, ha => .lst x.sq (dps_of n y ha)
  | _, _, n, .frl _ _, ha => by cases n <;> simp [okD] at ha
  | _, _, n, .ins _ _ _, ha => by cases n <;> simp [okD] at ha
  | _, _, n, .ref _, ha => by cases n <;> simp [okD] at ha
  | _, _, n, .cls _, ha => by cases n <;> simp [okD] at ha
  | _, _, n, .fn _, ha => by cases n <;> simp [okD] at ha
  | _, _, n, .ty _, ha => by cases n <;> simp [okD] at ha
theorem dps_of : ∀ {v : List V} {t : List T} (n : Nat), TVs Γ Z φ H v t → okDs n t = true → DpAll Γ.K H v (toDs t)
  | _, _, _, .nil, _ => .nil
  | _, _, n, .cons x y, ha => by
    simp only [okDs, Bool.and_eq_true] at ha
    exact .cons (dp_of n x ha.1) (dps_of n y ha.2)
end
/-- .. looked at -/
theorem dp_view (r : R Γ Z φ H h) {v : V} {t : T} {n : Nat} (w : TW Γ Z φ H v t) (ha : okD n (view h t) = true) : Dp Γ.K H v (toD (view h t)) := by
  rcases w with w | ⟨p, vs, l, rfl, rfl, hp, rr, _, _⟩
  · cases w with
    | ref x =>
      rename_i a m
      cases e : h[m]? with
      | none =>
        have e2 : view h (.ref m) = .ref m := by simp only [view, e]
        rw [e2] at ha
        cases n <;> simp [okD] at ha
      | some mo => cases mo with
        | lst l =>
          have e2 : view h (.ref m) = .lst l := by simp only [view, e]
          rw [e2] at ha ⊢
          have k := r.ok _ _ _ e x
          cases k with
          | lst hm rm => cases n with
            | zero => simp [okD] at ha
            | succ n => exact .lst (SqL.of hm) (dps_of n rm ha)
        | _ =>
          have e2 : view h (.ref m) = .ref m := by simp only [view, e]
          rw [e2] at ha
          cases n <;> simp [okD] at ha
    | non => exact dp_of (Z := Z) (φ := φ) n .non ha
    | bl b => exact dp_of (Z := Z) (φ := φ) n (.bl b) ha
    | int i => exact dp_of (Z := Z) (φ := φ) n (.int i) ha
    | str x => exact dp_of (Z := Z) (φ := φ) n (.str x) ha
    | tup x y => exact dp_of n (.tup x y) ha
    | ptu x y => exact dp_of n (.ptu x y) ha
    | lst x y => exact dp_of n (.lst x y) ha
    | frl x y => exact dp_of n (.frl x y) ha
    | ins x y z => exact dp_of n (.ins x y z) ha
    | exc x x2 y y2 z => exact dp_of n (.exc x x2 y y2 z) ha
    | cls c => exact dp_of (Z := Z) (φ := φ) n (.cls c) ha
    | fn c => exact dp_of (Z := Z) (φ := φ) n (.fn c) ha
    | ty c => exact dp_of (Z := Z) (φ := φ) n (.ty c) ha
  · cases n with
    | zero => simp [view, okD] at ha
    | succ n => exact .lst (SqL.of hp) (dps_of n rr ha)

/-- a comparison that keeps all -/
def CmB (Γ : Gam) (X : Cx) (op : CmpOp) (F : T → T → Hh → Option Bool) : Prop :=
  ∀ (pins : List (Addr × Obj)) (s : Shared) (σ : L2.St) (H : Hp) (x y : V) (v u : Value) (Z : Addr → Prop) (φ : List Addr) (h : Hh) (t1 t2 : T) (b : Bool) (Q : VK), Inv X pins σ H s → RelV x v → RelV y u →
    R Γ Z φ H h → TW Γ Z φ H x t1 → TW Γ Z φ H y t2 → F t1 t2 h = some b → Q (.bl b) H → wpAny (model X.prog X.w) X.A (compareOp op v u) (EP X pins σ Q) X.xe s
theorem eqT_some {a b : T} {k : Bool} (e : eqT a b = some k) : okD 8 a = true ∧ okD 8 b = true ∧ eqB a b = k := by
  unfold eqT at e
  split at e
  · rename_i hc
    rw [Bool.and_eq_true] at hc
    cases e
    exact ⟨hc.1, hc.2, rfl⟩
  · cases e
theorem room20 {A : Around} {n m k : Nat} (hu : A.units + 64 < cLine) (h : n ≤ 20) (h2 : m ≤ k) : A.units + n + min m k < cLine → True := fun _ => trivial
theorem cb_eq (hK : X.K = Γ.K) (hu : X.A.units + 64 < cLine) : CmB Γ X .Eq (fun a b h => cmpT .eq h a b) := by
  intro pins s σ H x y v u Z φ h t1 t2 b Q I rx ry r wx wy e q
  obtain ⟨h1, h2, h3⟩ := eqT_some (show eqT (view h t1) (view h t2) = some b from e)
  obtain ⟨as, r1⟩ := Dp.reads I _ _ _ (hK ▸ dp_view r wx h1) rx
  obtain ⟨bs, r2⟩ := Dp.reads I _ _ _ (hK ▸ dp_view r wy h2) ry
  have p1 := plain_toD 8 _ h1
  have p2 := plain_toD 8 _ h2
  refine PySem.SeqAt.eq_plain r1 r2 p1.1 p2.1 (by have := p1.2; omega) ?_
  rw [eqv_toD 8 8 _ _ h1 h2, h3]
  exact ⟨.bl b, H, I, rfl, q⟩
theorem cb_ne (hK : X.K = Γ.K) (hu : X.A.units + 64 < cLine) : CmB Γ X .NotEq (fun a b h => cmpT .ne h a b) := by
  intro pins s σ H x y v u Z φ h t1 t2 b Q I rx ry r wx wy e q
  have e : (eqT (view h t1) (view h t2)).map (!·) = some b := e
  cases e1 : eqT (view h t1) (view h t2) with
  | none => rw [e1] at e; cases e
  | some k =>
    rw [e1] at e
    cases e
    obtain ⟨h1, h2, h3⟩ := eqT_some e1
    obtain ⟨as, r1⟩ := Dp.reads I _ _ _ (hK ▸ dp_view r wx h1) rx
    obtain ⟨bs, r2⟩ := Dp.reads I _ _ _ (hK ▸ dp_view r wy h2) ry
    have p1 := plain_toD 8 _ h1
    have p2 := plain_toD 8 _ h2
    refine PySem.SeqAt.ne_plain r1 r2 p1.1 p2.1 (by have := p1.2; omega) ?_
    rw [eqv_toD 8 8 _ _ h1 h2, h3]
    exact ⟨.bl _, H, I, rfl, q⟩
theorem intsT_map : ∀ {l : List T} {is : List Int} {vs : List V}, intsT l = some is → TVs Γ Z φ H vs l → vs = is.map V.int
  | [], _, _, e, .nil => by cases e; rfl
  | .int i :: l, is, _, e, .cons x y => by
    have e : (intsT l).map (i :: ·) = some is := e
    cases e1 : intsT l with
    | none => rw [e1] at e; cases e
    | some js =>
      rw [e1] at e
      cases e
      cases x
      rw [intsT_map e1 y, List.map_cons]
  | .non :: _, _, _, e, _ => by cases e
  | .bl _ :: _, _, _, e, _ => by cases e
  | .str _ :: _, _, _, e, _ => by cases e
  | .tup _ :: _, _, _, e, _ => by cases e
  | .ptu _ :: _, _, _, e, _ => by cases e
  | .lst _ :: _, _, _, e, _ => by cases e
  | .frl _ :: _, _, _, e, _ => by cases e
  | .vl _ :: _, _, _, e, _ => by cases e
  | .ins _ _ :: _, _, _, e, _ => by cases e
  | .exc _ _ :: _, _, _, e, _ => by cases e
  | .ref _ :: _, _, _, e, _ => by cases e
  | .cls _ :: _, _, _, e, _ => by cases e
  | .fn _ :: _, _, _, e, _ => by cases e
  | .ty _ :: _, _, _, e, _ => by cases e
  | .nim :: _, _, _, e, _ => by cases e
theorem cb_ord {op : CmpOp} {f : Int → Int → Bool} {g : List Int → List Int → Option Bool} (ho : OpR X (compareOp op) (rI0 fun i j => .bl (f i j)))
    (ht : ∀ x y b, g x y = some b → ∀ (pins : List (Addr × Obj)) (s : Shared) (σ : L2.St) (H : Hp) (p q : Addr) (Q : VK), Inv X pins σ H s → SqT X.K H p (x.map V.int) → SqT X.K H q (y.map V.int) → Q (.bl b) H → wpAny (model X.prog X.w) X.A (compareOp op (.ref p) (.ref q)) (EP X pins σ Q) X.xe s) (hK : X.K = Γ.K) :
    CmB Γ X op (fun a b _ => ordT f g a b) := by
  intro pins s σ H x y v u Z φ h t1 t2 b Q I rx ry r wx wy e q
  cases t1 with
  | int i => cases t2 with
    | int j =>
      cases e
      have ex := tw_int wx
      have ey := tw_int wy
      subst ex ey
      exact ho pins s σ H _ _ v u Q I rx ry ⟨i, j, rfl, rfl, q⟩
    | _ => cases e
  | tup l => cases t2 with
    | tup m =>
      have e : (match intsT l with | some x => (match intsT m with | some y => g x y | none => none) | none => none) = some b := e
      cases e1 : intsT l with
      | none => rw [e1] at e; cases e
      | some a => cases e2 : intsT m with
        | none => rw [e1, e2] at e; cases e
        | some c =>
          rw [e1, e2] at e
          obtain ⟨p, vs, rfl, r1, c1⟩ := seq_of r wx (k := true) (l := l) rfl
          obtain ⟨p2, ws, rfl, r2, c2⟩ := seq_of r wy (k := true) (l := m) rfl
          rcases c1 with ⟨_, _, c1⟩ | ⟨k, _⟩
          rcases c2 with ⟨_, _, c2⟩ | ⟨k, _⟩
          · have z1 := intsT_map e1 r1
            have z2 := intsT_map e2 r2
            subst z1 z2
            cases rx
            cases ry
            exact ht a c b e pins s σ H p p2 Q I (hK ▸ c1) (hK ▸ c2) q
          · cases k
          · cases k
    | _ => cases e
  | _ => cases e
theorem cb_lt (hK : X.K = Γ.K) (hu : X.A.units + 64 < cLine) : CmB Γ X .Lt (fun a b h => cmpT .lt h a b) :=
  cb_ord op_lt (fun x y b e pins s σ H p q Q I h1 h2 k => by
    cases e
    exact op_ltT (by omega) pins s σ H (.ref p) (.ref q) _ _ Q I rfl rfl ⟨p, q, x, y, rfl, rfl, h1, h2, k⟩) hK
theorem cb_le (hK : X.K = Γ.K) : CmB Γ X .LtE (fun a b h => cmpT .le h a b) := cb_ord op_le (fun _ _ _ e => by cases e) hK
theorem cb_gt (hK : X.K = Γ.K) : CmB Γ X .Gt (fun a b h => cmpT .gt h a b) := cb_ord op_gt (fun _ _ _ e => by cases e) hK
theorem cb_ge (hK : X.K = Γ.K) : CmB Γ X .GtE (fun a b h => cmpT .ge h a b) := cb_ord op_ge (fun _ _ _ e => by cases e) hK
theorem tv_non {v : V} {t : T} (w : TW Γ Z φ H v t) : decide (v = .non) = (match t with | .non => true | _ => false) := by
  rcases w with w | ⟨p, vs, l, rfl, rfl, _⟩
  · cases w <;> rfl
  · rfl
theorem cb_is : CmB Γ X .Is (fun a b h => cmpT .is_ h a b) := by
  intro pins s σ H x y v u Z φ h t1 t2 b Q I rx ry r wx wy e q
  have e : isT false t1 t2 = some b := e
  cases t2 with
  | non =>
    have ey := tw_non wy
    subst ey
    refine op_isN pins s σ H _ _ v u Q I rx ry ⟨rfl, ?_⟩
    rw [tv_non wx]
    cases t1 <;> (cases e; exact q)
  | bl k => cases t1 with
    | bl j =>
      have ex := tw_bl wx
      have ey := tw_bl wy
      subst ex ey
      have e : some ((j == k) != false) = some b := e
      refine op_is_bl pins s σ H _ _ v u Q I rx ry ⟨j, k, rfl, rfl, ?_⟩
      cases e
      cases j <;> cases k <;> exact q
    | _ => cases e
  | _ => cases e
theorem cb_isn : CmB Γ X .IsNot (fun a b h => cmpT .isn h a b) := by
  intro pins s σ H x y v u Z φ h t1 t2 b Q I rx ry r wx wy e q
  have e : isT true t1 t2 = some b := e
  cases t2 with
  | non =>
    have ey := tw_non wy
    subst ey
    refine op_notN pins s σ H _ _ v u Q I rx ry ⟨rfl, ?_⟩
    rw [tv_non wx]
    cases t1 <;> (cases e; exact q)
  | bl k => cases t1 with
    | bl j =>
      have ex := tw_bl wx
      have ey := tw_bl wy
      subst ex ey
      have e : some ((j == k) != true) = some b := e
      refine op_isnot_bl pins s σ H _ _ v u Q I rx ry ⟨j, k, rfl, rfl, ?_⟩
      cases e
      cases j <;> cases k <;> exact q
    | _ => cases e
  | _ => cases e
theorem any_toD {n m : Nat} {a : T} (ha : okD n a = true) : ∀ (l : List T), okDs m l = true → ((toDs l).any fun z => PyData.eqv z (toD a)) = l.any fun z => eqB z a
  | [], _ => rfl
  | x :: xs, h => by
    simp only [okDs, Bool.and_eq_true] at h
    simp only [toDs, List.any_cons]
    rw [eqv_toD m n x a h.1 ha, any_toD ha xs h.2]
theorem in_data (hK : X.K = Γ.K) (hu : X.A.units + 64 < cLine) {neg : Bool} {pins : List (Addr × Obj)} {s : Shared} {σ : L2.St} {H : Hp} {x y : V} {v u : Value} {Z : Addr → Prop} {φ : List Addr} {h : Hh} {t1 t2 : T} {b : Bool} {Q : VK} (I : Inv X pins σ H s) (rx : RelV x v) (ry : RelV y u)
    (r : R Γ Z φ H h) (wx : TW Γ Z φ H x t1) (wy : TW Γ Z φ H y t2)
    (e : (match seqOf h t2 with | some (_, l) => if okD 8 t1 && okDs 7 l then some ((l.any fun z => eqB z t1) != neg) else none | none => none) = some b) (q : Q (.bl b) H) :
    wpAny (model X.prog X.w) X.A (compareOp (if neg then .NotIn else .In) v u) (EP X pins σ Q) X.xe s := by
  split at e
  · rename_i k l e1
    split at e
    · rename_i hc
      rw [Bool.and_eq_true] at hc
      have ev1 : okD 8 (view h t1) = true := by
        cases t1 <;> first | exact hc.1 | simp [okD] at hc
      have ev2 : view h t1 = t1 := by
        cases t1 <;> first | rfl | simp [okD] at hc
      obtain ⟨bs, r1⟩ := Dp.reads I _ _ _ (hK ▸ dp_view r wx ev1) rx
      rw [ev2] at r1
      obtain ⟨p, vs, rfl, rr, c⟩ := seq_sq r wy e1
      have p1 := plain_toD 8 _ hc.1
      have p2 := plain_toDs 7 _ hc.2
      have dl := dps_of 7 rr hc.2
      have hd : (if neg then !((toDs l).any fun z => PyData.eqv z (toD t1)) else (toDs l).any fun z => PyData.eqv z (toD t1)) = b := by
        rw [any_toD hc.1 l hc.2]
        cases e
        cases neg <;> cases (l.any fun z => eqB z t1) <;> rfl
      rcases c with ⟨_, c⟩ | ⟨_, c⟩
      · obtain ⟨as, r2⟩ := Dp.reads I _ _ _ (hK ▸ Dp.tup c dl) ry
        cases neg with
        | true => exact PySem.SeqAt.notIn_tuple_data r2 r1 p2.1 p1.1 (by have := p1.2; omega) ⟨.bl _, H, I, rfl, (show (!((toDs l).any fun z => PyData.eqv z (toD t1))) = b from hd) ▸ q⟩
        | false => exact PySem.SeqAt.in_tuple_data r2 r1 p2.1 p1.1 (by have := p1.2; omega) ⟨.bl _, H, I, rfl, (show ((toDs l).any fun z => PyData.eqv z (toD t1)) = b from hd) ▸ q⟩
      · obtain ⟨as, r2⟩ := Dp.reads I _ _ _ (hK ▸ Dp.lst c dl) ry
        cases neg with
        | true => exact PySem.SeqAt.notIn_list_data r2 r1 p2.1 p1.1 (by have := p1.2; omega) ⟨.bl _, H, I, rfl, (show (!((toDs l).any fun z => PyData.eqv z (toD t1))) = b from hd) ▸ q⟩
        | false => exact PySem.SeqAt.in_list_data r2 r1 p2.1 p1.1 (by have := p1.2; omega) ⟨.bl _, H, I, rfl, (show ((toDs l).any fun z => PyData.eqv z (toD t1)) = b from hd) ▸ q⟩
    · cases e
  · cases e
theorem cb_in (hK : X.K = Γ.K) (hu : X.A.units + 64 < cLine) : CmB Γ X .In (fun a b h => cmpT .in_ h a b) := by
  intro pins s σ H x y v u Z φ h t1 t2 b Q I rx ry r wx wy e q
  have e : inT false h t1 t2 = some b := e
  cases t2 with
  | str j => cases t1 with
    | str i =>
      have ex := tw_str wx
      have ey := tw_str wy
      subst ex ey
      refine op_in_str pins s σ H _ _ v u Q I rx ry ⟨i, j, rfl, rfl, ?_⟩
      have e : some ((!(Builtin.Str.occurrences j i 0 j.length 1).isEmpty) != false) = some b := e
      cases e
      rw [Bool.bne_false] at q
      exact q
    | _ => cases e
  | tup l => exact in_data (neg := false) hK hu I rx ry r wx wy e q
  | ptu l => exact in_data (neg := false) hK hu I rx ry r wx wy e q
  | lst l => exact in_data (neg := false) hK hu I rx ry r wx wy e q
  | vl l => exact in_data (neg := false) hK hu I rx ry r wx wy e q
  | ref l => exact in_data (neg := false) hK hu I rx ry r wx wy e q
  | _ => cases e
theorem cb_nin (hK : X.K = Γ.K) (hu : X.A.units + 64 < cLine) : CmB Γ X .NotIn (fun a b h => cmpT .nin h a b) := by
  intro pins s σ H x y v u Z φ h t1 t2 b Q I rx ry r wx wy e q
  have e : inT true h t1 t2 = some b := e
  cases t2 with
  | str j => cases t1 with
    | str i =>
      have ex := tw_str wx
      have ey := tw_str wy
      subst ex ey
      refine op_notin_str pins s σ H _ _ v u Q I rx ry ⟨i, j, rfl, rfl, ?_⟩
      have e : some ((!(Builtin.Str.occurrences j i 0 j.length 1).isEmpty) != true) = some b := e
      cases e
      rw [Bool.bne_true] at q
      exact q
    | _ => cases e
  | tup l => exact in_data (neg := true) hK hu I rx ry r wx wy e q
  | ptu l => exact in_data (neg := true) hK hu I rx ry r wx wy e q
  | lst l => exact in_data (neg := true) hK hu I rx ry r wx wy e q
  | vl l => exact in_data (neg := true) hK hu I rx ry r wx wy e q
  | ref l => exact in_data (neg := true) hK hu I rx ry r wx wy e q
  | _ => cases e

/-! ### truth -/
theorem tru_T (hK : X.K = Γ.K) {pins : List (Addr × Obj)} {s : Shared} {σ : L2.St} {H : Hp} {x : V} {v : Value} {Z : Addr → Prop} {φ : List Addr} {h : Hh} {t : T} {b : Bool} {Q : Bool → Hp → Prop} (I : Inv X pins σ H s) (rx : RelV x v)
    (r : R Γ Z φ H h) (wx : TW Γ Z φ H x t) (e : truT h t = some b) (q : Q b H) : wpAny (model X.prog X.w) X.A (truthy v) (TP X pins σ Q) X.xe s := by
  have sq : ∀ (w : (match seqOf h t with | some (_, l) => some (!l.isEmpty) | none => none) = some b), wpAny (model X.prog X.w) X.A (truthy v) (TP X pins σ Q) X.xe s := fun w => by
    split at w
    · rename_i k l e1
      obtain ⟨p, vs, rfl, rr, c⟩ := seq_sq r wx e1
      have el : (!vs.isEmpty) = b := by
        cases w
        cases rr <;> rfl
      refine tru_ok pins s σ H _ v Q I rx ⟨b, ?_, q⟩
      rcases c with ⟨_, c⟩ | ⟨_, c⟩
      · exact .inr (.inl ⟨vs, hK ▸ c, el.symm⟩)
      · exact .inl ⟨vs, hK ▸ c, el.symm⟩
    · cases w
  cases t with
  | non => cases e; have ex := tw_non wx; subst ex; exact tru_ok pins s σ H _ v Q I rx ⟨false, rfl, q⟩
  | bl k => cases e; have ex := tw_bl wx; subst ex; exact tru_ok pins s σ H _ v Q I rx ⟨b, rfl, q⟩
  | int k => cases e; have ex := tw_int wx; subst ex; exact tru_ok pins s σ H _ v Q I rx ⟨_, rfl, q⟩
  | str k =>
    have e : (if decide (k.length ≤ big) then some ((k.length : Int) != 0) else none) = some b := e
    split at e
    · rename_i hc
      rw [decide_eq_true_eq] at hc
      cases e; have ex := tw_str wx; subst ex; exact tru_ok pins s σ H _ v Q I rx ⟨_, ⟨big_lt hc, rfl⟩, q⟩
    · cases e
  | tup l => exact sq e
  | ptu l => exact sq e
  | lst l => exact sq e
  | vl l => exact sq e
  | ref l => exact sq e
  | _ => cases e
end
end Ev
end
section
set_option Elab.async false
set_option linter.all false
set_option maxRecDepth 100000
set_option maxHeartbeats 1000000
/-! Ev, part K: is a text the text of one of our trees? -/
namespace Ev
open PySem PySem.Spec PyProof.Rows L2

/-- the names' numbers; what the module's names stand for -/
structure Nms where
  nm : Nat → Str
  gn : Nat → Str
  gl : Nat → Option G

def all2 {α β : Type} (f : α → β → Bool) : List α → List β → Bool
  | [], [] => true
  | a :: as, b :: bs => f a b && all2 f as bs
  | _, _ => false

def visB (sc : Scope) (x : Str) : Bool := match sc.names.lookup x with
  | some .local => true
  | some .cell => true
  | some .free => true
  | _ => false
def locB (sc : Scope) (x : Str) : Bool := match sc.names.lookup x with
  | some .local => true
  | some .cell => true
  | _ => false
def lclB (sc : Scope) (x : Str) : Bool := match sc.names.lookup x with
  | some .local => true
  | _ => false
def glB (sc : Scope) (x : Str) : Bool := match sc.names.lookup x with
  | some .globalImplicit => true
  | _ => false
def dbgB (x : Str) : Bool := !(x == ("__debug__" : Str)) && !(x == ("__classdict__" : Str)) && !(x == ("__name__" : Str))
def ckVar (N : List Str) (sc : Scope) (x : Str) (i : Nat) : Bool := decide (N[i]? = some x) && visB sc x && dbgB x
def notStar : Expr → Bool
  | .Starred .. => false
  | _ => true
def noSuper : Expr → Bool
  | .Call (.Name id _) [] [] _ => !(id == ("super" : Str))
  | _ => true
def plainT : Expr → Bool
  | .UnaryOp .Not .. => false
  | .BoolOp .. => false
  | .IfExp .. => false
  | .Compare .. => false
  | _ => true
def noComp : Expr → Bool
  | .ListComp .. => false
  | .SetComp .. => false
  | .DictComp .. => false
  | _ => true
def noTup : Expr → Bool
  | .Tuple .. => false
  | _ => true
def noSet : Expr → Bool
  | .Set .. => false
  | _ => true
/-- iterables that for folds: displays -/
def noFold : Expr → Bool
  | .Set .. => false
  | .List .. => false
  | _ => true
def noSlice : Expr → Bool
  | .Slice .. => false
  | _ => true
def ckOp : Operator → Bop → Bool
  | .Add, .add => true
  | .Sub, .sub => true
  | .Mult, .mul => true
  | .FloorDiv, .fdiv => true
  | .Mod, .mod => true
  | .Pow, .pow => true
  | _, _ => false
def ckCmp : CmpOp → Cop → Bool
  | .Eq, .eq => true
  | .NotEq, .ne => true
  | .Lt, .lt => true
  | .LtE, .le => true
  | .Gt, .gt => true
  | .GtE, .ge => true
  | .Is, .is_ => true
  | .IsNot, .isn => true
  | .In, .in_ => true
  | .NotIn, .nin => true
  | _, _ => false
def ckCon : Expr → T → Bool
  | .Constant .none _ _, .non => true
  | .Constant (.bool a) _ _, .bl b => a == b
  | .Constant (.int a) _ _, .int b => decide (a = b)
  | .Constant (.str a) _ _, .str b => decide (a = b)
  | _, _ => false
def ckTgN (N : List Str) (sc : Scope) (e : Expr) (i : Nat) : Bool := match e with
  | .Name x _ => decide (N[i]? = some x) && locB sc x
  | _ => false
def ckTg (N : List Str) (sc : Scope) (e : Expr) (t : Tg) : Bool := match t with
  | .nm i => ckTgN N sc e i
  | .tup is => (match e with
    | .Tuple es _ _ => all2 (ckTgN N sc) es is
    | _ => false)
def isTupE : Expr → Bool
  | .Tuple .. => true
  | _ => false
def bopB (op : BoolOp) (k : Bool) : Bool := match op with
  | .And => k
  | .Or => !k
/-- an argument -/
def argB (f : Expr → CE → Bool) (e : Expr) (c : CE) : Bool := match e with
  | .Starred p _ => (match c with
    | .star a => f p a
    | _ => false)
  | e => f e c
/-- a part of an f-string -/
def partB (f : Expr → CE → Bool) (e : Expr) (c : CE) : Bool := match e, c with
  | .Constant (.str x) _ _, .con (.str y) => decide (x = y)
  | .FormattedValue p cv none _, .fval a none => decide (cv = -1) && f p a
  | _, _ => false
def optB (f : Expr → CE → Bool) (e : Option Expr) (c : CE) : Bool := match e with
  | some k => f k c
  | none => false
/-- a call's place: its method's name ends where it begins -/
def isBi (M : Nms) (g : Nat) (b : Bi) : Bool := match M.gl g with
  | some (.bi c) => decide (c = b)
  | _ => false

/-- no parameters -/
def noPs (ps : Arguments) : Bool := match ps with
  | ⟨[], [], none, [], [], none, []⟩ => true
  | _ => false
/-- the names of the t-th def that makes lambdas bear this mark among them -/
def lamNm (t : Nat) : Str := ⟨Array.replicate (t + 1) 10⟩
def hasOwn (sc : Scope) : Bool := sc.names.any fun y => decide (y.2 = .local) || decide (y.2 = .cell)
section
variable (M : Nms) (N : List Str)
mutual
/-- md: as a test; else as a value -/
def ck : Nat → Bool → Scope → Expr → CE → Bool
  | 0, _, _, _, _ => false
  | m + 1, md, sc, e, c => match c with
    | .var i => (match e with
      | .Name x _ => ckVar N sc x i
      | _ => false)
    | .con t => ckCon e t
    | .glob g => (match e with
      | .Name x _ => decide (x = M.gn g) && glB sc x && dbgB x
      | _ => false)
    | .bin o a b => (match e with
      | .BinOp p op q _ => ckOp op o && ck m false sc p a && ck m false sc q b
      | _ => false)
    | .neg a => (match e with
      | .UnaryOp .USub p _ => ck m false sc p a
      | _ => false)
    | .not a => (match e with
      | .UnaryOp .Not p _ => ck m md sc p a
      | _ => false)
    | .bop k l => (match e with
      | .BoolOp op es _ => bopB op k && !l.isEmpty && all2 (ck m md sc) es l
      | _ => false)
    | .ife c a b => (match e with
      | .IfExp p q r _ => ck m true sc p c && ck m md sc q a && ck m md sc r b
      | _ => false)
    | .cmp o a b => (match e with
      | .Compare p [op] [q] _ => ckCmp op o && ck m false sc p a && ck m false sc q b && noSet q
      | _ => false)
    | .cmp2 o o' a b d => (match e with
      | .Compare p [op, op'] [q, r] _ => ckCmp op o && ckCmp op' o' && ck m false sc p a && ck m false sc q b && ck m false sc r d && noSet r
      | _ => false)
    | .tup l => (match e with
      | .Tuple es _ _ => ckArgs m sc es l
      | _ => false)
    | .lst l => (match e with
      | .List es _ => ckArgs m sc es l
      | _ => false)
    | .star _ => false
    | .dct ks vs => (match e with
      | .Dict ks' vs' _ => all2 (optB (ck m false sc)) ks' ks && all2 (ck m false sc) vs' vs && decide (ks.length = vs.length) && decide (ks.length ≤ 15)
      | _ => false)
    | .sub a b => (match e with
      | .Subscript p q _ => noSlice q && ck m false sc p a && ck m false sc q b
      | _ => false)
    | .slc a lo hi => (match e with
      | .Subscript p (.Slice l h none _) _ => ck m false sc p a && ckO m sc l lo && ckO m sc h hi
      | _ => false)
    | .rev a => (match e with
      | .Subscript p (.Slice none none (some (.UnaryOp .USub (.Constant (.int i) _ _) _)) _) _ => decide (i = 1) && ck m false sc p a
      | _ => false)
    | .attr a f => (match e with
      | .Attribute p x _ => decide (x = M.nm f) && noSuper p && ck m false sc p a
      | _ => false)
    | .call f args kws => (match e with
      | .Call fe es ks cp => (match f with
        | .glob g => (match fe with
          | .Name x _ => decide (x = M.gn g) && glB sc x && dbgB x && ckCall m sc es ks args kws
          | _ => false)
        | .attr o n => (match fe with
          | .Attribute p x ap => decide (x = M.nm n) && noSuper p && ck m false sc p o && ckCall m sc es ks args kws && (es.all notStar) && decide (es.length + ks.length < 29) && (ap.endLine == cp.line)
          | _ => false)
        | f => false)
      | _ => false)
    | .comp el tg it ifs ws => (match e with
      | .ListComp el' [⟨tg', it', ifs', 0⟩] scope _ => hasOwn sc && blkC N sc scope (ws.map fun i => (N.getD i Str.empty, i)) && noFold it' && ckIt m sc (isTupE tg') it' it && ckTg N scope tg' tg && decide (ifs.length ≤ 1) && all2 (ck m true (relS scope sc)) ifs' ifs && ck m false (relS scope sc) el' el &&
        (match tg with | .nm i => ws.contains i | .tup is => is.all ws.contains)
      | _ => false)
    | .comp2 .. => false
    | .fmt l => (match e with
      | .JoinedStr es _ => all2 (partB (ck m false sc)) es l
      | _ => false)
    | .fval .. => false
    | .irng _ => false
    | .ienm _ => false
    | .izip _ _ => false
    | .lam g t b => (match e with
      | .Call (.Name x _) [.Lambda ps body scope _] [] _ => decide (x = M.gn g) && glB sc x && dbgB x && noPs ps && LamX.lamSB sc scope && hasOwn sc && decide (lamNm t ∈ N) && ck m false scope body b
      | _ => false)
    | .lcl _ => false
/-- arguments -/
def ckArgs : Nat → Scope → List Expr → List CE → Bool
  | 0, _, _, _ => false
  | m + 1, sc, es, l => all2 (argB (ck m false sc)) es l
def ckCall : Nat → Scope → List Expr → List Keyword → List CE → List (Nat × CE) → Bool
  | 0, _, _, _, _, _ => false
  | m + 1, sc, es, ks, args, kws => ckArgs m sc es args && all2 (fun (k : Keyword) (c : Nat × CE) => decide (k.arg = some (M.nm c.1)) && ck m false sc k.value c.2) ks kws && (es.all notStar || ks.isEmpty)
def ckO : Nat → Scope → Option Expr → Option CE → Bool
  | 0, _, _, _ => false
  | _ + 1, _, none, none => true
  | m + 1, sc, some e, some c => ck m false sc e c
  | _ + 1, _, _, _ => false
/-- what is walked; tt: to a tuple of names -/
def ckIt : Nat → Scope → Bool → Expr → CE → Bool
  | 0, _, _, _, _ => false
  | m + 1, sc, tt, e, c => match c with
    | .irng args => (match e with
      | .Call (.Name x _) es [] _ => decide (x = ("range" : Str)) && glB sc x && (decide (es.length = 1) || decide (es.length = 2)) && es.all notStar && all2 (ck m false sc) es args
      | _ => false)
    | .ienm a => (match e with
      | .Call (.Name x _) [e1] [] _ => decide (x = ("enumerate" : Str)) && glB sc x && tt && notStar e1 && ck m false sc e1 a
      | _ => false)
    | .izip a b => (match e with
      | .Call (.Name x _) [e1, e2] [] _ => decide (x = ("zip" : Str)) && glB sc x && tt && notStar e1 && notStar e2 && ck m false sc e1 a && ck m false sc e2 b
      | _ => false)
    | c => noFold e && ck m false sc e c
end
end
end Ev
end
section
set_option Elab.async false
set_option linter.all false
set_option maxRecDepth 100000
set_option maxHeartbeats 0
/-! the text of k51: printed by pr2.py -/
namespace LW
open PySem Ev
def b_Row_add : List CS := [.ife (.call (.glob 79) [.var 1, .glob 36] []) [.ret (.call (.glob 34) [.star (.attr (.var 0) 45), .var 1] [])] [], .ife (.call (.glob 79) [.var 1, .glob 34] []) [.ret (.call (.glob 34) [.star (.attr (.var 0) 45), .star (.attr (.var 1) 45)] [])] [], .nev]
def b_Row_bool : List CS := [.ret (.call (.glob 46) [.attr (.var 0) 45] [])]
def b_Row_contains : List CS := [.ret (.bop true [.call (.glob 79) [.var 1, .glob 36] [], .cmp .in_ (.tup [.attr (.var 1) 76, .attr (.var 1) 84]) (.attr (.var 0) 140)])]
def b_Row_eq : List CS := [.ret (.bop true [.call (.glob 79) [.var 1, .glob 34] [], .cmp .eq (.attr (.var 0) 140) (.attr (.var 1) 140)])]
def b_Row_getitem : List CS := [.ife (.not (.call (.glob 71) [.var 1, .con (.int 0), .bin .sub (.call (.glob 82) [.attr (.var 0) 45] []) (.con (.int 1))] [])) [.raise_ (.glob 14) [.var 1]] [], .ret (.sub (.attr (.var 0) 45) (.var 1))]
def b_Row_init : List CS := [.set (.nm 2) (.call (.glob 64) [.var 1] []), .ife (.cmp .isn (.var 2) (.con .non)) [.raise_ (.glob 3) [.var 2]] [], .fld 0 45 (.var 1), .fld 0 140 (.call (.glob 111) [.comp (.tup [.attr (.var 3) 76, .attr (.var 3) 84]) (.nm 3) (.var 1) [] [3]] []), .fld 0 170 (.call (.glob 106) [.comp (.bin .sub (.sub (.var 5) (.con (.int 0))) (.sub (.var 4) (.con (.int 1)))) (.tup [4, 5]) (.izip (.attr (.var 0) 140) (.slc (.attr (.var 0) 140) (some (.con (.int 1))) none)) [] [4, 5]] [])]
def b_Row_iter : List CS := [.nev]
def b_Row_len : List CS := [.ret (.call (.glob 82) [.attr (.var 0) 45] [])]
def b_Row_lt : List CS := [.ife (.not (.call (.glob 79) [.var 1, .glob 34] [])) [.nev] [], .ret (.cmp .lt (.attr (.var 0) 140) (.attr (.var 1) 140))]
def b_Row_begin : List CS := [.ret (.ife (.cmp .ne (.attr (.var 0) 140) (.tup [])) (.sub (.sub (.attr (.var 0) 140) (.con (.int 0))) (.con (.int 0))) (.con .non))]
def b_Row_climb : List CS := [.ret (.attr (.var 0) 170)]
def b_Row_cut : List CS := [.nev]
def b_Row_end : List CS := [.ret (.ife (.cmp .ne (.attr (.var 0) 140) (.tup [])) (.sub (.sub (.attr (.var 0) 140) (.neg (.con (.int 1)))) (.con (.int 1))) (.con .non))]
def b_Row_tickets : List CS := [.ret (.attr (.var 0) 45)]
def b_Row_turned : List CS := [.setL 1 (.comp (.call (.attr (.var 2) 186) [] []) (.nm 2) (.rev (.attr (.var 0) 45)) [] [2]), .ret (.call (.glob 34) [.star (.var 1)] [])]
def b_Ticket_contains : List CS := [.ife (.not (.call (.glob 74) [.var 1] [])) [.ret (.con (.bl false))] [], .ret (.bop false [.cmp2 .le .le (.attr (.var 0) 76) (.var 1) (.attr (.var 0) 84), .cmp2 .le .le (.attr (.var 0) 84) (.var 1) (.attr (.var 0) 76)])]
def b_Ticket_eq : List CS := [.ret (.bop true [.call (.glob 79) [.var 1, .glob 36] [], .cmp .eq (.attr (.var 0) 76) (.attr (.var 1) 76), .cmp .eq (.attr (.var 0) 84) (.attr (.var 1) 84)])]
def b_Ticket_getitem : List CS := [.ife (.not (.call (.glob 71) [.var 1, .con (.int 0), .con (.int 1)] [])) [.raise_ (.glob 14) [.var 1]] [], .ret (.ife (.cmp .eq (.var 1) (.con (.int 0))) (.attr (.var 0) 76) (.attr (.var 0) 84))]
def b_Ticket_init : List CS := [.ife (.not (.call (.glob 71) [.var 1, .con (.int 0), .attr (.glob 36) 24] [])) [.raise_ (.glob 17) [.con (.str "x")]] [], .ife (.not (.call (.glob 71) [.var 2, .con (.int 0), .attr (.glob 36) 24] [])) [.raise_ (.glob 17) [.con (.str "y")]] [], .flds [(0, 76), (0, 84)] [.var 1, .var 2]]
def b_Ticket_iter : List CS := [.nev]
def b_Ticket_lt : List CS := [.ife (.not (.call (.glob 79) [.var 1, .glob 36] [])) [.nev] [], .ret (.cmp .lt (.tup [.attr (.var 0) 76, .attr (.var 0) 84]) (.tup [.attr (.var 1) 76, .attr (.var 1) 84]))]
def b_Ticket_is_down : List CS := [.nev]
def b_Ticket_is_up : List CS := [.nev]
def b_Ticket_turned : List CS := [.ret (.call (.glob 36) [.bin .sub (.attr (.glob 36) 24) (.attr (.var 0) 84), .bin .sub (.attr (.glob 36) 24) (.attr (.var 0) 76)] [])]
def b_Ticket_x : List CS := [.ret (.attr (.var 0) 76)]
def b_Ticket_y : List CS := [.ret (.attr (.var 0) 84)]
def b_Trip_add : List CS := [.ife (.not (.call (.glob 79) [.var 1, .glob 39] [])) [.nev] [], .ife (.cmp .lt (.attr (.var 1) 166) (.attr (.var 0) 103)) [.raise_ (.glob 18) [.con (.str "join")]] [], .ret (.call (.glob 39) [.attr (.var 0) 74, .bin .add (.attr (.var 0) 107) (.attr (.var 1) 154), .attr (.var 1) 63] [])]
def b_Trip_bool : List CS := [.ret (.cmp .gt (.call (.glob 82) [.sub (.attr (.var 0) 100) (.con (.int 1))] []) (.con (.int 0)))]
def b_Trip_contains : List CS := [.ret (.bop true [.call (.glob 79) [.var 1, .glob 36] [], .cmp .in_ (.tup [.attr (.var 1) 198, .attr (.var 1) 199]) (.sub (.attr (.var 0) 100) (.con (.int 1)))])]
def b_Trip_eq : List CS := [.ret (.bop true [.call (.glob 79) [.var 1, .glob 39] [], .cmp .eq (.attr (.var 0) 100) (.attr (.var 1) 100)])]
def b_Trip_init_f1 : List CS := [.ife (.not (.call (.glob 73) [.var 4] [])) [.raise_ (.glob 14) [.var 4]] []]
def b_Trip_init : List CS := [.for_ (.nm 4) (.tup [.var 1, .var 3]) b_Trip_init_f1, .ife (.bop true [.cmp .gt (.call (.glob 82) [.var 2] []) (.con (.int 0)), .cmp .lt (.attr (.var 2) 38) (.var 1)]) [.raise_ (.glob 18) [.con (.str "start")]] [], .ife (.ife (.cmp .gt (.call (.glob 82) [.var 2] []) (.con (.int 0))) (.cmp .gt (.attr (.var 2) 63) (.var 3)) (.cmp .gt (.var 1) (.var 3))) [.raise_ (.glob 18) [.con (.str "end")]] [], .flds [(0, 74), (0, 107), (0, 103)] [.var 1, .var 2, .var 3], .fld 0 100 (.tup [.var 1, .attr (.var 2) 140, .var 3]), .ife (.cmp .gt (.call (.glob 82) [.var 2] []) (.con (.int 0))) [.fld 0 170 (.bin .sub (.bin .add (.bin .add (.bin .sub (.attr (.var 2) 38) (.var 1)) (.attr (.var 2) 48)) (.var 3)) (.attr (.var 2) 63))] [.fld 0 170 (.bin .sub (.var 3) (.var 1))]]
def b_Trip_len : List CS := [.ret (.call (.glob 82) [.sub (.attr (.var 0) 100) (.con (.int 1))] [])]
def b_Trip_lt : List CS := [.ife (.not (.call (.glob 79) [.var 1, .glob 39] [])) [.nev] [], .ret (.cmp .lt (.attr (.var 0) 100) (.attr (.var 1) 100))]
def b_Trip_climbed : List CS := [.ret (.attr (.var 0) 170)]
def b_Trip_end : List CS := [.ret (.attr (.var 0) 103)]
def b_Trip_row : List CS := [.ret (.attr (.var 0) 107)]
def b_Trip_start : List CS := [.ret (.attr (.var 0) 74)]
def b_first_break_f1 : List CS := [.ife (.bop false [.not (.call (.glob 79) [.var 2, .glob 36] []), .bop true [.cmp .gt (.var 1) (.con (.int 0)), .cmp .lt (.attr (.var 2) 76) (.attr (.sub (.var 0) (.bin .sub (.var 1) (.con (.int 1)))) 84)]]) [.ret (.var 1)] []]
def b_first_break : List CS := [.for_ (.tup [1, 2]) (.ienm (.var 0)) b_first_break_f1, .ret (.con .non)]
def b_is_between : List CS := [.ret (.bop true [.call (.glob 74) [.var 0] [], .cmp2 .le .le (.var 1) (.var 0) (.var 2)])]
def b_is_height : List CS := [.ret (.call (.glob 71) [.var 0, .con (.int 0), .attr (.glob 36) 24] [])]
def b_is_integer : List CS := [.ret (.bop true [.call (.glob 79) [.var 0, .glob 69] [], .not (.call (.glob 79) [.var 0, .glob 46] [])])]
def b_law_begun : List CS := [.set (.nm 1) (.dct [.con (.str "cells"), .con (.str "great"), .con (.str "spot")] [.call (.glob 198) [.var 0] [], .lst [], .con (.int 0)]), .itemB (.var 1) (.con (.str "great")) (.comp (.ife (.cmp .ge (.var 2) (.bin .pow (.con (.int 10)) (.con (.int 18)))) (.var 2) (.con (.int 0))) (.nm 2) (.var 0) [] [2]), .ret (.var 1)]
def b_law_class : List CS := [.ife (.call (.glob 79) [.var 0, .glob 13] []) [.ret (.tup [.con (.str "InvalidGroup"), .attr (.var 0) 141, .attr (.var 0) 164])] [], .ife (.call (.glob 79) [.var 0, .glob 15] []) [.ret (.tup [.con (.str "InvalidPlan"), .attr (.var 0) 141, .attr (.var 0) 164])] [], .ife (.call (.glob 79) [.var 0, .glob 17] []) [.ret (.tup [.con (.str "InvalidTicket"), .attr (.var 0) 141])] [], .ife (.call (.glob 79) [.var 0, .glob 18] []) [.ret (.tup [.con (.str "InvalidTrip"), .attr (.var 0) 141])] [], .ife (.call (.glob 79) [.var 0, .glob 11] []) [.ret (.tup [.con (.str "InvalidAnswer"), .attr (.var 0) 141])] [], .ife (.call (.glob 79) [.var 0, .glob 3] []) [.ret (.tup [.con (.str "BrokenRow"), .attr (.var 0) 164])] [], .ife (.call (.glob 79) [.var 0, .glob 12] []) [.ret (.tup [.con (.str "InvalidDesk"), .attr (.var 0) 164])] [], .ife (.call (.glob 79) [.var 0, .glob 16] []) [.ret (.tup [.con (.str "InvalidProfile"), .attr (.var 0) 164])] [], .ret (.call (.glob 394) [.var 0] [])]
def b_law_draw : List CS := [.set (.nm 2) (.sub (.var 0) (.con (.str "spot"))), .item (.var 0) (.con (.str "spot")) (.bin .add (.var 2) (.con (.int 1))), .ife (.cmp .ne (.sub (.var 0) (.con (.str "great"))) (.lst [])) [.set (.nm 3) (.bin .mod (.var 2) (.call (.glob 82) [.sub (.var 0) (.con (.str "great"))] [])), .set (.nm 4) (.sub (.sub (.var 0) (.con (.str "great"))) (.var 3)), .ife (.cmp .gt (.var 4) (.con (.int 0))) [.item (.sub (.var 0) (.con (.str "great"))) (.var 3) (.bin .fdiv (.var 4) (.var 1)), .ret (.bin .mod (.var 4) (.var 1))] []] [], .ret (.bin .mod (.call (.glob 262) [.call (.glob 262) [.bin .add (.sub (.sub (.var 0) (.con (.str "cells"))) (.bin .mod (.var 2) (.con (.int 64)))) (.bin .mul (.con (.int 31)) (.bin .fdiv (.var 2) (.con (.int 64)))), .var 2] [], .bin .add (.var 2) (.con (.int 7))] []) (.var 1))]
def b_law_folded_f1 : List CS := [.oset 1 (.bin .mod (.var 2) (.con (.int 64))) (.bin .mod (.bin .add (.bin .mul (.sub (.var 1) (.bin .mod (.var 2) (.con (.int 64)))) (.con (.int 48271))) (.var 3)) (.con (.int 2147483647)))]
def b_law_folded_f2 : List CS := [.oset 1 (.var 2) (.bin .mod (.bin .add (.sub (.var 1) (.var 2)) (.bin .mul (.sub (.var 1) (.bin .sub (.var 2) (.con (.int 1)))) (.con (.int 16807)))) (.con (.int 2147483647)))]
def b_law_folded : List CS := [.own 1 (.comp (.bin .add (.con (.int 17)) (.var 2)) (.nm 2) (.irng [.con (.int 64)]) [] [2]), .for_ (.tup [2, 3]) (.ienm (.var 0)) b_law_folded_f1, .for_ (.nm 2) (.irng [.con (.int 1), .con (.int 64)]) b_law_folded_f2, .frz 1, .ret (.var 1)]
def b_law_mixed : List CS := [.set (.nm 2) (.bin .add (.bin .add (.bin .mod (.bin .mul (.bin .mul (.var 0) (.bin .add (.con (.int 1)) (.bin .mul (.con (.int 2)) (.var 1)))) (.con (.int 48271))) (.con (.int 2147483647))) (.bin .mul (.bin .mul (.con (.int 7919)) (.var 1)) (.var 1))) (.bin .mul (.con (.int 104729)) (.var 1))), .ret (.bin .fdiv (.bin .mod (.bin .mul (.var 2) (.con (.int 69621))) (.con (.int 2147483629))) (.con (.int 7)))]
def b_law_path_f1 : List CS := [.ife (.cmp .eq (.call (.glob 172) [.var 0, .con (.int 4)] []) (.con (.int 0))) [.set (.nm 5) (.bin .add (.var 5) (.call (.glob 172) [.var 0, .bin .add (.bin .sub (.var 2) (.var 5)) (.con (.int 1))] []))] [], .set (.nm 7) (.bin .add (.var 1) (.call (.glob 172) [.var 0, .bin .add (.bin .sub (.var 2) (.var 1)) (.con (.int 1))] [])), .app 4 (.tup [.var 5, .var 7]), .set (.nm 5) (.var 7)]
def b_law_path : List CS := [.par [(4, 1), (5, 0)] [.lst [], .bin .add (.var 1) (.call (.glob 172) [.var 0, .bin .add (.bin .sub (.var 2) (.var 1)) (.con (.int 1))] [])], .for_ (.nm 6) (.irng [.var 3]) b_law_path_f1, .frz 4, .ret (.var 4)]
def b_law_row_f1 : List CS := [.set (.nm 1) (.bin .add (.var 1) (.call (.glob 36) [.var 2, .var 3] []))]
def b_law_row : List CS := [.set (.nm 1) (.call (.glob 34) [] []), .for_ (.tup [2, 3]) (.var 0) b_law_row_f1, .ret (.var 1)]
def b_law_sum_right : List CS := [.set (.nm 2) (.lam 378 0 (.bin .add (.var 0) (.var 1))), .ife (.cmp .lt (.attr (.var 1) 166) (.attr (.var 0) 63)) [.ret (.cmp .eq (.var 2) (.tup [.con (.str "InvalidTrip"), .con (.str "join")]))] [], .ife (.bop false [.not (.call (.glob 79) [.var 2, .glob 83] []), .cmp .ne (.tup [.attr (.sub (.var 2) (.con (.int 0))) 166, .attr (.sub (.var 2) (.con (.int 0))) 63]) (.tup [.attr (.var 0) 166, .attr (.var 1) 63])]) [.ret (.con (.bl false))] [], .ife (.cmp .ne (.call (.glob 406) [.attr (.sub (.var 2) (.con (.int 0))) 154] []) (.bin .add (.call (.glob 406) [.attr (.var 0) 154] []) (.call (.glob 406) [.attr (.var 1) 154] []))) [.ret (.con (.bl false))] [], .ife (.cmp .ne (.call (.glob 82) [.sub (.var 2) (.con (.int 0))] []) (.bin .add (.call (.glob 82) [.var 0] []) (.call (.glob 82) [.var 1] []))) [.ret (.con (.bl false))] [], .ret (.cmp .eq (.attr (.sub (.var 2) (.con (.int 0))) 49) (.bin .sub (.bin .add (.bin .add (.attr (.var 0) 49) (.attr (.var 1) 49)) (.attr (.var 1) 166)) (.attr (.var 0) 63)))]
def b_law_told : List CS := [.set (.nm 1) (.con .non), .set (.nm 2) (.lst []), .try_ [.set (.nm 2) (.lst [.lcl 0])] [([5], some 3, [.set (.nm 1) (.var 3)])], .ret (.ife (.cmp .is_ (.var 1) (.con .non)) (.var 2) (.call (.glob 146) [.var 1] []))]
def b_law_trip : List CS := [.set (.nm 1) (.ife (.cmp .gt (.call (.glob 172) [.var 0, .con (.int 6)] []) (.con (.int 0))) (.var 1) (.call (.glob 85) [.con (.int 0), .bin .sub (.bin .sub (.var 1) (.con (.int 1))) (.call (.glob 172) [.var 0, .con (.int 5)] [])] [])), .set (.nm 2) (.call (.glob 288) [.var 0, .var 1, .call (.glob 86) [.con (.int 30), .bin .add (.bin .add (.var 1) (.con (.int 1))) (.call (.glob 172) [.var 0, .con (.int 9)] [])] [], .call (.glob 172) [.var 0, .con (.int 4)] []] []), .set (.nm 3) (.ife (.cmp .ne (.var 2) (.lst [])) (.sub (.sub (.var 2) (.neg (.con (.int 1)))) (.con (.int 1))) (.var 1)), .ret (.call (.glob 39) [.var 1, .call (.glob 340) [.var 2] [], .bin .add (.var 3) (.call (.glob 172) [.var 0, .call (.glob 86) [.con (.int 3), .bin .sub (.con (.int 31)) (.var 3)] []] [])] [])]
def b_law_value_class : List CS := [.ife (.call (.glob 79) [.var 0, .glob 14] []) [.ret (.tup [.con (.str "InvalidNumber"), .attr (.var 0) 192])] [], .ife (.call (.glob 79) [.var 0, .glob 23] []) [.ret (.tup [.con (.str "MissingTicket"), .attr (.var 0) 192])] [], .ife (.call (.glob 79) [.var 0, .glob 19] []) [.ret (.tup [.con (.str "LimitExceeded"), .attr (.var 0) 106])] [], .ife (.call (.glob 79) [.var 0, .glob 37] []) [.ret (.tup [.con (.str "TooFew"), .attr (.var 0) 151])] [], .ife (.call (.glob 79) [.var 0, .glob 38] []) [.ret (.tup [.con (.str "TooMany"), .attr (.var 0) 106])] [], .ife (.call (.glob 79) [.var 0, .glob 25] []) [.ret (.tup [.con (.str "NoRow"), .attr (.var 0) 151])] [], .ife (.call (.glob 79) [.var 0, .glob 24] []) [.ret (.tup [.con (.str "NoRounds"), .attr (.var 0) 80])] [], .ife (.call (.glob 79) [.var 0, .glob 28] []) [.ret (.tup [.con (.str "ParseError"), .attr (.var 0) 107, .attr (.var 0) 196])] [], .ret (.ife (.call (.glob 79) [.var 0, .glob 26] []) (.tup [.con (.str "NothingToUndo")]) (.tup [.con (.str "other")]))]
def b_law_written : List CS := [.ret (.comp (.tup [.attr (.var 1) 198, .attr (.var 1) 199]) (.nm 1) (.attr (.var 0) 180) [] [1])]
def b_law_f1 : List CS := [.set (.nm 3) (.call (.glob 383) [.var 1, .call (.glob 172) [.var 1, .con (.int 10)] []] []), .set (.nm 4) (.call (.glob 383) [.var 1, .call (.glob 86) [.con (.int 30), .bin .add (.attr (.var 3) 63) (.call (.glob 172) [.var 1, .con (.int 2)] [])] []] []), .set (.nm 5) (.call (.glob 383) [.var 1, .call (.glob 86) [.con (.int 30), .bin .add (.attr (.var 4) 63) (.call (.glob 172) [.var 1, .con (.int 2)] [])] []] []), .ife (.bop false [.not (.call (.glob 367) [.var 3, .var 4] []), .not (.call (.glob 367) [.var 4, .var 5] []), .not (.call (.glob 367) [.var 5, .var 3] [])]) [.ret (.con (.bl false))] [], .ife (.bop true [.cmp .ge (.attr (.var 4) 166) (.attr (.var 3) 63), .cmp .ge (.attr (.var 5) 166) (.attr (.var 4) 63)]) [.ife (.bop false [.not (.cmp .eq (.bin .add (.bin .add (.var 3) (.var 4)) (.var 5)) (.bin .add (.var 3) (.bin .add (.var 4) (.var 5)))), .cmp .ne (.bin .add (.call (.glob 82) [.var 3] []) (.call (.glob 82) [.var 4] [])) (.call (.glob 82) [.bin .add (.var 3) (.var 4)] [])]) [.ret (.con (.bl false))] []] [], .set (.nm 6) (.call (.glob 39) [.attr (.var 3) 63, .call (.glob 34) [] [], .attr (.var 3) 63] []), .ife (.bop false [.not (.cmp .eq (.bin .add (.var 3) (.var 6)) (.var 3)), .not (.cmp .eq (.bin .add (.bin .add (.var 3) (.var 6)) (.var 6)) (.var 3))]) [.ret (.con (.bl false))] []]
def b_law : List CS := [.set (.nm 1) (.call (.glob 128) [.var 0] []), .for_ (.nm 2) (.irng [.con (.int 8)]) b_law_f1, .ret (.con (.bl true))]
def f_Row_add : FnD := { ps := [160, 136], star := false, dn := [], shp := [(2, [])], lam := false, n := 2, body := b_Row_add }
def f_Row_bool : FnD := { ps := [160], star := false, dn := [], shp := [(1, [])], lam := false, n := 1, body := b_Row_bool }
def f_Row_contains : FnD := { ps := [160, 179], star := false, dn := [], shp := [(2, [])], lam := false, n := 2, body := b_Row_contains }
def f_Row_eq : FnD := { ps := [160, 136], star := false, dn := [], shp := [(2, [])], lam := false, n := 2, body := b_Row_eq }
def f_Row_getitem : FnD := { ps := [160, 34], star := false, dn := [], shp := [(2, [])], lam := false, n := 2, body := b_Row_getitem }
def f_Row_init : FnD := { ps := [160], star := true, dn := [], shp := [], lam := false, n := 6, body := b_Row_init }
def f_Row_iter : FnD := { ps := [160], star := false, dn := [], shp := [], lam := false, n := 1, body := b_Row_iter }
def f_Row_len : FnD := { ps := [160], star := false, dn := [], shp := [(1, [])], lam := false, n := 1, body := b_Row_len }
def f_Row_lt : FnD := { ps := [160, 136], star := false, dn := [], shp := [(2, [])], lam := false, n := 2, body := b_Row_lt }
def f_Row_begin : FnD := { ps := [160], star := false, dn := [], shp := [(1, [])], lam := false, n := 1, body := b_Row_begin }
def f_Row_climb : FnD := { ps := [160], star := false, dn := [], shp := [(1, [])], lam := false, n := 1, body := b_Row_climb }
def f_Row_cut : FnD := { ps := [160, 126], star := false, dn := [], shp := [], lam := false, n := 2, body := b_Row_cut }
def f_Row_end : FnD := { ps := [160], star := false, dn := [], shp := [(1, [])], lam := false, n := 1, body := b_Row_end }
def f_Row_tickets : FnD := { ps := [160], star := false, dn := [], shp := [(1, [])], lam := false, n := 1, body := b_Row_tickets }
def f_Row_turned : FnD := { ps := [160], star := false, dn := [], shp := [(1, [])], lam := false, n := 3, body := b_Row_turned }
def f_Ticket_contains : FnD := { ps := [160, 86], star := false, dn := [], shp := [(2, [])], lam := false, n := 2, body := b_Ticket_contains }
def f_Ticket_eq : FnD := { ps := [160, 136], star := false, dn := [], shp := [(2, [])], lam := false, n := 2, body := b_Ticket_eq }
def f_Ticket_getitem : FnD := { ps := [160, 34], star := false, dn := [], shp := [(2, [])], lam := false, n := 2, body := b_Ticket_getitem }
def f_Ticket_init : FnD := { ps := [160, 198, 199], star := false, dn := [], shp := [(1, [199, 198]), (3, [])], lam := false, n := 3, body := b_Ticket_init }
def f_Ticket_iter : FnD := { ps := [160], star := false, dn := [], shp := [], lam := false, n := 1, body := b_Ticket_iter }
def f_Ticket_lt : FnD := { ps := [160, 136], star := false, dn := [], shp := [(2, [])], lam := false, n := 2, body := b_Ticket_lt }
def f_Ticket_is_down : FnD := { ps := [160], star := false, dn := [], shp := [], lam := false, n := 1, body := b_Ticket_is_down }
def f_Ticket_is_up : FnD := { ps := [160], star := false, dn := [], shp := [], lam := false, n := 1, body := b_Ticket_is_up }
def f_Ticket_turned : FnD := { ps := [160], star := false, dn := [], shp := [(1, [])], lam := false, n := 1, body := b_Ticket_turned }
def f_Ticket_x : FnD := { ps := [160], star := false, dn := [], shp := [(1, [])], lam := false, n := 1, body := b_Ticket_x }
def f_Ticket_y : FnD := { ps := [160], star := false, dn := [], shp := [(1, [])], lam := false, n := 1, body := b_Ticket_y }
def f_Trip_add : FnD := { ps := [160, 136], star := false, dn := [], shp := [(2, [])], lam := false, n := 2, body := b_Trip_add }
def f_Trip_bool : FnD := { ps := [160], star := false, dn := [], shp := [(1, [])], lam := false, n := 1, body := b_Trip_bool }
def f_Trip_contains : FnD := { ps := [160, 179], star := false, dn := [], shp := [(2, [])], lam := false, n := 2, body := b_Trip_contains }
def f_Trip_eq : FnD := { ps := [160, 136], star := false, dn := [], shp := [(2, [])], lam := false, n := 2, body := b_Trip_eq }
def f_Trip_init : FnD := { ps := [160, 166, 154, 63], star := false, dn := [], shp := [(1, [63, 154, 166]), (4, [])], lam := false, n := 5, body := b_Trip_init }
def f_Trip_len : FnD := { ps := [160], star := false, dn := [], shp := [(1, [])], lam := false, n := 1, body := b_Trip_len }
def f_Trip_lt : FnD := { ps := [160, 136], star := false, dn := [], shp := [(2, [])], lam := false, n := 2, body := b_Trip_lt }
def f_Trip_climbed : FnD := { ps := [160], star := false, dn := [], shp := [(1, [])], lam := false, n := 1, body := b_Trip_climbed }
def f_Trip_end : FnD := { ps := [160], star := false, dn := [], shp := [(1, [])], lam := false, n := 1, body := b_Trip_end }
def f_Trip_row : FnD := { ps := [160], star := false, dn := [], shp := [(1, [])], lam := false, n := 1, body := b_Trip_row }
def f_Trip_start : FnD := { ps := [160], star := false, dn := [], shp := [(1, [])], lam := false, n := 1, body := b_Trip_start }
def f_first_break : FnD := { ps := [45], star := false, dn := [], shp := [(1, [])], lam := false, n := 3, body := b_first_break }
def f_is_between : FnD := { ps := [192, 112, 88], star := false, dn := [], shp := [(3, [])], lam := false, n := 3, body := b_is_between }
def f_is_height : FnD := { ps := [192], star := false, dn := [], shp := [(1, [])], lam := false, n := 1, body := b_is_height }
def f_is_integer : FnD := { ps := [192], star := false, dn := [], shp := [(1, [])], lam := false, n := 1, body := b_is_integer }
def f_law_begun : FnD := { ps := [159], star := false, dn := [], shp := [(1, [])], lam := false, n := 3, body := b_law_begun }
def f_law_class : FnD := { ps := [67], star := false, dn := [], shp := [(1, [])], lam := false, n := 1, body := b_law_class }
def f_law_draw : FnD := { ps := [114, 182], star := false, dn := [], shp := [(2, [])], lam := false, n := 5, body := b_law_draw }
def f_law_folded : FnD := { ps := [159], star := false, dn := [], shp := [(1, [])], lam := false, n := 4, body := b_law_folded }
def f_law_mixed : FnD := { ps := [46, 120], star := false, dn := [], shp := [(2, [])], lam := false, n := 3, body := b_law_mixed }
def f_law_path : FnD := { ps := [114, 112, 88, 115], star := false, dn := [], shp := [(4, [])], lam := false, n := 8, body := b_law_path }
def f_law_row : FnD := { ps := [140], star := false, dn := [], shp := [(1, [])], lam := false, n := 4, body := b_law_row }
def f_law_sum_right : FnD := { ps := [133, 188], star := false, dn := [], shp := [(2, [])], lam := false, n := 4, body := b_law_sum_right }
def f_law_told : FnD := { ps := [57], star := false, dn := [], shp := [(1, [])], lam := true, n := 4, body := b_law_told }
def f_law_trip : FnD := { ps := [114, 76], star := false, dn := [], shp := [(2, [])], lam := false, n := 4, body := b_law_trip }
def f_law_value_class : FnD := { ps := [67], star := false, dn := [], shp := [(1, [])], lam := false, n := 1, body := b_law_value_class }
def f_law_written : FnD := { ps := [107], star := false, dn := [], shp := [(1, [])], lam := false, n := 2, body := b_law_written }
def f_law : FnD := { ps := [159], star := false, dn := [], shp := [(1, [])], lam := false, n := 7, body := b_law }
def c_Row : ClD := { kind := 0, up := [], init := some 79, meth := [(3, 74), (9, 75), (6, 76), (0, 77), (7, 78), (27, 80), (8, 81), (1, 82), (55, 85), (186, 88)], prop := [(38, 83), (48, 84), (63, 86), (180, 87)], con := [], flds := [45, 140, 170] }
def c_Ticket : ClD := { kind := 0, up := [], init := some 92, meth := [(6, 89), (0, 90), (7, 91), (27, 93), (1, 94), (186, 97)], prop := [(91, 95), (95, 96), (198, 98), (199, 99)], con := [(24, (.int 30))], flds := [76, 84] }
def c_Trip : ClD := { kind := 0, up := [], init := some 104, meth := [(3, 100), (9, 101), (6, 102), (0, 103), (8, 105), (1, 106)], prop := [(49, 107), (63, 108), (154, 109), (166, 110)], con := [], flds := [74, 100, 103, 107, 170] }
def x_BrokenRow : XcD := { up := [1], exf := [(164, none)] }
def x_ClimbticketsError : XcD := { up := [], exf := [] }
def x_InvalidAnswer : XcD := { up := [1], exf := [(141, none)] }
def x_InvalidDesk : XcD := { up := [1], exf := [(164, some .non)] }
def x_InvalidGroup : XcD := { up := [1], exf := [(141, none), (164, some .non)] }
def x_InvalidNumber : XcD := { up := [1], exf := [(192, none)] }
def x_InvalidPlan : XcD := { up := [1], exf := [(141, none), (164, some .non)] }
def x_InvalidProfile : XcD := { up := [1], exf := [(164, some .non)] }
def x_InvalidTicket : XcD := { up := [1], exf := [(141, none)] }
def x_InvalidTrip : XcD := { up := [1], exf := [(141, none)] }
def x_LimitExceeded : XcD := { up := [1], exf := [(106, none)] }
def x_MissingTicket : XcD := { up := [1], exf := [(192, none)] }
def x_NoRounds : XcD := { up := [1], exf := [(80, none)] }
def x_NoRow : XcD := { up := [1], exf := [(151, none)] }
def x_NothingToUndo : XcD := { up := [1], exf := [] }
def x_ParseError : XcD := { up := [1], exf := [(107, none), (196, none)] }
def x_TooFew : XcD := { up := [1], exf := [(151, none)] }
def x_TooMany : XcD := { up := [1], exf := [(106, none)] }
def nmsT : List Str := (["__eq__", "__lt__", "__le__", "__add__", "__sub__", "__neg__", "__contains__", "__getitem__", "__len__", "__bool__", "__call__", "append", "extend", "pop", "count", "index", "get", "setdefault", "remove", "join", "split", "GAPS", "KIND", "MAX_CHANGES", "MAX_HEIGHT"] : List Str) ++ (["MAX_TICKETS", "__init__", "__iter__", "a", "above", "answer", "arcs", "arguments", "ask", "at", "b", "back", "base", "begin", "below", "best", "box", "boxes", "c", "call", "cards", "cell", "change", "climb", "climbed"] : List Str) ++ (["climbs", "cls", "command", "copy", "current", "cut", "d", "deed", "desk", "desk_here", "desks", "due", "effort", "end", "ends", "ends_here", "ends_text", "error", "every", "excess", "execute", "far", "far_key", "feet", "first"] : List Str) ++ (["follow", "foot", "found", "fresh", "gain", "gap", "gate", "goal_here", "gone", "head", "heads", "height", "heights", "high", "highest", "is_desk", "is_down", "is_left", "is_plan", "is_sure", "is_up", "item", "items", "k", "kept"] : List Str) ++ (["key", "kind", "known", "last", "level", "levels", "limit", "line", "lines", "links", "live", "log", "low", "lowest", "m", "many", "marks", "mask", "middle", "most", "n", "name", "near", "needed", "needs"] : List Str) ++ (["new", "number", "number_here", "numbers", "numbers_here", "odd", "of_pairs", "old", "one", "one_key", "ones", "other", "others", "p", "pair", "pairs", "part", "past", "path", "peak", "place", "plan", "profile", "put", "q"] : List Str) ++ (["rank", "reason", "rest", "rounds_text", "row", "row_here", "rows", "run", "s", "script", "self", "sets", "sign", "size", "spot", "spots", "start", "starts", "starts_here", "states", "steps", "strict", "t", "table", "take"] : List Str) ++ (["text", "text_here", "thing_here", "things", "ticket", "tickets", "told", "top", "tops", "trip", "trips", "turned", "twin", "two", "twos", "undo", "v", "value", "walkers", "width", "wished", "word", "words", "x", "y"] : List Str)
def gnsT : List Str := (["AROUND", "BACK", "BAD_COMMAND", "BrokenRow", "CODE", "ClimbticketsError", "Console", "DIGITS", "Desk", "EndsPlanner", "HUB", "InvalidAnswer", "InvalidDesk", "InvalidGroup", "InvalidNumber", "InvalidPlan", "InvalidProfile", "InvalidTicket", "InvalidTrip", "LimitExceeded", "LiveDesk", "MAX_DIGITS", "MAX_LISTED", "MissingTicket", "NoRounds"] : List Str) ++ (["NoRow", "NothingToUndo", "PUT", "ParseError", "Plan", "PlannedDesk", "Planner", "Profile", "RoundPlanner", "Row", "TAKE", "Ticket", "TooFew", "TooMany", "Trip", "ValueError", "WORDS", "abs", "all", "any", "arguments_of", "bool", "border_gaps", "check_group", "check_group_reason"] : List Str) ++ (["check_listed", "check_reason", "check_reason_against", "climb_arcs", "climbs_between", "closed_walk", "count_rows", "cut_rows", "desk_break", "desk_text", "dict", "excess_numbers", "excess_table", "fewest", "first_break", "group_arcs", "group_climbs", "group_reason", "group_trips", "int", "integer_in", "is_between", "is_closed_set", "is_height", "is_integer"] : List Str) ++ (["is_island", "is_pair", "is_round", "is_set_of_heights", "isinstance", "island_of", "least_climb", "len", "list", "listed", "max", "min", "need_heights", "number_at", "orders_from", "part_of", "parts_with_tickets", "plan_problem", "plan_rows", "plan_table", "rank_of_row", "read_desk", "reason_against", "reason_for", "reason_of"] : List Str) ++ (["row_by_rank", "row_of", "rows_between", "single_rows", "sorted", "str", "sum", "ticket_arcs", "ticket_cell", "tickets_of", "top_excess", "tuple", "walker_arcs", "without", "words_of", "_law_accepted", "_law_added", "_law_agree", "_law_all_do", "_law_all_lines", "_law_all_right", "_law_answers", "_law_answers", "_law_answers", "_law_are_trips"] : List Str) ++ (["_law_asked_text", "_law_at_limit_right", "_law_bad_commands", "_law_begun", "_law_bent_heights", "_law_bent_text", "_law_between", "_law_bits", "_law_border", "_law_by_hand", "_law_can", "_law_can", "_law_card", "_law_caught", "_law_caught", "_law_caught", "_law_caught", "_law_caught", "_law_change", "_law_checked", "_law_checked", "_law_class", "_law_classes", "_law_classes_right", "_law_climb_of"] : List Str) ++ (["_law_climbed", "_law_climbed", "_law_climbs", "_law_closed", "_law_closed", "_law_closed_pairs", "_law_command", "_law_compared", "_law_compared", "_law_compared", "_law_constructors_right", "_law_counts_right", "_law_cut_up", "_law_deed", "_law_desk", "_law_desks_right", "_law_differences_right", "_law_differences_right", "_law_do", "_law_doubled", "_law_doubled_right", "_law_doubled_right", "_law_draw", "_law_due", "_law_due"] : List Str) ++ (["_law_due", "_law_due", "_law_due", "_law_due_text", "_law_ends", "_law_ends_matter", "_law_ends_right", "_law_ends_right", "_law_ends_right", "_law_ends_right", "_law_ends_right", "_law_ends_text", "_law_ends_word", "_law_equal_right", "_law_few_right", "_law_few_right", "_law_field", "_law_figures", "_law_first_commands", "_law_fits", "_law_flipped", "_law_flipped_reason", "_law_flow", "_law_folded", "_law_forms_right"] : List Str) ++ (["_law_forty_one_asked", "_law_forty_one_made", "_law_forty_one_put", "_law_forty_one_taken", "_law_found", "_law_full", "_law_full_of_takes", "_law_functions_right", "_law_group", "_law_has_island", "_law_heights_right", "_law_in_order", "_law_inside_right", "_law_inside_right", "_law_integer", "_law_is_against", "_law_is_against", "_law_is_closed", "_law_is_desk", "_law_is_height", "_law_is_heights", "_law_is_island", "_law_is_lonely", "_law_is_path", "_law_is_plan"] : List Str) ++ (["_law_is_plan", "_law_is_reason", "_law_is_reason", "_law_is_reason", "_law_is_reason", "_law_is_shut", "_law_is_so", "_law_is_way", "_law_items", "_law_joined", "_law_joined_right", "_law_kept_right", "_law_kind", "_law_later_commands", "_law_less", "_law_less", "_law_less_right", "_law_lifted", "_law_like_right", "_law_likes_right", "_law_lines", "_law_lines", "_law_lines_right", "_law_links", "_law_live"] : List Str) ++ (["_law_log", "_law_lone", "_law_long_right", "_law_long_right", "_law_made", "_law_made", "_law_made_right", "_law_many", "_law_many_right", "_law_marks", "_law_may_be", "_law_missing_right", "_law_mixed", "_law_mixed_up", "_law_more_right", "_law_needed", "_law_needed_right", "_law_number", "_law_numbers_right", "_law_numbers_right", "_law_numbers_right", "_law_odd", "_law_of_numbers", "_law_order_right", "_law_ordered"] : List Str) ++ (["_law_over", "_law_over_text", "_law_pair", "_law_pair_right", "_law_paired", "_law_pairs", "_law_parsed", "_law_part", "_law_part", "_law_parts", "_law_parts", "_law_parts_right", "_law_parts_right", "_law_path", "_law_plan", "_law_plan_right", "_law_plan_right", "_law_plan_text", "_law_planner_right", "_law_plans_right", "_law_plans_right", "_law_profile", "_law_profiles_right", "_law_raised", "_law_raised"] : List Str) ++ (["_law_raised", "_law_read", "_law_read", "_law_read", "_law_read", "_law_read_right", "_law_read_right", "_law_reason_word", "_law_reasons_right", "_law_refusal", "_law_refused", "_law_refused_right", "_law_refused_right", "_law_refused_right", "_law_right", "_law_right", "_law_right", "_law_right", "_law_right", "_law_right", "_law_right", "_law_right", "_law_right", "_law_right", "_law_right"] : List Str) ++ (["_law_right", "_law_right", "_law_right", "_law_right", "_law_right", "_law_right", "_law_right", "_law_rise", "_law_round_right", "_law_rounds", "_law_rounds", "_law_rounds_right", "_law_rounds_right", "_law_rounds_right", "_law_rounds_text", "_law_row", "_law_row_right", "_law_row_right", "_law_rows_right", "_law_rows_right", "_law_runs_right", "_law_said", "_law_said", "_law_said", "_law_said"] : List Str) ++ (["_law_said", "_law_said", "_law_said", "_law_same", "_law_same_object", "_law_same_objects", "_law_shown", "_law_shown", "_law_shown", "_law_shown_right", "_law_special", "_law_spot", "_law_stacked_right", "_law_stacked_right", "_law_step", "_law_stepped", "_law_sum_due", "_law_sum_right", "_law_sums_right", "_law_sums_right", "_law_sums_right", "_law_table_right", "_law_taken_right", "_law_text_of", "_law_thirty"] : List Str) ++ (["_law_tickets_right", "_law_tight_pairs", "_law_told", "_law_told", "_law_told", "_law_told_plan", "_law_top", "_law_tried", "_law_trip", "_law_trips_right", "_law_trips_right", "_law_turned", "_law_turned_heights", "_law_turned_reason", "_law_turned_right", "_law_turns_right", "_law_twins_right", "_law_unequal_right", "_law_value", "_law_value_class", "_law_values_right", "_law_values_right", "_law_walked", "_law_walkers_right", "_law_walks_right"] : List Str) ++ (["_law_ways", "_law_whole", "_law_wide", "_law_without", "_law_word", "_law_words", "_law_written", "_law_wrong_right", "_law_wrong_right", "_law_wrong_right", "_law_wrong_word", "_law_yields", "law", "law", "law", "law", "law", "law", "law", "law", "law", "law", "law", "law", "law"] : List Str) ++ (["law", "law", "law", "law", "law", "law", "law", "law", "law", "law", "law", "law", "law", "law", "law", "law", "law", "law", "law", "law", "law", "law", "law", "law", "law"] : List Str) ++ (["law", "law", "law", "law", "law", "law", "law", "law", "law", "law", "law", "law", "law", "law"] : List Str)
def cnsT : List Str := (["BrokenRow", "ClimbticketsError", "Console", "Desk", "EndsPlanner", "InvalidAnswer", "InvalidDesk", "InvalidGroup", "InvalidNumber", "InvalidPlan", "InvalidProfile", "InvalidTicket", "InvalidTrip", "LimitExceeded", "LiveDesk", "MissingTicket", "NoRounds", "NoRow", "NothingToUndo", "ParseError", "Plan", "PlannedDesk", "Planner", "Profile", "RoundPlanner"] : List Str) ++ (["Row", "Ticket", "TooFew", "TooMany", "Trip"] : List Str)
def fns0 : List (Nat × FnD) := [(74, f_Row_add), (75, f_Row_bool), (76, f_Row_contains), (77, f_Row_eq), (78, f_Row_getitem), (79, f_Row_init), (80, f_Row_iter), (81, f_Row_len), (82, f_Row_lt), (83, f_Row_begin), (84, f_Row_climb), (85, f_Row_cut), (86, f_Row_end), (87, f_Row_tickets), (88, f_Row_turned), (89, f_Ticket_contains), (90, f_Ticket_eq), (91, f_Ticket_getitem), (92, f_Ticket_init), (93, f_Ticket_iter), (94, f_Ticket_lt), (95, f_Ticket_is_down), (96, f_Ticket_is_up), (97, f_Ticket_turned), (98, f_Ticket_x)]
def fns1 : List (Nat × FnD) := [(99, f_Ticket_y), (100, f_Trip_add), (101, f_Trip_bool), (102, f_Trip_contains), (103, f_Trip_eq), (104, f_Trip_init), (105, f_Trip_len), (106, f_Trip_lt), (107, f_Trip_climbed), (108, f_Trip_end), (109, f_Trip_row), (110, f_Trip_start), (128, f_first_break), (134, f_is_between), (136, f_is_height), (137, f_is_integer), (182, f_law_begun), (200, f_law_class), (226, f_law_draw), (252, f_law_folded), (316, f_law_mixed), (342, f_law_path), (394, f_law_row), (421, f_law_sum_right), (432, f_law_told)]
def fns2 : List (Nat × FnD) := [(437, f_law_trip), (448, f_law_value_class), (460, f_law_written), (497, f_law)]
def tx : Tx where
  fns := fns0 ++ fns1 ++ fns2
  cls := [(25, c_Row), (26, c_Ticket), (29, c_Trip)]
  xcs := [(0, x_BrokenRow), (1, x_ClimbticketsError), (5, x_InvalidAnswer), (6, x_InvalidDesk), (7, x_InvalidGroup), (8, x_InvalidNumber), (9, x_InvalidPlan), (10, x_InvalidProfile), (11, x_InvalidTicket), (12, x_InvalidTrip), (13, x_LimitExceeded), (15, x_MissingTicket), (16, x_NoRounds), (17, x_NoRow), (18, x_NothingToUndo), (19, x_ParseError), (27, x_TooFew), (28, x_TooMany)]
  xis := [(0, .meth "BrokenRow" "__init__"), (5, .meth "InvalidAnswer" "__init__"), (6, .meth "InvalidDesk" "__init__"), (7, .meth "InvalidGroup" "__init__"), (8, .meth "InvalidNumber" "__init__"), (9, .meth "InvalidPlan" "__init__"), (10, .meth "InvalidProfile" "__init__"), (11, .meth "InvalidTicket" "__init__"), (12, .meth "InvalidTrip" "__init__"), (13, .meth "LimitExceeded" "__init__"), (15, .meth "MissingTicket" "__init__"), (16, .meth "NoRounds" "__init__"), (17, .meth "NoRow" "__init__"), (19, .meth "ParseError" "__init__"), (27, .meth "TooFew" "__init__"), (28, .meth "TooMany" "__init__")]
  tabs := [421]
  gls := ([(3, .cls 0), (5, .cls 1), (11, .cls 5), (12, .cls 6), (13, .cls 7), (14, .cls 8), (15, .cls 9), (16, .cls 10), (17, .cls 11), (18, .cls 12), (19, .cls 13), (23, .cls 15), (24, .cls 16), (25, .cls 17), (26, .cls 18), (28, .cls 19), (34, .cls 25), (36, .cls 26), (37, .cls 27), (38, .cls 28), (39, .cls 29), (46, .ty 1), (64, .fn 128), (69, .ty 0), (71, .fn 134)] : List (Nat × G)) ++ ([(73, .fn 136), (74, .fn 137), (79, .bi .isinstance), (82, .bi .len), (83, .ty 4), (85, .bi .max), (86, .bi .min), (106, .bi .sum), (111, .ty 3), (128, .fn 182), (146, .fn 200), (172, .fn 226), (198, .fn 252), (262, .fn 316), (288, .fn 342), (340, .fn 394), (367, .fn 421), (378, .fn 432), (383, .fn 437), (394, .fn 448), (406, .fn 460), (443, .fn 497)] : List (Nat × G))
  wf := 100000
  nms := nmsT
  gns := gnsT
  cns := cnsT
  fps := ([(74, .meth "Row" "__add__"), (75, .meth "Row" "__bool__"), (76, .meth "Row" "__contains__"), (77, .meth "Row" "__eq__"), (78, .meth "Row" "__getitem__"), (79, .meth "Row" "__init__"), (80, .meth "Row" "__iter__"), (81, .meth "Row" "__len__"), (82, .meth "Row" "__lt__"), (83, .prop "Row" "begin"), (84, .prop "Row" "climb"), (85, .meth "Row" "cut"), (86, .prop "Row" "end"), (87, .prop "Row" "tickets"), (88, .meth "Row" "turned"), (89, .meth "Ticket" "__contains__"), (90, .meth "Ticket" "__eq__"), (91, .meth "Ticket" "__getitem__"), (92, .meth "Ticket" "__init__"), (93, .meth "Ticket" "__iter__"), (94, .meth "Ticket" "__lt__"), (95, .prop "Ticket" "is_down"), (96, .prop "Ticket" "is_up"), (97, .meth "Ticket" "turned"), (98, .prop "Ticket" "x")] : List (Nat × Pl)) ++ ([(99, .prop "Ticket" "y"), (100, .meth "Trip" "__add__"), (101, .meth "Trip" "__bool__"), (102, .meth "Trip" "__contains__"), (103, .meth "Trip" "__eq__"), (104, .meth "Trip" "__init__"), (105, .meth "Trip" "__len__"), (106, .meth "Trip" "__lt__"), (107, .prop "Trip" "climbed"), (108, .prop "Trip" "end"), (109, .prop "Trip" "row"), (110, .prop "Trip" "start"), (128, .top "first_break"), (134, .top "is_between"), (136, .top "is_height"), (137, .top "is_integer"), (182, .top "_law_begun"), (200, .top "_law_class"), (226, .top "_law_draw"), (252, .top "_law_folded"), (316, .top "_law_mixed"), (342, .top "_law_path"), (394, .top "_law_row"), (421, .top "_law_sum_right"), (432, .top "_law_told")] : List (Nat × Pl)) ++ ([(437, .top "_law_trip"), (448, .top "_law_value_class"), (460, .top "_law_written"), (497, .top "law")] : List (Nat × Pl))
abbrev P : Prg := tx.G
abbrev nt : Nat := 1
abbrev k_Row_add : Nat := 74
abbrev k_Row_bool : Nat := 75
abbrev k_Row_contains : Nat := 76
abbrev k_Row_eq : Nat := 77
abbrev k_Row_getitem : Nat := 78
abbrev k_Row_init : Nat := 79
abbrev k_Row_iter : Nat := 80
abbrev k_Row_len : Nat := 81
abbrev k_Row_lt : Nat := 82
abbrev k_Row_begin : Nat := 83
abbrev k_Row_climb : Nat := 84
abbrev k_Row_cut : Nat := 85
abbrev k_Row_end : Nat := 86
abbrev k_Row_tickets : Nat := 87
abbrev k_Row_turned : Nat := 88
abbrev k_Ticket_contains : Nat := 89
abbrev k_Ticket_eq : Nat := 90
abbrev k_Ticket_getitem : Nat := 91
abbrev k_Ticket_init : Nat := 92
abbrev k_Ticket_iter : Nat := 93
abbrev k_Ticket_lt : Nat := 94
abbrev k_Ticket_is_down : Nat := 95
abbrev k_Ticket_is_up : Nat := 96
abbrev k_Ticket_turned : Nat := 97
abbrev k_Ticket_x : Nat := 98
abbrev k_Ticket_y : Nat := 99
abbrev k_Trip_add : Nat := 100
abbrev k_Trip_bool : Nat := 101
abbrev k_Trip_contains : Nat := 102
abbrev k_Trip_eq : Nat := 103
abbrev k_Trip_init : Nat := 104
abbrev k_Trip_len : Nat := 105
abbrev k_Trip_lt : Nat := 106
abbrev k_Trip_climbed : Nat := 107
abbrev k_Trip_end : Nat := 108
abbrev k_Trip_row : Nat := 109
abbrev k_Trip_start : Nat := 110
abbrev k_first_break : Nat := 128
abbrev k_is_between : Nat := 134
abbrev k_is_height : Nat := 136
abbrev k_is_integer : Nat := 137
abbrev k_law_begun : Nat := 182
abbrev k_law_class : Nat := 200
abbrev k_law_draw : Nat := 226
abbrev k_law_folded : Nat := 252
abbrev k_law_mixed : Nat := 316
abbrev k_law_path : Nat := 342
abbrev k_law_row : Nat := 394
abbrev k_law_sum_right : Nat := 421
abbrev k_law_told : Nat := 432
abbrev k_law_trip : Nat := 437
abbrev k_law_value_class : Nat := 448
abbrev k_law_written : Nat := 460
abbrev k_law : Nat := 497
@[simp] theorem gl3 : P.gl 3 = some (.cls 0) := rfl
@[simp] theorem gl5 : P.gl 5 = some (.cls 1) := rfl
@[simp] theorem gl11 : P.gl 11 = some (.cls 5) := rfl
@[simp] theorem gl12 : P.gl 12 = some (.cls 6) := rfl
@[simp] theorem gl13 : P.gl 13 = some (.cls 7) := rfl
@[simp] theorem gl14 : P.gl 14 = some (.cls 8) := rfl
@[simp] theorem gl15 : P.gl 15 = some (.cls 9) := rfl
@[simp] theorem gl16 : P.gl 16 = some (.cls 10) := rfl
@[simp] theorem gl17 : P.gl 17 = some (.cls 11) := rfl
@[simp] theorem gl18 : P.gl 18 = some (.cls 12) := rfl
@[simp] theorem gl19 : P.gl 19 = some (.cls 13) := rfl
@[simp] theorem gl23 : P.gl 23 = some (.cls 15) := rfl
@[simp] theorem gl24 : P.gl 24 = some (.cls 16) := rfl
@[simp] theorem gl25 : P.gl 25 = some (.cls 17) := rfl
@[simp] theorem gl26 : P.gl 26 = some (.cls 18) := rfl
@[simp] theorem gl28 : P.gl 28 = some (.cls 19) := rfl
@[simp] theorem gl34 : P.gl 34 = some (.cls 25) := rfl
@[simp] theorem gl36 : P.gl 36 = some (.cls 26) := rfl
@[simp] theorem gl37 : P.gl 37 = some (.cls 27) := rfl
@[simp] theorem gl38 : P.gl 38 = some (.cls 28) := rfl
@[simp] theorem gl39 : P.gl 39 = some (.cls 29) := rfl
@[simp] theorem gl46 : P.gl 46 = some (.ty 1) := rfl
@[simp] theorem gl64 : P.gl 64 = some (.fn 128) := rfl
@[simp] theorem gl69 : P.gl 69 = some (.ty 0) := rfl
@[simp] theorem gl71 : P.gl 71 = some (.fn 134) := rfl
@[simp] theorem gl73 : P.gl 73 = some (.fn 136) := rfl
@[simp] theorem gl74 : P.gl 74 = some (.fn 137) := rfl
@[simp] theorem gl79 : P.gl 79 = some (.bi .isinstance) := rfl
@[simp] theorem gl82 : P.gl 82 = some (.bi .len) := rfl
@[simp] theorem gl83 : P.gl 83 = some (.ty 4) := rfl
@[simp] theorem gl85 : P.gl 85 = some (.bi .max) := rfl
@[simp] theorem gl86 : P.gl 86 = some (.bi .min) := rfl
@[simp] theorem gl106 : P.gl 106 = some (.bi .sum) := rfl
@[simp] theorem gl111 : P.gl 111 = some (.ty 3) := rfl
@[simp] theorem gl128 : P.gl 128 = some (.fn 182) := rfl
@[simp] theorem gl146 : P.gl 146 = some (.fn 200) := rfl
@[simp] theorem gl172 : P.gl 172 = some (.fn 226) := rfl
@[simp] theorem gl198 : P.gl 198 = some (.fn 252) := rfl
@[simp] theorem gl262 : P.gl 262 = some (.fn 316) := rfl
@[simp] theorem gl288 : P.gl 288 = some (.fn 342) := rfl
@[simp] theorem gl340 : P.gl 340 = some (.fn 394) := rfl
@[simp] theorem gl367 : P.gl 367 = some (.fn 421) := rfl
@[simp] theorem gl378 : P.gl 378 = some (.fn 432) := rfl
@[simp] theorem gl383 : P.gl 383 = some (.fn 437) := rfl
@[simp] theorem gl394 : P.gl 394 = some (.fn 448) := rfl
@[simp] theorem gl406 : P.gl 406 = some (.fn 460) := rfl
@[simp] theorem gl443 : P.gl 443 = some (.fn 497) := rfl
@[simp] theorem cl25 : P.cl 25 = some c_Row := rfl
@[simp] theorem xn25 : P.xc 25 = none := rfl
@[simp] theorem cl26 : P.cl 26 = some c_Ticket := rfl
@[simp] theorem xn26 : P.xc 26 = none := rfl
@[simp] theorem cl29 : P.cl 29 = some c_Trip := rfl
@[simp] theorem xn29 : P.xc 29 = none := rfl
@[simp] theorem xc0 : P.xc 0 = some x_BrokenRow := rfl
@[simp] theorem cn0 : P.cl 0 = none := rfl
@[simp] theorem xc1 : P.xc 1 = some x_ClimbticketsError := rfl
@[simp] theorem cn1 : P.cl 1 = none := rfl
@[simp] theorem xc5 : P.xc 5 = some x_InvalidAnswer := rfl
@[simp] theorem cn5 : P.cl 5 = none := rfl
@[simp] theorem xc6 : P.xc 6 = some x_InvalidDesk := rfl
@[simp] theorem cn6 : P.cl 6 = none := rfl
@[simp] theorem xc7 : P.xc 7 = some x_InvalidGroup := rfl
@[simp] theorem cn7 : P.cl 7 = none := rfl
@[simp] theorem xc8 : P.xc 8 = some x_InvalidNumber := rfl
@[simp] theorem cn8 : P.cl 8 = none := rfl
@[simp] theorem xc9 : P.xc 9 = some x_InvalidPlan := rfl
@[simp] theorem cn9 : P.cl 9 = none := rfl
@[simp] theorem xc10 : P.xc 10 = some x_InvalidProfile := rfl
@[simp] theorem cn10 : P.cl 10 = none := rfl
@[simp] theorem xc11 : P.xc 11 = some x_InvalidTicket := rfl
@[simp] theorem cn11 : P.cl 11 = none := rfl
@[simp] theorem xc12 : P.xc 12 = some x_InvalidTrip := rfl
@[simp] theorem cn12 : P.cl 12 = none := rfl
@[simp] theorem xc13 : P.xc 13 = some x_LimitExceeded := rfl
@[simp] theorem cn13 : P.cl 13 = none := rfl
@[simp] theorem xc15 : P.xc 15 = some x_MissingTicket := rfl
@[simp] theorem cn15 : P.cl 15 = none := rfl
@[simp] theorem xc16 : P.xc 16 = some x_NoRounds := rfl
@[simp] theorem cn16 : P.cl 16 = none := rfl
@[simp] theorem xc17 : P.xc 17 = some x_NoRow := rfl
@[simp] theorem cn17 : P.cl 17 = none := rfl
@[simp] theorem xc18 : P.xc 18 = some x_NothingToUndo := rfl
@[simp] theorem cn18 : P.cl 18 = none := rfl
@[simp] theorem xc19 : P.xc 19 = some x_ParseError := rfl
@[simp] theorem cn19 : P.cl 19 = none := rfl
@[simp] theorem xc27 : P.xc 27 = some x_TooFew := rfl
@[simp] theorem cn27 : P.cl 27 = none := rfl
@[simp] theorem xc28 : P.xc 28 = some x_TooMany := rfl
@[simp] theorem cn28 : P.cl 28 = none := rfl
abbrev n_GAPS : Nat := 21
abbrev n_KIND : Nat := 22
abbrev n_MAX_CHANGES : Nat := 23
abbrev n_MAX_HEIGHT : Nat := 24
abbrev n_MAX_TICKETS : Nat := 25
abbrev n___init__ : Nat := 26
abbrev n___iter__ : Nat := 27
abbrev n_a : Nat := 28
abbrev n_above : Nat := 29
abbrev n_answer : Nat := 30
abbrev n_arcs : Nat := 31
abbrev n_arguments : Nat := 32
abbrev n_ask : Nat := 33
abbrev n_at : Nat := 34
abbrev n_b : Nat := 35
abbrev n_back : Nat := 36
abbrev n_base : Nat := 37
abbrev n_begin : Nat := 38
abbrev n_below : Nat := 39
abbrev n_best : Nat := 40
abbrev n_box : Nat := 41
abbrev n_boxes : Nat := 42
abbrev n_c : Nat := 43
abbrev n_call : Nat := 44
abbrev n_cards : Nat := 45
abbrev n_cell : Nat := 46
abbrev n_change : Nat := 47
abbrev n_climb : Nat := 48
abbrev n_climbed : Nat := 49
abbrev n_climbs : Nat := 50
abbrev n_cls : Nat := 51
abbrev n_command : Nat := 52
abbrev n_copy : Nat := 53
abbrev n_current : Nat := 54
abbrev n_cut : Nat := 55
abbrev n_d : Nat := 56
abbrev n_deed : Nat := 57
abbrev n_desk : Nat := 58
abbrev n_desk_here : Nat := 59
abbrev n_desks : Nat := 60
abbrev n_due : Nat := 61
abbrev n_effort : Nat := 62
abbrev n_end : Nat := 63
abbrev n_ends : Nat := 64
abbrev n_ends_here : Nat := 65
abbrev n_ends_text : Nat := 66
abbrev n_error : Nat := 67
abbrev n_every : Nat := 68
abbrev n_excess : Nat := 69
abbrev n_execute : Nat := 70
abbrev n_far : Nat := 71
abbrev n_far_key : Nat := 72
abbrev n_feet : Nat := 73
abbrev n_first : Nat := 74
abbrev n_follow : Nat := 75
abbrev n_foot : Nat := 76
abbrev n_found : Nat := 77
abbrev n_fresh : Nat := 78
abbrev n_gain : Nat := 79
abbrev n_gap : Nat := 80
abbrev n_gate : Nat := 81
abbrev n_goal_here : Nat := 82
abbrev n_gone : Nat := 83
abbrev n_head : Nat := 84
abbrev n_heads : Nat := 85
abbrev n_height : Nat := 86
abbrev n_heights : Nat := 87
abbrev n_high : Nat := 88
abbrev n_highest : Nat := 89
abbrev n_is_desk : Nat := 90
abbrev n_is_down : Nat := 91
abbrev n_is_left : Nat := 92
abbrev n_is_plan : Nat := 93
abbrev n_is_sure : Nat := 94
abbrev n_is_up : Nat := 95
abbrev n_item : Nat := 96
abbrev n_items : Nat := 97
abbrev n_k : Nat := 98
abbrev n_kept : Nat := 99
abbrev n_key : Nat := 100
abbrev n_kind : Nat := 101
abbrev n_known : Nat := 102
abbrev n_last : Nat := 103
abbrev n_level : Nat := 104
abbrev n_levels : Nat := 105
abbrev n_limit : Nat := 106
abbrev n_line : Nat := 107
abbrev n_lines : Nat := 108
abbrev n_links : Nat := 109
abbrev n_live : Nat := 110
abbrev n_log : Nat := 111
abbrev n_low : Nat := 112
abbrev n_lowest : Nat := 113
abbrev n_m : Nat := 114
abbrev n_many : Nat := 115
abbrev n_marks : Nat := 116
abbrev n_mask : Nat := 117
abbrev n_middle : Nat := 118
abbrev n_most : Nat := 119
abbrev n_n : Nat := 120
abbrev n_name : Nat := 121
abbrev n_near : Nat := 122
abbrev n_needed : Nat := 123
abbrev n_needs : Nat := 124
abbrev n_new : Nat := 125
abbrev n_number : Nat := 126
abbrev n_number_here : Nat := 127
abbrev n_numbers : Nat := 128
abbrev n_numbers_here : Nat := 129
abbrev n_odd : Nat := 130
abbrev n_of_pairs : Nat := 131
abbrev n_old : Nat := 132
abbrev n_one : Nat := 133
abbrev n_one_key : Nat := 134
abbrev n_ones : Nat := 135
abbrev n_other : Nat := 136
abbrev n_others : Nat := 137
abbrev n_p : Nat := 138
abbrev n_pair : Nat := 139
abbrev n_pairs : Nat := 140
abbrev n_part : Nat := 141
abbrev n_past : Nat := 142
abbrev n_path : Nat := 143
abbrev n_peak : Nat := 144
abbrev n_place : Nat := 145
abbrev n_plan : Nat := 146
abbrev n_profile : Nat := 147
abbrev n_put : Nat := 148
abbrev n_q : Nat := 149
abbrev n_rank : Nat := 150
abbrev n_reason : Nat := 151
abbrev n_rest : Nat := 152
abbrev n_rounds_text : Nat := 153
abbrev n_row : Nat := 154
abbrev n_row_here : Nat := 155
abbrev n_rows : Nat := 156
abbrev n_run : Nat := 157
abbrev n_s : Nat := 158
abbrev n_script : Nat := 159
abbrev n_self : Nat := 160
abbrev n_sets : Nat := 161
abbrev n_sign : Nat := 162
abbrev n_size : Nat := 163
abbrev n_spot : Nat := 164
abbrev n_spots : Nat := 165
abbrev n_start : Nat := 166
abbrev n_starts : Nat := 167
abbrev n_starts_here : Nat := 168
abbrev n_states : Nat := 169
abbrev n_steps : Nat := 170
abbrev n_strict : Nat := 171
abbrev n_t : Nat := 172
abbrev n_table : Nat := 173
abbrev n_take : Nat := 174
abbrev n_text : Nat := 175
abbrev n_text_here : Nat := 176
abbrev n_thing_here : Nat := 177
abbrev n_things : Nat := 178
abbrev n_ticket : Nat := 179
abbrev n_tickets : Nat := 180
abbrev n_told : Nat := 181
abbrev n_top : Nat := 182
abbrev n_tops : Nat := 183
abbrev n_trip : Nat := 184
abbrev n_trips : Nat := 185
abbrev n_turned : Nat := 186
abbrev n_twin : Nat := 187
abbrev n_two : Nat := 188
abbrev n_twos : Nat := 189
abbrev n_undo : Nat := 190
abbrev n_v : Nat := 191
abbrev n_value : Nat := 192
abbrev n_walkers : Nat := 193
abbrev n_width : Nat := 194
abbrev n_wished : Nat := 195
abbrev n_word : Nat := 196
abbrev n_words : Nat := 197
abbrev n_x : Nat := 198
abbrev n_y : Nat := 199
abbrev C_Row : Nat := 25
abbrev C_Ticket : Nat := 26
abbrev C_Trip : Nat := 29
abbrev C_BrokenRow : Nat := 0
abbrev C_ClimbticketsError : Nat := 1
abbrev C_InvalidAnswer : Nat := 5
abbrev C_InvalidDesk : Nat := 6
abbrev C_InvalidGroup : Nat := 7
abbrev C_InvalidNumber : Nat := 8
abbrev C_InvalidPlan : Nat := 9
abbrev C_InvalidProfile : Nat := 10
abbrev C_InvalidTicket : Nat := 11
abbrev C_InvalidTrip : Nat := 12
abbrev C_LimitExceeded : Nat := 13
abbrev C_MissingTicket : Nat := 15
abbrev C_NoRounds : Nat := 16
abbrev C_NoRow : Nat := 17
abbrev C_NothingToUndo : Nat := 18
abbrev C_ParseError : Nat := 19
abbrev C_TooFew : Nat := 27
abbrev C_TooMany : Nat := 28
end LW
end
section
set_option Elab.async false
set_option linter.all false
set_option maxRecDepth 100000
set_option maxHeartbeats 0
namespace LW
open PySem PySem.Spec PyProof.Rows L2 Ev
def top (i : Nat) : Stmt := PySem.Challenge.pw_climbtickets_k51_trips_joined.main.body.getD i (.Pass ⟨0, 0, 0, 0⟩)
def inC (i j : Nat) : Stmt := match top i with
  | .ClassDef _ _ _ b _ _ _ _ _ _ _ => b.getD j (.Pass ⟨0, 0, 0, 0⟩)
  | s => s
def d_Row_add : Df := { pl := .meth "Row" "__add__", name := "__add__", qual := "Row.__add__", st := inC 25 12, N := ["self", "other"], ps := ["self", "other"], dn := 0, kn := [] }
def d_Row_bool : Df := { pl := .meth "Row" "__bool__", name := "__bool__", qual := "Row.__bool__", st := inC 25 6, N := ["self"], ps := ["self"], dn := 0, kn := [] }
def d_Row_contains : Df := { pl := .meth "Row" "__contains__", name := "__contains__", qual := "Row.__contains__", st := inC 25 9, N := ["self", "ticket"], ps := ["self", "ticket"], dn := 0, kn := [] }
def d_Row_eq : Df := { pl := .meth "Row" "__eq__", name := "__eq__", qual := "Row.__eq__", st := inC 25 7, N := ["self", "other"], ps := ["self", "other"], dn := 0, kn := [] }
def d_Row_getitem : Df := { pl := .meth "Row" "__getitem__", name := "__getitem__", qual := "Row.__getitem__", st := inC 25 10, N := ["self", "at"], ps := ["self", "at"], dn := 0, kn := [] }
def d_Row_init : Df := { pl := .meth "Row" "__init__", name := "__init__", qual := "Row.__init__", st := inC 25 0, N := ["self", "tickets", "spot", "card", "one", "other"], ps := ["self", "tickets"], dn := 0, kn := [] }
def d_Row_iter : Df := { pl := .meth "Row" "__iter__", name := "__iter__", qual := "Row.__iter__", st := inC 25 11, N := ["self"], ps := ["self"], dn := 0, kn := [] }
def d_Row_len : Df := { pl := .meth "Row" "__len__", name := "__len__", qual := "Row.__len__", st := inC 25 5, N := ["self"], ps := ["self"], dn := 0, kn := [] }
def d_Row_lt : Df := { pl := .meth "Row" "__lt__", name := "__lt__", qual := "Row.__lt__", st := inC 25 8, N := ["self", "other"], ps := ["self", "other"], dn := 0, kn := [] }
def d_Row_begin : Df := { pl := .prop "Row" "begin", name := "begin", qual := "Row.begin", st := inC 25 2, N := ["self"], ps := ["self"], dn := 0, kn := [] }
def d_Row_climb : Df := { pl := .prop "Row" "climb", name := "climb", qual := "Row.climb", st := inC 25 4, N := ["self"], ps := ["self"], dn := 0, kn := [] }
def d_Row_cut : Df := { pl := .meth "Row" "cut", name := "cut", qual := "Row.cut", st := inC 25 13, N := ["self", "number"], ps := ["self", "number"], dn := 0, kn := [] }
def d_Row_end : Df := { pl := .prop "Row" "end", name := "end", qual := "Row.end", st := inC 25 3, N := ["self"], ps := ["self"], dn := 0, kn := [] }
def d_Row_tickets : Df := { pl := .prop "Row" "tickets", name := "tickets", qual := "Row.tickets", st := inC 25 1, N := ["self"], ps := ["self"], dn := 0, kn := [] }
def d_Row_turned : Df := { pl := .meth "Row" "turned", name := "turned", qual := "Row.turned", st := inC 25 14, N := ["self", "cards", "card"], ps := ["self"], dn := 0, kn := [] }
def d_Ticket_contains : Df := { pl := .meth "Ticket" "__contains__", name := "__contains__", qual := "Ticket.__contains__", st := inC 23 8, N := ["self", "height"], ps := ["self", "height"], dn := 0, kn := [] }
def d_Ticket_eq : Df := { pl := .meth "Ticket" "__eq__", name := "__eq__", qual := "Ticket.__eq__", st := inC 23 6, N := ["self", "other"], ps := ["self", "other"], dn := 0, kn := [] }
def d_Ticket_getitem : Df := { pl := .meth "Ticket" "__getitem__", name := "__getitem__", qual := "Ticket.__getitem__", st := inC 23 9, N := ["self", "at"], ps := ["self", "at"], dn := 0, kn := [] }
def d_Ticket_init : Df := { pl := .meth "Ticket" "__init__", name := "__init__", qual := "Ticket.__init__", st := inC 23 1, N := ["self", "x", "y"], ps := ["self", "x", "y"], dn := 0, kn := [] }
def d_Ticket_iter : Df := { pl := .meth "Ticket" "__iter__", name := "__iter__", qual := "Ticket.__iter__", st := inC 23 10, N := ["self"], ps := ["self"], dn := 0, kn := [] }
def d_Ticket_lt : Df := { pl := .meth "Ticket" "__lt__", name := "__lt__", qual := "Ticket.__lt__", st := inC 23 7, N := ["self", "other"], ps := ["self", "other"], dn := 0, kn := [] }
def d_Ticket_is_down : Df := { pl := .prop "Ticket" "is_down", name := "is_down", qual := "Ticket.is_down", st := inC 23 5, N := ["self"], ps := ["self"], dn := 0, kn := [] }
def d_Ticket_is_up : Df := { pl := .prop "Ticket" "is_up", name := "is_up", qual := "Ticket.is_up", st := inC 23 4, N := ["self"], ps := ["self"], dn := 0, kn := [] }
def d_Ticket_turned : Df := { pl := .meth "Ticket" "turned", name := "turned", qual := "Ticket.turned", st := inC 23 11, N := ["self"], ps := ["self"], dn := 0, kn := [] }
def d_Ticket_x : Df := { pl := .prop "Ticket" "x", name := "x", qual := "Ticket.x", st := inC 23 2, N := ["self"], ps := ["self"], dn := 0, kn := [] }
def d_Ticket_y : Df := { pl := .prop "Ticket" "y", name := "y", qual := "Ticket.y", st := inC 23 3, N := ["self"], ps := ["self"], dn := 0, kn := [] }
def d_Trip_add : Df := { pl := .meth "Trip" "__add__", name := "__add__", qual := "Trip.__add__", st := inC 28 10, N := ["self", "other"], ps := ["self", "other"], dn := 0, kn := [] }
def d_Trip_bool : Df := { pl := .meth "Trip" "__bool__", name := "__bool__", qual := "Trip.__bool__", st := inC 28 6, N := ["self"], ps := ["self"], dn := 0, kn := [] }
def d_Trip_contains : Df := { pl := .meth "Trip" "__contains__", name := "__contains__", qual := "Trip.__contains__", st := inC 28 9, N := ["self", "ticket"], ps := ["self", "ticket"], dn := 0, kn := [] }
def d_Trip_eq : Df := { pl := .meth "Trip" "__eq__", name := "__eq__", qual := "Trip.__eq__", st := inC 28 7, N := ["self", "other"], ps := ["self", "other"], dn := 0, kn := [] }
def d_Trip_init : Df := { pl := .meth "Trip" "__init__", name := "__init__", qual := "Trip.__init__", st := inC 28 0, N := ["self", "start", "row", "end", "height"], ps := ["self", "start", "row", "end"], dn := 0, kn := [] }
def d_Trip_len : Df := { pl := .meth "Trip" "__len__", name := "__len__", qual := "Trip.__len__", st := inC 28 5, N := ["self"], ps := ["self"], dn := 0, kn := [] }
def d_Trip_lt : Df := { pl := .meth "Trip" "__lt__", name := "__lt__", qual := "Trip.__lt__", st := inC 28 8, N := ["self", "other"], ps := ["self", "other"], dn := 0, kn := [] }
def d_Trip_climbed : Df := { pl := .prop "Trip" "climbed", name := "climbed", qual := "Trip.climbed", st := inC 28 4, N := ["self"], ps := ["self"], dn := 0, kn := [] }
def d_Trip_end : Df := { pl := .prop "Trip" "end", name := "end", qual := "Trip.end", st := inC 28 3, N := ["self"], ps := ["self"], dn := 0, kn := [] }
def d_Trip_row : Df := { pl := .prop "Trip" "row", name := "row", qual := "Trip.row", st := inC 28 2, N := ["self"], ps := ["self"], dn := 0, kn := [] }
def d_Trip_start : Df := { pl := .prop "Trip" "start", name := "start", qual := "Trip.start", st := inC 28 1, N := ["self"], ps := ["self"], dn := 0, kn := [] }
def d_first_break : Df := { pl := .top "first_break", name := "first_break", qual := "first_break", st := top 24, N := ["cards", "spot", "card"], ps := ["cards"], dn := 0, kn := [] }
def d_is_between : Df := { pl := .top "is_between", name := "is_between", qual := "is_between", st := top 22, N := ["value", "low", "high"], ps := ["value", "low", "high"], dn := 0, kn := [] }
def d_is_height : Df := { pl := .top "is_height", name := "is_height", qual := "is_height", st := top 27, N := ["value"], ps := ["value"], dn := 0, kn := [] }
def d_is_integer : Df := { pl := .top "is_integer", name := "is_integer", qual := "is_integer", st := top 21, N := ["value"], ps := ["value"], dn := 0, kn := [] }
def d_law_begun : Df := { pl := .top "_law_begun", name := "_law_begun", qual := "_law_begun", st := top 33, N := ["script", "m", "cell"], ps := ["script"], dn := 0, kn := [] }
def d_law_class : Df := { pl := .top "_law_class", name := "_law_class", qual := "_law_class", st := top 37, N := ["error"], ps := ["error"], dn := 0, kn := [] }
def d_law_draw : Df := { pl := .top "_law_draw", name := "_law_draw", qual := "_law_draw", st := top 32, N := ["m", "top", "n", "at", "cell"], ps := ["m", "top"], dn := 0, kn := [] }
def d_law_folded : Df := { pl := .top "_law_folded", name := "_law_folded", qual := "_law_folded", st := top 31, N := ["script", "found", "n", "cell"], ps := ["script"], dn := 0, kn := [] }
def d_law_mixed : Df := { pl := .top "_law_mixed", name := "_law_mixed", qual := "_law_mixed", st := top 30, N := ["cell", "n", "turned"], ps := ["cell", "n"], dn := 0, kn := [] }
def d_law_path : Df := { pl := .top "_law_path", name := "_law_path", qual := "_law_path", st := top 34, N := ["m", "low", "high", "many", "found", "here", "n", "far"], ps := ["m", "low", "high", "many"], dn := 0, kn := [] }
def d_law_row : Df := { pl := .top "_law_row", name := "_law_row", qual := "_law_row", st := top 35, N := ["pairs", "line", "near", "far"], ps := ["pairs"], dn := 0, kn := [] }
def d_law_sum_right : Df := { pl := .top "_law_sum_right", name := "_law_sum_right", qual := "_law_sum_right", st := top 41, N := ["one", "two", "told", lamNm 0], ps := ["one", "two"], dn := 0, kn := [] }
def d_law_told : Df := { pl := .top "_law_told", name := "_law_told", qual := "_law_told", st := top 39, N := ["deed", "error", "found", "e"], ps := ["deed"], dn := 0, kn := [] }
def d_law_trip : Df := { pl := .top "_law_trip", name := "_law_trip", qual := "_law_trip", st := top 40, N := ["m", "foot", "pairs", "top"], ps := ["m", "foot"], dn := 0, kn := [] }
def d_law_value_class : Df := { pl := .top "_law_value_class", name := "_law_value_class", qual := "_law_value_class", st := top 38, N := ["error"], ps := ["error"], dn := 0, kn := [] }
def d_law_written : Df := { pl := .top "_law_written", name := "_law_written", qual := "_law_written", st := top 36, N := ["line", "one"], ps := ["line"], dn := 0, kn := [] }
def d_law : Df := { pl := .top "law", name := "law", qual := "law", st := top 42, N := ["script", "m", "bout", "one", "two", "three", "none_here"], ps := ["script"], dn := 0, kn := [] }
def dx_BrokenRow : Df := { pl := .meth "BrokenRow" "__init__", name := "__init__", qual := "BrokenRow.__init__", st := inC 4 0, N := ["self", "spot"], ps := ["self", "spot"], dn := 0, kn := [] }
def dx_InvalidAnswer : Df := { pl := .meth "InvalidAnswer" "__init__", name := "__init__", qual := "InvalidAnswer.__init__", st := inC 10 0, N := ["self", "part"], ps := ["self", "part"], dn := 0, kn := [] }
def dx_InvalidDesk : Df := { pl := .meth "InvalidDesk" "__init__", name := "__init__", qual := "InvalidDesk.__init__", st := inC 6 0, N := ["self", "spot"], ps := ["self", "spot"], dn := 1, kn := [] }
def dx_InvalidGroup : Df := { pl := .meth "InvalidGroup" "__init__", name := "__init__", qual := "InvalidGroup.__init__", st := inC 16 0, N := ["self", "part", "spot"], ps := ["self", "part", "spot"], dn := 1, kn := [] }
def dx_InvalidNumber : Df := { pl := .meth "InvalidNumber" "__init__", name := "__init__", qual := "InvalidNumber.__init__", st := inC 8 0, N := ["self", "value"], ps := ["self", "value"], dn := 0, kn := [] }
def dx_InvalidPlan : Df := { pl := .meth "InvalidPlan" "__init__", name := "__init__", qual := "InvalidPlan.__init__", st := inC 9 0, N := ["self", "part", "spot"], ps := ["self", "part", "spot"], dn := 1, kn := [] }
def dx_InvalidProfile : Df := { pl := .meth "InvalidProfile" "__init__", name := "__init__", qual := "InvalidProfile.__init__", st := inC 5 0, N := ["self", "spot"], ps := ["self", "spot"], dn := 1, kn := [] }
def dx_InvalidTicket : Df := { pl := .meth "InvalidTicket" "__init__", name := "__init__", qual := "InvalidTicket.__init__", st := inC 3 0, N := ["self", "part"], ps := ["self", "part"], dn := 0, kn := [] }
def dx_InvalidTrip : Df := { pl := .meth "InvalidTrip" "__init__", name := "__init__", qual := "InvalidTrip.__init__", st := inC 15 0, N := ["self", "part"], ps := ["self", "part"], dn := 0, kn := [] }
def dx_LimitExceeded : Df := { pl := .meth "LimitExceeded" "__init__", name := "__init__", qual := "LimitExceeded.__init__", st := inC 17 0, N := ["self", "limit"], ps := ["self", "limit"], dn := 0, kn := [] }
def dx_MissingTicket : Df := { pl := .meth "MissingTicket" "__init__", name := "__init__", qual := "MissingTicket.__init__", st := inC 7 0, N := ["self", "value"], ps := ["self", "value"], dn := 0, kn := [] }
def dx_NoRounds : Df := { pl := .meth "NoRounds" "__init__", name := "__init__", qual := "NoRounds.__init__", st := inC 14 0, N := ["self", "gap"], ps := ["self", "gap"], dn := 0, kn := [] }
def dx_NoRow : Df := { pl := .meth "NoRow" "__init__", name := "__init__", qual := "NoRow.__init__", st := inC 13 0, N := ["self", "reason"], ps := ["self", "reason"], dn := 0, kn := [] }
def dx_ParseError : Df := { pl := .meth "ParseError" "__init__", name := "__init__", qual := "ParseError.__init__", st := inC 19 0, N := ["self", "line", "word"], ps := ["self", "line", "word"], dn := 0, kn := [] }
def dx_TooFew : Df := { pl := .meth "TooFew" "__init__", name := "__init__", qual := "TooFew.__init__", st := inC 11 0, N := ["self", "reason"], ps := ["self", "reason"], dn := 0, kn := [] }
def dx_TooMany : Df := { pl := .meth "TooMany" "__init__", name := "__init__", qual := "TooMany.__init__", st := inC 12 0, N := ["self", "limit"], ps := ["self", "limit"], dn := 0, kn := [] }
def ds : List Df := ([d_Row_add, d_Row_bool, d_Row_contains, d_Row_eq, d_Row_getitem, d_Row_init, d_Row_iter, d_Row_len, d_Row_lt, d_Row_begin, d_Row_climb, d_Row_cut, d_Row_end, d_Row_tickets, d_Row_turned, d_Ticket_contains, d_Ticket_eq, d_Ticket_getitem, d_Ticket_init, d_Ticket_iter, d_Ticket_lt, d_Ticket_is_down, d_Ticket_is_up, d_Ticket_turned, d_Ticket_x] : List Df) ++ ([d_Ticket_y, d_Trip_add, d_Trip_bool, d_Trip_contains, d_Trip_eq, d_Trip_init, d_Trip_len, d_Trip_lt, d_Trip_climbed, d_Trip_end, d_Trip_row, d_Trip_start, d_first_break, d_is_between, d_is_height, d_is_integer, d_law_begun, d_law_class, d_law_draw, d_law_folded, d_law_mixed, d_law_path, d_law_row, d_law_sum_right, d_law_told] : List Df) ++ ([d_law_trip, d_law_value_class, d_law_written, d_law, dx_BrokenRow, dx_InvalidAnswer, dx_InvalidDesk, dx_InvalidGroup, dx_InvalidNumber, dx_InvalidPlan, dx_InvalidProfile, dx_InvalidTicket, dx_InvalidTrip, dx_LimitExceeded, dx_MissingTicket, dx_NoRounds, dx_NoRow, dx_ParseError, dx_TooFew, dx_TooMany] : List Df)
end LW
end
section
set_option Elab.async false
set_option linter.all false
set_option maxRecDepth 100000
set_option maxHeartbeats 0
namespace LW
open PySem PySem.Spec PyProof.Rows L2 Ev
abbrev R : PySem.W.OpenRow := PySem.W.OpenLaw.row PySem.Challenge.rw_climbtickets_k51_trips_joined
abbrev hk : PySem.W.Hook := hookV 20000 ds tx
def ob (s : PySem.W.SharedT) : He.AlD := obsV 20000 ds tx.Ex (HandSHeadRun.getT s)
theorem ob_eq (s : PySem.W.SharedT) : ob s = hk.obs s.abs := obsV_eq (HandSHeadRun.getT_eq s)
def loose0 : List Str := ["_wall", "ClimbticketsError", "InvalidTicket", "BrokenRow", "InvalidProfile", "InvalidDesk", "MissingTicket", "InvalidNumber", "InvalidPlan", "InvalidAnswer", "TooFew", "TooMany", "NoRow", "NoRounds", "InvalidTrip", "InvalidGroup", "LimitExceeded", "NothingToUndo", "ParseError", "is_integer", "is_between", "Ticket", "first_break", "Row", "is_height", "Trip", "_law_mixed", "_law_folded", "_law_draw", "_law_begun"]
def loose1 : List Str := ["_law_path", "_law_row", "_law_written", "_law_class", "_law_value_class", "_law_told", "_law_trip", "_law_sum_right", "__name__"]
abbrev loose : List Str := loose0 ++ loose1
theorem headRun (w : World) : HandSHeadRun.RunEq R (PySem.W.view R.prog [42]) hk ob 9000 loose w := by
  intro os
  kernel_rfl
end LW
end
section
set_option Elab.async false
set_option linter.all false
set_option maxRecDepth 100000
set_option maxHeartbeats 1000000
/-! Ev, part D: contexts, states of a body, what a def promises. -/
namespace Ev
open PySem PySem.Spec PyProof.Rows L2

structure LeZ (Z : Addr → Prop) (φ : List Addr) (H : Hp) (Z' : Addr → Prop) (φ' : List Addr) (H' : Hp) : Prop where
  pf : ∀ (n : Nat) (a : Addr), φ[n]? = some a → φ'[n]? = some a
  zs : ∀ (a : Addr), Z a → Z' a ∧ H' a = H a
theorem LeZ.refl {Z : Addr → Prop} {φ : List Addr} {H : Hp} : LeZ Z φ H Z φ H := ⟨fun _ _ h => h, fun _ z => ⟨z, rfl⟩⟩
theorem LeZ.trans {Z Z1 Z2 : Addr → Prop} {φ φ1 φ2 : List Addr} {H H1 H2 : Hp} (a : LeZ Z φ H Z1 φ1 H1) (b : LeZ Z1 φ1 H1 Z2 φ2 H2) : LeZ Z φ H Z2 φ2 H2 :=
  ⟨fun n x h => b.pf n x (a.pf n x h), fun x z => ⟨(b.zs x (a.zs x z).1).1, (b.zs x (a.zs x z).1).2.trans (a.zs x z).2⟩⟩
theorem Le.z {Γ : Gam} {Z Z' : Addr → Prop} {φ φ' : List Addr} {H H' : Hp} {h : Hh} (r : R Γ Z φ H h) (le : Le Z φ H Z' φ' H') : LeZ Z φ H Z' φ' H' := ⟨le.pf, fun a z => r.zs le z⟩
/-- where a body began -/
structure Bs where
  Z : Addr → Prop
  φ : List Addr
  H : Hp
  x : Addr
  /-- where its innermost loop began -/
  Zl : Addr → Prop
  φl : List Addr
  Hl : Hp
  /-- the closure that it got, which stands at x -/
  clo : Option (CE × Sl)
/-- the same body: where it began is the same -/
def Bs.same (b' b : Bs) : Prop := b'.clo = b.clo ∧ b'.x = b.x ∧ b'.Z = b.Z ∧ b'.φ = b.φ ∧ b'.H = b.H
theorem Bs.same_refl (b : Bs) : b.same b := ⟨rfl, rfl, rfl, rfl, rfl⟩
theorem Bs.same_trans {a b c : Bs} (h : a.same b) (k : b.same c) : a.same c := ⟨h.1.trans k.1, h.2.1.trans k.2.1, h.2.2.1.trans k.2.2.1, h.2.2.2.1.trans k.2.2.2.1, h.2.2.2.2.trans k.2.2.2.2⟩
/-- a closure's slot -/
def HC (b : Bs) (σ : Sl) (σv : L2.St) : Prop := ∀ (i : Nat) (bb : CE) (σ' : Sl), σ[i]? = some (.clo bb σ') → b.clo = some (bb, σ') ∧ σv[i]? = some (some (.ref b.x))
def SV.isClo : SV → Bool
  | .clo _ _ => true
  | _ => false
theorem held_nclo {x : SV} (h : x.held = true) : x.isClo = false := by cases x <;> first | rfl | cases h
theorem HC.set {b : Bs} {σ : Sl} {σv : L2.St} (f : HC b σ σv) (i : Nat) {x : SV} {o : Option V} (hx : x.isClo = false) : HC b (σ.set i x) (σv.set i o) := fun j bb σ' e => by
  by_cases hj : i = j
  · subst hj
    have hl : i < σ.length := by
      have := (List.getElem?_eq_some_iff.mp e).1
      simpa using this
    rw [List.getElem?_set_self hl] at e
    cases e
    cases hx
  · rw [List.getElem?_set_ne hj] at e
    obtain ⟨h1, h2⟩ := f j bb σ' e
    exact ⟨h1, by rw [List.getElem?_set_ne hj]; exact h2⟩
theorem HC.set1 {b : Bs} {σ : Sl} {σv : L2.St} (f : HC b σ σv) (i : Nat) {x : SV} (hx : x.isClo = false) : HC b (σ.set i x) σv := fun j bb σ' e => by
  by_cases hj : i = j
  · subst hj
    have hl : i < σ.length := by
      have := (List.getElem?_eq_some_iff.mp e).1
      simpa using this
    rw [List.getElem?_set_self hl] at e
    cases e
    cases hx
  · rw [List.getElem?_set_ne hj] at e
    exact f j bb σ' e
/-- what a name alone holds was made since -/
structure HF (b : Bs) (σ : Sl) (σv : L2.St) : Prop where
  h : ∀ (i : Nat) (x : SV) (p : Addr), σ[i]? = some x → x.held = true → σv[i]? = some (some (.ref p)) → b.H p = none ∧ ∀ (c : Nat) (fs : List (Nat × T)), x = .self c fs → p = b.x
  c : HC b σ σv
structure At (Γ : Gam) (b : Bs) (σ : Sl) (σv : L2.St) (Z : Addr → Prop) (φ : List Addr) (H : Hp) (h : Hh) : Prop where
  r : R Γ Z φ H h
  s : SR Γ Z φ H σ σv
  le : Le b.Z b.φ b.H Z φ H
  hf : HF b σ σv
  lz : LeZ b.Zl b.φl b.Hl Z φ H
theorem Le.live {Γ : Gam} {Z Z' : Addr → Prop} {φ φ' : List Addr} {H H' : Hp} {h' : Hh} (le : Le Z φ H Z' φ' H') (r : R Γ Z' φ' H' h') {p : Addr} {u : HO} (e : H p = some u) : ∃ u', H' p = some u' := by
  by_cases hm : p ∈ φ
  · obtain ⟨n, hn, en⟩ := List.getElem_of_mem hm
    have := le.pf n p (by rw [List.getElem?_eq_getElem hn, en])
    exact r.some (List.mem_of_getElem? this)
  · exact ⟨u, (le.kp p u e hm).1⟩
theorem At.later {Γ : Gam} {b : Bs} {σ : Sl} {σv : L2.St} {Z Z' : Addr → Prop} {φ φ' : List Addr} {H H' : Hp} {h h' : Hh} (a : At Γ b σ σv Z φ H h) (le : Le Z φ H Z' φ' H') (r : R Γ Z' φ' H' h') : At Γ b σ σv Z' φ' H' h' :=
  ⟨r, a.s.mono a.r le, a.le.trans le, a.hf, a.lz.trans (le.z a.r)⟩

structure Gd (Γ : Gam) (n : Nat) (X : Cx) (W : WX) : Prop where
  K : X.K = Γ.K
  prog : X.prog = Γ.prog
  w : X.w = Γ.w
  mg : X.mg = Γ.mg
  base : X.base = Γ.base
  nd : X.N.Nodup
  room : Room n X.A
  tk : Takes X W
  calm : X.calm = true
  lam : ∀ (t : Nat) (ti : TabI), Γ.tb[t]? = some ti → lamNm t ∈ X.N → hasOwn X.env.scope = true → X.env.code = .ref ti.code ∧ X.env.qual ++ "<lambda>" = ti.q
theorem Gd.down {Γ : Gam} {n m : Nat} {X : Cx} {W : WX} (g : Gd Γ n X W) (h : m ≤ n) : Gd Γ m X W := ⟨g.K, g.prog, g.w, g.mg, g.base, g.nd, g.room.mono h, g.tk, g.calm, g.lam⟩
def Gam.nms (Γ : Gam) : Nms := ⟨Γ.nm, Γ.gn, Γ.G.gl⟩
def Gam.at_ (Γ : Gam) (n : Nat) : Rec := run Γ.G Γ.wf n
theorem at_succ (Γ : Gam) (n : Nat) : Γ.at_ (n + 1) = step Γ.G (Γ.at_ n) Γ.wf := rfl

/-- keywords -/
def KRel (Γ : Gam) (Z : Addr → Prop) (φ : List Addr) (H : Hp) (kws : List (Str × Value)) (ks : List (Nat × T)) : Prop :=
  ∃ (ws : List Value) (vs : List V), kws = (ks.map fun p => Γ.nm p.1).zip ws ∧ Vals vs ws ∧ TVs Γ Z φ H vs (ks.map (·.2))
abbrev WofE (E : XK) : WX := fun cls d _ H => E cls d H
/-- what the f-th def promises -/
def FnG (Γ : Gam) (P : Program) (w : World) (K : PySem.W.Frag) (mg : Str → Option Value) (base : Heap) (k : Nat) (f : Nat) (r : Rec) (d : FnD) : Prop :=
  ∀ (A : Around) (outer : List Env) (s : Shared) (H : Hp) (us : List Value) (kws : List (Str × Value)) (vs : List V) (Z : Addr → Prop) (φ : List Addr) (h : Hh) (ts : List T) (ks : List (Nat × T)) (bs : List T) (Q : VK) (E : XK),
    Room k A → Env0 P w K mg base A outer s H → Vals vs us → R Γ Z φ H h → TVs Γ Z φ H vs ts → KRel Γ Z φ H kws ks → bindA d ts ks = some bs →
    Post Γ (WofE E) [] (TV Γ) Z φ H (r.call f bs h) Q → codeAny (model P w) A (.call (.ref (Γ.fA f)) ⟨us, kws⟩) (CR (L2.CX P w) outer P w H s Q E) s
def FnAll (Γ : Gam) (n : Nat) : Prop := ∀ (f : Nat) (d : FnD), Γ.G.fn f = some d → FnG Γ Γ.prog Γ.w Γ.K Γ.mg Γ.base n f (Γ.at_ n) d
/-- an instance in the making -/
def RI (Γ : Gam) (x : Addr) (c : Nat) (Z : Addr → Prop) (φ : List Addr) (H : Hp) (b : V) (fs : List (Nat × T)) : Prop :=
  b = .non ∧ ∃ (dx : Addr) (gs : List (Str × V)), H x = some (.ins (Γ.cA c) dx gs) ∧ TFs Γ Z φ H gs fs ∧ ¬ Z x ∧ x ∉ φ
/-- what the f-th def promises as an __init__: x and its dict stand over the heap H -/
def FnI (Γ : Gam) (P : Program) (w : World) (K : PySem.W.Frag) (mg : Str → Option Value) (base : Heap) (k : Nat) (f : Nat) (r : Rec) (d : FnD) : Prop :=
  ∀ (A : Around) (outer : List Env) (s : Shared) (H : Hp) (c : Nat) (x dx : Addr) (us : List Value) (kws : List (Str × Value)) (vs : List V) (Z : Addr → Prop) (φ : List Addr) (h : Hh) (ts : List T) (ks : List (Nat × T)) (bs : List T) (Q : VK) (E : XK),
    H x = none → H dx = none → dx ≠ x → Room k A → Env0 P w K mg base A outer s (upd (upd H dx (.own x)) x (.ins (Γ.cA c) dx [])) → Vals vs us → R Γ Z φ H h → TVs Γ Z φ H vs ts → KRel Γ Z φ H kws ks → bindA d (.non :: ts) ks = some (.non :: bs) →
    Post Γ (WofE E) [] (RI Γ x c) Z φ H (r.init f c [] bs h) Q → codeAny (model P w) A (.call (.ref (Γ.fA f)) ⟨.ref x :: us, kws⟩) (CR (L2.CX P w) outer P w (upd (upd H dx (.own x)) x (.ins (Γ.cA c) dx [])) s Q E) s
def FiAll (Γ : Gam) (n : Nat) : Prop := ∀ (f : Nat) (d : FnD), Γ.G.fn f = some d → FnI Γ Γ.prog Γ.w Γ.K Γ.mg Γ.base n f (Γ.at_ n) d

/-- what must follow a statement's flow -/
def PostS (Γ : Gam) (W : WX) (b : Bs) (D : Ends) : So → Prop
  | none => False
  | some (.nx σ, h) => ∀ (Z : Addr → Prop) (φ : List Addr) (H : Hp) (σv : L2.St), At Γ b σ σv Z φ H h → D.nx σv H
  | some (.bk σ, h) => ∀ (Z : Addr → Prop) (φ : List Addr) (H : Hp) (σv : L2.St), At Γ b σ σv Z φ H h → D.bk σv H
  | some (.ct σ, h) => ∀ (Z : Addr → Prop) (φ : List Addr) (H : Hp) (σv : L2.St), At Γ b σ σv Z φ H h → D.ct σv H
  | some (.rt t, h) => ∀ (Z : Addr → Prop) (φ : List Addr) (H : Hp) (v : V), Le b.Z b.φ b.H Z φ H → R Γ Z φ H h → TV Γ Z φ H v t → D.rt v H
  | some (.ex c fs σ, h) => ∀ (Z : Addr → Prop) (φ : List Addr) (H : Hp) (σv : L2.St) (d : Addr) (gs : List (Str × V)), At Γ b σ σv Z φ H h → H d = some (.xd gs) → ¬ Z d → d ∉ φ → b.H d = none → TFs Γ Z φ H gs fs → W (.ref (Γ.cA c)) (some d) σv H
/-- the reading of a statement -/
def rdS (Γ : Gam) (W : WX) (b : Bs) (ev : Sl → Hh → So) : TS := fun D σv H =>
  ∃ (Z : Addr → Prop) (φ : List Addr) (h : Hh) (σ : Sl), At Γ b σ σv Z φ H h ∧ PostS Γ W b D (ev σ h)
theorem ps_weaken {X : Cx} {s : Stmt} {t t' : TS} (hs : PS X s t) (hw : ∀ D σ H, t' D σ H → t D σ H) : PS X s t' := ⟨fun pins s σ H D I q => hs.run pins s σ H D I (hw D σ H q)⟩
theorem pss_weaken {X : Cx} {s : List Stmt} {t t' : TS} (hs : PSs X s t) (hw : ∀ D σ H, t' D σ H → t D σ H) : PSs X s t' := ⟨fun pins s σ H D I q => hs.run pins s σ H D I (hw D σ H q)⟩

section
variable {Γ : Gam} {W : WX} {b : Bs} {D : Ends} {σv : L2.St} {H : Hp}
/-- an expression within a statement -/
theorem rdS_of {α β : Type} {rel : (Addr → Prop) → List Addr → Hp → β → α → Prop} {ev : Sl → Hh → Ro α} {f : Sl → α → Hh → So} (p : rdS Γ W b (fun σ h => So.of σ (ev σ h) (f σ)) D σv H) :
    rd Γ W rel ev σv H (fun v H1 => ∃ (Z1 : Addr → Prop) (φ1 : List Addr) (h1 : Hh) (σ : Sl) (a : α), At Γ b σ σv Z1 φ1 H1 h1 ∧ rel Z1 φ1 H1 v a ∧ PostS Γ W b D (f σ a h1)) := by
  obtain ⟨Z, φ, h, σ, a, q⟩ := p
  refine ⟨Z, φ, h, σ, a.r, a.s, ?_⟩
  have q : PostS Γ W b D (So.of σ (ev σ h) (f σ)) := q
  cases e : ev σ h with
  | none => rw [e] at q; exact q
  | some x => cases x with
    | ok t h1 => rw [e] at q; exact fun Z1 φ1 H1 v le r rr => ⟨Z1, φ1, h1, σ, t, a.later le r, rr, q⟩
    | ex c fs h1 => rw [e] at q; exact fun Z1 φ1 H1 d gs le r hd nz np nh tf => q Z1 φ1 H1 σv d gs (a.later le r) hd nz np (a.le.fresh nh (le.notin np)) tf
end
/-- the closure is called -/
def OcP (Γ : Gam) (n : Nat) (X : Cx) (b : Bs) : Prop := ∀ (bb : CE) (σb : Sl), b.clo = some (bb, σb) → ∀ (m : Nat), m ≤ n → ∀ (pn : List (Addr × Obj)) (xe : Value → Shared → Prop) (W : WX), Takes (X.tr pn xe) W → ∀ {x : Str} {i : Nat} {p1 p2 : Pos}, X.N[i]? = some x → Vis X.env.scope x →
  (x == ("__debug__" : Str)) = false → (x == ("__classdict__" : Str)) = false →
  PE (X.tr pn xe) (.Call (.Name x p1) [] [] p2) (fun σv H Q => σv[i]? = some (some (.ref b.x)) ∧ ∃ (Z : Addr → Prop) (φ : List Addr) (h : Hh), Le b.Z b.φ b.H Z φ H ∧ R Γ Z φ H h ∧ Post Γ W σv (TV Γ) Z φ H ((Γ.at_ m).e σb bb h) Q)
theorem OcP.down {Γ : Gam} {n m : Nat} {X : Cx} {b : Bs} (o : OcP Γ n X b) (h : m ≤ n) : OcP Γ m X b := fun bb σb e k hk => o bb σb e k (Nat.le_trans hk h)
theorem OcP.none {Γ : Gam} {n : Nat} {X : Cx} {b : Bs} (e : b.clo = none) : OcP Γ n X b := fun bb σb e2 => by rw [e] at e2; cases e2
theorem OcP.same {Γ : Gam} {n : Nat} {X : Cx} {b b' : Bs} (o : OcP Γ n X b) (h : b'.same b) : OcP Γ n X b' := by
  obtain ⟨h1, h2, h3, h4, h5⟩ := h
  unfold OcP
  rw [h1, h2, h3, h4, h5]
  exact o
theorem OcP.tr {Γ : Gam} {n : Nat} {X : Cx} {b : Bs} {pn : List (Addr × Obj)} {xe : Value → Shared → Prop} (o : OcP Γ n X b) : OcP Γ n (X.tr pn xe) b := fun bb σb e m hm pn' xe' W tk => o bb σb e m hm pn' xe' W tk
/-- the statements at level n -/
def LvS (Γ : Gam) (n : Nat) (ckSs : Nat → List Str → Scope → List Stmt → List CS → Bool) : Prop := ∀ (X : Cx) (W : WX) (b : Bs), Gd Γ n X W → X.stack = X.env :: X.outer → X.env.frame = some X.env.locals → (∀ x, X.fn x = true) → PassesOwn (model X.prog X.w) X.A X.env X.xe → X.ex = [] → OcP Γ n X b →
  ∀ (m : Nat) (ss : List Stmt) (cs : List CS), ckSs m X.N X.env.scope ss cs = true → PSs X ss (rdS Γ W b fun σ h => (Γ.at_ n).ss σ cs h)
def LvE (Γ : Gam) (n : Nat) : Prop := ∀ (X : Cx) (W : WX), Gd Γ n X W → ∀ (m : Nat) (e : Expr) (c : CE), ck Γ.nms X.N m false X.env.scope e c = true → PE X e (rdE Γ W fun σ h => (Γ.at_ n).e σ c h)

/-! ### a def's body keeps its promise -/
structure FnF (Γ : Gam) (ckSs : Nat → List Str → Scope → List Stmt → List CS → Bool) (f : Nat) (d : FnD) : Prop where
  ex : ∃ (x qual : Str) (params : Arguments) (body : List Stmt) (scope : Scope) (dvs : List V) (kwd : List (Str × V)) (fd : FuncData) (N ps : List Str) (m : Nat),
    (∀ (t : Nat) (ti : TabI), Γ.tb[t]? = some ti → lamNm t ∈ N → fd.code = .ref ti.code ∧ (qual ++ ".<locals>.") ++ "<lambda>" = ti.q) ∧ (d.lam = true → d.star = false ∧ d.ps.length = 1 ∧ ∀ (s : Shared) (u : Value), Γ.K.In s.heap → BindsTo s fd ⟨[u], []⟩ (ps.zip [u])) ∧
    FunD Γ.K x qual params body scope dvs kwd (Γ.fA f) fd ∧ FnScope N ps scope ∧ N.length = d.n ∧ ckSs m N scope body d.body = true ∧
    (d.star = false → ps = d.ps.map Γ.nm ∧ ∀ (nk : Nat × List Nat), nk ∈ d.shp → ∀ (s : Shared) (us ws : List Value), Γ.K.In s.heap → us.length = nk.1 → ws.length = nk.2.length →
      ∃ us', bindP Value.none d.dn d.ps us (nk.2.zip ws) = some us' ∧ BindsTo s fd ⟨us, (nk.2.map Γ.nm).zip ws⟩ (ps.zip us')) ∧
    (d.star = true → ∃ pv, ps = d.ps.map Γ.nm ++ [pv] ∧ ∀ us rest : List Value, us.length = d.ps.length → bindArgs fd ⟨us ++ rest, []⟩ = (newTuple rest >>= fun t => pure ((d.ps.map Γ.nm).zip us ++ [(pv, t)])))
end Ev
end
section
set_option Elab.async false
set_option linter.all false
set_option maxRecDepth 100000
set_option maxHeartbeats 1000000
/-! Ev, part F: a def's body keeps its promise. -/
namespace Ev
open PySem PySem.Spec PyProof.Rows L2

theorem look_rel {α β : Type} {Rl : α → β → Prop} (p : Nat) : ∀ {ks : List (Nat × α)} {kt : List (Nat × β)}, Paired (fun p q => p.1 = q.1 ∧ Rl p.2 q.2) ks kt → (ks.lookup p = none ∧ kt.lookup p = none) ∨ ∃ x y, ks.lookup p = some x ∧ kt.lookup p = some y ∧ Rl x y
  | _, _, .nil => .inl ⟨rfl, rfl⟩
  | (n, x) :: ks, (n', y) :: kt, .cons h r => by
    obtain ⟨e, h⟩ := h
    have e : n = n' := e
    subst e
    simp only [List.lookup]
    cases q : (p == n) with
    | true => exact .inr ⟨x, y, rfl, rfl, h⟩
    | false => exact look_rel p r
theorem bindP_rel {α β : Type} {a : α} {b : β} {Rl : α → β → Prop} (hn : Rl a b) (dn : List Nat) : ∀ (ps : List Nat) (us : List α) (ts : List β) (ks : List (Nat × α)) (kt : List (Nat × β)) (us' : List α),
    Paired Rl us ts → Paired (fun p q => p.1 = q.1 ∧ Rl p.2 q.2) ks kt → bindP a dn ps us ks = some us' → ∃ ts', bindP b dn ps ts kt = some ts' ∧ Paired Rl us' ts'
  | [], [], _, _, _, _, .nil, _, e => by
    simp only [bindP] at e ⊢
    cases e
    exact ⟨[], rfl, .nil⟩
  | [], _ :: _, _, _, _, _, .cons _ _, _, e => by simp [bindP] at e
  | p :: ps, u :: us, _, ks, kt, us', .cons r rr, k, e => by
    simp only [bindP] at e ⊢
    cases e1 : bindP a dn ps us ks with
    | none => rw [e1] at e; cases e
    | some l =>
      rw [e1] at e
      cases e
      obtain ⟨ts', e2, r2⟩ := bindP_rel hn dn ps us _ ks kt l rr k e1
      rw [e2]
      exact ⟨_, rfl, .cons r r2⟩
  | p :: ps, [], _, ks, kt, us', .nil, k, e => by
    simp only [bindP] at e ⊢
    rcases look_rel p k with ⟨q1, q2⟩ | ⟨x, y, q1, q2, r⟩
    · rw [q1] at e
      rw [q2]
      dsimp only at e ⊢
      split at e
      · rename_i hd
        rw [if_pos hd]
        cases e1 : bindP a dn ps [] ks with
        | none => rw [e1] at e; cases e
        | some l =>
          rw [e1] at e
          cases e
          obtain ⟨ts', e2, r2⟩ := bindP_rel hn dn ps [] _ ks kt l .nil k e1
          rw [e2]
          exact ⟨_, rfl, .cons hn r2⟩
      · cases e
    · rw [q1] at e
      rw [q2]
      dsimp only at e ⊢
      cases e1 : bindP a dn ps [] ks with
      | none => rw [e1] at e; cases e
      | some l =>
        rw [e1] at e
        cases e
        obtain ⟨ts', e2, r2⟩ := bindP_rel hn dn ps [] _ ks kt l .nil k e1
        rw [e2]
        exact ⟨_, rfl, .cons r r2⟩

section
variable {Γ : Gam} {Z : Addr → Prop} {φ : List Addr} {H : Hp} {h : Hh}
abbrev VT (Γ : Gam) (Z : Addr → Prop) (φ : List Addr) (H : Hp) (u : Value) (t : T) : Prop := ∃ v, RelV v u ∧ TV Γ Z φ H v t
theorem vt_of : ∀ {vs : List V} {us : List Value} {ts : List T}, Vals vs us → TVs Γ Z φ H vs ts → Paired (VT Γ Z φ H) us ts
  | _, _, _, .nil, .nil => .nil
  | _, _, _, .cons a b, .cons c d => .cons ⟨_, a, c⟩ (vt_of b d)
theorem of_vt : ∀ {us : List Value} {ts : List T}, Paired (VT Γ Z φ H) us ts → ∃ vs, Vals vs us ∧ TVs Γ Z φ H vs ts
  | _, _, .nil => ⟨[], .nil, .nil⟩
  | _, _, .cons ⟨v, a, c⟩ r => by
    obtain ⟨vs, b, d⟩ := of_vt r
    exact ⟨v :: vs, .cons a b, .cons c d⟩
theorem kp_of : ∀ (ks : List (Nat × T)) {ws : List Value} {vs : List V}, Vals vs ws → TVs Γ Z φ H vs (ks.map (·.2)) → Paired (fun (p : Nat × Value) (q : Nat × T) => p.1 = q.1 ∧ VT Γ Z φ H p.2 q.2) ((ks.map (·.1)).zip ws) ks
  | [], _, _, .nil, .nil => .nil
  | (n, t) :: ks, _, _, .cons a b, .cons c d => .cons ⟨rfl, _, a, c⟩ (kp_of ks b d)
theorem startS_get (n : Nat) (ts : List T) (i : Nat) (x : SV) (e : (startS n ts)[i]? = some x) : (∃ t, ts[i]? = some t ∧ x = .val t) ∨ x = .no := by
  unfold startS at e
  by_cases hi : i < ts.length
  · rw [List.getElem?_append_left (by simpa using hi), List.getElem?_map] at e
    cases q : ts[i]? with
    | none => rw [q] at e; cases e
    | some t => rw [q] at e; cases e; exact .inl ⟨t, rfl, rfl⟩
  · rw [List.getElem?_append_right (by simpa using hi), List.getElem?_replicate] at e
    split at e
    · cases e; exact .inr rfl
    · cases e
theorem start_get (N : List Str) (vs : List V) {i : Nat} {v : V} (e : vs[i]? = some v) : (start N vs)[i]? = some (some v) := by
  have hi : i < vs.length := (List.getElem?_eq_some_iff.mp e).1
  unfold L2.start
  rw [List.getElem?_append_left (by simpa using hi), List.getElem?_map, e] <;> rfl
theorem start_len (N : List Str) (vs : List V) (ts : List T) (n : Nat) (h1 : N.length = n) (h2 : vs.length = ts.length) : (startS n ts).length = (start N vs).length := by
  unfold startS L2.start
  simp only [List.length_append, List.length_map, List.length_replicate]
  omega
theorem start_some (N : List Str) (vs : List V) {i : Nat} (hi : i < (start N vs).length) : ∃ o, (start N vs)[i]? = some o := ⟨_, List.getElem?_eq_getElem hi⟩
theorem SR.start {N : List Str} {n : Nat} {vs : List V} {ts : List T} (r : TVs Γ Z φ H vs ts) (hl : N.length = n) : SR Γ Z φ H (startS n ts) (start N vs) := by
  have len := start_len N vs ts n hl r.length
  refine ⟨len, fun i x e => ?_, fun i j x y v e1 e2 h1 => ?_⟩
  · rcases startS_get n ts i x e with ⟨t, e1, rfl⟩ | rfl
    · obtain ⟨v, e2, w⟩ := r.get e1
      exact ⟨some v, start_get N vs e2, v, rfl, w⟩
    · have hi : i < (startS n ts).length := (List.getElem?_eq_some_iff.mp e).1
      obtain ⟨o, e2⟩ := start_some N vs (i := i) (by rw [← len]; exact hi)
      exact ⟨o, e2, trivial⟩
  · rcases startS_get n ts i x e1 with ⟨t, _, rfl⟩ | rfl <;> cases h1
theorem At.start {N : List Str} {n : Nat} {vs : List V} {ts : List T} {x : Addr} (R0 : R Γ Z φ H h) (r : TVs Γ Z φ H vs ts) (hl : N.length = n) : At Γ ⟨Z, φ, H, x, Z, φ, H, none⟩ (startS n ts) (start N vs) Z φ H h :=
  ⟨R0, .start r hl, .refl, ⟨fun i x p e hx => (by rcases startS_get n ts i x e with ⟨t, _, rfl⟩ | rfl <;> cases hx), fun i bb σ' e => (by rcases startS_get n ts i _ e with ⟨t, _, h⟩ | h <;> cases h)⟩, .refl⟩

/-- what a body's end gives -/
theorem post_body {n f : Nat} {d : FnD} {bs : List T} {Q : VK} {E : XK} {x : Addr} (hf : Γ.G.fn f = some d) (p : Post Γ (WofE E) [] (TV Γ) Z φ H ((Γ.at_ (n + 1)).call f bs h) Q) :
    PostS Γ (WofE E) ⟨Z, φ, H, x, Z, φ, H, none⟩ { nx := fun _ H' => Q .non H', rt := Q } ((Γ.at_ n).ss (startS d.n bs) d.body h) := by
  have e : (Γ.at_ (n + 1)).call f bs h = (match (Γ.at_ n).ss (startS d.n bs) d.body h with
    | some (.nx _, h) => some (.ok .non h)
    | some (.rt t, h) => some (.ok t h)
    | some (.ex c fs _, h) => some (.ex c fs h)
    | _ => none) := by
    show evCall Γ.G (Γ.at_ n) f bs h = _
    unfold evCall
    rw [hf] <;> rfl
  rw [e] at p
  cases q : (Γ.at_ n).ss (startS d.n bs) d.body h with
  | none => rw [q] at p; exact p
  | some y =>
    obtain ⟨fl, h'⟩ := y
    rw [q] at p
    cases fl with
    | nx σ => exact fun Z' φ' H' σv a => p Z' φ' H' .non a.le a.r .non
    | rt t => exact fun Z' φ' H' v le r tv => p Z' φ' H' v le r tv
    | bk σ => exact p.elim
    | ct σ => exact p.elim
    | ex c fs σ => exact fun Z' φ' H' σv d gs a hd nz np nh tf => p Z' φ' H' d gs a.le a.r hd nz np nh tf
theorem post_init {n f c : Nat} {d : FnD} {bs : List T} {Q : VK} {E : XK} {x : Addr} (hf : Γ.G.fn f = some d) (p : Post Γ (WofE E) [] (RI Γ x c) Z φ H ((Γ.at_ (n + 1)).init f c [] bs h) Q) :
    PostS Γ (WofE E) ⟨Z, φ, H, x, Z, φ, H, none⟩ { nx := fun _ H' => Q .non H', rt := Q } ((Γ.at_ n).ss ((startS d.n (.non :: bs)).set 0 (.self c [])) d.body h) := by
  have e : (Γ.at_ (n + 1)).init f c [] bs h = (match (Γ.at_ n).ss ((startS d.n (.non :: bs)).set 0 (.self c [])) d.body h with
    | some (.nx σ, h) => (match (σ : List SV)[(0 : Nat)]? with
      | some (SV.self c' fs) => if c' = c then some (.ok fs h) else none
      | _ => none)
    | some (.ex c fs _, h) => some (.ex c fs h)
    | _ => none) := by
    show evInit Γ.G (Γ.at_ n) f c [] bs h = _
    unfold evInit
    rw [hf] <;> rfl
  rw [e] at p
  cases q : (Γ.at_ n).ss ((startS d.n (.non :: bs)).set 0 (.self c [])) d.body h with
  | none => rw [q] at p; exact p
  | some y =>
    obtain ⟨fl, h'⟩ := y
    rw [q] at p
    cases fl with
    | nx σ =>
      dsimp only at p
      cases e0 : (σ : List SV)[(0 : Nat)]? with
      | none => rw [e0] at p; exact p.elim
      | some y => cases y with
        | self c' fs =>
          rw [e0] at p
          dsimp only at p
          by_cases hc : c' = c
          · subst hc
            rw [if_pos rfl] at p
            intro Z' φ' H' σv a
            obtain ⟨o, e1, p', dx, gs, rfl, hp, tf, nz, np⟩ := a.s.at_ 0 _ e0
            have ex := (a.hf.h 0 _ p' e0 rfl e1).2 _ _ rfl
            have ex : p' = x := ex
            subst ex
            exact p Z' φ' H' .non a.le a.r ⟨rfl, dx, gs, hp, tf, nz, np⟩
          · rw [if_neg hc] at p; exact p.elim
        | _ => rw [e0] at p; exact p.elim
    | rt t => exact p.elim
    | bk σ => exact p.elim
    | ct σ => exact p.elim
    | ex c fs σ => exact fun Z' φ' H' σv d gs a hd nz np nh tf => p Z' φ' H' d gs a.le a.r hd nz np nh tf
theorem At.init {N : List Str} {n c : Nat} {vs : List V} {ts : List T} {x dx : Addr} (R0 : R Γ Z φ H h) (r : TVs Γ Z φ H vs ts) (hl : N.length = n) (hn : 0 < n) (hx : H x = none) (hdx : H dx = none) (ne : dx ≠ x) :
    At Γ ⟨Z, φ, H, x, Z, φ, H, none⟩ ((startS n (.non :: ts)).set 0 (.self c [])) (L2.start N (.ref x :: vs)) Z φ (upd (upd H dx (.own x)) x (.ins (Γ.cA c) dx [])) h := by
  have hx1 : upd H dx (.own x) x = none := by rw [upd_ne (Ne.symm ne)]; exact hx
  have r1 : R Γ Z φ (upd H dx (.own x)) h := R0.held hdx
  have r2 : R Γ Z φ (upd (upd H dx (.own x)) x (.ins (Γ.cA c) dx [])) h := r1.held hx1
  have le1 : Le Z φ H Z φ (upd H dx (.own x)) := Le.held hdx
  have le : Le Z φ H Z φ (upd (upd H dx (.own x)) x (.ins (Γ.cA c) dx [])) := le1.trans (Le.held hx1)
  have s0 : SR Γ Z φ H (startS n (.non :: ts)) (L2.start N (.non :: vs)) := .start (.cons .non r) hl
  have nzx : ¬ Z x := fun z => by obtain ⟨_, o, e⟩ := R0.dz x z; rw [hx] at e; cases e
  have l0 : 0 < (startS n (.non :: ts)).length := by
    rw [start_len N (.non :: vs) (.non :: ts) n hl (by simp [r.length])]
    unfold L2.start
    simp
  have st : ∀ (i : Nat) (y : SV), 0 < i → ((startS n (.non :: ts)).set 0 (.self c []))[i]? = some y → (startS n (.non :: ts))[i]? = some y := fun i y hi e => by
    rw [List.getElem?_set_ne (by omega)] at e; exact e
  have sv : ∀ (i : Nat), 0 < i → (L2.start N (.ref x :: vs))[i]? = (L2.start N (.non :: vs))[i]? := fun i hi => by
    cases i with
    | zero => omega
    | succ i => unfold L2.start; simp
  have e00 : ((startS n (.non :: ts)).set 0 (.self c []))[0]? = some (.self c []) := by rw [List.getElem?_set_self l0]
  refine ⟨r2, ⟨?_, fun i y e => ?_, fun i j y z v e1 e2 h1 h2 _ _ => ?_⟩, le, ⟨fun i y p e hy ep => ?_, fun i bb σ' e => ?_⟩, le.z R0⟩
  · rw [List.length_set, s0.len]
    unfold L2.start
    simp
  · cases i with
    | zero =>
      rw [e00] at e
      cases e
      exact ⟨some (.ref x), by unfold L2.start; simp, x, dx, [], rfl, upd_same, .nil, nzx, R0.notin hx⟩
    | succ i =>
      obtain ⟨o, e1, k⟩ := s0.at_ (i + 1) y (st _ _ (by omega) e)
      exact ⟨o, by rw [sv _ (by omega)]; exact e1, k.mono R0 le⟩
  · have z0 : ∀ (i : Nat) (y : SV), ((startS n (.non :: ts)).set 0 (.self c []))[i]? = some y → y.held = true → i = 0 := fun i y e hy => by
      cases i with
      | zero => rfl
      | succ i =>
        rcases startS_get n _ _ _ (st _ _ (by omega) e) with ⟨t, _, rfl⟩ | rfl <;> cases hy
    rw [z0 i y e1 h1, z0 j z e2 h2]
  · cases i with
    | zero =>
      have q : (L2.start N (V.ref x :: vs))[0]? = some (some (V.ref x)) := by unfold L2.start; simp
      rw [q] at ep
      cases ep
      exact ⟨hx, fun _ _ _ => rfl⟩
    | succ i =>
      rcases startS_get n _ _ _ (st _ _ (by omega) e) with ⟨t, _, rfl⟩ | rfl <;> cases hy
  · cases i with
    | zero => rw [e00] at e; cases e
    | succ i => rcases startS_get n _ _ _ (st _ _ (by omega) e) with ⟨t, _, h⟩ | h <;> cases h

/-! ### the defs -/
theorem gd_body {n : Nat} {N ps : List Str} {qual : Str} {scope : Scope} {f : Addr} {cd : Value} {A : Around} {outer : List Env} {s : Shared} {H : Hp} {E : XK} (S : FnScope N ps scope) (hr : Room n (A.deeper (envOfC qual scope s.heap.objs.size f cd))) (hl : ∀ (t : Nat) (ti : TabI), Γ.tb[t]? = some ti → lamNm t ∈ N → cd = .ref ti.code ∧ (qual ++ ".<locals>.") ++ "<lambda>" = ti.q) :
    Gd Γ n (cxOf (L2.CX Γ.prog Γ.w) Γ.prog Γ.w Γ.K Γ.mg Γ.base N qual scope f cd A outer s H E) (WofE E) :=
  ⟨rfl, rfl, rfl, rfl, rfl, S.nd, hr, takes_of rfl rfl rfl rfl, rfl, fun t ti h1 h2 _ => hl t ti h1 h2⟩
variable {ckSs : Nat → List Str → Scope → List Stmt → List CS → Bool}
theorem pss_body {n : Nat} (L : LvS Γ n ckSs) {N ps : List Str} {qual : Str} {scope : Scope} {f : Addr} {cd : Value} {A : Around} {outer : List Env} {s : Shared} {H : Hp} {E : XK} (S : FnScope N ps scope) (hr : Room n (A.deeper (envOfC qual scope s.heap.objs.size f cd))) (hl : ∀ (t : Nat) (ti : TabI), Γ.tb[t]? = some ti → lamNm t ∈ N → cd = .ref ti.code ∧ (qual ++ ".<locals>.") ++ "<lambda>" = ti.q) (b : Bs) (hb : b.clo = none) {m : Nat} {body : List Stmt} {cs : List CS} (ck : ckSs m N scope body cs = true) :
    PSs (cxOf (L2.CX Γ.prog Γ.w) Γ.prog Γ.w Γ.K Γ.mg Γ.base N qual scope f cd A outer s H E) body (rdS Γ (WofE E) b fun σ h => (Γ.at_ n).ss σ cs h) :=
  L _ _ b (gd_body S hr hl) rfl rfl (fun _ => rfl) (passes_of rfl) rfl (.none hb) m body cs ck
theorem fnG_of {n f : Nat} {d : FnD} (hf : Γ.G.fn f = some d) (F : FnF Γ ckSs f d) (L : LvS Γ n ckSs) : FnG Γ Γ.prog Γ.w Γ.K Γ.mg Γ.base (n + 1) f (Γ.at_ (n + 1)) d := by
  intro A outer s H us kws vs Z φ h ts ks bs Q E hr e0 rv R0 tv kr hb p
  obtain ⟨x, qual, params, body, scope, dvs, kwd, fd, N, ps, m, hlm, _, FD, S, hN, hck, h1, h2⟩ := F.ex
  obtain ⟨oc, od, dV, kV, doc, pm, an, cdv, ct, osl, rfl, lk, hcd, _, _⟩ := FD.ex
  have KX : Γ.K.In s.heap := e0.mod.kin.keeps fun b o e => (e0.bs b o e).1
  unfold bindA at hb
  cases hs : d.star with
  | false =>
    rw [hs] at hb
    rw [if_neg (by decide)] at hb
    split at hb
    · rename_i hsh
      obtain ⟨rfl, hbind⟩ := h1 hs
      obtain ⟨ws, kvs, rfl, rk, tk⟩ := kr
      have lk1 : ws.length = (ks.map (·.1)).length := by
        rw [← rk.length, tk.length, List.length_map, List.length_map]
      obtain ⟨us', e1, bt⟩ := hbind (ts.length, ks.map (·.1)) (by simpa using hsh) s us ws KX (by rw [← rv.length, tv.length]) lk1
      have nn : VT Γ Z φ H Value.none T.non := ⟨.non, rfl, .non⟩
      obtain ⟨ts', e2, pr⟩ := bindP_rel nn d.dn d.ps us ts _ ks us' (vt_of rv tv) (kp_of ks rk tk) e1
      rw [hb] at e2
      cases e2
      obtain ⟨vs', rv', tv'⟩ := of_vt pr
      have hl : vs'.length = (d.ps.map Γ.nm).length := by
        have plen : ∀ (ps : List Nat) (us : List Value) (ks : List (Nat × Value)) (us' : List Value), bindP Value.none d.dn ps us ks = some us' → us'.length = ps.length := by
          intro ps
          induction ps with
          | nil => intro us ks us' e; cases us <;> simp [bindP] at e; subst e; rfl
          | cons q ps ih =>
            intro us ks us' e
            cases us with
            | cons u us =>
              simp only [bindP] at e
              cases e3 : bindP Value.none d.dn ps us ks with
              | none => rw [e3] at e; cases e
              | some l => rw [e3] at e; cases e; rw [List.length_cons, ih _ _ _ e3, List.length_cons]
            | nil =>
              simp only [bindP] at e
              split at e
              · cases e3 : bindP Value.none d.dn ps [] ks with
                | none => rw [e3] at e; cases e
                | some l => rw [e3] at e; cases e; rw [List.length_cons, ih _ _ _ e3, List.length_cons]
              · split at e
                · cases e3 : bindP Value.none d.dn ps [] ks with
                  | none => rw [e3] at e; cases e
                  | some l => rw [e3] at e; cases e; rw [List.length_cons, ih _ _ _ e3, List.length_cons]
                · cases e
        rw [rv'.length, plen _ _ _ _ e1, List.length_map]
      refine LamX.run_ofS (vs := vs') (us := us') lk hcd S hr e0 ?_ rv' hl fun hr' => ⟨_, pss_body L S hr' hlm ⟨Z, φ, H, 0, Z, φ, H, none⟩ rfl hck, ?_⟩
      · have ez : (ks.map fun p => Γ.nm p.1).zip ws = ((ks.map (·.1)).map Γ.nm).zip ws := by rw [List.map_map] <;> rfl
        rw [ez]
        exact bt
      · exact ⟨Z, φ, h, startS d.n bs, At.start R0 tv' hN, post_body hf p⟩
    · cases hb
  | true =>
    rw [hs] at hb
    rw [if_pos rfl] at hb
    split at hb
    · rename_i hc
      simp only [Bool.and_eq_true, decide_eq_true_eq] at hc
      obtain ⟨⟨hc1, hc2⟩, hc3⟩ := hc
      have ke : ks = [] := List.isEmpty_iff.mp hc2
      subst ke
      obtain ⟨ws, kvs, rfl, _, _⟩ := kr
      cases hb
      obtain ⟨pv, rfl, hba⟩ := h2 hs
      have G := StX.fn_star (CX := L2.CX Γ.prog Γ.w) (P := Γ.prog) (w := Γ.w) (mg := Γ.mg) (base := Γ.base) (k := n) (pv := pv) (ps := d.ps.map Γ.nm)
        (sp := fun vs H Q E => ∃ b, b.clo = none ∧ rdS Γ (WofE E) b (fun σ h => (Γ.at_ n).ss σ d.body h) { nx := fun _ H' => Q .non H', rt := Q } (L2.start N vs) H) lk hcd S StX.cxUp
        (fun us rest hl => hba us rest (by rw [hl, List.length_map])) (fun A outer s H vs Q E hr hsp => by
          obtain ⟨b, hbc, q⟩ := hsp
          exact ⟨_, pss_body L S hr hlm b hbc hck, q⟩)
      refine G A outer s H us vs Q E hr e0 rv ⟨vs.take d.ps.length, vs.drop d.ps.length, (List.take_append_drop _ _).symm, ?_, ?_, fun q hq => ⟨⟨(fun a => Z a ∨ a = q), φ, upd H q (.tup (vs.drop d.ps.length)), 0, (fun a => Z a ∨ a = q), φ, upd H q (.tup (vs.drop d.ps.length)), none⟩, rfl, ?_⟩⟩
      · have := tv.length
        rw [List.length_take, List.length_map]
        omega
      · have := tv.length
        rw [List.length_drop]
        have := big_lt hc3
        omega
      · have R1 : R Γ (fun a => Z a ∨ a = q) φ (upd H q (.tup (vs.drop d.ps.length))) h := R0.new hq
        have t1 : TVs Γ (fun a => Z a ∨ a = q) φ (upd H q (.tup (vs.drop d.ps.length))) (vs.take d.ps.length ++ [.ref q]) (ts.take d.ps.length ++ [.tup (ts.drop d.ps.length)]) :=
          ((tv.take _).mono R0 (Le.new hq)).app (.cons (TV.newTup R0 hq (tv.drop _)) .nil)
        exact ⟨_, φ, h, startS d.n _, At.start R1 t1 hN, post_body hf (p.later (Le.new hq))⟩
    · cases hb

theorem fnI_of {n f : Nat} {d : FnD} (hf : Γ.G.fn f = some d) (F : FnF Γ ckSs f d) (L : LvS Γ n ckSs) : FnI Γ Γ.prog Γ.w Γ.K Γ.mg Γ.base (n + 1) f (Γ.at_ (n + 1)) d := by
  intro A outer s H c x dx us kws vs Z φ h ts ks bs Q E hx hdx ne hr e0 rv R0 tv kr hb p
  obtain ⟨x0, qual, params, body, scope, dvs, kwd, fd, N, ps, m, hlm, _, FD, S, hN, hck, h1, h2⟩ := F.ex
  obtain ⟨oc, od, dV, kV, doc, pm, an, cdv, ct, osl, rfl, lk, hcd, _, _⟩ := FD.ex
  have KX : Γ.K.In s.heap := e0.mod.kin.keeps fun b o e => (e0.bs b o e).1
  have npos : ∀ {p0 : Nat} {pr : List Nat} {l : List Str}, d.ps = p0 :: pr → ps = d.ps.map Γ.nm ++ l → 0 < d.n := fun {p0 pr l} e1 e2 => by
    have := congrArg List.length S.pre
    rw [List.length_take, e2, e1] at this
    simp at this
    omega
  unfold bindA at hb
  cases hs : d.star with
  | false =>
    rw [hs] at hb
    rw [if_neg (by decide)] at hb
    split at hb
    · rename_i hsh
      obtain ⟨eps, hbind⟩ := h1 hs
      obtain ⟨ws, kvs, rfl, rk, tk⟩ := kr
      have lk1 : ws.length = (ks.map (·.1)).length := by
        rw [← rk.length, tk.length, List.length_map, List.length_map]
      obtain ⟨us', e1, bt⟩ := hbind ((T.non :: ts).length, ks.map (·.1)) (by simpa using hsh) s (.ref x :: us) ws KX (by rw [List.length_cons, List.length_cons, ← rv.length, tv.length]) lk1
      cases hps : d.ps with
      | nil => rw [hps] at hb; simp [bindP] at hb
      | cons p0 pr =>
        rw [hps] at hb e1
        simp only [bindP] at hb e1
        cases e3 : bindP Value.none d.dn pr us ((ks.map (·.1)).zip ws) with
        | none => rw [e3] at e1; cases e1
        | some l =>
          rw [e3] at e1
          cases e1
          have nn : VT Γ Z φ H Value.none T.non := ⟨.non, rfl, .non⟩
          obtain ⟨ts', e2, pr2⟩ := bindP_rel nn d.dn pr us ts _ ks l (vt_of rv tv) (kp_of ks rk tk) e3
          rw [e2] at hb
          cases hb
          obtain ⟨vs', rv', tv'⟩ := of_vt pr2
          have hl : (V.ref x :: vs').length = ps.length := by
            have plen : ∀ (ps : List Nat) (us : List Value) (ks : List (Nat × Value)) (us' : List Value), bindP Value.none d.dn ps us ks = some us' → us'.length = ps.length := by
              intro ps
              induction ps with
              | nil => intro us ks us' e; cases us <;> simp [bindP] at e; subst e; rfl
              | cons q ps ih =>
                intro us ks us' e
                cases us with
                | cons u us =>
                  simp only [bindP] at e
                  cases e3 : bindP Value.none d.dn ps us ks with
                  | none => rw [e3] at e; cases e
                  | some l => rw [e3] at e; cases e; rw [List.length_cons, ih _ _ _ e3, List.length_cons]
                | nil =>
                  simp only [bindP] at e
                  split at e
                  · cases e3 : bindP Value.none d.dn ps [] ks with
                    | none => rw [e3] at e; cases e
                    | some l => rw [e3] at e; cases e; rw [List.length_cons, ih _ _ _ e3, List.length_cons]
                  · split at e
                    · cases e3 : bindP Value.none d.dn ps [] ks with
                      | none => rw [e3] at e; cases e
                      | some l => rw [e3] at e; cases e; rw [List.length_cons, ih _ _ _ e3, List.length_cons]
                    · cases e
            rw [eps, hps, List.length_map, List.length_cons, List.length_cons, rv'.length, plen _ _ _ _ e3]
          refine LamX.run_ofS (vs := .ref x :: vs') (us := .ref x :: l) lk hcd S hr e0 ?_ (.cons rfl rv') hl fun hr' => ⟨_, pss_body L S hr' hlm ⟨Z, φ, H, x, Z, φ, H, none⟩ rfl hck, ?_⟩
          · have ez : (ks.map fun p => Γ.nm p.1).zip ws = ((ks.map (·.1)).map Γ.nm).zip ws := by rw [List.map_map] <;> rfl
            rw [ez]
            exact bt
          · exact ⟨Z, φ, h, _, At.init R0 tv' hN (npos hps (by rw [List.append_nil]; exact eps)) hx hdx ne, post_init hf p⟩
    · cases hb
  | true =>
    rw [hs] at hb
    rw [if_pos rfl] at hb
    split at hb
    · rename_i hc
      simp only [Bool.and_eq_true, decide_eq_true_eq] at hc
      obtain ⟨⟨hc1, hc2⟩, hc3⟩ := hc
      have ke : ks = [] := List.isEmpty_iff.mp hc2
      subst ke
      obtain ⟨ws, kvs, rfl, _, _⟩ := kr
      obtain ⟨pv, eps, hba⟩ := h2 hs
      subst eps
      cases hps : d.ps with
      | nil => rw [hps] at hb; simp at hb
      | cons p0 pr =>
        rw [hps] at hb hc1
        simp only [List.length_cons, List.take_succ_cons, List.drop_succ_cons, List.cons_append, Option.some.injEq, List.cons.injEq, true_and] at hb
        subst hb
        have hc1 : pr.length ≤ ts.length := by simpa using hc1
        have G := StX.fn_star (CX := L2.CX Γ.prog Γ.w) (P := Γ.prog) (w := Γ.w) (mg := Γ.mg) (base := Γ.base) (k := n) (pv := pv) (ps := d.ps.map Γ.nm)
          (sp := fun vs H Q E => ∃ b, b.clo = none ∧ rdS Γ (WofE E) b (fun σ h => (Γ.at_ n).ss σ d.body h) { nx := fun _ H' => Q .non H', rt := Q } (L2.start N vs) H) lk hcd S StX.cxUp
          (fun us rest hl => hba us rest (by rw [hl, List.length_map])) (fun A outer s H vs Q E hr hsp => by
            obtain ⟨b, hbc, q⟩ := hsp
            exact ⟨_, pss_body L S hr hlm b hbc hck, q⟩)
        have tl := tv.length
        refine G A outer s _ (.ref x :: us) (.ref x :: vs) Q E hr e0 (.cons rfl rv) ⟨.ref x :: vs.take pr.length, vs.drop pr.length, by rw [List.cons_append, List.take_append_drop], ?_, ?_, fun q hq => ⟨⟨(fun a => Z a ∨ a = q), φ, upd H q (.tup (vs.drop pr.length)), x, (fun a => Z a ∨ a = q), φ, upd H q (.tup (vs.drop pr.length)), none⟩, rfl, ?_⟩⟩
        · rw [List.length_cons, List.length_take, List.length_map, hps, List.length_cons]
          omega
        · have e3 := big_lt hc3
          rw [List.length_cons] at e3
          rw [List.length_drop]
          omega
        · have qx : q ≠ x := fun e => by subst e; rw [upd_same] at hq; cases hq
          have qd : q ≠ dx := fun e => by subst e; rw [upd_ne ne, upd_same] at hq; cases hq
          have hq0 : H q = none := by rw [upd_ne qx, upd_ne qd] at hq; exact hq
          have R1 : R Γ (fun a => Z a ∨ a = q) φ (upd H q (.tup (vs.drop pr.length))) h := R0.new hq0
          have t1 : TVs Γ (fun a => Z a ∨ a = q) φ (upd H q (.tup (vs.drop pr.length))) (vs.take pr.length ++ [.ref q]) (ts.take pr.length ++ [.tup (ts.drop pr.length)]) :=
            ((tv.take _).mono R0 (Le.new hq0)).app (.cons (TV.newTup R0 hq0 (tv.drop _)) .nil)
          have eH : upd (upd (upd H q (.tup (vs.drop pr.length))) dx (.own x)) x (.ins (Γ.cA c) dx []) = upd (upd (upd H dx (.own x)) x (.ins (Γ.cA c) dx [])) q (.tup (vs.drop pr.length)) := by
            funext a
            unfold upd
            by_cases e1 : a = q
            · subst e1; simp [qx, qd]
            · simp [e1]
          have a := At.init (c := c) (x := x) (dx := dx) R1 t1 hN (npos hps rfl) (by rw [upd_ne (Ne.symm qx)]; exact hx) (by rw [upd_ne (Ne.symm qd)]; exact hdx) ne
          rw [eH] at a
          have pp : Post Γ (WofE E) [] (RI Γ x c) (fun a => Z a ∨ a = q) φ (upd H q (.tup (vs.drop pr.length))) ((Γ.at_ (n + 1)).init f c [] (ts.take pr.length ++ [.tup (ts.drop pr.length)]) h) Q := p.later (Le.new hq0)
          exact ⟨_, φ, h, _, a, post_init hf pp⟩
    · cases hb
end
end Ev
end
section
set_option Elab.async false
set_option linter.all false
set_option maxRecDepth 100000
set_option maxHeartbeats 1000000
/-! Ev, part G: calls of defs, making of instances. -/
namespace Ev
open PySem PySem.Spec PyProof.Rows L2


section
variable {Γ : Gam} {Z Z' Z1 : Addr → Prop} {φ φ' φ1 : List Addr} {H H' H1 : Hp} {h h' : Hh}
theorem LeZ.rd (le : LeZ Z φ H Z' φ' H') {a : Addr} {u : HO} (z : Z a) (x : Rd H a u) : Rd H' a u := by
  have e := (le.zs a z).2
  rcases x with x | ⟨o, x⟩
  · exact .inl (e.trans x)
  · exact .inr ⟨o, e.trans x⟩
theorem LeZ.rt (le : LeZ Z φ H Z' φ' H') {a : Addr} {vs : List V} (x : RT Γ Z H a vs) : RT Γ Z' H' a vs := by
  rcases x with ⟨z, x⟩ | x
  · exact .inl ⟨(le.zs a z).1, le.rd z x⟩
  · exact .inr x
mutual
theorem TV.monoZ {v : V} {t : T} (le : LeZ Z φ H Z' φ' H') : TV Γ Z φ H v t → TV Γ Z' φ' H' v t
  | .non => .non
  | .bl b => .bl b
  | .int i => .int i
  | .str x => .str x
  | .tup x y => .tup (le.rt x) (TVs.monoZ le y)
  | .ptu x y => .ptu ⟨(le.zs _ x.1).1, by obtain ⟨_, o, e, d⟩ := x; exact ⟨o, (le.zs _ (by assumption)).2.trans e, d⟩⟩ (TVs.monoZ le y)
  | .lst x y => .lst ⟨(le.zs _ x.1).1, (le.zs _ x.1).2.trans x.2⟩ (TVs.monoZ le y)
  | .frl x y => .frl ⟨(le.zs _ x.1).1, le.rd x.1 x.2⟩ (TVs.monoZ le y)
  | .ins z x y => .ins (le.zs _ z).1 ((le.zs _ z).2.trans x) (TFs.monoZ le y)
  | .exc z zd x xd y => .exc (le.zs _ z).1 (le.zs _ zd).1 ((le.zs _ z).2.trans x) ((le.zs _ zd).2.trans xd) (TFs.monoZ le y)
  | .ref x => .ref (le.pf _ _ x)
  | .cls c => .cls c
  | .fn f => .fn f
  | .ty n => .ty n
theorem TVs.monoZ {v : List V} {t : List T} (le : LeZ Z φ H Z' φ' H') : TVs Γ Z φ H v t → TVs Γ Z' φ' H' v t
  | .nil => .nil
  | .cons x y => .cons (TV.monoZ le x) (TVs.monoZ le y)
theorem TFs.monoZ {v : List (Str × V)} {t : List (Nat × T)} (le : LeZ Z φ H Z' φ' H') : TFs Γ Z φ H v t → TFs Γ Z' φ' H' v t
  | .nil => .nil
  | .cons x y => .cons (TV.monoZ le x) (TFs.monoZ le y)
end
theorem MOk.monoZ {a : Addr} {m : MO} (le : LeZ Z φ H Z' φ' H') (e : H' a = H a) (k : MOk Γ Z φ H a m) : MOk Γ Z' φ' H' a m := by
  cases k with
  | lst h q => exact .lst (e.trans h) (q.monoZ le)
  | dct h k q => exact .dct (e.trans h) k (q.monoZ le)
  | ins h q => exact .ins (e.trans h) (q.monoZ le)
  | gone h => exact .gone (e.trans h)
  | tab h1 h2 k => exact .tab h1 h2 (k.mono e fun c z => le.zs c z)
/-- what is held becomes settled -/
theorem LeZ.settle (p : Addr) : LeZ Z φ H (fun a => Z a ∨ a = p) φ H := ⟨fun _ _ h => h, fun _ z => ⟨.inl z, rfl⟩⟩
theorem R.settle (r : R Γ Z φ H h) {p : Addr} {o : HO} (hp : H p = Option.some o) (np : p ∉ φ) : R Γ (fun a => Z a ∨ a = p) φ H h :=
  ⟨r.nd, r.len, fun a z => by
    rcases z with z | rfl
    · exact r.dz a z
    · exact ⟨np, o, hp⟩,
   fun n m a e1 e2 => (r.ok n m a e1 e2).monoZ (LeZ.settle p) rfl⟩
theorem Le.settle {H0 : Hp} {Z0 : Addr → Prop} {φ0 : List Addr} (le : Le Z0 φ0 H0 Z φ H) {p : Addr} (h0 : H0 p = none) : Le Z0 φ0 H0 (fun a => Z a ∨ a = p) φ H :=
  ⟨le.pf, fun a o e n => by
    obtain ⟨e1, z1, n1⟩ := le.kp a o e n
    have ne : a ≠ p := ne_of_none e h0
    exact ⟨e1, ⟨fun z => z.elim (fun z => z1.mp z) fun z => absurd z ne, fun z => .inl (z1.mpr z)⟩, n1⟩⟩
/-- what stands not stood not -/
theorem R.none_of (r : R Γ Z φ H h) (le : Le Z φ H Z' φ' H') (r' : R Γ Z' φ' H' h') {p : Addr} (hp : H' p = none) : H p = none := by
  cases e : H p with
  | none => rfl
  | some o =>
    by_cases hm : p ∈ φ
    · obtain ⟨n, hn, e2⟩ := List.getElem_of_mem hm
      have e3 := le.pf n p (by rw [List.getElem?_eq_getElem hn, e2])
      obtain ⟨o', e4⟩ := r'.some (List.mem_of_getElem? e3)
      rw [hp] at e4; cases e4
    · obtain ⟨e1, _⟩ := le.kp p o e hm
      rw [hp] at e1; cases e1
/-- a new object stands at p: the abstract heap at p was empty ahead of a step -/
theorem Post.castW {α β : Type} {W : WX} {σv : L2.St} {rel : (Addr → Prop) → List Addr → Hp → β → α → Prop} {m : Ro α} {Q : β → Hp → Prop} (p : Post Γ W σv rel Z φ H m Q) : Post Γ (WofE (WE W σv)) [] rel Z φ H m Q := by
  cases m with
  | none => exact p
  | some x => cases x with
    | ok a h => exact p
    | ex c fs h => exact p
end

section
variable {Γ : Gam} {Z : Addr → Prop} {φ : List Addr} {H : Hp} {h : Hh} {X : Cx} {W : WX} {n : Nat} {pins : List (Addr × Obj)} {σv : L2.St} {s : Shared}
theorem Gd.fn {f : Nat} {d : FnD} {r : Rec} {k : Nat} (gd : Gd Γ n X W) (F : FnG Γ Γ.prog Γ.w Γ.K Γ.mg Γ.base k f r d) : FnG Γ X.prog X.w X.K X.mg X.base k f r d := by
  rw [gd.prog, gd.w, gd.K, gd.mg, gd.base]; exact F
theorem Gd.fi {f : Nat} {d : FnD} {r : Rec} {k : Nat} (gd : Gd Γ n X W) (F : FnI Γ Γ.prog Γ.w Γ.K Γ.mg Γ.base k f r d) : FnI Γ X.prog X.w X.K X.mg X.base k f r d := by
  rw [gd.prog, gd.w, gd.K, gd.mg, gd.base]; exact F
/-- a def is called -/
theorem code_fn {m : Nat} (gd : Gd Γ m X W) (hm : n ≤ m) (fa : FnAll Γ n) {f : Nat} {us : List Value} {kws : List (Str × Value)} {vs : List V} {ts : List T} {ks : List (Nat × T)} {Q : VK} (I : Inv X pins σv H s) (rv : Vals vs us) (r : R Γ Z φ H h) (tv : TVs Γ Z φ H vs ts) (kr : KRel Γ Z φ H kws ks)
    (p : Post Γ W σv (TV Γ) Z φ H (callF Γ.G (Γ.at_ n) f ts ks h) Q) :
    codeAny (model X.prog X.w) X.A (.call (.ref (Γ.fA f)) ⟨us, kws⟩) (fun r s' => match r with | .ok (.ret v) => EP X pins σv Q v s' | .ok _ => False | .error e => X.xe e s') s := by
  unfold callF at p
  cases hf : Γ.G.fn f with
  | none => rw [hf] at p; exact p.elim
  | some d =>
    rw [hf] at p
    dsimp only at p
    cases hb : bindA d ts ks with
    | none => rw [hb] at p; exact p.elim
    | some bs =>
      rw [hb] at p
      refine codeAny_mono (gd.fn (fa f d hf) X.A X.stack s H us kws vs Z φ h ts ks bs Q (WE W σv) (gd.room.mono hm) I.env0 rv r tv kr hb p.castW) fun r s' hq => ?_
      cases r with
      | error e => exact passAt gd.tk σv pins H s e s' I hq
      | ok fl =>
        cases fl with
        | ret u => exact I.after hq
        | next => exact False.elim hq
        | brk => exact False.elim hq
        | cont => exact False.elim hq
theorem call_fn {m : Nat} (gd : Gd Γ m X W) (hm : n ≤ m) (fa : FnAll Γ n) {f : Nat} {us : List Value} {kws : List (Str × Value)} {vs : List V} {ts : List T} {ks : List (Nat × T)} {Q : VK} (I : Inv X pins σv H s) (rv : Vals vs us) (r : R Γ Z φ H h) (tv : TVs Γ Z φ H vs ts) (kr : KRel Γ Z φ H kws ks)
    (p : Post Γ W σv (TV Γ) Z φ H (callF Γ.G (Γ.at_ n) f ts ks h) Q) : wpAny (model X.prog X.w) X.A (call (.ref (Γ.fA f)) us kws) (EP X pins σv Q) X.xe s :=
  wpAny_call (code_fn gd hm fa I rv r tv kr p)
/-- an instance without cells is made -/
theorem call_make (gd : Gd Γ (n + 1) X W) (fi : FiAll Γ n) {f c : Nat} {d : FnD} {us : List Value} {kws : List (Str × Value)} {vs : List V} {ts bs : List T} {ks : List (Nat × T)} {Q : VK} (M : Mk X.K (Γ.cA c) (Γ.fA f)) (hf : Γ.G.fn f = some d) (I : Inv X pins σv H s) (rv : Vals vs us) (r : R Γ Z φ H h)
    (tv : TVs Γ Z φ H vs ts) (kr : KRel Γ Z φ H kws ks) (hb : bindA d (.non :: ts) ks = some (.non :: bs))
    (p : Post Γ W σv (TV Γ) Z φ H (Ro.bd ((Γ.at_ n).init f c [] bs h) fun fs h => some (.ok (.ins c fs) h)) Q) :
    wpAny (model X.prog X.w) X.A (call (.ref (Γ.cA c)) us kws) (EP X pins σv Q) X.xe s := by
  have hx := I.hok.fresh (a := s.heap.objs.size + 1) (Nat.le_succ _)
  have hdx := I.hok.fresh (a := s.heap.objs.size) (Nat.le_refl _)
  have ne : s.heap.objs.size ≠ s.heap.objs.size + 1 := Nat.ne_of_lt (Nat.lt_succ_self _)
  have I2 := Inv.made (C := Γ.cA c) I
  have q : Post Γ W σv (RI Γ (s.heap.objs.size + 1) c) Z φ H ((Γ.at_ n).init f c [] bs h) (fun v H2 => v = .non ∧ Q (.ref (s.heap.objs.size + 1)) H2) := by
    cases e : (Γ.at_ n).init f c [] bs h with
    | none => rw [e] at p; exact p
    | some y => cases y with
      | ex c' fs h' => rw [e] at p; exact p
      | ok fs h' =>
        rw [e] at p
        intro Z' φ' H' b le r' ri
        obtain ⟨rfl, dx', gs, e1, tf, nz, np⟩ := ri
        exact ⟨rfl, p _ φ' H' _ (le.settle hx) (r'.settle e1 np) (.ins (.inr rfl) e1 (tf.monoZ (LeZ.settle _)))⟩
  refine wpAny_call (make_map (f := Γ.fA f) I.kIn M.makes M.init (beq_iff_eq.mp M.fn) (codeAny_mono (gd.fi (fi f d hf) _ X.stack _ H c (s.heap.objs.size + 1) s.heap.objs.size us kws vs Z φ h ts ks bs _ (WE W σv) hx hdx ne (gd.room.make (Γ.cA c) us kws)
    (I2.env0.make (Γ.cA c) us kws) rv r tv kr hb q.castW) fun r s' hq' => ?_))
  cases r with
  | error e => exact passAt gd.tk σv pins _ _ e s' I2 hq'
  | ok fl =>
    cases fl with
    | ret u =>
      obtain ⟨v, H', I3, rv', ev, q3⟩ := I2.after hq'
      subst ev
      exact ⟨rv', ⟨V.ref (s.heap.objs.size + 1), H', I3, rfl, q3⟩⟩
    | next => exact False.elim hq'
    | brk => exact False.elim hq'
    | cont => exact False.elim hq'
end
end Ev
end
section
set_option Elab.async false
set_option linter.all false
set_option maxRecDepth 100000
set_option maxHeartbeats 1000000
/-! Ev, part H: arguments. -/
namespace Ev
open PySem PySem.Spec PyProof.Rows L2

theorem ba2 {a b : Bool} (h : (a && b) = true) : a = true ∧ b = true := by rwa [Bool.and_eq_true] at h
theorem starEach_cons {e : Expr} {es : List Expr} {env : Env} (h : notStar e = true) : starEach (e :: es) env = (false, eval e env) :: starEach es env := by
  cases e <;> first | rfl | cases h
theorem any_plain {env : Env} {pos : Pos} : ∀ {es : List Expr}, es.all notStar = true → (backTo pos (starEach es env)).any (·.1) = false
  | [], _ => rfl
  | e :: es, h => by
    rw [List.all_cons, Bool.and_eq_true] at h
    rw [starEach_cons h.1]
    exact any_plain (es := es) h.2
theorem star_head {e : Expr} (h : notStar e = false) : ∃ a p, e = .Starred a p := by
  cases e <;> first | exact ⟨_, _, rfl⟩ | cases h
theorem any_star {env : Env} {pos : Pos} : ∀ {es : List Expr}, es.all notStar = false → (backTo pos (starEach es env)).any (·.1) = true
  | [], h => by cases h
  | e :: es, h => by
    cases he : notStar e with
    | true =>
      rw [List.all_cons, he, Bool.true_and] at h
      rw [starEach_cons he]
      exact any_star (es := es) h
    | false =>
      obtain ⟨a, p, rfl⟩ := star_head he
      rfl
theorem argB_plain {f : Expr → CE → Bool} {e : Expr} {c : CE} (hs : notStar e = true) (h : argB f e c = true) : f e c = true := by
  cases e <;> first | exact h | cases hs
/-- several arguments, not one starred one alone -/
theorem ea_multi {M : Model} {A : Around} {E : Value → Shared → Prop} {s : Shared} {f : Value} {args : List (Bool × Sem Value)} {Q : Args → Shared → Prop} (hn : ∀ x, args ≠ [(true, x)])
    (h : wpAny M A (spliced args) (fun vs s' => Q ⟨vs, []⟩ s') E s) : wpAny M A (evalArgs f true args []) Q E s := by
  unfold evalArgs
  match args, hn with
  | [], _ =>
    show wpAny M A (spliced [] >>= _) Q E s
    exact wpAny_bind (wpAny_mono h (fun vs s' h' => wpAny_holding (wpAny_bind (wpAny_pure (wpAny_bind (wpAny_pure (wpAny_pure h')))))) fun _ _ x => x)
  | (false, x) :: r, _ =>
    show wpAny M A (spliced ((false, x) :: r) >>= _) Q E s
    exact wpAny_bind (wpAny_mono h (fun vs s' h' => wpAny_holding (wpAny_bind (wpAny_pure (wpAny_bind (wpAny_pure (wpAny_pure h')))))) fun _ _ x => x)
  | (true, x) :: y :: r, _ =>
    show wpAny M A (spliced ((true, x) :: y :: r) >>= _) Q E s
    exact wpAny_bind (wpAny_mono h (fun vs s' h' => wpAny_holding (wpAny_bind (wpAny_pure (wpAny_bind (wpAny_pure (wpAny_pure h')))))) fun _ _ x => x)
  | [(true, x)], hn => exact absurd rfl (hn x)

section
variable {Γ : Gam} {X : Cx} {W : WX} {n m : Nat}
/-- an expression that is only looked at -/
theorem ck_V (gd : Gd Γ n X W) (L : LvE Γ n) {k : Nat} {e : Expr} {c : CE} (h : ck Γ.nms X.N k false X.env.scope e c = true) : PE X e (rdW Γ W fun σ h => evV (Γ.at_ n) σ c h) := by
  have g := s_toW (L X W gd k e c h)
  cases c with
  | var i =>
    cases k with
    | zero => cases h
    | succ k =>
      cases e with
      | Name x pos =>
        have h : ckVar X.N X.env.scope x i = true := h
        unfold ckVar at h
        obtain ⟨h1, h3⟩ := ba2 h
        obtain ⟨h1, h2⟩ := ba2 h1
        have hv : Vis X.env.scope x := by
          unfold visB at h2
          unfold Vis
          split at h2 <;> first | exact .inl (by assumption) | exact .inr (.inl (by assumption)) | exact .inr (.inr (by assumption)) | cases h2
        unfold dbgB at h3
        obtain ⟨h3, h5⟩ := ba2 h3
        obtain ⟨h3, h4⟩ := ba2 h3
        exact s_varV (of_decide_eq_true h1) hv (by simpa using h3) (by simpa using h4)
      | _ => cases h
  | _ => exact g
/-- arguments, from the left -/
theorem ck_args (gd : Gd Γ n X W) (L : LvE Γ n) {k : Nat} : ∀ {es : List Expr} {l : List CE}, all2 (argB (ck Γ.nms X.N k false X.env.scope)) es l = true → PA X es (rdA Γ W fun σ h => evArgs (Γ.at_ n) σ l h) := by
  intro es
  induction es with
  | nil =>
    intro l h
    cases l with
    | nil =>
      refine ⟨fun pos pins s σv H Q I q => pa_nil.run pos pins s σv H Q I ?_⟩
      obtain ⟨Z, φ, hh, σ, r, sr, p⟩ := q
      exact p Z φ H [] .refl r .nil
    | cons => cases h
  | cons e es ih =>
    intro l h
    cases l with
    | nil => cases h
    | cons c l =>
      obtain ⟨h1, h2⟩ := ba2 h
      have tail := ih h2
      have plain : ∀ (hs : notStar e = true) (he : ck Γ.nms X.N k false X.env.scope e c = true) (hc : ∀ a, c ≠ .star a), PA X (e :: es) (rdA Γ W fun σ h => evArgs (Γ.at_ n) σ (c :: l) h) := fun hs he hc => by
        have ev : ∀ σ h, evArgs (Γ.at_ n) σ (c :: l) h = Ro.bd ((Γ.at_ n).e σ c h) fun t h => Ro.bd (evArgs (Γ.at_ n) σ l h) fun ts h => some (.ok (t :: ts) h) := fun σ h => by
          cases c <;> first | rfl | exact absurd rfl (hc _)
        have g := pa_cons (L X W gd k e c he) tail (starEach_cons hs)
        refine ⟨fun pos pins s σv H Q I q => g.run pos pins s σv H Q I ?_⟩
        have q : rd Γ W (TVs Γ) (fun σ h => Ro.bd ((Γ.at_ n).e σ c h) fun t h => Ro.bd (evArgs (Γ.at_ n) σ l h) fun ts h => some (.ok (t :: ts) h)) σv H Q := by
          obtain ⟨Z, φ, hh, σ, r, sr, p⟩ := q
          exact ⟨Z, φ, hh, σ, r, sr, by
            have p : Post Γ W σv (TVs Γ) Z φ H (evArgs (Γ.at_ n) σ (c :: l) hh) Q := p
            rw [ev] at p
            exact p⟩
        refine (rd_bd (rel := TV Γ) q).mono fun x H1 ⟨Z1, φ1, h1, σ, t, r1, s1, w1, q1⟩ => ⟨Z1, φ1, h1, σ, r1, s1, (Post.bd (rel := TVs Γ) q1).mono fun ys H2 ⟨Z2, φ2, h2, us, le, r2, w2, q2⟩ => ?_⟩
        exact q2 Z2 φ2 H2 _ .refl r2 (.cons (w1.mono r1 le) w2)
      by_cases hs : notStar e = true
      · have h3 : ck Γ.nms X.N k false X.env.scope e c = true := argB_plain hs h1
        have hc : ∀ a, c ≠ .star a := fun a z => by
          subst z
          cases k with
          | zero => cases h3
          | succ k => cases h3
        exact plain hs h3 hc
      · obtain ⟨a, p, rfl⟩ := star_head (by simpa using hs)
        cases c with
        | star c =>
          have g := StX.pa_star (p := p) (ck_V gd L (k := k) (c := c) (e := a) h1) tail
          refine ⟨fun pos pins s σv H Q I q => g.run pos pins s σv H Q I ?_⟩
          have q : rd Γ W (TVs Γ) (fun σ h => Ro.bd (evV (Γ.at_ n) σ c h) fun t h => match seqOf h t with
            | some (_, l') => Ro.bd (evArgs (Γ.at_ n) σ l h) fun ts h => some (.ok (l' ++ ts) h)
            | none => none) σv H Q := q
          refine (rd_bd (rel := TW Γ) q).mono fun x H1 ⟨Z1, φ1, h1, σ, t, r1, s1, w1, q1⟩ => ?_
          cases es1 : seqOf h1 t with
          | none => rw [es1] at q1; exact q1.elim
          | some kl =>
            obtain ⟨kk, l'⟩ := kl
            rw [es1] at q1
            obtain ⟨ad, vs, rfl, rr, cc⟩ := seq_sq r1 w1 es1
            refine ⟨ad, vs, rfl, ?_, Z1, φ1, h1, σ, r1, s1, (Post.bd (rel := TVs Γ) q1).mono fun ys H2 ⟨Z2, φ2, h2, us, le, r2, w2, q2⟩ => ?_⟩
            · rcases cc with ⟨_, cc⟩ | ⟨_, cc⟩
              · exact .inl (gd.K ▸ cc)
              · exact .inr (gd.K ▸ cc)
            · exact q2 Z2 φ2 H2 _ .refl r2 ((rr.mono r1 le).app w2)
        | _ => cases h1
/-- keywords -/
theorem kw_names {M : Nms} {N : List Str} {sc : Scope} {k : Nat} {env : Env} {pos : Pos} : ∀ {ks : List Keyword} {kws : List (Nat × CE)}, all2 (fun (k' : Keyword) (c : Nat × CE) => decide (k'.arg = some (M.nm c.1)) && ck M N k false sc k'.value c.2) ks kws = true →
    (backToKw pos (keywordEach ks env)).all (·.1.isSome) = true ∧ (backToKw pos (keywordEach ks env)).filterMap (·.1) = kws.map fun p => M.nm p.1
  | [], [], _ => ⟨rfl, rfl⟩
  | ⟨a, v, p⟩ :: ks, c :: kws, h => by
    obtain ⟨h1, h2⟩ := ba2 h
    obtain ⟨h1, _⟩ := ba2 h1
    have e : a = some (M.nm c.1) := of_decide_eq_true h1
    subst e
    obtain ⟨i1, i2⟩ := kw_names (env := env) (pos := pos) h2
    refine ⟨?_, ?_⟩
    · show (true && (backToKw pos (keywordEach ks env)).all (·.1.isSome)) = true
      rw [i1] <;> rfl
    · show M.nm c.1 :: (backToKw pos (keywordEach ks env)).filterMap (·.1) = _
      rw [i2] <;> rfl
  | [], _ :: _, h => by cases h
  | _ :: _, [], h => by cases h
theorem ck_kws (gd : Gd Γ n X W) (L : LvE Γ n) {k : Nat} : ∀ {ks : List Keyword} {kws : List (Nat × CE)}, all2 (fun (k' : Keyword) (c : Nat × CE) => decide (k'.arg = some (Γ.nms.nm c.1)) && ck Γ.nms X.N k false X.env.scope k'.value c.2) ks kws = true →
    PK X ks (rd Γ W (fun Z φ H vs (ts : List (Nat × T)) => TVs Γ Z φ H vs (ts.map (·.2)) ∧ ts.map (·.1) = kws.map (·.1)) fun σ h => evKws (Γ.at_ n) σ kws h)
  | [], [], _ => ⟨fun pos pins s σv H Q I q => pk_nil.run pos pins s σv H Q I (by
      obtain ⟨Z, φ, hh, σ, r, sr, p⟩ := q
      exact p Z φ H [] .refl r ⟨.nil, rfl⟩)⟩
  | ⟨a, v, p⟩ :: ks, (j, c) :: kws, h => by
    obtain ⟨h1, h2⟩ := ba2 h
    have g := pk_cons (nm := a) (kpos := p) (L X W gd k v c (ba2 h1).2) (ck_kws gd L h2)
    refine ⟨fun pos pins s σv H Q I q => g.run pos pins s σv H Q I ?_⟩
    have q : rd Γ W (fun Z φ H vs (ts : List (Nat × T)) => TVs Γ Z φ H vs (ts.map (·.2)) ∧ ts.map (·.1) = ((j, c) :: kws).map (·.1)) (fun σ h => Ro.bd ((Γ.at_ n).e σ c h) fun t h => Ro.bd (evKws (Γ.at_ n) σ kws h) fun ts h => some (.ok ((j, t) :: ts) h)) σv H Q := q
    refine (rd_bd (rel := TV Γ) q).mono fun x H1 ⟨Z1, φ1, h1, σ, t, r1, s1, w1, q1⟩ => ⟨Z1, φ1, h1, σ, r1, s1, (Post.bd (rel := fun Z φ H vs (ts : List (Nat × T)) => TVs Γ Z φ H vs (ts.map (·.2)) ∧ ts.map (·.1) = kws.map (·.1)) q1).mono fun ys H2 ⟨Z2, φ2, h2, us, le, r2, w2, q2⟩ => ?_⟩
    exact q2 Z2 φ2 H2 _ .refl r2 ⟨.cons (w1.mono r1 le) w2.1, by rw [List.map_cons, List.map_cons, w2.2]⟩
  | [], _ :: _, h => by cases h
  | _ :: _, [], h => by cases h
/-- a call's arguments, then the call -/
theorem s_callWith {α β : Type} {rel : (Addr → Prop) → List Addr → Hp → β → α → Prop} (gd : Gd Γ n X W) (L : LvE Γ n) {k : Nat} {es : List Expr} {ks : List Keyword} {args : List CE} {kws : List (Nat × CE)} (hck : ckCall Γ.nms X.N k X.env.scope es ks args kws = true)
    {F : List T → List (Nat × T) → Hh → Ro α} {Q : β → Hp → Prop} {Qf : Value → Shared → Prop} {f : Value} {first : List Value} {pos : Pos} {pins : List (Addr × Obj)} {s : Shared} {σv : L2.St} {H : Hp} {Z : Addr → Prop} {φ : List Addr} {h : Hh} {σ : Sl}
    (I : Inv X pins σv H s) (r : R Γ Z φ H h) (sr : SR Γ Z φ H σ σv) (p : Post Γ W σv rel Z φ H (Ro.bd (evArgs (Γ.at_ n) σ args h) fun ts h => Ro.bd (evKws (Γ.at_ n) σ kws h) fun ks h => F ts ks h) Q) (hk : ∀ (h : Heap), X.K.In h → ∃ k, (k = Keeper.frame ∨ k = Keeper.machine ∨ k = Keeper.boundFrame) ∧ PySem.W.Looks (model X.prog X.w) h (keeperOf f) k)
    (cont : ∀ (us : List Value) (kv : List (Str × Value)) (vs : List V) (ts : List T) (kt : List (Nat × T)) (Z' : Addr → Prop) (φ' : List Addr) (H' : Hp) (h' : Hh) (s' : Shared), Inv X pins σv H' s' → Vals vs us → Le Z φ H Z' φ' H' → R Γ Z' φ' H' h' → TVs Γ Z' φ' H' vs ts → KRel Γ Z' φ' H' kv kt → (kws = [] → kv = []) →
      Post Γ W σv rel Z' φ' H' (F ts kt h') Q → wpAny (model X.prog X.w) X.A (call f (first ++ us) kv) Qf X.xe s') :
    wpAny (model X.prog X.w) X.A (callWith pos f first (backTo pos (starEach es X.env)) (backToKw pos (keywordEach ks X.env))) Qf X.xe s := by
  cases k with
  | zero => cases hck
  | succ k =>
    obtain ⟨hck, hst⟩ := ba2 hck
    obtain ⟨ha, hkw⟩ := ba2 hck
    cases k with
    | zero => cases ha
    | succ k =>
      have ha : all2 _ es args = true := ha
      have PAr := ck_args gd L ha
      have PKr := ck_kws (kws := kws) gd L hkw
      obtain ⟨kn1, kn2⟩ := kw_names (M := Γ.nms) (env := X.env) (pos := pos) hkw
      have q0 : rd Γ W rel (fun σ h => Ro.bd (evArgs (Γ.at_ n) σ args h) fun ts h => Ro.bd (evKws (Γ.at_ n) σ kws h) fun ks h => F ts ks h) σv H Q := ⟨Z, φ, h, σ, r, sr, p⟩
      have q1 : Post Γ W σv (TVs Γ) Z φ H (evArgs (Γ.at_ n) σ args h) _ := Post.bd p
      have q2 : rdA Γ W (fun σ h => evArgs (Γ.at_ n) σ args h) σv H _ := ⟨Z, φ, h, σ, r, sr, q1⟩
      cases hks : ks with
      | nil =>
        subst hks
        cases kws with
        | cons => cases hkw
        | nil =>
          have fin : ∀ {us : List Value} {vs : List V} {H1 : Hp} {s1 : Shared} (I1 : Inv X pins σv H1 s1) (rv : Vals vs us) (hq : ∃ Z1 φ1 h1 a, Le Z φ H Z1 φ1 H1 ∧ R Γ Z1 φ1 H1 h1 ∧ TVs Γ Z1 φ1 H1 vs a ∧ Post Γ W σv rel Z1 φ1 H1 (Ro.bd (evKws (Γ.at_ n) σ [] h1) fun ks h => F a ks h) Q),
              wpAny (model X.prog X.w) X.A (call f (first ++ us)) Qf X.xe s1 := fun {us vs H1 s1} I1 rv hq => by
            obtain ⟨Z1, φ1, h1, a, le, r1, tv, pp⟩ := hq
            exact cont us [] vs a [] Z1 φ1 H1 h1 s1 I1 rv le r1 tv ⟨[], [], rfl, .nil, .nil⟩ (fun _ => rfl) pp
          have go : (∀ x, backTo pos (starEach es X.env) ≠ [(true, x)]) → wpAny (model X.prog X.w) X.A (evalArgs f true (backTo pos (starEach es X.env)) []) (fun a s₁ => X.K.In s₁.heap ∧ wpAny (model X.prog X.w) X.A (call f (first ++ a.pos) a.kw) Qf X.xe s₁) X.xe s := fun hn =>
            ea_multi hn (thn (PAr.run pos pins s σv H _ I q2) fun us s1 ⟨vs, H1, I1, rv, hq⟩ => ⟨I1.kIn, fin I1 rv hq⟩)
          by_cases hl : ∃ e p, es = [Expr.Starred e p]
          · obtain ⟨e, pp, rfl⟩ := hl
            cases args with
            | nil => cases ha
            | cons c args =>
              cases args with
              | cons => simp [all2] at ha
              | nil =>
                cases c with
                | star c =>
                  have he := ck_V gd L (k := k) (c := c) (e := e) (by simpa [all2, argB] using ha)
                  refine PySem.W.ks_call rfl hk (PySem.W.ks_lone (thn (he.run pins s σv H (fun x H1 => ∃ Z1 φ1 h1 t, Le Z φ H Z1 φ1 H1 ∧ R Γ Z1 φ1 H1 h1 ∧ TW Γ Z1 φ1 H1 x t ∧ Post Γ W σv rel Z1 φ1 H1 (match seqOf h1 t with
                    | some (_, l') => F (l' ++ []) [] h1
                    | none => none) Q) I ⟨Z, φ, h, σ, r, sr, ?_⟩) fun v s1 ⟨y, H1, I1, ry, Z1, φ1, h1, t, le, r1, w1, pp⟩ => ?_))
                  · have p : Post Γ W σv rel Z φ H (Ro.bd (Ro.bd (evV (Γ.at_ n) σ c h) fun t h => match seqOf h t with
                      | some (_, l) => Ro.bd (evArgs (Γ.at_ n) σ [] h) fun ts h => some (.ok (l ++ ts) h)
                      | none => none) fun ts h => Ro.bd (evKws (Γ.at_ n) σ [] h) fun ks h => F ts ks h) Q := p
                    show Post Γ W σv (TW Γ) Z φ H (evV (Γ.at_ n) σ c h) _
                    cases e1 : evV (Γ.at_ n) σ c h with
                    | none => rw [e1] at p; exact p
                    | some y => cases y with
                      | ex c' fs h' => rw [e1] at p; exact p
                      | ok t h' =>
                        rw [e1] at p
                        intro Z1 φ1 H1 b le r1 w1
                        refine ⟨Z1, φ1, h', t, le, r1, w1, ?_⟩
                        have p : Post Γ W σv rel Z φ H (Ro.bd (match seqOf h' t with
                          | some (_, l) => Ro.bd (evArgs (Γ.at_ n) σ [] h') fun ts h => some (.ok (l ++ ts) h)
                          | none => none) fun ts h => Ro.bd (evKws (Γ.at_ n) σ [] h) fun ks h => F ts ks h) Q := p
                        have p := p.later le
                        cases e2 : seqOf h' t with
                        | none => rw [e2] at p; exact p
                        | some kl => obtain ⟨kk, l'⟩ := kl; rw [e2] at p; exact p
                  · cases e2 : seqOf h1 t with
                    | none => rw [e2] at pp; exact pp.elim
                    | some kl =>
                      obtain ⟨kk, l'⟩ := kl
                      rw [e2] at pp
                      obtain ⟨ad, vs, rfl, rr, cc⟩ := seq_sq r1 w1 e2
                      obtain rfl : v = Value.ref ad := ry
                      refine StX.star_any I1 (xs := vs) ?_ fun us s2 I2 rv => ⟨I2.kIn, fin I2 rv ⟨Z1, φ1, h1, l' ++ [], le, r1, by rw [List.append_nil]; exact rr, pp⟩⟩
                      rcases cc with ⟨_, cc⟩ | ⟨_, cc⟩
                      · exact .inl (gd.K ▸ cc)
                      · exact .inr (gd.K ▸ cc)
                | _ => simp [all2, argB, notStar] at ha
          · have hn : ∀ x, backTo pos (starEach es X.env) ≠ [(true, x)] := fun x z => by
              match es, hl, z with
              | [], _, z => cases z
              | [e], hl, z =>
                cases he : notStar e with
                | true => rw [starEach_cons he] at z; cases z
                | false =>
                  obtain ⟨a, p, rfl⟩ := star_head he
                  exact hl ⟨a, p, rfl⟩
              | e :: e2 :: es, _, z =>
                have l2 := congrArg List.length z
                have len : ∀ es : List Expr, (backTo pos (starEach es X.env)).length = es.length := fun es => by
                  unfold backTo
                  rw [List.length_map]
                  induction es with
                  | nil => rfl
                  | cons e es ih =>
                    cases he : notStar e with
                    | true => rw [starEach_cons he, List.length_cons, ih, List.length_cons]
                    | false =>
                      obtain ⟨a, p, rfl⟩ := star_head he
                      show (starEach es X.env).length + 1 = _
                      rw [ih, List.length_cons]
                rw [len] at l2
                simp at l2
            cases hpl : es.all notStar with
            | true => exact PySem.W.callWith_of (by rw [any_plain hpl] <;> rfl) hk (go hn)
            | false => exact PySem.W.ks_call (any_star hpl) hk (go hn)
      | cons k0 kr =>
        rw [hks] at hst
        have hpl : es.all notStar = true := by simpa using hst
        rw [hks] at PKr kn1 kn2
        have fin : ∀ {us : List Value} {vs : List V} {H1 : Hp} {s1 : Shared} (I1 : Inv X pins σv H1 s1) (rv : Vals vs us) (hq : ∃ Z1 φ1 h1 a, Le Z φ H Z1 φ1 H1 ∧ R Γ Z1 φ1 H1 h1 ∧ TVs Γ Z1 φ1 H1 vs a ∧ Post Γ W σv rel Z1 φ1 H1 (Ro.bd (evKws (Γ.at_ n) σ kws h1) fun ks h => F a ks h) Q),
            wpAny (model X.prog X.w) X.A (evalAll ((backToKw pos (keywordEach (k0 :: kr) X.env)).map (·.2))) (fun zs s₂ => X.K.In s₂.heap ∧ wpAny (model X.prog X.w) X.A (call f (first ++ us) (((backToKw pos (keywordEach (k0 :: kr) X.env)).filterMap (·.1)).zip zs)) Qf X.xe s₂) X.xe s1 := fun {us vs H1 s1} I1 rv hq => by
          obtain ⟨Z1, φ1, h1, a, le, r1, tv, pp⟩ := hq
          refine thn (PKr.run pos pins s1 σv H1 _ I1 ⟨Z1, φ1, h1, σ, r1, sr.mono r le, Post.bd pp⟩) fun ws s2 ⟨zs, H2, I2, rz, Z2, φ2, h2, kt, le2, r2, tz, pz⟩ => ⟨I2.kIn, ?_⟩
          rw [kn2]
          refine cont us _ vs a kt Z2 φ2 H2 h2 s2 I2 rv (le.trans le2) r2 (tv.mono r1 le2) ⟨ws, zs, ?_, rz, tz.1⟩ (fun e => by subst e; rw [hks] at hkw; cases hkw) pz
          have ez := congrArg (List.map Γ.nm) tz.2
          rw [List.map_map, List.map_map] at ez
          show (kws.map (Γ.nm ∘ Prod.fst)).zip ws = (kt.map (Γ.nm ∘ Prod.fst)).zip ws
          rw [ez]
        have hplain : ((backTo pos (starEach es X.env)).any (·.1) || (backToKw pos (keywordEach (k0 :: kr) X.env)).any (·.1.isNone)) = false := by
          rw [any_plain hpl, Bool.false_or]
          rw [← Bool.not_eq_true]
          intro z
          obtain ⟨y, hy, hz⟩ := List.any_eq_true.mp z
          have := List.all_eq_true.mp kn1 y hy
          cases hq : y.1 with
          | none => rw [hq] at this; cases this
          | some v => rw [hq] at hz; cases hz
        cases hes : es with
        | nil =>
          subst hes
          refine PySem.W.callWith_of hplain hk (PyProof.Rows.evalArgs_kw2_nil kn1 ?_)
          have hq := thn (PAr.run pos pins s σv H _ I q2) (Q' := fun us s1 => us = [] → wpAny (model X.prog X.w) X.A (evalAll ((backToKw pos (keywordEach (k0 :: kr) X.env)).map (·.2))) (fun zs s₂ => X.K.In s₂.heap ∧ wpAny (model X.prog X.w) X.A (call f (first ++ []) (((backToKw pos (keywordEach (k0 :: kr) X.env)).filterMap (·.1)).zip zs)) Qf X.xe s₂) X.xe s1) fun us s1 ⟨vs, H1, I1, rv, hq⟩ e => by subst e; exact fin I1 rv hq
          cases args with
          | cons => cases ha
          | nil =>
            have e0 := q1 Z φ H [] .refl r .nil
            exact fin I .nil e0
        | cons e es' =>
          subst hes
          have he : notStar e = true := by rw [List.all_cons] at hpl; exact (ba2 hpl).1
          exact PySem.W.callWith_of hplain hk (PyProof.Rows.evalArgs_kw2 kn1 (thn (PAr.run pos pins s σv H _ I q2) fun us s1 ⟨vs, H1, I1, rv, hq⟩ => fin I1 rv hq) (starEach_cons he))
end
end Ev
end
section
set_option Elab.async false
set_option linter.all false
set_option maxRecDepth 100000
set_option maxHeartbeats 2000000
/-! Ev, part Xa: own exceptions: the __init__ of a class above, called by the class's name. -/
namespace Ev
open PySem PySem.Spec PyProof.Rows L2
/-- the stores self.f = p of an __init__ -/
def xsB (N : List Str) (sc : Scope) : List Stmt → List (Str × Nat) → Bool
  | [], [] => true
  | .Assign [.Attribute (.Name x _) g _] (.Name y _) _ :: ss, (f, i) :: fs => decide (g = f) && ckVar N sc x 0 && ckVar N sc y i && xsB N sc ss fs
  | _, _ => false
def xbB (N : List Str) (sc : Scope) (c0 : Str) : List Stmt → List (Str × Nat) → Bool
  | .Expr (.Call (.Attribute (.Name x _) m ap) [.Name y _, .Constant (.str _) _ _] [] cp) _ :: ss, fs => decide (x = c0) && decide (m = "__init__") && ckVar N sc y 0 && (ap.endLine == cp.line) && xsB N sc ss fs
  | _, _ => false
end Ev
end
section
set_option Elab.async false
set_option linter.all false
set_option maxRecDepth 100000
set_option maxHeartbeats 1000000
/-! Ev, part I: own classes: attributes, special methods. -/
namespace Ev
open PySem PySem.Spec PyProof.Rows L2

/-- what the text has of a class whose instances have a dict -/
structure ClF (Γ : Gam) (c : Nat) (k : ClD) : Prop where
  cls : Cls Γ.K (Γ.cA c)
  init : ∀ f, k.init = some f → Mk Γ.K (Γ.cA c) (Γ.fA f)
  flds : ∀ f, k.flds.contains f = true → NoAttr Γ.K (Γ.cA c) (Γ.nm f)
  meth : ∀ m g, k.meth.lookup m = some g → Meth Γ.K (Γ.cA c) (Γ.nm m) (Γ.fA g) ∧ PySem.W.fnIn Γ.K (Γ.fA g) = true
  prop : ∀ m g, k.prop.lookup m = some g → ∃ p, PropOf Γ.K (Γ.cA c) (Γ.nm m) p (Γ.fA g)
  con : ∀ f t, k.con.lookup f = some t → ∃ v u mc, Con Γ.K (Γ.cA c) (Γ.nm f) v u ∧ ClX.CRead Γ.K (Γ.cA c) mc ∧ ClX.CVal Γ.K (Γ.cA c) mc (Γ.nm f) v u ∧ ∀ Z φ H, TV Γ Z φ H v t
  cm : ∀ m g, k.cm.lookup m = some g → ∃ mc p, ClX.CRead Γ.K (Γ.cA c) mc ∧ ClX.CMet Γ.K (Γ.cA c) mc (Γ.nm m) p (Γ.fA g)
  noseq : PySem.W.noSeq Γ.K (Γ.cA c) = true
  sf : PySem.W.selfFirst Γ.K (Γ.cA c) = true
  hcl : PySem.W.findIn Γ.K (.ref (Γ.cA c)) "__class__" = some (some (.builtin "object.__class__"))
  hgt : PySem.W.specialIn Γ.K (.builtin "object.__class__") "__get__" = some (some (.builtin "getset_descriptor.__get__"))
  htk : PySem.W.takesIn Γ.K (.builtin "object.__class__") = some true
  obj : PySem.W.mroIn Γ.K (Γ.cA c) (.type "object") = some true
  nf : ∀ n, n < 8 → PySem.W.notFirst Γ.K (Γ.cA c) (.type (tyN n)) = true
  nfc : ∀ c' k', Γ.G.cl c' = some k' → PySem.W.notFirst Γ.K (Γ.cA c) (.ref (Γ.cA c')) = true
  inst : ∀ n, n < 8 → PySem.W.kitOne Γ.K (.type (tyN n)) (.ref (Γ.cA c)) = some false
  instc : ∀ c' k', Γ.G.cl c' = some k' → PySem.W.kitOne Γ.K (.ref (Γ.cA c')) (.ref (Γ.cA c)) = some (Γ.G.isSub c' c)
  nadd : k.meth.lookup nAdd = none → ∀ (M : Model) (h : Heap), Γ.K.In h → PySem.W.Looks M h (fillsNumberSlot (.ref (Γ.cA c)) "add") false
  nsub : k.meth.lookup nSub = none → ∀ (M : Model) (h : Heap), Γ.K.In h → PySem.W.Looks M h (fillsNumberSlot (.ref (Γ.cA c)) "sub") false
  instT : ∀ n, n < 8 → PySem.W.kitOne Γ.K (.ref (Γ.cA c)) (.type (tyN n)) = some false
/-- what the text has of an own exception class: its __init__ calls the __init__ of a class above and stores the fields in order; what is left out is None -/
structure XcF (Γ : Gam) (c : Nat) (k : XcD) : Prop where
  oex : OexC Γ.K (Γ.cA c)
  xf : XfC Γ.K (Γ.cA c)
  exm : ∀ c' k', Γ.G.xc c' = some k' → PySem.W.exmOne Γ.K (.ref (Γ.cA c)) (.ref (Γ.cA c')) = some (Γ.G.isSubX c c')
  no : ∀ f, (k.exf.map (·.1)).contains f = true → PySem.W.findIn Γ.K (.ref (Γ.cA c)) (Γ.nm f) = some none
  many : k.exf.length ≤ 20
  isx : ExcC Γ.K (Γ.cA c)
  kx : ∀ c' k', Γ.G.xc c' = some k' → PySem.W.kitOne Γ.K (.ref (Γ.cA c)) (.ref (Γ.cA c')) = some (Γ.G.isSubX c c')
  kc : ∀ c' k', Γ.G.cl c' = some k' → PySem.W.kitOne Γ.K (.ref (Γ.cA c)) (.ref (Γ.cA c')) = some false ∧ PySem.W.kitOne Γ.K (.ref (Γ.cA c')) (.ref (Γ.cA c)) = some false
  kt : ∀ n, n < 8 → PySem.W.kitOne Γ.K (.ref (Γ.cA c)) (.type (tyN n)) = some (n == 7) ∧ PySem.W.kitOne Γ.K (.type (tyN n)) (.ref (Γ.cA c)) = some false
  dflt : ∀ p ∈ k.exf, ∀ t, p.2 = some t → t = .non
  make : k.exf ≠ [] → ∃ (x qual : Str) (params : Arguments) (body : List Stmt) (scope : Scope) (dvs : List V) (fI : Addr) (fd : FuncData) (N ps : List Str) (c0 : Str) (C0 : Addr) (fs : List (Str × Nat)),
    FunD Γ.K x qual params body scope dvs [] fI fd ∧ FnScope N ps scope ∧ ps.length = k.exf.length + 1 ∧ xbB N scope c0 body fs = true ∧ fs.map (·.1) = k.exf.map (fun p => Γ.nm p.1) ∧ fs.map (·.2) = List.range' 1 k.exf.length ∧
    Γ.mg c0 = some (.ref C0) ∧ dbgB c0 = true ∧ glB scope c0 = true ∧ ClX.CRead Γ.K C0 (.type "type") ∧ PySem.W.findCls Γ.K (.ref C0) (.type "type") "__init__" = some (.val (.builtin "ValueError.__init__")) ∧
    PySem.W.findIn Γ.K (.ref (Γ.cA c)) "__init__" = some (some (.ref fI)) ∧ PySem.W.typeIn Γ.K (.ref fI) = some (.type "function") ∧
    ∀ n, n ≤ k.exf.length → (∀ p ∈ k.exf.drop n, p.2 ≠ none) → Binds Γ.K fd ps (List.replicate (k.exf.length - n) Value.none)
/-- .. of all -/
structure WdF (Γ : Gam) : Prop where
  tbs : ∀ (t : Nat) (ti : TabI), Γ.tb[t]? = some ti → LamX.TabB Γ.base Γ.mg ti.code ti.tbl
  xc : ∀ c k, Γ.G.xc c = some k → XcF Γ c k
  cl : ∀ c k, Γ.G.cl c = some k → ClF Γ c k
  inj : ∀ i j, Γ.nm i = Γ.nm j → i = j
  kit : ∀ a b, a < 8 → b < 8 → PySem.W.kitOne Γ.K (.type (tyN a)) (.type (tyN b)) = some (b == a || (a == 1 && b == 0))
  rng : Γ.mg "range" = none
  enm : Γ.mg "enumerate" = none
  zip : Γ.mg "zip" = none
  b11 : Γ.nm nAppend = "append"
  b12 : Γ.nm nExtend = "extend"
  b13 : Γ.nm nPop = "pop"
  b14 : Γ.nm nCount = "count"
  b15 : Γ.nm nIndex = "index"
  b16 : Γ.nm nGet = "get"
  b19 : Γ.nm nJoin = "join"
  b20 : Γ.nm nSplit = "split"
  n0 : Γ.nm nEq = "__eq__"
  n1 : Γ.nm nLt = "__lt__"
  n2 : Γ.nm nLe = "__le__"
  n3 : Γ.nm nAdd = "__add__"
  n4 : Γ.nm nSub = "__sub__"
  n5 : Γ.nm nNeg = "__neg__"
  n6 : Γ.nm nIn = "__contains__"
  n7 : Γ.nm nIx = "__getitem__"
  n8 : Γ.nm nLen = "__len__"
  n9 : Γ.nm nBool = "__bool__"
  n10 : Γ.nm nCall = "__call__"

section
variable {Γ : Gam} {Z : Addr → Prop} {φ : List Addr} {H : Hp} {h : Hh} {X : Cx} {W : WX} {n m : Nat} {pins : List (Addr × Obj)} {σv : L2.St} {s : Shared}
/-- a def called within the calls of the machine -/
theorem code_at {A' : Around} (gd : Gd Γ m X W) (fa : FnAll Γ n) (hr : Room n A') (hfr : A'.frames = X.A.frames) {f : Nat} {us : List Value} {kws : List (Str × Value)} {vs : List V} {ts : List T} {ks : List (Nat × T)} {Q : VK} (I : Inv X pins σv H s) (rv : Vals vs us) (r : R Γ Z φ H h) (tv : TVs Γ Z φ H vs ts) (kr : KRel Γ Z φ H kws ks)
    (p : Post Γ W σv (TV Γ) Z φ H (callF Γ.G (Γ.at_ n) f ts ks h) Q) :
    codeAny (model X.prog X.w) A' (.call (.ref (Γ.fA f)) ⟨us, kws⟩) (fun r s' => match r with | .ok (.ret v) => EP X pins σv Q v s' | .ok _ => False | .error e => X.xe e s') s := by
  have e0 : Env0 X.prog X.w X.K X.mg X.base A' X.stack s H := by
    have e := I.env0
    exact ⟨by rw [hfr]; exact e.frames, e.mod, e.bs, e.bsz, e.funs, e.frf, e.hok, e.bare⟩
  unfold callF at p
  cases hf : Γ.G.fn f with
  | none => rw [hf] at p; exact p.elim
  | some d =>
    rw [hf] at p
    dsimp only at p
    cases hb : bindA d ts ks with
    | none => rw [hb] at p; exact p.elim
    | some bs =>
      rw [hb] at p
      refine codeAny_mono (gd.fn (fa f d hf) A' X.stack s H us kws vs Z φ h ts ks bs Q (WE W σv) hr e0 rv r tv kr hb p.castW) fun r s' hq => ?_
      cases r with
      | error e => exact passAt gd.tk σv pins H s e s' I hq
      | ok fl =>
        cases fl with
        | ret u => exact I.after hq
        | next => exact False.elim hq
        | brk => exact False.elim hq
        | cont => exact False.elim hq
/-- .. no exception leaves -/
theorem code_nox {A' : Around} {E' : Value → Shared → Prop} (gd : Gd Γ m X W) (fa : FnAll Γ n) (hr : Room n A') (hfr : A'.frames = X.A.frames) {f : Nat} {us : List Value} {vs : List V} {ts : List T} {Q : VK} (I : Inv X pins σv H s) (rv : Vals vs us) (r : R Γ Z φ H h) (tv : TVs Γ Z φ H vs ts)
    (p : Post Γ W σv (TV Γ) Z φ H (noEx (callF Γ.G (Γ.at_ n) f ts [] h)) Q) :
    codeAny (model X.prog X.w) A' (.call (.ref (Γ.fA f)) ⟨us, []⟩) (fun r s' => match r with | .ok (.ret v) => EP X pins σv Q v s' | .ok _ => False | .error e => E' e s') s := by
  have e0 : Env0 X.prog X.w X.K X.mg X.base A' X.stack s H := by
    have e := I.env0
    exact ⟨by rw [hfr]; exact e.frames, e.mod, e.bs, e.bsz, e.funs, e.frf, e.hok, e.bare⟩
  unfold callF at p
  cases hf : Γ.G.fn f with
  | none => rw [hf] at p; exact p.elim
  | some d =>
    rw [hf] at p
    dsimp only at p
    cases hb : bindA d ts [] with
    | none => rw [hb] at p; exact p.elim
    | some bs =>
      rw [hb] at p
      dsimp only at p
      have q : Post Γ (WofE fun _ _ _ => False) [] (TV Γ) Z φ H ((Γ.at_ n).call f bs h) Q := by
        cases e : (Γ.at_ n).call f bs h with
        | none => rw [e] at p; exact p
        | some y => cases y with
          | ok t h' => rw [e] at p; exact p
          | ex c fs h' => rw [e] at p; exact p.elim
      refine codeAny_mono (gd.fn (fa f d hf) A' X.stack s H us [] vs Z φ h ts [] bs Q (fun _ _ _ => False) hr e0 rv r tv ⟨[], [], rfl, .nil, .nil⟩ hb q) fun r s' hq => ?_
      cases r with
      | error e =>
        obtain ⟨_, _, _, _, _, _, _, _, _, _, _, _, z⟩ := hq
        exact z.elim
      | ok fl =>
        cases fl with
        | ret u => exact I.after hq
        | next => exact False.elim hq
        | brk => exact False.elim hq
        | cont => exact False.elim hq
theorem kr_nil : KRel Γ Z φ H [] [] := ⟨[], [], rfl, .nil, .nil⟩
theorem frames_in1 {A : Around} : A.in1.frames = A.frames := rfl

/-! ### instances -/
theorem inst_of (r : R Γ Z φ H h) {v : V} {t : T} {c : Nat} (w : TW Γ Z φ H v t) (e : clsOf h t = some c) : ∃ (a dx : Addr) (gs : List (Str × V)) (fs : List (Nat × T)), v = .ref a ∧ H a = some (.ins (Γ.cA c) dx gs) ∧ TFs Γ Z φ H gs fs ∧ TV Γ Z φ H v t ∧
    (t = .ins c fs ∨ ∃ k, t = .ref k ∧ h[k]? = some (.ins c fs)) := by
  rcases w with w | ⟨_, _, _, _, rfl, _⟩
  · have w0 := w
    cases w with
    | ins z x y => cases e; exact ⟨_, _, _, _, rfl, x, y, w0, .inl rfl⟩
    | ref x =>
      rename_i a k
      have e : (match h[k]? with | some (MO.ins c _) => some c | _ => none) = some c := e
      split at e
      · rename_i c' fs hk
        cases e
        have mo := r.ok _ _ _ hk x
        cases mo with
        | ins h1 r1 => exact ⟨_, _, _, _, rfl, h1, r1, w0, .inr ⟨k, rfl, hk⟩⟩
      · cases e
    | _ => cases e
  · cases e
theorem tfs_look (inj : ∀ i j, Γ.nm i = Γ.nm j → i = j) : ∀ {gs : List (Str × V)} {fs : List (Nat × T)} (f : Nat), TFs Γ Z φ H gs fs → (fs.lookup f = none ∧ gs.lookup (Γ.nm f) = none) ∨ ∃ t v, fs.lookup f = some t ∧ gs.lookup (Γ.nm f) = some v ∧ TV Γ Z φ H v t
  | _, _, f, .nil => .inl ⟨rfl, rfl⟩
  | _, _, f, .cons (v := v) (t := t) (f := g) a b => by
    simp only [List.lookup]
    by_cases e : f = g
    · subst e
      simp only [beq_self_eq_true]
      exact .inr ⟨t, v, rfl, rfl, a⟩
    · have e1 : (f == g) = false := by simpa using e
      have e2 : (Γ.nm f == Γ.nm g) = false := by simpa using fun z => e (inj _ _ z)
      rw [e1, e2]
      exact tfs_look inj f b
theorem instAt (I : Inv X pins σv H s) {a C dx : Addr} {gs : List (Str × V)} (e : H a = some (.ins C dx gs)) : ∃ ox od, PySem.W.InstAt s.heap a ox C (some od) := by
  obtain ⟨mA, O, _⟩ := ins_get I.hok e
  obtain ⟨od, J, _⟩ := O.look
  exact ⟨_, od, J⟩
/-- an instance's attribute -/
theorem getattr_I {b : Bool} (wd : WdF Γ) (gd : Gd Γ (n + 1) X W) (fa : FnAll Γ n) {a dx : Addr} {gs : List (Str × V)} {c f : Nat} {fs : List (Nat × T)} {t : T} {Q : VK} (I : Inv X pins σv H s) (ea : H a = some (.ins (Γ.cA c) dx gs)) (tf : TFs Γ Z φ H gs fs) (r : R Γ Z φ H h) (tv : TV Γ Z φ H (.ref a) t)
    (p : Post Γ W σv (TV Γ) Z φ H (attrI Γ.G (Γ.at_ n) t c fs f h) Q) : wpAny (model X.prog X.w) X.A (getAttr (.ref a) (Γ.nm f) b) (EP X pins σv Q) X.xe s := by
  unfold attrI at p
  cases hc : Γ.G.cl c with
  | none => rw [hc] at p; exact p.elim
  | some k =>
    rw [hc] at p
    dsimp only at p
    have C := wd.cl c k hc
    cases hp : k.prop.lookup f with
    | some g =>
      rw [hp] at p
      dsimp only at p
      obtain ⟨pa, PO⟩ := C.prop f g hp
      obtain ⟨mA, O, _, _, _, _⟩ := ins_get I.hok ea
      obtain ⟨od, J, _⟩ := O.look
      obtain ⟨rest, hrec⟩ := PO.rec_
      have I1 := I.tok (s.toks + 1)
      have hcI : (PySem.W.clsIn X.K (Γ.cA c)).isSome = true := by
        rw [gd.K]
        obtain ⟨cd, hc, _⟩ := PySem.W.any_some C.cls.hd
        rw [hc]
        rfl
      have CK : Cls X.K (Γ.cA c) := gd.K ▸ C.cls
      have hat : PySem.W.findIn X.K (.ref (Γ.cA c)) (Γ.nm f) = some (some (.ref pa)) := by rw [gd.K]; exact PO.at_
      have hget : PySem.W.specialIn X.K (.ref pa) "__get__" = some (some (.builtin "property.__get__")) := by rw [gd.K]; exact PO.get
      have htak : PySem.W.takesIn X.K (.ref pa) = some true := by rw [gd.K]; exact PO.tak
      have hrec' : PySem.W.recIn X.K pa "property" = some (.ref (Γ.fA g) :: rest) := by rw [gd.K]; exact hrec
      refine PySem.W.get_bind I.kIn J (PySem.W.plainGet_of (CK.get (Γ.nm f))).1 (PySem.W.findObj_data hcI hat hget htak) (PySem.W.plainGet_of (CK.get (Γ.nm f))).2 (wpAny_call (PySem.W.prop_get (s := { s with toks := s.toks + 1 }) I.kIn hrec' ?_))
      refine codeAny_mono (code_nox (E' := fun _ _ => False) gd fa gd.room.in1 frames_in1 I1 (us := [.ref a]) (vs := [.ref a]) (ts := [t]) (.cons rfl .nil) r (.cons tv .nil) p) fun rr s' hq => ?_
      cases rr with
      | error er => exact False.elim hq
      | ok fl =>
        cases fl with
        | ret u =>
          obtain ⟨v, H', I3, rv, q3⟩ := hq
          show wpAny _ _ (handedOut u) _ _ _
          rw [PySem.W.handedOut_of (handed_of rv)]
          exact wpAny_pure ⟨v, H', I3, rv, q3⟩
        | next => exact False.elim hq
        | brk => exact False.elim hq
        | cont => exact False.elim hq
    | none =>
      rw [hp] at p
      dsimp only at p
      have CK : Cls X.K (Γ.cA c) := gd.K ▸ C.cls
      rcases tfs_look wd.inj f tf with ⟨e1, e2⟩ | ⟨t', v, e1, e2, w⟩
      · rw [e1] at p
        cases hcn : k.con.lookup f with
        | none => rw [hcn] at p; exact p.elim
        | some t' =>
          rw [hcn] at p
          obtain ⟨v, u, mc, cn, _, _, tvv⟩ := C.con f t' hcn
          have cn' : Con X.K (Γ.cA c) (Γ.nm f) v u := gd.K ▸ cn
          exact getcon_ok I ea CK cn' e2 fun s' I' => ⟨v, H, I', cn.rel, p.ok r (tvv _ _ _)⟩
      · rw [e1] at p
        dsimp only at p
        split at p
        · rename_i hf
          have na : NoAttr X.K (Γ.cA c) (Γ.nm f) := gd.K ▸ C.flds f hf
          exact getattr_ok I ea CK na e2 fun u s' I' ru => ⟨v, H, I', ru, p.ok r w⟩
        · exact p.elim
/-- a special method of a value -/
theorem own_meth (wd : WdF Γ) (r : R Γ Z φ H h) {v : V} {t : T} {mm f : Nat} (w : TW Γ Z φ H v t) (e : ownM Γ.G h t mm = some f) :
    ∃ (a dx : Addr) (gs : List (Str × V)) (c : Nat) (k : ClD), v = .ref a ∧ H a = some (.ins (Γ.cA c) dx gs) ∧ TV Γ Z φ H v t ∧ clsOf h t = some c ∧ Γ.G.cl c = some k ∧ ClF Γ c k ∧ Meth Γ.K (Γ.cA c) (Γ.nm mm) (Γ.fA f) ∧ PySem.W.fnIn Γ.K (Γ.fA f) = true := by
  unfold ownM at e
  cases hc : clsOf h t with
  | none => rw [hc] at e; cases e
  | some c =>
    rw [hc] at e
    have e : methOf Γ.G c mm = some f := e
    unfold methOf at e
    cases hcl : Γ.G.cl c with
    | none => rw [hcl] at e; cases e
    | some k =>
      rw [hcl] at e
      obtain ⟨a, dx, gs, fs, ev, ea, _, tv, _⟩ := inst_of r w hc
      have C := wd.cl c k hcl
      obtain ⟨m1, m2⟩ := C.meth mm f e
      exact ⟨a, dx, gs, c, k, ev, ea, tv, rfl, hcl, C, m1, m2⟩
end
end Ev
end
section
set_option Elab.async false
set_option linter.all false
set_option maxRecDepth 100000
set_option maxHeartbeats 1000000
/-! Ev, part J: operators and comparisons, own methods among them. -/
namespace Ev
open PySem PySem.Spec PyProof.Rows L2

/-- an operation, told of the slots too -/
def OpS (X : Cx) (f : Value → Value → Sem Value) (r : L2.St → V → V → Hp → VK → Prop) : Prop :=
  ∀ (pins : List (Addr × Obj)) (s : Shared) (σ : L2.St) (H : Hp) (x y : V) (v u : Value) (Q : VK), Inv X pins σ H s → RelV x v → RelV y u → r σ x y H Q → wpAny (model X.prog X.w) X.A (f v u) (EP X pins σ Q) X.xe s
section
variable {X : Cx} {a b c : Expr} {ta tb tc : TE} {pos : Pos} {r r' : L2.St → V → V → Hp → VK → Prop}
theorem pe_opS {op : Operator} (ho : OpS X (binaryOp op) r) (ha : PE X a ta) (hb : PE X b tb) : PE X (.BinOp a op b pos) (fun σ H Q => ta σ H fun x H1 => tb σ H1 fun y H2 => r σ x y H2 Q) := by
  refine ⟨fun pins s σ H Q I h => ?_⟩
  exact wpAny_BinOp (L2.binT ha hb I h fun v u s2 x y H2 I2 rx ry q => ho pins s2 σ H2 x y v u Q I2 rx ry q)
theorem pe_cmpS {op : CmpOp} (ho : OpS X (compareOp op) r) (ha : PE X a ta) (hb : PE X b tb) (hm : behindInMarks op b = false) : PE X (.Compare a [op] [b] pos) (fun σ H Q => ta σ H fun x H1 => tb σ H1 fun y H2 => r σ x y H2 Q) := by
  refine ⟨fun pins s σ H Q I h => ?_⟩
  exact wpAny_Compare1 (L2.binT ha hb I h fun v u s2 x y H2 I2 rx ry q => ho pins s2 σ H2 x y v u Q I2 rx ry q) hm
theorem pt_cmpS {op : CmpOp} (ho : OpS X (compareOp op) r) (ha : PE X a ta) (hb : PE X b tb) (hm : behindInMarks op b = false) : PT X (.Compare a [op] [b] pos) (fun σ H Q => ta σ H fun x H1 => tb σ H1 fun y H2 => r σ x y H2 fun z H3 => ∃ k, z = .bl k ∧ Q k H3) := by
  refine ⟨fun pins s σ H Q I h => ?_⟩
  refine wpAny_isTrue_Compare1 (thn (ha.run pins s σ H _ I h) fun v s1 ⟨x, H1, I1, r1, q1⟩ => thn (hb.run pins s1 σ H1 _ I1 q1) fun u s2 ⟨y, H2, I2, r2, q2⟩ =>
    thn (ho pins s2 σ H2 x y v u _ I2 r1 r2 q2) fun c s3 ⟨z, H3, I3, r3, k, e, q3⟩ => ?_) hm
  subst e
  cases r3
  exact wpAny_truthy_bool ⟨H3, I3, q3⟩
end

section
variable {Γ : Gam} {Z : Addr → Prop} {φ : List Addr} {H : Hp} {h : Hh} {X : Cx} {W : WX} {n m : Nat} {pins : List (Addr × Obj)} {σv : L2.St} {s : Shared}
theorem TW.tv (r : R Γ Z φ H h) {G : Prg} {v : V} {t : T} (w : TW Γ Z φ H v t) (e : okY G h t = true) : TV Γ Z φ H v t := by
  rcases w with w | ⟨_, _, _, _, rfl, _⟩
  · exact w
  · cases e
/-- a value's type -/
theorem typ_of (gd : Gd Γ m X W) (r : R Γ Z φ H h) (I : Inv X pins σv H s) {v : V} {u : Value} {t : T} (rv : RelV v u) (w : TV Γ Z φ H v t) (e : okY Γ.G h t = true) :
    ∃ tb, PySem.W.Looks (model X.prog X.w) s.heap (typeOf u) tb ∧ ((∃ k, k < 8 ∧ tb = .type (tyN k)) ∨ ∃ c kk, clsOf h t = some c ∧ Γ.G.cl c = some kk ∧ tb = .ref (Γ.cA c)) := by
  have own : ∀ {a : Addr} {o : Obj} {T : String}, s.heap.get? a = some o → o.cls = .type T → PySem.W.Looks (model X.prog X.w) s.heap (typeOf (.ref a)) (.type T) := fun {a o T} h1 h2 A Q E s' k q => wpAny_typeOf_ref (k _ _ h1) (by rw [h2]; exact q)
  have ins : ∀ {a C dx : Addr} {gs : List (Str × V)}, H a = some (.ins C dx gs) → PySem.W.Looks (model X.prog X.w) s.heap (typeOf (.ref a)) (.ref C) := fun {a C dx gs} ea => by
    obtain ⟨ox, od, J⟩ := instAt I ea
    exact J.type
  cases w with
  | non => cases rv; exact ⟨.type "NoneType", PySem.W.Looks.of_pure (by first | rfl | kernel_rfl), .inl ⟨6, by omega, rfl⟩⟩
  | bl b => cases rv; exact ⟨.type "bool", PySem.W.Looks.of_pure (by first | rfl | kernel_rfl), .inl ⟨1, by omega, rfl⟩⟩
  | int i => obtain ⟨t, rfl⟩ := rv; exact ⟨.type "int", PySem.W.Looks.of_pure (by first | rfl | kernel_rfl), .inl ⟨0, by omega, rfl⟩⟩
  | str i => obtain ⟨t, rfl⟩ := rv; exact ⟨.type "str", PySem.W.Looks.of_pure (by first | rfl | kernel_rfl), .inl ⟨2, by omega, rfl⟩⟩
  | tup x y =>
    cases rv
    have q := x.sq
    rw [← gd.K] at q
    obtain ⟨its, _, ⟨o, h1, h2, _⟩, _⟩ := I.tuple q
    exact ⟨_, own h1 h2, .inl ⟨3, by omega, rfl⟩⟩
  | ptu x y =>
    cases rv
    have q := (x.rt (Γ := Γ)).sq
    rw [← gd.K] at q
    obtain ⟨its, _, ⟨o, h1, h2, _⟩, _⟩ := I.tuple q
    exact ⟨_, own h1 h2, .inl ⟨3, by omega, rfl⟩⟩
  | lst x y =>
    cases rv
    obtain ⟨_, its, k, rr, _, h1⟩ := I.lstM x.2
    exact ⟨_, own h1 rfl, .inl ⟨4, by omega, rfl⟩⟩
  | frl x y =>
    cases rv
    obtain ⟨its, _, pl, _⟩ := I.list (x.sq (K := X.K))
    obtain ⟨o, h1, h2, _⟩ := pl.isList
    exact ⟨_, own h1 h2, .inl ⟨4, by omega, rfl⟩⟩
  | ins z x y =>
    cases rv
    obtain ⟨kk, hk⟩ := Option.isSome_iff_exists.mp (show (Γ.G.cl _).isSome = true from e)
    exact ⟨_, ins x, .inr ⟨_, kk, rfl, hk, rfl⟩⟩
  | ref x =>
    rename_i a k
    cases rv
    have e : (match h[k]? with
      | some (MO.lst _) => true
      | some (MO.dct _) => true
      | some (MO.ins c _) => (Γ.G.cl c).isSome
      | _ => false) = true := e
    cases hk : h[k]? with
    | none => rw [hk] at e; cases e
    | some mo =>
      rw [hk] at e
      have mk := r.ok _ _ _ hk x
      cases mk with
      | lst h1 r1 =>
        obtain ⟨_, its, k, rr, _, h2⟩ := I.lstM h1
        exact ⟨_, own h2 rfl, .inl ⟨4, by omega, rfl⟩⟩
      | dct h1 _ _ =>
        obtain ⟨_, _, vs, _, p⟩ := (show ObjOk X.prog X.w H s.heap a (.dK _) from I.hok a _ h1)
        obtain ⟨o, es, ep, h2, h3, _⟩ := p
        exact ⟨_, own h2 h3.1, .inl ⟨5, by omega, rfl⟩⟩
      | ins h1 r1 =>
        obtain ⟨kk, hk2⟩ := Option.isSome_iff_exists.mp (show (Γ.G.cl _).isSome = true from e)
        exact ⟨_, ins h1, .inr ⟨_, kk, by show (match h[k]? with | some (MO.ins c _) => some c | _ => none) = _; rw [hk], hk2, rfl⟩⟩
      | gone _ => cases e
      | tab _ _ _ => cases e
  | exc _ _ _ _ _ => cases e
  | cls c => cases e
  | fn c => cases e
  | ty c => cases e
theorem nf_of {c : Nat} {k : ClD} (C : ClF Γ c k) {t : T} {tb : Value} (h1 : (∃ k, k < 8 ∧ tb = .type (tyN k)) ∨ ∃ c kk, clsOf h t = some c ∧ Γ.G.cl c = some kk ∧ tb = .ref (Γ.cA c)) : PySem.W.notFirst Γ.K (Γ.cA c) tb = true := by
  rcases h1 with ⟨k, hk, rfl⟩ | ⟨c', kk, _, hc, rfl⟩
  · exact C.nf k hk
  · exact C.nfc c' kk hc
/-- a bool comes back -/
theorem post_asB {mm : Ro T} {Q : Bool → Hp → Prop} (p : Post Γ W σv (fun _ _ _ b a => b = a) Z φ H (asB mm) Q) : Post Γ W σv (TV Γ) Z φ H mm (fun v H' => ∃ b, v = .bl b ∧ Q b H') := by
  unfold asB at p
  refine (Post.bd (rel := TV Γ) p).mono fun v H' ⟨Z1, φ1, h1, t, le, r1, w, q⟩ => ?_
  cases t with
  | bl b => cases w; exact ⟨b, rfl, q Z1 φ1 H' b .refl r1 rfl⟩
  | _ => exact q.elim
theorem cmp_info {op : CmpOp} (h1 : op = .Eq ∨ op = .Lt ∨ op = .LtE) (a b : Value) : compareOp op a b = richCompare op a b := by
  rcases h1 with rfl | rfl | rfl <;> rfl
/-- x op y, x an instance with the method -/
theorem cmp_own (wd : WdF Γ) (gd : Gd Γ (n + 1) X W) (fa : FnAll Γ n) {op : CmpOp} {mm f : Nat} {x y : V} {v u : Value} {t1 t2 : T} {Q : Bool → Hp → Prop} (hop : op = .Eq ∨ op = .Lt ∨ op = .LtE) (hname : (cmpInfo op).2.1 = Γ.nm mm) (I : Inv X pins σv H s) (rx : RelV x v) (ry : RelV y u)
    (r : R Γ Z φ H h) (wx : TW Γ Z φ H x t1) (wy : TW Γ Z φ H y t2) (e : ownM Γ.G h t1 mm = some f) (ok : okY Γ.G h t2 = true) (p : Post Γ W σv (fun _ _ _ b a => b = a) Z φ H (asB (callF Γ.G (Γ.at_ n) f [t1, t2] [] h)) Q) :
    wpAny (model X.prog X.w) X.A (compareOp op v u) (EP X pins σv fun z H' => ∃ b, z = .bl b ∧ Q b H') X.xe s := by
  obtain ⟨a, dx, gs, c, k, rfl, ea, tv, _, _, C, M, _⟩ := own_meth wd r wx e
  have ty := wy.tv r ok
  obtain ⟨tb, L, tb1⟩ := typ_of gd r I ry ty ok
  cases rx
  obtain ⟨ox, od, J⟩ := instAt I ea
  obtain ⟨mF, hF⟩ := I.fr
  rw [cmp_info hop]
  refine PySem.W.cmp_K (K := X.K) (op := op) (tb := tb) gd.room.units0 hF I.ok.mod.kin J L (by rw [gd.K]; exact nf_of C tb1) (by rw [hname, gd.K]; exact M.at_) (by rw [gd.K]; exact M.fn) ?_
  refine wpAny_mono (wpAny_call (code_at gd fa (gd.room.mono (Nat.le_succ n)) rfl I (us := [.ref a, u]) (vs := [.ref a, y]) (ts := [t1, t2]) (.cons rfl (.cons ry .nil)) r (.cons tv (.cons ty .nil)) kr_nil (post_asB p))) (fun w s' z => ?_) fun _ _ x => x
  obtain ⟨z', H', I', rz, b, ez, q⟩ := z
  subst ez
  cases rz
  exact ⟨.bl b, H', I', rfl, b, rfl, q⟩
/-- y in x, x an instance with the method -/
theorem in_own (wd : WdF Γ) (gd : Gd Γ (n + 1) X W) (fa : FnAll Γ n) {f : Nat} {x y : V} {v u : Value} {t1 t2 : T} {Q : Bool → Hp → Prop} (neg : Bool) (I : Inv X pins σv H s) (rx : RelV x v) (ry : RelV y u)
    (r : R Γ Z φ H h) (wx : TW Γ Z φ H x t1) (wy : TW Γ Z φ H y t2) (e : ownM Γ.G h t1 nIn = some f) (ok : okY Γ.G h t2 = true) (p : Post Γ W σv (fun _ _ _ b a => b = a) Z φ H (asB (callF Γ.G (Γ.at_ n) f [t1, t2] [] h)) Q) :
    wpAny (model X.prog X.w) X.A (compareOp (if neg then .NotIn else .In) u v) (EP X pins σv fun z H' => ∃ b, z = .bl (if neg then !b else b) ∧ Q b H') X.xe s := by
  obtain ⟨a, dx, gs, c, k, rfl, ea, tv, _, _, C, M, _⟩ := own_meth wd r wx e
  have ty := wy.tv r ok
  cases rx
  obtain ⟨ox, od, J⟩ := instAt I ea
  obtain ⟨mF, hF⟩ := I.fr
  have hat : PySem.W.findIn X.K (.ref (Γ.cA c)) "__contains__" = some (some (.ref (Γ.fA f))) := by rw [gd.K, ← wd.n6]; exact M.at_
  have hfn : PySem.W.isFn X.K (.ref (Γ.fA f)) = true := by rw [gd.K]; exact M.fn
  have run := wpAny_call (code_at gd fa (gd.room.mono (Nat.le_succ n)) rfl I (us := [.ref a, u]) (vs := [.ref a, y]) (ts := [t1, t2]) (.cons rfl (.cons ry .nil)) r (.cons tv (.cons ty .nil)) kr_nil (post_asB p))
  cases neg with
  | true =>
    refine PySem.W.notIn_K (K := X.K) hF I.ok.mod.kin J hat hfn (wpAny_mono run (fun w s' z => ?_) fun _ _ x => x)
    obtain ⟨z', H', I', rz, b, ez, q⟩ := z
    subst ez
    cases rz
    exact wpAny_truthy_bool ⟨.bl (!b), H', I', rfl, b, rfl, q⟩
  | false =>
    refine PySem.W.in_K (K := X.K) hF I.ok.mod.kin J hat hfn (wpAny_mono run (fun w s' z => ?_) fun _ _ x => x)
    obtain ⟨z', H', I', rz, b, ez, q⟩ := z
    subst ez
    cases rz
    exact wpAny_truthy_bool ⟨.bl b, H', I', rfl, b, rfl, q⟩
/-- a comparison of two values -/
theorem cmp_S (wd : WdF Γ) (gd : Gd Γ (n + 1) X W) (fa : FnAll Γ n) {op : CmpOp} {o : Cop} (ho : ckCmp op o = true) {x y : V} {v u : Value} {t1 t2 : T} {Q : Bool → Hp → Prop} (I : Inv X pins σv H s) (rx : RelV x v) (ry : RelV y u)
    (r : R Γ Z φ H h) (wx : TW Γ Z φ H x t1) (wy : TW Γ Z φ H y t2) (p : Post Γ W σv (fun _ _ _ b a => b = a) Z φ H (cmpE Γ.G (Γ.at_ n) o t1 t2 h) Q) :
    wpAny (model X.prog X.w) X.A (compareOp op v u) (EP X pins σv fun z H' => ∃ b, z = .bl b ∧ Q b H') X.xe s := by
  have hu := gd.room.units
  have lo : ∀ {op : CmpOp} {o : Cop} (cb : CmB Γ X op fun a b h => cmpT o h a b) (p : Post Γ W σv (fun _ _ _ b a => b = a) Z φ H (lift (cmpT o h t1 t2) h) Q), wpAny (model X.prog X.w) X.A (compareOp op v u) (EP X pins σv fun z H' => ∃ b, z = .bl b ∧ Q b H') X.xe s := fun {op o} cb p => by
    cases e : cmpT o h t1 t2 with
    | none => rw [e] at p; exact p.elim
    | some b => rw [e] at p; exact cb pins s σv H x y v u Z φ h t1 t2 b _ I rx ry r wx wy e ⟨b, rfl, p Z φ H b .refl r rfl⟩
  have hE : ∀ {mm : Nat} {op : CmpOp} {o : Cop} (hop : op = .Eq ∨ op = .Lt ∨ op = .LtE) (hname : (cmpInfo op).2.1 = Γ.nm mm) (cb : CmB Γ X op fun a b h => cmpT o h a b) (p : Post Γ W σv (fun _ _ _ b a => b = a) Z φ H (match ownM Γ.G h t1 mm with
      | some f => if okY Γ.G h t2 then asB (callF Γ.G (Γ.at_ n) f [t1, t2] [] h) else none
      | none => lift (cmpT o h t1 t2) h) Q), wpAny (model X.prog X.w) X.A (compareOp op v u) (EP X pins σv fun z H' => ∃ b, z = .bl b ∧ Q b H') X.xe s := fun {mm op o} hop hname cb p => by
    cases e : ownM Γ.G h t1 mm with
    | none => rw [e] at p; exact lo cb p
    | some f =>
      rw [e] at p
      dsimp only at p
      split at p
      · rename_i ok
        exact cmp_own wd gd fa hop hname I rx ry r wx wy e ok p
      · exact p.elim
  cases o with
  | eq => cases op <;> first | (cases ho; done) | exact hE (mm := nEq) (.inl rfl) wd.n0.symm (cb_eq gd.K hu) p
  | ne =>
    cases op <;> first | (cases ho; done) | skip
    have p : Post Γ W σv (fun _ _ _ b a => b = a) Z φ H (match ownM Γ.G h t1 nEq with
      | some _ => none
      | none => lift (cmpT .ne h t1 t2) h) Q := p
    cases e : ownM Γ.G h t1 nEq with
    | none => rw [e] at p; exact lo (cb_ne gd.K hu) p
    | some f => rw [e] at p; exact p.elim
  | lt => cases op <;> first | (cases ho; done) | exact hE (mm := nLt) (.inr (.inl rfl)) wd.n1.symm (cb_lt gd.K hu) p
  | le => cases op <;> first | (cases ho; done) | exact hE (mm := nLe) (.inr (.inr rfl)) wd.n2.symm (cb_le gd.K) p
  | gt => cases op <;> first | (cases ho; done) | exact lo (cb_gt gd.K) p
  | ge => cases op <;> first | (cases ho; done) | exact lo (cb_ge gd.K) p
  | is_ => cases op <;> first | (cases ho; done) | exact lo cb_is p
  | isn => cases op <;> first | (cases ho; done) | exact lo cb_isn p
  | in_ =>
    cases op <;> first | (cases ho; done) | skip
    have p : Post Γ W σv (fun _ _ _ b a => b = a) Z φ H (match ownM Γ.G h t2 nIn with
      | some f => if okY Γ.G h t1 then asB (callF Γ.G (Γ.at_ n) f [t2, t1] [] h) else none
      | none => lift (cmpT .in_ h t1 t2) h) Q := p
    cases e : ownM Γ.G h t2 nIn with
    | none => rw [e] at p; exact lo (cb_in gd.K hu) p
    | some f =>
      rw [e] at p
      dsimp only at p
      split at p
      · rename_i ok
        exact in_own wd gd fa false I ry rx r wy wx e ok p
      · exact p.elim
  | nin =>
    cases op <;> first | (cases ho; done) | skip
    have p : Post Γ W σv (fun _ _ _ b a => b = a) Z φ H (match ownM Γ.G h t2 nIn with
      | some f => if okY Γ.G h t1 then Ro.bd (asB (callF Γ.G (Γ.at_ n) f [t2, t1] [] h)) fun b h => some (.ok (!b) h) else none
      | none => lift (cmpT .nin h t1 t2) h) Q := p
    cases e : ownM Γ.G h t2 nIn with
    | none => rw [e] at p; exact lo (cb_nin gd.K hu) p
    | some f =>
      rw [e] at p
      dsimp only at p
      split at p
      · rename_i ok
        refine thn (in_own wd gd fa true I ry rx r wy wx e ok (Post.bd (rel := fun _ _ _ b a => b = a) p)) fun w s' ⟨z, H', I', rz, b, ez, Z1, φ1, h1, b', le, r1, eb, q⟩ => ⟨z, H', I', rz, !b, ez, ?_⟩
        subst eb
        exact q Z1 φ1 H' _ .refl r1 rfl
      · exact p.elim
end
end Ev
end
section
set_option Elab.async false
set_option linter.all false
set_option maxRecDepth 100000
set_option maxHeartbeats 1000000
/-! Ev, part L: binary operators, truth, tests. -/
namespace PySem.W
open PySem PySem.Calls PyProof.Rows Builtin
section
variable {prog : Program} {w : World} {A : Around} {E : Value → Shared → Prop} {s : Shared} {K : Frag} {x C D L f : Addr} {h₀ : Heap} {m : Str → Option Value} {ox : Obj} {od : Option Obj}
/-- x op b, the right operand an instance of a class that has no part in it -/
theorem binop_other {op : Operator} {b : Value} {Q : Value → Shared → Prop} (F : Fr h₀ L s.heap m) (X₀ : K.In h₀) (I : InstAt s.heap x ox C od) (hb : Looks (model prog w) s.heap (typeOf b) (.ref D)) (hne : C ≠ D) (hc : selfFirst K C = true)
    (hs : findIn K (.ref C) (PySem.dunder op.info.2) = some (some (.ref f))) (hf : isFn K (.ref f) = true) (hD : Looks (model prog w) s.heap (fillsNumberSlot (.ref D) op.info.2) false)
    (h : wpAny (model prog w) A (call (.ref f) [.ref x, b]) (CmpBack Q) E s) : wpAny (model prog w) A (binaryOp op (.ref x) b) Q E s := by
  have X := X₀.keeps F.keep
  obtain ⟨cd, rest, hcd, hm⟩ := ksp_first hc
  have one := ksp_try X I hs hf h
  have L3 : Looks (model prog w) s.heap (fillsNumberSlot (.ref C) op.info.2) true := fills_K X hcd hm hs
  have hn : (Value.ref C == Value.ref D) = false := Bool.eq_false_iff.mpr fun q => hne (by cases beq_iff_eq.mp q; rfl)
  unfold binaryOp
  refine wpAny_holding (wpAny_bind ?_)
  unfold binaryOp1
  refine wpAny_bind (I.type.here (wpAny_bind (hb.here (wpAny_bind (L3.here ?_)))))
  simp only [hn, Bool.false_eq_true, if_false]
  refine wpAny_bind (hD.here ?_)
  simp only [Bool.and_false, Bool.false_eq_true, if_false, Bool.false_and, if_true]
  refine wpAny_bind (wpAny_pure ?_)
  refine wpAny_bind (wpAny_mono one (fun r s' hr => ?_) fun _ _ e => e)
  obtain ⟨v, rfl, hq⟩ := hr
  exact wpAny_pure (wpAny_pure hq)
end
end PySem.W

namespace Ev
open PySem PySem.Spec PyProof.Rows L2
section
variable {Γ : Gam} {Z : Addr → Prop} {φ : List Addr} {H : Hp} {h : Hh} {X : Cx} {W : WX} {n m : Nat} {pins : List (Addr × Obj)} {σv : L2.St} {s : Shared}
theorem TW.tvI {v : V} {t : T} {c : Nat} (w : TW Γ Z φ H v t) (e : clsOf h t = some c) : TV Γ Z φ H v t := by
  rcases w with w | ⟨_, _, _, _, rfl, _⟩
  · exact w
  · cases e
theorem bin_own (wd : WdF Γ) (gd : Gd Γ (n + 1) X W) (fa : FnAll Γ n) {op : Operator} {nm' : String} {mm f : Nat} {x y : V} {v u : Value} {t1 t2 : T} {Q : VK} (hop : op.info.2 = nm') (hname : PySem.dunder nm' = Γ.nm mm)
    (hnl : ∀ c k, Γ.G.cl c = some k → k.meth.lookup mm = none → ∀ (M : Model) (h : Heap), Γ.K.In h → PySem.W.Looks M h (fillsNumberSlot (.ref (Γ.cA c)) nm') false) (I : Inv X pins σv H s) (rx : RelV x v) (ry : RelV y u)
    (r : R Γ Z φ H h) (wx : TW Γ Z φ H x t1) (wy : TW Γ Z φ H y t2) (e : ownM Γ.G h t1 mm = some f) (ok : okR Γ.G h t1 t2 mm = true) (p : Post Γ W σv (TV Γ) Z φ H (callF Γ.G (Γ.at_ n) f [t1, t2] [] h) Q) :
    wpAny (model X.prog X.w) X.A (binaryOp op v u) (EP X pins σv Q) X.xe s := by
  subst hop
  obtain ⟨a, dx, gs, c, k, rfl, ea, tv, ec, _, C, M, _⟩ := own_meth wd r wx e
  unfold okR at ok
  rw [ec] at ok
  cases ed : clsOf h t2 with
  | none => rw [ed] at ok; cases ok
  | some d =>
    rw [ed] at ok
    dsimp only at ok
    obtain ⟨b, dy, gs2, fs2, rfl, eb, _, ty, _⟩ := inst_of r wy ed
    cases rx
    cases ry
    obtain ⟨ox, od, J⟩ := instAt I ea
    obtain ⟨oy, od2, J2⟩ := instAt I eb
    obtain ⟨mF, hF⟩ := I.fr
    have hat : PySem.W.findIn X.K (.ref (Γ.cA c)) (PySem.dunder op.info.2) = some (some (.ref (Γ.fA f))) := by rw [gd.K, hname]; exact M.at_
    have hfn : PySem.W.isFn X.K (.ref (Γ.fA f)) = true := by rw [gd.K]; exact M.fn
    have hsf : PySem.W.selfFirst X.K (Γ.cA c) = true := by rw [gd.K]; exact C.sf
    have run : wpAny (model X.prog X.w) X.A (call (.ref (Γ.fA f)) [.ref a, .ref b]) (PySem.W.CmpBack (EP X pins σv Q)) X.xe s := by
      refine wpAny_mono (wpAny_call (code_at gd fa (gd.room.mono (Nat.le_succ n)) rfl I (us := [.ref a, .ref b]) (vs := [.ref a, .ref b]) (ts := [t1, t2]) (.cons rfl (.cons rfl .nil)) r (.cons tv (.cons ty .nil)) kr_nil p)) (fun w s' z => ?_) fun _ _ x => x
      obtain ⟨z', H', I', rz, q⟩ := z
      have e2 : w ≠ .notImplemented := fun z => by subst z; cases z' <;> first | (obtain ⟨_, z⟩ := rz; cases z; done) | cases rz
      cases w <;> first | exact absurd rfl e2 | exact ⟨z', H', I', rz, q⟩
    by_cases hcd : Γ.cA c = Γ.cA d
    · exact PySem.W.binop_K (K := X.K) hF I.ok.mod.kin J (by rw [hcd]; exact J2.type) hsf hat hfn run
    · have hne : ¬ (c == d) = true := fun z => hcd (by rw [beq_iff_eq.mp z])
      have ok2 : (match Γ.G.cl d with
        | some k => (k.meth.lookup mm).isNone
        | none => false) = true := by
        rcases Bool.or_eq_true_iff.mp ok with z | z
        · exact absurd z hne
        · exact z
      cases hd : Γ.G.cl d with
      | none => rw [hd] at ok2; cases ok2
      | some kd =>
        rw [hd] at ok2
        exact PySem.W.binop_other (K := X.K) hF I.ok.mod.kin J J2.type hcd hsf hat hfn (hnl d kd hd (by simpa using ok2) _ _ (by rw [← gd.K]; exact I.kIn)) run
theorem bin_S (wd : WdF Γ) (gd : Gd Γ (n + 1) X W) (fa : FnAll Γ n) {op : Operator} {o : Bop} (ho : ckOp op o = true) {x y : V} {v u : Value} {t1 t2 : T} {Q : VK} (I : Inv X pins σv H s) (rx : RelV x v) (ry : RelV y u)
    (r : R Γ Z φ H h) (wx : TW Γ Z φ H x t1) (wy : TW Γ Z φ H y t2) (p : Post Γ W σv (TV Γ) Z φ H (binE Γ.G (Γ.at_ n) o t1 t2 h) Q) :
    wpAny (model X.prog X.w) X.A (binaryOp op v u) (EP X pins σv Q) X.xe s := by
  have lo : ∀ {op : Operator} {o : Bop} (ob : OpB Γ X (binaryOp op) fun a b h => binT o h a b) (p : Post Γ W σv (TV Γ) Z φ H (lift (binT o h t1 t2) h) Q), wpAny (model X.prog X.w) X.A (binaryOp op v u) (EP X pins σv Q) X.xe s := fun {op o} ob p => by
    cases e : binT o h t1 t2 with
    | none => rw [e] at p; exact p.elim
    | some b => rw [e] at p; exact ob pins s σv H x y v u Z φ h t1 t2 b Q I rx ry r wx wy e fun Z' φ' H' b le r' w => p Z' φ' H' b le r' w
  cases o with
  | add =>
    cases op <;> first | (cases ho; done) | skip
    have p : Post Γ W σv (TV Γ) Z φ H (match ownM Γ.G h t1 nAdd with
      | some f => if okR Γ.G h t1 t2 nAdd then callF Γ.G (Γ.at_ n) f [t1, t2] [] h else none
      | none => lift (binT .add h t1 t2) h) Q := p
    cases e : ownM Γ.G h t1 nAdd with
    | none => rw [e] at p; exact lo (ob_add gd.K) p
    | some f =>
      rw [e] at p
      dsimp only at p
      split at p
      · rename_i ok
        exact bin_own wd gd fa (op := .Add) (nm' := "add") rfl wd.n3.symm (fun c k hc hl => (wd.cl c k hc).nadd hl) I rx ry r wx wy e ok p
      · exact p.elim
  | sub =>
    cases op <;> first | (cases ho; done) | skip
    have p : Post Γ W σv (TV Γ) Z φ H (match ownM Γ.G h t1 nSub with
      | some f => if okR Γ.G h t1 t2 nSub then callF Γ.G (Γ.at_ n) f [t1, t2] [] h else none
      | none => lift (binT .sub h t1 t2) h) Q := p
    cases e : ownM Γ.G h t1 nSub with
    | none => rw [e] at p; exact lo ob_sub p
    | some f =>
      rw [e] at p
      dsimp only at p
      split at p
      · rename_i ok
        exact bin_own wd gd fa (op := .Sub) (nm' := "sub") rfl wd.n4.symm (fun c k hc hl => (wd.cl c k hc).nsub hl) I rx ry r wx wy e ok p
      · exact p.elim
  | mul => cases op <;> first | (cases ho; done) | exact lo (ob_mul gd.K) p
  | fdiv => cases op <;> first | (cases ho; done) | exact lo ob_fdiv p
  | mod => cases op <;> first | (cases ho; done) | exact lo ob_mod p
  | pow => cases op <;> first | (cases ho; done) | exact lo ob_pow p
/-- minus -/
theorem neg_S (wd : WdF Γ) (gd : Gd Γ (n + 1) X W) (fa : FnAll Γ n) {x : V} {v : Value} {t1 : T} {Q : VK} (I : Inv X pins σv H s) (rx : RelV x v) (r : R Γ Z φ H h) (wx : TV Γ Z φ H x t1) (p : Post Γ W σv (TV Γ) Z φ H (negE Γ.G (Γ.at_ n) t1 h) Q) :
    wpAny (model X.prog X.w) X.A (unaryOp .USub v) (EP X pins σv Q) X.xe s := by
  have own : ∀ (p : Post Γ W σv (TV Γ) Z φ H (match ownM Γ.G h t1 nNeg with
    | some f => callF Γ.G (Γ.at_ n) f [t1] [] h
    | none => none) Q), wpAny (model X.prog X.w) X.A (unaryOp .USub v) (EP X pins σv Q) X.xe s := fun p => by
    cases e : ownM Γ.G h t1 nNeg with
    | none => rw [e] at p; exact p.elim
    | some f =>
      rw [e] at p
      obtain ⟨a, dx, gs, c, k, rfl, ea, tv, ec, _, C, M, _⟩ := own_meth wd r (.inl wx) e
      cases rx
      obtain ⟨ox, od, J⟩ := instAt I ea
      obtain ⟨mF, hF⟩ := I.fr
      have hat : PySem.W.findIn X.K (.ref (Γ.cA c)) "__neg__" = some (some (.ref (Γ.fA f))) := by rw [gd.K, ← wd.n5]; exact M.at_
      have hfn : PySem.W.isFn X.K (.ref (Γ.fA f)) = true := by rw [gd.K]; exact M.fn
      exact PySem.W.ksp_neg (K := X.K) hF I.ok.mod.kin J hat hfn (wpAny_call (code_at gd fa (gd.room.mono (Nat.le_succ n)) rfl I (us := [.ref a]) (vs := [.ref a]) (ts := [t1]) (.cons rfl .nil) r (.cons tv .nil) kr_nil p))
  cases t1 with
  | int i => cases wx; exact un_neg pins s σv H _ v Q I rx ⟨i, rfl, p Z φ H _ .refl r (.int _)⟩
  | _ => exact own p
/-- truth -/
theorem tru_S (wd : WdF Γ) (gd : Gd Γ (n + 1) X W) (fa : FnAll Γ n) {x : V} {v : Value} {t1 : T} {Q : Bool → Hp → Prop} (I : Inv X pins σv H s) (rx : RelV x v) (r : R Γ Z φ H h) (wx : TW Γ Z φ H x t1) (p : Post Γ W σv (fun _ _ _ b a => b = a) Z φ H (truE Γ.G (Γ.at_ n) t1 h) Q) :
    wpAny (model X.prog X.w) X.A (truthy v) (TP X pins σv Q) X.xe s := by
  unfold truE at p
  cases e : ownM Γ.G h t1 nBool with
  | none =>
    rw [e] at p
    dsimp only at p
    cases e2 : truT h t1 with
    | none => rw [e2] at p; exact p.elim
    | some b => rw [e2] at p; exact tru_T gd.K I rx r wx e2 (p Z φ H b .refl r rfl)
  | some f =>
    rw [e] at p
    obtain ⟨a, dx, gs, c, k, rfl, ea, tv, ec, _, C, M, _⟩ := own_meth wd r wx e
    cases rx
    obtain ⟨ox, od, J⟩ := instAt I ea
    obtain ⟨mF, hF⟩ := I.fr
    have hat : PySem.W.findIn X.K (.ref (Γ.cA c)) "__bool__" = some (some (.ref (Γ.fA f))) := by rw [gd.K, ← wd.n9]; exact M.at_
    have hfn : PySem.W.isFn X.K (.ref (Γ.fA f)) = true := by rw [gd.K]; exact M.fn
    refine PySem.W.truthy_K (K := X.K) hF I.ok.mod.kin J hat hfn (wpAny_mono (wpAny_call (code_at gd fa (gd.room.mono (Nat.le_succ n)) rfl I (us := [.ref a]) (vs := [.ref a]) (ts := [t1]) (.cons rfl .nil) r (.cons tv .nil) kr_nil (post_asB p))) (fun w s' z => ?_) fun _ _ x => x)
    obtain ⟨z', H', I', rz, b, ez, q⟩ := z
    subst ez
    cases rz
    exact ⟨H', I', q⟩

/-! ### tests -/
theorem isTrue_plainT {e : Expr} {env : Env} (h : plainT e = true) (whole : Sem Value) : isTrue e env whole = (do let v ← whole; standAt e.pos; holding [v] (truthy v)) := by
  cases e with
  | UnaryOp op x p => cases op <;> first | rfl | cases h
  | BoolOp => cases h
  | IfExp => cases h
  | Compare => cases h
  | _ => rfl
theorem noSet_mark {op : CmpOp} {b : Expr} (h : noSet b = true) : behindInMarks op b = false := by
  cases b <;> first | rfl | cases h
end
end Ev
end
section
set_option Elab.async false
set_option linter.all false
set_option maxRecDepth 100000
set_option maxHeartbeats 1000000
/-! Ev, part M: tests. -/
namespace Ev
open PySem PySem.Spec PyProof.Rows L2
def CE.tst : CE → Bool
  | .not _ => true
  | .bop _ _ => true
  | .cmp _ _ _ => true
  | .cmp2 _ _ _ _ _ => true
  | .ife _ _ _ => true
  | _ => false
theorem ck_md {M : Nms} {N : List Str} {m : Nat} {sc : Scope} {e : Expr} {c : CE} (hc : c.tst = false) (h : ck M N m true sc e c = true) : plainT e = true ∧ ck M N m false sc e c = true := by
  cases m with
  | zero => cases h
  | succ m =>
    cases c with
    | not => cases hc
    | bop => cases hc
    | cmp => cases hc
    | cmp2 => cases hc
    | ife => cases hc
    | star => cases h
    | fval => cases h
    | lcl => cases h
    | comp2 => cases h
    | irng => cases h
    | ienm => cases h
    | izip => cases h
    | neg =>
      refine ⟨?_, h⟩
      cases e with
      | UnaryOp op x p => cases op <;> first | rfl | (exact absurd h (by simp [ck]))
      | _ => first | rfl | (exact absurd h (by simp [ck]))
    | con => exact ⟨by cases e <;> first | rfl | (exact absurd h (by simp [ck, ckCon])), h⟩
    | _ => exact ⟨by cases e <;> first | rfl | (exact absurd h (by simp [ck])), h⟩

section
variable {Γ : Gam} {X : Cx} {W : WX} {n : Nat}
theorem visB_ok {sc : Scope} {x : Str} (h : visB sc x = true) : Vis sc x := by
  unfold visB at h
  unfold Vis
  split at h <;> first | exact .inl (by assumption) | exact .inr (.inl (by assumption)) | exact .inr (.inr (by assumption)) | cases h
theorem locB_ok {sc : Scope} {x : Str} (h : locB sc x = true) : L2.Loc sc x := by
  unfold locB at h
  unfold L2.Loc
  split at h <;> first | exact .inl (by assumption) | exact .inr (by assumption) | cases h
theorem glB_ok {X : Cx} {x : Str} (h : glB X.env.scope x = true) : Gl X x := by
  unfold glB at h
  split at h
  · assumption
  · cases h
theorem dbg_ok {x : Str} (h : dbgB x = true) : (x == ("__debug__" : Str)) = false ∧ (x == ("__classdict__" : Str)) = false ∧ x ≠ ("__name__" : Str) := by
  unfold dbgB at h
  obtain ⟨h3, h5⟩ := ba2 h
  obtain ⟨h3, h4⟩ := ba2 h3
  exact ⟨by simpa using h3, by simpa using h4, by simpa using h5⟩
/-- what a comparison of two readings is -/
theorem ops_cmp (wd : WdF Γ) (gd : Gd Γ (n + 1) X W) (fa : FnAll Γ n) {op : CmpOp} {o : Cop} (ho : ckCmp op o = true) :
    OpS X (compareOp op) (fun σ x y H Q => ∃ Q2 : Bool → Hp → Prop, At2 Γ W σ (fun _ _ _ b a => b = a) (fun t u h => cmpE Γ.G (Γ.at_ n) o t u h) Q2 x y H ∧ ∀ b H', Q2 b H' → Q (.bl b) H') := by
  intro pins s σ H x y v u Q I rx ry h
  obtain ⟨Q2, ⟨Z, φ, hh, t, u', r, w1, w2, p⟩, hq⟩ := h
  exact thn (cmp_S wd gd fa ho I rx ry r w1 w2 p) fun w s' ⟨z, H', I', rz, b, ez, q⟩ => ⟨z, H', I', rz, by rw [ez]; exact hq b H' q⟩
theorem cmpR_of {op : CmpOp} {o : Cop} (ho : ckCmp op o = true) (hK : X.K = Γ.K) (hu : X.A.units + 64 < cLine) : CmB Γ X op (fun a b h => cmpT o h a b) := by
  cases o <;> cases op <;> first
    | (cases ho; done)
    | exact cb_eq hK hu
    | exact cb_ne hK hu
    | exact cb_lt hK hu
    | exact cb_le hK
    | exact cb_gt hK
    | exact cb_ge hK
    | exact cb_is
    | exact cb_isn
    | exact cb_in hK hu
    | exact cb_nin hK hu
/-- .. as a kit's rule -/
def rCm (Γ : Gam) (o : Cop) : R2 := fun x y H Q => ∃ (Z : Addr → Prop) (φ : List Addr) (h : Hh) (t u : T) (b : Bool), R Γ Z φ H h ∧ TW Γ Z φ H x t ∧ TW Γ Z φ H y u ∧ cmpT o h t u = some b ∧ Q (.bl b) H
theorem opr_cm {op : CmpOp} {o : Cop} (cb : CmB Γ X op (fun a b h => cmpT o h a b)) : OpR X (compareOp op) (rCm Γ o) := by
  intro pins s σ H x y v u Q I rx ry h
  obtain ⟨Z, φ, hh, t, u', b, r, w1, w2, e, q⟩ := h
  exact cb pins s σ H x y v u Z φ hh t u' b Q I rx ry r w1 w2 e q
/-- the reading of two comparisons in one -/
theorem rd_cmp2 {o o' : Cop} {a b c : CE} {σv : L2.St} {H : Hp} {Q : Bool → Hp → Prop} (q : rdB Γ W (fun σ h => cmp2E (Γ.at_ n) o o' σ a b c h) σv H Q) :
    tChain (rCm Γ o) (rCm Γ o') (rdE Γ W fun σ h => (Γ.at_ n).e σ a h) (rdE Γ W fun σ h => (Γ.at_ n).e σ b h) (rdE Γ W fun σ h => (Γ.at_ n).e σ c h) σv H (fun z H' => ∃ k, z = .bl k ∧ Q k H') := by
  refine (rd_bd (rel := TV Γ) q).mono fun x H1 ⟨Z1, φ1, h1, σ, t, r1, s1, w1, q1⟩ => ?_
  refine ⟨Z1, φ1, h1, σ, r1, s1, (Post.bd (rel := TV Γ) q1).mono fun y H2 ⟨Z2, φ2, h2, u, le, r2, w2, q2⟩ => ?_⟩
  cases e : cmpT o h2 t u with
  | none => rw [e] at q2; exact q2.elim
  | some k =>
    rw [e] at q2
    refine ⟨Z2, φ2, h2, t, u, k, r2, .inl (w1.mono r1 le), .inl w2, e, k, rfl, ?_⟩
    cases k with
    | false => exact ⟨false, rfl, q2 Z2 φ2 H2 _ .refl r2 rfl⟩
    | true =>
      have q2 : Post Γ W σv (fun _ _ _ b a => b = a) Z2 φ2 H2 (Ro.bd ((Γ.at_ n).e σ c h2) fun z h => lift (cmpT o' h u z) h) Q := q2
      refine ⟨Z2, φ2, h2, σ, r2, s1.mono r1 le, (Post.bd (rel := TV Γ) q2).mono fun z H3 ⟨Z3, φ3, h3, z', le3, r3, w3, q3⟩ => ?_⟩
      cases e3 : cmpT o' h3 u z' with
      | none => rw [e3] at q3; exact q3.elim
      | some k3 => rw [e3] at q3; exact ⟨Z3, φ3, h3, u, z', k3, r3, .inl (w2.mono r2 le3), .inl w3, e3, k3, rfl, q3 Z3 φ3 H3 _ .refl r3 rfl⟩
theorem lastM {op op' : CmpOp} {b c : Expr} (h : noSet c = true) : lastMarks [op, op'] [b, c] = false := noSet_mark h

/-- a if c else b, as a test -/
theorem pt_ife {c a b : Expr} {pos : Pos} {t ta tb : TT} (hc : PT X c t) (ha : PT X a ta) (hb : PT X b tb) : PT X (.IfExp c a b pos) (fun σ H Q => t σ H fun k H1 => if k = true then ta σ H1 Q else tb σ H1 Q) := by
  refine ⟨fun pins s σ H Q I q => ?_⟩
  unfold PySem.isTrue
  refine wpAny_bind (thn (hc.run pins s σ H _ I q) fun k s1 ⟨H1, I1, q1⟩ => ?_)
  cases k with
  | true => exact ha.run pins s1 σ H1 Q I1 q1
  | false => exact hb.run pins s1 σ H1 Q I1 q1
/-- TESTS -/
theorem ck_B (wd : WdF Γ) (fa : FnAll Γ n) (L : LvE Γ n) : ∀ (m : Nat) (X : Cx) (W : WX), Gd Γ (n + 1) X W → ∀ (e : Expr) (c : CE), ck Γ.nms X.N m true X.env.scope e c = true → ∀ k, PW X e (rdB Γ W fun σ h => evB Γ.G (Γ.at_ n) k σ c h) ∨ PT X e (rdB Γ W fun σ h => evB Γ.G (Γ.at_ n) k σ c h) := by
  intro m
  induction m with
  | zero => intro X W gd e c h; cases h
  | succ m ih =>
    intro X W gd e c h k
    have gd' := gd.down (Nat.le_succ n)
    have pt : ∀ (e : Expr) (c : CE), ck Γ.nms X.N m true X.env.scope e c = true → ∀ k, PT X e (rdB Γ W fun σ h => evB Γ.G (Γ.at_ n) k σ c h) := fun e c h k => (ih X W gd e c h k).elim (fun z => z.pt) id
    cases k with
    | zero => exact .inr ⟨fun pins s σv H Q I q => by obtain ⟨_, _, _, _, _, _, q⟩ := q; exact q.elim⟩
    | succ k =>
      by_cases hc : c.tst = false
      · obtain ⟨h1, h2⟩ := ck_md hc h
        have he := ck_V gd' L h2
        refine .inr ⟨fun pins s σv H Q I q => ?_⟩
        have ev : ∀ σ h, evB Γ.G (Γ.at_ n) (k + 1) σ c h = Ro.bd (evV (Γ.at_ n) σ c h) fun t h => truE Γ.G (Γ.at_ n) t h := fun σ h => by cases c <;> first | rfl | cases hc
        obtain ⟨Z, φ, hh, σ, r, sr, p⟩ := q
        have p : Post Γ W σv (fun _ _ _ b a => b = a) Z φ H (evB Γ.G (Γ.at_ n) (k + 1) σ c hh) Q := p
        rw [ev] at p
        exact isTrue_plain (thn (he.run pins s σv H _ I ⟨Z, φ, hh, σ, r, sr, Post.bd p⟩) fun v s1 ⟨x, H1, I1, r1, Z1, φ1, h1, t, le, R1, w, p1⟩ => tru_S wd gd fa I1 r1 R1 w p1) (isTrue_plainT h1 _)
      · cases c with
        | not a =>
          cases e with
          | UnaryOp op x pos =>
            cases op with
            | Not =>
              have h : ck Γ.nms X.N m true X.env.scope x a = true := h
              refine .inr (pt_weaken (pt_not (pt x a h k)) fun σv H Q q => ?_)
              have q : rdB Γ W (fun σ h => Ro.bd (evB Γ.G (Γ.at_ n) k σ a h) fun b h => some (.ok (!b) h)) σv H Q := q
              refine (rd_bd (rel := fun _ _ _ b a => b = a) q).mono fun b H1 ⟨Z1, φ1, h1, σ, t, r1, s1, w1, q1⟩ => ?_
              subst w1
              exact q1 Z1 φ1 H1 _ .refl r1 rfl
            | _ => exact absurd h (by simp [ck])
          | _ => exact absurd h (by simp [ck])
        | bop kk l =>
          cases e with
          | BoolOp op es pos =>
            have h : (bopB op kk && !l.isEmpty && all2 (ck Γ.nms X.N m true X.env.scope) es l) = true := h
            obtain ⟨h1, h3⟩ := ba2 h
            obtain ⟨h1, h2⟩ := ba2 h1
            have key : ∀ (k : Nat) (es : List Expr) (l : List CE), l ≠ [] → all2 (ck Γ.nms X.N m true X.env.scope) es l = true → PW X (.BoolOp op es pos) (rdB Γ W fun σ h => evB Γ.G (Γ.at_ n) k σ (.bop kk l) h) := by
              intro k
              induction k with
              | zero => intro es l _ _; exact ⟨fun w pins s σv H Q I q => by obtain ⟨_, _, _, _, _, _, q⟩ := q; exact q.elim⟩
              | succ k ihk =>
                intro es l hl ha
                match es, l, hl, ha with
                | [e], [c], _, ha =>
                  have hce : ck Γ.nms X.N m true X.env.scope e c = true := by simpa [all2] using ha
                  cases op with
                  | And => exact pw_weaken (pw_and1 (pt e c hce k)) fun σ H Q q => q
                  | Or => exact pw_weaken (pw_or1 (pt e c hce k)) fun σ H Q q => q
                | e :: e2 :: es, c :: c2 :: l, _, ha =>
                  obtain ⟨ha1, ha2⟩ := ba2 ha
                  have tl := ihk (e2 :: es) (c2 :: l) (by simp) ha2
                  cases op with
                  | And =>
                    have hk : kk = true := h1
                    subst hk
                    refine pw_weaken (pw_and (pt e c ha1 k) tl) fun σv H Q q => ?_
                    have q : rdB Γ W (fun σ h => Ro.bd (evB Γ.G (Γ.at_ n) k σ c h) fun x h => if x then evB Γ.G (Γ.at_ n) k σ (.bop true (c2 :: l)) h else some (.ok false h)) σv H Q := q
                    refine (rd_bd (rel := fun _ _ _ b a => b = a) q).mono fun b H1 ⟨Z1, φ1, h1, σ, t, r1, s1, w1, q1⟩ => ?_
                    subst w1
                    cases b with
                    | true => exact ⟨Z1, φ1, h1, σ, r1, s1, q1⟩
                    | false => exact q1 Z1 φ1 H1 _ .refl r1 rfl
                  | Or =>
                    have hk : kk = false := by simpa [bopB] using h1
                    subst hk
                    refine pw_weaken (pw_or (pt e c ha1 k) tl) fun σv H Q q => ?_
                    have q : rdB Γ W (fun σ h => Ro.bd (evB Γ.G (Γ.at_ n) k σ c h) fun x h => if x then some (.ok true h) else evB Γ.G (Γ.at_ n) k σ (.bop false (c2 :: l)) h) σv H Q := q
                    refine (rd_bd (rel := fun _ _ _ b a => b = a) q).mono fun b H1 ⟨Z1, φ1, h1, σ, t, r1, s1, w1, q1⟩ => ?_
                    subst w1
                    cases b with
                    | true => exact q1 Z1 φ1 H1 _ .refl r1 rfl
                    | false => exact ⟨Z1, φ1, h1, σ, r1, s1, q1⟩
                | [], _ :: _, _, ha => cases ha
                | [_], _ :: _ :: _, _, ha => simp [all2] at ha
                | _ :: _ :: _, [_], _, ha => simp [all2] at ha
                | _, [], hl, _ => exact absurd rfl hl
            exact .inl (key (k + 1) es l (by simpa using h2) h3)
          | _ => exact absurd h (by simp [ck])
        | cmp o a b =>
          cases e with
          | Compare p ops qs pos =>
            match ops, qs, h with
            | [op], [q], h =>
              have h : (ckCmp op o && ck Γ.nms X.N m false X.env.scope p a && ck Γ.nms X.N m false X.env.scope q b && noSet q) = true := h
              obtain ⟨h, h4⟩ := ba2 h
              obtain ⟨h, h3⟩ := ba2 h
              obtain ⟨h1, h2⟩ := ba2 h
              refine .inr (pt_weaken (pt_cmpS (ops_cmp wd gd fa h1) (ck_V gd' L h2) (ck_V gd' L h3) (noSet_mark h4)) fun σv H Q qq => ?_)
              refine (at2 (F := fun t u h => cmpE Γ.G (Γ.at_ n) o t u h) qq).mono fun x H1 q1 => q1.mono fun y H2 q2 => ⟨Q, q2, fun b H' q => ⟨b, rfl, q⟩⟩
            | [], _, h => simp [ck] at h
            | [_], [], h => simp [ck] at h
            | [_], _ :: _ :: _, h => simp [ck] at h
            | _ :: _ :: _, _, h => simp [ck] at h
          | _ => exact absurd h (by simp [ck])
        | cmp2 o o' a b d =>
          cases e with
          | Compare p ops qs pos =>
            match ops, qs, h with
            | [op, op'], [q, r], h =>
              have h : (ckCmp op o && ckCmp op' o' && ck Γ.nms X.N m false X.env.scope p a && ck Γ.nms X.N m false X.env.scope q b && ck Γ.nms X.N m false X.env.scope r d && noSet r) = true := h
              obtain ⟨h, h6⟩ := ba2 h
              obtain ⟨h, h5⟩ := ba2 h
              obtain ⟨h, h4⟩ := ba2 h
              obtain ⟨h, h3⟩ := ba2 h
              obtain ⟨h1, h2⟩ := ba2 h
              refine .inr (pt_weaken (pt_chain (opr_cm (cmpR_of h1 gd.K gd.room.units)) (opr_cm (cmpR_of h2 gd.K gd.room.units)) (L X W gd' m p a h3) (L X W gd' m q b h4) (L X W gd' m r d h5) (lastM h6)) fun σv H Q qq => ?_)
              exact rd_cmp2 qq
            | [], _, h => simp [ck] at h
            | [_], _, h => simp [ck] at h
            | [_, _], [], h => simp [ck] at h
            | [_, _], [_], h => simp [ck] at h
            | [_, _], _ :: _ :: _ :: _, h => simp [ck] at h
            | _ :: _ :: _ :: _, _, h => simp [ck] at h
          | _ => exact absurd h (by simp [ck])
        | ife a b d =>
          cases e with
          | IfExp p q r pos =>
            have h : (ck Γ.nms X.N m true X.env.scope p a && ck Γ.nms X.N m true X.env.scope q b && ck Γ.nms X.N m true X.env.scope r d) = true := h
            obtain ⟨h, h3⟩ := ba2 h
            obtain ⟨h1, h2⟩ := ba2 h
            refine .inr (pt_weaken (pt_ife (pt p a h1 k) (pt q b h2 k) (pt r d h3 k)) fun σv H Q q => ?_)
            have q : rdB Γ W (fun σ h => Ro.bd (evB Γ.G (Γ.at_ n) k σ a h) fun x h => if x then evB Γ.G (Γ.at_ n) k σ b h else evB Γ.G (Γ.at_ n) k σ d h) σv H Q := q
            refine (rd_bd (rel := fun _ _ _ b a => b = a) q).mono fun x H1 ⟨Z1, φ1, h1, σ, t, r1, s1, w1, q1⟩ => ?_
            subst w1
            cases x with
            | true => exact ⟨Z1, φ1, h1, σ, r1, s1, q1⟩
            | false => exact ⟨Z1, φ1, h1, σ, r1, s1, q1⟩
          | _ => exact absurd h (by simp [ck])
        | _ => exact absurd rfl hc
theorem ck_T (wd : WdF Γ) (fa : FnAll Γ n) (L : LvE Γ n) (gd : Gd Γ (n + 1) X W) {m k : Nat} {e : Expr} {c : CE} (h : ck Γ.nms X.N m true X.env.scope e c = true) : PT X e (rdB Γ W fun σ h => evB Γ.G (Γ.at_ n) k σ c h) := (ck_B wd fa L m X W gd e c h k).elim (fun z => z.pt) id
end
end Ev
end
section
set_option Elab.async false
set_option linter.all false
set_option maxRecDepth 100000
set_option maxHeartbeats 1000000
/-! Ev, part N: values but calls and comprehensions. -/
namespace Ev
open PySem PySem.Spec PyProof.Rows L2

/-- what the module's names stand for -/
def GlOk (Γ : Gam) (x : Str) : G → Prop
  | .fn f => Γ.mg x = some (.ref (Γ.fA f)) ∧ PySem.W.keepIn Γ.K (.ref (Γ.fA f)) = true
  | .cls c => Γ.mg x = some (.ref (Γ.cA c)) ∧ PySem.W.keepIn Γ.K (.ref (Γ.cA c)) = true
  | .ty n => Γ.mg x = none ∧ n < 8 ∧ x = Str.ofString (tyN n) ∧ bootBuiltins x = some (.type (tyN n))
  | .bi b => Γ.mg x = none ∧ x = Str.ofString (biN b)
  | .con t => ∃ v u, Γ.mg x = some u ∧ RelV v u ∧ ∀ Z φ H, TV Γ Z φ H v t
def GlF (Γ : Gam) : Prop := ∀ i g, Γ.G.gl i = some g → GlOk Γ (Γ.gn i) g

section
variable {Γ : Gam} {X : Cx} {W : WX} {n : Nat}
theorem mg_eq (gd : Gd Γ n X W) : X.mg = Γ.mg := gd.mg
/-- a new list, held by nobody else -/
def OL (Γ : Gam) (H0 : Hp) (Z : Addr → Prop) (φ : List Addr) (H : Hp) (v : V) (l : List T) : Prop := ∃ (p : Addr) (vs : List V), v = .ref p ∧ H p = some (.lst vs) ∧ TVs Γ Z φ H vs l ∧ ¬ Z p ∧ p ∉ φ ∧ H0 p = none
def rdL (Γ : Gam) (W : WX) (ev : Sl → Hh → Ro (List T)) : TE := fun σv H Q => rd Γ W (OL Γ H) ev σv H Q
/-- settled -/
theorem post_frz {σv : L2.St} {Z : Addr → Prop} {φ : List Addr} {H : Hp} {mm : Ro (List T)} {Q : VK} (p : Post Γ W σv (TV Γ) Z φ H (Ro.bd mm fun l h => some (.ok (.lst l) h)) Q) : Post Γ W σv (OL Γ H) Z φ H mm Q := by
  cases mm with
  | none => exact p
  | some x => cases x with
    | ex c fs h => exact p
    | ok l h =>
      intro Z' φ' H' b le r ol
      obtain ⟨q, vs, rfl, hq, tv, nz, np, h0⟩ := ol
      exact p _ φ' H' _ (le.settle h0) (r.settle hq np) (.lst ⟨.inr rfl, hq⟩ (tv.monoZ (LeZ.settle q)))
theorem pe_frz {e : Expr} {ev : Sl → Hh → Ro (List T)} {ev' : Sl → Hh → Ro T} (he : PE X e (rdL Γ W ev)) (h : ∀ σ h, ev' σ h = Ro.bd (ev σ h) fun l h => some (.ok (.lst l) h)) : PE X e (rdE Γ W ev') := pe_weaken he fun σv H Q q => by
  obtain ⟨Z, φ, hh, σ, r, s, p⟩ := q
  have p : Post Γ W σv (TV Γ) Z φ H (ev' σ hh) Q := p
  rw [h] at p
  exact ⟨Z, φ, hh, σ, r, s, post_frz p⟩
/-- a list that was just laid -/
theorem post_new {σv : L2.St} {Z Z1 : Addr → Prop} {φ φ1 : List Addr} {H0 H1 : Hp} {h h1 : Hh} {vs : List V} {l : List T} {p : Addr} {Q : VK} (r : R Γ Z φ H0 h) (le : Le Z φ H0 Z1 φ1 H1) (r1 : R Γ Z1 φ1 H1 h1) (tv : TVs Γ Z1 φ1 H1 vs l) (hp : H1 p = none)
    (q : Post Γ W σv (OL Γ H0) Z1 φ1 H1 (some (.ok l h1)) Q) : Q (.ref p) (upd H1 p (.lst vs)) := by
  have nz : ¬ Z1 p := fun z => by obtain ⟨_, o, e⟩ := r1.dz p z; rw [hp] at e; cases e
  exact q Z1 φ1 _ _ (Le.held hp) (r1.held hp) ⟨p, vs, rfl, upd_same, tv.mono r1 (Le.held hp), nz, r1.notin hp, r.none_of le r1 hp⟩
/-- [e, ..] -/
theorem l_lst {es : List Expr} {l : List CE} {pos : Pos} (ha : PA X es (rdA Γ W fun σ h => evArgs (Γ.at_ n) σ l h)) : PE X (.List es pos) (rdL Γ W fun σ h => evL Γ.G (Γ.at_ n) σ (.lst l) h) := pe_weaken (pe_lst ha) fun σv H Q q => by
  obtain ⟨Z, φ, hh, σ, r, s, p⟩ := q
  have p : Post Γ W σv (OL Γ H) Z φ H (Ro.bd (evArgs (Γ.at_ n) σ l hh) fun ts h => if ts.length ≤ big then some (.ok ts h) else none) Q := p
  refine ⟨Z, φ, hh, σ, r, s, (Post.bd (rel := TVs Γ) p).mono fun vs H1 ⟨Z1, φ1, h1, ts, le, r1, tv, q⟩ => ?_⟩
  split at q
  · rename_i hz
    exact ⟨by rw [tv.length]; exact big_lt hz, fun p hp => post_new r le r1 tv hp q⟩
  · exact q.elim
/-- list + list -/
theorem l_add {a b : Expr} {ca cb : CE} {pos : Pos} (gd : Gd Γ m X W) (ha : PE X a (rdW Γ W fun σ h => evV (Γ.at_ n) σ ca h)) (hb : PE X b (rdW Γ W fun σ h => evV (Γ.at_ n) σ cb h)) : PE X (.BinOp a .Add b pos) (rdL Γ W fun σ h => evL Γ.G (Γ.at_ n) σ (.bin .add ca cb) h) := pe_weaken (pe_op op_cat ha hb) fun σv H Q q => by
  obtain ⟨Z, φ, hh, σ, r, s, p⟩ := q
  have p : Post Γ W σv (OL Γ H) Z φ H (Ro.bd (evV (Γ.at_ n) σ ca hh) fun x h => Ro.bd (evV (Γ.at_ n) σ cb h) fun y h => (match seqOf h x, seqOf h y with
    | some (false, l), some (false, m) => if l.length + m.length ≤ big then some (.ok (l ++ m) h) else none
    | _, _ => none)) Q := p
  refine ⟨Z, φ, hh, σ, r, s, (Post.bd (rel := TW Γ) p).mono fun x H1 ⟨Z1, φ1, h1, t, le1, r1, w1, q1⟩ => ⟨Z1, φ1, h1, σ, r1, s.mono r le1, (Post.bd (rel := TW Γ) q1).mono fun y H2 ⟨Z2, φ2, h2, u, le2, r2, w2, q2⟩ => ?_⟩⟩
  have w1 := w1.mono r1 le2
  split at q2
  · rename_i l m e1 e2
    split at q2
    · rename_i hz
      obtain ⟨a, vs, rfl, t1, c1⟩ := seq_of r2 w1 e1
      obtain ⟨b, ws, rfl, t2, c2⟩ := seq_of r2 w2 e2
      rcases c1 with ⟨k, _⟩ | ⟨_, c1⟩
      · cases k
      rcases c2 with ⟨k, _⟩ | ⟨_, c2⟩
      · cases k
      exact ⟨a, b, vs, ws, rfl, rfl, c1, c2, by rw [t1.length, t2.length]; exact big_lt hz, fun p hp => post_new r (le1.trans le2) r2 (t1.app t2) hp q2⟩
    · exact q2.elim
  · exact q2.elim
/-- list * int -/
theorem l_mul {a b : Expr} {ca cb : CE} {pos : Pos} (ha : PE X a (rdW Γ W fun σ h => evV (Γ.at_ n) σ ca h)) (hb : PE X b (rdE Γ W fun σ h => (Γ.at_ n).e σ cb h)) : PE X (.BinOp a .Mult b pos) (rdL Γ W fun σ h => evL Γ.G (Γ.at_ n) σ (.bin .mul ca cb) h) := pe_weaken (pe_op op_rep ha hb) fun σv H Q q => by
  obtain ⟨Z, φ, hh, σ, r, s, p⟩ := q
  have p : Post Γ W σv (OL Γ H) Z φ H (Ro.bd (evV (Γ.at_ n) σ ca hh) fun x h => Ro.bd ((Γ.at_ n).e σ cb h) fun y h => (match seqOf h x, y with
    | some (false, l), .int k => if smallI k && decide (l.length * k.toNat ≤ big) then some (.ok (List.replicate k.toNat l).flatten h) else none
    | _, _ => none)) Q := p
  refine ⟨Z, φ, hh, σ, r, s, (Post.bd (rel := TW Γ) p).mono fun x H1 ⟨Z1, φ1, h1, t, le1, r1, w1, q1⟩ => ⟨Z1, φ1, h1, σ, r1, s.mono r le1, (Post.bd (rel := TV Γ) q1).mono fun y H2 ⟨Z2, φ2, h2, u, le2, r2, w2, q2⟩ => ?_⟩⟩
  have w1 := w1.mono r1 le2
  split at q2
  · rename_i l k e1
    split at q2
    · rename_i hz
      obtain ⟨hz1, hz2⟩ := ba2 hz
      obtain ⟨b1, b2⟩ := smallI_iff hz1
      obtain ⟨a, vs, rfl, t1, c1⟩ := seq_of r2 w1 e1
      rcases c1 with ⟨k, _⟩ | ⟨_, c1⟩
      · cases k
      cases w2
      exact ⟨a, k, vs, rfl, rfl, c1, by omega, by omega, by rw [t1.length]; exact big_lt (of_decide_eq_true hz2), fun p hp => post_new r (le1.trans le2) r2 (t1.rep _) hp q2⟩
    · exact q2.elim
  · exact q2.elim
/-- a slice's part -/
theorem o_of (gd : Gd Γ n X W) (L : LvE Γ n) {k : Nat} {e : Option Expr} {c : Option CE} (h : ckO Γ.nms X.N k X.env.scope e c = true) : PO X e (rd Γ W (fun _ _ _ b a => b = a) fun σ h => evO (Γ.at_ n) σ c h) := by
  cases k with
  | zero => cases h
  | succ k =>
    cases e with
    | none =>
      cases c with
      | some => cases h
      | none =>
        refine ⟨fun pins s σv H Q I q => po_none.run pins s σv H Q I ?_⟩
        obtain ⟨Z, φ, hh, σ, r, sr, p⟩ := q
        exact p Z φ H none .refl r rfl
    | some e =>
      cases c with
      | none => cases h
      | some c =>
        have g := po_some (L X W gd k e c h)
        refine ⟨fun pins s σv H Q I q => g.run pins s σv H Q I ?_⟩
        have q : rd Γ W (fun _ _ _ b a => b = a) (fun σ h => Ro.bd ((Γ.at_ n).e σ c h) fun t h => (match t with
          | .int i => some (.ok (some i) h)
          | _ => none)) σv H Q := q
        refine (rd_bd (rel := TV Γ) q).mono fun x H1 ⟨Z1, φ1, h1, σ, t, r1, s1, w1, q1⟩ => ?_
        cases t with
        | int i => cases w1; exact ⟨i, rfl, q1 Z1 φ1 H1 _ .refl r1 rfl⟩
        | _ => exact q1.elim
theorem cut_T {Z : Addr → Prop} {φ : List Addr} {H : Hp} {vs : List V} {l : List T} (tv : TVs Γ Z φ H vs l) (lo hi : Option Int) : TVs Γ Z φ H (cutV vs lo hi) (cutT l lo hi) := by
  unfold cutV cutT
  rw [tv.length]
  exact (tv.drop _).take _
theorem l_slc {a : Expr} {lo hi : Option Expr} {ca : CE} {cl ch : Option CE} {p2 pos : Pos} (ha : PE X a (rdW Γ W fun σ h => evV (Γ.at_ n) σ ca h)) (hl : PO X lo (rd Γ W (fun _ _ _ b a => b = a) fun σ h => evO (Γ.at_ n) σ cl h)) (hh : PO X hi (rd Γ W (fun _ _ _ b a => b = a) fun σ h => evO (Γ.at_ n) σ ch h)) :
    PE X (.Subscript a (.Slice lo hi none p2) pos) (rdL Γ W fun σ h => evL Γ.G (Γ.at_ n) σ (.slc ca cl ch) h) := pe_weaken (pe_slice sl_list ha hl hh) fun σv H Q q => by
  obtain ⟨Z, φ, hh, σ, r, s, p⟩ := q
  have p : Post Γ W σv (OL Γ H) Z φ H (Ro.bd (evV (Γ.at_ n) σ ca hh) fun x h => Ro.bd (evO (Γ.at_ n) σ cl h) fun l h => Ro.bd (evO (Γ.at_ n) σ ch h) fun u h => (match seqOf h x with
    | some (false, xs) => some (.ok (cutT xs l u) h)
    | _ => none)) Q := p
  refine ⟨Z, φ, hh, σ, r, s, (Post.bd (rel := TW Γ) p).mono fun x H1 ⟨Z1, φ1, h1, t, le1, r1, w1, q1⟩ => ⟨Z1, φ1, h1, σ, r1, s.mono r le1, (Post.bd (rel := fun _ _ _ b a => b = a) q1).mono fun lo H2 ⟨Z2, φ2, h2, u, le2, r2, w2, q2⟩ =>
    ⟨Z2, φ2, h2, σ, r2, s.mono r (le1.trans le2), (Post.bd (rel := fun _ _ _ b a => b = a) q2).mono fun hi H3 ⟨Z3, φ3, h3, u3, le3, r3, w3, q3⟩ => ?_⟩⟩⟩
  subst w2 w3
  have w1 := w1.mono r1 (le2.trans le3)
  split at q3
  · rename_i xs e1
    obtain ⟨a, vs, rfl, t1, c1⟩ := seq_of r3 w1 e1
    rcases c1 with ⟨k, _⟩ | ⟨_, c1⟩
    · cases k
    exact ⟨a, vs, rfl, SqL.of c1, fun p hp => post_new r (le1.trans (le2.trans le3)) r3 (cut_T t1 _ _) hp q3⟩
  · exact q3.elim
theorem s_slc {a : Expr} {lo hi : Option Expr} {ca : CE} {cl ch : Option CE} {p2 pos : Pos} (gd : Gd Γ m X W) (ha : PE X a (rdW Γ W fun σ h => evV (Γ.at_ n) σ ca h)) (hl : PO X lo (rd Γ W (fun _ _ _ b a => b = a) fun σ h => evO (Γ.at_ n) σ cl h)) (hh : PO X hi (rd Γ W (fun _ _ _ b a => b = a) fun σ h => evO (Γ.at_ n) σ ch h)) :
    PE X (.Subscript a (.Slice lo hi none p2) pos) (rdE Γ W fun σ h => evE Γ.G (Γ.at_ n) σ (.slc ca cl ch) h) := pe_weaken (pe_slice (sl_list.or sl_tupA) ha hl hh) fun σv H Q q => by
  obtain ⟨Z, φ, hh, σ, r, s, p⟩ := q
  have p : Post Γ W σv (TV Γ) Z φ H (Ro.bd (evV (Γ.at_ n) σ ca hh) fun x h => Ro.bd (evO (Γ.at_ n) σ cl h) fun l h => Ro.bd (evO (Γ.at_ n) σ ch h) fun u h => (match seqOf h x with
    | some (true, xs) => some (.ok (.tup (cutT xs l u)) h)
    | some (false, xs) => some (.ok (.lst (cutT xs l u)) h)
    | none => none)) Q := p
  refine ⟨Z, φ, hh, σ, r, s, (Post.bd (rel := TW Γ) p).mono fun x H1 ⟨Z1, φ1, h1, t, le1, r1, w1, q1⟩ => ⟨Z1, φ1, h1, σ, r1, s.mono r le1, (Post.bd (rel := fun _ _ _ b a => b = a) q1).mono fun lo H2 ⟨Z2, φ2, h2, u, le2, r2, w2, q2⟩ =>
    ⟨Z2, φ2, h2, σ, r2, s.mono r (le1.trans le2), (Post.bd (rel := fun _ _ _ b a => b = a) q2).mono fun hi H3 ⟨Z3, φ3, h3, u3, le3, r3, w3, q3⟩ => ?_⟩⟩⟩
  subst w2 w3
  have w1 := w1.mono r1 (le2.trans le3)
  cases e1 : seqOf h3 t with
  | none => rw [e1] at q3; exact q3.elim
  | some kl =>
    obtain ⟨kk, xs⟩ := kl
    rw [e1] at q3
    obtain ⟨a, vs, rfl, t1, c1⟩ := seq_of r3 w1 e1
    cases kk with
    | true =>
      rcases c1 with ⟨_, tw, c1⟩ | ⟨k, _⟩
      · refine .inr ⟨a, vs, rfl, gd.K ▸ c1, fun hw => ?_, fun _ p hp => ?_⟩
        · have ew : cutT xs lo hi = xs := by
            unfold cutT
            rw [← t1.length, hw.1, hw.2]
            simp [t1.length]
          have q3 : Post Γ W σv (TV Γ) Z3 φ3 H3 (some (.ok (.tup (cutT xs lo hi)) h3)) Q := q3
          rw [ew] at q3
          exact q3 Z3 φ3 H3 _ .refl r3 tw
        · exact Post.tup r3 (cut_T t1 lo hi) hp q3
      · cases k
    | false =>
      rcases c1 with ⟨k, _⟩ | ⟨_, c1⟩
      · cases k
      · exact .inl ⟨a, vs, rfl, SqL.of c1, fun p hp => Post.lst r3 (cut_T t1 lo hi) hp q3⟩
theorem l_rev {a : Expr} {ca : CE} {k : Nat} {p1 p2 p3 pos : Pos} (ha : PE X a (rdW Γ W fun σ h => evV (Γ.at_ n) σ ca h)) :
    PE X (.Subscript a (.Slice none none (some (.UnaryOp .USub (.Constant (.int 1) k p1) p2)) p3) pos) (rdL Γ W fun σ h => evL Γ.G (Γ.at_ n) σ (.rev ca) h) := pe_weaken (pe_revL ha) fun σv H Q q => by
  obtain ⟨Z, φ, hh, σ, r, s, p⟩ := q
  have p : Post Γ W σv (OL Γ H) Z φ H (Ro.bd (evV (Γ.at_ n) σ ca hh) fun x h => (match seqOf h x with
    | some (false, xs) => some (.ok xs.reverse h)
    | _ => none)) Q := p
  refine ⟨Z, φ, hh, σ, r, s, (Post.bd (rel := TW Γ) p).mono fun x H1 ⟨Z1, φ1, h1, t, le1, r1, w1, q1⟩ => ?_⟩
  split at q1
  · rename_i xs e1
    obtain ⟨a, vs, rfl, t1, c1⟩ := seq_of r1 w1 e1
    rcases c1 with ⟨k, _⟩ | ⟨_, c1⟩
    · cases k
    exact ⟨a, vs, rfl, SqL.of c1, fun p hp => post_new r le1 r1 t1.reverse hp q1⟩
  · exact q1.elim
end
end Ev
end
section
set_option Elab.async false
set_option linter.all false
set_option maxRecDepth 100000
set_option maxHeartbeats 2000000
/-! Ev, part O: enumerate over a tuple. -/
namespace PySem
open Sem (wp)
open AutoSeq1 (wpAny_loadPart')
theorem meets_enumerate_newB1 {v : Value} {o : Obj} {H : Heap → Prop} (B : Begins v o H) :
    Meets (Builtin.«enumerate.__new__» ⟨[.type "enumerate", v], []⟩) (fun _ R s => H s.heap ∧
      R (.ok (.ret (.ref (s.heap.push o).objs.size))) { s with heap := (s.heap.push o).push { cls := .type "enumerate", data := .fields #[.none, .bool false, .ref s.heap.objs.size, rawInt 0, .none, .none] } }) :=
  .of_wp fun prog w A R s h => by
    obtain ⟨hp, g, d, tk, os⟩ := s; obtain ⟨h1, h⟩ := h
    have hsub := sub_enumerate
    have q1 : ∀ {A' : Around} {E : Value → Shared → Prop} {Q : Value → Shared → Prop}, Q (.ref hp.objs.size) ⟨hp.push o, g, d, tk, os⟩ → wpAny (model prog w) A' (pyIter v) Q E ⟨hp, g, d, tk, os⟩ :=
      fun q => B.iter prog w _ _ ⟨hp, g, d, tk, os⟩ _ h1 q
    wp_walk using q1
    refine wpAny_stack_any fun st => wpAny_pure ?_
    split
    · rename_i c _ _ _ _ _
      cases (c == Value.type "enumerate")
      · wp_walk using q1
        exact ⟨_, rfl, h⟩
      · wp_walk using q1
        exact ⟨_, rfl, h⟩
    · wp_walk using q1
      exact ⟨_, rfl, h⟩
section
variable {prog : Program} {w : World} {A : Around} {E : Value → Shared → Prop} {s : Shared}
theorem enum_begins1 {v : Value} {o : Obj} {H : Heap → Prop} {Q : Value → Shared → Prop} (B : Begins v o H) (h1 : H s.heap)
    (h : ∀ h', IsEnum h' (s.heap.objs.size + 1) s.heap.objs.size 0 .none → h'.get? s.heap.objs.size = some o → h'.objs.size = s.heap.objs.size + 2 →
      (∀ b o, s.heap.get? b = some o → h'.get? b = some o) → Q (.ref (s.heap.objs.size + 1)) { s with heap := h' }) :
    wpAny (model prog w) A (call (.type "enumerate") [v]) Q E s := by
  refine callType_new F.called_enumerate (by decide) (F.typeCall_enumerate_1 _) (F.newCall_enumerate_1 _) (fun obj => F.args_object_init_2 obj _) F.entry_enumerate_new
    (meets_enumerate_newB1 B) ⟨h1, ?_⟩
  have hz : (s.heap.push o).objs.size = s.heap.objs.size + 1 := Heap.size_push ..
  show _ ∧ _
  rw [hz]
  have he : IsEnum ((s.heap.push o).push { cls := .type "enumerate", data := .fields #[.none, .bool false, .ref s.heap.objs.size, rawInt 0, .none, .none] }) (s.heap.objs.size + 1) s.heap.objs.size 0 .none := by
    have := Heap.get?_push_size (s.heap.push o) (o := { cls := .type "enumerate", data := .fields #[.none, .bool false, .ref s.heap.objs.size, rawInt 0, .none, .none] }) rfl
    rw [hz] at this; exact this
  refine ⟨⟨_, he, rfl⟩, h _ he (Heap.get?_push_of_some _ (Heap.get?_push_size _ B.free)) (by rw [Heap.size_push, hz]) fun b o x => Heap.get?_push_of_some _ (Heap.get?_push_of_some _ x)⟩
end
end PySem
namespace Ev
open PySem PySem.Spec PyProof.Rows L2
def IteT (K : PySem.W.Frag) (a : Addr) : It :=
  ⟨fun i H => ∃ (xs : List V) (x : V), SqT K H a xs ∧ xs[i]? = some x, fun i H v H' => ∃ T x, v = .ref T ∧ H T = none ∧ H' = upd H T (.tup [.int (i : Nat), x]) ∧ ∀ xs, SqT K H a xs → xs[i]? = some x, fun i H => ∃ xs : List V, SqT K H a xs ∧ xs.length ≤ i⟩
theorem turn_enumT {P : Program} {w : World} {K : PySem.W.Frag} {elts : List Expr} {kk : Nat} {tpos : Pos} (a e it : Addr) (ha : a < it) (hae : a ≠ e) :
    Turn P w K (.Tuple elts kk tpos) (IteT K a) [e, it] e (fun i h => (∃ old, IsEnum h e it ((i : Nat) : Int) old) ∧ h.IsTupleIter it a i ∧ e ≠ it) where
  mem := by simp
  obj := fun i h st b hb => by
    obtain ⟨⟨old, he⟩, ⟨o, ho, hc, hd⟩, _⟩ := st
    have e' : b = e ∨ b = it := by simpa using hb
    rcases e' with z | z
    · rw [z]; exact ⟨_, he, fun v q => nomatch q⟩
    · rw [z]; exact ⟨o, ho, fun v q => by rw [hd] at q; cases q⟩
  keep := fun i h h' st k => let ⟨⟨old, he⟩, hi, hne⟩ := st; ⟨⟨old, k e (by simp) _ he⟩, hi.at fun o q => k it (by simp) o q, hne⟩
  item := by
    intro X hP hw hK hc i pins s σ H E I hf st hg
    subst hP hw hK
    obtain ⟨⟨old, he⟩, hit, hne⟩ := st
    obtain ⟨xs, x, hq, hx⟩ := hg
    obtain ⟨its, rv, p, hz⟩ := I.tuple hq
    obtain ⟨u, hu, ru⟩ := rv.get hx
    have hel : e < s.heap.objs.size := Heap.lt_size he
    have hil : it < s.heap.objs.size := by obtain ⟨_, q, _⟩ := hit; exact Heap.lt_size q
    have hlt : i < its.toArray.size := by
      have := (List.getElem?_eq_some_iff.mp hu).1
      simpa using this
    refine wpAny_pyNext_enum_itemD (Draws.tuple (A := X.A.in1) (I.ok.hd hc) it a (Nat.ne_of_lt ha) its.toArray) he ⟨hit, p⟩ hlt hne (by simp [hne, hae.symm]) fun v h' tk hP ho hS hT hsz hk => ?_
    have ev : v = u := by
      have : its.toArray[i]? = some v := hP
      rw [List.getElem?_toArray, hu] at this
      exact (Option.some.inj this).symm
    subst ev
    refine ⟨_, rfl, wpAny_letOwnedTupleGo_enum (s := { s with heap := h', toks := tk + 1 }) ho fun h'' he' sb => ?_⟩
    have hT2 : h''.get? s.heap.objs.size = some { cls := .type "tuple", data := .seq #[.int i tk, v] } := (sb.2 _ (Nat.ne_of_gt hel)).trans hT
    have new : ObjOk X.prog X.w (upd H s.heap.objs.size (.tup [.int (i : Nat), x])) h'' s.heap.objs.size (.tup [.int (i : Nat), x]) :=
      ⟨by show 2 ≤ sizeLine; decide, [.int i tk, v], .cons ⟨_, rfl⟩ (.cons ru .nil), ⟨_, hT2, rfl, _, rfl⟩⟩
    have I1 : Inv X pins σ (upd H s.heap.objs.size (.tup [.int (i : Nat), x])) { s with heap := h'', toks := tk + 1 } :=
      I.turnedNew (ch := [e, it]) (fun b ob hb q => (sb.2 b (fun z => hb (by simp [z]))).trans (hk b ob (fun z => hb (by simp [z])) (fun z => hb (by simp [z])) q)) hf (Nat.le_refl _) new
    refine ⟨.ref s.heap.objs.size, _, I1, rfl, ⟨_, x, rfl, I.hok.fresh (Nat.le_refl _), rfl, fun ys hy => by rw [I.tuple_inj hy hq]; exact hx⟩, ⟨⟨v, ?_⟩, hS.1.at fun o q => (sb.2 it (Ne.symm hne)).trans q, hne⟩, fun b hb => ?_⟩
    · have e1 : ((i + 1 : Nat) : Int) = (i : Int) + 1 := by omega
      rw [e1]; exact he'
    · have hb' : b < s.heap.objs.size := by
        have e' : b = e ∨ b = it := by simpa using hb
        rcases e' with z | z
        · rw [z]; exact hel
        · rw [z]; exact hil
      rw [upd_ne (Nat.ne_of_lt hb')]
      exact (hf b hb).1
  done := by
    intro X hP hw hK hc i pins s σ H E I hf st hg
    subst hP hw hK
    obtain ⟨⟨old, he⟩, hit, hne⟩ := st
    obtain ⟨xs, hq, hx⟩ := hg
    obtain ⟨its, rv, p, hz⟩ := I.tuple hq
    obtain ⟨f0, f1, f2, f3, f4, f5⟩ := hf it (by simp)
    have hl := rv.length
    have hsz : its.toArray.size ≤ i := by rw [List.size_toArray]; omega
    -- the iterator has gone through all
    have D := Draws.tuple (prog := X.prog) (w := X.w) (A := X.A.in1) (I.ok.hd hc) it a (Nat.ne_of_lt ha) its.toArray
    have hT : s.TypeIs (.ref e) "enumerate" := ⟨_, he, rfl⟩
    unfold pyNext
    refine wpAny_bind (wpAny_attempt (wpAny_callSpecial?_slot (name := Str.ofString "__next__") hT F.slot_enumerate_next
      (wpAny_call_entry F.slot_enumerate_next hT F.entry_enumerate_next ?_ (F.args_enumerate_next_1 _))))
    show wpAny _ _ (field (.ref e) 2 >>= _) _ _ _
    refine wpAny_bind (wpAny_field he rfl (x := .ref it) rfl ?_)
    refine wpAny_bind (wpAny_nextOf_tuple_end (I.ok.hd hc) hit p (by simpa using hsz) fun h' x he' hx' => ?_)
    obtain ⟨o, ho, hc'⟩ := hx'
    refine wpAny_bind (wpAny_isInstance (T := "StopIteration") (b := true) ⟨o, ho, hc'⟩ isSubtype_stop ?_)
    exact wpAny_pure ⟨rfl, I.turned (t' := s.toks) (fun b o hb q => he' b o hb q) f0 f1 f3 f4 f5⟩
  self := fun A i s Q E st h => let ⟨⟨_, he⟩, _⟩ := st; wpAny_pyIter_enum he h
def iEnumA (K : PySem.W.Frag) (ta : TA) : TI := fun σ H R => ta σ H fun vs H1 => ∃ a xs, vs = [.ref a] ∧ ((SqL K H1 a xs ∧ R (Ite K a) H1) ∨ (SqT K H1 a xs ∧ R (IteT K a) H1))
theorem pi_enumA {X : Cx} {e : Expr} {ta : TA} {p pos tpos : Pos} {elts : List Expr} {kk : Nat} (hg : Gl X "enumerate") (hm : X.mg "enumerate" = none) (ha : PA X [e] ta) (hs : starEach [e] X.env = (false, eval e X.env) :: starEach [] X.env) :
    PI X (.Tuple elts kk tpos) (.Call (.Name "enumerate" p) [e] [] pos) (iEnumA X.K ta) := by
  refine ⟨fun pins s σ H R I h => ?_⟩
  refine Call_ (ld_blt I hg hm boot_enumerate (PyProof.Rows.callWith_type1 (thn (ha.run pos pins s σ H _ I h) fun us s1 ⟨vs, H1, I1, r1, q1⟩ => ?_) hs rfl))
  obtain ⟨a, xs, ex, q1⟩ := q1
  subst ex
  cases r1 with
  | cons r rr =>
    cases rr
    cases r
    have fr : ∀ b ∈ [s1.heap.objs.size + 1, s1.heap.objs.size], FpOk X pins H1 b := fun b hb => by
      have e' : b = s1.heap.objs.size + 1 ∨ b = s1.heap.objs.size := by simpa using hb
      have hle : s1.heap.objs.size ≤ b := by
        rcases e' with z | z
        · rw [z]; exact Nat.le_add_right _ _
        · rw [z]; exact Nat.le_refl _
      exact I1.fpOk hle (I1.hok.fresh hle)
    rcases q1 with ⟨hq, q⟩ | ⟨hq, q⟩
    · obtain ⟨its, rv, p', hz⟩ := I1.list hq
      refine call_enumerate_list p'.isList fun h' he hit hsz hk => wpAny_pyIter_enum he ?_
      have I2 : Inv X pins σ H1 { s1 with heap := h' } := I1.kept (t' := s1.toks) hk
      exact ⟨s1.heap.objs.size + 1, [s1.heap.objs.size + 1, s1.heap.objs.size], _, _, H1, rfl, I2, turn_enum a (s1.heap.objs.size + 1) s1.heap.objs.size, ⟨⟨.none, he⟩, hit, Nat.succ_ne_self _⟩, fr, q⟩
    · obtain ⟨its, rv, p', hz⟩ := I1.tuple hq
      have hT : s1.heap.IsTuple a its.toArray := p'
      have hlt : a < s1.heap.objs.size := by obtain ⟨_, q, _⟩ := hT; exact Heap.lt_size q
      refine enum_begins1 (begins_tuple a its.toArray) hT fun h' he hit hsz hk => wpAny_pyIter_enum he ?_
      have I2 : Inv X pins σ H1 { s1 with heap := h' } := I1.kept (t' := s1.toks) hk
      exact ⟨s1.heap.objs.size + 1, [s1.heap.objs.size + 1, s1.heap.objs.size], _, _, H1, rfl, I2, turn_enumT a (s1.heap.objs.size + 1) s1.heap.objs.size hlt (Nat.ne_of_lt (Nat.lt_succ_of_lt hlt)), ⟨⟨.none, he⟩, ⟨_, hit, rfl, rfl⟩, Nat.succ_ne_self _⟩, fr, q⟩
end Ev
end
section
set_option Elab.async false
set_option linter.all false
set_option maxRecDepth 100000
set_option maxHeartbeats 1000000
/-! Ev, part P: what is walked. -/
namespace Ev
open PySem PySem.Spec PyProof.Rows L2

/-- later: what is settled stands; where bw, all that is no cell -/
def LeB (bw : Bool) (Z : Addr → Prop) (φ : List Addr) (H : Hp) (Z' : Addr → Prop) (φ' : List Addr) (H' : Hp) : Prop := LeZ Z φ H Z' φ' H' ∧ (bw = true → Le Z φ H Z' φ' H')
/-- a value that is walked; where not bw, a settled one -/
def TB (Γ : Gam) (bw : Bool) (Z : Addr → Prop) (φ : List Addr) (H : Hp) (v : V) (t : T) : Prop := TW Γ Z φ H v t ∧ (bw = false → TV Γ Z φ H v t)
theorem Le.b {Γ : Gam} {bw : Bool} {Z Z' : Addr → Prop} {φ φ' : List Addr} {H H' : Hp} {h : Hh} (r : R Γ Z φ H h) (le : Le Z φ H Z' φ' H') : LeB bw Z φ H Z' φ' H' := ⟨le.z r, fun _ => le⟩
theorem TB.later {Γ : Gam} {bw : Bool} {Z Z' : Addr → Prop} {φ φ' : List Addr} {H H' : Hp} {h : Hh} {v : V} {t : T} (r : R Γ Z φ H h) (le : LeB bw Z φ H Z' φ' H') (w : TB Γ bw Z φ H v t) : TB Γ bw Z' φ' H' v t := by
  cases bw with
  | true => exact ⟨w.1.mono r (le.2 rfl), fun k => nomatch k⟩
  | false => exact ⟨.inl ((w.2 rfl).monoZ le.1), fun _ => (w.2 rfl).monoZ le.1⟩
theorem Post.rel {α β : Type} {Γ : Gam} {W : WX} {σv : L2.St} {rel rel2 : (Addr → Prop) → List Addr → Hp → β → α → Prop} {Z : Addr → Prop} {φ : List Addr} {H : Hp} {m : Ro α} {Q : β → Hp → Prop} (hr : ∀ Z φ H b a, rel2 Z φ H b a → rel Z φ H b a) (p : Post Γ W σv rel Z φ H m Q) : Post Γ W σv rel2 Z φ H m Q := by
  cases m with
  | none => exact p
  | some x => cases x with
    | ok a h => exact fun Z2 φ2 H2 b l r q => p Z2 φ2 H2 b l r (hr _ _ _ _ _ q)
    | ex c fs h => exact p
/-- J walks l -/
structure Wk (Γ : Gam) (bw : Bool) (Z : Addr → Prop) (φ : List Addr) (H : Hp) (J : It) (l : List T) : Prop where
  go : ∀ (i : Nat) (Z' : Addr → Prop) (φ' : List Addr) (H' : Hp) (h' : Hh), LeB bw Z φ H Z' φ' H' → R Γ Z' φ' H' h' → i < l.length → J.go i H'
  stop : ∀ (i : Nat) (Z' : Addr → Prop) (φ' : List Addr) (H' : Hp) (h' : Hh), LeB bw Z φ H Z' φ' H' → R Γ Z' φ' H' h' → l.length ≤ i → J.stop i H'
  yld : ∀ (i : Nat) (t : T) (Z' : Addr → Prop) (φ' : List Addr) (H' : Hp) (h' : Hh) (x : V) (H2 : Hp), LeB bw Z φ H Z' φ' H' → R Γ Z' φ' H' h' → l[i]? = some t → J.yld i H' x H2 → ∃ Z2, Le Z' φ' H' Z2 φ' H2 ∧ R Γ Z2 φ' H2 h' ∧ TV Γ Z2 φ' H2 x t

section
variable {Γ : Gam} {bw : Bool} {Z : Addr → Prop} {φ : List Addr} {H : Hp} {h : Hh} {X : Cx} {W : WX} {n m : Nat}
/-- the items of a list or tuple, later -/
theorem seq_later (hK : X.K = Γ.K) (r : R Γ Z φ H h) {a : Addr} {t : T} {k : Bool} {l : List T} (w : TB Γ bw Z φ H (.ref a) t) (e : seqF t = some (k, l)) {Z' : Addr → Prop} {φ' : List Addr} {H' : Hp} (le : LeB bw Z φ H Z' φ' H') :
    ∃ vs, TVs Γ Z' φ' H' vs l ∧ ((k = true ∧ SqT X.K H' a vs) ∨ (k = false ∧ SqL X.K H' a vs)) := by
  obtain ⟨a', vs, ea, rr, c⟩ := seq_F (w.later r le).1 e
  cases ea
  exact ⟨vs, rr, by rw [hK]; exact c⟩
theorem wk_lst (hK : X.K = Γ.K) (r : R Γ Z φ H h) {a : Addr} {t : T} {l : List T} (w : TB Γ bw Z φ H (.ref a) t) (e : seqF t = some (false, l)) : Wk Γ bw Z φ H (Itl X.K a) l where
  go := fun i Z' φ' H' h' le _ hi => by
    obtain ⟨vs, rr, ⟨k, _⟩ | ⟨_, c⟩⟩ := seq_later hK r w e le
    · cases k
    · exact ⟨vs, vs[i]'(by rw [rr.length]; exact hi), c, List.getElem?_eq_getElem _⟩
  stop := fun i Z' φ' H' h' le _ hi => by
    obtain ⟨vs, rr, ⟨k, _⟩ | ⟨_, c⟩⟩ := seq_later hK r w e le
    · cases k
    · exact ⟨vs, c, by rw [rr.length]; exact hi⟩
  yld := fun i u Z' φ' H' h' x H2 le r' hi y => by
    obtain ⟨vs, rr, ⟨k, _⟩ | ⟨_, c⟩⟩ := seq_later hK r w e le
    · cases k
    · obtain ⟨e2, y⟩ := y
      subst e2
      obtain ⟨v, hv, tv⟩ := rr.get hi
      have := y vs c
      rw [hv] at this
      cases this
      exact ⟨Z', .refl, r', tv⟩
theorem wk_tup (hK : X.K = Γ.K) (r : R Γ Z φ H h) {a : Addr} {t : T} {l : List T} (w : TB Γ bw Z φ H (.ref a) t) (e : seqF t = some (true, l)) : Wk Γ bw Z φ H (Itt X.K a) l where
  go := fun i Z' φ' H' h' le _ hi => by
    obtain ⟨vs, rr, ⟨_, c⟩ | ⟨k, _⟩⟩ := seq_later hK r w e le
    · exact ⟨vs, vs[i]'(by rw [rr.length]; exact hi), c, List.getElem?_eq_getElem _⟩
    · cases k
  stop := fun i Z' φ' H' h' le _ hi => by
    obtain ⟨vs, rr, ⟨_, c⟩ | ⟨k, _⟩⟩ := seq_later hK r w e le
    · exact ⟨vs, c, by rw [rr.length]; exact hi⟩
    · cases k
  yld := fun i u Z' φ' H' h' x H2 le r' hi y => by
    obtain ⟨vs, rr, ⟨_, c⟩ | ⟨k, _⟩⟩ := seq_later hK r w e le
    · obtain ⟨e2, y⟩ := y
      subst e2
      obtain ⟨v, hv, tv⟩ := rr.get hi
      have := y vs c
      rw [hv] at this
      cases this
      exact ⟨Z', .refl, r', tv⟩
    · cases k
theorem rangeL_get (a : Int) (n i : Nat) : (rangeL a n)[i]? = if i < n then some (.int (a + i)) else none := by
  unfold rangeL
  rw [List.getElem?_map]
  by_cases h : i < n
  · rw [List.getElem?_range h, if_pos h] <;> rfl
  · rw [List.getElem?_eq_none (by simpa using h), if_neg h] <;> rfl
theorem wk_rng (a : Int) (k : Nat) : Wk Γ bw Z φ H (Itr a k) (rangeL a k) where
  go := fun i Z' φ' H' h' le _ hi => by
    have : i < k := by simpa [rangeL] using hi
    exact this
  stop := fun i Z' φ' H' h' le _ hi => by
    have : k ≤ i := by simpa [rangeL] using hi
    exact this
  yld := fun i u Z' φ' H' h' x H2 le r' hi y => by
    obtain ⟨e2, y⟩ := y
    subst e2 y
    rw [rangeL_get] at hi
    split at hi
    · cases hi; exact ⟨Z', .refl, r', .int _⟩
    · cases hi
theorem enumL_get : ∀ (k : Int) (l : List T) (i : Nat), (enumL k l)[i]? = (l[i]?).map fun t => .tup [.int (k + i), t]
  | _, [], i => by simp [enumL]
  | k, t :: l, 0 => by simp [enumL]
  | k, t :: l, i + 1 => by
    have e : k + ((i + 1 : Nat) : Int) = k + 1 + (i : Int) := by omega
    simp only [enumL, List.getElem?_cons_succ, e]
    exact enumL_get (k + 1) l i
theorem enumL_len : ∀ (k : Int) (l : List T), (enumL k l).length = l.length
  | _, [] => rfl
  | k, _ :: l => by simp [enumL, enumL_len (k + 1) l]
theorem pair_new {Z' : Addr → Prop} {φ' : List Addr} {H' : Hp} {h' : Hh} (r' : R Γ Z' φ' H' h') {T1 : Addr} {x y : V} {t u : T} (hp : H' T1 = none) (a : TV Γ Z' φ' H' x t) (b : TV Γ Z' φ' H' y u) :
    ∃ Z2, Le Z' φ' H' Z2 φ' (upd H' T1 (.tup [x, y])) ∧ R Γ Z2 φ' (upd H' T1 (.tup [x, y])) h' ∧ TV Γ Z2 φ' (upd H' T1 (.tup [x, y])) (.ref T1) (.tup [t, u]) :=
  ⟨_, Le.new hp, r'.new hp, TV.newTup r' hp (.cons a (.cons b .nil))⟩
theorem wk_enumL (hK : X.K = Γ.K) (r : R Γ Z φ H h) {a : Addr} {t : T} {l : List T} (w : TB Γ bw Z φ H (.ref a) t) (e : seqF t = some (false, l)) : Wk Γ bw Z φ H (Ite X.K a) (enumL 0 l) where
  go := fun i Z' φ' H' h' le _ hi => by
    rw [enumL_len] at hi
    obtain ⟨vs, rr, ⟨k, _⟩ | ⟨_, c⟩⟩ := seq_later hK r w e le
    · cases k
    · exact ⟨vs, vs[i]'(by rw [rr.length]; exact hi), c, List.getElem?_eq_getElem _⟩
  stop := fun i Z' φ' H' h' le _ hi => by
    rw [enumL_len] at hi
    obtain ⟨vs, rr, ⟨k, _⟩ | ⟨_, c⟩⟩ := seq_later hK r w e le
    · cases k
    · exact ⟨vs, c, by rw [rr.length]; exact hi⟩
  yld := fun i u Z' φ' H' h' x H2 le r' hi y => by
    obtain ⟨vs, rr, ⟨k, _⟩ | ⟨_, c⟩⟩ := seq_later hK r w e le
    · cases k
    · obtain ⟨T1, y1, rfl, hp, rfl, y⟩ := y
      rw [enumL_get] at hi
      cases hl : l[i]? with
      | none => rw [hl] at hi; cases hi
      | some t' =>
        rw [hl] at hi
        cases hi
        obtain ⟨v, hv, tv⟩ := rr.get hl
        have := y vs c
        rw [hv] at this
        cases this
        rw [Int.zero_add]
        exact pair_new r' hp (.int _) tv
theorem wk_enumT (hK : X.K = Γ.K) (r : R Γ Z φ H h) {a : Addr} {t : T} {l : List T} (w : TB Γ bw Z φ H (.ref a) t) (e : seqF t = some (true, l)) : Wk Γ bw Z φ H (IteT X.K a) (enumL 0 l) where
  go := fun i Z' φ' H' h' le _ hi => by
    rw [enumL_len] at hi
    obtain ⟨vs, rr, ⟨_, c⟩ | ⟨k, _⟩⟩ := seq_later hK r w e le
    · exact ⟨vs, vs[i]'(by rw [rr.length]; exact hi), c, List.getElem?_eq_getElem _⟩
    · cases k
  stop := fun i Z' φ' H' h' le _ hi => by
    rw [enumL_len] at hi
    obtain ⟨vs, rr, ⟨_, c⟩ | ⟨k, _⟩⟩ := seq_later hK r w e le
    · exact ⟨vs, c, by rw [rr.length]; exact hi⟩
    · cases k
  yld := fun i u Z' φ' H' h' x H2 le r' hi y => by
    obtain ⟨vs, rr, ⟨_, c⟩ | ⟨k, _⟩⟩ := seq_later hK r w e le
    · obtain ⟨T1, y1, rfl, hp, rfl, y⟩ := y
      rw [enumL_get] at hi
      cases hl : l[i]? with
      | none => rw [hl] at hi; cases hi
      | some t' =>
        rw [hl] at hi
        cases hi
        obtain ⟨v, hv, tv⟩ := rr.get hl
        have := y vs c
        rw [hv] at this
        cases this
        rw [Int.zero_add]
        exact pair_new r' hp (.int _) tv
    · cases k
theorem zipL_get : ∀ (l m : List T) (i : Nat), (zipL l m)[i]? = (match l[i]?, m[i]? with | some a, some b => some (.tup [a, b]) | _, _ => none)
  | [], m, i => by simp [zipL]
  | a :: l, [], i => by simp [zipL]
  | a :: l, b :: m, 0 => by simp [zipL]
  | a :: l, b :: m, i + 1 => by
    simp only [zipL, List.getElem?_cons_succ]
    exact zipL_get l m i
theorem zipL_len : ∀ (l m : List T), (zipL l m).length = min l.length m.length
  | [], m => by simp [zipL]
  | _ :: _, [] => by simp [zipL]
  | _ :: l, _ :: m => by simp only [zipL, List.length_cons, zipL_len l m]; omega
theorem wk_zipL (hK : X.K = Γ.K) (r : R Γ Z φ H h) {a b : Addr} {t u : T} {l m : List T} (w : TB Γ bw Z φ H (.ref a) t) (w2 : TB Γ bw Z φ H (.ref b) u) (e : seqF t = some (false, l)) (e2 : seqF u = some (false, m)) : Wk Γ bw Z φ H (Itz X.K a b) (zipL l m) where
  go := fun i Z' φ' H' h' le _ hi => by
    rw [zipL_len] at hi
    obtain ⟨vs, rr, ⟨k, _⟩ | ⟨_, c⟩⟩ := seq_later hK r w e le
    · cases k
    obtain ⟨ws, rr2, ⟨k, _⟩ | ⟨_, c2⟩⟩ := seq_later hK r w2 e2 le
    · cases k
    exact ⟨vs, ws, vs[i]'(by rw [rr.length]; omega), ws[i]'(by rw [rr2.length]; omega), c, c2, List.getElem?_eq_getElem _, List.getElem?_eq_getElem _⟩
  stop := fun i Z' φ' H' h' le _ hi => by
    rw [zipL_len] at hi
    obtain ⟨vs, rr, ⟨k, _⟩ | ⟨_, c⟩⟩ := seq_later hK r w e le
    · cases k
    obtain ⟨ws, rr2, ⟨k, _⟩ | ⟨_, c2⟩⟩ := seq_later hK r w2 e2 le
    · cases k
    exact ⟨vs, ws, c, c2, by rw [rr.length, rr2.length]; omega⟩
  yld := fun i q Z' φ' H' h' x H2 le r' hi y => by
    obtain ⟨vs, rr, ⟨k, _⟩ | ⟨_, c⟩⟩ := seq_later hK r w e le
    · cases k
    obtain ⟨ws, rr2, ⟨k, _⟩ | ⟨_, c2⟩⟩ := seq_later hK r w2 e2 le
    · cases k
    obtain ⟨T1, y1, y2, rfl, hp, rfl, ya, yb⟩ := y
    rw [zipL_get] at hi
    cases hl : l[i]? with
    | none => rw [hl] at hi; cases hi
    | some t' =>
      cases hm : m[i]? with
      | none => rw [hl, hm] at hi; cases hi
      | some u' =>
        rw [hl, hm] at hi
        cases hi
        obtain ⟨v, hv, tv⟩ := rr.get hl
        obtain ⟨v2, hv2, tv2⟩ := rr2.get hm
        have q1 := ya vs c
        have q2 := yb ws c2
        rw [hv] at q1
        rw [hv2] at q2
        cases q1
        cases q2
        exact pair_new r' hp tv tv2
theorem wk_zipT (hK : X.K = Γ.K) (r : R Γ Z φ H h) {a b : Addr} {t u : T} {l m : List T} (w : TB Γ bw Z φ H (.ref a) t) (w2 : TB Γ bw Z φ H (.ref b) u) (e : seqF t = some (true, l)) (e2 : seqF u = some (true, m)) : Wk Γ bw Z φ H (RZ.ItzT X.K a b) (zipL l m) where
  go := fun i Z' φ' H' h' le _ hi => by
    rw [zipL_len] at hi
    obtain ⟨vs, rr, ⟨_, c⟩ | ⟨k, _⟩⟩ := seq_later hK r w e le
    · obtain ⟨ws, rr2, ⟨_, c2⟩ | ⟨k, _⟩⟩ := seq_later hK r w2 e2 le
      · exact ⟨vs, ws, vs[i]'(by rw [rr.length]; omega), ws[i]'(by rw [rr2.length]; omega), c, c2, List.getElem?_eq_getElem _, List.getElem?_eq_getElem _⟩
      · cases k
    · cases k
  stop := fun i Z' φ' H' h' le _ hi => by
    rw [zipL_len] at hi
    obtain ⟨vs, rr, ⟨_, c⟩ | ⟨k, _⟩⟩ := seq_later hK r w e le
    · obtain ⟨ws, rr2, ⟨_, c2⟩ | ⟨k, _⟩⟩ := seq_later hK r w2 e2 le
      · exact ⟨vs, ws, c, c2, by rw [rr.length, rr2.length]; omega⟩
      · cases k
    · cases k
  yld := fun i q Z' φ' H' h' x H2 le r' hi y => by
    obtain ⟨vs, rr, ⟨_, c⟩ | ⟨k, _⟩⟩ := seq_later hK r w e le
    · obtain ⟨ws, rr2, ⟨_, c2⟩ | ⟨k, _⟩⟩ := seq_later hK r w2 e2 le
      · obtain ⟨T1, y1, y2, rfl, hp, rfl, ya, yb⟩ := y
        rw [zipL_get] at hi
        cases hl : l[i]? with
        | none => rw [hl] at hi; cases hi
        | some t' =>
          cases hm : m[i]? with
          | none => rw [hl, hm] at hi; cases hi
          | some u' =>
            rw [hl, hm] at hi
            cases hi
            obtain ⟨v, hv, tv⟩ := rr.get hl
            obtain ⟨v2, hv2, tv2⟩ := rr2.get hm
            have q1 := ya vs c
            have q2 := yb ws c2
            rw [hv] at q1
            rw [hv2] at q2
            cases q1
            cases q2
            exact pair_new r' hp tv tv2
      · cases k
    · cases k

/-! ### the rules -/
abbrev rdI (Γ : Gam) (b : Bool) (W : WX) (ev : Sl → Hh → Ro (List T)) : TI := rd Γ W (Wk Γ b) ev
theorem pi_weaken {tg it : Expr} {wi wi' : TI} (hi : PI X tg it wi) (hw : ∀ σ H R, wi' σ H R → wi σ H R) : PI X tg it wi' := ⟨fun pins s σ H R I q => hi.run pins s σ H R I (hw σ H R q)⟩
theorem pi_seq {tg l : Expr} {tl : TE} (hl : PE X l tl) : PI X tg l (fun σ H R => tl σ H fun x H1 => (∃ a xs, x = .ref a ∧ ((SqL X.K H1 a xs ∧ R (Itl X.K a) H1) ∨ (SqT X.K H1 a xs ∧ R (Itt X.K a) H1))) ∨ ∃ y, x = .str y ∧ R (Its y) H1) := by
  refine ⟨fun pins s σ H R I h => ?_⟩
  refine thn (hl.run pins s σ H _ I h) fun v s1 ⟨x, H1, I1, r1, q1⟩ => ?_
  rcases q1 with ⟨a, xs, e, q1⟩ | ⟨y, e, q1⟩
  case inr =>
    subst e
    obtain ⟨t, rfl⟩ := r1
    cases ha : y.cps.all (· < 128)
    · exact wpAny_pyIter_wide ha (pi_one (tk := s1.toks) I1 _ (turn_str _ y t "str_iterator" (.inr rfl)) ⟨_, Heap.get?_push_size _ rfl, rfl, rfl⟩ q1)
    · exact wpAny_pyIter_ascii ha (pi_one (tk := s1.toks) I1 _ (turn_str _ y t "str_ascii_iterator" (.inl rfl)) ⟨_, Heap.get?_push_size _ rfl, rfl, rfl⟩ q1)
  subst e
  cases r1
  have fr : ∀ b ∈ [s1.heap.objs.size], FpOk X pins H1 b := fun b hb => by
    have e : b = s1.heap.objs.size := by simpa using hb
    subst e
    exact I1.fpOk (Nat.le_refl _) (I1.hok.fresh (Nat.le_refl _))
  rcases q1 with ⟨hq, q⟩ | ⟨hq, q⟩
  · obtain ⟨its, rv, p, hz⟩ := I1.list hq
    refine wpAny_pyIter_list p.isList ?_
    exact ⟨s1.heap.objs.size, [s1.heap.objs.size], _, _, H1, rfl, I1.kept (t' := s1.toks) fun b o e => Heap.get?_push_of_some _ e, turn_list a _, ⟨_, Heap.get?_push_size _ rfl, rfl, rfl⟩, fr, q⟩
  · obtain ⟨its, rv, p, hz⟩ := I1.tuple hq
    refine wpAny_pyIter_tuple (show s1.heap.IsTuple a its.toArray from p) ?_
    exact ⟨s1.heap.objs.size, [s1.heap.objs.size], _, _, H1, rfl, I1.kept (t' := s1.toks) fun b o e => Heap.get?_push_of_some _ e, turn_tuple a _, ⟨_, Heap.get?_push_size _ rfl, rfl, rfl⟩, fr, q⟩
theorem wk_str {y : Str} : Wk Γ bw Z φ H (Its y) (y.cps.toList.map fun c => .str ⟨#[c]⟩) where
  go := fun i Z' φ' H' h' le _ hi => by
    show i < y.cps.size
    simpa using hi
  stop := fun i Z' φ' H' h' le _ hi => by
    show y.cps.size ≤ i
    simpa using hi
  yld := fun i u Z' φ' H' h' x H2 le r' hi q => by
    obtain ⟨rfl, c, hc, rfl⟩ := q
    rw [List.getElem?_map, Array.getElem?_toList, hc] at hi
    cases hi
    exact ⟨Z', .refl, r', .str _⟩
theorem sq_of (gd : Gd Γ m X W) {v : V} {t : T} {k : Bool} {l : List T} (w : TW Γ Z φ H v t) (e : seqF t = some (k, l)) : ∃ a vs, v = .ref a ∧ ((k = true ∧ SqT X.K H a vs) ∨ (k = false ∧ SqL X.K H a vs)) := by
  obtain ⟨a, vs, ea, _, c⟩ := seq_F w e
  exact ⟨a, vs, ea, by rw [gd.K]; exact c⟩
theorem ck_W (gd : Gd Γ n X W) (L : LvE Γ n) (b : Bool) {k : Nat} {e : Expr} {c : CE} (h : ck Γ.nms X.N k false X.env.scope e c = true) : PE X e (rd Γ W (TB Γ b) fun σ h => evW (Γ.at_ n) b σ c h) := by
  cases b with
  | true =>
    refine pe_weaken (ck_V gd L h) fun σv H Q q => ?_
    obtain ⟨Z, φ, hh, σ, r, s, p⟩ := q
    exact ⟨Z, φ, hh, σ, r, s, Post.rel (fun _ _ _ _ _ w => ⟨w, fun k => nomatch k⟩) p⟩
  | false =>
    refine pe_weaken (L X W gd k e c h) fun σv H Q q => ?_
    obtain ⟨Z, φ, hh, σ, r, s, p⟩ := q
    exact ⟨Z, φ, hh, σ, r, s, Post.rel (fun _ _ _ _ _ w => ⟨.inl w, fun _ => w⟩) p⟩
theorem it_seq (gd : Gd Γ n X W) (L : LvE Γ n) (b : Bool) {tg : Expr} {k : Nat} {e : Expr} {c : CE} (h : ck Γ.nms X.N k false X.env.scope e c = true) :
    PI X tg e (rdI Γ b W fun σ h => Ro.bd (evW (Γ.at_ n) b σ c h) fun t h => (match itT t with
      | some l => some (.ok l h)
      | none => none)) := pi_weaken (pi_seq (ck_W gd L b h)) fun σv H R q => by
  refine (rd_bd (rel := TB Γ b) q).mono fun x H1 ⟨Z1, φ1, h1, σ, t, r1, s1, w1, q1⟩ => ?_
  have seq : ∀ (e0 : itT t = (seqF t).map (·.2)), (∃ a xs, x = .ref a ∧ ((SqL X.K H1 a xs ∧ R (Itl X.K a) H1) ∨ (SqT X.K H1 a xs ∧ R (Itt X.K a) H1))) ∨ ∃ y, x = .str y ∧ R (Its y) H1 := fun e0 => by
    rw [e0] at q1
    cases e1 : seqF t with
    | none => rw [e1] at q1; exact q1.elim
    | some kl =>
      obtain ⟨kk, l⟩ := kl
      rw [e1] at q1
      obtain ⟨a, vs, rfl, c⟩ := sq_of gd w1.1 e1
      refine .inl ⟨a, vs, rfl, ?_⟩
      rcases c with ⟨rfl, c⟩ | ⟨rfl, c⟩
      · exact .inr ⟨c, q1 Z1 φ1 H1 _ .refl r1 (wk_tup gd.K r1 w1 e1)⟩
      · exact .inl ⟨c, q1 Z1 φ1 H1 _ .refl r1 (wk_lst gd.K r1 w1 e1)⟩
  cases t with
  | str y =>
    have := tw_str w1.1
    subst this
    exact .inr ⟨y, rfl, q1 Z1 φ1 H1 _ .refl r1 wk_str⟩
  | _ => exact seq rfl
theorem all2_arg {f : Expr → CE → Bool} : ∀ {es : List Expr} {l : List CE}, es.all notStar = true → all2 f es l = true → all2 (argB f) es l = true
  | [], [], _, _ => rfl
  | e :: es, c :: l, hs, h => by
    rw [List.all_cons] at hs
    obtain ⟨h1, h2⟩ := ba2 h
    obtain ⟨s1, s2⟩ := ba2 hs
    show (argB f e c && all2 (argB f) es l) = true
    rw [all2_arg s2 h2]
    have : argB f e c = f e c := by cases e <;> first | rfl | cases s1
    rw [this, h1] <;> rfl
  | [], _ :: _, _, h => by cases h
  | _ :: _, [], _, h => by cases h
/-- WHAT IS WALKED -/
theorem ck_I (gd : Gd Γ n X W) (wd : WdF Γ) (L : LvE Γ n) (b : Bool) {tg : Expr} {k : Nat} {e : Expr} {c : CE} (h : ckIt Γ.nms X.N k X.env.scope (isTupE tg) e c = true) : PI X tg e (rdI Γ b W fun σ h => evIt (Γ.at_ n) b σ c h) ∧ noFold e = true := by
  cases k with
  | zero => cases h
  | succ k =>
    have plain : ∀ (ev : ∀ σ h, evIt (Γ.at_ n) b σ c h = Ro.bd (evW (Γ.at_ n) b σ c h) fun t h => (match itT t with
      | some l => some (.ok l h)
      | none => none)) (h : (noFold e && ck Γ.nms X.N k false X.env.scope e c) = true), PI X tg e (rdI Γ b W fun σ h => evIt (Γ.at_ n) b σ c h) ∧ noFold e = true := fun ev h => by
      obtain ⟨h1, h2⟩ := ba2 h
      refine ⟨?_, h1⟩
      have := it_seq (tg := tg) gd L b h2
      refine pi_weaken this fun σv H R q => ?_
      obtain ⟨Z, φ, hh, σ, r, s, p⟩ := q
      exact ⟨Z, φ, hh, σ, r, s, by
        have p : Post Γ W σv (Wk Γ b) Z φ H (evIt (Γ.at_ n) b σ c hh) R := p
        rw [ev] at p
        exact p⟩
    cases c with
    | irng args =>
      cases e with
      | Call fe es ks pos =>
        cases fe with
        | Name x xp =>
          cases ks with
          | cons => exact absurd h (by simp [ckIt])
          | nil =>
            have h : (decide (x = ("range" : Str)) && glB X.env.scope x && (decide (es.length = 1) || decide (es.length = 2)) && es.all notStar && all2 (ck Γ.nms X.N k false X.env.scope) es args) = true := h
            obtain ⟨h, h5⟩ := ba2 h
            obtain ⟨h, h4⟩ := ba2 h
            obtain ⟨h, h3⟩ := ba2 h
            obtain ⟨h1, h2⟩ := ba2 h
            have hx := of_decide_eq_true h1
            subst hx
            have G1 := glB_ok h2
            have hmg : X.mg ("range" : Str) = none := by rw [gd.mg]; exact wd.rng
            have PAr := ck_args gd L (all2_arg h4 h5)
            refine ⟨?_, rfl⟩
            rcases es with _ | ⟨e1, _ | ⟨e2, _ | ⟨e3, es⟩⟩⟩
            · simp at h3
            · have hs1 : notStar e1 = true := by simpa using h4
              cases args with
              | nil => cases h5
              | cons c1 args =>
                cases args with
                | cons => simp [all2] at h5
                | nil =>
                  refine pi_weaken (pi_range1 G1 hmg PAr (starEach_cons hs1)) fun σv H R q => ?_
                  obtain ⟨Z, φ, hh, σ, r, s, p⟩ := q
                  have p : Post Γ W σv (Wk Γ b) Z φ H (Ro.bd (evArgs (Γ.at_ n) σ [c1] hh) fun ts h => (match ts with
                    | [.int j] => if smallI j then some (.ok (rangeL 0 j.toNat) h) else none
                    | [.int i, .int j] => if smallI i && smallI j then some (.ok (rangeL i (j - i).toNat) h) else none
                    | _ => none)) R := p
                  have lone : ∀ {ts : List T} {h' : Hh}, evArgs (Γ.at_ n) σ [c1] hh = some (.ok ts h') → (∀ a, c1 ≠ .star a) → ∃ t, ts = [t] := fun {ts h'} e hc => by
                    have e : Ro.bd ((Γ.at_ n).e σ c1 hh) (fun t h => Ro.bd (evArgs (Γ.at_ n) σ [] h) fun ts h => some (.ok (t :: ts) h)) = some (.ok ts h') := by
                      cases c1 <;> first | exact e | exact absurd rfl (hc _)
                    cases e2 : (Γ.at_ n).e σ c1 hh with
                    | none => rw [e2] at e; cases e
                    | some y => cases y with
                      | ok t h2 => rw [e2] at e; cases e; exact ⟨t, rfl⟩
                      | ex => rw [e2] at e; cases e
                  have hc1 : ∀ a, c1 ≠ .star a := fun a z => by
                    subst z
                    have : ck Γ.nms X.N k false X.env.scope e1 (.star a) = true := by simpa [all2] using h5
                    cases k <;> cases this
                  refine ⟨Z, φ, hh, σ, r, s, ?_⟩
                  show Post Γ W σv (TVs Γ) Z φ H (evArgs (Γ.at_ n) σ [c1] hh) _
                  cases e2 : evArgs (Γ.at_ n) σ [c1] hh with
                  | none => rw [e2] at p; exact p
                  | some y => cases y with
                    | ex c fs h' => rw [e2] at p; exact p
                    | ok ts h' =>
                      rw [e2] at p
                      obtain ⟨t, rfl⟩ := lone e2 hc1
                      intro Z1 φ1 H1 vs le r1 tv
                      cases tv with
                      | cons a1 a2 =>
                        cases a2
                        cases t with
                        | int j =>
                          cases a1
                          have p : Post Γ W σv (Wk Γ b) Z φ H (if smallI j then some (.ok (rangeL 0 j.toNat) h') else none) R := p
                          split at p
                          · rename_i hj
                            obtain ⟨b1, b2⟩ := smallI_iff hj
                            exact ⟨j, rfl, b1, b2, p Z1 φ1 H1 _ le r1 (wk_rng 0 j.toNat)⟩
                          · exact p.elim
                        | _ => exact p.elim
            · have hs1 : notStar e1 = true ∧ notStar e2 = true := by simpa using h4
              cases args with
              | nil => cases h5
              | cons c1 args =>
                cases args with
                | nil => simp [all2] at h5
                | cons c2 args =>
                  cases args with
                  | cons => simp [all2] at h5
                  | nil =>
                    refine pi_weaken (pi_range2 G1 hmg PAr (by rw [starEach_cons hs1.1, starEach_cons hs1.2] <;> rfl) (starEach_cons hs1.2)) fun σv H R q => ?_
                    obtain ⟨Z, φ, hh, σ, r, s, p⟩ := q
                    have p : Post Γ W σv (Wk Γ b) Z φ H (Ro.bd (evArgs (Γ.at_ n) σ [c1, c2] hh) fun ts h => (match ts with
                      | [.int j] => if smallI j then some (.ok (rangeL 0 j.toNat) h) else none
                      | [.int i, .int j] => if smallI i && smallI j then some (.ok (rangeL i (j - i).toNat) h) else none
                      | _ => none)) R := p
                    have hc : ∀ {e : Expr} {c : CE}, ck Γ.nms X.N k false X.env.scope e c = true → ∀ a, c ≠ .star a := fun hc a z => by subst z; cases k <;> cases hc
                    have h5 : (ck Γ.nms X.N k false X.env.scope e1 c1 = true ∧ ck Γ.nms X.N k false X.env.scope e2 c2 = true) := by simpa [all2] using h5
                    have step : ∀ {c : CE} {cs : List CE} {h : Hh}, (∀ a, c ≠ .star a) → evArgs (Γ.at_ n) σ (c :: cs) h = Ro.bd ((Γ.at_ n).e σ c h) fun t h => Ro.bd (evArgs (Γ.at_ n) σ cs h) fun ts h => some (.ok (t :: ts) h) := fun {c cs h} hc => by
                      cases c <;> first | rfl | exact absurd rfl (hc _)
                    have two : ∀ {ts : List T} {h' : Hh}, evArgs (Γ.at_ n) σ [c1, c2] hh = some (.ok ts h') → ∃ t u, ts = [t, u] := fun {ts h'} e => by
                      rw [step (hc h5.1)] at e
                      cases e2 : (Γ.at_ n).e σ c1 hh with
                      | none => rw [e2] at e; cases e
                      | some y => cases y with
                        | ex => rw [e2] at e; cases e
                        | ok t h2 =>
                          rw [e2] at e
                          simp only [Ro.bd_ok] at e
                          rw [step (hc h5.2)] at e
                          cases e3 : (Γ.at_ n).e σ c2 h2 with
                          | none => rw [e3] at e; cases e
                          | some y => cases y with
                            | ex => rw [e3] at e; cases e
                            | ok u h3 => rw [e3] at e; cases e; exact ⟨t, u, rfl⟩
                    refine ⟨Z, φ, hh, σ, r, s, ?_⟩
                    show Post Γ W σv (TVs Γ) Z φ H (evArgs (Γ.at_ n) σ [c1, c2] hh) _
                    cases e2 : evArgs (Γ.at_ n) σ [c1, c2] hh with
                    | none => rw [e2] at p; exact p
                    | some y => cases y with
                      | ex c fs h' => rw [e2] at p; exact p
                      | ok ts h' =>
                        rw [e2] at p
                        obtain ⟨t, u, rfl⟩ := two e2
                        intro Z1 φ1 H1 vs le r1 tv
                        cases tv with
                        | cons a1 a2 =>
                          cases a2 with
                          | cons a2 a3 =>
                            cases a3
                            cases t with
                            | int i =>
                              cases u with
                              | int j =>
                                cases a1
                                cases a2
                                have p : Post Γ W σv (Wk Γ b) Z φ H (if smallI i && smallI j then some (.ok (rangeL i (j - i).toNat) h') else none) R := p
                                split at p
                                · rename_i hj
                                  obtain ⟨j1, j2⟩ := ba2 hj
                                  obtain ⟨b1, b2⟩ := smallI_iff j1
                                  obtain ⟨b3, b4⟩ := smallI_iff j2
                                  exact ⟨i, j, rfl, ⟨b1, b2, b3, b4⟩, p Z1 φ1 H1 _ le r1 (wk_rng i (j - i).toNat)⟩
                                · exact p.elim
                              | _ => exact p.elim
                            | _ => exact p.elim
            · simp at h3
        | _ => exact absurd h (by simp [ckIt])
      | _ => exact absurd h (by simp [ckIt])
    | ienm a =>
      cases e with
      | Call fe es ks pos =>
        cases fe with
        | Name x xp =>
          rcases es with _ | ⟨e1, _ | ⟨e2, es⟩⟩
          · exact absurd h (by simp [ckIt])
          · cases ks with
            | cons => exact absurd h (by simp [ckIt])
            | nil =>
              have h : (decide (x = ("enumerate" : Str)) && glB X.env.scope x && isTupE tg && notStar e1 && ck Γ.nms X.N k false X.env.scope e1 a) = true := h
              obtain ⟨h, h5⟩ := ba2 h
              obtain ⟨h, h4⟩ := ba2 h
              obtain ⟨h, h3⟩ := ba2 h
              obtain ⟨h1, h2⟩ := ba2 h
              have hx := of_decide_eq_true h1
              subst hx
              have G1 := glB_ok h2
              have hmg : X.mg ("enumerate" : Str) = none := by rw [gd.mg]; exact wd.enm
              refine ⟨?_, rfl⟩
              cases tg with
              | Tuple elts kk tpos =>
                refine pi_weaken (pi_enumA G1 hmg (pa_cons (ck_W gd L b h5) pa_nil (starEach_cons h4)) (starEach_cons h4)) fun σv H R q => ?_
                have q : rdI Γ b W (fun σ h => Ro.bd (evW (Γ.at_ n) b σ a h) fun t h => (match seqF t with
                  | some (_, l) => some (.ok (enumL 0 l) h)
                  | none => none)) σv H R := q
                refine (rd_bd (rel := TB Γ b) q).mono fun x H1 ⟨Z1, φ1, h1, σ, t, r1, s1, w1, q1⟩ => ?_
                cases e1 : seqF t with
                | none => rw [e1] at q1; exact q1.elim
                | some kl =>
                  obtain ⟨kk, l⟩ := kl
                  rw [e1] at q1
                  obtain ⟨a, vs, rfl, c⟩ := sq_of gd w1.1 e1
                  refine ⟨a, vs, rfl, ?_⟩
                  rcases c with ⟨rfl, c⟩ | ⟨rfl, c⟩
                  · exact .inr ⟨c, q1 Z1 φ1 H1 _ .refl r1 (wk_enumT gd.K r1 w1 e1)⟩
                  · exact .inl ⟨c, q1 Z1 φ1 H1 _ .refl r1 (wk_enumL gd.K r1 w1 e1)⟩
              | _ => cases h3
          · exact absurd h (by simp [ckIt])
        | _ => exact absurd h (by simp [ckIt])
      | _ => exact absurd h (by simp [ckIt])
    | izip a a2 =>
      cases e with
      | Call fe es ks pos =>
        cases fe with
        | Name x xp =>
          rcases es with _ | ⟨e1, _ | ⟨e2, _ | ⟨e3, es⟩⟩⟩
          · exact absurd h (by simp [ckIt])
          · exact absurd h (by simp [ckIt])
          · cases ks with
            | cons => exact absurd h (by simp [ckIt])
            | nil =>
              have h : (decide (x = ("zip" : Str)) && glB X.env.scope x && isTupE tg && notStar e1 && notStar e2 && ck Γ.nms X.N k false X.env.scope e1 a && ck Γ.nms X.N k false X.env.scope e2 a2) = true := h
              obtain ⟨h, h7⟩ := ba2 h
              obtain ⟨h, h6⟩ := ba2 h
              obtain ⟨h, h5⟩ := ba2 h
              obtain ⟨h, h4⟩ := ba2 h
              obtain ⟨h, h3⟩ := ba2 h
              obtain ⟨h1, h2⟩ := ba2 h
              have hx := of_decide_eq_true h1
              subst hx
              have G1 := glB_ok h2
              have hmg : X.mg ("zip" : Str) = none := by rw [gd.mg]; exact wd.zip
              refine ⟨?_, rfl⟩
              cases tg with
              | Tuple elts kk tpos =>
                refine pi_weaken (RZ.pi_zipA G1 hmg (pa_cons (ck_W gd L b h6) (pa_cons (ck_W gd L b h7) pa_nil (starEach_cons h5)) (starEach_cons h4)) (starEach_cons h4) (by rw [starEach_cons h5] <;> rfl)) fun σv H R q => ?_
                have q : rdI Γ b W (fun σ h => Ro.bd (evW (Γ.at_ n) b σ a h) fun t h => Ro.bd (evW (Γ.at_ n) b σ a2 h) fun u h => (match seqF t, seqF u with
                  | some (x, l), some (y, m) => if x == y then some (.ok (zipL l m) h) else none
                  | _, _ => none)) σv H R := q
                refine (rd_bd (rel := TB Γ b) q).mono fun x H1 ⟨Z1, φ1, h1, σ, t, r1, s1, w1, q1⟩ => ⟨Z1, φ1, h1, σ, r1, s1, (Post.bd (rel := TB Γ b) q1).mono fun y H2 ⟨Z2, φ2, h2, u, le2, r2, w2, q2⟩ => ?_⟩
                have w1 := w1.later r1 (le2.b r1)
                cases e1 : seqF t with
                | none => rw [e1] at q2; exact q2.elim
                | some kl =>
                  cases e2 : seqF u with
                  | none => rw [e1, e2] at q2; exact q2.elim
                  | some km =>
                    obtain ⟨kk, l⟩ := kl
                    obtain ⟨kk2, mm⟩ := km
                    rw [e1, e2] at q2
                    dsimp only at q2
                    split at q2
                    · rename_i hkk
                      have hkk := beq_iff_eq.mp hkk
                      subst hkk
                      obtain ⟨a, vs, rfl, c⟩ := sq_of gd w1.1 e1
                      obtain ⟨a', vs', rfl, c'⟩ := sq_of gd w2.1 e2
                      refine ⟨a, a', vs, vs', rfl, ?_⟩
                      rcases c with ⟨rfl, c⟩ | ⟨rfl, c⟩
                      · rcases c' with ⟨_, c'⟩ | ⟨k, _⟩
                        · exact .inr ⟨c, c', q2 Z2 φ2 H2 _ .refl r2 (wk_zipT gd.K r2 w1 w2 e1 e2)⟩
                        · cases k
                      · rcases c' with ⟨k, _⟩ | ⟨_, c'⟩
                        · cases k
                        · exact .inl ⟨c, c', q2 Z2 φ2 H2 _ .refl r2 (wk_zipL gd.K r2 w1 w2 e1 e2)⟩
                    · exact q2.elim
              | _ => cases h3
          · exact absurd h (by simp [ckIt])
        | _ => exact absurd h (by simp [ckIt])
      | _ => exact absurd h (by simp [ckIt])
    | _ => exact plain (fun σ h => rfl) h
end
end Ev
end
section
set_option Elab.async false
set_option linter.all false
set_option maxRecDepth 100000
set_option maxHeartbeats 1000000
/-! Ev, part Q: targets, comprehensions. -/
namespace Ev
open PySem PySem.Spec PyProof.Rows L2

section
variable {Γ : Gam} {Z : Addr → Prop} {φ : List Addr} {H : Hp} {h : Hh} {X : Cx} {W : WX} {n m : Nat}
theorem SR.set {σ : Sl} {σv : L2.St} (s : SR Γ Z φ H σ σv) (i : Nat) {v : V} {t : T} (w : TV Γ Z φ H v t) : SR Γ Z φ H (σ.set i (.val t)) (σv.set i (some v)) := by
  refine ⟨by rw [List.length_set, List.length_set, s.len], fun j x e => ?_, fun j k x y u e1 e2 h1 h2 e3 e4 => ?_⟩
  · by_cases hj : i = j
    · subst hj
      have hl : i < σ.length := by
        have := (List.getElem?_eq_some_iff.mp e).1
        simpa using this
      rw [List.getElem?_set_self hl] at e
      cases e
      exact ⟨some v, List.getElem?_set_self (by rw [← s.len]; exact hl), v, rfl, w⟩
    · rw [List.getElem?_set_ne hj] at e
      obtain ⟨o, e1, k⟩ := s.at_ j x e
      exact ⟨o, by rw [List.getElem?_set_ne hj]; exact e1, k⟩
  · have ne : ∀ (j : Nat) (x : SV), (σ.set i (.val t))[j]? = some x → x.held = true → i ≠ j := fun j x e hx hj => by
      subst hj
      have hl : i < σ.length := by
        have := (List.getElem?_eq_some_iff.mp e).1
        simpa using this
      rw [List.getElem?_set_self hl] at e
      cases e
      cases hx
    have n1 := ne j x e1 h1
    have n2 := ne k y e2 h2
    rw [List.getElem?_set_ne n1] at e1 e3
    rw [List.getElem?_set_ne n2] at e2 e4
    exact s.sep j k x y u e1 e2 h1 h2 e3 e4
theorem HF.set {b : Bs} {σ : Sl} {σv : L2.St} (f : HF b σ σv) (i : Nat) {o : Option V} {t : T} : HF b (σ.set i (.val t)) (σv.set i o) := ⟨fun j x p e hx ep => by
  by_cases hj : i = j
  · subst hj
    have hl : i < σ.length := by
      have := (List.getElem?_eq_some_iff.mp e).1
      simpa using this
    rw [List.getElem?_set_self hl] at e
    cases e
    cases hx
  · rw [List.getElem?_set_ne hj] at e ep
    exact f.h j x p e hx ep, f.c.set i rfl⟩
/-- nothing is known of the slot -/
theorem SR.no {σ : Sl} {σv : L2.St} (s : SR Γ Z φ H σ σv) (i : Nat) (o : Option V) : SR Γ Z φ H (σ.set i .no) (σv.set i o) := by
  refine ⟨by rw [List.length_set, List.length_set, s.len], fun j x e => ?_, fun j k x y u e1 e2 h1 h2 e3 e4 => ?_⟩
  · by_cases hj : i = j
    · subst hj
      have hl : i < σ.length := by
        have := (List.getElem?_eq_some_iff.mp e).1
        simpa using this
      rw [List.getElem?_set_self hl] at e
      cases e
      exact ⟨o, List.getElem?_set_self (by rw [← s.len]; exact hl), trivial⟩
    · rw [List.getElem?_set_ne hj] at e
      obtain ⟨o', e1, k⟩ := s.at_ j x e
      exact ⟨o', by rw [List.getElem?_set_ne hj]; exact e1, k⟩
  · have ne : ∀ (j : Nat) (x : SV), (σ.set i .no)[j]? = some x → x.held = true → i ≠ j := fun j x e hx hj => by
      subst hj
      have hl : i < σ.length := by
        have := (List.getElem?_eq_some_iff.mp e).1
        simpa using this
      rw [List.getElem?_set_self hl] at e
      cases e
      cases hx
    have n1 := ne j x e1 h1
    have n2 := ne k y e2 h2
    rw [List.getElem?_set_ne n1] at e1 e3
    rw [List.getElem?_set_ne n2] at e2 e4
    exact s.sep j k x y u e1 e2 h1 h2 e3 e4
theorem SR.wipe {σ : Sl} {σv : L2.St} (s : SR Γ Z φ H σ σv) : ∀ ws : List Nat, SR Γ Z φ H (wipeS σ ws) (L2.wipe σv ws)
  | [] => s
  | i :: ws => (SR.wipe s ws).no i none
theorem wipe_get (σ : L2.St) (j : Nat) : ∀ ws : List Nat, (L2.wipe σ ws)[j]? = if j ∈ ws then (σ[j]?).map (fun _ => none) else σ[j]?
  | [] => by simp [L2.wipe]
  | i :: ws => by
    unfold L2.wipe
    by_cases hj : i = j
    · subst hj
      by_cases hl : i < σ.length
      · rw [List.getElem?_set_self (by rw [wipe_length]; exact hl), if_pos List.mem_cons_self, List.getElem?_eq_getElem hl] <;> rfl
      · rw [List.getElem?_eq_none (by rw [List.length_set, wipe_length]; omega), if_pos List.mem_cons_self, List.getElem?_eq_none (by omega)] <;> rfl
    · rw [List.getElem?_set_ne hj, wipe_get σ j ws]
      by_cases hm : j ∈ ws
      · rw [if_pos hm, if_pos (List.mem_cons_of_mem _ hm)]
      · rw [if_neg hm, if_neg (by simp [hm, Ne.symm hj])]
theorem wipe_of {σ σ2 : L2.St} {ws : List Nat} (hl : σ2.length = σ.length) (h : ∀ j, j ∉ ws → σ2[j]? = σ[j]?) : L2.wipe σ2 ws = L2.wipe σ ws := by
  apply List.ext_getElem?
  intro j
  rw [wipe_get, wipe_get]
  by_cases hm : j ∈ ws
  · rw [if_pos hm, if_pos hm]
    by_cases hj : j < σ.length
    · rw [List.getElem?_eq_getElem hj, List.getElem?_eq_getElem (by omega)] <;> rfl
    · rw [List.getElem?_eq_none (by omega), List.getElem?_eq_none (by omega)]
  · rw [if_neg hm, if_neg hm]
    exact h j hm

/-! ### targets -/
def setV (tg : Tg) (v : V) (vs : List V) (σv : L2.St) : L2.St := match tg with
  | .nm i => σv.set i (some v)
  | .tup is => (is.zip vs).foldl (fun σ p => σ.set p.1 (some p.2)) σv
def Tg.idx : Tg → List Nat
  | .nm i => [i]
  | .tup is => is
def gsOf : List Nat → TGs
  | [] => gNil
  | i :: is => gCons (gName i) (gsOf is)
/-- what a store to the target is -/
def gOf (K : PySem.W.Frag) (tg : Tg) : TG := match tg with
  | .nm i => gName i
  | .tup is => gTup K is.length (gsOf is)
/-- the parts of a tuple that a target takes apart -/
def TgP (Γ : Gam) (Z : Addr → Prop) (φ : List Addr) (H : Hp) (tg : Tg) (t : T) (vs : List V) (σ σ' : Sl) : Prop := match tg, t with
  | .nm _, _ => True
  | .tup is, .tup l => TVs Γ Z φ H vs l ∧ l.length = is.length ∧ σ' = (is.zip l).foldl (fun σ p => σ.set p.1 (.val p.2)) σ
  | _, _ => False
theorem ckTgN_ok {sc : Scope} {e : Expr} {i : Nat} (h : ckTgN X.N sc e i = true) : ∃ x p, e = .Name x p ∧ X.N[i]? = some x ∧ locB sc x = true := by
  cases e with
  | Name x p =>
    obtain ⟨h1, h2⟩ := ba2 h
    exact ⟨x, p, rfl, of_decide_eq_true h1, h2⟩
  | _ => cases h
theorem assign_names {env : Env} : ∀ {es : List Expr}, (∀ e ∈ es, ∃ x p, e = Expr.Name x p) → (assignEach es env).length = es.length ∧ (assignEach es env).findIdx? (·.1) = none
  | [], _ => ⟨rfl, rfl⟩
  | e :: es, h => by
    obtain ⟨x, p, rfl⟩ := h e List.mem_cons_self
    obtain ⟨h1, h2⟩ := assign_names (env := env) (es := es) fun e he => h e (List.mem_cons_of_mem _ he)
    refine ⟨?_, ?_⟩
    · show (assignEach es env).length + 1 = es.length + 1
      rw [h1]
    · show List.findIdx? (·.1) ((false, _) :: assignEach es env) = none
      rw [List.findIdx?_cons, h2] <;> rfl
theorem gs_len : ∀ {f : Expr → Nat → Bool} {es : List Expr} {is : List Nat}, all2 f es is = true → es.length = is.length
  | _, [], [], _ => rfl
  | _, _ :: _, _ :: _, h => by rw [List.length_cons, List.length_cons, gs_len (ba2 h).2]
  | _, [], _ :: _, h => by cases h
  | _, _ :: _, [], h => by cases h
theorem ck_G (gd : Gd Γ n X W) {sc : Scope} (hl : ∀ x, locB sc x = true → L2.Loc X.env.scope x ∧ (X.fn x = true ∨ X.env.scope.names.lookup x = some .local)) {e : Expr} {tg : Tg} (h : ckTg X.N sc e tg = true) : PG X e (gOf X.K tg) := by
  cases tg with
  | nm i =>
    obtain ⟨x, p, rfl, hi, hx⟩ := ckTgN_ok h
    obtain ⟨l1, l2⟩ := hl x hx
    exact pg_name gd.nd hi l1 l2
  | tup is =>
    cases e with
    | Tuple es kk pos =>
      have h : all2 (ckTgN X.N sc) es is = true := h
      have names : ∀ (es : List Expr) (is : List Nat), all2 (ckTgN X.N sc) es is = true → (∀ e ∈ es, ∃ x p, e = Expr.Name x p) ∧ PGs X es (gsOf is) := by
        intro es
        induction es with
        | nil =>
          intro is h
          cases is with
          | nil => exact ⟨fun e he => (by cases he), pgs_nil⟩
          | cons => cases h
        | cons e es ih =>
          intro is h
          cases is with
          | nil => cases h
          | cons i is =>
            obtain ⟨h1, h2⟩ := ba2 h
            obtain ⟨x, p, rfl, hi, hx⟩ := ckTgN_ok h1
            obtain ⟨l1, l2⟩ := hl x hx
            obtain ⟨a1, a3⟩ := ih is h2
            refine ⟨fun e he => ?_, pgs_cons (pg_name gd.nd hi l1 l2) a3⟩
            rcases List.mem_cons.mp he with rfl | he
            · exact ⟨x, p, rfl⟩
            · exact a1 e he
      obtain ⟨a1, a3⟩ := names es is h
      obtain ⟨b1, b2⟩ := assign_names (env := X.env) a1
      exact pg_tup gd.calm a3 (by rw [b1, gs_len h]) b2
    | _ => cases h
theorem gs_run : ∀ (is : List Nat) (vs : List V) (σv : L2.St) (H : Hp) (Q : L2.St → Hp → Prop), vs.length = is.length → Q ((is.zip vs).foldl (fun σ p => σ.set p.1 (some p.2)) σv) H → gsOf is vs σv H Q
  | [], [], _, _, _, _, q => ⟨rfl, q⟩
  | [], _ :: _, _, _, _, hl, _ => by cases hl
  | _ :: _, [], _, _, _, hl, _ => by cases hl
  | i :: is, v :: vs, σv, H, Q, hl, q => ⟨v, vs, rfl, gs_run is vs (σv.set i (some v)) H Q (by simpa using hl) q⟩
theorem gOf_run {tg : Tg} {v : V} {t : T} {σ σ' : Sl} {σv : L2.St} {Q : L2.St → Hp → Prop} (w : TV Γ Z φ H v t) (es1 : setTg tg t σ = some σ') (q : ∀ vs, TgP Γ Z φ H tg t vs σ σ' → Q (setV tg v vs σv) H) : gOf Γ.K tg v σv H Q := by
  cases tg with
  | nm i => exact q [] trivial
  | tup is =>
    cases t with
    | tup l =>
      have es1 : (if l.length = is.length then some ((is.zip l).foldl (fun σ p => σ.set p.1 (.val p.2)) σ) else none) = some σ' := es1
      split at es1
      · rename_i hll
        cases es1
        cases w with
        | tup x y =>
          rename_i a vs
          exact ⟨a, vs, rfl, x.sq, by rw [y.length, hll], gs_run is vs σv H Q (by rw [y.length, hll]) (q vs ⟨y, hll, rfl⟩)⟩
      · cases es1
    | _ => cases es1
theorem SR.setMany {σ : Sl} {σv : L2.St} (s : SR Γ Z φ H σ σv) : ∀ (is : List Nat) (l : List T) (vs : List V), TVs Γ Z φ H vs l → ∀ {σ : Sl} {σv : L2.St}, SR Γ Z φ H σ σv → SR Γ Z φ H ((is.zip l).foldl (fun σ p => σ.set p.1 (.val p.2)) σ) ((is.zip vs).foldl (fun σ p => σ.set p.1 (some p.2)) σv)
  | [], _, _, _, _, _, s => s
  | _ :: _, _, _, .nil, _, _, s => s
  | i :: is, _, _, .cons a b, _, _, s => SR.setMany s is _ _ b (s.set i a)
theorem SR.setTg {tg : Tg} {v : V} {t : T} {vs : List V} {σ σ' : Sl} {σv : L2.St} (s : SR Γ Z φ H σ σv) (w : TV Γ Z φ H v t) (e : Ev.setTg tg t σ = some σ') (k : TgP Γ Z φ H tg t vs σ σ') : SR Γ Z φ H σ' (setV tg v vs σv) := by
  cases tg with
  | nm i => cases e; exact s.set i w
  | tup is =>
    cases t with
    | tup l =>
      obtain ⟨tv, _, rfl⟩ := k
      exact SR.setMany s is l vs tv s
    | _ => exact k.elim
theorem foldl_set_len {α : Type} : ∀ (l : List (Nat × V)) (σv : L2.St), (l.foldl (fun σ p => σ.set p.1 (some p.2)) σv).length = σv.length
  | [], _ => rfl
  | p :: l, σv => by
    rw [List.foldl_cons, foldl_set_len (α := α) l, List.length_set]
theorem foldl_set_out : ∀ (is : List Nat) (vs : List V) (σv : L2.St) (j : Nat), j ∉ is → ((is.zip vs).foldl (fun σ p => σ.set p.1 (some p.2)) σv)[j]? = σv[j]?
  | [], _, _, _, _ => rfl
  | _ :: _, [], _, _, _ => rfl
  | i :: is, v :: vs, σv, j, hj => by
    rw [List.zip_cons_cons, List.foldl_cons, foldl_set_out is vs _ j fun z => hj (List.mem_cons_of_mem _ z)]
    exact List.getElem?_set_ne (fun z => hj (by rw [← z]; exact List.mem_cons_self))
theorem setV_len (tg : Tg) (v : V) (vs : List V) (σv : L2.St) : (setV tg v vs σv).length = σv.length := by
  cases tg with
  | nm i => exact List.length_set ..
  | tup is => exact foldl_set_len (α := Nat) _ _
theorem setV_out (tg : Tg) (v : V) (vs : List V) (σv : L2.St) (j : Nat) (hj : j ∉ tg.idx) : (setV tg v vs σv)[j]? = σv[j]? := by
  cases tg with
  | nm i => exact List.getElem?_set_ne (fun z => hj (by rw [← z]; exact List.mem_singleton.mpr rfl))
  | tup is => exact foldl_set_out is vs σv j hj
theorem HF.setTg {b : Bs} {tg : Tg} {v : V} {t : T} {vs : List V} {σ σ' : Sl} {σv : L2.St} (f : HF b σ σv) (e : Ev.setTg tg t σ = some σ') (k : TgP Γ Z φ H tg t vs σ σ') : HF b σ' (setV tg v vs σv) := by
  cases tg with
  | nm i => cases e; exact f.set i
  | tup is =>
    cases t with
    | tup l =>
      obtain ⟨tv, _, rfl⟩ := k
      have go : ∀ (is : List Nat) (l : List T) (vs : List V), TVs Γ Z φ H vs l → ∀ {σ : Sl} {σv : L2.St}, HF b σ σv → HF b ((is.zip l).foldl (fun σ p => σ.set p.1 (.val p.2)) σ) ((is.zip vs).foldl (fun σ p => σ.set p.1 (some p.2)) σv) := by
        intro is
        induction is with
        | nil => intro l vs _ σ σv f; exact f
        | cons i is ih =>
          intro l vs tv σ σv f
          cases tv with
          | nil => exact f
          | cons a b => exact ih _ _ b (f.set i)
      exact go is l vs tv f
    | _ => exact k.elim
end
end Ev
end
section
set_option Elab.async false
set_option linter.all false
set_option maxRecDepth 100000
set_option maxHeartbeats 1000000
/-! Ev, part R: comprehensions. -/
namespace Ev
open PySem PySem.Spec PyProof.Rows L2

abbrev W0 : WX := fun _ _ _ _ => False
theorem noFold_set {e : Expr} (h : noFold e = true) (env : Env) (x : Value) : foldedSetIterable e env x = pure x := by
  cases e <;> first | rfl | cases h
section
variable {Γ : Gam} {Z : Addr → Prop} {φ : List Addr} {H : Hp} {h : Hh} {X : Cx} {W : WX} {n m : Nat}
theorem gd_blk (gd : Gd Γ n X W) (ho : hasOwn X.env.scope = true) (s : Shared) (H : Hp) (scope : Scope) (C : Addr) (cl : List (Str × Addr)) (fp : List Addr) : Gd Γ n (X.blk s H scope (compEnvC scope cl C X.env) fp) W0 :=
  ⟨gd.K, gd.prog, gd.w, gd.mg, gd.base, gd.nd, gd.room, LamX.takes0, gd.calm, fun t ti h1 h2 _ => gd.lam t ti h1 h2 ho⟩
/-- a step of which no exception leaves, the base kept -/
theorem Post.bdB {α β γ δ : Type} {σv : L2.St} {rel : (Addr → Prop) → List Addr → Hp → β → α → Prop} {rel2 : (Addr → Prop) → List Addr → Hp → δ → γ → Prop} {mm : Ro α} {f : α → Hh → Ro γ} {Q : δ → Hp → Prop} {Z0 : Addr → Prop} {φ0 : List Addr} {H0 : Hp} {σ2 : L2.St}
    (p : Post Γ W σv rel2 Z0 φ0 H0 (Ro.bd (noEx mm) f) Q) : Post Γ W0 σ2 rel Z φ H mm (fun b H1 => ∃ (Z1 : Addr → Prop) (φ1 : List Addr) (h1 : Hh) (a : α), Le Z φ H Z1 φ1 H1 ∧ R Γ Z1 φ1 H1 h1 ∧ rel Z1 φ1 H1 b a ∧ Post Γ W σv rel2 Z0 φ0 H0 (f a h1) Q) := by
  cases mm with
  | none => exact p
  | some x => cases x with
    | ok a h => exact fun Z1 φ1 H1 b le r rr => ⟨Z1, φ1, h, a, le, r, rr, p⟩
    | ex c fs h => exact p.elim
theorem Ro.bd_assoc {α β γ : Type} (mm : Ro α) (f : α → Hh → Ro β) (g : β → Hh → Ro γ) : Ro.bd (Ro.bd mm f) g = Ro.bd mm fun a h => Ro.bd (f a h) g := by
  cases mm with
  | none => rfl
  | some x => cases x <;> rfl
/-- tests of a clause -/
theorem ck_ifs (wd : WdF Γ) (fa : FnAll Γ n) (L : LvE Γ n) (gd : Gd Γ (n + 1) X W) {k : Nat} {ifs' : List Expr} {ifs : List CE} (h1 : ifs.length ≤ 1) (h2 : all2 (ck Γ.nms X.N k true X.env.scope) ifs' ifs = true) : PTs X ifs' (rdB Γ W fun σ h => evIfs Γ.G (Γ.at_ n) σ ifs h) := by
  match ifs', ifs, h1, h2 with
  | [], [], _, _ => exact ⟨fun pins s σv H Q I q => pts_nil.run pins s σv H Q I (by obtain ⟨Z, φ, hh, σ, r, sr, p⟩ := q; exact p Z φ H true .refl r rfl)⟩
  | [e], [c], _, h2 => exact pts_one (ck_T (k := 50) wd fa L gd (by simpa [all2] using h2))
  | [], [_], _, h2 => cases h2
  | _ :: _, [], _, h2 => cases h2
  | _ :: _ :: _, [_], _, h2 => simp [all2] at h2
  | _, _ :: _ :: _, h1, _ => simp at h1
theorem wipe_wipe (σ : L2.St) (ws : List Nat) : L2.wipe (L2.wipe σ ws) ws = L2.wipe σ ws := wipe_of (wipe_length σ ws) fun j hj => wipe_out hj
/-- what a comprehension's reading asks -/
theorem lc_read (gd : Gd Γ (n + 1) X W) {el it : CE} {tg : Tg} {ifs : List CE} {ws : List Nat} (hidx : ∀ i ∈ tg.idx, i ∈ ws) {σv : L2.St} {H : Hp} {Q : VK}
    (q : rdL Γ W (fun σ h => evL Γ.G (Γ.at_ n) σ (.comp el tg it ifs ws) h) σv H Q) : tLc (rdI Γ true W fun σ h => evIt (Γ.at_ n) true σ it h) (gOf X.K tg) (rdB Γ W0 fun σ h => evIfs Γ.G (Γ.at_ n) σ ifs h) (rdE Γ W0 fun σ h => (Γ.at_ n).e σ el h) ws σv H Q := by
  obtain ⟨Z, φ, hh, σ, r, s, p⟩ := q
  have p : Post Γ W σv (OL Γ H) Z φ H (Ro.bd (evIt (Γ.at_ n) true σ it hh) fun l h => if l.length ≤ big then
      compL tg (fun σ h => noEx (evIfs Γ.G (Γ.at_ n) σ ifs h)) (fun σ h => Ro.bd (noEx ((Γ.at_ n).e σ el h)) fun t h => some (.ok [t] h)) (wipeS σ ws) l h else none) Q := p
  refine ⟨Z, φ, hh, σ, r, s, (Post.bd (rel := Wk Γ true) p).mono fun J H1 ⟨Z1, φ1, h1, l, le1, r1, wk, q1⟩ D hD => ?_⟩
  split at q1
  · rename_i hbig
    have s1 := s.mono r le1
    refine ⟨fun i mm Hi => mm = l.length - i ∧ i ≤ l.length ∧ ∃ (Zi : Addr → Prop) (φi : List Addr) (hi : Hh) (va : List V) (acc : List T), Le Z1 φ1 H1 Zi φi Hi ∧ R Γ Zi φi Hi hi ∧ Hi D = some (.lst va) ∧ TVs Γ Zi φi Hi va acc ∧ ¬ Zi D ∧ D ∉ φi ∧ acc.length ≤ i ∧
      Post Γ W σv (OL Γ H) Z1 φ1 H1 (Ro.bd (compL tg (fun σ h => noEx (evIfs Γ.G (Γ.at_ n) σ ifs h)) (fun σ h => Ro.bd (noEx ((Γ.at_ n).e σ el h)) fun t h => some (.ok [t] h)) (wipeS σ ws) (l.drop i) hi) fun us h => some (.ok (acc ++ us) h)) Q, ?_, ?_⟩
    · have nzD : ¬ Z1 D := fun z => by obtain ⟨_, o, e⟩ := r1.dz D z; rw [hD] at e; cases e
      refine ⟨l.length, by omega, Nat.zero_le _, Z1, φ1, h1, [], [], Le.held hD, r1.held hD, upd_same, .nil, nzD, r1.notin hD, Nat.le_refl _, ?_⟩
      rw [List.drop_zero]
      cases e : compL tg (fun σ h => noEx (evIfs Γ.G (Γ.at_ n) σ ifs h)) (fun σ h => Ro.bd (noEx ((Γ.at_ n).e σ el h)) fun t h => some (.ok [t] h)) (wipeS σ ws) l h1 with
      | none => rw [e] at q1; exact q1
      | some y => cases y with
        | ok us h2 => rw [e] at q1; exact q1
        | ex => rw [e] at q1; exact q1
    · rintro i mm Hi ⟨rfl, hile, Zi, φi, hhi, va, acc, le, ri, eD, tacc, nzD, npD, hacc, pp⟩
      have D0 : H D = none := r.none_of le1 r1 hD
      by_cases hlt : i < l.length
      · refine .inr ⟨wk.go i Zi φi Hi hhi (le.b r1) ri hlt, fun H' => l.length - (i + 1) = l.length - (i + 1) ∧ i + 1 ≤ l.length ∧ ∃ (Zi : Addr → Prop) (φi : List Addr) (hi : Hh) (va : List V) (acc : List T), Le Z1 φ1 H1 Zi φi H' ∧ R Γ Zi φi H' hi ∧ H' D = some (.lst va) ∧ TVs Γ Zi φi H' va acc ∧ ¬ Zi D ∧ D ∉ φi ∧ acc.length ≤ i + 1 ∧
          Post Γ W σv (OL Γ H) Z1 φ1 H1 (Ro.bd (compL tg (fun σ h => noEx (evIfs Γ.G (Γ.at_ n) σ ifs h)) (fun σ h => Ro.bd (noEx ((Γ.at_ n).e σ el h)) fun t h => some (.ok [t] h)) (wipeS σ ws) (l.drop (i + 1)) hi) fun us h => some (.ok (acc ++ us) h)) Q,
          fun H' p' => ⟨l.length - (i + 1), by omega, p'⟩, fun x H' y => ?_⟩
        have hget : l[i]? = some l[i] := List.getElem?_eq_getElem hlt
        obtain ⟨Z2, le2, r2, tx⟩ := wk.yld i l[i] Zi φi Hi hhi x H' (le.b r1) ri hget y
        have hdrop : l.drop i = l[i] :: l.drop (i + 1) := (List.drop_eq_getElem_cons hlt)
        rw [hdrop] at pp
        have pp : Post Γ W σv (OL Γ H) Z1 φ1 H1 (Ro.bd (match setTg tg l[i] (wipeS σ ws) with
          | none => none
          | some σ' => Ro.bd (noEx (evIfs Γ.G (Γ.at_ n) σ' ifs hhi)) fun b h => if b then Ro.bd (Ro.bd (noEx ((Γ.at_ n).e σ' el h)) fun t h => some (.ok [t] h)) fun u h => Ro.bd (compL tg (fun σ h => noEx (evIfs Γ.G (Γ.at_ n) σ ifs h)) (fun σ h => Ro.bd (noEx ((Γ.at_ n).e σ el h)) fun t h => some (.ok [t] h)) (wipeS σ ws) (l.drop (i + 1)) h) fun us h => some (.ok (u ++ us) h)
            else compL tg (fun σ h => noEx (evIfs Γ.G (Γ.at_ n) σ ifs h)) (fun σ h => Ro.bd (noEx ((Γ.at_ n).e σ el h)) fun t h => some (.ok [t] h)) (wipeS σ ws) (l.drop (i + 1)) h) fun us h => some (.ok (acc ++ us) h)) Q := pp
        cases est : setTg tg l[i] (wipeS σ ws) with
        | none => rw [est] at pp; exact pp.elim
        | some σ' =>
          rw [est] at pp
          dsimp only at pp
          have sw : SR Γ Z2 φi H' (wipeS σ ws) (L2.wipe σv ws) := ((s1.mono r1 le).mono ri le2).wipe ws
          rw [gd.K]
          refine gOf_run tx est fun vs tp => ⟨?_, ?_⟩
          · have : L2.wipe (setV tg x vs (L2.wipe σv ws)) ws = L2.wipe (L2.wipe σv ws) ws := wipe_of (setV_len _ _ _ _) fun j hj => setV_out _ _ _ _ j fun hm => hj (hidx j hm)
            rw [this, wipe_wipe]
          · have s3 := sw.setTg tx est tp
            have le12 := le.trans le2
            rw [Ro.bd_assoc] at pp
            refine ⟨Z2, φi, hhi, σ', r2, s3, (Post.bdB (rel := fun _ _ _ b a => b = a) pp).mono fun b H3 ⟨Z3, φ3, h3, b', le3, r3, eb, q3⟩ => ?_⟩
            subst eb
            obtain ⟨eD2, zD2, npD2⟩ := le2.kp D _ eD npD
            obtain ⟨eD3, zD3, npD3⟩ := le3.kp D _ eD2 npD2
            have tacc3 := (tacc.mono ri le2).mono r2 le3
            cases b with
            | false =>
              refine ⟨rfl, hlt, Z3, φ3, h3, va, acc, le12.trans le3, r3, eD3, tacc3, fun z => nzD (zD2.mp (zD3.mp z)), npD3, by omega, q3⟩
            | true =>
              have q3 : Post Γ W σv (OL Γ H) Z1 φ1 H1 (Ro.bd (Ro.bd (Ro.bd (noEx ((Γ.at_ n).e σ' el h3)) fun t h => some (.ok [t] h)) fun u h => Ro.bd (compL tg (fun σ h => noEx (evIfs Γ.G (Γ.at_ n) σ ifs h)) (fun σ h => Ro.bd (noEx ((Γ.at_ n).e σ el h)) fun t h => some (.ok [t] h)) (wipeS σ ws) (l.drop (i + 1)) h) fun us h => some (.ok (u ++ us) h)) fun us h => some (.ok (acc ++ us) h)) Q := q3
              rw [Ro.bd_assoc, Ro.bd_assoc] at q3
              refine ⟨Z3, φ3, h3, σ', r3, s3.mono r2 le3, (Post.bdB (rel := TV Γ) q3).mono fun yv H4 ⟨Z4, φ4, h4, t, le4, r4, tt, q4⟩ => ?_⟩
              obtain ⟨eD4, zD4, npD4⟩ := le4.kp D _ eD3 npD3
              have tacc4 := tacc3.mono r3 le4
              have leT := (le12.trans le3).trans le4
              have q4 : Post Γ W σv (OL Γ H) Z1 φ1 H1 (Ro.bd (Ro.bd (compL tg (fun σ h => noEx (evIfs Γ.G (Γ.at_ n) σ ifs h)) (fun σ h => Ro.bd (noEx ((Γ.at_ n).e σ el h)) fun t h => some (.ok [t] h)) (wipeS σ ws) (l.drop (i + 1)) h4) fun us h => some (.ok ([t] ++ us) h)) fun us h => some (.ok (acc ++ us) h)) Q := q4
              rw [Ro.bd_assoc] at q4
              have nzD4 : ¬ Z4 D := fun z => nzD (zD2.mp (zD3.mp (zD4.mp z)))
              have hlen := tacc4.length
              refine ⟨va, eD4, by have := big_lt hbig; omega, rfl, hlt, Z4, φ4, h4, va ++ [yv], acc ++ [t], ?_, ?_, upd_same, ?_, nzD4, npD4, by simp; omega, ?_⟩
              · exact ⟨leT.pf, fun a o e na => by
                  obtain ⟨e1, e2, e3⟩ := leT.kp a o e na
                  have ne : a ≠ D := ne_of_none e hD
                  exact ⟨by rw [upd_ne ne]; exact e1, e2, e3⟩⟩
              · exact ⟨r4.nd, r4.len, fun a z => by
                  obtain ⟨e1, o, e2⟩ := r4.dz a z
                  have ne : a ≠ D := fun e => nzD4 (e ▸ z)
                  exact ⟨e1, o, by rw [upd_ne ne]; exact e2⟩, fun nn mo a e1 e2 => by
                  have ne : a ≠ D := fun e => npD4 (e ▸ List.mem_of_getElem? e2)
                  exact (r4.ok nn mo a e1 e2).monoZ ⟨fun _ _ h => h, fun b z => ⟨z, upd_ne fun e => nzD4 (e ▸ z)⟩⟩ (upd_ne ne)⟩
              · have lz : LeZ Z4 φ4 H4 Z4 φ4 (upd H4 D (.lst (va ++ [yv]))) := ⟨fun _ _ h => h, fun b z => ⟨z, upd_ne fun e => nzD4 (e ▸ z)⟩⟩
                exact (tacc4.monoZ lz).app (.cons (tt.monoZ lz) .nil)
              · have e2 : (fun (us : List T) (h : Hh) => (some (Rs.ok (acc ++ [t] ++ us) h) : Ro (List T))) = fun us h => Ro.bd (some (Rs.ok ([t] ++ us) h)) fun us h => some (Rs.ok (acc ++ us) h) := by
                  funext us h
                  simp [List.append_assoc]
                rw [e2]
                exact q4
      · have e : i = l.length := by omega
        subst e
        refine .inl ⟨wk.stop _ Zi φi Hi hhi (le.b r1) ri (Nat.le_refl _), ?_⟩
        rw [List.drop_length] at pp
        have pp : Post Γ W σv (OL Γ H) Z1 φ1 H1 (some (.ok (acc ++ []) hhi)) Q := pp
        rw [List.append_nil] at pp
        exact pp Zi φi Hi _ le ri ⟨D, va, rfl, eD, tacc, nzD, npD, D0⟩
  · exact q1.elim
/-- [el for tg in it if ..] -/
theorem l_comp (gd : Gd Γ (n + 1) X W) (ho : hasOwn X.env.scope = true) (wd : WdF Γ) (fa : FnAll Γ n) (L : LvE Γ n) {k : Nat} {el' tg' it' : Expr} {ifs' : List Expr} {scope : Scope} {pos : Pos} {el it : CE} {tg : Tg} {ifs : List CE} {ws : List Nat}
    (hb : blkC X.N X.env.scope scope (ws.map fun i => (X.N.getD i Str.empty, i)) = true) (hi : PI X tg' it' (rdI Γ true W fun σ h => evIt (Γ.at_ n) true σ it h)) (hf : noFold it' = true) (htg : ckTg X.N scope tg' tg = true) (hidx : ∀ i ∈ tg.idx, i ∈ ws)
    (h1 : ifs.length ≤ 1) (h2 : all2 (ck Γ.nms X.N k true (relS scope X.env.scope)) ifs' ifs = true) (hel : ck Γ.nms X.N k false (relS scope X.env.scope) el' el = true) :
    PE X (.ListComp el' [⟨tg', it', ifs', 0⟩] scope pos) (rdL Γ W fun σ h => evL Γ.G (Γ.at_ n) σ (.comp el tg it ifs ws) h) := by
  have ok := blkOk_by hb
  have hown : (ws.map fun i => (X.N.getD i Str.empty, i)).map (·.2) = ws := by rw [List.map_map]; exact List.map_id ws
  have hloc : ∀ {s : Shared} {H : Hp} {C : Addr} {cl : List (Str × Addr)} {fp : List Addr} (x : Str), locB scope x = true → L2.Loc (X.blk s H scope (compEnvC scope cl C X.env) fp).env.scope x ∧ ((X.blk s H scope (compEnvC scope cl C X.env) fp).fn x = true ∨ (X.blk s H scope (compEnvC scope cl C X.env) fp).env.scope.names.lookup x = some .local) := fun {s H C cl fp} x hx => by
    have esc : (X.blk s H scope (compEnvC scope cl C X.env) fp).env.scope = relS scope X.env.scope := rfl
    rw [esc]
    rcases locB_ok hx with e | e
    · have e2 : (relS scope X.env.scope).names.lookup x = some .local := lookup_relS_keep (by decide) e
      exact ⟨.inl e2, .inr e2⟩
    · have e2 : (relS scope X.env.scope).names.lookup x = some .cell := lookup_relS_keep (by decide) e
      refine ⟨.inr e2, .inl ?_⟩
      show (scope.names.lookup x == some .cell) = true
      rw [e] <;> rfl
  have hlc := pe_lc (X := X) (tt := rdB Γ W0 fun σ h => evIfs Γ.G (Γ.at_ n) σ ifs h) (te := rdE Γ W0 fun σ h => (Γ.at_ n).e σ el h) (g := gOf X.K tg) gd.calm gd.nd hi ok
    (fun s H C cl fp => ck_G ((gd_blk gd ho s H scope C cl fp).down (Nat.le_succ n)) (fun x hx => hloc x hx) htg)
    (fun s H C cl fp => ck_ifs wd fa L (gd_blk gd ho s H scope C cl fp) h1 h2)
    (fun s H C cl fp => L _ _ ((gd_blk gd ho s H scope C cl fp).down (Nat.le_succ n)) k el' el hel) (pos := pos) (noFold_set hf X.env)
  rw [hown] at hlc
  exact pe_weaken hlc fun σv H Q q => lc_read gd hidx q
/-- x = [..] on one line, x a local -/
theorem s_setLc (gd : Gd Γ (n + 1) X W) (ho : hasOwn X.env.scope = true) (wd : WdF Γ) (fa : FnAll Γ n) (L : LvE Γ n) {k : Nat} {el' tg' it' : Expr} {ifs' : List Expr} {scope : Scope} {pos : Pos} {el it : CE} {tg : Tg} {ifs : List CE} {ws : List Nat}
    (hb : blkC X.N X.env.scope scope (ws.map fun i => (X.N.getD i Str.empty, i)) = true) (hi : PI X tg' it' (rdI Γ true W fun σ h => evIt (Γ.at_ n) true σ it h)) (hf : noFold it' = true) (htg : ckTg X.N scope tg' tg = true) (hidx : ∀ i ∈ tg.idx, i ∈ ws)
    (h1 : ifs.length ≤ 1) (h2 : all2 (ck Γ.nms X.N k true (relS scope X.env.scope)) ifs' ifs = true) (hel : ck Γ.nms X.N k false (relS scope X.env.scope) el' el = true) {i : Nat} {y : Str} {py spos : Pos} (hy : X.N[i]? = some y) (hyl : X.env.scope.names.lookup y = some .local) (hsw : swapsWith (.ListComp el' [⟨tg', it', ifs', 0⟩] scope pos) (some (.Name y py)) spos.line X.env = pure true) :
    PS X (.Assign [.Name y py] (.ListComp el' [⟨tg', it', ifs', 0⟩] scope pos) spos) (tAsg (rdL Γ W fun σ h => evL Γ.G (Γ.at_ n) σ (.comp el tg it ifs ws) h) (gName i)) := by
  have ok := blkOk_by hb
  have hown : (ws.map fun i => (X.N.getD i Str.empty, i)).map (·.2) = ws := by rw [List.map_map]; exact List.map_id ws
  have hloc : ∀ {s : Shared} {H : Hp} {C : Addr} {cl : List (Str × Addr)} {fp : List Addr} (x : Str), locB scope x = true → L2.Loc (X.blk s H scope (compEnvC scope cl C X.env) fp).env.scope x ∧ ((X.blk s H scope (compEnvC scope cl C X.env) fp).fn x = true ∨ (X.blk s H scope (compEnvC scope cl C X.env) fp).env.scope.names.lookup x = some .local) := fun {s H C cl fp} x hx => by
    have esc : (X.blk s H scope (compEnvC scope cl C X.env) fp).env.scope = relS scope X.env.scope := rfl
    rw [esc]
    rcases locB_ok hx with e | e
    · have e2 : (relS scope X.env.scope).names.lookup x = some .local := lookup_relS_keep (by decide) e
      exact ⟨.inl e2, .inr e2⟩
    · have e2 : (relS scope X.env.scope).names.lookup x = some .cell := lookup_relS_keep (by decide) e
      refine ⟨.inr e2, .inl ?_⟩
      show (scope.names.lookup x == some .cell) = true
      rw [e] <;> rfl
  have hlc := ps_setLc (X := X) (tt := rdB Γ W0 fun σ h => evIfs Γ.G (Γ.at_ n) σ ifs h) (te := rdE Γ W0 fun σ h => (Γ.at_ n).e σ el h) (g := gOf X.K tg) gd.calm gd.nd hy hyl hsw hi ok
    (fun s H C cl fp => ck_G ((gd_blk gd ho s H scope C cl fp).down (Nat.le_succ n)) (fun x hx => hloc x hx) htg)
    (fun s H C cl fp => ck_ifs wd fa L (gd_blk gd ho s H scope C cl fp) h1 h2)
    (fun s H C cl fp => L _ _ ((gd_blk gd ho s H scope C cl fp).down (Nat.le_succ n)) k el' el hel) (noFold_set hf X.env)
  rw [hown] at hlc
  exact ⟨fun pins s σ H D I q => hlc.run pins s σ H D I (lc_read gd hidx q)⟩
end
end Ev
end
section
set_option Elab.async false
set_option linter.all false
set_option maxRecDepth 100000
set_option maxHeartbeats 1000000
/-! Ev, part S: calls. -/
namespace Ev
open PySem PySem.Spec PyProof.Rows L2

theorem noSuper_base {o : Expr} (h : noSuper o = true) (attr : Str) (env : Env) (whole : Sem Value) : attributeBase o attr env whole = whole := by
  have k : ∀ {id : Str} {p pos : Pos}, (id == ("super" : Str)) = false → attributeBase (.Call (.Name id p) [] [] pos) attr env whole = whole := fun {id p pos} hid => by
    unfold attributeBase
    have e : (id != ("super" : Str)) = true := by unfold bne; rw [hid] <;> rfl
    simp only [e, Bool.true_or, if_true]
    first | done | exact bind_pure whole
  cases o with
  | Call f args kws pos =>
    cases f with
    | Name id p =>
      cases args with
      | nil =>
        cases kws with
        | nil => exact k (by simpa [noSuper] using h)
        | cons => rfl
      | cons => rfl
    | _ => rfl
  | _ => rfl
theorem mcall_of {prog : Program} {w : World} {A : Around} {E : Value → Shared → Prop} {s : Shared} {env : Env} {o : Expr} {name : Str} {apos pos : Pos} {es : List Expr} {ks : List Keyword} {Q : Value → Shared → Prop} (hb : noSuper o = true)
    (hfew : methodCallForm (es.length + ks.length) (backTo pos (starEach es env)) (backToKw pos (keywordEach ks env)) = true) (hline : (apos.endLine == pos.line) = true)
    (h : wpAny (model prog w) A (eval o env) (fun ov s₁ => ∀ pl, wpAny (model prog w) A (getMethod ov name pl) (fun fx s₂ => wpAny (model prog w) A (callWith pos fx.1 fx.2 (backTo pos (starEach es env)) (backToKw pos (keywordEach ks env))) Q E s₂) E s₁) E s) :
    wpAny (model prog w) A (eval (.Call (.Attribute o name apos) es ks pos) env) Q E s := by
  rw [arm_eval_Call, noSuper_base hb]
  refine wpAny_bind (wpAny_mono h (fun ov s₁ h₁ => ?_) fun _ _ e => e)
  refine wpAny_bind (wpAny_standAt ?_)
  have hpos : methodCallPos true o env apos pos = pure pos := by unfold methodCallPos; simp [hline]
  unfold methodCall
  rw [hfew]
  refine wpAny_bind (wpAny_holding (wpAny_mono (h₁ _) (fun fx s₂ h₂ => ?_) fun _ _ e => e))
  exact wpAny_bind (wpAny_of_eq hpos h₂)
theorem few_of {env : Env} {pos : Pos} {es : List Expr} {ks : List Keyword} (h1 : es.all notStar = true) (h2 : (backToKw pos (keywordEach ks env)).all (·.1.isSome) = true) (h3 : es.length + ks.length < 29) : methodCallForm (es.length + ks.length) (backTo pos (starEach es env)) (backToKw pos (keywordEach ks env)) = true := by
  unfold methodCallForm
  have e1 : (backTo pos (starEach es env)).all (fun x => !x.1) = true := by
    have := any_plain (env := env) (pos := pos) h1
    rw [List.all_eq_true]
    intro x hx
    cases e : x.1 with
    | false => rfl
    | true =>
      have : (backTo pos (starEach es env)).any (·.1) = true := List.any_eq_true.mpr ⟨x, hx, e⟩
      rw [any_plain h1] at this
      cases this
  rw [e1, h2]
  simp only [Bool.true_and, decide_eq_true_eq]
  split <;> omega

section
variable {Γ : Gam} {Z : Addr → Prop} {φ : List Addr} {H : Hp} {h : Hh} {X : Cx} {W : WX} {n m : Nat}
theorem keep_ref {f : Value} (h : PySem.W.keepIn X.K f = true) : ∀ (hp : Heap), X.K.In hp → ∃ k, (k = Keeper.frame ∨ k = Keeper.machine ∨ k = Keeper.boundFrame) ∧ PySem.W.Looks (model X.prog X.w) hp (keeperOf f) k := fun hp k => PySem.W.keeps_K h hp k
theorem keep_bi (id : String) : ∀ (hp : Heap), X.K.In hp → ∃ k, (k = Keeper.frame ∨ k = Keeper.machine ∨ k = Keeper.boundFrame) ∧ PySem.W.Looks (model X.prog X.w) hp (keeperOf (.builtin id)) k := fun hp k => ⟨.machine, .inr (.inl rfl), PySem.W.Looks.of_pure rfl⟩
theorem keep_ty (id : String) : ∀ (hp : Heap), X.K.In hp → ∃ k, (k = Keeper.frame ∨ k = Keeper.machine ∨ k = Keeper.boundFrame) ∧ PySem.W.Looks (model X.prog X.w) hp (keeperOf (.type id)) k := fun hp k => ⟨.machine, .inr (.inl rfl), PySem.W.Looks.of_pure rfl⟩
/-- a call of a name of the module, by values -/
theorem s_callG (gd : Gd Γ (n + 1) X W) (L : LvE Γ n) {k : Nat} {x : Str} {u : Value} {p pos : Pos} {es : List Expr} {ks : List Keyword} {args : List CE} {kws : List (Nat × CE)} (hck : ckCall Γ.nms X.N k X.env.scope es ks args kws = true)
    (hld : ∀ (pins : List (Addr × Obj)) (s : Shared) (σ : L2.St) (H : Hp) (Q : Value → Shared → Prop), Inv X pins σ H s → Q u s → wpAny (model X.prog X.w) X.A (eval (.Name x p) X.env) Q X.xe s)
    (hk : ∀ (hp : Heap), X.K.In hp → ∃ k, (k = Keeper.frame ∨ k = Keeper.machine ∨ k = Keeper.boundFrame) ∧ PySem.W.Looks (model X.prog X.w) hp (keeperOf u) k) {F : List T → List (Nat × T) → Hh → Ro T}
    (cont : ∀ (pins : List (Addr × Obj)) (s' : Shared) (σv : L2.St) (us : List Value) (kv : List (Str × Value)) (vs : List V) (ts : List T) (kt : List (Nat × T)) (Z' : Addr → Prop) (φ' : List Addr) (H' : Hp) (h' : Hh) (Q : VK), Inv X pins σv H' s' → Vals vs us → R Γ Z' φ' H' h' → TVs Γ Z' φ' H' vs ts → KRel Γ Z' φ' H' kv kt → (kws = [] → kv = []) →
      Post Γ W σv (TV Γ) Z' φ' H' (F ts kt h') Q → wpAny (model X.prog X.w) X.A (call u us kv) (EP X pins σv Q) X.xe s') :
    PE X (.Call (.Name x p) es ks pos) (rdE Γ W fun σ h => Ro.bd (evArgs (Γ.at_ n) σ args h) fun ts h => Ro.bd (evKws (Γ.at_ n) σ kws h) fun ks h => F ts ks h) := by
  refine ⟨fun pins s σv H Q I q => ?_⟩
  obtain ⟨Z, φ, hh, σ, r, sr, pp⟩ := q
  refine wpAny_Call_Name_kw (hld pins s σv H _ I ?_)
  exact s_callWith (gd.down (Nat.le_succ n)) L hck I r sr pp hk fun us kv vs ts kt Z' φ' H' h' s' I' rv le r' tv kr hkv p' => cont pins s' σv us kv vs ts kt Z' φ' H' h' Q I' rv r' tv kr hkv p'
theorem s_fn (gd : Gd Γ (n + 1) X W) (gl : GlF Γ) (L : LvE Γ n) (fa : FnAll Γ n) {k g f : Nat} {p pos : Pos} {es : List Expr} {ks : List Keyword} {args : List CE} {kws : List (Nat × CE)} (hg : Γ.G.gl g = some (.fn f)) (hG : Gl X (Γ.gn g)) (hd : (Γ.gn g == ("__debug__" : Str)) = false) (hck : ckCall Γ.nms X.N k X.env.scope es ks args kws = true) :
    PE X (.Call (.Name (Γ.gn g) p) es ks pos) (rdE Γ W fun σ h => Ro.bd (evArgs (Γ.at_ n) σ args h) fun ts h => Ro.bd (evKws (Γ.at_ n) σ kws h) fun ks h => callF Γ.G (Γ.at_ n) f ts ks h) := by
  obtain ⟨h1, h2⟩ := gl g _ hg
  exact s_callG gd L hck (fun pins s σ H Q I q => ld_glob I hG (by rw [gd.mg]; exact h1) q hd) (keep_ref (by rw [gd.K]; exact h2)) fun pins s' σv us kv vs ts kt Z' φ' H' h' Q I' rv r' tv kr _ p' => call_fn gd (Nat.le_succ n) fa I' rv r' tv kr p'
theorem s_cls (gd : Gd Γ (n + 1) X W) (wd : WdF Γ) (gl : GlF Γ) (L : LvE Γ n) (fi : FiAll Γ n) {k g c : Nat} {p pos : Pos} {es : List Expr} {ks : List Keyword} {args : List CE} {kws : List (Nat × CE)} (hg : Γ.G.gl g = some (.cls c)) (hG : Gl X (Γ.gn g)) (hd : (Γ.gn g == ("__debug__" : Str)) = false) (hck : ckCall Γ.nms X.N k X.env.scope es ks args kws = true) :
    PE X (.Call (.Name (Γ.gn g) p) es ks pos) (rdE Γ W fun σ h => Ro.bd (evArgs (Γ.at_ n) σ args h) fun ts h => Ro.bd (evKws (Γ.at_ n) σ kws h) fun ks h => makeC Γ.G (Γ.at_ n) c ts ks h) := by
  obtain ⟨h1, h2⟩ := gl g _ hg
  refine s_callG gd L hck (fun pins s σ H Q I q => ld_glob I hG (by rw [gd.mg]; exact h1) q hd) (keep_ref (by rw [gd.K]; exact h2)) fun pins s' σv us kv vs ts kt Z' φ' H' h' Q I' rv r' tv kr _ p' => ?_
  unfold makeC at p'
  cases hc : Γ.G.cl c with
  | none => rw [hc] at p'; exact p'.elim
  | some kk =>
    rw [hc] at p'
    dsimp only at p'
    split at p'
    · cases hi : kk.init with
      | none => rw [hi] at p'; exact p'.elim
      | some f =>
        rw [hi] at p'
        dsimp only at p'
        cases hf : Γ.G.fn f with
        | none => rw [hf] at p'; exact p'.elim
        | some d =>
          rw [hf] at p'
          dsimp only at p'
          split at p'
          · rename_i bs hb
            exact call_make gd fi (by rw [gd.K]; exact (wd.cl c kk hc).init f hi) hf I' rv r' tv kr hb p'
          · exact p'.elim
    · exact p'.elim
theorem nodup_at : ∀ {l : List Addr}, l.Nodup → ∀ {i j : Nat} {a : Addr}, l[i]? = some a → l[j]? = some a → i = j
  | [], _, i, j, a, h, _ => by simp at h
  | x :: l, nd, 0, 0, a, _, _ => rfl
  | x :: l, nd, 0, j + 1, a, h1, h2 => by
    simp at h1 h2
    subst h1
    exact absurd (List.mem_of_getElem? h2) (List.nodup_cons.mp nd).1
  | x :: l, nd, i + 1, 0, a, h1, h2 => by
    simp at h1 h2
    subst h2
    exact absurd (List.mem_of_getElem? h1) (List.nodup_cons.mp nd).1
  | x :: l, nd, i + 1, j + 1, a, h1, h2 => congrArg (· + 1) (nodup_at (List.nodup_cons.mp nd).2 (i := i) (j := j) (a := a) (by simpa using h1) (by simpa using h2))
/-- a cell changes -/
theorem R.cell_set (r : R Γ Z φ H h) {k : Nat} {a : Addr} {o : HO} {mo : MO} (hk : φ[k]? = Option.some a) (new : MOk Γ Z φ (upd H a o) a mo) : R Γ Z φ (upd H a o) (h.set k mo) := by
  have hm : a ∈ φ := List.mem_of_getElem? hk
  have zne : ∀ b, Z b → b ≠ a := fun b z e => (r.dz b z).1 (e ▸ hm)
  refine ⟨r.nd, by rw [List.length_set]; exact r.len, fun b z => ?_, fun j m b e1 e2 => ?_⟩
  · obtain ⟨n1, u, e⟩ := r.dz b z
    exact ⟨n1, u, by rw [upd_ne (zne b z)]; exact e⟩
  · by_cases hj : k = j
    · subst hj
      rw [hk] at e2
      cases e2
      have hl : k < h.length := by
        rw [← r.len]
        exact (List.getElem?_eq_some_iff.mp hk).1
      rw [List.getElem?_set_self hl] at e1
      cases e1
      exact new
    · rw [List.getElem?_set_ne hj] at e1
      have nb : b ≠ a := fun e => by
        subst e
        exact hj (nodup_at r.nd hk e2)
      exact (r.ok j m b e1 e2).monoZ ⟨fun _ _ h => h, fun c z => ⟨z, upd_ne (zne c z)⟩⟩ (upd_ne nb)
theorem Le.cell_set {k : Nat} {a : Addr} {o : HO} (hk : φ[k]? = some a) : Le Z φ H Z φ (upd H a o) :=
  ⟨fun _ _ h => h, fun b u eb nb => ⟨by rw [upd_ne (fun (z : b = a) => nb (by rw [z]; exact List.mem_of_getElem? hk))]; exact eb, Iff.rfl, nb⟩⟩
theorem cell_lst (r : R Γ Z φ H h) {v : V} {k : Nat} {l : List T} (w : TV Γ Z φ H v (.ref k)) (e : h[k]? = some (.lst l)) : ∃ a vs, v = .ref a ∧ φ[k]? = some a ∧ H a = some (.lst vs) ∧ TVs Γ Z φ H vs l := by
  cases w with
  | ref x =>
    have mk := r.ok _ _ _ e x
    cases mk with
    | lst h1 r1 => exact ⟨_, _, rfl, x, h1, r1⟩
theorem keepZ_cell (r : R Γ Z φ H h) {k : Nat} {a : Addr} {o : HO} (hk : φ[k]? = some a) : LeZ Z φ H Z φ (upd H a o) :=
  ⟨fun _ _ h => h, fun b z => ⟨z, upd_ne fun e => (r.dz b z).1 (e ▸ List.mem_of_getElem? hk)⟩⟩
theorem strsT_map : ∀ {l : List T} {ys : List Str} {vs : List V}, strsT l = some ys → TVs Γ Z φ H vs l → vs = ys.map V.str
  | [], _, _, e, .nil => by cases e; rfl
  | t :: l, ys, _, e, .cons x y => by
    cases t with
    | str z =>
      have e : (strsT l).map (z :: ·) = some ys := e
      cases e1 : strsT l with
      | none => rw [e1] at e; cases e
      | some js =>
        rw [e1] at e
        cases e
        cases x
        rw [strsT_map e1 y, List.map_cons]
    | _ => cases e
theorem blsT_map : ∀ {l : List T} {ys : List Bool} {vs : List V}, blsT l = some ys → TVs Γ Z φ H vs l → vs = ys.map V.bl
  | [], _, _, e, .nil => by cases e; rfl
  | t :: l, ys, _, e, .cons x y => by
    cases t with
    | bl z =>
      have e : (blsT l).map (z :: ·) = some ys := e
      cases e1 : blsT l with
      | none => rw [e1] at e; cases e
      | some js =>
        rw [e1] at e
        cases e
        cases x
        rw [blsT_map e1 y, List.map_cons]
    | _ => cases e
theorem tvs_strs : ∀ (ys : List Str), TVs Γ Z φ H (ys.map V.str) (ys.map T.str)
  | [] => .nil
  | y :: ys => .cons (.str y) (tvs_strs ys)
end
end Ev
end
section
set_option Elab.async false
set_option linter.all false
set_option maxRecDepth 100000
set_option maxHeartbeats 1000000
/-! Ev, part T: methods. -/
namespace Ev
open PySem PySem.Spec PyProof.Rows L2

/-- the built-in method -/
def bmId (k m : Nat) : String := match k, m with
  | 4, 11 => "list.append" | 4, 13 => "list.pop" | 4, 14 => "list.count" | 4, 15 => "list.index"
  | 3, 14 => "tuple.count" | 3, 15 => "tuple.index" | 2, 19 => "str.join" | 2, 20 => "str.split" | _, _ => ""
theorem bmOk_iff {k m : Nat} (h : bmOk k m = true) : (k = 4 ∧ m = 11) ∨ (k = 4 ∧ m = 13) ∨ (k = 4 ∧ m = 14) ∨ (k = 4 ∧ m = 15) ∨ (k = 3 ∧ m = 14) ∨ (k = 3 ∧ m = 15) ∨ (k = 2 ∧ m = 19) ∨ (k = 2 ∧ m = 20) := by
  unfold bmOk at h
  simp only [List.contains_cons, List.contains_nil, Bool.or_false, Bool.or_eq_true, beq_iff_eq, Prod.mk.injEq] at h
  exact h

section
variable {Γ : Gam} {Z : Addr → Prop} {φ : List Addr} {H : Hp} {h : Hh} {X : Cx} {W : WX} {n m : Nat} {pins : List (Addr × Obj)} {σv : L2.St} {s : Shared}
theorem tyK_cases {t : T} : (tyK h t = 2 ∧ ∃ x, t = .str x) ∨ (tyK h t = 3 ∧ ∃ l, t = .ptu l) ∨ (tyK h t = 4 ∧ ∃ l, seqOf h t = some (false, l)) ∨ tyK h t = 5 ∨ tyK h t = 0 := by
  cases t with
  | str x => exact .inl ⟨rfl, x, rfl⟩
  | ptu l => exact .inr (.inl ⟨rfl, l, rfl⟩)
  | lst l => exact .inr (.inr (.inl ⟨rfl, l, rfl⟩))
  | vl l => exact .inr (.inr (.inl ⟨rfl, l, rfl⟩))
  | ref a =>
    unfold tyK seqOf
    dsimp only
    cases hk : h[a]? with
    | none => exact .inr (.inr (.inr (.inr rfl)))
    | some mo => cases mo with
      | lst l => exact .inr (.inr (.inl ⟨rfl, l, rfl⟩))
      | dct => exact .inr (.inr (.inr (.inl rfl)))
      | ins => exact .inr (.inr (.inr (.inr rfl)))
      | gone => exact .inr (.inr (.inr (.inr rfl)))
      | tab => exact .inr (.inr (.inr (.inr rfl)))
  | _ => exact .inr (.inr (.inr (.inr rfl)))
theorem tyK_list {t : T} (e : tyK h t = 4) : ∃ (l : List T), seqOf h t = some (false, l) := by
  rcases tyK_cases (h := h) (t := t) with ⟨k, _⟩ | ⟨k, _⟩ | ⟨k, z⟩ | k | k <;> first | exact z | (rw [k] at e; cases e)
theorem tyK_tup {t : T} (e : tyK h t = 3) : ∃ l, t = .ptu l := by
  rcases tyK_cases (h := h) (t := t) with ⟨k, _⟩ | ⟨k, z⟩ | ⟨k, _⟩ | k | k <;> first | exact z | (rw [k] at e; cases e)
theorem tyK_str {t : T} (e : tyK h t = 2) : ∃ l, t = .str l := by
  rcases tyK_cases (h := h) (t := t) with ⟨k, z⟩ | ⟨k, _⟩ | ⟨k, _⟩ | k | k <;> first | exact z | (rw [k] at e; cases e)
/-- o.m of a built-in value -/
theorem bm_get (wd : WdF Γ) (gd : Gd Γ n X W) (r : R Γ Z φ H h) (I : Inv X pins σv H s) {v : V} {u : Value} {t : T} {m : Nat} {pl : Sem Bool} {Q : Value × List Value → Shared → Prop} {E : Value → Shared → Prop} (rv : RelV v u) (w : TW Γ Z φ H v t) (e : bmOk (tyK h t) m = true)
    (q : Q (.builtin (bmId (tyK h t) m), [u]) s) : wpAny (model X.prog X.w) X.A (getMethod u (Γ.nm m) pl) Q E s := by
  have lst : tyK h t = 4 → s.TypeIs u "list" ∧ ∀ a, u = .ref a → ∃ o, s.heap.get? a = some o ∧ o.dict = none := fun e4 => by
    obtain ⟨l, es⟩ := tyK_list e4
    obtain ⟨a, vs, rfl, _, c⟩ := seq_of r w es
    rcases c with ⟨k, _⟩ | ⟨_, c⟩
    · cases k
    cases rv
    obtain ⟨_, its, k, _, _, h1⟩ := I.lstM c
    exact ⟨⟨_, h1, rfl⟩, fun a e => by cases e; exact ⟨_, h1, rfl⟩⟩
  have tup : tyK h t = 3 → s.TypeIs u "tuple" ∧ ∀ a, u = .ref a → ∃ o, s.heap.get? a = some o ∧ o.dict = none := fun e3 => by
    obtain ⟨l, rfl⟩ := tyK_tup e3
    rcases w with w | ⟨_, _, _, _, k, _⟩
    · cases w with
      | ptu x y =>
        cases rv
        obtain ⟨_, o, ho, hd⟩ := x
        obtain ⟨h1, h2⟩ := (show ObjOk X.prog X.w H s.heap _ (.frz o (.tup _)) from I.hok _ _ ho)
        obtain ⟨_, its, _, o', h3, h4, _⟩ := (show ObjOk X.prog X.w H s.heap _ (.tup _) from h2)
        rw [h1] at h3
        cases h3
        exact ⟨⟨o, h1, h4⟩, fun a e => by cases e; exact ⟨o, h1, hd⟩⟩
    · cases k
  have str : tyK h t = 2 → s.TypeIs u "str" ∧ ∀ a, u = .ref a → ∃ o, s.heap.get? a = some o ∧ o.dict = none := fun e3 => by
    obtain ⟨l, rfl⟩ := tyK_str e3
    cases tw_str w
    obtain ⟨tt, rfl⟩ := rv
    exact ⟨typeIs_str _ _ _, fun a e => by cases e⟩
  rcases bmOk_iff e with ⟨e1, rfl⟩ | ⟨e1, rfl⟩ | ⟨e1, rfl⟩ | ⟨e1, rfl⟩ | ⟨e1, rfl⟩ | ⟨e1, rfl⟩ | ⟨e1, rfl⟩ | ⟨e1, rfl⟩ <;> rw [e1] at q
  · rw [show Γ.nm 11 = _ from wd.b11]; exact getMethod_builtin (lst e1).1 PySem.F.plainAttrs_list PySem.F.slot_list_append rfl (lst e1).2 q
  · rw [show Γ.nm 13 = _ from wd.b13]; exact getMethod_builtin (lst e1).1 PySem.F.plainAttrs_list PySem.F.slot_list_pop rfl (lst e1).2 q
  · rw [show Γ.nm 14 = _ from wd.b14]; exact getMethod_builtin (lst e1).1 PySem.F.plainAttrs_list PySem.F.slot_list_count rfl (lst e1).2 q
  · rw [show Γ.nm 15 = _ from wd.b15]; exact getMethod_builtin (lst e1).1 PySem.F.plainAttrs_list PySem.F.slot_list_index rfl (lst e1).2 q
  · rw [show Γ.nm 14 = _ from wd.b14]; exact getMethod_builtin (tup e1).1 PySem.F.plainAttrs_tuple PySem.F.slot_tuple_count rfl (tup e1).2 q
  · rw [show Γ.nm 15 = _ from wd.b15]; exact getMethod_builtin (tup e1).1 PySem.F.plainAttrs_tuple PySem.F.slot_tuple_index rfl (tup e1).2 q
  · rw [show Γ.nm 19 = _ from wd.b19]; exact getMethod_builtin (str e1).1 PySem.F.plainAttrs_str PySem.F.slot_str_join rfl (str e1).2 q
  · rw [show Γ.nm 20 = _ from wd.b20]; exact getMethod_builtin (str e1).1 PySem.F.plainAttrs_str PySem.F.slot_str_split rfl (str e1).2 q
/-- a cell's list is rewritten -/
theorem post_cell {k : Nat} {a : Addr} {l' : List T} {vs' : List V} {t : T} {v : V} {Q : VK} (r : R Γ Z φ H h) (hk : φ[k]? = some a) (tv' : TVs Γ Z φ H vs' l') (wt : TV Γ Z φ H v t)
    (p : Post Γ W σv (TV Γ) Z φ H (some (.ok t (h.set k (.lst l')))) Q) : Q v (upd H a (.lst vs')) :=
  p Z φ _ v (Le.cell_set hk) (r.cell_set hk (.lst upd_same (tv'.monoZ (keepZ_cell r hk)))) (wt.monoZ (keepZ_cell r hk))
theorem count_toD {n m : Nat} {a : T} (ha : okD n a = true) : ∀ (l : List T), okDs m l = true → ((toDs l).countP fun z => PyData.eqv z (toD a)) = l.countP fun z => eqB z a
  | [], _ => rfl
  | x :: xs, h => by
    simp only [okDs, Bool.and_eq_true] at h
    simp only [toDs, List.countP_cons]
    rw [eqv_toD m n x a h.1 ha, count_toD ha xs h.2]
theorem find_toD {n m : Nat} {a : T} (ha : okD n a = true) : ∀ (l : List T), okDs m l = true → ((toDs l).findIdx? fun z => PyData.eqv z (toD a)) = l.findIdx? fun z => eqB z a
  | [], _ => rfl
  | x :: xs, h => by
    simp only [okDs, Bool.and_eq_true] at h
    simp only [toDs, List.findIdx?_cons]
    rw [eqv_toD m n x a h.1 ha, find_toD ha xs h.2]
theorem cell_of {t : T} {k : Nat} {l : List T} (e : cellL h t = some (k, l)) : t = .ref k ∧ h[k]? = some (.lst l) := by
  unfold cellL at e
  cases t with
  | ref a =>
    dsimp only at e
    cases hk : h[a]? with
    | none => rw [hk] at e; cases e
    | some mo => cases mo with
      | lst l' => rw [hk] at e; cases e; exact ⟨rfl, hk⟩
      | _ => rw [hk] at e; cases e
  | _ => cases e
/-- the data that a count or an index looks at -/
theorem bm_data (hK : X.K = Γ.K) (I : Inv X pins σv H s) (r : R Γ Z φ H h) {v v2 : V} {u u2 : Value} {t t2 : T} {kk : Bool} {l : List T} (rv : RelV v u) (w : TW Γ Z φ H v t) (rv2 : RelV v2 u2) (w2 : TV Γ Z φ H v2 t2) (es : seqOf h t = some (kk, l)) (o1 : okD 8 t2 = true) (o2 : okDs 7 l = true) :
    ∃ (a : Addr) (its : List Value) (as bs : List Addr), u = .ref a ∧ its.length ≤ sizeLine ∧ ReadsAll s.heap its (toDs l) as ∧ Reads s.heap u2 (toD t2) bs ∧ ((kk = true ∧ IsTup s.heap a its.toArray) ∨ (kk = false ∧ s.heap.IsList a its.toArray)) := by
  obtain ⟨bs, r2⟩ := Dp.reads I _ _ _ (hK ▸ dp_of 8 w2 o1) rv2
  obtain ⟨a, vs, rfl, rr, c⟩ := seq_of r w es
  have dl := dps_of 7 rr o2
  rw [← hK] at dl
  cases rv
  rcases c with ⟨k, _, c⟩ | ⟨k, c⟩
  · rw [← hK] at c
    obtain ⟨its, rv, pl, hz⟩ := I.tuple c
    obtain ⟨as, h4⟩ := Dp.readsAll I _ _ its dl rv
    exact ⟨a, its, as, bs, rfl, by rw [← rv.length]; exact hz, h4, r2, .inl ⟨k, pl⟩⟩
  · obtain ⟨hz, its, n, rv, hl, h1⟩ := I.lstM c
    obtain ⟨as, h4⟩ := Dp.readsAll I _ _ its dl rv
    exact ⟨a, its, as, bs, rfl, by rw [← rv.length]; exact hz, h4, r2, .inr ⟨k, ⟨_, h1, rfl, n, rfl⟩⟩⟩
theorem len2 {n : Nat} (e : n = n) : True := trivial
/-- .. called -/
theorem bm_call (gd : Gd Γ (n + 1) X W) (r : R Γ Z φ H h) (I : Inv X pins σv H s) {v : V} {u : Value} {t : T} {m : Nat} {us : List Value} {vs : List V} {ts : List T} {Q : VK} (rv : RelV v u) (w : TW Γ Z φ H v t) (rvs : Vals vs us) (tv : TVs Γ Z φ H vs ts) (e : bmOk (tyK h t) m = true)
    (p : Post Γ W σv (TV Γ) Z φ H (bmT t m ts h) Q) : wpAny (model X.prog X.w) X.A (call (.builtin (bmId (tyK h t) m)) (u :: us)) (EP X pins σv Q) X.xe s := by
  have hu := gd.room.units
  have cnt : ∀ (id : String) (kk : Bool) (hid : (kk = true ∧ id = "tuple.count") ∨ (kk = false ∧ id = "list.count")), (∀ l k, seqOf h t = some (k, l) → k = kk) → Post Γ W σv (TV Γ) Z φ H (bCount t ts h) Q → wpAny (model X.prog X.w) X.A (call (.builtin id) (u :: us)) (EP X pins σv Q) X.xe s := fun id kk hid hkk p0 => by
    unfold bCount at p0
    split at p0
    · rename_i t2
      cases tv with
      | cons w2 tv => cases tv; cases rvs with
        | cons rv2 rvs =>
          cases rvs
          cases es : seqOf h t with
          | none => rw [es] at p0; exact p0.elim
          | some kl =>
            obtain ⟨k', l⟩ := kl
            rw [es] at p0
            dsimp only at p0
            split at p0
            · rename_i ok
              obtain ⟨o1, o2⟩ := ba2 ok
              obtain ⟨a, its, as, bs, rfl, hz, ra, rb, c⟩ := bm_data gd.K I r rv w rv2 w2 es o1 o2
              have e1 := hkk _ _ es
              subst e1
              have p1 := plain_toD 8 _ o1
              have p2 := plain_toDs 7 _ o2
              have q : Q (.int (((toDs l).countP fun y => PyData.eqv y (toD t2) : Nat) : Int)) H := by
                rw [count_toD o1 l o2]
                exact p0.ok r (.int _)
              rcases hid with ⟨rfl, rfl⟩ | ⟨rfl, rfl⟩
              · rcases c with ⟨_, ⟨o, h1, h2, k3, h3⟩⟩ | ⟨k, _⟩
                · exact PySem.SeqAt.count_tuple_data (vs := its.toArray) ⟨o, h1, h2, k3, h3⟩ (by simpa using ra) rb p2.1 p1.1 (by have := p1.2; omega) ⟨.int _, H, I.tok _, ⟨_, rfl⟩, q⟩
                · cases k
              · rcases c with ⟨k, _⟩ | ⟨_, c⟩
                · cases k
                · exact PySem.SeqAt.count_list_data (vs := its.toArray) c (by simpa using ra) rb p2.1 p1.1 (by have := p1.2; omega) ⟨.int _, H, I.tok _, ⟨_, rfl⟩, q⟩
            · exact p0.elim
    · exact p0.elim
  have idx : ∀ (id : String) (kk : Bool) (hid : (kk = true ∧ id = "tuple.index") ∨ (kk = false ∧ id = "list.index")), (∀ l k, seqOf h t = some (k, l) → k = kk) → Post Γ W σv (TV Γ) Z φ H (bIndex t ts h) Q → wpAny (model X.prog X.w) X.A (call (.builtin id) (u :: us)) (EP X pins σv Q) X.xe s := fun id kk hid hkk p0 => by
    unfold bIndex at p0
    split at p0
    · rename_i t2
      cases tv with
      | cons w2 tv => cases tv; cases rvs with
        | cons rv2 rvs =>
          cases rvs
          cases es : seqOf h t with
          | none => rw [es] at p0; exact p0.elim
          | some kl =>
            obtain ⟨k', l⟩ := kl
            rw [es] at p0
            dsimp only at p0
            split at p0
            · rename_i ok
              obtain ⟨o1, o2⟩ := ba2 ok
              split at p0
              · rename_i j hj
                obtain ⟨a, its, as, bs, rfl, hz, ra, rb, c⟩ := bm_data gd.K I r rv w rv2 w2 es o1 o2
                have e1 := hkk _ _ es
                subst e1
                have p1 := plain_toD 8 _ o1
                have p2 := plain_toDs 7 _ o2
                have ra' : ReadsAll s.heap its.toArray.toList (toDs l) as := by simpa using ra
                have hp : PySem.SeqAt.dataPlace (toDs l) (toD t2) = some j := (find_toD o1 l o2).trans hj
                obtain ⟨hjs, hit, hno⟩ := PySem.SeqAt.hit_at ra' p2.1 hp
                have eqs := PySem.SeqAt.items_plain (A := X.A) ra' rb p2.1 p1.1 (by have := p1.2; omega)
                have hjz : j < its.length := by simpa using hjs
                have q : Q (.int (j : Nat)) H := p0.ok r (.int _)
                have hsl := sizeLine_eq
                rcases hid with ⟨rfl, rfl⟩ | ⟨rfl, rfl⟩
                · rcases c with ⟨_, ⟨⟨cls, dd, data, sl⟩, h1, h2, k3, h3⟩⟩ | ⟨k, _⟩
                  · simp only at h2 h3
                    subst h2 h3
                    exact call_meets PySem.F.slot_tuple_index ⟨_, h1, rfl⟩ PySem.F.entry_tuple_index (PySem.F.args_tuple_index_2 _ _)
                      (PySem.SeqAt.tuple_index2_found a its.toArray k3 dd sl _ (fun j => if hj : j < its.toArray.size then PyData.eqv (PySem.SeqAt.readOf s.heap its.toArray[j]) (toD t2) else false) j hjs (Nat.zero_le _) hjs (by rw [dif_pos hjs]; exact hit) (fun m hm _ hmj => by rw [dif_pos hm]; exact hno m hm hmj))
                      ⟨h1, fun j hj => by rw [dif_pos hj]; exact eqs _ (Array.getElem_mem hj), ⟨.int _, H, I.tok _, ⟨_, rfl⟩, q⟩⟩
                  · cases k
                · rcases c with ⟨k, _⟩ | ⟨_, ⟨⟨cls, dd, data, sl⟩, h1, h2, k3, h3⟩⟩
                  · cases k
                  · simp only at h2 h3
                    subst h2 h3
                    exact call_meets PySem.F.slot_list_index ⟨_, h1, rfl⟩ PySem.F.entry_list_index (PySem.F.args_list_index_2 _ _)
                      (PySem.SeqAt.list_indexAt a its.toArray k3 dd sl _ (fun u => PyData.eqv (PySem.SeqAt.readOf s.heap u) (toD t2)) j hjs (by omega) hit hno)
                      ⟨h1, eqs, ⟨.int _, H, I.tok _, ⟨_, rfl⟩, q⟩⟩
              · exact p0.elim
            · exact p0.elim
    · exact p0.elim
  have lk : tyK h t = 4 → ∀ l k, seqOf h t = some (k, l) → k = false := fun e4 l k ek => by
    obtain ⟨l', e5⟩ := tyK_list e4
    rw [ek] at e5; cases e5; rfl
  have tk : tyK h t = 3 → ∀ l k, seqOf h t = some (k, l) → k = true := fun e4 l k ek => by
    obtain ⟨l', rfl⟩ := tyK_tup e4
    cases ek; rfl
  rcases bmOk_iff e with ⟨e1, rfl⟩ | ⟨e1, rfl⟩ | ⟨e1, rfl⟩ | ⟨e1, rfl⟩ | ⟨e1, rfl⟩ | ⟨e1, rfl⟩ | ⟨e1, rfl⟩ | ⟨e1, rfl⟩ <;> rw [e1]
  · show wpAny _ _ (call (.builtin "list.append") _) _ _ _
    replace p : Post Γ W σv (TV Γ) Z φ H (bAppend t ts h) Q := p
    unfold bAppend at p
    split at p
    · rename_i t2
      cases tv with
      | cons w2 tv => cases tv; cases rvs with
        | cons rv2 rvs =>
          cases rvs
          split at p
          · rename_i k l ec
            obtain ⟨rfl, hk⟩ := cell_of ec
            split at p
            · rename_i hb
              have w : TV Γ Z φ H v (.ref k) := w.elim id fun ⟨_, _, _, _, k, _⟩ => nomatch k
              obtain ⟨a, vs, rfl, hφ, hH, tl⟩ := cell_lst r w hk
              exact mt_append pins s σv H _ _ _ _ Q I rv (.cons rv2 .nil) ⟨a, vs, _, rfl, rfl, hH, by rw [tl.length]; have := big_lt (Nat.le_refl big); omega, post_cell r hφ (tl.app (.cons w2 .nil)) .non p⟩
            · exact p.elim
          · exact p.elim
    · exact p.elim
  · show wpAny _ _ (call (.builtin "list.pop") _) _ _ _
    replace p : Post Γ W σv (TV Γ) Z φ H (bPop t ts h) Q := p
    unfold bPop at p
    split at p
    · rename_i k l ec
      obtain ⟨rfl, hk⟩ := cell_of ec
      have w : TV Γ Z φ H v (.ref k) := w.elim id fun ⟨_, _, _, _, k, _⟩ => nomatch k
      obtain ⟨a, vs, rfl, hφ, hH, tl⟩ := cell_lst r w hk
      split at p
      · cases tv
        cases rvs
        split at p
        · rename_i t2 eg
          obtain ⟨y, ey, wy⟩ := tl.get eg
          rw [← tl.length] at ey
          exact mt_pop pins s σv H _ _ _ _ Q I rv .nil ⟨a, vs, y, rfl, rfl, hH, ey, post_cell r hφ tl.dropLast wy p⟩
        · exact p.elim
      · rename_i i
        cases tv with
        | cons w2 tv => cases tv; cases rvs with
          | cons rv2 rvs =>
            cases rvs
            cases w2
            split at p
            · rename_i hs
              obtain ⟨b1, b2⟩ := smallI_iff hs
              split at p
              · rename_i j hj
                split at p
                · rename_i t2 eg
                  obtain ⟨y, ey, wy⟩ := tl.get eg
                  rw [← tl.length] at hj
                  exact mt_popAt pins s σv H _ _ _ _ Q I rv (.cons rv2 .nil) ⟨a, vs, i, j, y, rfl, rfl, hH, by omega, by omega, (ixN_seq hj).1, ey, post_cell r hφ (tl.erase j) wy p⟩
                · exact p.elim
              · exact p.elim
            · exact p.elim
      · exact p.elim
    · exact p.elim
  · exact cnt _ false (.inr ⟨rfl, rfl⟩) (lk e1) p
  · exact idx _ false (.inr ⟨rfl, rfl⟩) (lk e1) p
  · exact cnt _ true (.inl ⟨rfl, rfl⟩) (tk e1) p
  · exact idx _ true (.inl ⟨rfl, rfl⟩) (tk e1) p
  · show wpAny _ _ (call (.builtin "str.join") _) _ _ _
    replace p : Post Γ W σv (TV Γ) Z φ H (bJoin t ts h) Q := p
    unfold bJoin at p
    split at p
    · rename_i x t2
      cases tv with
      | cons w2 tv => cases tv; cases rvs with
        | cons rv2 rvs =>
          cases rvs
          cases tw_str w
          split at p
          · rename_i kk l es
            split at p
            · rename_i ys ey
              split at p
              · rename_i hz
                obtain ⟨a, vs, rfl, tl, c⟩ := seq_sq r (.inl w2) es
                have ev := strsT_map ey tl
                subst ev
                rw [← gd.K] at c
                refine mt_join pins s σv H _ _ _ _ Q I rv (.cons rv2 .nil) ⟨x, a, ys, rfl, rfl, ?_, by have : big = 1000000 := rfl; omega, p.ok r (.str _)⟩
                rcases c with ⟨_, c⟩ | ⟨_, c⟩
                · exact .inr c
                · exact .inl c
              · exact p.elim
            · exact p.elim
          · exact p.elim
    · exact p.elim
  · show wpAny _ _ (call (.builtin "str.split") _) _ _ _
    replace p : Post Γ W σv (TV Γ) Z φ H (bSplit t ts h) Q := p
    unfold bSplit at p
    split at p
    · rename_i x y
      cases tv with
      | cons w2 tv => cases tv; cases rvs with
        | cons rv2 rvs =>
          cases rvs
          cases tw_str w
          cases w2
          split at p
          · rename_i hc
            obtain ⟨h1, h2⟩ := ba2 hc
            have h2 := of_decide_eq_true h2
            refine mt_split pins s σv H _ _ _ _ Q I rv (.cons rv2 .nil) ⟨x, y, rfl, rfl, by simpa using h1, by have : big = 1000000 := rfl; rw [sizeLine_eq]; omega, fun q hq => ?_⟩
            exact Post.lst r (tvs_strs _) hq p
          · exact p.elim
    · exact p.elim
end
end Ev
end
section
set_option Elab.async false
set_option linter.all false
set_option maxRecDepth 100000
set_option maxHeartbeats 1000000
/-! Ev, part U: calls of methods. -/
namespace Ev
open PySem PySem.Spec PyProof.Rows L2

theorem keep_fn {K : PySem.W.Frag} {f : Addr} (h : PySem.W.fnIn K f = true) : PySem.W.keepIn K (.ref f) = true := by
  unfold PySem.W.fnIn at h
  unfold PySem.W.keepIn
  dsimp only
  cases e : K.lookup f with
  | none => rw [e] at h; cases h
  | some o =>
    have e2 : List.lookup f K = some o := e
    rw [e] at h
    obtain ⟨a, b, c, d⟩ := o
    cases c <;> first | rfl | cases h
section
variable {Γ : Gam} {Z : Addr → Prop} {φ : List Addr} {H : Hp} {h : Hh} {X : Cx} {W : WX} {n m : Nat}
theorem noFld_of (wd : WdF Γ) (r : R Γ Z φ H h) {v : V} {t : T} {c : Nat} {m : Nat} (w : TW Γ Z φ H v t) (e : clsOf h t = some c) (hn : noFld h t m = true) :
    ∃ (a dx : Addr) (gs : List (Str × V)), v = .ref a ∧ H a = some (.ins (Γ.cA c) dx gs) ∧ gs.lookup (Γ.nm m) = none ∧ TV Γ Z φ H v t := by
  obtain ⟨a, dx, gs, fs, rfl, ea, tf, tv, c⟩ := inst_of r w e
  have hl : fs.lookup m = none := by
    rcases c with rfl | ⟨k, rfl, hk⟩
    · exact Option.isNone_iff_eq_none.mp hn
    · have hn : (match h[k]? with
        | some (MO.ins _ fs) => (fs.lookup m).isNone
        | _ => false) = true := hn
      rw [hk] at hn
      exact Option.isNone_iff_eq_none.mp hn
  rcases tfs_look wd.inj m tf with ⟨_, e2⟩ | ⟨t', v, e1, _⟩
  · exact ⟨a, dx, gs, rfl, ea, e2, tv⟩
  · rw [hl] at e1; cases e1
/-- o.m(..) -/
theorem s_meth (gd : Gd Γ (n + 1) X W) (wd : WdF Γ) (L : LvE Γ n) (fa : FnAll Γ n) {k : Nat} {o : Expr} {x : Str} {m : Nat} {ap pos : Pos} {es : List Expr} {ks : List Keyword} {oc : CE} {args : List CE} {kws : List (Nat × CE)} (hx : x = Γ.nm m) (hs : noSuper o = true) (ho : ck Γ.nms X.N k false X.env.scope o oc = true)
    (hck : ckCall Γ.nms X.N k X.env.scope es ks args kws = true) (hes : es.all notStar = true) (hfew : es.length + ks.length < 29) (hl : (ap.endLine == pos.line) = true) :
    PE X (.Call (.Attribute o x ap) es ks pos) (rdE Γ W fun σ h => evE Γ.G (Γ.at_ n) σ (.call (.attr oc m) args kws) h) := by
  subst hx
  have gd' := gd.down (Nat.le_succ n)
  refine ⟨fun pins s σv H Q I q => ?_⟩
  obtain ⟨Z, φ, hh, σ, r, sr, pp⟩ := q
  replace pp : Post Γ W σv (TV Γ) Z φ H (Ro.bd (evV (Γ.at_ n) σ oc hh) fun x h => if isClsT x then none else methE Γ.G (Γ.at_ n) σ x m args kws h) Q := pp
  have kwn := (kw_names (M := Γ.nms) (N := X.N) (sc := X.env.scope) (k := k - 1) (env := X.env) (pos := pos) (ks := ks) (kws := kws) (by
    cases k with
    | zero => cases hck
    | succ k => exact (ba2 (ba2 hck).1).2)).1
  refine mcall_of hs (few_of hes kwn hfew) hl (thn ((ck_V gd' L ho).run pins s σv H _ I ⟨Z, φ, hh, σ, r, sr, Post.bd (rel := TW Γ) pp⟩) fun u s1 ⟨y, H1, I1, ry, Z1, φ1, h1, t, le, r1, w1, q1⟩ pl => ?_)
  have sr1 := sr.mono r le
  split at q1
  · exact q1.elim
  unfold methE at q1
  cases e : ownM Γ.G h1 t m with
  | some f =>
    rw [e] at q1
    dsimp only at q1
    split at q1
    · rename_i hn
      obtain ⟨_, _, _, c, k', rfl, _, tv, ec, hc, C, M, hfn⟩ := own_meth wd r1 w1 e
      obtain ⟨a, dx, gs, ea, eH, el, _⟩ := noFld_of wd r1 w1 ec hn
      cases ea
      cases ry
      refine getmeth_ok I1 eH (gd.K ▸ C.cls) (gd.K ▸ M) el ?_
      exact s_callWith (F := fun ts ks h => callF Γ.G (Γ.at_ n) f (t :: ts) ks h) (first := [.ref _]) gd' L hck I1 r1 sr1 q1 (keep_ref (by rw [gd.K]; exact keep_fn hfn)) fun us kv vs ts kt Z' φ' H' h' s' I' rv le' r' tv' kr hkv p' =>
        call_fn gd (Nat.le_succ n) fa (us := .ref _ :: us) (vs := .ref _ :: vs) I' (.cons rfl rv) r' (.cons (tv.mono r1 le') tv') kr p'
    · exact q1.elim
  | none =>
    rw [e] at q1
    dsimp only at q1
    split at q1
    · rename_i hb
      obtain ⟨hk0, hb⟩ := ba2 hb
      cases kws with
      | cons => cases hk0
      | nil =>
        refine bm_get wd gd r1 I1 ry w1 hb ?_
        refine s_callWith (F := fun ts ks h' => if tyK h' t = tyK h1 t then bmT t m ts h' else none) (first := [u]) gd' L hck I1 r1 sr1 q1 (keep_bi _) fun us kv vs ts kt Z' φ' H' h' s' I' rv le' r' tv' kr hkv p' => ?_
        split at p'
        · rename_i ht
          rw [hkv rfl, ← ht]
          exact bm_call gd r' I' ry (w1.mono r1 le') rv tv' (by rw [ht]; exact hb) p'
        · exact p'.elim
    · exact q1.elim
end
end Ev
end
section
set_option Elab.async false
set_option linter.all false
set_option maxRecDepth 100000
set_option maxHeartbeats 4000000
/-! Ev, part Xi: the class of a caught exception that has fields. -/
namespace Ev
open PySem PySem.W PySem.Spec PySem.Calls PyProof.Rows
section
variable {prog : Program} {w : World} {A : Around} {E : Value → Shared → Prop} {s : Shared} {K : Frag} {x D : Addr} {ox : Obj} {odd : Option Obj}
theorem findObj_dataG {C : Addr} {name : Str} {a g : Value} (hc : (clsIn K C).isSome = true) (ha : findIn K (.ref C) name = some (some a)) (hg : specialIn K a "__get__" = some (some g)) (ht : takesIn K a = some true) : findObj K C odd name = some (.bind g a) := by
  obtain ⟨cd, hc⟩ := Option.isSome_iff_exists.mp hc
  unfold findObj
  rw [hc, Option.bind_some, ha, Option.bind_some]
  simp [hg, ht]
theorem kin_classG {Q : Option Value → Shared → Prop} (hga : findIn K (.ref D) "__getattribute__" = some (some (.builtin "BaseException.__getattribute__"))) (hgt : findIn K (.ref D) "__getattr__" = some none) (hsub : subIn K (.ref D) (.type "BaseException") = some true)
    (hdct : hasDictIn K D = true) (ha : findIn K (.ref D) "__class__" = some (some (.builtin "object.__class__")))
    (hn : specialIn K (.builtin "object.__class__") "__get__" = some (some (.builtin "getset_descriptor.__get__"))) (htk : takesIn K (.builtin "object.__class__") = some true) (hm : mroIn K D (.type "object") = some true)
    (X : K.In s.heap) (I : InstAt s.heap x ox D odd) (h : Q (some (.ref D)) { s with toks := s.toks + 1 }) : wpAny (model prog w) A (getAttr? (.ref x) "__class__") Q E s := by
  have hf : findObj K D odd "__class__" = some (.bind (.builtin "getset_descriptor.__get__") (.builtin "object.__class__")) := findObj_dataG (by obtain ⟨cd, hc, _⟩ := any_some hdct; rw [hc]; rfl) ha hn htk
  obtain ⟨hp, g, d, t, os⟩ := s
  have L0 := I.type (M := model prog w)
  have L1 := looks_findIn (M := model prog w) X hga
  have L2 := looks_findIn (M := model prog w) X hgt
  have L3 := looks_find (M := model prog w) X I hf
  have sub : Looks (model prog w) hp (isInstance (.ref x) (.type "BaseException")) true := L0.andThen (looks_subIn X hsub)
  have hx0 : (false && onTheHeap (Value.builtin "BaseException.__getattribute__")) = false := rfl
  have hx2 : (Value.builtin "BaseException.__getattribute__" == Value.builtin "object.__getattribute__") = false := by decide +kernel
  have hx1 : (onTheHeap (Value.ref D) && Value.builtin "BaseException.__getattribute__" == Value.builtin "object.__getattribute__") = false := by rw [hx2]; rfl
  unfold getAttr? getAttrBy? getAttrBy
  refine wpAny_bind (wpAny_mkText (wpAny_bind (wpAny_attempt (wpAny_holding (wpAny_bind (L0.at (wpAny_bind (L1.at ?_))))))))
  show wpAny _ _ (if (onTheHeap (Value.ref D) && Value.builtin "BaseException.__getattribute__" == Value.builtin "object.__getattribute__") = true then _ else _) _ _ _
  rw [hx1, if_neg Bool.false_ne_true]
  unfold getAttrByItsOwn hookBefore
  refine wpAny_bind ?_
  rw [if_pos (show onTheHeap (Value.ref D) = true from rfl)]
  refine L2.at ?_
  refine wpAny_bind (wpAny_attempt (wpAny_holding ?_))
  unfold callGetattribute
  rw [hx0, if_neg Bool.false_ne_true]
  unfold boundAndCalled
  rw [PySem.F.excAttr_ValueError.ga.bind (.ref x)]
  refine wpAny_bind (wpAny_pure ?_)
  show wpAny _ _ (call (.builtin "BaseException.__getattribute__") [.ref x, .str "__class__" t]) _ _ _
  refine wpAny_call (codeAny_call_builtin PySem.F.excAttr_ValueError.ga.plain PySem.F.entry_bexc_ga ?_)
  refine @check_slot (model prog w) _ _ ⟨hp, g, d, t + 1, os⟩ "BaseException.__getattribute__" "BaseException" "__getattribute__" (.ref x) [.str "__class__" t] [] _ (by decide +kernel) (by decide +kernel) sub (PySem.F.args_bexc_ga (.ref x) (.str "__class__" t)) ?_
  unfold Builtin.«object.__getattribute__»
  refine wpAny_bind (wpAny_of_eq (a := ((Value.ref x : Value), [Value.str "__class__" t])) (by first | rfl | (simp only [slotArgs]; rfl)) ?_)
  refine wpAny_bind (wpAny_pure (wpAny_bind (L0.at (wpAny_bind (L3.at ?_)))))
  show wpAny _ _ (holding [Value.builtin "object.__class__"] (call (.builtin "getset_descriptor.__get__") [.builtin "object.__class__", .ref x, .ref D]) >>= ret) _ _ _
  refine wpAny_bind (wpAny_holding (wpAny_call (class_get (s := ⟨hp, g, d, t + 1, os⟩) (ox := ox) (od := odd) X I hm ?_)))
  refine wpAny_pure ?_
  show wpAny _ _ (handedOut (.ref D)) _ _ _
  rw [handedOut_of (v := .ref D) rfl]
  first
    | exact wpAny_pure (wpAny_pure h)
    | exact wpAny_pure h
    | exact wpAny_pure (wpAny_bind (wpAny_pure (wpAny_pure h)))
theorem kitx_excG (hga : findIn K (.ref D) "__getattribute__" = some (some (.builtin "BaseException.__getattribute__"))) (hgt : findIn K (.ref D) "__getattr__" = some none) (hsub : subIn K (.ref D) (.type "BaseException") = some true) (hdct : hasDictIn K D = true) (ha : findIn K (.ref D) "__class__" = some (some (.builtin "object.__class__")))
    (hn : specialIn K (.builtin "object.__class__") "__get__" = some (some (.builtin "getset_descriptor.__get__"))) (htk : takesIn K (.builtin "object.__class__") = some true) (hm : mroIn K D (.type "object") = some true) :
    KitX K (.ref x) (.ref D) (fun h => InstAt h x ox D odd) where
  ty := fun _ _ _ I => I.type
  it := fun _ _ X _ => by
    obtain ⟨cdD, hcD, _⟩ := any_some hdct
    unfold clsIn at hcD
    split at hcD
    · rename_i c' d' cd' sl' ho
      intro A' Q' E' s' k q
      unfold isType loadHead
      exact wpAny_bind (wpAny_loadPart (k _ _ (X _ _ ho)) (wpAny_pure q))
    · cases hcD
  ne := fun h tp dd its n sl X htp => by
    obtain ⟨cdD, hcD, _⟩ := any_some hdct
    refine Bool.eq_false_iff.mpr fun q => ?_
    have e : D = tp := Value.ref.inj (beq_iff_eq.mp q)
    subst e
    unfold clsIn at hcD
    split at hcD
    · rename_i c' d' cd' sl' ho
      have z := (X _ _ ho).symm.trans htp
      cases z
    · cases hcD
  ca := fun X I k => kin_classG hga hgt hsub hdct ha hn htk hm X I k
end
end Ev
end
section
set_option Elab.async false
set_option linter.all false
set_option maxRecDepth 100000
set_option maxHeartbeats 1000000
/-! Ev, part V: built-in functions and types called. -/
namespace Ev
open PySem PySem.Spec PyProof.Rows L2

section
variable {Γ : Gam} {Z : Addr → Prop} {φ : List Addr} {H : Hp} {h : Hh} {X : Cx} {W : WX} {n m : Nat} {pins : List (Addr × Obj)} {σv : L2.St} {s : Shared}
def tOne (t : TE) : TA := fun σ H Q => t σ H fun v H1 => Q [v] H1
theorem pa_one1 {e : Expr} {t : TE} (he : PE X e t) (hs : notStar e = true) : PA X [e] (tOne t) := by
  refine ⟨fun pos pins s σ H Q I q => ?_⟩
  exact (pa_cons he pa_nil (starEach_cons hs)).run pos pins s σ H Q I q
/-- len of a value -/
theorem len_S (wd : WdF Γ) (gd : Gd Γ (n + 1) X W) (fa : FnAll Γ n) {x : V} {u : Value} {t : T} {Q : VK} (I : Inv X pins σv H s) (rx : RelV x u) (r : R Γ Z φ H h) (w : TW Γ Z φ H x t) (p : Post Γ W σv (TV Γ) Z φ H (lenE Γ.G (Γ.at_ n) t h) Q) :
    wpAny (model X.prog X.w) X.A (call (.builtin "len") [u]) (EP X pins σv Q) X.xe s := by
  unfold lenE at p
  cases e : ownM Γ.G h t nLen with
  | some f =>
    rw [e] at p
    obtain ⟨a, dx, gs, c, k, rfl, ea, tv, ec, _, C, M, _⟩ := own_meth wd r w e
    cases rx
    obtain ⟨ox, od, J⟩ := instAt I ea
    obtain ⟨mF, hF⟩ := I.fr
    have hat : PySem.W.findIn X.K (.ref (Γ.cA c)) "__len__" = some (some (.ref (Γ.fA f))) := by rw [gd.K, ← wd.n8]; exact M.at_
    have hfn : PySem.W.isFn X.K (.ref (Γ.fA f)) = true := by rw [gd.K]; exact M.fn
    refine PySem.W.len_K (K := X.K) hF I.ok.mod.kin J hat hfn (wpAny_mono (wpAny_call (code_at gd fa gd.room.in1 frames_in1 I (us := [.ref a]) (vs := [.ref a]) (ts := [t]) (.cons rfl .nil) r (.cons tv .nil) kr_nil (Post.bd (rel := TV Γ) p))) (fun w s' z => ?_) fun _ _ x => x)
    obtain ⟨v, H', I', rz, Z1, φ1, h1, t1, le, r1, w1, q⟩ := z
    cases t1 with
    | int i =>
      cases w1
      obtain ⟨tk, rfl⟩ := rz
      dsimp only at q
      split at q
      · rename_i hc
        obtain ⟨c1, c2⟩ := ba2 hc
        have c1 := of_decide_eq_true c1
        have c2 := smallI_iff c2
        exact ⟨⟨c1, by omega⟩, ⟨.int i, H', I'.tok _, ⟨_, rfl⟩, q.ok r1 (.int _)⟩⟩
      · exact q.elim
    | _ => exact q.elim
  | none =>
    rw [e] at p
    dsimp only at p
    have sq : ∀ {kk : Bool} {l : List T}, TW Γ Z φ H x t → (seqOf h t = some (kk, l) ∨ seqF t = some (kk, l)) → Post Γ W σv (TV Γ) Z φ H (some (.ok (.int l.length) h)) Q → wpAny (model X.prog X.w) X.A (call (.builtin "len") [u]) (EP X pins σv Q) X.xe s := fun {kk l} w es p => by
      have : ∃ (a : Addr) (vs : List V), x = .ref a ∧ TVs Γ Z φ H vs l ∧ ((kk = true ∧ SqT Γ.K H a vs) ∨ (kk = false ∧ SqL Γ.K H a vs)) := by
        rcases es with es | es
        · exact seq_sq r w es
        · exact seq_F w es
      obtain ⟨a, vs, rfl, tv, c⟩ := this
      refine call_len_seq pins s σv H [.ref a] [u] Q I (.cons rx .nil) ⟨a, vs, rfl, ?_, by rw [tv.length]; exact p.ok r (.int _)⟩
      rw [gd.K]
      rcases c with ⟨_, c⟩ | ⟨_, c⟩
      · exact .inr c
      · exact .inl c
    unfold biT at p
    dsimp only at p
    cases t with
    | str z =>
      dsimp only at p
      cases tw_str w
      split at p
      · rename_i hz
        exact call_len_str pins s σv H [.str z] [u] Q I (.cons rx .nil) ⟨z, rfl, big_lt (of_decide_eq_true hz), p.ok r (.int _)⟩
      · exact p.elim
    | frl l => exact sq (kk := false) w (.inr rfl) p
    | tup l => exact sq (kk := true) w (.inl rfl) p
    | ptu l => exact sq (kk := true) w (.inl rfl) p
    | lst l => exact sq (kk := false) w (.inl rfl) p
    | vl l => exact sq (kk := false) w (.inl rfl) p
    | ref a =>
      dsimp only at p
      split at p
      · rename_i es
        exact sq w (.inl es) p
      · exact p.elim
    | _ => exact p.elim
/-- a value's type, for isinstance -/
theorem is_gen (wd : WdF Γ) (gd : Gd Γ n X W) (r : R Γ Z φ H h) (I : Inv X pins σv H s) {v : V} {u : Value} {t : T} (rv : RelV v u) (w : TW Γ Z φ H v t) (e : okY Γ.G h t = true ∨ ∃ l, t = .vl l) :
    ∃ tb, (∀ (c : Value) (b : Bool) (Q : Value → Shared → Prop), PySem.W.kitOne X.K tb c = some b → (∀ tk, Q (.bool b) { s with toks := tk }) → wpAny (model X.prog X.w) X.A (call (.builtin "isinstance") [u, c]) Q X.xe s) ∧
      ((∃ k, k < 8 ∧ tb = .type (tyN k) ∧ clsOf h t = none ∧ ∀ n, isTy h t n = some (n == k || (k == 1 && n == 0))) ∨ ∃ c kk, clsOf h t = some c ∧ Γ.G.cl c = some kk ∧ tb = .ref (Γ.cA c) ∧ ∀ n, isTy h t n = some false) := by
  have ty : ∀ {x : V} {u tb : Value}, RelV x u → TyOf X.K H x tb → (∀ (c : Value) (b : Bool) (Q : Value → Shared → Prop), PySem.W.kitOne X.K tb c = some b → (∀ tk, Q (.bool b) { s with toks := tk }) → wpAny (model X.prog X.w) X.A (call (.builtin "isinstance") [u, c]) Q X.xe s) := fun {x u tb} rx ty c b Q e q => isinst_ok I rx ty e q
  have ins : ∀ {a dx : Addr} {gs : List (Str × V)} {c : Nat} {kk : ClD}, H a = some (.ins (Γ.cA c) dx gs) → Γ.G.cl c = some kk → TyOf X.K H (.ref a) (.ref (Γ.cA c)) := fun {a dx gs c kk} ea hc => by
    have C := wd.cl c kk hc
    have hK := gd.K
    exact .ins ea (hK ▸ C.cls) (hK ▸ C.hcl) (hK ▸ C.hgt) (hK ▸ C.htk) (hK ▸ C.obj)
  have tup : ∀ {a : Addr} {vs : List V}, SqT Γ.K H a vs → (∀ (c : Value) (b : Bool) (Q : Value → Shared → Prop), PySem.W.kitOne X.K (.type (tyN 3)) c = some b → (∀ tk, Q (.bool b) { s with toks := tk }) → wpAny (model X.prog X.w) X.A (call (.builtin "isinstance") [.ref a, c]) Q X.xe s) := fun {a vs} q c b Q e k => by
    rw [← gd.K] at q
    obtain ⟨its, _, ⟨o, h1, h2, _⟩, _⟩ := I.tuple q
    exact PySem.W.kia_one PySem.W.kitx_tuple I.kIn ⟨o, h1, h2⟩ e (fun z => nomatch z) k
  rcases w with w | ⟨p, vs, l, rfl, rfl, hp, _, _, _⟩
  · have e : okY Γ.G h t = true := by
      rcases e with e | ⟨l, rfl⟩
      · exact e
      · cases w
    cases w with
    | non => exact ⟨_, ty rv .non, .inl ⟨6, by omega, rfl, rfl, fun n => by simp [isTy]⟩⟩
    | bl b => exact ⟨_, ty rv (.bl b), .inl ⟨1, by omega, rfl, rfl, fun n => by simp [isTy]⟩⟩
    | int i => exact ⟨_, ty rv (.int i), .inl ⟨0, by omega, rfl, rfl, fun n => by simp [isTy]⟩⟩
    | str i => exact ⟨_, ty rv (.str i), .inl ⟨2, by omega, rfl, rfl, fun n => by simp [isTy]⟩⟩
    | tup x y => cases rv; exact ⟨_, tup x.sq, .inl ⟨3, by omega, rfl, rfl, fun n => by simp [isTy]⟩⟩
    | ptu x y => cases rv; exact ⟨_, tup (x.rt (Γ := Γ)).sq, .inl ⟨3, by omega, rfl, rfl, fun n => by simp [isTy]⟩⟩
    | lst x y => exact ⟨_, ty rv (.lst x.2), .inl ⟨4, by omega, rfl, rfl, fun n => by simp [isTy]⟩⟩
    | frl x y =>
      refine ⟨.type (tyN 4), ?_, .inl ⟨4, by omega, rfl, rfl, fun n => by simp [isTy]⟩⟩
      rcases x.2 with x | ⟨o, x⟩
      · exact ty rv (.lst x)
      · exact ty rv (.frz x)
    | ins z x y =>
      obtain ⟨kk, hk⟩ := Option.isSome_iff_exists.mp (show (Γ.G.cl _).isSome = true from e)
      exact ⟨_, ty rv (ins x hk), .inr ⟨_, kk, rfl, hk, rfl, fun n => rfl⟩⟩
    | @ref a k x =>
      have e : (match h[k]? with
        | some (MO.lst _) => true
        | some (MO.dct _) => true
        | some (MO.ins c _) => (Γ.G.cl c).isSome
        | _ => false) = true := e
      cases hk : h[k]? with
      | none => rw [hk] at e; cases e
      | some mo =>
        rw [hk] at e
        have mk := r.ok _ _ _ hk x
        cases mk with
        | lst h1 r1 => exact ⟨_, ty rv (.lst h1), .inl ⟨4, by omega, rfl, by simp [clsOf, hk], fun n => by simp [isTy, hk]⟩⟩
        | dct h1 _ _ => exact ⟨_, ty rv (.dK h1), .inl ⟨5, by omega, rfl, by simp [clsOf, hk], fun n => by simp [isTy, hk]⟩⟩
        | ins h1 r1 =>
          obtain ⟨kk, hk2⟩ := Option.isSome_iff_exists.mp (show (Γ.G.cl _).isSome = true from e)
          exact ⟨_, ty rv (ins h1 hk2), .inr ⟨_, kk, by simp [clsOf, hk], hk2, rfl, fun n => by simp [isTy, hk]⟩⟩
        | gone _ => cases e
        | tab _ _ _ => cases e
    | exc _ _ _ _ _ => cases e
    | cls c => cases e
    | fn c => cases e
    | ty c => cases e
  · exact ⟨_, ty rv (.lst hp), .inl ⟨4, by omega, rfl, rfl, fun n => by simp [isTy]⟩⟩
/-- isinstance of a caught exception -/
theorem is_exc (wd : WdF Γ) (gd : Gd Γ n X W) (I : Inv X pins σv H s) {a d : Addr} {gs : List (Str × V)} {c : Nat} {k : XcD} (hc : Γ.G.xc c = some k) (x : H a = some (XcO (Γ.cA c) d a)) (xd : H d = some (.xd gs)) {u : Value} {b : Bool} (Q : Value → Shared → Prop)
    (e : PySem.W.kitOne X.K (.ref (Γ.cA c)) u = some b) (q : ∀ tk, Q (.bool b) { s with toks := tk }) : wpAny (model X.prog X.w) X.A (call (.builtin "isinstance") [.ref a, u]) Q X.xe s := by
  obtain ⟨⟨oe, vs, ha, hcl, hdi, hda⟩, _⟩ := (show ObjOk X.prog X.w H s.heap a (XcO (Γ.cA c) d a) from I.hok a _ x)
  obtain ⟨mA, hns, hr⟩ := (show ObjOk X.prog X.w H s.heap d (.xd gs) from I.hok d _ xd)
  obtain ⟨od, ho, hl⟩ := lookIn_ns hns
  have J : PySem.W.InstAt s.heap a oe (Γ.cA c) (some od) := ⟨ha, hcl, by unfold PySem.W.notCls; rw [hda] <;> rfl, by rw [hdi]; exact ho⟩
  have C := (wd.xc c k hc).isx
  rw [← gd.K] at C
  exact PySem.W.kia_one (kitx_excG C.hg C.hk C.hs C.hd C.ha C.hn C.ht C.hm) I.kIn J e (fun z => nomatch z) q
/-- isinstance of a value -/
theorem is_S (wd : WdF Γ) (gd : Gd Γ n X W) (r : R Γ Z φ H h) (I : Inv X pins σv H s) {x y : V} {u c : Value} {t t2 : T} {b : Bool} {Q : VK} (rx : RelV x u) (w : TW Γ Z φ H x t) (ry : RelV y c) (w2 : TV Γ Z φ H y t2) (e : isInst Γ.G h t t2 = some b) (q : Q (.bl b) H) :
    wpAny (model X.prog X.w) X.A (call (.builtin "isinstance") [u, c]) (EP X pins σv Q) X.xe s := by
  unfold isInst at e
  split at e
  · rename_i ok
    by_cases hex : ∃ cx fs, t = .exc cx fs
    · obtain ⟨cx, fs, rfl⟩ := hex
      obtain ⟨kx, hkx⟩ := Option.isSome_iff_exists.mp (show (Γ.G.xc cx).isSome = true from ok)
      rcases w with w | ⟨_, _, _, _, z, _⟩
      · cases w with
        | @exc a dd gs _ _ z zd x2 xd y2 =>
          cases rx
          have F := wd.xc cx kx hkx
          cases t2 with
          | ty k =>
            cases w2
            cases ry
            dsimp only at e
            split at e
            · rename_i hk
              cases e
              exact is_exc wd gd I hkx x2 xd _ (by rw [gd.K]; exact (F.kt k hk).1) fun tk => ⟨.bl _, H, I.tok _, rfl, q⟩
            · cases e
          | cls d =>
            cases w2
            cases ry
            dsimp only at e
            cases hd : Γ.G.cl d with
            | none =>
              rw [hd] at e
              dsimp only at e
              cases hx : Γ.G.xc d with
              | none => rw [hx] at e; cases e
              | some kd =>
                rw [hx] at e
                cases e
                exact is_exc wd gd I hkx x2 xd _ (by rw [gd.K]; exact F.kx d kd hx) fun tk => ⟨.bl _, H, I.tok _, rfl, q⟩
            | some kd =>
              rw [hd] at e
              cases e
              exact is_exc wd gd I hkx x2 xd _ (by rw [gd.K]; exact (F.kc d kd hd).1) fun tk => ⟨.bl _, H, I.tok _, rfl, q⟩
          | _ => cases e
      · cases z
    have ok2 : okY Γ.G h t = true ∨ ∃ l, t = .vl l := by
      cases t <;> first | exact .inr ⟨_, rfl⟩ | exact .inl ok | exact absurd ⟨_, _, rfl⟩ hex
    obtain ⟨tb, run, cc⟩ := is_gen wd gd r I rx w ok2
    cases t2 with
    | ty k =>
      cases w2
      cases ry
      dsimp only at e
      split at e
      · rename_i hk
        rcases cc with ⟨k', hk', rfl, _, hi⟩ | ⟨c, kk, hc, hcl, rfl, hi⟩
        · rw [hi] at e
          cases e
          exact run _ _ _ (by rw [gd.K]; exact wd.kit k' k hk' hk) fun tk => ⟨.bl _, H, I.tok _, rfl, q⟩
        · rw [hi] at e
          cases e
          exact run _ _ _ (by rw [gd.K]; exact (wd.cl c kk hcl).instT k hk) fun tk => ⟨.bl _, H, I.tok _, rfl, q⟩
      · cases e
    | cls d =>
      cases w2
      cases ry
      dsimp only at e
      cases hd : Γ.G.cl d with
      | none =>
        rw [hd] at e
        dsimp only at e
        cases hx : Γ.G.xc d with
        | none => rw [hx] at e; cases e
        | some kd =>
          rw [hx] at e
          have e : (some false : Option Bool) = some b := by
            cases t <;> first | exact e | exact absurd ⟨_, _, rfl⟩ hex
          cases e
          have F := wd.xc d kd hx
          rcases cc with ⟨k', hk', rfl, hno, _⟩ | ⟨c, kk, hc, hcl, rfl, _⟩
          · exact run _ _ _ (by rw [gd.K]; exact (F.kt k' hk').2) fun tk => ⟨.bl _, H, I.tok _, rfl, q⟩
          · exact run _ _ _ (by rw [gd.K]; exact (F.kc c kk hcl).2) fun tk => ⟨.bl _, H, I.tok _, rfl, q⟩
      | some kd =>
        rw [hd] at e
        dsimp only at e
        rcases cc with ⟨k', hk', rfl, hno, _⟩ | ⟨c, kk, hc, hcl, rfl, _⟩
        · rw [hno] at e
          cases e
          exact run _ _ _ (by rw [gd.K]; exact (wd.cl d kd hd).inst k' hk') fun tk => ⟨.bl _, H, I.tok _, rfl, q⟩
        · rw [hc] at e
          cases e
          exact run _ _ _ (by rw [gd.K]; exact (wd.cl d kd hd).instc c kk hcl) fun tk => ⟨.bl _, H, I.tok _, rfl, q⟩
    | _ => cases e
  · cases e
end
end Ev
end
section
set_option Elab.async false
set_option linter.all false
set_option maxRecDepth 100000
set_option maxHeartbeats 1000000
/-! Ev, part W: calls of the language's own functions and types. -/
namespace Ev
open PySem PySem.Spec PyProof.Rows L2

theorem max_fold : ∀ (l : List Int) (i m : Int), m ∈ i :: l → (∀ y, y ∈ i :: l → y ≤ m) → l.foldl max i = m
  | [], i, m, h, _ => by simp at h; exact h.symm
  | x :: l, i, m, h, k => by
    rw [List.foldl_cons]
    refine max_fold l (max i x) m ?_ fun y hy => ?_
    · rcases List.mem_cons.mp h with e | h
      · subst e
        have := k x (by simp)
        rw [Int.max_eq_left this]
        simp
      · rcases List.mem_cons.mp h with e | h
        · subst e
          have := k i (by simp)
          rw [Int.max_eq_right this]
          simp
        · exact List.mem_cons_of_mem _ h
    · rcases List.mem_cons.mp hy with e | hy
      · subst e
        exact Int.max_le.mpr ⟨k i (by simp), k x (by simp)⟩
      · exact k y (by simp [hy])
theorem min_fold : ∀ (l : List Int) (i m : Int), m ∈ i :: l → (∀ y, y ∈ i :: l → m ≤ y) → l.foldl min i = m
  | [], i, m, h, _ => by simp at h; exact h.symm
  | x :: l, i, m, h, k => by
    rw [List.foldl_cons]
    refine min_fold l (min i x) m ?_ fun y hy => ?_
    · rcases List.mem_cons.mp h with e | h
      · subst e
        have := k x (by simp)
        rw [Int.min_eq_left this]
        simp
      · rcases List.mem_cons.mp h with e | h
        · subst e
          have := k i (by simp)
          rw [Int.min_eq_right this]
          simp
        · exact List.mem_cons_of_mem _ h
    · rcases List.mem_cons.mp hy with e | hy
      · subst e
        exact Int.le_min.mpr ⟨k i (by simp), k x (by simp)⟩
      · exact k y (by simp [hy])
/-- built-in functions that are called by their values -/
def biOk : Bi → Bool
  | .sum => true | .max => true | .min => true | .all => true | .any => true | .abs => true | .len => true | .isinstance => true | .sorted => true
  | _ => false
theorem boot_bi {b : Bi} (h : biOk b = true) : bootBuiltins (Str.ofString (biN b)) = some (.builtin (biN b)) := by
  cases b <;> first | (cases h; done) | decide +kernel

section
variable {Γ : Gam} {Z : Addr → Prop} {φ : List Addr} {H : Hp} {h : Hh} {X : Cx} {W : WX} {n m : Nat} {pins : List (Addr × Obj)} {σv : L2.St} {s : Shared}
theorem seq_list (hK : X.K = Γ.K) (r : R Γ Z φ H h) {v : V} {t : T} {l : List T} (w : TV Γ Z φ H v t) (e : seqOf h t = some (false, l)) : ∃ (a : Addr) (vs : List V), v = .ref a ∧ TVs Γ Z φ H vs l ∧ SqL X.K H a vs := by
  obtain ⟨a, vs, rfl, tv, c⟩ := seq_of r (.inl w) e
  rcases c with ⟨k, _⟩ | ⟨_, c⟩
  · cases k
  · exact ⟨a, vs, rfl, tv, SqL.of c⟩
theorem bi_call (gd : Gd Γ n X W) (r : R Γ Z φ H h) (I : Inv X pins σv H s) {b : Bi} (hb : biOk b = true) (hb2 : b ≠ .len) {us : List Value} {vs : List V} {ts : List T} {t : T} {Q : VK} (rvs : Vals vs us) (tv : TVs Γ Z φ H vs ts) (e : biT b ts h = some t) (q : ∀ v, TV Γ Z φ H v t → Q v H) :
    wpAny (model X.prog X.w) X.A (call (.builtin (biN b)) us) (EP X pins σv Q) X.xe s := by
  have lst1 : ∀ {t1 : T} {α : Type} {f : List T → Option α} {g : α → T} {vs : List V}, TVs Γ Z φ H vs [t1] → (match seqOf h t1 with | some (false, l) => (f l).map g | _ => none) = some t → ∃ (a : Addr) (ws : List V) (l : List T) (x : α), vs = [.ref a] ∧ TVs Γ Z φ H ws l ∧ SqL X.K H a ws ∧ f l = some x ∧ t = g x := fun {t1 α f g vs} tv e => by
    cases tv with
    | cons w tv =>
      cases tv
      split at e
      · rename_i l es
        obtain ⟨a, ws, rfl, tl, sq⟩ := seq_list gd.K r w es
        cases ef : f l with
        | none => rw [ef] at e; cases e
        | some x => rw [ef] at e; cases e; exact ⟨a, ws, l, x, rfl, tl, sq, ef, rfl⟩
      · cases e
  cases b with
  | sum =>
    match ts, e with
    | [t1], e =>
      obtain ⟨a, ws, l, is, rfl, tl, sq, ef, rfl⟩ := lst1 (f := intsT) (g := fun is => .int is.sum) tv e
      have := intsT_map ef tl
      subst this
      exact cr_sum gd.calm pins s σv H _ _ Q I rvs ⟨a, is, rfl, sq, q _ (.int _)⟩
    | [], e => cases e
    | _ :: _ :: _, e => cases e
  | all =>
    match ts, e with
    | [t1], e =>
      obtain ⟨a, ws, l, is, rfl, tl, sq, ef, rfl⟩ := lst1 (f := blsT) (g := fun is => .bl (is.all id)) tv e
      have := blsT_map ef tl
      subst this
      exact cr_all gd.calm pins s σv H _ _ Q I rvs ⟨a, is, rfl, sq, q _ (.bl _)⟩
    | [], e => cases e
    | _ :: _ :: _, e => cases e
  | any =>
    match ts, e with
    | [t1], e =>
      obtain ⟨a, ws, l, is, rfl, tl, sq, ef, rfl⟩ := lst1 (f := blsT) (g := fun is => .bl (is.any id)) tv e
      have := blsT_map ef tl
      subst this
      exact cr_any gd.calm pins s σv H _ _ Q I rvs ⟨a, is, rfl, sq, q _ (.bl _)⟩
    | [], e => cases e
    | _ :: _ :: _, e => cases e
  | max =>
    match ts, e with
    | [], e => cases e
    | [t1], e =>
      cases tv with
      | cons w tv =>
        cases tv
        have e : (match seqOf h t1 with
          | some (false, l) => (match intsT l with
            | some (i :: is) => some (T.int (is.foldl max i))
            | _ => none)
          | _ => none) = some t := e
        split at e
        · rename_i l es
          obtain ⟨a, ws, rfl, tl, sq⟩ := seq_list gd.K r w es
          split at e
          · rename_i i is ei
            cases e
            have := intsT_map ei tl
            subst this
            exact cr_max gd.calm pins s σv H _ _ Q I rvs ⟨a, i :: is, rfl, sq, by simp, fun m h1 h2 => by rw [← max_fold is i m h1 h2]; exact q _ (.int _)⟩
          · cases e
        · cases e
    | [t1, t2], e =>
      cases t1 with
      | int i => cases t2 with
        | int j =>
          cases tv with
          | cons w tv => cases tv with
            | cons w2 tv =>
              cases tv
              cases w
              cases w2
              have e : some (T.int (if j > i then j else i)) = some t := e
              injection e with e
              subst e
              exact call_max2 gd.calm pins s σv H _ _ Q I rvs ⟨i, j, rfl, q _ (.int _)⟩
        | _ => cases e
      | _ => cases t2 <;> cases e
    | t1 :: t2 :: t3 :: l, e => cases t1 <;> first | (cases e; done) | (cases t2 <;> cases e)
  | min =>
    match ts, e with
    | [], e => cases e
    | [t1], e =>
      cases tv with
      | cons w tv =>
        cases tv
        have e : (match seqOf h t1 with
          | some (false, l) => (match intsT l with
            | some (i :: is) => some (T.int (is.foldl min i))
            | _ => none)
          | _ => none) = some t := e
        split at e
        · rename_i l es
          obtain ⟨a, ws, rfl, tl, sq⟩ := seq_list gd.K r w es
          split at e
          · rename_i i is ei
            cases e
            have := intsT_map ei tl
            subst this
            exact cr_min gd.calm pins s σv H _ _ Q I rvs ⟨a, i :: is, rfl, sq, by simp, fun m h1 h2 => by rw [← min_fold is i m h1 h2]; exact q _ (.int _)⟩
          · cases e
        · cases e
    | [t1, t2], e =>
      cases t1 with
      | int i => cases t2 with
        | int j =>
          cases tv with
          | cons w tv => cases tv with
            | cons w2 tv =>
              cases tv
              cases w
              cases w2
              have e : some (T.int (if j < i then j else i)) = some t := e
              injection e with e
              subst e
              exact call_min2 gd.calm pins s σv H _ _ Q I rvs ⟨i, j, rfl, q _ (.int _)⟩
        | _ => cases e
      | _ => cases t2 <;> cases e
    | t1 :: t2 :: t3 :: l, e => cases t1 <;> first | (cases e; done) | (cases t2 <;> cases e)
  | abs =>
    match ts, e with
    | [], e => cases e
    | [t1], e =>
      cases tv with
      | cons w tv =>
        cases tv
        cases t1 <;> try (cases e; done)
        cases w
        cases e
        exact call_abs pins s σv H _ _ Q I rvs ⟨_, rfl, q _ (.int _)⟩
    | t1 :: t2 :: l, e => cases t1 <;> cases e
  | len => exact absurd rfl hb2
  | isinstance => match ts, e with
    | [], e => cases e
    | [t], e => cases e
    | [t, u], e => cases e
    | _ :: _ :: _ :: _, e => cases e
  | sorted => match ts, e with
    | [], e => cases e
    | [t], e => cases e
    | [t, u], e => cases e
    | _ :: _ :: _ :: _, e => cases e
  | _ => cases hb
/-- a new tuple, known to its object -/
theorem call_tuple_ptu {pins : List (Addr × Obj)} {p : Addr} {ys : List V} {Q : VK} (I : Inv X pins σv H s) (hq : SqL X.K H p ys) (q : ∀ (o : Obj) (l : Addr), o.dict = none → H l = none → Q (.ref l) (upd H l (.frz o (.tup ys)))) :
    wpAny (model X.prog X.w) X.A (call (.type "tuple") [.ref p]) (EP X pins σv Q) X.xe s := by
  obtain ⟨its, r', pl, hz⟩ := I.list hq
  have hlen := r'.length
  have := sizeLine_eq
  refine call_tuple_list pl.isList (fun h' kp => ?_) (by simp only [List.size_toArray] <;> omega)
  have I1 : Inv X pins σv H { s with heap := h' } := I.kept (t' := s.toks) kp
  have I2 : Inv X pins σv (upd H h'.objs.size (.frz { cls := .type "tuple", data := .seq its.toArray } (.tup ys))) { s with heap := h'.push { cls := .type "tuple", data := .seq its.toArray } } :=
    I1.laid (t' := s.toks) (fun b o e => Heap.get?_push_of_some _ e) (Nat.le_refl _) (show ObjOk X.prog X.w _ _ _ (.frz _ (.tup ys)) from ⟨Heap.get?_push_size _ rfl, hz, its, r', IsTup.new _ _⟩)
  exact ⟨.ref h'.objs.size, _, I2, rfl, q _ _ rfl (I1.hok.fresh (Nat.le_refl _))⟩
theorem TV.newPtu {p : Addr} {o : Obj} {vs : List V} {ts : List T} (r : R Γ Z φ H h) (hp : H p = none) (hd : o.dict = none) (q : TVs Γ Z φ H vs ts) : TV Γ (fun a => Z a ∨ a = p) φ (upd H p (.frz o (.tup vs))) (.ref p) (.ptu ts) :=
  .ptu ⟨.inr rfl, o, upd_same, hd⟩ (q.mono r (Le.new hp))
/-- T(x) -/
theorem ty_call (gd : Gd Γ n X W) (r : R Γ Z φ H h) (I : Inv X pins σv H s) {k : Nat} {u : Value} {x : V} {t1 t : T} {Q : VK} (rx : RelV x u) (w : TW Γ Z φ H x t1) (e : tyT k t1 h = some t) (q : Post Γ W σv (TV Γ) Z φ H (some (.ok t h)) Q) :
    wpAny (model X.prog X.w) X.A (call (.type (tyN k)) [u]) (EP X pins σv Q) X.xe s := by
  match k, e with
  | 0, e =>
    cases t1 with
    | int i => cases e; cases tw_int w; exact call_int1 pins s σv H _ _ Q I (.cons rx .nil) (.inl ⟨i, rfl, q.ok r (.int _)⟩)
    | str z =>
      cases tw_str w
      have e : (if decide (z.length ≤ 640) then (intText? z).map T.int else none) = some t := e
      split at e
      · rename_i hz
        cases en : intText? z with
        | none => rw [en] at e; cases e
        | some i => rw [en] at e; cases e; exact call_int_str pins s σv H _ _ Q I (.cons rx .nil) ⟨z, i, rfl, en, of_decide_eq_true hz, q.ok r (.int _)⟩
      · cases e
    | _ => cases e
  | 1, e =>
    cases t1 with
    | int i => cases e; cases tw_int w; exact call_bool1 pins s σv H _ _ Q I (.cons rx .nil) (.inl ⟨i, rfl, q.ok r (.bl _)⟩)
    | bl i => cases e; cases tw_bl w; exact call_bool1 pins s σv H _ _ Q I (.cons rx .nil) (.inr ⟨i, rfl, q.ok r (.bl _)⟩)
    | _ => cases e
  | 2, e =>
    cases t1 with
    | int i =>
      cases tw_int w
      have e : (if decide (i.natAbs.log2 < 1920) then some (T.str (toString i)) else none) = some t := e
      split at e
      · rename_i hz
        cases e
        exact call_str_int pins s σv H _ _ Q I (.cons rx .nil) ⟨i, rfl, of_decide_eq_true hz, q.ok r (.str _)⟩
      · cases e
    | _ => cases e
  | 3, e =>
    have e : (match seqOf h t1 with
      | some (false, l) => some (T.ptu l)
      | some (true, _) => some t1
      | none => none) = some t := e
    split at e
    · rename_i l es
      cases e
      obtain ⟨a, vs, rfl, tv, c⟩ := seq_of r w es
      rcases c with ⟨k, _⟩ | ⟨_, c⟩
      · cases k
      cases rx
      exact call_tuple_ptu I (SqL.of c) fun o p hd hp => q _ _ _ _ (Le.new hp) (r.new hp) (TV.newPtu r hp hd tv)
    · rename_i l es
      cases e
      obtain ⟨a, vs, rfl, tv, c⟩ := seq_of r w es
      rcases c with ⟨_, _, c⟩ | ⟨k, _⟩
      · have w' : TV Γ Z φ H (.ref a) t1 := by
          rcases w with w | ⟨_, _, _, _, rfl, _⟩
          · exact w
          · cases es
        exact call_tuple_of pins s σv H _ _ Q I (.cons rx .nil) ⟨a, vs, rfl, .inr ⟨gd.K ▸ c, q.ok r w'⟩⟩
      · cases k
    · cases e
  | k + 4, e => cases t1 <;> cases e
end
end Ev
end
section
set_option Elab.async false
set_option linter.all false
set_option maxRecDepth 100000
set_option maxHeartbeats 1000000
/-! Ev, part X: calls put together. -/
namespace Ev
open PySem PySem.Spec PyProof.Rows L2

section
variable {Γ : Gam} {Z : Addr → Prop} {φ : List Addr} {H : Hp} {h : Hh} {X : Cx} {W : WX} {n m : Nat} {pins : List (Addr × Obj)} {σv : L2.St} {s : Shared}
theorem all2_nil {α β : Type} {f : α → β → Bool} {l : List α} (h : all2 f l [] = true) : l = [] := by
  cases l with
  | nil => rfl
  | cons => cases h
theorem all2_one {α β : Type} {f : α → β → Bool} {l : List α} {b : β} (h : all2 f l [b] = true) : ∃ a, l = [a] ∧ f a b = true := by
  cases l with
  | nil => cases h
  | cons a l =>
    obtain ⟨h1, h2⟩ := ba2 h
    cases all2_nil h2
    exact ⟨a, rfl, h1⟩
theorem all2_two {α β : Type} {f : α → β → Bool} {l : List α} {b c : β} (h : all2 f l [b, c] = true) : ∃ a a', l = [a, a'] ∧ f a b = true ∧ f a' c = true := by
  cases l with
  | nil => cases h
  | cons a l =>
    obtain ⟨h1, h2⟩ := ba2 h
    obtain ⟨a', rfl, h3⟩ := all2_one h2
    exact ⟨a, a', rfl, h1, h3⟩
theorem call_parts {M : Nms} {N : List Str} {k : Nat} {sc : Scope} {es : List Expr} {ks : List Keyword} {args : List CE} (h : ckCall M N k sc es ks args [] = true) : ks = [] ∧ ∃ j, all2 (argB (ck M N j false sc)) es args = true := by
  cases k with
  | zero => cases h
  | succ k =>
    obtain ⟨h1, _⟩ := ba2 h
    obtain ⟨h1, h2⟩ := ba2 h1
    cases k with
    | zero => cases h1
    | succ k => exact ⟨all2_nil h2, k, h1⟩
theorem ev_star (n : Nat) (σ : Sl) (c : CE) (h : Hh) : evV (Γ.at_ n) σ (.star c) h = none := by
  cases n with
  | zero => rfl
  | succ n => rfl
/-- is an argument plain, or is nothing to be shown -/
theorem arg_plain {M : Nms} {N : List Str} {k : Nat} {sc : Scope} {e : Expr} {a : CE} (h : argB (ck M N k false sc) e a = true) : (notStar e = true ∧ ck M N k false sc e a = true) ∨ ∃ c, a = .star c := by
  by_cases hs : notStar e = true
  · exact .inl ⟨hs, argB_plain hs h⟩
  · obtain ⟨x, p, rfl⟩ := star_head (by simpa using hs)
    cases a with
    | star c => exact .inr ⟨c, rfl⟩
    | _ => cases h
theorem bd_none {α β : Type} {mm : Ro α} (e : mm = none) (f : α → Hh → Ro β) : Ro.bd mm f = none := by rw [e] <;> rfl
theorem pe_never {e : Expr} {ev : Sl → Hh → Ro T} (h : ∀ σ h, ev σ h = none) : PE X e (rdE Γ W ev) := ⟨fun pins s σv H Q I q => by
  obtain ⟨_, _, hh, σ, _, _, q⟩ := q
  rw [h] at q
  exact q.elim⟩
theorem gl_mg {g : Nat} {G : G} (gd : Gd Γ n X W) (gl : GlF Γ) (hg : Γ.G.gl g = some G) : GlOk Γ (Γ.gn g) G := gl g G hg
/-- f(..), f a built-in function -/
theorem s_bi (gd : Gd Γ (n + 1) X W) (wd : WdF Γ) (gl : GlF Γ) (L : LvE Γ n) (fa : FnAll Γ n) {k g : Nat} {b : Bi} {p pos : Pos} {es : List Expr} {ks : List Keyword} {args : List CE} (hb : biOk b = true) (hg : Γ.G.gl g = some (.bi b)) (hG : Gl X (Γ.gn g)) (hd : dbgB (Γ.gn g) = true) (hck : ckCall Γ.nms X.N k X.env.scope es ks args [] = true) :
    PE X (.Call (.Name (Γ.gn g) p) es ks pos) (rdE Γ W fun σ h => callB Γ.G (Γ.at_ n) σ b args h) := by
  have gd' := gd.down (Nat.le_succ n)
  obtain ⟨hm, hx⟩ := gl g _ hg
  obtain ⟨d1, d2, d3⟩ := dbg_ok hd
  have hboot : bootBuiltins (Γ.gn g) = some (.builtin (biN b)) := by rw [hx]; exact boot_bi hb
  have hld : ∀ (pins : List (Addr × Obj)) (s : Shared) (σ : L2.St) (H : Hp) (Q : Value → Shared → Prop), Inv X pins σ H s → Q (.builtin (biN b)) s → wpAny (model X.prog X.w) X.A (eval (.Name (Γ.gn g) p) X.env) Q X.xe s := fun pins s σ H Q I q => ld_blt I hG (by rw [gd.mg]; exact hm) hboot q d3 d1
  obtain ⟨rfl, j, ha⟩ := call_parts hck
  have gen : (callB Γ.G (Γ.at_ n) = callB Γ.G (Γ.at_ n)) → b ≠ .len → (∀ σ h, callB Γ.G (Γ.at_ n) σ b args h = Ro.bd (evArgs (Γ.at_ n) σ args h) fun ts h => lift (biT b ts h) h) → PE X (.Call (.Name (Γ.gn g) p) es [] pos) (rdE Γ W fun σ h => callB Γ.G (Γ.at_ n) σ b args h) := fun _ hl ev => by
    refine pe_weaken (s_callG (F := fun ts ks h => lift (biT b ts h) h) gd L hck hld (keep_bi _) fun pins s' σv us kv vs ts kt Z' φ' H' h' Q I' rv r' tv kr hkv p' => ?_) fun σv H Q q => ?_
    · rw [hkv rfl]
      cases e : biT b ts h' with
      | none => rw [e] at p'; exact p'.elim
      | some t => rw [e] at p'; exact bi_call gd r' I' hb hl rv tv e fun v w => p'.ok r' w
    · obtain ⟨Z, φ, hh, σ, r, sr, pp⟩ := q
      refine ⟨Z, φ, hh, σ, r, sr, ?_⟩
      replace pp : Post Γ W σv (TV Γ) Z φ H (callB Γ.G (Γ.at_ n) σ b args hh) Q := pp
      rw [ev] at pp
      exact pp
  cases b with
  | isinstance =>
    match args, ha with
    | [a, c], ha =>
      obtain ⟨e1, e2, rfl, h1, h2⟩ := all2_two ha
      rcases arg_plain h1 with ⟨n1, h1⟩ | ⟨c', rfl⟩
      · rcases arg_plain h2 with ⟨n2, h2⟩ | ⟨c', rfl⟩
        · refine ⟨fun pins s σv H Q I q => ?_⟩
          obtain ⟨Z, φ, hh, σ, r, sr, pp⟩ := q
          have hc : ∀ z, c ≠ .star z := fun z e => by
            subst e
            cases j with
            | zero => cases h2
            | succ j => cases h2
          replace pp : Post Γ W σv (TV Γ) Z φ H (callB Γ.G (Γ.at_ n) σ .isinstance [a, c] hh) Q := pp
          have ev : callB Γ.G (Γ.at_ n) σ .isinstance [a, c] hh = (Ro.bd (evV (Γ.at_ n) σ a hh) fun x h => Ro.bd ((Γ.at_ n).e σ c h) fun y h => lift ((isInst Γ.G h x y).map T.bl) h) := by
            cases c <;> first | rfl | exact absurd rfl (hc _)
          rw [ev] at pp
          replace pp : Post Γ W σv (TV Γ) Z φ H (Ro.bd (evV (Γ.at_ n) σ a hh) fun x h => Ro.bd ((Γ.at_ n).e σ c h) fun y h => lift ((isInst Γ.G h x y).map T.bl) h) Q := pp
          refine wpAny_Call_Name_kw (hld pins s σv H _ I ?_)
          have PAr := pa_cons (ck_V gd' L h1) (pa_cons (L X W gd' j e2 c h2) pa_nil (starEach_cons n2)) (starEach_cons n1)
          refine PyProof.Rows.callWith_builtin1 (thn (PAr.run pos pins s σv H (fun vs H' => ∃ x y t t2 Z' φ' h', vs = [x, y] ∧ R Γ Z' φ' H' h' ∧ TW Γ Z' φ' H' x t ∧ TV Γ Z' φ' H' y t2 ∧ Post Γ W σv (TV Γ) Z' φ' H' (lift ((isInst Γ.G h' t t2).map T.bl) h') Q) I ?_) fun us s1 ⟨vs, H1, I1, rv, x, y, t, t2, Z', φ', h', e, r', w1, w2, p'⟩ => ?_) (starEach_cons n1) (any_plain (es := [e2]) (by simp [n2]))
          · refine ⟨Z, φ, hh, σ, r, sr, (Post.bd (rel := TW Γ) pp).mono fun x H1 ⟨Z1, φ1, h1, t, le, r1, w1, q1⟩ => ⟨Z1, φ1, h1, σ, r1, sr.mono r le, (Post.bd (rel := TV Γ) q1).mono fun y H2 ⟨Z2, φ2, h2, t2, le2, r2, w2, q2⟩ => ?_⟩⟩
            exact ⟨x, y, t, t2, Z2, φ2, h2, rfl, r2, w1.mono r1 le2, w2, q2⟩
          · subst e
            obtain ⟨u, v, rfl, ru, rv'⟩ := rv.two
            cases ei : isInst Γ.G h' t t2 with
            | none => rw [ei] at p'; exact p'.elim
            | some b => rw [ei] at p'; exact is_S wd gd r' I1 ru w1 rv' w2 ei (p'.ok r' (.bl _))
        · exact pe_never fun σ h => rfl
      · refine pe_never fun σ h => ?_
        cases c <;> first | rfl | exact bd_none (ev_star (Γ := Γ) n σ c' h) _
    | [], ha => exact pe_never fun σ h => rfl
    | [_], ha => exact pe_never fun σ h => rfl
    | _ :: b :: _ :: _, ha => exact pe_never fun σ h => by cases b <;> rfl
  | len =>
    match args, ha with
    | [a], ha =>
      obtain ⟨e1, rfl, h1⟩ := all2_one ha
      rcases arg_plain h1 with ⟨n1, h1⟩ | ⟨c', rfl⟩
      · refine ⟨fun pins s σv H Q I q => ?_⟩
        obtain ⟨Z, φ, hh, σ, r, sr, pp⟩ := q
        replace pp : Post Γ W σv (TV Γ) Z φ H (Ro.bd (evV (Γ.at_ n) σ a hh) fun x h => lenE Γ.G (Γ.at_ n) x h) Q := pp
        refine wpAny_Call_Name_kw (hld pins s σv H _ I ?_)
        have PAr := pa_cons (ck_V gd' L h1) pa_nil (starEach_cons n1)
        refine PyProof.Rows.callWith_builtin1 (thn (PAr.run pos pins s σv H (fun vs H' => ∃ x t Z' φ' h', vs = [x] ∧ R Γ Z' φ' H' h' ∧ TW Γ Z' φ' H' x t ∧ Post Γ W σv (TV Γ) Z' φ' H' (lenE Γ.G (Γ.at_ n) t h') Q) I ?_) fun us s1 ⟨vs, H1, I1, rv, x, t, Z', φ', h', e, r', w1, p'⟩ => ?_) (starEach_cons n1) (any_plain (es := []) rfl)
        · exact ⟨Z, φ, hh, σ, r, sr, (Post.bd (rel := TW Γ) pp).mono fun x H1 ⟨Z1, φ1, h1, t, le, r1, w1, q1⟩ => ⟨x, t, Z1, φ1, h1, rfl, r1, w1, q1⟩⟩
        · subst e
          obtain ⟨u, rfl, ru⟩ := rv.one
          exact len_S wd gd fa I1 ru r' w1 p'
      · exact pe_never fun σ h => bd_none (ev_star n σ c' h) _
    | [], ha => exact pe_never fun σ h => rfl
    | _ :: _ :: _, ha => exact pe_never fun σ h => rfl
  | sum => exact gen rfl (by decide) fun _ _ => rfl
  | max => exact gen rfl (by decide) fun _ _ => rfl
  | min => exact gen rfl (by decide) fun _ _ => rfl
  | all => exact gen rfl (by decide) fun _ _ => rfl
  | any => exact gen rfl (by decide) fun _ _ => rfl
  | abs => exact gen rfl (by decide) fun _ _ => rfl
  | sorted => exact gen rfl (by decide) fun _ _ => rfl
  | _ => cases hb
/-- T(x), T a built-in type -/
theorem s_ty (gd : Gd Γ (n + 1) X W) (wd : WdF Γ) (gl : GlF Γ) (L : LvE Γ n) {k g i : Nat} {p pos : Pos} {es : List Expr} {ks : List Keyword} {args : List CE} (hg : Γ.G.gl g = some (.ty i)) (hG : Gl X (Γ.gn g)) (hd : dbgB (Γ.gn g) = true) (hck : ckCall Γ.nms X.N k X.env.scope es ks args [] = true) :
    PE X (.Call (.Name (Γ.gn g) p) es ks pos) (rdE Γ W fun σ h => callT (Γ.at_ n) σ i args h) := by
  have gd' := gd.down (Nat.le_succ n)
  obtain ⟨hm, _, hx, hboot⟩ := gl g _ hg
  obtain ⟨d1, d2, d3⟩ := dbg_ok hd
  have hld : ∀ (pins : List (Addr × Obj)) (s : Shared) (σ : L2.St) (H : Hp) (Q : Value → Shared → Prop), Inv X pins σ H s → Q (.type (tyN i)) s → wpAny (model X.prog X.w) X.A (eval (.Name (Γ.gn g) p) X.env) Q X.xe s := fun pins s σ H Q I q => ld_blt I hG (by rw [gd.mg]; exact hm) hboot q d3 d1
  obtain ⟨rfl, j, ha⟩ := call_parts hck
  match args, ha with
  | [a], ha =>
    obtain ⟨e1, rfl, h1⟩ := all2_one ha
    rcases arg_plain h1 with ⟨n1, h1⟩ | ⟨c', rfl⟩
    · refine ⟨fun pins s σv H Q I q => ?_⟩
      obtain ⟨Z, φ, hh, σ, r, sr, pp⟩ := q
      replace pp : Post Γ W σv (TV Γ) Z φ H (Ro.bd (evV (Γ.at_ n) σ a hh) fun x h => lift (tyT i x h) h) Q := pp
      refine wpAny_Call_Name_kw (hld pins s σv H _ I ?_)
      have PAr := pa_cons (ck_V gd' L h1) pa_nil (starEach_cons n1)
      refine PyProof.Rows.callWith_type1 (thn (PAr.run pos pins s σv H (fun vs H' => ∃ x t Z' φ' h', vs = [x] ∧ R Γ Z' φ' H' h' ∧ TW Γ Z' φ' H' x t ∧ Post Γ W σv (TV Γ) Z' φ' H' (lift (tyT i t h') h') Q) I ?_) fun us s1 ⟨vs, H1, I1, rv, x, t, Z', φ', h', e, r', w1, p'⟩ => ?_) (starEach_cons n1) (any_plain (es := []) rfl)
      · exact ⟨Z, φ, hh, σ, r, sr, (Post.bd (rel := TW Γ) pp).mono fun x H1 ⟨Z1, φ1, h1, t, le, r1, w1, q1⟩ => ⟨x, t, Z1, φ1, h1, rfl, r1, w1, q1⟩⟩
      · subst e
        obtain ⟨u, rfl, ru⟩ := rv.one
        cases et : tyT i t h' with
        | none => rw [et] at p'; exact p'.elim
        | some t' => rw [et] at p'; exact ty_call gd r' I1 ru w1 et p'
    · exact pe_never fun σ h => bd_none (ev_star n σ c' h) _
  | [], ha => exact pe_never fun σ h => rfl
  | _ :: _ :: _, ha => exact pe_never fun σ h => rfl
/-- list(x) -/
theorem l_list (gd : Gd Γ (n + 1) X W) (gl : GlF Γ) (L : LvE Γ n) {k g : Nat} {p pos : Pos} {e1 : Expr} {a : CE} (hg : Γ.G.gl g = some (.ty 4)) (hG : Gl X (Γ.gn g)) (hd : dbgB (Γ.gn g) = true) (n1 : notStar e1 = true) (h1 : ck Γ.nms X.N k false X.env.scope e1 a = true) :
    PE X (.Call (.Name (Γ.gn g) p) [e1] [] pos) (rdL Γ W fun σ h => Ro.bd (evV (Γ.at_ n) σ a h) fun x h => (match seqOf h x with
      | some (_, xs) => some (.ok xs h)
      | none => none)) := by
  have gd' := gd.down (Nat.le_succ n)
  obtain ⟨hm, _, hx, hboot⟩ := gl g _ hg
  obtain ⟨d1, d2, d3⟩ := dbg_ok hd
  refine ⟨fun pins s σv H Q I q => ?_⟩
  obtain ⟨Z, φ, hh, σ, r, sr, pp⟩ := q
  refine wpAny_Call_Name_kw (ld_blt I hG (by rw [gd.mg]; exact hm) hboot ?_ d3 d1)
  have PAr := pa_cons (ck_V gd' L h1) pa_nil (starEach_cons n1)
  refine PyProof.Rows.callWith_type1 (thn (PAr.run pos pins s σv H (fun vs H' => ∃ x t Z' φ' h', vs = [x] ∧ Le Z φ H Z' φ' H' ∧ R Γ Z' φ' H' h' ∧ TW Γ Z' φ' H' x t ∧ Post Γ W σv (OL Γ H) Z' φ' H' (match seqOf h' t with
      | some (_, xs) => some (.ok xs h')
      | none => none) Q) I ?_) fun us s1 ⟨vs, H1, I1, rv, x, t, Z', φ', h', e, le, r', w1, p'⟩ => ?_) (starEach_cons n1) (any_plain (es := []) rfl)
  · exact ⟨Z, φ, hh, σ, r, sr, (Post.bd (rel := TW Γ) pp).mono fun x H1 ⟨Z1, φ1, h1, t, le, r1, w1, q1⟩ => ⟨x, t, Z1, φ1, h1, rfl, le, r1, w1, q1⟩⟩
  · subst e
    cases es : seqOf h' t with
    | none => rw [es] at p'; exact p'.elim
    | some kl =>
      obtain ⟨kk, l⟩ := kl
      rw [es] at p'
      obtain ⟨a, vs, rfl, tv, c⟩ := seq_sq r' w1 es
      rw [← gd.K] at c
      exact call_list_of pins s1 σv H1 _ _ Q I1 rv ⟨a, vs, rfl, c.elim (fun z => .inr z.2) (fun z => .inl z.2), fun p hp => post_new r le r' tv hp p'⟩
end
end Ev
end
section
set_option Elab.async false
set_option linter.all false
set_option maxRecDepth 100000
set_option maxHeartbeats 1000000
/-! Ev, part Y: attributes, places. -/
namespace Ev
open PySem PySem.Spec PyProof.Rows L2

theorem noSlice_ix {b : Expr} (h : noSlice b = true) : PlainIx b := by
  cases b <;> first | (intro o i; rfl) | cases h
theorem noSlice_own {b : Expr} (h : noSlice b = true) (o i : Value) : subscripted b true o i = runValue (.builtin "lifetime.subscript" ⟨[o, i], []⟩) := by
  cases b <;> first | rfl | cases h

/-- o[i], o a built-in value, by values -/
theorem tail_of {P : Program} {w : World} {A : Around} {E : Value → Shared → Prop} {s : Shared} {ve se : Expr} {o i : Value} {T id : String} {Q : Value → Shared → Prop}
    (look : typeLookup (.type T) "__getitem__" = pure (some (.builtin id))) (ns : noSlice se = true) (ty : s.TypeIs o T) (run : wpAny (model P w) A (getItem o i) Q E s) : wpAny (model P w) A (subscriptTail ve se o i) Q E s := by
  have last : wpAny (model P w) A (subscripted se false o i) (fun z s1 => wpAny (model P w) A (letTemporaryGo ve o z >>= fun _ => pure z) Q E s1) E s := by
    rw [noSlice_ix ns o i]
    exact wpAny_operating (wpAny_mono run (fun z s1 q => wpAny_bind (wpAny_letTemporaryGo (wpAny_pure q))) fun _ _ q => q)
  unfold subscriptTail
  refine wpAny_bind ?_
  rw [getitemInPython_of_ne ty.not_modules]
  refine wpAny_bind (wpAny_specialOf ty look ?_)
  first
    | exact wpAny_pure (wpAny_bind last)
    | exact wpAny_bind (wpAny_pure (wpAny_bind last))
    | exact wpAny_bind last

section
variable {Γ : Gam} {Z : Addr → Prop} {φ : List Addr} {H : Hp} {h : Hh} {X : Cx} {W : WX} {n m : Nat} {pins : List (Addr × Obj)} {σv : L2.St} {s : Shared}
theorem key_val {y : V} {t : T} {k : Key} (w : TV Γ Z φ H y t) (e : keyT t = some k) : y = kV k := by
  cases t with
  | int i => cases e; cases w; rfl
  | str i => cases e; cases w; rfl
  | _ => cases e
theorem dlook_val : ∀ {kvs : List (Key × V)} {l : List (Key × T)} {key : Key} {t : T}, kvs.map (·.1) = l.map (·.1) → TVs Γ Z φ H (kvs.map (·.2)) (l.map (·.2)) → dlook key l = some t → ∃ w, valV kvs key = some w ∧ TV Γ Z φ H w t
  | [], [], key, t, _, _, e => by cases e
  | (k, v) :: kvs, (j, x) :: l, key, t, hk, tv, e => by
    simp only [List.map_cons, List.cons.injEq] at hk
    obtain ⟨h1, h2⟩ := hk
    subst h1
    simp only [List.map_cons] at tv
    cases tv with
    | cons a b =>
      unfold dlook at e
      by_cases hkk : k = key
      · subst hkk
        rw [if_pos rfl] at e
        cases e
        exact ⟨v, by simp [valV], a⟩
      · rw [if_neg hkk] at e
        obtain ⟨w, e1, e2⟩ := dlook_val h2 b e
        exact ⟨w, by unfold valV at e1 ⊢; rw [List.find?_cons, show decide (((k, v) : Key × V).1 = key) = false from decide_eq_false hkk]; exact e1, e2⟩
  | [], _ :: _, _, _, hk, _, _ => by cases hk
  | _ :: _, [], _, _, hk, _, _ => by cases hk
/-- an attribute of a value -/
theorem attr_S (wd : WdF Γ) (gd : Gd Γ (n + 1) X W) (fa : FnAll Γ n) {b : Bool} {f : Nat} {x : V} {u : Value} {t : T} {Q : VK} (I : Inv X pins σv H s) (rx : RelV x u) (r : R Γ Z φ H h) (tv : TV Γ Z φ H x t) (p : Post Γ W σv (TV Γ) Z φ H (attrT Γ.G (Γ.at_ n) t f h) Q) :
    wpAny (model X.prog X.w) X.A (getAttr u (Γ.nm f) b) (EP X pins σv Q) X.xe s := by
  have tv0 := tv
  cases tv with
  | cls c =>
    cases rx
    have p : Post Γ W σv (TV Γ) Z φ H (match Γ.G.cl c with
      | some k => lift (k.con.lookup f) h
      | none => none) Q := p
    cases hc : Γ.G.cl c with
    | none => rw [hc] at p; exact p.elim
    | some k =>
      rw [hc] at p
      dsimp only at p
      cases hk : k.con.lookup f with
      | none => rw [hk] at p; exact p.elim
      | some t =>
        rw [hk] at p
        obtain ⟨v, u, mc, _, cr, cv, tvv⟩ := (wd.cl c k hc).con f t hk
        rw [← gd.K] at cr cv
        exact ClX.getcval_ok I cr cv fun s' I' => ⟨v, H, I', cv.rel, p.ok r (tvv _ _ _)⟩
  | ins z x y => cases rx; exact getattr_I wd gd fa I x y r tv0 p
  | @exc a d gs c fs z zd x xd y =>
    cases rx
    have p : Post Γ W σv (TV Γ) Z φ H (match Γ.G.xc c with
      | some k => if (k.exf.map (·.1)).contains f then lift (fs.lookup f) h else none
      | none => none) Q := p
    cases hc : Γ.G.xc c with
    | none => rw [hc] at p; exact p.elim
    | some k =>
      rw [hc] at p
      dsimp only at p
      by_cases hk : (k.exf.map (·.1)).contains f = true
      · rw [if_pos hk] at p
        have F := wd.xc c k hc
        rcases tfs_look wd.inj f y with ⟨e1, _⟩ | ⟨t, v, e1, e2, tv⟩
        · rw [e1] at p; exact p.elim
        · rw [e1] at p
          obtain ⟨⟨oe, vs, ha, hcl, hdi, hda⟩, _⟩ := (show ObjOk X.prog X.w H s.heap a (XcO (Γ.cA c) d a) from I.hok a _ x)
          obtain ⟨mA, hns, hr⟩ := (show ObjOk X.prog X.w H s.heap d (.xd gs) from I.hok d _ xd)
          obtain ⟨od, ho, hl⟩ := lookIn_ns hns
          obtain ⟨u, hu, ru⟩ := RelO.some_of (v := v) (o := mA (Γ.nm f)) (by rw [← e2]; exact hr _)
          have J : PySem.W.InstAt s.heap a oe (Γ.cA c) (some od) := ⟨ha, hcl, by unfold PySem.W.notCls; rw [hda] <;> rfl, by rw [hdi]; exact ho⟩
          have T := F.xf
          have no := F.no f hk
          rw [← gd.K] at T no
          exact HandSPX.exc_get I.kIn J T.ga T.gg T.exC (PySem.W.findObj_own T.hdC no rfl (by rw [hl, hu])) (handed_of ru) ⟨v, H, I.tok _, ru, p.ok r tv⟩
      · rw [if_neg hk] at p; exact p.elim
  | @ref a k x =>
    cases rx
    have p : Post Γ W σv (TV Γ) Z φ H (match h[k]? with
      | some (.ins c fs) => attrI Γ.G (Γ.at_ n) (.ref k) c fs f h
      | _ => none) Q := p
    cases hk : h[k]? with
    | none => rw [hk] at p; exact p.elim
    | some mo =>
      rw [hk] at p
      have mk := r.ok _ _ _ hk x
      cases mk with
      | ins h1 r1 => exact getattr_I wd gd fa I h1 r1 r tv0 p
      | _ => exact p.elim
  | _ => exact p.elim
/-- e.f -/
theorem s_attr (wd : WdF Γ) (gd : Gd Γ (n + 1) X W) (fa : FnAll Γ n) (L : LvE Γ n) {k : Nat} {e : Expr} {a : CE} {f : Nat} {x : Str} {pos : Pos} (hx : x = Γ.nm f) (hs : noSuper e = true) (he : ck Γ.nms X.N k false X.env.scope e a = true) :
    PE X (.Attribute e x pos) (rdE Γ W fun σ h => evE Γ.G (Γ.at_ n) σ (.attr a f) h) := by
  subst hx
  have gd' := gd.down (Nat.le_succ n)
  have gen : (∀ σ h, evE Γ.G (Γ.at_ n) σ (.attr a f) h = Ro.bd ((Γ.at_ n).e σ a h) fun x h => attrT Γ.G (Γ.at_ n) x f h) → PE X (.Attribute e (Γ.nm f) pos) (rdE Γ W fun σ h => evE Γ.G (Γ.at_ n) σ (.attr a f) h) := fun ev => by
    refine ⟨fun pins s σv H Q I q => attr_of (noSuper_base hs _ _ _) ?_⟩
    obtain ⟨Z, φ, hh, σ, r, sr, pp⟩ := q
    replace pp : Post Γ W σv (TV Γ) Z φ H (evE Γ.G (Γ.at_ n) σ (.attr a f) hh) Q := pp
    rw [ev] at pp
    exact thn ((L X W gd' k e a he).run pins s σv H _ I ⟨Z, φ, hh, σ, r, sr, Post.bd (rel := TV Γ) pp⟩) fun u s1 ⟨y, H1, I1, ry, Z1, φ1, h1, t, le, r1, w1, q1⟩ => attr_S wd gd fa I1 ry r1 w1 q1
  cases a with
  | var i =>
    cases k with
    | zero => cases he
    | succ k =>
      cases e with
      | Name x p2 =>
        have he : ckVar X.N X.env.scope x i = true := he
        unfold ckVar at he
        obtain ⟨h1, h3⟩ := ba2 he
        obtain ⟨h1, h2⟩ := ba2 h1
        obtain ⟨d1, d2, d3⟩ := dbg_ok h3
        refine ⟨fun pins s σv H Q I q => attr_of (noSuper_base hs _ _ _) ?_⟩
        obtain ⟨Z, φ, hh, σ, r, sr, pp⟩ := q
        replace pp : Post Γ W σv (TV Γ) Z φ H (match σ[i]? with
          | some (.self c fs) => if fldOk Γ.G c f fs then lift (fs.lookup f) hh else none
          | some (.val t) => attrT Γ.G (Γ.at_ n) t f hh
          | _ => none) Q := pp
        have pv := pe_var (X := X) (pos := p2) (of_decide_eq_true h1) (visB_ok h2) d1 d2
        cases es : σ[i]? with
        | none => rw [es] at pp; exact pp.elim
        | some sv =>
          rw [es] at pp
          obtain ⟨o, eo, so⟩ := sr.at_ i sv es
          cases sv with
          | no => exact pp.elim
          | own l => exact pp.elim
          | clo _ _ => exact pp.elim
          | val t =>
            obtain ⟨v, rfl, w⟩ := so
            exact thn (pv.run pins s σv H (fun y H1 => y = v ∧ H1 = H) I ⟨v, eo, rfl, rfl⟩) fun u s1 ⟨y, H1, I1, ry, ey, eH⟩ => by
              subst ey eH
              exact attr_S wd gd fa I1 ry r w pp
          | self c fs =>
            obtain ⟨p, dx, gs, rfl, eH, tf, nz, np⟩ := so
            dsimp only at pp
            split at pp
            · rename_i hf
              unfold fldOk at hf
              cases hc : Γ.G.cl c with
              | none => rw [hc] at hf; cases hf
              | some kk =>
                rw [hc] at hf
                obtain ⟨hf1, _⟩ := ba2 hf
                have C := wd.cl c kk hc
                exact thn (pv.run pins s σv H (fun y H1 => y = .ref p ∧ H1 = H) I ⟨.ref p, eo, rfl, rfl⟩) fun u s1 ⟨y, H1, I1, ry, ey, e2⟩ => by
                  subst ey e2
                  cases ry
                  rcases tfs_look wd.inj f tf with ⟨e1, e2⟩ | ⟨t', v, e1, e2, w⟩
                  · rw [e1] at pp; exact pp.elim
                  · rw [e1] at pp
                    exact getattr_ok I1 eH (gd.K ▸ C.cls) (gd.K ▸ C.flds f hf1) e2 fun u s' I' ru => ⟨v, H1, I', ru, pp.ok r w⟩
            · exact pp.elim
      | _ => cases he
  | _ => exact gen fun _ _ => rfl
/-- e[i] -/
theorem sub_S (wd : WdF Γ) (gd : Gd Γ (n + 1) X W) (fa : FnAll Γ n) {value slice : Expr} (hs : noSlice slice = true) {x y : V} {v u : Value} {t1 t2 : T} {Q : VK} (I : Inv X pins σv H s) (rx : RelV x v) (ry : RelV y u) (r : R Γ Z φ H h) (wx : TW Γ Z φ H x t1) (wy : TV Γ Z φ H y t2)
    (p : Post Γ W σv (TV Γ) Z φ H (ixE Γ.G (Γ.at_ n) t1 t2 h) Q) : wpAny (model X.prog X.w) X.A (subscriptTail value slice v u) (EP X pins σv Q) X.xe s := by
  have hu := gd.room.units
  unfold ixE at p
  cases e : ownM Γ.G h t1 nIx with
  | some f =>
    rw [e] at p
    dsimp only at p
    split at p
    · obtain ⟨a, dx, gs, c, k, rfl, ea, tv, ec, _, C, M, hfn⟩ := own_meth wd r wx e
      cases rx
      obtain ⟨ox, od, J⟩ := instAt I ea
      obtain ⟨mF, hF⟩ := I.fr
      have hat : PySem.W.findIn X.K (.ref (Γ.cA c)) "__getitem__" = some (some (.ref (Γ.fA f))) := by rw [gd.K, ← wd.n7]; exact M.at_
      have hisf : PySem.W.isFn X.K (.ref (Γ.fA f)) = true := by rw [gd.K]; exact M.fn
      exact PySem.W.sub_K (K := X.K) hF I.ok.mod.kin J hat (by rw [gd.K]; exact hfn) hisf (wpAny_call (code_at gd fa gd.room.in1 frames_in1 I (us := [.ref a, u]) (vs := [.ref a, y]) (ts := [t1, t2]) (.cons rfl (.cons ry .nil)) r (.cons tv (.cons wy .nil)) kr_nil p)) (noSlice_own hs _ _)
    · exact p.elim
  | none =>
    rw [e] at p
    dsimp only at p
    have sq : ∀ {kk : Bool} {l : List T} {i : Int}, t2 = .int i → (seqOf h t1 = some (kk, l) ∨ seqF t1 = some (kk, l)) → Post Γ W σv (TV Γ) Z φ H (lift (ixT l i) h) Q → wpAny (model X.prog X.w) X.A (subscriptTail value slice v u) (EP X pins σv Q) X.xe s := fun {kk l i} e2 es p0 => by
      subst e2
      cases wy
      have : ∃ (a : Addr) (vs : List V), x = .ref a ∧ TVs Γ Z φ H vs l ∧ ((kk = true ∧ SqT Γ.K H a vs) ∨ (kk = false ∧ SqL Γ.K H a vs)) := by
        rcases es with es | es
        · exact seq_sq r wx es
        · exact seq_F wx es
      obtain ⟨a, vs, rfl, tl, c⟩ := this
      rw [← gd.K] at c
      cases ei : ixT l i with
      | none => rw [ei] at p0; exact p0.elim
      | some t =>
        rw [ei] at p0
        have e3 : ∃ w, atI vs i = some w ∧ TV Γ Z φ H w t := by
          unfold ixT atI at ei
          unfold atI
          rw [tl.length]
          cases ej : ixN l.length i with
          | none => rw [ej] at ei; cases ei
          | some j =>
            rw [ej] at ei
            exact tl.get ei
        obtain ⟨w, ew, tw⟩ := e3
        rcases c with ⟨_, c⟩ | ⟨_, c⟩
        · exact ix_tup value slice pins s σv H _ _ v u Q I rx ry ⟨a, vs, i, w, rfl, rfl, c, ew, p0.ok r tw⟩ (noSlice_ix hs _ _)
        · exact ix_list value slice pins s σv H _ _ v u Q I rx ry ⟨a, vs, i, w, rfl, rfl, c, ew, p0.ok r tw⟩ (noSlice_ix hs _ _)
    have dict : ∀ {a : Nat} {l : List (Key × T)}, t1 = .ref a → h[a]? = some (.dct l) → Post Γ W σv (TV Γ) Z φ H (match keyT t2 with
        | some k => lift (dlook k l) h
        | none => none) Q → wpAny (model X.prog X.w) X.A (subscriptTail value slice v u) (EP X pins σv Q) X.xe s := fun {a l} e1 ek p0 => by
      subst e1
      rcases wx with wx | ⟨_, _, _, _, k, _⟩
      · cases wx with
        | ref xa =>
          cases rx
          have mk := r.ok _ _ _ ek xa
          cases mk with
          | @dct kvs _ hH hk tv =>
            cases ekey : keyT t2 with
            | none => rw [ekey] at p0; exact p0.elim
            | some key =>
              rw [ekey] at p0
              dsimp only at p0
              cases el : dlook key l with
              | none => rw [el] at p0; exact p0.elim
              | some t =>
                rw [el] at p0
                obtain ⟨w, ew, tw⟩ := dlook_val hk tv el
                have g : DGet H _ y (some w) := .inl ⟨kvs, key, .inl hH, key_val wy ekey, ew.symm⟩
                exact tail_of PySem.F.slot_dict_getitem.lookup hs (dict_typeIs I g) (d_getItem (by omega) I g ry fun w' s' I' rw' => ⟨w, H, I', rw', p0.ok r tw⟩)
      · cases k
    cases t1 with
    | str z => cases t2 with
      | int i =>
        have p : Post Γ W σv (TV Γ) Z φ H (if decide (z.length ≤ big) then (match L2.atI z.cps.toList i with
          | some c => some (.ok (.str ⟨#[c]⟩) h)
          | none => none) else none) Q := p
        split at p
        · rename_i hz
          cases ec : L2.atI z.cps.toList i with
          | none => rw [ec] at p; exact p.elim
          | some c =>
            rw [ec] at p
            cases tw_str wx
            cases wy
            exact ix_str value slice pins s σv H _ _ v u Q I rx ry ⟨z, i, c, rfl, rfl, big_lt (of_decide_eq_true hz), ec, p.ok r (.str _)⟩ (noSlice_ix hs _ _)
        · exact p.elim
      | _ => exact p.elim
    | ref a =>
      dsimp only at p
      cases ek : h[a]? with
      | none => rw [ek] at p; exact p.elim
      | some mo => cases mo with
        | dct l => rw [ek] at p; exact dict rfl ek p
        | lst l =>
          rw [ek] at p
          cases t2 with
          | int i => exact sq (kk := false) rfl (.inl (by simp [seqOf, ek])) p
          | _ => exact p.elim
        | _ => rw [ek] at p; exact p.elim
    | tup l => cases t2 with
      | int i => exact sq (kk := true) rfl (.inr rfl) p
      | _ => exact p.elim
    | ptu l => cases t2 with
      | int i => exact sq (kk := true) rfl (.inr rfl) p
      | _ => exact p.elim
    | lst l => cases t2 with
      | int i => exact sq (kk := false) rfl (.inr rfl) p
      | _ => exact p.elim
    | frl l => cases t2 with
      | int i => exact sq (kk := false) rfl (.inr rfl) p
      | _ => exact p.elim
    | vl l => cases t2 with
      | int i => exact sq (kk := false) rfl (.inr rfl) p
      | _ => exact p.elim
    | _ => cases t2 <;> exact p.elim
end
end Ev
end
section
set_option Elab.async false
set_option linter.all false
set_option maxRecDepth 100000
set_option maxHeartbeats 1000000
/-! Ev, part Z: the other values. -/
namespace Ev
open PySem PySem.Spec PyProof.Rows L2

section
variable {Γ : Gam} {Z : Addr → Prop} {φ : List Addr} {H : Hp} {h : Hh} {X : Cx} {W : WX} {n m : Nat} {pins : List (Addr × Obj)} {σv : L2.St} {s : Shared}
/-- (e, ..) -/
theorem s_tup {es : List Expr} {l : List CE} {x1 : Nat} {pos : Pos} (ha : PA X es (rdA Γ W fun σ h => evArgs (Γ.at_ n) σ l h)) : PE X (.Tuple es x1 pos) (rdE Γ W fun σ h => evE Γ.G (Γ.at_ n) σ (.tup l) h) := pe_weaken (pe_tup ha) fun σv H Q q => by
  obtain ⟨Z, φ, hh, σ, r, s, p⟩ := q
  have p : Post Γ W σv (TV Γ) Z φ H (Ro.bd (evArgs (Γ.at_ n) σ l hh) fun ts h => if ts.length ≤ big then some (.ok (.tup ts) h) else none) Q := p
  refine ⟨Z, φ, hh, σ, r, s, (Post.bd (rel := TVs Γ) p).mono fun vs H1 ⟨Z1, φ1, h1, ts, le, r1, tv, q⟩ => ?_⟩
  split at q
  · rename_i hz
    exact ⟨by rw [tv.length]; exact big_lt hz, fun p hp => Post.tup r1 tv hp q⟩
  · exact q.elim
/-- not e -/
theorem s_not (wd : WdF Γ) (gd : Gd Γ (n + 1) X W) (fa : FnAll Γ n) {e : Expr} {c : CE} {pos : Pos} (he : PE X e (rdW Γ W fun σ h => evV (Γ.at_ n) σ c h)) : PE X (.UnaryOp .Not e pos) (rdE Γ W fun σ h => evE Γ.G (Γ.at_ n) σ (.not c) h) := by
  refine ⟨fun pins s σv H Q I q => ?_⟩
  obtain ⟨Z, φ, hh, σ, r, sr, p⟩ := q
  replace p : Post Γ W σv (TV Γ) Z φ H (Ro.bd (evV (Γ.at_ n) σ c hh) fun t h => Ro.bd (truE Γ.G (Γ.at_ n) t h) fun b h => some (.ok (.bl (!b)) h)) Q := p
  refine UnaryOp_ (thn (he.run pins s σv H _ I ⟨Z, φ, hh, σ, r, sr, Post.bd (rel := TW Γ) p⟩) fun v s1 ⟨x, H1, I1, r1, Z1, φ1, h1, t, le, R1, w1, q1⟩ => ?_)
  exact not_of (thn (tru_S wd gd fa I1 r1 R1 w1 (Post.bd (rel := fun _ _ _ b a => b = a) q1)) fun b s2 ⟨H2, I2, Z2, φ2, h2, b', le2, R2, eb, q2⟩ => by
    subst eb
    exact ⟨.bl (!b), H2, I2, rfl, q2.ok R2 (.bl _)⟩)
/-- -e -/
theorem s_neg (wd : WdF Γ) (gd : Gd Γ (n + 1) X W) (fa : FnAll Γ n) {e : Expr} {c : CE} {pos : Pos} (he : PE X e (rdE Γ W fun σ h => (Γ.at_ n).e σ c h)) : PE X (.UnaryOp .USub e pos) (rdE Γ W fun σ h => evE Γ.G (Γ.at_ n) σ (.neg c) h) := by
  refine ⟨fun pins s σv H Q I q => ?_⟩
  obtain ⟨Z, φ, hh, σ, r, sr, p⟩ := q
  replace p : Post Γ W σv (TV Γ) Z φ H (Ro.bd ((Γ.at_ n).e σ c hh) fun x h => negE Γ.G (Γ.at_ n) x h) Q := p
  exact UnaryOp_ (thn (he.run pins s σv H _ I ⟨Z, φ, hh, σ, r, sr, Post.bd (rel := TV Γ) p⟩) fun v s1 ⟨x, H1, I1, r1, Z1, φ1, h1, t, le, R1, w1, q1⟩ => neg_S wd gd fa I1 r1 R1 w1 q1)
/-- a o b -/
theorem s_bin (wd : WdF Γ) (gd : Gd Γ (n + 1) X W) (fa : FnAll Γ n) {a b : Expr} {ca cb : CE} {op : Operator} {o : Bop} {pos : Pos} (ho : ckOp op o = true) (ha : PE X a (rdW Γ W fun σ h => evV (Γ.at_ n) σ ca h)) (hb : PE X b (rdW Γ W fun σ h => evV (Γ.at_ n) σ cb h)) :
    PE X (.BinOp a op b pos) (rdE Γ W fun σ h => evE Γ.G (Γ.at_ n) σ (.bin o ca cb) h) := by
  have os : OpS X (binaryOp op) (fun σ x y H Q => At2 Γ W σ (TV Γ) (fun t u h => binE Γ.G (Γ.at_ n) o t u h) Q x y H) := by
    intro pins s σ H x y v u Q I rx ry h
    obtain ⟨Z, φ, hh, t, u', r, w1, w2, p⟩ := h
    exact bin_S wd gd fa ho I rx ry r w1 w2 p
  exact pe_weaken (pe_opS os ha hb) fun σv H Q q => at2 (F := fun t u h => binE Γ.G (Γ.at_ n) o t u h) q
/-- a o b, a comparison -/
theorem s_cmp (wd : WdF Γ) (gd : Gd Γ (n + 1) X W) (fa : FnAll Γ n) {a b : Expr} {ca cb : CE} {op : CmpOp} {o : Cop} {pos : Pos} (ho : ckCmp op o = true) (hs : noSet b = true) (ha : PE X a (rdW Γ W fun σ h => evV (Γ.at_ n) σ ca h)) (hb : PE X b (rdW Γ W fun σ h => evV (Γ.at_ n) σ cb h)) :
    PE X (.Compare a [op] [b] pos) (rdE Γ W fun σ h => evE Γ.G (Γ.at_ n) σ (.cmp o ca cb) h) := pe_weaken (pe_cmpS (ops_cmp (W := W) wd gd fa ho) ha hb (noSet_mark hs)) fun σv H Q q => by
  have q : rd Γ W (TV Γ) (fun σ h => Ro.bd (evV (Γ.at_ n) σ ca h) fun x h => Ro.bd (evV (Γ.at_ n) σ cb h) fun y h => Ro.bd (cmpE Γ.G (Γ.at_ n) o x y h) fun b h => some (.ok (.bl b) h)) σv H Q := q
  refine (at2 q).mono fun x H1 h1 => h1.mono fun y H2 h2 => ?_
  obtain ⟨Z, φ, hh, t, u, r, w1, w2, p⟩ := h2
  exact ⟨_, ⟨Z, φ, hh, t, u, r, w1, w2, Post.bd (rel := fun _ _ _ b a => b = a) p⟩, fun b H' ⟨Z1, φ1, h1, b', le, r1, eb, q1⟩ => by subst eb; exact q1.ok r1 (.bl _)⟩
/-- a o b o' c -/
theorem s_cmp2 (gd : Gd Γ (n + 1) X W) {a b c : Expr} {ca cb cc : CE} {op op' : CmpOp} {o o' : Cop} {pos : Pos} (ho : ckCmp op o = true) (ho' : ckCmp op' o' = true) (hs : noSet c = true) (ha : PE X a (rdE Γ W fun σ h => (Γ.at_ n).e σ ca h)) (hb : PE X b (rdE Γ W fun σ h => (Γ.at_ n).e σ cb h)) (hc : PE X c (rdE Γ W fun σ h => (Γ.at_ n).e σ cc h)) :
    PE X (.Compare a [op, op'] [b, c] pos) (rdE Γ W fun σ h => evE Γ.G (Γ.at_ n) σ (.cmp2 o o' ca cb cc) h) := by
  have hu := gd.room.units
  refine pe_weaken (pe_chain (opr_cm (cmpR_of ho gd.K hu)) (opr_cm (cmpR_of ho' gd.K hu)) ha hb hc (lastM hs)) fun σv H Q q => ?_
  have q : rd Γ W (TV Γ) (fun σ h => Ro.bd (cmp2E (Γ.at_ n) o o' σ ca cb cc h) fun k h => some (.ok (.bl k) h)) σv H Q := q
  have q2 := rd_cmp2 (rd_bd (rel := fun _ _ _ b a => b = a) q)
  refine rd.mono q2 fun x H1 k1 => rd.mono k1 fun y H2 k2 => ?_
  obtain ⟨Z1, φ1, h1, t, u, b, r1, w1, w2, e1, k, ek, k3⟩ := k2
  refine ⟨Z1, φ1, h1, t, u, b, r1, w1, w2, e1, k, ek, ?_⟩
  have fin : ∀ {z : V} {H' : Hp}, (∃ k, z = .bl k ∧ ∃ (Z1 : Addr → Prop) (φ1 : List Addr) (h1 : Hh) (σ : Sl) (a : Bool), R Γ Z1 φ1 H' h1 ∧ SR Γ Z1 φ1 H' σ σv ∧ k = a ∧ Post Γ W σv (TV Γ) Z1 φ1 H' (some (.ok (.bl a) h1)) Q) → Q z H' := fun {z H'} ⟨k, ez, Z1, φ1, h1, σ, k', r1, s1, ek, q1⟩ => by
    subst ez ek
    exact q1.ok r1 (.bl _)
  cases k with
  | false => exact fin k3
  | true =>
    refine rd.mono k3 fun z H3 k4 => ?_
    obtain ⟨Z2, φ2, h2, t2, u2, b2, r2, w3, w4, e2, q4⟩ := k4
    exact ⟨Z2, φ2, h2, t2, u2, b2, r2, w3, w4, e2, fin q4⟩
end
end Ev
end
section
set_option Elab.async false
set_option linter.all false
set_option maxRecDepth 100000
set_option maxHeartbeats 1000000
/-! Ev, part Za: and, or, texts with parts, dicts. -/
namespace Ev
open PySem PySem.Spec PyProof.Rows L2

section
variable {Γ : Gam} {Z : Addr → Prop} {φ : List Addr} {H : Hp} {h : Hh} {X : Cx} {W : WX} {n m : Nat} {pins : List (Addr × Obj)} {σv : L2.St} {s : Shared}
/-- and, or -/
theorem s_bop (gd : Gd Γ (n + 1) X W) (L : LvE Γ n) {k : Nat} {op : BoolOp} {kk : Bool} {es : List Expr} {l : List CE} {pos : Pos} (hb : bopB op kk = true) (hl : (!l.isEmpty) = true) (hc : all2 (ck Γ.nms X.N k false X.env.scope) es l = true) :
    PE X (.BoolOp op es pos) (rdE Γ W fun σ h => evE Γ.G (Γ.at_ n) σ (.bop kk l) h) := by
  have gd' := gd.down (Nat.le_succ n)
  match es, l, hc, hl with
  | _, [], _, hl => cases hl
  | [], _ :: _, hc, _ => cases hc
  | [e], [c], hc, _ =>
    obtain ⟨h1, _⟩ := ba2 hc
    exact pe_one (L X W gd' k e c h1)
  | [_], _ :: _ :: _, hc, _ => simp [all2] at hc
  | _ :: _ :: _, [_], hc, _ => simp [all2] at hc
  | e :: e2 :: es, c :: c2 :: l, hc, _ =>
    obtain ⟨h1, h2⟩ := ba2 hc
    have P1 := L X W gd' k e c h1
    have P2 := L X W gd' (k + 1) (.BoolOp op (e2 :: es) pos) (.bop kk (c2 :: l)) (by
      show (bopB op kk && !(c2 :: l).isEmpty && all2 (ck Γ.nms X.N k false X.env.scope) (e2 :: es) (c2 :: l)) = true
      rw [hb, h2]
      rfl)
    cases op with
    | And =>
      have : kk = true := hb
      subst this
      refine pe_weaken (pe_and P1 P2) fun σv H Q q => ?_
      have q : rd Γ W (TV Γ) (fun σ h => Ro.bd ((Γ.at_ n).e σ c h) fun x h => (match x with
        | .bl b => if b == true then (Γ.at_ n).e σ (.bop true (c2 :: l)) h else some (.ok (.bl b) h)
        | _ => none)) σv H Q := q
      refine (rd_bd (rel := TV Γ) q).mono fun x H1 ⟨Z1, φ1, h1, σ, t, r1, s1, w1, q1⟩ => ?_
      cases t with
      | bl b =>
        cases w1
        refine ⟨b, rfl, ?_⟩
        cases b with
        | true => exact ⟨Z1, φ1, h1, σ, r1, s1, q1⟩
        | false => exact q1.ok r1 (.bl _)
      | _ => exact q1.elim
    | Or =>
      have : kk = false := by cases kk <;> first | rfl | cases hb
      subst this
      refine pe_weaken (pe_or P1 P2) fun σv H Q q => ?_
      have q : rd Γ W (TV Γ) (fun σ h => Ro.bd ((Γ.at_ n).e σ c h) fun x h => (match x with
        | .bl b => if b == false then (Γ.at_ n).e σ (.bop false (c2 :: l)) h else some (.ok (.bl b) h)
        | _ => none)) σv H Q := q
      refine (rd_bd (rel := TV Γ) q).mono fun x H1 ⟨Z1, φ1, h1, σ, t, r1, s1, w1, q1⟩ => ?_
      cases t with
      | bl b =>
        cases w1
        refine ⟨b, rfl, ?_⟩
        cases b with
        | true => exact q1.ok r1 (.bl _)
        | false => exact ⟨Z1, φ1, h1, σ, r1, s1, q1⟩
      | _ => exact q1.elim
/-- a if c else b -/
theorem s_ife (wd : WdF Γ) (gd : Gd Γ (n + 1) X W) (fa : FnAll Γ n) (L : LvE Γ n) {c a b : Expr} {cc ca cb : CE} {pos : Pos} (hc : PT X c (rdB Γ W fun σ h => evB Γ.G (Γ.at_ n) 50 σ cc h)) (ha : PE X a (rdE Γ W fun σ h => (Γ.at_ n).e σ ca h)) (hb : PE X b (rdE Γ W fun σ h => (Γ.at_ n).e σ cb h)) :
    PE X (.IfExp c a b pos) (rdE Γ W fun σ h => evE Γ.G (Γ.at_ n) σ (.ife cc ca cb) h) := pe_weaken (pe_ifExp hc ha hb) fun σv H Q q => by
  have q : rd Γ W (TV Γ) (fun σ h => Ro.bd (evB Γ.G (Γ.at_ n) 50 σ cc h) fun x h => if x then (Γ.at_ n).e σ ca h else (Γ.at_ n).e σ cb h) σv H Q := q
  refine (rd_bd (rel := fun _ _ _ b a => b = a) q).mono fun x H1 ⟨Z1, φ1, h1, σ, t, r1, s1, w1, q1⟩ => ?_
  subst w1
  cases x with
  | true => exact ⟨Z1, φ1, h1, σ, r1, s1, q1⟩
  | false => exact ⟨Z1, φ1, h1, σ, r1, s1, q1⟩

/-! ### f-strings -/
theorem rep_text {y : Str} {t : T} {sp : Option Str} {x : V} (e : fmtT t sp = some y) (w : TW Γ Z φ H x t) : (∃ z : Str, x = .str z ∧ y = z) ∨ ∃ i : Int, x = .int i ∧ i.natAbs.log2 < 1920 ∧ y = toString i := by
  unfold fmtT at e
  split at e
  · split at e
    · rename_i hz
      cases e
      exact .inr ⟨_, tw_int w, of_decide_eq_true hz, rfl⟩
    · cases e
  · cases e
    exact .inl ⟨_, tw_str w, rfl⟩
  · cases e
theorem fmt_parts (gd : Gd Γ n X W) (L : LvE Γ n) {k : Nat} : ∀ {es : List Expr} {cs : List CE}, all2 (partB (ck Γ.nms X.N k false X.env.scope)) es cs = true →
    ∃ ts, PJ X es ts ∧ ∀ (acc : Str) (σv : L2.St) (H : Hp) (Q : Str → Hp → Prop), acc.length + 1000 * es.length ≤ sizeLine → rd Γ W (fun _ _ _ (b : List Str) a => b = a) (fun σ h => evFmt (Γ.at_ n) σ cs h) σv H (fun xs H' => Q (catS acc xs) H') → tJs ts acc σv H Q
  | [], [], _ => ⟨[], .nil, fun acc σv H Q _ q => by
      obtain ⟨Z, φ, hh, σ, r, sr, p⟩ := q
      exact p Z φ H [] .refl r rfl⟩
  | [], _ :: _, h => by cases h
  | _ :: _, [], h => by cases h
  | e :: es, c :: cs, h => by
    obtain ⟨h1, h2⟩ := ba2 h
    obtain ⟨ts, J, F⟩ := fmt_parts gd L h2
    unfold partB at h1
    split at h1
    · rename_i x kk pp y
      have exy : x = y := of_decide_eq_true h1
      subst exy
      refine ⟨_ :: ts, .cons pe_str J, fun acc σv H Q hz q => ?_⟩
      obtain ⟨Z, φ, hh, σ, r, sr, p⟩ := q
      replace p : Post Γ W σv (fun _ _ _ (b : List Str) a => b = a) Z φ H (if x.length ≤ 1000 then Ro.bd (evFmt (Γ.at_ n) σ cs hh) fun xs h => some (.ok (x :: xs) h) else none) (fun xs H' => Q (catS acc xs) H') := p
      split at p
      · rename_i hx
        rw [List.length_cons] at hz
        have hl := Str.length_append acc x
        refine ⟨x, rfl, by omega, F (acc ++ x) σv H Q (by omega) ⟨Z, φ, hh, σ, r, sr, (Post.bd (rel := fun _ _ _ (b : List Str) a => b = a) p).mono fun xs H1 ⟨Z1, φ1, h1, a, le, r1, e1, q1⟩ => ?_⟩⟩
        subst e1
        exact q1 Z1 φ1 H1 _ .refl r1 rfl
      · exact p.elim
    · rename_i p0 cv pp a
      obtain ⟨hcv, hck⟩ := ba2 h1
      have hcv : cv = -1 := of_decide_eq_true hcv
      subst hcv
      refine ⟨_ :: ts, .cons (pe_fmt (ck_V gd L hck)) J, fun acc σv H Q hz q => ?_⟩
      obtain ⟨Z, φ, hh, σ, r, sr, p⟩ := q
      replace p : Post Γ W σv (fun _ _ _ (b : List Str) a => b = a) Z φ H (Ro.bd (evV (Γ.at_ n) σ a hh) fun t h => (match fmtT t none with
        | some x => if x.length ≤ 1000 then Ro.bd (evFmt (Γ.at_ n) σ cs h) fun xs h => some (.ok (x :: xs) h) else none
        | none => none)) (fun xs H' => Q (catS acc xs) H') := p
      rw [List.length_cons] at hz
      refine ⟨Z, φ, hh, σ, r, sr, (Post.bd (rel := TW Γ) p).mono fun x H1 ⟨Z1, φ1, h1, t, le, r1, w1, q1⟩ => ?_⟩
      cases ef : fmtT t none with
      | none => rw [ef] at q1; exact q1.elim
      | some y =>
        rw [ef] at q1
        dsimp only at q1
        split at q1
        · rename_i hy
          have hl := Str.length_append acc y
          have tail : ∃ z : Str, V.str y = .str z ∧ (acc ++ z).length ≤ sizeLine ∧ tJs ts (acc ++ z) σv H1 Q := ⟨y, rfl, by omega, F (acc ++ y) σv H1 Q (by omega) ⟨Z1, φ1, h1, σ, r1, sr.mono r le, (Post.bd (rel := fun _ _ _ (b : List Str) a => b = a) q1).mono fun xs H2 ⟨Z2, φ2, h2, a, le2, r2, e2, q2⟩ => by
            subst e2
            exact q2 Z2 φ2 H2 _ .refl r2 rfl⟩⟩
          rcases rep_text ef w1 with ⟨z, rfl, rfl⟩ | ⟨i, rfl, hi, rfl⟩
          · exact .inl ⟨y, rfl, by omega, tail⟩
          · exact .inr ⟨i, rfl, hi, tail⟩
        · exact q1.elim
    · cases h1
theorem all2_len {α β : Type} {f : α → β → Bool} : ∀ {l : List α} {m : List β}, all2 f l m = true → l.length = m.length
  | [], [], _ => rfl
  | a :: l, b :: m, h => by rw [List.length_cons, List.length_cons, all2_len (ba2 h).2]
  | [], _ :: _, h => by cases h
  | _ :: _, [], h => by cases h
/-- f'..' -/
theorem s_fmt (gd : Gd Γ (n + 1) X W) (L : LvE Γ n) {k : Nat} {es : List Expr} {cs : List CE} {pos : Pos} (h : all2 (partB (ck Γ.nms X.N k false X.env.scope)) es cs = true) : PE X (.JoinedStr es pos) (rdE Γ W fun σ h => evE Γ.G (Γ.at_ n) σ (.fmt cs) h) := by
  have hlen := all2_len h
  by_cases hc : (decide (2 ≤ cs.length) && decide (cs.length ≤ 100)) = true
  · obtain ⟨h2, h100⟩ := ba2 hc
    have h2 := of_decide_eq_true h2
    have h100 := of_decide_eq_true h100
    obtain ⟨ts, J, F⟩ := fmt_parts (gd.down (Nat.le_succ n)) L h
    match es, J, h, hlen, F with
    | e1 :: e2 :: es, J, h, hlen, F =>
      refine pe_weaken (pe_joined J) fun σv H Q q => F Str.empty σv H _ ?_ ?_
      · have : Str.empty.length = 0 := rfl
        rw [sizeLine_eq, hlen]
        omega
      · obtain ⟨Z, φ, hh, σ, r, sr, p⟩ := q
        have p : Post Γ W σv (TV Γ) Z φ H (if (decide (2 ≤ cs.length) && decide (cs.length ≤ 100)) = true then Ro.bd (evFmt (Γ.at_ n) σ cs hh) fun xs h => some (.ok (.str (catS Str.empty xs)) h) else none) Q := p
        rw [if_pos hc] at p
        exact ⟨Z, φ, hh, σ, r, sr, (Post.bd (rel := fun _ _ _ (b : List Str) a => b = a) p).mono fun xs H1 ⟨Z1, φ1, h1, a, le, r1, e1, q1⟩ => by
          subst e1
          exact q1.ok r1 (.str _)⟩
    | [], _, _, hlen, _ => rw [List.length_nil] at hlen; omega
    | [_], _, _, hlen, _ => rw [List.length_singleton] at hlen; omega
  · exact pe_never fun σ h => by
      show (if (decide (2 ≤ cs.length) && decide (cs.length ≤ 100)) = true then _ else none) = none
      rw [if_neg hc]

/-! ### dicts -/
theorem TVs.map_if {κ : Type} [DecidableEq κ] {k : κ} {v : V} {t : T} (w : TV Γ Z φ H v t) : ∀ {kvs : List (κ × V)} {l : List (κ × T)}, kvs.map (·.1) = l.map (·.1) → TVs Γ Z φ H (kvs.map (·.2)) (l.map (·.2)) →
    (kvs.map fun p => if p.1 = k then (p.1, v) else p).map (·.1) = (l.map fun p => if p.1 = k then (p.1, t) else p).map (·.1) ∧ TVs Γ Z φ H ((kvs.map fun p => if p.1 = k then (p.1, v) else p).map (·.2)) ((l.map fun p => if p.1 = k then (p.1, t) else p).map (·.2))
  | [], [], _, _ => ⟨rfl, .nil⟩
  | [], _ :: _, h, _ => by cases h
  | _ :: _, [], h, _ => by cases h
  | (j, x) :: kvs, (j', y) :: l, h, q => by
    simp only [List.map_cons, List.cons.injEq] at h q
    obtain ⟨h1, h2⟩ := h
    subst h1
    cases q with
    | cons a b =>
      obtain ⟨i1, i2⟩ := TVs.map_if w h2 b
      by_cases e : j = k
      · simp only [List.map_cons, if_pos e]
        exact ⟨by rw [i1], .cons w i2⟩
      · simp only [List.map_cons, if_neg e]
        exact ⟨by rw [i1], .cons a i2⟩
theorem any_keys {κ : Type} [DecidableEq κ] {α β : Type} {k : κ} : ∀ {kvs : List (κ × α)} {l : List (κ × β)}, kvs.map (·.1) = l.map (·.1) → (kvs.any fun p => decide (p.1 = k)) = l.any fun p => decide (p.1 = k)
  | [], [], _ => rfl
  | [], _ :: _, h => by cases h
  | _ :: _, [], h => by cases h
  | p :: kvs, q :: l, h => by
    simp only [List.map_cons, List.cons.injEq] at h
    rw [List.any_cons, List.any_cons, h.1, any_keys h.2]
theorem put_rel {k : Key} {v : V} {t : T} {kvs : List (Key × V)} {l : List (Key × T)} (w : TV Γ Z φ H v t) (h : kvs.map (·.1) = l.map (·.1)) (q : TVs Γ Z φ H (kvs.map (·.2)) (l.map (·.2))) :
    (putK kvs k v).map (·.1) = (dput k t l).map (·.1) ∧ TVs Γ Z φ H ((putK kvs k v).map (·.2)) ((dput k t l).map (·.2)) := by
  unfold putK dput
  rw [any_keys h]
  split
  · exact TVs.map_if w h q
  · simp only [List.map_append, List.map_cons, List.map_nil]
    exact ⟨by rw [h], q.app (.cons w .nil)⟩
theorem merge_rel : ∀ {kvs : List (Key × V)} {l : List (Key × T)} {acc : List (Key × V)} {ac : List (Key × T)}, kvs.map (·.1) = l.map (·.1) → TVs Γ Z φ H (kvs.map (·.2)) (l.map (·.2)) → acc.map (·.1) = ac.map (·.1) → TVs Γ Z φ H (acc.map (·.2)) (ac.map (·.2)) →
    (mergeK acc kvs).map (·.1) = (l.foldl (fun acc p => dput p.1 p.2 acc) ac).map (·.1) ∧ TVs Γ Z φ H ((mergeK acc kvs).map (·.2)) ((l.foldl (fun acc p => dput p.1 p.2 acc) ac).map (·.2))
  | [], [], _, _, _, _, h, q => ⟨h, q⟩
  | [], _ :: _, _, _, h, _, _, _ => by cases h
  | _ :: _, [], _, _, h, _, _, _ => by cases h
  | (j, x) :: kvs, (j', y) :: l, acc, ac, hk, hv, h, q => by
    simp only [List.map_cons, List.cons.injEq] at hk hv
    obtain ⟨h1, h2⟩ := hk
    subst h1
    cases hv with
    | cons a b =>
      obtain ⟨i1, i2⟩ := put_rel (k := j) a h q
      exact merge_rel (kvs := kvs) (l := l) (acc := putK acc j x) (ac := dput j y ac) h2 b i1 i2
/-- a new cell -/
theorem R.cell_new (r : R Γ Z φ H h) {p : Addr} {mo : MO} (nz : ¬ Z p) (np : p ∉ φ) (new : MOk Γ Z (φ ++ [p]) H p mo) : R Γ Z (φ ++ [p]) H (h ++ [mo]) := by
  have lz : LeZ Z φ H Z (φ ++ [p]) H := ⟨fun n a e => by rw [List.getElem?_append_left (List.getElem?_eq_some_iff.mp e).1]; exact e, fun _ z => ⟨z, rfl⟩⟩
  refine ⟨?_, by rw [List.length_append, List.length_append, r.len] <;> rfl, fun a z => ?_, fun n m a e1 e2 => ?_⟩
  · rw [List.nodup_append]
    exact ⟨r.nd, by simp, fun a ha b hb => by simp at hb; subst hb; exact fun e => np (e ▸ ha)⟩
  · obtain ⟨h1, h2⟩ := r.dz a z
    refine ⟨fun hm => ?_, h2⟩
    rcases List.mem_append.mp hm with hm | hm
    · exact h1 hm
    · simp at hm
      subst hm
      exact nz z
  · by_cases hn : n < h.length
    · rw [List.getElem?_append_left hn] at e1
      rw [List.getElem?_append_left (by rw [r.len]; exact hn)] at e2
      exact (r.ok n m a e1 e2).monoZ lz rfl
    · have hl : n = h.length := by
        have := (List.getElem?_eq_some_iff.mp e1).1
        rw [List.length_append, List.length_singleton] at this
        omega
      subst hl
      rw [List.getElem?_append_right (Nat.le_refl _)] at e1
      rw [← r.len, List.getElem?_append_right (Nat.le_refl _)] at e2
      simp at e1 e2
      subst e1 e2
      exact new
theorem Le.cell_new {Z0 : Addr → Prop} {φ0 : List Addr} {H0 : Hp} (le : Le Z0 φ0 H0 Z φ H) {p : Addr} (h0 : H0 p = none) : Le Z0 φ0 H0 Z (φ ++ [p]) H :=
  ⟨fun n a e => by
    have e := le.pf n a e
    rw [List.getElem?_append_left (List.getElem?_eq_some_iff.mp e).1]; exact e, fun a o e na => by
    obtain ⟨h1, h2, h3⟩ := le.kp a o e na
    refine ⟨h1, h2, fun hm => ?_⟩
    rcases List.mem_append.mp hm with hm | hm
    · exact h3 hm
    · simp at hm
      subst hm
      rw [h0] at e
      cases e⟩
theorem LeZ.cell_new {p : Addr} : LeZ Z φ H Z (φ ++ [p]) H := ⟨fun n a e => by rw [List.getElem?_append_left (List.getElem?_eq_some_iff.mp e).1]; exact e, fun _ z => ⟨z, rfl⟩⟩
/-- a step, the base kept -/
theorem Post.bdK {α β γ δ : Type} {σv : L2.St} {rel : (Addr → Prop) → List Addr → Hp → β → α → Prop} {rel2 : (Addr → Prop) → List Addr → Hp → δ → γ → Prop} {mm : Ro α} {f : α → Hh → Ro γ} {Q : δ → Hp → Prop} {Zx : Addr → Prop} {φx : List Addr} {Hx : Hp}
    (le0 : Le Z φ H Zx φx Hx) (p : Post Γ W σv rel2 Z φ H (Ro.bd mm f) Q) : Post Γ W σv rel Zx φx Hx mm (fun b H1 => ∃ (Z1 : Addr → Prop) (φ1 : List Addr) (h1 : Hh) (a : α), Le Zx φx Hx Z1 φ1 H1 ∧ R Γ Z1 φ1 H1 h1 ∧ rel Z1 φ1 H1 b a ∧ Post Γ W σv rel2 Z φ H (f a h1) Q) := by
  cases mm with
  | none => exact p
  | some x => cases x with
    | ok a h => exact fun Z1 φ1 H1 b le r rr => ⟨Z1, φ1, h, a, le, r, rr, p⟩
    | ex c fs h => exact fun Z1 φ1 H1 d gs le r hd nz np nh tf => p Z1 φ1 H1 d gs (le0.trans le) r hd nz np (le0.fresh nh (le.notin np)) tf
theorem dct_pairs (gd : Gd Γ n X W) (L : LvE Γ n) {k : Nat} {pos : Pos} : ∀ {ks' : List (Option Expr)} {vs' : List Expr} {ks vs : List CE}, all2 (optB (ck Γ.nms X.N k false X.env.scope)) ks' ks = true → all2 (ck Γ.nms X.N k false X.env.scope) vs' vs = true → ks.length = vs.length →
    ∃ trs, PPs X pos ks' vs' trs ∧ ∀ (σv : L2.St) (H : Hp) (Q : List (V × V) → Hp → Prop), rd Γ W (fun Z φ H (ps : List (V × V)) (l : List (Key × T)) => ∃ kvs : List (Key × V), ps = kvs.map (fun kv => (kV kv.1, kv.2)) ∧ kvs.map (·.1) = l.map (·.1) ∧ TVs Γ Z φ H (kvs.map (·.2)) (l.map (·.2))) (fun σ h => evPairs (Γ.at_ n) σ ks vs h) σv H Q → tPairs trs σv H Q
  | [], vs', [], vs, _, h2, hl => by
    cases vs with
    | cons => cases hl
    | nil =>
      cases all2_nil h2
      refine ⟨[], pps_nil, fun σv H Q q => ?_⟩
      obtain ⟨Z, φ, hh, σ, r, sr, p⟩ := q
      exact p Z φ H [] .refl r ⟨[], rfl, rfl, .nil⟩
  | [], _, _ :: _, _, h, _, _ => by cases h
  | _ :: _, _, [], _, h, _, _ => by cases h
  | none :: _, _, _ :: _, _, h, _, _ => by cases (ba2 h).1
  | some ke :: ks', vs', kc :: ks, vs, h1, h2, hl => by
    cases vs with
    | nil => cases hl
    | cons vc vs =>
      cases vs' with
      | nil => cases h2
      | cons ve vs' =>
        obtain ⟨a1, a2⟩ := ba2 h1
        obtain ⟨b1, b2⟩ := ba2 h2
        have a1 : ck Γ.nms X.N k false X.env.scope ke kc = true := a1
        obtain ⟨trs, P, F⟩ := dct_pairs gd L a2 b2 (by simpa using hl)
        refine ⟨_, pps_cons (L X W gd k ke kc a1) (L X W gd k ve vc b1) P, fun σv H Q q => ?_⟩
        obtain ⟨Z, φ, hh, σ, r, sr, p⟩ := q
        have ev : evPairs (Γ.at_ n) σ (kc :: ks) (vc :: vs) hh = Ro.bd ((Γ.at_ n).e σ kc hh) fun t h => Ro.bd ((Γ.at_ n).e σ vc h) fun u h => (match keyT t with
          | some key => Ro.bd (evPairs (Γ.at_ n) σ ks vs h) fun l h => some (.ok ((key, u) :: l) h)
          | none => none) := rfl
        rw [show (fun σ h => evPairs (Γ.at_ n) σ (kc :: ks) (vc :: vs) h) σ hh = _ from ev] at p
        refine ⟨Z, φ, hh, σ, r, sr, (Post.bd (rel := TV Γ) p).mono fun x H1 ⟨Z1, φ1, h1, t, le1, r1, w1, q1⟩ => ⟨Z1, φ1, h1, σ, r1, sr.mono r le1, (Post.bd (rel := TV Γ) q1).mono fun y H2 ⟨Z2, φ2, h2, u, le2, r2, w2, q2⟩ => ?_⟩⟩
        cases ek : keyT t with
        | none => rw [ek] at q2; exact q2.elim
        | some key =>
          rw [ek] at q2
          have ex := key_val w1 ek
          refine F σv H2 _ ⟨Z2, φ2, h2, σ, r2, (sr.mono r le1).mono r1 le2, (Post.bd (rel := fun Z φ H (ps : List (V × V)) (l : List (Key × T)) => ∃ kvs : List (Key × V), ps = kvs.map (fun kv => (kV kv.1, kv.2)) ∧ kvs.map (·.1) = l.map (·.1) ∧ TVs Γ Z φ H (kvs.map (·.2)) (l.map (·.2))) q2).mono fun ps H3 ⟨Z3, φ3, h3, l, le3, r3, ⟨kvs, e1, e2, e3⟩, q3⟩ => ?_⟩
          refine q3 Z3 φ3 H3 _ .refl r3 ⟨(key, y) :: kvs, ?_, ?_, ?_⟩
          · rw [e1, ex]; rfl
          · simp only [List.map_cons, e2]
          · exact .cons (w2.mono r2 le3) e3
theorem optB_some : ∀ {f : Expr → CE → Bool} {l : List (Option Expr)} {m : List CE}, all2 (optB f) l m = true → l.all (·.isSome) = true
  | _, [], [], _ => rfl
  | _, [], _ :: _, h => by cases h
  | _, _ :: _, [], h => by cases h
  | f, none :: _, _ :: _, h => by cases (ba2 h).1
  | f, some a :: l, b :: m, h => by rw [List.all_cons, optB_some (ba2 h).2] <;> rfl
/-- {k: v, ..} -/
theorem s_dct (gd : Gd Γ (n + 1) X W) (L : LvE Γ n) {k : Nat} {ks' : List (Option Expr)} {vs' : List Expr} {ks vs : List CE} {pos : Pos} (h1 : all2 (optB (ck Γ.nms X.N k false X.env.scope)) ks' ks = true) (h2 : all2 (ck Γ.nms X.N k false X.env.scope) vs' vs = true) (hl : ks.length = vs.length) (h0 : ks ≠ []) (h15 : ks.length ≤ 15) :
    PE X (.Dict ks' vs' pos) (rdE Γ W fun σ h => evE Γ.G (Γ.at_ n) σ (.dct ks vs) h) := by
  obtain ⟨trs, P, F⟩ := dct_pairs (pos := pos) (gd.down (Nat.le_succ n)) L h1 h2 hl
  have l1 := all2_len h1
  have l2 := all2_len h2
  refine pe_weaken (pe_disp P (optB_some h1) (by rw [l1, l2, hl]) (fun e => h0 (by subst e; cases ks with | nil => rfl | cons => cases l1)) (by rw [l1]; exact h15)) fun σv H Q q => ?_
  obtain ⟨Z, φ, hh, σ, r, sr, p⟩ := q
  replace p : Post Γ W σv (TV Γ) Z φ H (Ro.bd (evPairs (Γ.at_ n) σ ks vs hh) fun l h => if l.length ≤ 15 then some (.ok (.ref h.length) (h ++ [.dct (mergeD l)])) else none) Q := p
  intro d hd
  refine F σv (upd H d (.dK [])) _ ⟨Z, φ, hh, σ, r.held hd, sr.mono r (Le.held hd), (Post.bdK (Le.held hd) (rel := fun Z φ H (ps : List (V × V)) (l : List (Key × T)) => ∃ kvs : List (Key × V), ps = kvs.map (fun kv => (kV kv.1, kv.2)) ∧ kvs.map (·.1) = l.map (·.1) ∧ TVs Γ Z φ H (kvs.map (·.2)) (l.map (·.2))) p).mono fun ps H2 ⟨Z1, φ1, h1, l, le, r1, ⟨kvs, e1, e2, e3⟩, q1⟩ => ?_⟩
  have nz : ¬ Z d := fun z => by obtain ⟨_, o, e⟩ := r.dz d z; rw [hd] at e; cases e
  obtain ⟨eD, zD, nD⟩ := le.kp d _ upd_same (r.notin hd)
  split at q1
  · rename_i hz
    have lk : kvs.length = l.length := by have := congrArg List.length e2; simpa using this
    refine ⟨eD, kvs, e1, by omega, ?_⟩
    obtain ⟨m1, m2⟩ := merge_rel (acc := []) (ac := []) e2 e3 rfl .nil
    have nz1 : ¬ Z1 d := fun z => nz (zD.mp z)
    have lz : LeZ Z1 φ1 H2 Z1 φ1 (upd H2 d (.dK (mergeK [] kvs))) := ⟨fun _ _ h => h, fun b z => ⟨z, upd_ne fun e => nz1 (e ▸ z)⟩⟩
    have r2 : R Γ Z1 φ1 (upd H2 d (.dK (mergeK [] kvs))) h1 := ⟨r1.nd, r1.len, fun a z => by
        obtain ⟨x1, o, x2⟩ := r1.dz a z
        have ne : a ≠ d := fun e => nz1 (e ▸ z)
        exact ⟨x1, o, by rw [upd_ne ne]; exact x2⟩, fun nn mo a x1 x2 => (r1.ok nn mo a x1 x2).monoZ lz (upd_ne fun e => nD (e ▸ List.mem_of_getElem? x2))⟩
    have r3 : R Γ Z1 (φ1 ++ [d]) (upd H2 d (.dK (mergeK [] kvs))) (h1 ++ [.dct (mergeD l)]) := r2.cell_new nz1 nD (.dct upd_same m1 ((m2.monoZ lz).monoZ LeZ.cell_new))
    -- back to where the display began
    have base : Le Z φ H Z1 φ1 (upd H2 d (.dK (mergeK [] kvs))) := ⟨le.pf, fun a o ea na => by
      have ne : a ≠ d := ne_of_none ea hd
      obtain ⟨x1, x2, x3⟩ := le.kp a o (by rw [upd_ne ne]; exact ea) na
      exact ⟨by rw [upd_ne ne]; exact x1, x2, x3⟩⟩
    have hlen : (φ1 ++ [d])[h1.length]? = some d := by rw [← r1.len, List.getElem?_append_right (Nat.le_refl _)]; simp
    exact q1 Z1 (φ1 ++ [d]) _ _ (base.cell_new hd) r3 (.ref hlen)
  · exact q1.elim
end
end Ev
end
section
set_option Elab.async false
set_option linter.all false
set_option maxRecDepth 100000
set_option maxHeartbeats 2000000
/-! Ev, part Zb: expressions put together. -/
namespace Ev
open PySem PySem.Spec PyProof.Rows L2

section
variable {Γ : Gam} {Z : Addr → Prop} {φ : List Addr} {H : Hp} {h : Hh} {X : Cx} {W : WX} {n m : Nat} {pins : List (Addr × Obj)} {σv : L2.St} {s : Shared}
/-- what holds at a level, and so at the next for expressions -/
structure Lvl (Γ : Gam) (n : Nat) : Prop where
  wd : WdF Γ
  gl : GlF Γ
  fa : FnAll Γ n
  fi : FiAll Γ n
  e : LvE Γ n
theorem tvs_ints : ∀ (ys : List Int), TVs Γ Z φ H (ys.map V.int) (ys.map T.int)
  | [] => .nil
  | y :: ys => .cons (.int y) (tvs_ints ys)
theorem ck_con {e : Expr} {t : T} (h : ckCon e t = true) : ∃ v, PE X e (tC v) ∧ ∀ Z φ H, TV Γ Z φ H v t := by
  unfold ckCon at h
  split at h
  · exact ⟨_, pe_non, fun _ _ _ => .non⟩
  · have := eq_of_beq h
    subst this
    exact ⟨_, pe_bl, fun _ _ _ => .bl _⟩
  · have : _ = _ := of_decide_eq_true h
    subst this
    exact ⟨_, pe_int, fun _ _ _ => .int _⟩
  · have : _ = _ := of_decide_eq_true h
    subst this
    exact ⟨_, pe_str, fun _ _ _ => .str _⟩
  · cases h
theorem sort_eq {a b : List Int} (h1 : a.Perm b) (h2 : a.Pairwise (· ≤ ·)) : a = b.mergeSort (fun a b => decide (a ≤ b)) := by
  have p2 : (b.mergeSort (fun a b => decide (a ≤ b))).Pairwise (fun a b => decide (a ≤ b) = true) := List.pairwise_mergeSort (le := fun a b : Int => decide (a ≤ b)) (fun a b c h1 h2 => by simp only [decide_eq_true_eq] at *; omega) (fun a b => by simp only [Bool.or_eq_true, decide_eq_true_eq]; omega) b
  have p2 : (b.mergeSort (fun a b => decide (a ≤ b))).Pairwise (· ≤ ·) := p2.imp fun h => of_decide_eq_true h
  exact List.Perm.eq_of_pairwise (le := (· ≤ ·)) (fun a b _ _ h1 h2 => Int.le_antisymm h1 h2) h2 p2 (h1.trans (List.mergeSort_perm b _).symm)
/-- sorted(x), ints -/
theorem l_sorted (gd : Gd Γ (n + 1) X W) (gl : GlF Γ) (L : LvE Γ n) {k g : Nat} {p pos : Pos} {e1 : Expr} {a : CE} (hg : Γ.G.gl g = some (.bi .sorted)) (hG : Gl X (Γ.gn g)) (hd : dbgB (Γ.gn g) = true) (n1 : notStar e1 = true) (h1 : ck Γ.nms X.N k false X.env.scope e1 a = true) :
    PE X (.Call (.Name (Γ.gn g) p) [e1] [] pos) (rdL Γ W fun σ h => Ro.bd (evV (Γ.at_ n) σ a h) fun x h => (match seqOf h x with
      | some (false, xs) => (match intsT xs with
        | some is => if decide (is.length < 64) then some (.ok ((is.mergeSort (fun a b => decide (a ≤ b))).map T.int) h) else none
        | none => none)
      | _ => none)) := by
  have gd' := gd.down (Nat.le_succ n)
  obtain ⟨hm, hx⟩ := gl g _ hg
  obtain ⟨d1, d2, d3⟩ := dbg_ok hd
  have hboot : bootBuiltins (Γ.gn g) = some (.builtin (biN .sorted)) := by rw [hx]; exact boot_bi rfl
  refine ⟨fun pins s σv H Q I q => ?_⟩
  obtain ⟨Z, φ, hh, σ, r, sr, pp⟩ := q
  refine wpAny_Call_Name_kw (ld_blt I hG (by rw [gd.mg]; exact hm) hboot ?_ d3 d1)
  have PAr := pa_cons (ck_V gd' L h1) pa_nil (starEach_cons n1)
  refine PyProof.Rows.callWith_builtin1 (thn (PAr.run pos pins s σv H (fun vs H' => ∃ x t Z' φ' h', vs = [x] ∧ Le Z φ H Z' φ' H' ∧ R Γ Z' φ' H' h' ∧ TW Γ Z' φ' H' x t ∧ Post Γ W σv (OL Γ H) Z' φ' H' (match seqOf h' t with
      | some (false, xs) => (match intsT xs with
        | some is => if decide (is.length < 64) then some (.ok ((is.mergeSort (fun a b => decide (a ≤ b))).map T.int) h') else none
        | none => none)
      | _ => none) Q) I ?_) fun us s1 ⟨vs, H1, I1, rv, x, t, Z', φ', h', e, le, r', w1, p'⟩ => ?_) (starEach_cons n1) (any_plain (es := []) rfl)
  · exact ⟨Z, φ, hh, σ, r, sr, (Post.bd (rel := TW Γ) pp).mono fun x H1 ⟨Z1, φ1, h1, t, le, r1, w1, q1⟩ => ⟨x, t, Z1, φ1, h1, rfl, le, r1, w1, q1⟩⟩
  · subst e
    split at p'
    · rename_i xs es
      split at p'
      · rename_i is ei
        split at p'
        · rename_i h64
          obtain ⟨a, vs, rfl, tv, c⟩ := seq_of r' w1 es
          rcases c with ⟨k, _⟩ | ⟨_, c⟩
          · cases k
          have ev := intsT_map ei tv
          subst ev
          refine cr_sorted pins s1 σv H1 _ _ Q I1 rv ⟨a, is, rfl, SqL.of c, of_decide_eq_true h64, fun ns' q hp hw hq => ?_⟩
          have := sort_eq hp hw
          subst this
          exact post_new r le r' (tvs_ints _) hq p'
        · exact p'.elim
      · exact p'.elim
    · exact p'.elim
/-- a new list -/
theorem ck_L (l : Lvl Γ n) (gd : Gd Γ (n + 1) X W) {k : Nat} {e : Expr} {c : CE} (h : ck Γ.nms X.N k false X.env.scope e c = true) : PE X e (rdL Γ W fun σ h => evL Γ.G (Γ.at_ n) σ c h) := by
  have gd' := gd.down (Nat.le_succ n)
  have nev : (∀ σ h, evL Γ.G (Γ.at_ n) σ c h = none) → PE X e (rdL Γ W fun σ h => evL Γ.G (Γ.at_ n) σ c h) := fun hn => ⟨fun pins s σv H Q I q => by
    obtain ⟨_, _, hh, σ, _, _, q⟩ := q
    have q : Post Γ W σv _ _ _ H (evL Γ.G (Γ.at_ n) σ c hh) Q := q
    rw [hn] at q
    exact q.elim⟩
  cases k with
  | zero => cases h
  | succ k =>
    cases c with
    | lst es =>
      cases e with
      | List es' p =>
        have h : ckArgs Γ.nms X.N k X.env.scope es' es = true := h
        cases k with
        | zero => cases h
        | succ k => exact l_lst (ck_args gd' l.e h)
      | _ => cases h
    | comp el tg it ifs ws =>
      cases e with
      | ListComp el' gens scope pos =>
        cases gens with
        | nil => cases h
        | cons g0 gs =>
          obtain ⟨tg', it', ifs', asy⟩ := g0
          cases gs with
          | cons => exact absurd h (by simp [ck])
          | nil =>
            by_cases has : asy = 0
            case neg => exact absurd h (by simp [ck, has])
            case pos =>
              subst has
              unfold ck at h
              dsimp only at h
              obtain ⟨h, i1⟩ := ba2 h
              obtain ⟨h, i2⟩ := ba2 h
              obtain ⟨h, i3⟩ := ba2 h
              obtain ⟨h, i4⟩ := ba2 h
              obtain ⟨h, i5⟩ := ba2 h
              obtain ⟨h, i6⟩ := ba2 h
              obtain ⟨i8, i7⟩ := ba2 h
              obtain ⟨i0, i8⟩ := ba2 i8
              refine l_comp gd i0 l.wd l.fa l.e i8 (ck_I gd' l.wd l.e true i6).1 i7 i5 (fun i hi => ?_) (of_decide_eq_true i4) i3 i2
              cases tg with
              | nm j =>
                simp only [Tg.idx, List.mem_singleton] at hi
                subst hi
                simpa using i1
              | tup is =>
                have := List.all_eq_true.mp i1 i hi
                simpa using this
      | _ => cases h
    | bin o a b =>
      cases e with
      | BinOp p op q pos =>
        have h : (ckOp op o && ck Γ.nms X.N k false X.env.scope p a && ck Γ.nms X.N k false X.env.scope q b) = true := h
        obtain ⟨h, h3⟩ := ba2 h
        obtain ⟨h1, h2⟩ := ba2 h
        cases o with
        | add =>
          cases op <;> first | (cases h1; done) | skip
          exact l_add gd' (ck_V gd' l.e h2) (ck_V gd' l.e h3)
        | mul =>
          cases op <;> first | (cases h1; done) | skip
          exact l_mul (ck_V gd' l.e h2) (l.e X W gd' k q b h3)
        | _ => exact nev fun _ _ => rfl
      | _ => cases h
    | slc a lo hi =>
      cases e with
      | Subscript p q pos =>
        cases q with
        | Slice l1 h1 st p2 =>
          cases st with
          | none =>
            have h : (ck Γ.nms X.N k false X.env.scope p a && ckO Γ.nms X.N k X.env.scope l1 lo && ckO Γ.nms X.N k X.env.scope h1 hi) = true := h
            obtain ⟨h, h3⟩ := ba2 h
            obtain ⟨h1', h2⟩ := ba2 h
            exact l_slc (ck_V gd' l.e h1') (o_of gd' l.e h2) (o_of gd' l.e h3)
          | some => cases h
        | _ => cases h
      | _ => cases h
    | rev a =>
      cases e with
      | Subscript p q pos =>
        cases q with
        | Slice lo hi st p3 =>
          cases lo with
          | some => cases h
          | none =>
            cases hi with
            | some => cases h
            | none =>
              cases st with
              | none => cases h
              | some st =>
                cases st with
                | UnaryOp op x p2 =>
                  cases op with
                  | USub =>
                    cases x with
                    | Constant c kk p1 =>
                      cases c with
                      | int i =>
                        obtain ⟨h1, h2⟩ := ba2 (show (decide (i = 1) && ck Γ.nms X.N k false X.env.scope p a) = true from h)
                        have h1 := of_decide_eq_true h1
                        subst h1
                        exact l_rev (ck_V gd' l.e h2)
                      | _ => cases h
                    | _ => cases h
                  | _ => cases h
                | _ => cases h
        | _ => cases h
      | _ => cases h
    | call f args kws =>
      cases f with
      | glob g =>
        cases e with
        | Call fe es ks cp =>
          cases fe with
          | Name x p =>
            have h : (decide (x = Γ.gn g) && glB X.env.scope x && dbgB x && ckCall Γ.nms X.N k X.env.scope es ks args kws) = true := h
            obtain ⟨h, h4⟩ := ba2 h
            obtain ⟨h, h3⟩ := ba2 h
            obtain ⟨h1, h2⟩ := ba2 h
            have h1 := of_decide_eq_true h1
            subst h1
            match args, kws, h4 with
            | [a], [], h4 =>
              obtain ⟨rfl, j, ha⟩ := call_parts h4
              obtain ⟨e1, rfl, ha'⟩ := all2_one ha
              have ev : ∀ σ h, evL Γ.G (Γ.at_ n) σ (.call (.glob g) [a] []) h = (match Γ.G.gl g with
                | some (.ty 4) => Ro.bd (evV (Γ.at_ n) σ a h) fun x h => (match seqOf h x with
                  | some (_, xs) => some (.ok xs h)
                  | none => none)
                | some (.bi .sorted) => Ro.bd (evV (Γ.at_ n) σ a h) fun x h => (match seqOf h x with
                  | some (false, xs) => (match intsT xs with
                    | some is => if decide (is.length < 64) then some (.ok ((is.mergeSort (fun a b => decide (a ≤ b))).map T.int) h) else none
                    | none => none)
                  | _ => none)
                | _ => none) := fun _ _ => rfl
              rcases arg_plain ha' with ⟨n1, hck⟩ | ⟨c', rfl⟩
              · cases hg : Γ.G.gl g with
                | none => exact nev fun σ h => by rw [ev, hg]
                | some G =>
                  by_cases h4 : G = .ty 4
                  · subst h4
                    refine pe_weaken (l_list gd l.gl l.e (a := a) (W := W) (p := p) (pos := cp) hg (glB_ok h2) h3 n1 hck) fun σv H Q q => ?_
                    obtain ⟨Z, φ, hh, σ, r, s, p⟩ := q
                    have p : Post Γ W σv (OL Γ H) Z φ H (evL Γ.G (Γ.at_ n) σ (.call (.glob g) [a] []) hh) Q := p
                    rw [ev, hg] at p
                    exact ⟨Z, φ, hh, σ, r, s, p⟩
                  · by_cases h5 : G = .bi .sorted
                    · subst h5
                      refine pe_weaken (l_sorted gd l.gl l.e (a := a) (W := W) (p := p) (pos := cp) hg (glB_ok h2) h3 n1 hck) fun σv H Q q => ?_
                      obtain ⟨Z, φ, hh, σ, r, s, p⟩ := q
                      have p : Post Γ W σv (OL Γ H) Z φ H (evL Γ.G (Γ.at_ n) σ (.call (.glob g) [a] []) hh) Q := p
                      rw [ev, hg] at p
                      exact ⟨Z, φ, hh, σ, r, s, p⟩
                    · refine nev fun σ h => ?_
                      rw [ev, hg]
                      split
                      · rename_i z; cases z; exact absurd rfl h4
                      · rename_i z; cases z; exact absurd rfl h5
                      · rfl
              · refine nev fun σ h => ?_
                rw [ev]
                split
                · exact bd_none (ev_star n σ c' h) _
                · exact bd_none (ev_star n σ c' h) _
                · rfl
            | [], _, _ => exact nev fun _ _ => rfl
            | _ :: _ :: _, _, _ => exact nev fun _ _ => rfl
            | [_], _ :: _, _ => exact nev fun _ _ => rfl
          | _ => cases h
        | _ => cases h
      | _ => exact nev fun _ _ => rfl
    | comp2 => cases h
    | _ => exact nev fun _ _ => rfl
end
end Ev
end
section
set_option Elab.async false
set_option linter.all false
set_option maxRecDepth 100000
set_option maxHeartbeats 2000000
/-! Ev, part Zc: every expression, at the next level. -/
namespace Ev
open PySem PySem.Spec PyProof.Rows L2

section
variable {Γ : Gam} {Z : Addr → Prop} {φ : List Addr} {H : Hp} {h : Hh} {X : Cx} {W : WX} {n m : Nat} {pins : List (Addr × Obj)} {σv : L2.St} {s : Shared}
theorem s_dct0 {pos : Pos} : PE X (.Dict [] [] pos) (rdE Γ W fun σ h => evE Γ.G (Γ.at_ n) σ (.dct [] []) h) := pe_weaken pe_dnewK fun σv H Q q => by
  obtain ⟨Z, φ, hh, σ, r, sr, p⟩ := q
  have p : Post Γ W σv (TV Γ) Z φ H (some (.ok (.ref hh.length) (hh ++ [.dct []]))) Q := p
  intro d hd
  have nz : ¬ Z d := fun z => by obtain ⟨_, o, e⟩ := r.dz d z; rw [hd] at e; cases e
  exact p Z (φ ++ [d]) _ _ ((Le.held hd).cell_new hd) ((r.held hd).cell_new nz (r.notin hd) (.dct (kvs := []) upd_same rfl .nil)) (.ref (by rw [← r.len, List.getElem?_append_right (Nat.le_refl _)]; simp))
/-- a name of the module -/
theorem s_glob (gd : Gd Γ n X W) (gl : GlF Γ) {g : Nat} {p : Pos} (hG : Gl X (Γ.gn g)) (hd : dbgB (Γ.gn g) = true) : PE X (.Name (Γ.gn g) p) (rdE Γ W fun σ h => evE Γ.G (Γ.at_ m) σ (.glob g) h) := by
  obtain ⟨d1, d2, d3⟩ := dbg_ok hd
  have ev : ∀ σ h, evE Γ.G (Γ.at_ m) σ (.glob g) h = (match Γ.G.gl g with
    | some (.fn f) => some (.ok (.fn f) h)
    | some (.cls c) => some (.ok (.cls c) h)
    | some (.ty n) => some (.ok (.ty n) h)
    | some (.con t) => some (.ok t h)
    | _ => none) := fun _ _ => rfl
  cases hg : Γ.G.gl g with
  | none => exact pe_never fun σ h => by rw [ev, hg]
  | some G =>
    have ok := gl g G hg
    cases G with
    | fn f => exact s_con (pe_glob hG (by rw [gd.mg]; exact ok.1) (v := .ref (Γ.fA f)) rfl d1) (fun _ _ _ => .fn f) fun σ h => by rw [ev, hg]
    | cls c => exact s_con (pe_glob hG (by rw [gd.mg]; exact ok.1) (v := .ref (Γ.cA c)) rfl d1) (fun _ _ _ => .cls c) fun σ h => by rw [ev, hg]
    | ty i =>
      obtain ⟨hm, _, hx, hboot⟩ := ok
      refine s_con (v := .ty (tyN i)) ⟨fun pins s σ H Q I q => ld_blt I hG (by rw [gd.mg]; exact hm) hboot ⟨.ty (tyN i), H, I, rfl, q⟩ d3 d1⟩ (fun _ _ _ => .ty i) fun σ h => by rw [ev, hg]
    | con t =>
      obtain ⟨v, u, hm, rv, tv⟩ := ok
      exact s_con (pe_glob hG (by rw [gd.mg]; exact hm) rv d1) tv fun σ h => by rw [ev, hg]
    | bi b => exact pe_never fun σ h => by rw [ev, hg]
theorem rev_ev (n : Nat) (σ : Sl) (a : CE) (h : Hh) : evE Γ.G (Γ.at_ n) σ (.rev a) h = Ro.bd (evL Γ.G (Γ.at_ n) σ (.rev a) h) fun l h => some (.ok (.lst l) h) := by
  have e1 : evE Γ.G (Γ.at_ n) σ (.rev a) h = Ro.bd (evV (Γ.at_ n) σ a h) fun x h => (match seqOf h x with
    | some (false, xs) => some (.ok (.lst xs.reverse) h)
    | _ => none) := rfl
  have e2 : evL Γ.G (Γ.at_ n) σ (.rev a) h = Ro.bd (evV (Γ.at_ n) σ a h) fun x h => (match seqOf h x with
    | some (false, xs) => some (.ok xs.reverse h)
    | _ => none) := rfl
  rw [e1, e2]
  cases evV (Γ.at_ n) σ a h with
  | none => rfl
  | some y => cases y with
    | ok t h =>
      simp only [Ro.bd_ok]
      split <;> rfl
    | ex => rfl
/-- g(lambda: b), at the next level -/
def LamOk (Γ : Gam) (n : Nat) : Prop := ∀ (X : Cx) (W : WX), Gd Γ (n + 1) X W → ∀ (m : Nat) (e : Expr) (g t : Nat) (b : CE), ck Γ.nms X.N (m + 1) false X.env.scope e (.lam g t b) = true → PE X e (rdE Γ W fun σ h => evE Γ.G (Γ.at_ n) σ (.lam g t b) h)
theorem LvE_succ (l : Lvl Γ n) (hlam : LamOk Γ n) (bo : ∀ g b, Γ.G.gl g = some (.bi b) → biOk b = true) : LvE Γ (n + 1) := by
  intro X W gd m e c h
  have gd' := gd.down (Nat.le_succ n)
  have hL := @ck_L Γ X W n l gd m e c h
  show PE X e (rdE Γ W fun σ h => evE Γ.G (Γ.at_ n) σ c h)
  cases m with
  | zero => cases h
  | succ m =>
    cases c with
    | var i =>
      cases e with
      | Name x p =>
        have h : ckVar X.N X.env.scope x i = true := h
        unfold ckVar at h
        obtain ⟨h1, h3⟩ := ba2 h
        obtain ⟨h1, h2⟩ := ba2 h1
        obtain ⟨d1, d2, d3⟩ := dbg_ok h3
        exact s_var (of_decide_eq_true h1) (visB_ok h2) d1 d2
      | _ => cases h
    | con t =>
      obtain ⟨v, he, hv⟩ := ck_con (show ckCon e t = true from h)
      exact s_con he hv fun _ _ => rfl
    | glob g =>
      cases e with
      | Name x p =>
        obtain ⟨h1, h3⟩ := ba2 (show (decide (x = Γ.gn g) && glB X.env.scope x && dbgB x) = true from h)
        obtain ⟨h1, h2⟩ := ba2 h1
        have h1 := of_decide_eq_true h1
        subst h1
        exact s_glob gd l.gl (glB_ok h2) h3
      | _ => cases h
    | bin o a b =>
      cases e with
      | BinOp p op q pos =>
        obtain ⟨h1, h3⟩ := ba2 (show (ckOp op o && ck Γ.nms X.N m false X.env.scope p a && ck Γ.nms X.N m false X.env.scope q b) = true from h)
        obtain ⟨h1, h2⟩ := ba2 h1
        exact s_bin l.wd gd l.fa h1 (ck_V gd' l.e h2) (ck_V gd' l.e h3)
      | _ => cases h
    | neg a =>
      cases e with
      | UnaryOp op p pos => cases op with
        | USub => exact s_neg l.wd gd l.fa (l.e X W gd' m p a h)
        | _ => cases h
      | _ => cases h
    | not a =>
      cases e with
      | UnaryOp op p pos => cases op with
        | Not => exact s_not l.wd gd l.fa (ck_V gd' l.e h)
        | _ => cases h
      | _ => cases h
    | bop kk es =>
      cases e with
      | BoolOp op ps pos =>
        obtain ⟨h1, h3⟩ := ba2 (show (bopB op kk && !es.isEmpty && all2 (ck Γ.nms X.N m false X.env.scope) ps es) = true from h)
        obtain ⟨h1, h2⟩ := ba2 h1
        exact s_bop gd l.e h1 h2 h3
      | _ => cases h
    | ife a b d =>
      cases e with
      | IfExp p q r pos =>
        obtain ⟨h1, h3⟩ := ba2 (show (ck Γ.nms X.N m true X.env.scope p a && ck Γ.nms X.N m false X.env.scope q b && ck Γ.nms X.N m false X.env.scope r d) = true from h)
        obtain ⟨h1, h2⟩ := ba2 h1
        exact s_ife l.wd gd l.fa l.e (ck_T l.wd l.fa l.e gd h1) (l.e X W gd' m q b h2) (l.e X W gd' m r d h3)
      | _ => cases h
    | cmp o a b =>
      cases e with
      | Compare p ops qs pos =>
        match ops, qs, h with
        | [op], [q], h =>
          obtain ⟨h1, h4⟩ := ba2 (show (ckCmp op o && ck Γ.nms X.N m false X.env.scope p a && ck Γ.nms X.N m false X.env.scope q b && noSet q) = true from h)
          obtain ⟨h1, h3⟩ := ba2 h1
          obtain ⟨h1, h2⟩ := ba2 h1
          exact s_cmp l.wd gd l.fa h1 h4 (ck_V gd' l.e h2) (ck_V gd' l.e h3)
        | [], _, h => exact absurd h (by simp [ck])
        | [_], [], h => exact absurd h (by simp [ck])
        | [_], _ :: _ :: _, h => exact absurd h (by simp [ck])
        | _ :: _ :: _, _, h => exact absurd h (by simp [ck])
      | _ => cases h
    | cmp2 o o' a b d =>
      cases e with
      | Compare p ops qs pos =>
        match ops, qs, h with
        | [op, op'], [q, r], h =>
          obtain ⟨h1, h6⟩ := ba2 (show (ckCmp op o && ckCmp op' o' && ck Γ.nms X.N m false X.env.scope p a && ck Γ.nms X.N m false X.env.scope q b && ck Γ.nms X.N m false X.env.scope r d && noSet r) = true from h)
          obtain ⟨h1, h5⟩ := ba2 h1
          obtain ⟨h1, h4⟩ := ba2 h1
          obtain ⟨h1, h3⟩ := ba2 h1
          obtain ⟨h1, h2⟩ := ba2 h1
          exact s_cmp2 gd h1 h2 h6 (l.e X W gd' m p a h3) (l.e X W gd' m q b h4) (l.e X W gd' m r d h5)
        | [], _, h => exact absurd h (by simp [ck])
        | [_], _, h => exact absurd h (by simp [ck])
        | [_, _], [], h => exact absurd h (by simp [ck])
        | [_, _], [_], h => exact absurd h (by simp [ck])
        | [_, _], _ :: _ :: _ :: _, h => exact absurd h (by simp [ck])
        | _ :: _ :: _ :: _, _, h => exact absurd h (by simp [ck])
      | _ => cases h
    | tup es =>
      cases e with
      | Tuple ps x1 pos =>
        cases m with
        | zero => cases (show ckArgs Γ.nms X.N 0 X.env.scope ps es = true from h)
        | succ m => exact s_tup (ck_args gd' l.e (show all2 (argB (ck Γ.nms X.N m false X.env.scope)) ps es = true from h))
      | _ => cases h
    | lst es => exact pe_frz hL fun _ _ => rfl
    | comp el tg it ifs ws => exact pe_frz hL fun _ _ => rfl
    | comp2 => cases h
    | rev a => exact pe_frz hL fun σ h => rev_ev n σ a h
    | star a => cases h
    | dct ks vs =>
      cases e with
      | Dict ks' vs' pos =>
        obtain ⟨g1, h4⟩ := ba2 (show (all2 (optB (ck Γ.nms X.N m false X.env.scope)) ks' ks && all2 (ck Γ.nms X.N m false X.env.scope) vs' vs && decide (ks.length = vs.length) && decide (ks.length ≤ 15)) = true from h)
        obtain ⟨g2, h3⟩ := ba2 g1
        obtain ⟨h1, h2⟩ := ba2 g2
        clear g1 g2
        by_cases h0 : ks = []
        · subst h0
          have h3 := of_decide_eq_true h3
          cases vs with
          | cons => cases h3
          | nil =>
            cases all2_nil h1
            cases all2_nil h2
            exact s_dct0
        · exact s_dct gd l.e h1 h2 (of_decide_eq_true h3) h0 (of_decide_eq_true h4)
      | _ => cases h
    | sub a b =>
      cases e with
      | Subscript p q pos =>
        obtain ⟨g1, h3⟩ := ba2 (show (noSlice q && ck Γ.nms X.N m false X.env.scope p a && ck Γ.nms X.N m false X.env.scope q b) = true from h)
        obtain ⟨hns, h2⟩ := ba2 g1
        refine ⟨fun pins s σv H Q I q => ?_⟩
        obtain ⟨Z, φ, hh, σ, r, sr, pp⟩ := q
        replace pp : Post Γ W σv (TV Γ) Z φ H (Ro.bd (evV (Γ.at_ n) σ a hh) fun x h => Ro.bd ((Γ.at_ n).e σ b h) fun y h => ixE Γ.G (Γ.at_ n) x y h) Q := pp
        refine Subscript_ (thn ((ck_V gd' l.e h2).run pins s σv H _ I ⟨Z, φ, hh, σ, r, sr, Post.bd (rel := TW Γ) pp⟩) fun v s1 ⟨x, H1, I1, rx, Z1, φ1, h1, t, le, r1, w1, q1⟩ =>
          thn ((l.e X W gd' m _ b h3).run pins s1 σv H1 _ I1 ⟨Z1, φ1, h1, σ, r1, sr.mono r le, Post.bd (rel := TV Γ) q1⟩) fun u s2 ⟨y, H2, I2, ry, Z2, φ2, h2, t2, le2, r2, w2, q2⟩ => ?_)
        exact sub_S l.wd gd l.fa hns I2 rx ry r2 (w1.mono r1 le2) w2 q2
      | _ => cases h
    | slc a lo hi =>
      cases e with
      | Subscript p q pos =>
        cases q with
        | Slice l1 h1 st p2 =>
          cases st with
          | none =>
            obtain ⟨h, h3⟩ := ba2 (show (ck Γ.nms X.N m false X.env.scope p a && ckO Γ.nms X.N m X.env.scope l1 lo && ckO Γ.nms X.N m X.env.scope h1 hi) = true from h)
            obtain ⟨h1', h2⟩ := ba2 h
            exact s_slc gd (ck_V gd' l.e h1') (o_of gd' l.e h2) (o_of gd' l.e h3)
          | some => cases h
        | _ => cases h
      | _ => cases h
    | attr a f =>
      cases e with
      | Attribute p x pos =>
        obtain ⟨h1, h3⟩ := ba2 (show (decide (x = Γ.nm f) && noSuper p && ck Γ.nms X.N m false X.env.scope p a) = true from h)
        obtain ⟨h1, h2⟩ := ba2 h1
        exact s_attr l.wd gd l.fa l.e (of_decide_eq_true h1) h2 h3
      | _ => cases h
    | fmt es =>
      cases e with
      | JoinedStr ps pos => exact s_fmt gd l.e h
      | _ => cases h
    | call f args kws =>
      cases e with
      | Call fe es ks cp =>
        cases f with
        | glob g =>
          cases fe with
          | Name x p =>
            obtain ⟨h1, h4⟩ := ba2 (show (decide (x = Γ.gn g) && glB X.env.scope x && dbgB x && ckCall Γ.nms X.N m X.env.scope es ks args kws) = true from h)
            obtain ⟨h1, h3⟩ := ba2 h1
            obtain ⟨h1, h2⟩ := ba2 h1
            have h1 := of_decide_eq_true h1
            subst h1
            have ev : ∀ σ h, evE Γ.G (Γ.at_ n) σ (.call (.glob g) args kws) h = (match Γ.G.gl g with
              | some x => if isLs x then Ro.bd (evL Γ.G (Γ.at_ n) σ (.call (.glob g) args kws) h) fun l h => some (.ok (.lst l) h) else callG Γ.G (Γ.at_ n) σ x args kws h
              | none => none) := fun _ _ => rfl
            obtain ⟨d1, _, _⟩ := dbg_ok h3
            cases hg : Γ.G.gl g with
            | none => exact pe_never fun σ h => by rw [ev, hg]
            | some G =>
              by_cases hls : isLs G = true
              · exact pe_frz hL fun σ h => by rw [ev, hg]; exact if_pos hls
              · have ev2 : ∀ σ h, evE Γ.G (Γ.at_ n) σ (.call (.glob g) args kws) h = callG Γ.G (Γ.at_ n) σ G args kws h := fun σ h => by rw [ev, hg]; exact if_neg hls
                have use : PE X (.Call (.Name (Γ.gn g) p) es ks cp) (rdE Γ W fun σ h => callG Γ.G (Γ.at_ n) σ G args kws h) := by
                  cases G with
                  | fn f => exact s_fn gd l.gl l.e l.fa hg (glB_ok h2) d1 h4
                  | cls c => exact s_cls gd l.wd l.gl l.e l.fi hg (glB_ok h2) d1 h4
                  | con t => exact pe_never fun _ _ => rfl
                  | bi b => cases kws with
                    | nil => exact s_bi gd l.wd l.gl l.e l.fa (bo g b hg) hg (glB_ok h2) h3 h4
                    | cons => exact pe_never fun _ _ => rfl
                  | ty i => cases kws with
                    | nil => exact s_ty gd l.wd l.gl l.e hg (glB_ok h2) h3 h4
                    | cons => exact pe_never fun _ _ => rfl
                refine pe_weaken use fun σv H Q q => ?_
                obtain ⟨Z, φ, hh, σ, r, sr, pp⟩ := q
                replace pp : Post Γ W σv (TV Γ) Z φ H (evE Γ.G (Γ.at_ n) σ (.call (.glob g) args kws) hh) Q := pp
                rw [ev2] at pp
                exact ⟨Z, φ, hh, σ, r, sr, pp⟩
          | _ => cases h
        | attr o k =>
          cases fe with
          | Attribute p x ap =>
            obtain ⟨h1, h7⟩ := ba2 (show (decide (x = Γ.nm k) && noSuper p && ck Γ.nms X.N m false X.env.scope p o && ckCall Γ.nms X.N m X.env.scope es ks args kws && (es.all notStar) && decide (es.length + ks.length < 29) && (ap.endLine == cp.line)) = true from h)
            obtain ⟨h1, h6⟩ := ba2 h1
            obtain ⟨h1, h5⟩ := ba2 h1
            obtain ⟨h1, h4⟩ := ba2 h1
            obtain ⟨h1, h3⟩ := ba2 h1
            obtain ⟨h1, h2⟩ := ba2 h1
            exact s_meth gd l.wd l.e l.fa (of_decide_eq_true h1) h2 h3 h4 h5 (of_decide_eq_true h6) h7
          | _ => cases h
        | _ => cases fe <;> cases h
      | _ => cases h
    | fval => cases h
    | lam g t b => exact hlam X W gd m e g t b h
    | lcl => cases h
    | irng => cases h
    | ienm => cases h
    | izip => cases h
end
end Ev
end
section
set_option Elab.async false
set_option linter.all false
set_option maxRecDepth 100000
set_option maxHeartbeats 2000000
/-! Ev, part La: closures: a def gets a lambda and calls it. -/
namespace Ev
open PySem PySem.Spec PyProof.Rows L2
section
variable {Γ : Gam} {X : Cx} {W : WX} {pins : List (Addr × Obj)} {σm : L2.St} {H : Hp} {s : Shared}
theorem lamS_own {sc scope : Scope} (L : LamX.LamS sc scope) : hasOwn scope = false := by
  unfold hasOwn
  rw [List.any_eq_false]
  intro y hy
  have := L.own y hy
  simp [this.1, this.2]
/-- the context of the lambda's body -/
theorem gd_lam {k m : Nat} (gd : Gd Γ k X W) {A : Around} {outer : List Env} {s : Shared} {H : Hp} {E : XK} {sc scope : Scope} {f c' : Addr} (L : LamX.LamS sc scope) (hr : Room m (A.deeper (LamX.lamEnv X scope s.heap.objs.size f c'))) :
    Gd Γ m (LamX.lamCx X A outer s H E scope f c') (WofE E) :=
  ⟨gd.K, gd.prog, gd.w, gd.mg, gd.base, gd.nd, hr, takes_of rfl rfl rfl rfl, rfl, fun t ti _ _ ho => by
    have ho : hasOwn scope = true := ho
    rw [lamS_own L] at ho
    cases ho⟩
theorem oc_of {k n0 : Nat} (gd : Gd Γ n0 X W) (le : ∀ m, m ≤ k → LvE Γ m) (I : Inv X pins σm H s) {scope : Scope} {params : Arguments} {body : Expr} (L : LamX.LamS X.env.scope scope) {f c' : Addr} {pm ctv : Value}
    (hf : s.heap.get? f = some (PySem.W.kla_obj "<lambda>" (X.env.qual ++ "<lambda>") params body scope (cloFrom X.env.cells scope.names []) pm c' ctv)) (hfn : H f = none) (hfr : f ∉ frs X.stack)
    (hbind : bindArgs (PySem.W.kla_fn "<lambda>" (X.env.qual ++ "<lambda>") params body scope (cloFrom X.env.cells scope.names []) pm (.ref c') ctv) ⟨[], []⟩ = pure [])
    {mm : Nat} {bb : CE} (hck : ck Γ.nms X.N mm false scope body bb = true) {Z : Addr → Prop} {φ : List Addr} {h : Hh} {σ : Sl} (R0 : R Γ Z φ H h) (S0 : SR Γ Z φ H σ σm) (hcz : Z c') (hc : H c' = some (LamX.CodeO c' (X.env.qual ++ "<lambda>")))
    {Ng : List Str} {qg : Str} {sg : Scope} {g : Addr} {cdg : Value} {Eg : XK} (hr : Room (k + 1) (X.A.deeper (envOfC qg sg s.heap.objs.size g cdg))) {Zl : Addr → Prop} {φl : List Addr} {Hl : Hp} :
    OcP Γ k (cxOf (L2.CX X.prog X.w) X.prog X.w X.K X.mg X.base Ng qg sg g cdg X.A X.stack s H Eg) ⟨Z, φ, H, f, Zl, φl, Hl, some (bb, σ)⟩ := by
  intro bb' σb e m hm pn xe W' tk x i p1 p2 hN hv hd hcd
  cases e
  refine ⟨fun pinsZ sZ σZ HZ Q IZ q => ?_⟩
  obtain ⟨hs, Z1, φ1, h1, le1, R1, post⟩ := q
  have hs : σZ[i]? = some (some (V.ref f)) := hs
  refine wpAny_Call_Name_kw (thn ((pe_var (X := (cxOf (L2.CX X.prog X.w) X.prog X.w X.K X.mg X.base Ng qg sg g cdg X.A X.stack s H Eg).tr pn xe) (pos := p1) (i := i) hN hv hd hcd).run pinsZ sZ σZ HZ (fun v H1 => v = .ref f ∧ H1 = HZ) IZ ⟨.ref f, hs, rfl, rfl⟩) fun u s1 ⟨v, H1, I1, r1, q1⟩ => ?_)
  obtain ⟨ev, eH⟩ := q1
  subst ev
  rw [eH] at I1
  obtain rfl : u = Value.ref f := r1
  have of1 : s1.heap.get? f = some (PySem.W.kla_obj "<lambda>" (X.env.qual ++ "<lambda>") params body scope (cloFrom X.env.cells scope.names []) pm c' ctv) := I1.base.keep f _ hf hfn hfr (fun z => nomatch (show f ∈ ([] : List Addr) from z))
  refine PySem.W.callWith_F0 ⟨_, _, _, _, of1⟩ ?_
  have un : Un (frs X.stack) [] H HZ s.heap s1.heap := I1.base
  have hcZ : HZ c' = some (LamX.CodeO c' (X.env.qual ++ "<lambda>")) := by
    rw [(R0.zs le1 hcz).2]
    exact hc
  obtain ⟨⟨oc, vs, t, hoc, hdc, hvc⟩, _, _⟩ := I1.hok c' _ hcZ
  have S1 : SR Γ Z1 φ1 HZ σ σm := S0.mono R0 le1
  have pst : Post Γ (WofE (WE W' σZ)) [] (TV Γ) Z1 φ1 HZ ((Γ.at_ m).e σ bb h1) Q := post.castW
  have rc : codeAny (model X.prog X.w) (X.A.deeper (envOfC qg sg s.heap.objs.size g cdg)) (.call (.ref f) ⟨[], []⟩) (CR (L2.CX X.prog X.w) (envOfC qg sg s.heap.objs.size g cdg :: X.stack) X.prog X.w HZ s1 Q (WE W' σZ)) s1 := by
    refine PySem.W.kla_callFunE hr.depth of1 rfl L.co L.gen rfl ⟨c', oc, vs, t, rfl, hoc, hdc, hvc⟩ ?_
    rw [hbind]
    refine wpAny_pure (wpAny_newFunctionEnv (fun y hy => (L.own y hy).2) (fun y hy => absurd hy (by simp)) (fun h₁ hns hsb => ⟨I1.nolimit.fresh _ hsb, ?_⟩) L.kind)
    show codeAny _ _ (.expr body (LamX.lamEnv X scope s1.heap.objs.size f c')) _ _
    have kp : ∀ b o, s1.heap.get? b = some o → h₁.get? b = some o := fun b o e => hsb.extBut b o (Nat.ne_of_lt (Heap.lt_size e)) (Heap.get?_push_of_some _ e)
    have J : Inv (LamX.lamCx X (X.A.deeper (envOfC qg sg s.heap.objs.size g cdg)) (envOfC qg sg s.heap.objs.size g cdg :: X.stack) s1 HZ (WE W' σZ) scope f c') [] σm HZ { s1 with heap := h₁, toks := s1.toks + ([] : List (Str × Value)).length } :=
      LamX.lam_start2 I L I1.env0 hr.hd un hns kp
    have bodyPE := le m hm (LamX.lamCx X (X.A.deeper (envOfC qg sg s.heap.objs.size g cdg)) (envOfC qg sg s.heap.objs.size g cdg :: X.stack) s1 HZ (WE W' σZ) scope f c') (WofE (WE W' σZ)) (gd_lam gd L ((hr.deeper _).mono hm)) mm body bb hck
    refine PySem.W.kla_codeExpr (wpAny_mono (bodyPE.run [] _ _ HZ Q J ⟨Z1, φ1, h1, σ, R1, S1, pst⟩) (fun v s' hq => ?_) fun e s' hq => hq)
    obtain ⟨w', H', J', rv, q⟩ := hq
    exact ⟨w', H', J'.os, J'.bare, J'.base, J'.hok, rv, q⟩
  refine wpAny_call (codeAny_mono rc fun r s' hq => ?_)
  cases r with
  | error e => exact passAt tk σZ pinsZ HZ s1 e s' I1 hq
  | ok fl =>
    cases fl with
    | ret u => exact I1.after hq
    | next => exact False.elim hq
    | brk => exact False.elim hq
    | cont => exact False.elim hq

/-- the lambda is made: its code object is new, or found in the table -/
theorem lam_make {n0 : Nat} (gd : Gd Γ n0 X W) (wd : WdF Γ) {Z : Addr → Prop} {φ : List Addr} {h : Hh} {t : Nat} {body : Expr} {scope : Scope} {params : Arguments} {pos : Pos} {E : Value → Shared → Prop} {Q : Value → Shared → Prop} (I : Inv X pins σm H s) (R0 : R Γ Z φ H h) (ht : h[t]? = some (.tab t)) (hN : lamNm t ∈ X.N) (ho : hasOwn X.env.scope = true)
    (hdef : defaultsOf params X.env = ([], [])) (hfree : ∀ y ∈ scope.names, y.2 = .free → ∃ c, X.env.cells.lookup y.1 = some c)
    (k : ∀ (f c' : Addr) (pm ctv : Value) (Z1 : Addr → Prop) (H1 : Hp) (s' : Shared), Inv X pins σm H1 s' → Le Z φ H Z1 φ H1 → R Γ Z1 φ H1 h → Z1 c' → H1 c' = some (LamX.CodeO c' (X.env.qual ++ "<lambda>")) →
      s'.heap.get? f = some (PySem.W.kla_obj "<lambda>" (X.env.qual ++ "<lambda>") params body scope (cloFrom X.env.cells scope.names []) pm c' ctv) → H1 f = none → f ∉ frs X.stack → Q (.ref f) s') :
    wpAny (model X.prog X.w) X.A (eval (.Lambda params body scope pos) X.env) Q E s := by
  obtain ⟨P, hPφ, mo⟩ := R0.cell ht
  obtain ⟨ti, hti, eP, tq⟩ : ∃ ti, Γ.tb[t]? = some ti ∧ P = ti.tbl ∧ TabQ Z H P ti.q := by
    cases mo with
    | tab a b c => exact ⟨_, a, b, c⟩
  obtain ⟨hcode, hq⟩ := gd.lam t ti hti hN ho
  rw [← hq] at tq
  have TB := wd.tbs t ti hti
  rw [← eP, ← gd.base, ← gd.mg] at TB
  obtain ⟨ps, hP, htr, ha⟩ := tq
  refine PySem.W.kla_eval hdef ?_
  have bP : s.heap.BuiltinsAt X.mg P := TB.bm.keeps I.bk
  have hP' : s.heap.get? P = some { cls := .none, data := .fields ps } := I.hok P _ hP
  have nofr : ∀ f, s.heap.objs.size ≤ f → f ∉ frs X.stack := fun f hf z => by
    rcases List.mem_cons.mp (I.stkSub _ z) with e | e
    · have h1 := I.lt
      rw [← e] at h1
      exact Nat.lt_irrefl _ (Nat.lt_of_lt_of_le h1 hf)
    · exact I.nofs hf e
  cases hc : codeAmong pos ps.toList with
  | none =>
    refine PySem.W.kla_makeFunction (mg := X.mg) (c := ti.code) (P := P) (ps := ps) (closure_ok hfree) I.ok.glob (I.mod.glob.keeps I.bk) hcode (TB.code.keeps I.bk) hP' htr hc TB.gP bP fun c' ctv h' tk hx hge hlt hrec htb => ?_
    obtain ⟨c2, oc, vs, tt, e2, hoc, hd, hv⟩ := hrec
    cases e2
    have hsz : s.heap.objs.size ≤ h'.objs.size := Nat.le_trans hge (Nat.le_of_lt hlt)
    have nC : H c' = none := I.hok.fresh hge
    have I1 := LamX.inv_table (q := X.env.qual ++ "<lambda>") (t' := tk) (more := #[rawInt pos.line, rawInt pos.col, .ref c']) (h' := h'.push (PySem.W.kla_obj "<lambda>" (X.env.qual ++ "<lambda>") params body scope (cloFrom X.env.cells scope.names []) ((X.mg "__name__").getD .none) c' ctv)) I hP
      (fun b o hb e => Heap.get?_push_of_some _ (hx b o hb e)) (Heap.get?_push_of_some _ htb) hge ⟨oc, vs, tt, Heap.get?_push_of_some _ hoc, hd, hv⟩
    have nPc : P ≠ c' := ne_of_none hP nC
    have nC1 : upd H P (.tbl (ps ++ #[rawInt pos.line, rawInt pos.col, .ref c'])) c' = none := by rw [upd_ne (Ne.symm nPc)]; exact nC
    have nzP : ¬ Z P := fun z => (R0.dz P z).1 (List.mem_of_getElem? hPφ)
    have eL : (ps ++ #[rawInt pos.line, rawInt pos.col, .ref c']).toList = ps.toList ++ [rawInt pos.line, rawInt pos.col, .ref c'] := by simp
    -- the code object first, then the table
    have leA : Le Z φ H (fun a => Z a ∨ a = c') φ (upd H c' (LamX.CodeO c' (X.env.qual ++ "<lambda>"))) := Le.new nC
    have rA := R0.new (o := LamX.CodeO c' (X.env.qual ++ "<lambda>")) nC
    have eH : upd (upd H P (.tbl (ps ++ #[rawInt pos.line, rawInt pos.col, .ref c']))) c' (LamX.CodeO c' (X.env.qual ++ "<lambda>")) = upd (upd H c' (LamX.CodeO c' (X.env.qual ++ "<lambda>"))) P (.tbl (ps ++ #[rawInt pos.line, rawInt pos.col, .ref c'])) := by
      funext a
      unfold upd
      by_cases e1 : a = c'
      · subst e1; simp [Ne.symm nPc]
      · simp [e1]
    rw [eH] at I1
    have hcs : upd (upd H c' (LamX.CodeO c' (X.env.qual ++ "<lambda>"))) P (.tbl (ps ++ #[rawInt pos.line, rawInt pos.col, .ref c'])) c' = some (LamX.CodeO c' (X.env.qual ++ "<lambda>")) := by rw [upd_ne (Ne.symm nPc), upd_same]
    have rB : R Γ (fun a => Z a ∨ a = c') φ (upd (upd H c' (LamX.CodeO c' (X.env.qual ++ "<lambda>"))) P (.tbl (ps ++ #[rawInt pos.line, rawInt pos.col, .ref c']))) (h.set t (.tab t)) := by
      refine rA.cell_set hPφ (.tab hti eP ?_)
      rw [← hq]
      refine ⟨_, upd_same, by rw [eL]; exact PySem.TriplesOk_snoc _ _ _ _ htr, fun p' cv hcv => ?_⟩
      rw [eL] at hcv
      rcases LamX.among_app _ htr hcv with z | z
      · obtain ⟨c0, e1, z0, e2⟩ := ha p' cv z
        refine ⟨c0, e1, .inl z0, ?_⟩
        rw [upd_ne (show c0 ≠ P from fun e => nzP (e ▸ z0)), upd_ne (ne_of_none e2 nC)]
        exact e2
      · exact ⟨c', z, .inr rfl, hcs⟩
    have eh : h.set t (.tab t) = h := by
      apply List.ext_getElem?
      intro i
      rw [List.getElem?_set]
      split
      · rename_i e
        subst e
        split
        · exact ht.symm
        · rename_i hl
          rw [List.getElem?_eq_none_iff.mpr (by omega)]
      · rfl
    rw [eh] at rB
    refine k h'.objs.size c' ((X.mg "__name__").getD .none) ctv _ _ _ I1 (leA.trans (Le.cell_set hPφ)) rB (.inr rfl) hcs (Heap.get?_push_size _ rfl) ?_ (nofr _ hsz)
    rw [upd_ne (Nat.ne_of_gt (Nat.lt_of_lt_of_le (Heap.lt_size hP') hsz)), upd_ne (Nat.ne_of_gt hlt)]
    exact I.hok.fresh hsz
  | some cv =>
    obtain ⟨c', e, z, hco⟩ := ha pos cv hc
    subst e
    refine PySem.W.kla_makeFunctionHit (mg := X.mg) (c := ti.code) (P := P) (ps := ps) (closure_ok hfree) I.ok.glob (I.mod.glob.keeps I.bk) hcode (TB.code.keeps I.bk) hP' htr hc bP fun ctv h' tk hx hsz => ?_
    have I1 : Inv X pins σm H { s with heap := h'.push (PySem.W.kla_obj "<lambda>" (X.env.qual ++ "<lambda>") params body scope (cloFrom X.env.cells scope.names []) ((X.mg "__name__").getD .none) c' ctv), toks := tk } := I.kept fun b o e => Heap.get?_push_of_some _ (hx b o e)
    exact k h'.objs.size c' ((X.mg "__name__").getD .none) ctv Z H _ I1 .refl R0 z hco (Heap.get?_push_size _ rfl) (I.hok.fresh hsz) (nofr _ hsz)

/-- what a body's end gives, its start a closure -/
theorem post_lcall {Z : Addr → Prop} {φ : List Addr} {h : Hh} {k f : Nat} {d : FnD} {bb : CE} {σ : Sl} {Q : VK} {E : XK} {x : Addr} {cl : Option (CE × Sl)} (hf : Γ.G.fn f = some d) (hl : d.lam = true) (p : Post Γ (WofE E) [] (TV Γ) Z φ H ((Γ.at_ (k + 1)).lcall f bb σ h) Q) :
    PostS Γ (WofE E) ⟨Z, φ, H, x, Z, φ, H, cl⟩ { nx := fun _ H' => Q .non H', rt := Q } ((Γ.at_ k).ss (.clo bb σ :: List.replicate (d.n - 1) SV.no) d.body h) := by
  have e : (Γ.at_ (k + 1)).lcall f bb σ h = (match (Γ.at_ k).ss (.clo bb σ :: List.replicate (d.n - 1) SV.no) d.body h with
    | some (.nx _, h) => some (.ok .non h)
    | some (.rt t, h) => some (.ok t h)
    | some (.ex c fs _, h) => some (.ex c fs h)
    | _ => none) := by
    show evLcall Γ.G (Γ.at_ k) f bb σ h = _
    unfold evLcall
    rw [hf]
    dsimp only
    rw [if_pos hl] <;> rfl
  rw [e] at p
  cases q : (Γ.at_ k).ss (.clo bb σ :: List.replicate (d.n - 1) SV.no) d.body h with
  | none => rw [q] at p; exact p
  | some y =>
    obtain ⟨fl, h'⟩ := y
    rw [q] at p
    cases fl with
    | nx σ => exact fun Z' φ' H' σv a => p Z' φ' H' .non a.le a.r .non
    | rt t => exact fun Z' φ' H' v le r tv => p Z' φ' H' v le r tv
    | bk σ => exact p.elim
    | ct σ => exact p.elim
    | ex c fs σ => exact fun Z' φ' H' σv d gs a hd nz np nh tf => p Z' φ' H' d gs a.le a.r hd nz np nh tf
theorem rep_get {n i : Nat} {y : SV} (h : (List.replicate n SV.no)[i]? = some y) : y = .no := by
  have := List.mem_of_getElem? h
  exact List.eq_of_mem_replicate this
theorem At.startC {Z : Addr → Prop} {φ : List Addr} {h : Hh} {N : List Str} {n : Nat} {f : Addr} {bb : CE} {σ : Sl} (R0 : R Γ Z φ H h) (hl : N.length = n) (hn : 0 < n) :
    At Γ ⟨Z, φ, H, f, Z, φ, H, some (bb, σ)⟩ (.clo bb σ :: List.replicate (n - 1) SV.no) (L2.start N [.ref f]) Z φ H h := by
  have len : (SV.clo bb σ :: List.replicate (n - 1) SV.no).length = (L2.start N [V.ref f]).length := by
    unfold L2.start
    simp
    omega
  have e0 : (L2.start N [V.ref f])[0]? = some (some (V.ref f)) := by unfold L2.start; simp
  have sh : ∀ {i : Nat} {y : SV}, (SV.clo bb σ :: List.replicate (n - 1) SV.no)[i]? = some y → (i = 0 ∧ y = .clo bb σ) ∨ y = .no := fun {i y} e => by
    cases i with
    | zero => left; simp at e; exact ⟨rfl, e.symm⟩
    | succ i => right; exact rep_get (by simpa using e)
  refine ⟨R0, ⟨len, fun i y e => ?_, fun i j y z v e1 e2 h1 h2 _ _ => ?_⟩, .refl, ⟨fun i y p e hy ep => ?_, fun i b2 σ2 e => ?_⟩, .refl⟩
  · rcases sh e with ⟨rfl, rfl⟩ | rfl
    · exact ⟨_, e0, trivial⟩
    · have hi : i < (SV.clo bb σ :: List.replicate (n - 1) SV.no).length := (List.getElem?_eq_some_iff.mp e).1
      obtain ⟨o, e2⟩ := start_some N [V.ref f] (i := i) (by rw [← len]; exact hi)
      exact ⟨o, e2, trivial⟩
  · rcases sh e1 with ⟨rfl, rfl⟩ | rfl <;> cases h1
  · rcases sh e with ⟨rfl, rfl⟩ | rfl <;> cases hy
  · rcases sh e with ⟨rfl, e⟩ | e
    · cases e
      exact ⟨rfl, e0⟩
    · cases e
/-- g(lambda: b) -/
theorem lam_ok {ckS' : Nat → List Str → Scope → List Stmt → List CS → Bool} {n : Nat} (wd : WdF Γ) (gl : GlF Γ) (hF : ∀ f d, Γ.G.fn f = some d → FnF Γ ckS' f d) (le : ∀ m, m ≤ n → LvE Γ m) (ls : ∀ m, m ≤ n → LvS Γ m ckS') : LamOk Γ n := by
  intro X W gd m e g t bb hck
  cases n with
  | zero =>
    refine pe_never fun σ h => ?_
    show (match Γ.G.gl g with
      | some (.fn f) => (match h[t]? with
        | some (.tab t') => if t' = t then (Γ.at_ 0).lcall f bb σ h else none
        | _ => none)
      | _ => none) = none
    cases Γ.G.gl g with
    | none => rfl
    | some G => cases G with
      | fn f =>
        dsimp only
        cases h[t]? with
        | none => rfl
        | some mo => cases mo with
          | tab t' => dsimp only; split <;> rfl
          | _ => rfl
      | _ => rfl
  | succ k =>
    cases e with
    | Call fe es ks cp =>
      cases fe with
      | Name x px =>
        match es, ks, hck with
        | [.Lambda params body scope lpos], [], hck =>
          have hck : (decide (x = Γ.gn g) && glB X.env.scope x && dbgB x && noPs params && LamX.lamSB X.env.scope scope && hasOwn X.env.scope && decide (lamNm t ∈ X.N) && ck Γ.nms X.N m false scope body bb) = true := hck
          obtain ⟨hck, c8⟩ := ba2 hck
          obtain ⟨hck, c7⟩ := ba2 hck
          obtain ⟨hck, c6⟩ := ba2 hck
          obtain ⟨hck, c5⟩ := ba2 hck
          obtain ⟨hck, c4⟩ := ba2 hck
          obtain ⟨hck, c3⟩ := ba2 hck
          obtain ⟨c1, c2⟩ := ba2 hck
          have c1 := of_decide_eq_true c1
          subst c1
          have L := LamX.lamS_by c5
          refine ⟨fun pins s σv H Q I q => ?_⟩
          obtain ⟨Z, φ, h, σ, R0, S0, p⟩ := q
          replace p : Post Γ W σv (TV Γ) Z φ H (match Γ.G.gl g with
            | some (.fn f) => (match h[t]? with
              | some (.tab t') => if t' = t then (Γ.at_ (k + 1)).lcall f bb σ h else none
              | _ => none)
            | _ => none) Q := p
          cases hg : Γ.G.gl g with
          | none => rw [hg] at p; exact p.elim
          | some G =>
            rw [hg] at p
            cases G with
            | fn f =>
              dsimp only at p
              cases ht : h[t]? with
              | none => rw [ht] at p; exact p.elim
              | some mo =>
                rw [ht] at p
                cases mo with
                | tab t' =>
                  dsimp only at p
                  by_cases htt : t' = t
                  · rw [if_pos htt] at p
                    subst htt
                    cases hfn : Γ.G.fn f with
                    | none =>
                      have : (Γ.at_ (k + 1)).lcall f bb σ h = none := by
                        show evLcall Γ.G (Γ.at_ k) f bb σ h = _
                        unfold evLcall
                        rw [hfn]
                      rw [this] at p
                      exact p.elim
                    | some d =>
                      by_cases hdl : d.lam = true
                      · obtain ⟨xq, qual, params', body', scope', dvs, kwd, fd, N, ps, mm, hlm, hlf, FD, S, hNn, hbody, h1, h2⟩ := (hF f d hfn).ex
                        obtain ⟨oc, od, dV, kV, doc, pm, an, cdv, ct, osl, rfl, lk, hcd, _, _⟩ := FD.ex
                        obtain ⟨hst, hpl, hbt⟩ := hlf hdl
                        obtain ⟨rfl, _⟩ := h1 hst
                        have G := gl g (.fn f) hg
                        have hps : params = ⟨[], [], none, [], [], none, []⟩ := by
                          unfold noPs at c4
                          split at c4
                          · rfl
                          · cases c4
                        subst hps
                        refine wpAny_Call_Name_kw (ld_glob I (glB_ok c2) (by rw [gd.mg]; exact G.1) ?_ (dbg_ok c3).1)
                        refine PySem.W.callWith_K (h₀ := X.base) I.ok.mod.kin (by rw [gd.K]; exact G.2) ?_ (by rfl) (by rfl)
                        show wpAny _ _ (spliced ((false, eval (.Lambda ⟨[], [], none, [], [], none, []⟩ body scope lpos) X.env) :: backTo cp (starEach [] X.env))) _ _ s
                        refine Calls.spliced_cons (lam_make gd wd I R0 ht (of_decide_eq_true c7) c6 rfl (L.has I.ok) fun fo c' pm' ctv Z1 H1 s' I1 le1 R1 zc hco hfo hfn2 hfr => ?_)
                        refine Calls.spliced_nil ⟨I1.kIn, ?_⟩
                        have S1 := S0.mono R0 le1
                        have rc : codeAny (model X.prog X.w) X.A (.call (.ref (Γ.fA f)) ⟨[.ref fo], []⟩) (CR (L2.CX X.prog X.w) X.stack X.prog X.w H1 s' Q (WE W σv)) s' := by
                          have lk' := lk
                          rw [← gd.K] at lk' hcd
                          have hr : Room (k + 1) X.A := gd.room.mono (by omega)
                          refine LamX.run_ofS (N := N) (ps := d.ps.map Γ.nm) (us := [.ref fo]) (vs := [.ref fo]) lk' hcd S hr I1.env0 (hbt s' (.ref fo) (by rw [← gd.K]; exact I1.kIn)) (.cons rfl .nil) (by rw [List.length_map, hpl]; rfl) fun hr' => ?_
                          have oc0 := oc_of (k := k) (mm := m) (bb := bb) (Ng := N) (qg := qual) (sg := scope') (g := Γ.fA f) (cdg := cdv) (Eg := WE W σv) (Zl := Z1) (φl := φ) (Hl := H1) gd (fun m hm => le m (by omega)) I1 L hfo hfn2 hfr rfl c8 R1 S1 zc hco ?_
                          · have gb := gd_body (Γ := Γ) (A := X.A) (outer := X.stack) (s := s') (H := H1) (E := WE W σv) S hr' hlm
                            rw [gd.prog, gd.w, gd.K, gd.mg, gd.base] at oc0 ⊢
                            have bp := ls k (by omega) _ _ ⟨Z1, φ, H1, fo, Z1, φ, H1, some (bb, σ)⟩ gb rfl rfl (fun _ => rfl) (passes_of rfl) rfl oc0 mm body' d.body hbody
                            have np : 0 < d.n := by
                              have := congrArg List.length S.pre
                              rw [List.length_take, List.length_map, hpl] at this
                              omega
                            exact ⟨_, bp, ⟨Z1, φ, h, _, At.startC R1 hNn np, post_lcall hfn hdl ((p.later le1).castW)⟩⟩
                          · exact gd.room.deeper _
                        refine wpAny_call (codeAny_mono rc fun r s2 hq => ?_)
                        cases r with
                        | error e => exact passAt gd.tk σv pins H1 s' e s2 I1 hq
                        | ok fl =>
                          cases fl with
                          | ret u => exact I1.after hq
                          | next => exact False.elim hq
                          | brk => exact False.elim hq
                          | cont => exact False.elim hq
                      · have : (Γ.at_ (k + 1)).lcall f bb σ h = none := by
                          show evLcall Γ.G (Γ.at_ k) f bb σ h = _
                          unfold evLcall
                          rw [hfn]
                          dsimp only
                          rw [if_neg hdl]
                        rw [this] at p
                        exact p.elim
                  · rw [if_neg htt] at p
                    exact p.elim
                | _ => exact p.elim
            | _ => exact p.elim
        | [], _, hck => exact absurd hck (by simp [ck])
        | _ :: _ :: _, _, hck => exact absurd hck (by simp [ck])
        | [e1], _ :: _, hck => exact absurd hck (by cases e1 <;> simp [ck])
      | _ => exact absurd hck (by simp [ck])
    | _ => exact absurd hck (by simp [ck])
end
end Ev
end
section
set_option Elab.async false
set_option linter.all false
set_option maxRecDepth 100000
set_option maxHeartbeats 1000000
/-! Ev, part SA: plain statements. -/
namespace Ev
open PySem PySem.Spec PyProof.Rows L2

/-- what a body's context is -/
structure Bd (Γ : Gam) (n : Nat) (X : Cx) (W : WX) : Prop where
  gd : Gd Γ n X W
  fn : ∀ x, X.fn x = true
  po : PassesOwn (model X.prog X.w) X.A X.env X.xe
  st : X.stack = X.env :: X.outer
  fr : X.env.frame = some X.env.locals
  ex : X.ex = []
section
variable {Γ : Gam} {Z : Addr → Prop} {φ : List Addr} {H : Hp} {h : Hh} {X : Cx} {W : WX} {n m : Nat} {σv : L2.St} {b : Bs} {σ : Sl} {D : Ends}
theorem At.setTg {tg : Tg} {v : V} {t : T} {vs : List V} {σ' : Sl} (a : At Γ b σ σv Z φ H h) (w : TV Γ Z φ H v t) (e : Ev.setTg tg t σ = some σ') (k : TgP Γ Z φ H tg t vs σ σ') : At Γ b σ' (setV tg v vs σv) Z φ H h :=
  ⟨a.r, a.s.setTg w e k, a.le, a.hf.setTg e k, a.lz⟩
theorem noComp_sw {e : Expr} (h : noComp e = true) (t : Option Expr) (l : Nat) (env : Env) : swapsWith e t l env = pure false := by
  cases e <;> first | rfl | cases h
theorem noComp_sole {tg e : Expr} (h : noComp e = true) (l : Nat) (env : Env) : swapsWithSole [tg] e l env = pure false := noComp_sw h (some tg) l env
def nameE : Expr → Bool
  | .Name .. => true
  | _ => false
theorem no_swap {tg e : Expr} (h : (noTup e || nameE tg) = true) (env : Env) : swappedStores [tg] e env = pure none := by
  cases tg <;> first | rfl | (cases e <;> first | rfl | cases h)
/-- tg = e -/
theorem t_set (bd : Bd Γ n X W) {tg e : Expr} {t : Tg} {c : CE} {pos : Pos} {ev : Sl → Hh → Ro T} (he : PE X e (rdE Γ W ev)) (htg : ckTg X.N X.env.scope tg t = true) (hc : noComp e = true) (hs : (noTup e || nameE tg) = true) :
    PS X (.Assign [tg] e pos) (rdS Γ W b fun σ h => So.of σ (ev σ h) fun u h => (match setTg t u σ with
      | some σ' => some (.nx σ', h)
      | none => none)) := by
  have hg := ck_G bd.gd (fun x hx => ⟨locB_ok hx, .inl (bd.fn x)⟩) htg
  have h1 : (assignEach [tg] X.env).map (·.2) = [assign tg X.env] := by
    cases t with
    | nm i => obtain ⟨x, p, rfl, _, _⟩ := ckTgN_ok htg; rfl
    | tup is => cases tg <;> first | rfl | cases htg
  refine ps_weaken (ps_asg he hg (noComp_sole hc _ _) (no_swap hs _) h1) fun D σv H q => ?_
  refine (rdS_of q).mono fun v H1 ⟨Z1, φ1, h1, σ, u, a, w, q1⟩ => ?_
  cases es : setTg t u σ with
  | none => rw [es] at q1; exact q1.elim
  | some σ' =>
    rw [es] at q1
    rw [bd.gd.K]
    exact gOf_run w es fun vs tp => q1 Z1 φ1 H1 _ (a.setTg w es tp)
/-- e, for what it does -/
theorem t_exp {e : Expr} {pos : Pos} {ev : Sl → Hh → Ro T} (he : PE X e (rdE Γ W ev)) (hc : noComp e = true) : PS X (.Expr e pos) (rdS Γ W b fun σ h => So.of σ (ev σ h) fun _ h => some (.nx σ, h)) :=
  ps_weaken (ps_expr he (noComp_sw hc _ _ _)) fun D σv H q => (rdS_of q).mono fun v H1 ⟨Z1, φ1, h1, σ, u, a, w, q1⟩ => q1 Z1 φ1 H1 _ a
/-- return e -/
theorem t_ret {e : Expr} {pos : Pos} {ev : Sl → Hh → Ro T} (he : PE X e (rdE Γ W ev)) : PS X (.Return (some e) pos) (rdS Γ W b fun σ h => So.of σ (ev σ h) fun t h => some (.rt t, h)) :=
  ps_weaken (ps_ret he) fun D σv H q => (rdS_of q).mono fun v H1 ⟨Z1, φ1, h1, σ, u, a, w, q1⟩ => q1 Z1 φ1 H1 v a.le a.r w
theorem t_retN {pos : Pos} : PS X (.Return none pos) (rdS Γ W b fun σ h => some (.rt .non, h)) :=
  ps_weaken ps_retN fun D σv H q => by
    obtain ⟨Z, φ, h, σ, a, q⟩ := q
    exact q Z φ H .non a.le a.r .non
theorem t_pass {pos : Pos} : PS X (.Pass pos) (rdS Γ W b fun σ h => some (.nx σ, h)) := ps_weaken ps_pass fun D σv H q => by
  obtain ⟨Z, φ, h, σ, a, q⟩ := q
  exact q Z φ H _ a
theorem t_brk {pos : Pos} : PS X (.Break pos) (rdS Γ W b fun σ h => some (.bk σ, h)) := ps_weaken ps_break fun D σv H q => by
  obtain ⟨Z, φ, h, σ, a, q⟩ := q
  exact q Z φ H _ a
theorem t_cont {pos : Pos} : PS X (.Continue pos) (rdS Γ W b fun σ h => some (.ct σ, h)) := ps_weaken ps_continue fun D σv H q => by
  obtain ⟨Z, φ, h, σ, a, q⟩ := q
  exact q Z φ H _ a
theorem t_never {s : Stmt} : PS X s (rdS Γ W b fun σ h => none) := ps_weaken ps_never fun D σv H q => by
  obtain ⟨Z, φ, h, σ, a, q⟩ := q
  exact q
/-- if -/
theorem t_if {c : Expr} {p q : List Stmt} {pos : Pos} {ev : Sl → Hh → Ro Bool} {f g : Sl → Hh → So} (hc : PT X c (rdB Γ W ev)) (ha : PSs X p (rdS Γ W b f)) (hb : PSs X q (rdS Γ W b g)) :
    PS X (.If c p q pos) (rdS Γ W b fun σ h => So.of σ (ev σ h) fun k h => if k then f σ h else g σ h) :=
  ps_weaken (ps_if hc ha hb) fun D σv H q => (rdS_of q).mono fun v H1 ⟨Z1, φ1, h1, σ, u, a, w, q1⟩ => by
    subst w
    cases v with
    | true => exact ⟨Z1, φ1, h1, σ, a, q1⟩
    | false => exact ⟨Z1, φ1, h1, σ, a, q1⟩
/-- one after another -/
theorem PostS.seq {f : Sl → Hh → So} {D : Ends} {o : So} (p : PostS Γ W b D (match o with
    | some (.nx σ', h') => f σ' h'
    | o => o)) : PostS Γ W b { D with nx := rdS Γ W b f D } o := by
  cases o with
  | none => exact p
  | some y =>
    obtain ⟨fl, h⟩ := y
    cases fl with
    | nx σ => exact fun Z φ H σv a => ⟨Z, φ, h, σ, a, p⟩
    | rt t => exact p
    | bk σ => exact p
    | ct σ => exact p
    | ex c fs σ => exact p
theorem t_seq {s : Stmt} {ss : List Stmt} {f g : Sl → Hh → So} (h1 : PS X s (rdS Γ W b f)) (h2 : PSs X ss (rdS Γ W b g)) : PSs X (s :: ss) (rdS Γ W b fun σ h => match f σ h with
    | some (.nx σ', h') => g σ' h'
    | o => o) :=
  pss_weaken (pss_cons h1 h2) fun D σv H q => by
    obtain ⟨Z, φ, h, σ, a, q⟩ := q
    exact ⟨Z, φ, h, σ, a, PostS.seq q⟩
end
end Ev
end
section
set_option Elab.async false
set_option linter.all false
set_option maxRecDepth 100000
set_option maxHeartbeats 1000000
/-! Ev, part SB: loops. -/
namespace Ev
open PySem PySem.Spec PyProof.Rows L2

section
variable {Γ : Gam} {Z Z1 : Addr → Prop} {φ φ1 : List Addr} {H H1 : Hp} {h h1 : Hh} {X : Cx} {W : WX} {n m : Nat} {σv : L2.St} {b : Bs} {σ : Sl} {D : Ends}
/-- the same body, looked at from later on -/
def Bs.at_ (b : Bs) (Z : Addr → Prop) (φ : List Addr) (H : Hp) : Bs := ⟨b.Z, b.φ, b.H, b.x, Z, φ, H, b.clo⟩
theorem Bs.at_same (b : Bs) (Z : Addr → Prop) (φ : List Addr) (H : Hp) : (b.at_ Z φ H).same b := ⟨rfl, rfl, rfl, rfl, rfl⟩
theorem At.from_ (a : At Γ b σ σv Z φ H h) (le : LeZ Z1 φ1 H1 Z φ H) : At Γ (b.at_ Z1 φ1 H1) σ σv Z φ H h := ⟨a.r, a.s, a.le, ⟨a.hf.h, a.hf.c⟩, le⟩
theorem At.back (l0 : LeZ b.Zl b.φl b.Hl Z1 φ1 H1) (a : At Γ (b.at_ Z1 φ1 H1) σ σv Z φ H h) : At Γ b σ σv Z φ H h := ⟨a.r, a.s, a.le, ⟨a.hf.h, a.hf.c⟩, l0.trans a.lz⟩
/-- what a loop's body must bring -/
theorem PostS.loop {D : Ends} {o : So} {N : L2.St → Hp → Prop} {nx : Sl → Hh → So} (l0 : LeZ b.Zl b.φl b.Hl Z1 φ1 H1)
    (p : PostS Γ W b D (match o with
      | some (.nx σ', h') => nx σ' h'
      | some (.ct σ', h') => nx σ' h'
      | some (.bk σ', h') => some (.nx σ', h')
      | o => o))
    (hN : ∀ (σ : Sl) (h : Hh) (Z : Addr → Prop) (φ : List Addr) (H : Hp) (σv : L2.St), PostS Γ W b D (nx σ h) → At Γ (b.at_ Z1 φ1 H1) σ σv Z φ H h → N σv H) :
    PostS Γ W (b.at_ Z1 φ1 H1) { D with nx := N, ct := N, bk := D.nx } o := by
  cases o with
  | none => exact p
  | some y =>
    obtain ⟨fl, h⟩ := y
    cases fl with
    | nx σ => exact fun Z φ H σv a => hN σ h Z φ H σv p a
    | ct σ => exact fun Z φ H σv a => hN σ h Z φ H σv p a
    | bk σ => exact fun Z φ H σv a => p Z φ H σv (a.back l0)
    | rt t => exact fun Z φ H v le r w => p Z φ H v le r w
    | ex c fs σ => exact fun Z φ H σv d gs a hd nz np nh tf => p Z φ H σv d gs (a.back l0) hd nz np nh tf
/-- for tg in it: .. -/
theorem t_for (bd : Bd Γ n X W) {tg it : Expr} {t : Tg} {body : List Stmt} {pos : Pos} {ev : Sl → Hh → Ro (List T)} {cs : List CS} {ss : Sl → List CS → Hh → So} (hi : PI X tg it (rdI Γ false W ev)) (hf : noFold it = true) (htg : ckTg X.N X.env.scope tg t = true) (hb : ∀ b' : Bs, b'.same b → PSs X body (rdS Γ W b' fun σ h => ss σ cs h)) :
    PS X (.For tg it body [] pos) (rdS Γ W b fun σ h => So.of σ (ev σ h) fun l h => forL t cs ss l σ h) := by
  have hg := ck_G bd.gd (fun x hx => ⟨locB_ok hx, .inl (bd.fn x)⟩) htg
  have hb' : PSs X body (fun D σv H => ∃ b' : Bs, b'.same b ∧ rdS Γ W b' (fun σ h => ss σ cs h) D σv H) := ⟨fun pins s σ H D I ⟨b', hs, q⟩ => (hb b' hs).run pins s σ H D I q⟩
  refine ps_weaken (ps_for bd.po bd.gd.calm hi hg hb' (noFold_set hf X.env)) fun D σv H q => ?_
  refine (rdS_of (rel := Wk Γ false) q).mono fun J H1 ⟨Z1, φ1, h1, σ, l, a, wk, q1⟩ => ?_
  refine ⟨fun i mm σv Hi => mm = l.length - i ∧ i ≤ l.length ∧ ∃ (Zi : Addr → Prop) (φi : List Addr) (hi : Hh) (σi : Sl), At Γ (b.at_ Z1 φ1 H1) σi σv Zi φi Hi hi ∧ PostS Γ W b D (forL t cs ss (l.drop i) σi hi), ⟨l.length - 0, rfl, Nat.zero_le _, Z1, φ1, h1, σ, a.from_ .refl, by rw [List.drop_zero]; exact q1⟩, ?_⟩
  rintro i mm σv Hi ⟨rfl, hile, Zi, φi, hhi, σi, ai, pp⟩
  by_cases hlt : i < l.length
  · refine .inr ⟨wk.go i Zi φi Hi hhi ⟨ai.lz, fun k => nomatch k⟩ ai.r hlt, fun σv' H' => l.length - (i + 1) = l.length - (i + 1) ∧ i + 1 ≤ l.length ∧ ∃ (Zi : Addr → Prop) (φi : List Addr) (hi : Hh) (σi : Sl), At Γ (b.at_ Z1 φ1 H1) σi σv' Zi φi H' hi ∧ PostS Γ W b D (forL t cs ss (l.drop (i + 1)) σi hi),
      fun σ' H' p' => ⟨l.length - (i + 1), by omega, p'⟩, fun x H' y => ?_⟩
    have hget : l[i]? = some l[i] := List.getElem?_eq_getElem hlt
    obtain ⟨Z2, le2, r2, tx⟩ := wk.yld i l[i] Zi φi Hi hhi x H' ⟨ai.lz, fun k => nomatch k⟩ ai.r hget y
    have hdrop : l.drop i = l[i] :: l.drop (i + 1) := (List.drop_eq_getElem_cons hlt)
    rw [hdrop] at pp
    unfold forL at pp
    cases est : setTg t l[i] σi with
    | none => rw [est] at pp; exact pp.elim
    | some σ' =>
      rw [est] at pp
      dsimp only at pp
      rw [bd.gd.K]
      refine gOf_run tx est fun vs tp => ⟨b.at_ Z1 φ1 H1, b.at_same _ _ _, Z2, φi, hhi, σ', (ai.later le2 r2).setTg tx est tp, ?_⟩
      exact PostS.loop a.lz pp fun σ h Z φ H σv pn an => ⟨rfl, hlt, Z, φ, h, σ, an, pn⟩
  · have e : i = l.length := by omega
    subst e
    refine .inl ⟨wk.stop _ Zi φi Hi hhi ⟨ai.lz, fun k => nomatch k⟩ ai.r (Nat.le_refl _), ?_⟩
    rw [List.drop_length] at pp
    exact pp Zi φi Hi _ (ai.back a.lz)
/-- while c: .. -/
theorem t_while (bd : Bd Γ n X W) {c : Expr} {body : List Stmt} {pos : Pos} {ev : Sl → Hh → Ro Bool} {cs : List CS} {ss : Sl → List CS → Hh → So} {wf : Nat} (hc : PT X c (rdB Γ W ev)) (hb : ∀ b' : Bs, b'.same b → PSs X body (rdS Γ W b' fun σ h => ss σ cs h)) :
    PS X (.While c body [] pos) (rdS Γ W b fun σ h => whileL ev cs ss wf σ h) := by
  have hb' : PSs X body (fun D σv H => ∃ b' : Bs, b'.same b ∧ rdS Γ W b' (fun σ h => ss σ cs h) D σv H) := ⟨fun pins s σ H D I ⟨b', hs, q⟩ => (hb b' hs).run pins s σ H D I q⟩
  refine ps_weaken (ps_while bd.po hc hb') fun D σv H q => ?_
  obtain ⟨Z, φ, h, σ, a, q⟩ := q
  refine ⟨fun mm σv Hi => ∃ (Zi : Addr → Prop) (φi : List Addr) (hi : Hh) (σi : Sl), At Γ b σi σv Zi φi Hi hi ∧ PostS Γ W b D (whileL ev cs ss mm σi hi), ⟨wf, Z, φ, h, σ, a, q⟩, ?_⟩
  rintro mm σv Hi ⟨Zi, φi, hhi, σi, ai, pp⟩
  cases mm with
  | zero => exact pp.elim
  | succ mm =>
    unfold whileL at pp
    refine (rdS_of (b := b) (ev := ev) (f := fun σ k h => if k then (match ss σ cs h with
      | some (.nx σ', h') => whileL ev cs ss mm σ' h'
      | some (.ct σ', h') => whileL ev cs ss mm σ' h'
      | some (.bk σ', h') => some (.nx σ', h')
      | o => o) else some (.nx σ, h)) ⟨Zi, φi, hhi, σi, ai, pp⟩).mono fun k H1 ⟨Z1, φ1, h1, σ1, k', a1, ek, p1⟩ => ?_
    subst ek
    cases k with
    | false => exact p1 Z1 φ1 H1 _ a1
    | true =>
      refine ⟨fun σv H => ∃ (Zi : Addr → Prop) (φi : List Addr) (hi : Hh) (σi : Sl), At Γ b σi σv Zi φi H hi ∧ PostS Γ W b D (whileL ev cs ss mm σi hi), fun σ' H' p' => ⟨mm, by omega, p'⟩, b.at_ Z1 φ1 H1, b.at_same _ _ _, Z1, φ1, h1, σ1, a1.from_ .refl, ?_⟩
      exact PostS.loop a1.lz p1 fun σ h Z φ H σv pn an => ⟨Z, φ, h, σ, an.back a1.lz, pn⟩
end
end Ev
end
section
set_option Elab.async false
set_option linter.all false
set_option maxRecDepth 100000
set_option maxHeartbeats 1000000
/-! Ev, part SC: lists that a name alone holds; boxes. -/
namespace Ev
open PySem PySem.Spec PyProof.Rows L2

section
variable {Γ : Gam} {Z Z1 : Addr → Prop} {φ φ1 : List Addr} {H H1 : Hp} {h h1 : Hh} {X : Cx} {W : WX} {n m : Nat} {σv : L2.St} {b : Bs} {σ : Sl} {D : Ends}
theorem set_at {α : Type} {l : List α} {i j : Nat} {a x : α} (e : (l.set i a)[j]? = some x) : (i = j ∧ x = a) ∨ (i ≠ j ∧ l[j]? = some x) := by
  by_cases hj : i = j
  · subst hj
    have hl : i < l.length := by
      have := (List.getElem?_eq_some_iff.mp e).1
      simpa using this
    rw [List.getElem?_set_self hl] at e
    cases e
    exact .inl ⟨rfl, rfl⟩
  · rw [List.getElem?_set_ne hj] at e
    exact .inr ⟨hj, e⟩
/-- a slot's list -/
theorem SR.hold (s : SR Γ Z φ H σ σv) {i : Nat} {p : Addr} {vs : List V} {l : List T} (hp : H p = some (.lst vs)) (tv : TVs Γ Z φ H vs l) (nz : ¬ Z p) (np : p ∉ φ)
    (fresh : ∀ (j : Nat) (x : SV), σ[j]? = some x → x.held = true → σv[j]? = some (some (.ref p)) → j = i) : SR Γ Z φ H (σ.set i (.own l)) (σv.set i (some (.ref p))) := by
  refine ⟨by rw [List.length_set, List.length_set, s.len], fun j x e => ?_, fun j k x y u e1 e2 h1 h2 e3 e4 => ?_⟩
  · rcases set_at e with ⟨rfl, rfl⟩ | ⟨ne, e⟩
    · have hl : i < σv.length := by
        have := (List.getElem?_eq_some_iff.mp e).1
        rw [← s.len]
        simpa using this
      exact ⟨some (.ref p), List.getElem?_set_self hl, p, vs, rfl, hp, tv, nz, np⟩
    · obtain ⟨o, eo, k⟩ := s.at_ j x e
      exact ⟨o, by rw [List.getElem?_set_ne ne]; exact eo, k⟩
  · rcases set_at e1 with ⟨rfl, rfl⟩ | ⟨n1, e1⟩
    · rcases set_at e2 with ⟨rfl, rfl⟩ | ⟨n2, e2⟩
      · rfl
      · rcases set_at e3 with ⟨_, e3⟩ | ⟨n3, _⟩
        · cases e3
          rw [List.getElem?_set_ne n2] at e4
          exact (fresh k y e2 h2 e4).symm
        · exact absurd rfl n3
    · rcases set_at e2 with ⟨rfl, rfl⟩ | ⟨n2, e2⟩
      · rcases set_at e4 with ⟨_, e4⟩ | ⟨n4, _⟩
        · cases e4
          rw [List.getElem?_set_ne n1] at e3
          exact fresh j x e1 h1 e3
        · exact absurd rfl n4
      · rw [List.getElem?_set_ne n1] at e3
        rw [List.getElem?_set_ne n2] at e4
        exact s.sep j k x y u e1 e2 h1 h2 e3 e4
theorem HF.hold (f : HF b σ σv) {i : Nat} {p : Addr} {l : List T} (hp : b.H p = none) : HF b (σ.set i (.own l)) (σv.set i (some (.ref p))) := ⟨fun j x q e hx ep => by
  rcases set_at e with ⟨rfl, rfl⟩ | ⟨ne, e⟩
  · rcases set_at ep with ⟨_, ep⟩ | ⟨n, _⟩
    · cases ep
      exact ⟨hp, fun c fs k => nomatch k⟩
    · exact absurd rfl n
  · rw [List.getElem?_set_ne ne] at ep
    exact f.h j x q e hx ep, f.c.set i rfl⟩
/-- an address where nothing stood -/
theorem At.none_of (a : At Γ b σ σv Z φ H h) {p : Addr} (hp : H p = none) : b.H p = none := by
  cases e : b.H p with
  | none => rfl
  | some o =>
    obtain ⟨u, eu⟩ := a.le.live a.r e
    rw [hp] at eu
    cases eu
theorem At.fresh (a : At Γ b σ σv Z φ H h) {p : Addr} (hp : H p = none) : ∀ (j : Nat) (x : SV), σ[j]? = some x → x.held = true → σv[j]? ≠ some (some (.ref p)) := fun j x e hx ep => by
  obtain ⟨o, eo, k⟩ := a.s.at_ j x e
  rw [ep] at eo
  cases eo
  cases x with
  | own l => obtain ⟨q, vs, eq, hq, _⟩ := k; cases eq; rw [hp] at hq; cases hq
  | self c fs => obtain ⟨q, dx, gs, eq, hq, _⟩ := k; cases eq; rw [hp] at hq; cases hq
  | clo _ _ => cases hx
  | no => cases hx
  | val t => cases hx
/-- a new list, held by a slot alone -/
theorem At.own (a : At Γ b σ σv Z φ H h) (le : Le Z φ H Z1 φ1 H1) (r : R Γ Z1 φ1 H1 h1) {v : V} {l : List T} (o : OL Γ H Z1 φ1 H1 v l) (i : Nat) : At Γ b (σ.set i (.own l)) (σv.set i (some v)) Z1 φ1 H1 h1 := by
  obtain ⟨p, vs, rfl, hp, tv, nz, np, h0⟩ := o
  have a1 := a.later le r
  exact ⟨r, a1.s.hold hp tv nz np fun j x e hx ep => absurd ep (a.fresh h0 j x e hx), a1.le, a1.hf.hold (a.none_of h0), a1.lz⟩
/-- .. a cell -/
theorem At.box (a : At Γ b σ σv Z φ H h) (le : Le Z φ H Z1 φ1 H1) (r : R Γ Z1 φ1 H1 h1) {v : V} {l : List T} (o : OL Γ H Z1 φ1 H1 v l) : ∃ p, v = .ref p ∧ At Γ b σ σv Z1 (φ1 ++ [p]) H1 (h1 ++ [.lst l]) ∧ TV Γ Z1 (φ1 ++ [p]) H1 v (.ref h1.length) := by
  obtain ⟨p, vs, rfl, hp, tv, nz, np, h0⟩ := o
  have r2 := r.cell_new nz np (.lst hp (tv.monoZ LeZ.cell_new))
  exact ⟨p, rfl, a.later (le.cell_new h0) r2, .ref (by rw [← r.len, List.getElem?_append_right (Nat.le_refl _)]; simp)⟩
/-- x = a new list -/
theorem t_ownS {st : Stmt} {i : Nat} {ev : Sl → Hh → Ro (List T)} (hS : PS X st (tAsg (rdL Γ W ev) (gName i))) :
    PS X st (rdS Γ W b fun σ h => So.of σ (ev σ h) fun l h => some (.nx (σ.set i (.own l)), h)) :=
  ps_weaken hS fun D σv H q => by
    obtain ⟨Z, φ, h, σ, a, q⟩ := q
    have q : PostS Γ W b D (So.of σ (ev σ h) fun l h => some (.nx (σ.set i (.own l)), h)) := q
    refine ⟨Z, φ, h, σ, a.r, a.s, ?_⟩
    cases e : ev σ h with
    | none => rw [e] at q; exact q
    | some y => cases y with
      | ok l h1 => rw [e] at q; exact fun Z1 φ1 H1 v le r o => q Z1 φ1 H1 _ (a.own le r o i)
      | ex c fs h1 => rw [e] at q; exact fun Z1 φ1 H1 d gs le r hd nz np nh tf => q Z1 φ1 H1 σv d gs (a.later le r) hd nz np (a.le.fresh nh (le.notin np)) tf
theorem t_boxS {st : Stmt} {i : Nat} {ev : Sl → Hh → Ro (List T)} (hS : PS X st (tAsg (rdL Γ W ev) (gName i))) :
    PS X st (rdS Γ W b fun σ h => So.of σ (ev σ h) fun l h => some (.nx (σ.set i (.val (.ref h.length))), h ++ [.lst l])) :=
  ps_weaken hS fun D σv H q => by
    obtain ⟨Z, φ, h, σ, a, q⟩ := q
    have q : PostS Γ W b D (So.of σ (ev σ h) fun l h => some (.nx (σ.set i (.val (.ref h.length))), h ++ [.lst l])) := q
    refine ⟨Z, φ, h, σ, a.r, a.s, ?_⟩
    cases e : ev σ h with
    | none => rw [e] at q; exact q
    | some y => cases y with
      | ok l h1 =>
        rw [e] at q
        exact fun Z1 φ1 H1 v le r o => by
          obtain ⟨p, rfl, a2, w⟩ := a.box le r o
          exact q Z1 (φ1 ++ [p]) H1 _ (a2.setTg (tg := .nm i) (vs := []) w rfl trivial)
      | ex c fs h1 => rw [e] at q; exact fun Z1 φ1 H1 d gs le r hd nz np nh tf => q Z1 φ1 H1 σv d gs (a.later le r) hd nz np (a.le.fresh nh (le.notin np)) tf
/-- .. settled at once -/
theorem t_setS {st : Stmt} {i : Nat} {ev : Sl → Hh → Ro (List T)} (hS : PS X st (tAsg (rdL Γ W ev) (gName i))) :
    PS X st (rdS Γ W b fun σ h => So.of σ (ev σ h) fun l h => some (.nx (σ.set i (.val (.lst l))), h)) :=
  ps_weaken hS fun D σv H q => by
    obtain ⟨Z, φ, h, σ, a, q⟩ := q
    have q : PostS Γ W b D (So.of σ (ev σ h) fun l h => some (.nx (σ.set i (.val (.lst l))), h)) := q
    refine ⟨Z, φ, h, σ, a.r, a.s, ?_⟩
    cases e : ev σ h with
    | none => rw [e] at q; exact q
    | some y => cases y with
      | ok l h1 =>
        rw [e] at q
        intro Z1 φ1 H1 v le r o
        obtain ⟨p, vs, rfl, hq, tv, nz, np, h0⟩ := o
        have a1 := a.later (le.settle h0) (r.settle hq np)
        exact q _ φ1 H1 _ (a1.setTg (tg := .nm i) (vs := []) (.lst ⟨.inr rfl, hq⟩ (tv.monoZ (LeZ.settle p))) rfl trivial)
      | ex c fs h1 => rw [e] at q; exact fun Z1 φ1 H1 d gs le r hd nz np nh tf => q Z1 φ1 H1 σv d gs (a.later le r) hd nz np (a.le.fresh nh (le.notin np)) tf
theorem ps_own (bd : Bd Γ n X W) {x : Str} {i : Nat} {e : Expr} {p' pos : Pos} {te : TE} (he : PE X e te) (hi : X.N[i]? = some x) (hx : locB X.env.scope x = true) (hc : noComp e = true) :
    PS X (.Assign [.Name x p'] e pos) (tAsg te (gName i)) := ps_set bd.gd.nd hi (locB_ok hx) he (noComp_sw hc _ _ _) (.inl (bd.fn x))
end
end Ev
end
section
set_option Elab.async false
set_option linter.all false
set_option maxRecDepth 100000
set_option maxHeartbeats 1000000
/-! Ev, part SD: what a held list's methods do. -/
namespace Ev
open PySem PySem.Spec PyProof.Rows L2

section
variable {Γ : Gam} {Z Z1 : Addr → Prop} {φ φ1 : List Addr} {H H1 : Hp} {h h1 : Hh} {X : Cx} {W : WX} {n m : Nat} {σv : L2.St} {b : Bs} {σ : Sl} {D : Ends}
/-- a held list changes -/
theorem At.relist (a : At Γ b σ σv Z φ H h) {i : Nat} {p : Addr} {vs : List V} {l l' : List T} (ei : σ[i]? = some (.own l)) (ep : σv[i]? = some (some (.ref p))) (tv : TVs Γ Z φ H vs l') : At Γ b (σ.set i (.own l')) σv Z φ (upd H p (.lst vs)) h := by
  obtain ⟨o, eo, q, ws, eq, hq, _, nz, np⟩ := a.s.at_ i _ ei
  rw [ep] at eo
  cases eo
  cases eq
  have b0 : b.H p = none := (a.hf.h i _ p ei rfl ep).1
  have lz : LeZ Z φ H Z φ (upd H p (.lst vs)) := ⟨fun _ _ h => h, fun c z => ⟨z, upd_ne fun e => nz (e ▸ z)⟩⟩
  have il : i < σ.length := (List.getElem?_eq_some_iff.mp ei).1
  refine ⟨⟨a.r.nd, a.r.len, fun c z => ?_, fun k mo c e1 e2 => ?_⟩, ⟨?_, fun j x e => ?_, fun j k x y u e1 e2 h1 h2 e3 e4 => ?_⟩, ⟨a.le.pf, fun c o e nc => ?_⟩, ⟨fun j x q e hx eq => ?_, a.hf.c.set1 i rfl⟩, a.lz.trans lz⟩
  · obtain ⟨z1, o, z2⟩ := a.r.dz c z
    have ne : c ≠ p := fun e => nz (e ▸ z)
    exact ⟨z1, o, by rw [upd_ne ne]; exact z2⟩
  · have ne : c ≠ p := fun e => np (e ▸ List.mem_of_getElem? e2)
    exact (a.r.ok k mo c e1 e2).monoZ lz (upd_ne ne)
  · rw [List.length_set]; exact a.s.len
  · rcases set_at e with ⟨rfl, rfl⟩ | ⟨ne, e⟩
    · exact ⟨_, ep, p, vs, rfl, upd_same, tv.monoZ lz, nz, np⟩
    · obtain ⟨o, eo, k⟩ := a.s.at_ j x e
      refine ⟨o, eo, ?_⟩
      cases x with
      | no => trivial
      | val t => obtain ⟨v, ev, w⟩ := k; exact ⟨v, ev, w.monoZ lz⟩
      | own l2 =>
        obtain ⟨q, us, rfl, hq2, t2, nz2, np2⟩ := k
        have nq : q ≠ p := fun e2 => by subst e2; exact ne (a.s.sep i j _ _ _ ei e rfl rfl ep eo)
        exact ⟨q, us, rfl, by rw [upd_ne nq]; exact hq2, t2.monoZ lz, nz2, np2⟩
      | self c fs =>
        obtain ⟨q, dx, gs, rfl, hq2, t2, nz2, np2⟩ := k
        have nq : q ≠ p := fun e2 => by subst e2; exact ne (a.s.sep i j _ _ _ ei e rfl rfl ep eo)
        exact ⟨q, dx, gs, rfl, by rw [upd_ne nq]; exact hq2, t2.monoZ lz, nz2, np2⟩
      | clo _ _ => trivial
  · have f : ∀ {j : Nat} {x : SV}, (σ.set i (.own l'))[j]? = some x → x.held = true → ∃ x', σ[j]? = some x' ∧ x'.held = true := fun {j x} e hx => by
      rcases set_at e with ⟨rfl, rfl⟩ | ⟨_, e⟩
      · exact ⟨_, ei, rfl⟩
      · exact ⟨x, e, hx⟩
    obtain ⟨x', f1, f2⟩ := f e1 h1
    obtain ⟨y', f3, f4⟩ := f e2 h2
    exact a.s.sep j k x' y' u f1 f3 f2 f4 e3 e4
  · have ne : c ≠ p := fun e2 => by rw [e2, b0] at e; cases e
    obtain ⟨x1, x2, x3⟩ := a.le.kp c o e nc
    exact ⟨by rw [upd_ne ne]; exact x1, x2, x3⟩
  · rcases set_at e with ⟨rfl, rfl⟩ | ⟨_, e⟩
    · obtain ⟨g1, _⟩ := a.hf.h i _ q ei rfl eq
      exact ⟨g1, fun c fs k => nomatch k⟩
    · exact a.hf.h j x q e hx eq
/-- x.append(e), x held by its name alone -/
theorem t_app (bd : Bd Γ n X W) (wd : WdF Γ) {x : Str} {i : Nat} {e : Expr} {p1 ap cp pos : Pos} {ev : Sl → Hh → Ro T} (he : PE X e (rdE Γ W ev)) (hv : ckVar X.N X.env.scope x i = true) (hs : notStar e = true) (hl : (ap.endLine == cp.line) = true) :
    PS X (.Expr (.Call (.Attribute (.Name x p1) (Γ.nm nAppend) ap) [e] [] cp) pos) (rdS Γ W b fun σ h => (match σ[i]? with
      | some (.own l) => So.of σ (ev σ h) fun t h => if l.length < big then some (.nx (σ.set i (.own (l ++ [t]))), h) else none
      | _ => none)) := by
  unfold ckVar at hv
  obtain ⟨h1, h3⟩ := ba2 hv
  obtain ⟨h1, h2⟩ := ba2 h1
  obtain ⟨d1, d2, d3⟩ := dbg_ok h3
  have pv := pe_var (X := X) (pos := p1) (of_decide_eq_true h1) (visB_ok h2) d1 d2
  have PEc : PE X (.Call (.Attribute (.Name x p1) (Γ.nm nAppend) ap) [e] [] cp) (fun σv H Q => ∃ (p : Addr) (vs : List V), σv[i]? = some (some (.ref p)) ∧ H p = some (.lst vs) ∧ rdE Γ W ev σv H fun v H1 => H1 p = some (.lst vs) ∧ vs.length < sizeLine ∧ Q .non (upd H1 p (.lst (vs ++ [v])))) := by
    refine ⟨fun pins s σv H Q I q => ?_⟩
    obtain ⟨p, vs, ep, hp, q⟩ := q
    refine mcall_of rfl (few_of (by simp [hs]) rfl (by simp)) hl (thn (pv.run pins s σv H (fun y H1 => y = .ref p ∧ H1 = H) I ⟨.ref p, ep, rfl, rfl⟩) fun u s1 ⟨y, H1, I1, ry, ey, eH⟩ pl => ?_)
    subst ey eH
    cases ry
    obtain ⟨_, its, k, _, _, g1⟩ := I1.lstM hp
    rw [show Γ.nm nAppend = _ from wd.b11]
    refine getMethod_builtin (T := "list") ⟨_, g1, rfl⟩ PySem.F.plainAttrs_list PySem.F.slot_list_append rfl (fun a e => by cases e; exact ⟨_, g1, rfl⟩) ?_
    have PAr := pa_cons he pa_nil (starEach_cons hs)
    have hpl : (backTo cp (starEach [e] X.env)).any (·.1) = false := any_plain (by simp [hs])
    refine Calls.callWith_builtin hpl ?_
    have hA := PAr.run cp pins s1 σv H1 (fun ws H' => ∃ v, ws = [v] ∧ H' p = some (.lst vs) ∧ vs.length < sizeLine ∧ Q .non (upd H' p (.lst (vs ++ [v])))) I1 (rd.mono q fun v H' z => ⟨v, rfl, z⟩)
    rw [starEach_cons hs] at hA ⊢
    refine Calls.evalArgs_plain (thn hA fun us s2 ⟨ws, H2, I2, rv, v, ew, hp2, hz, q2⟩ => ?_)
    subst ew
    exact mt_append pins s2 σv H2 (.ref p) [v] (.ref p) us Q I2 rfl rv ⟨p, vs, v, rfl, rfl, hp2, hz, q2⟩
  refine ps_weaken (ps_expr PEc (noComp_sw rfl _ _ _)) fun D σv H q => ?_
  obtain ⟨Z, φ, h, σ, a, q⟩ := q
  have q : PostS Γ W b D (match σ[i]? with
      | some (.own l) => So.of σ (ev σ h) fun t h => if l.length < big then some (.nx (σ.set i (.own (l ++ [t]))), h) else none
      | _ => none) := q
  cases ei : σ[i]? with
  | none => rw [ei] at q; exact q.elim
  | some sv =>
    rw [ei] at q
    cases sv with
    | own l =>
      dsimp only at q
      obtain ⟨o, eo, p, vs, rfl, hp, tv, nz, np⟩ := a.s.at_ i _ ei
      refine ⟨p, vs, eo, hp, Z, φ, h, σ, a.r, a.s, ?_⟩
      cases e : ev σ h with
      | none => rw [e] at q; exact q
      | some y => cases y with
        | ex c fs h1 => rw [e] at q; exact fun Z1 φ1 H1 d gs le r hd nz np nh tf => q Z1 φ1 H1 σv d gs (a.later le r) hd nz np (a.le.fresh nh (le.notin np)) tf
        | ok t h1 =>
          rw [e] at q
          replace q : PostS Γ W b D (if l.length < big then some (.nx (σ.set i (.own (l ++ [t]))), h1) else none) := q
          intro Z1 φ1 H1 v le r w
          split at q
          · rename_i hz
            obtain ⟨hp1, z1, n1⟩ := le.kp p _ hp np
            have hlt : vs.length < sizeLine := by rw [tv.length]; have := big_lt (Nat.le_refl big); omega
            exact ⟨hp1, hlt, q Z1 φ1 _ _ ((a.later le r).relist ei eo ((tv.mono a.r le).app (.cons w .nil)))⟩
          · exact q.elim
    | _ => exact q.elim
end
end Ev
end
section
set_option Elab.async false
set_option linter.all false
set_option maxRecDepth 100000
set_option maxHeartbeats 1000000
/-! Ev, part SE: fields. -/
namespace Ev
open PySem PySem.Spec PyProof.Rows L2

section
variable {Γ : Gam} {Z Z1 : Addr → Prop} {φ φ1 : List Addr} {H H1 : Hp} {h h1 : Hh} {X : Cx} {W : WX} {n m : Nat} {σv : L2.St} {b : Bs} {σ : Sl} {D : Ends}
theorem tfs_put (inj : ∀ i j, Γ.nm i = Γ.nm j → i = j) {v : V} {t : T} (f : Nat) (w : TV Γ Z φ H v t) : ∀ {gs : List (Str × V)} {fs : List (Nat × T)}, TFs Γ Z φ H gs fs → TFs Γ Z φ H (L2.putF (Γ.nm f) v gs) (putF f t fs)
  | _, _, .nil => .cons w .nil
  | _, _, .cons (v := v') (t := t') (f := g) a b => by
    unfold L2.putF putF
    by_cases e : g = f
    · subst e
      rw [if_pos rfl, if_pos rfl]
      exact .cons w b
    · rw [if_neg e, if_neg fun z => e (inj _ _ z)]
      exact .cons a (tfs_put inj f w b)
theorem tfs_len : ∀ {gs : List (Str × V)} {fs : List (Nat × T)}, TFs Γ Z φ H gs fs → gs.length = fs.length
  | _, _, .nil => rfl
  | _, _, .cons a b => by rw [List.length_cons, List.length_cons, tfs_len b]
/-- what a slot holds alone changes -/
theorem At.rehold (a : At Γ b σ σv Z φ H h) {i : Nat} {p : Addr} {sv sv' : SV} {o : HO} (ei : σ[i]? = some sv) (hsv : sv.held = true) (ep : σv[i]? = some (some (.ref p))) (hsv' : sv'.held = true) (nz : ¬ Z p) (np : p ∉ φ)
    (new : SOk Γ Z φ (upd H p o) (some (.ref p)) sv') (slf : ∀ c fs, sv' = .self c fs → p = b.x) : At Γ b (σ.set i sv') σv Z φ (upd H p o) h := by
  have b0 : b.H p = none := (a.hf.h i _ p ei hsv ep).1
  have lz : LeZ Z φ H Z φ (upd H p o) := ⟨fun _ _ h => h, fun c z => ⟨z, upd_ne fun e => nz (e ▸ z)⟩⟩
  refine ⟨⟨a.r.nd, a.r.len, fun c z => ?_, fun k mo c e1 e2 => ?_⟩, ⟨?_, fun j x e => ?_, fun j k x y u e1 e2 h1 h2 e3 e4 => ?_⟩, ⟨a.le.pf, fun c o e nc => ?_⟩, ⟨fun j x q e hx eq => ?_, a.hf.c.set1 i (held_nclo hsv')⟩, a.lz.trans lz⟩
  · obtain ⟨z1, o, z2⟩ := a.r.dz c z
    have ne : c ≠ p := fun e => nz (e ▸ z)
    exact ⟨z1, o, by rw [upd_ne ne]; exact z2⟩
  · have ne : c ≠ p := fun e => np (e ▸ List.mem_of_getElem? e2)
    exact (a.r.ok k mo c e1 e2).monoZ lz (upd_ne ne)
  · rw [List.length_set]; exact a.s.len
  · rcases set_at e with ⟨rfl, rfl⟩ | ⟨ne, e⟩
    · exact ⟨_, ep, new⟩
    · obtain ⟨o', eo, k⟩ := a.s.at_ j x e
      refine ⟨o', eo, ?_⟩
      cases x with
      | no => trivial
      | val t => obtain ⟨v, ev, w⟩ := k; exact ⟨v, ev, w.monoZ lz⟩
      | own l2 =>
        obtain ⟨q, us, rfl, hq2, t2, nz2, np2⟩ := k
        have nq : q ≠ p := fun e2 => by subst e2; exact ne (a.s.sep i j _ _ _ ei e hsv rfl ep eo)
        exact ⟨q, us, rfl, by rw [upd_ne nq]; exact hq2, t2.monoZ lz, nz2, np2⟩
      | self c fs =>
        obtain ⟨q, dx, gs, rfl, hq2, t2, nz2, np2⟩ := k
        have nq : q ≠ p := fun e2 => by subst e2; exact ne (a.s.sep i j _ _ _ ei e hsv rfl ep eo)
        exact ⟨q, dx, gs, rfl, by rw [upd_ne nq]; exact hq2, t2.monoZ lz, nz2, np2⟩
      | clo _ _ => trivial
  · have f : ∀ {j : Nat} {x : SV}, (σ.set i sv')[j]? = some x → x.held = true → ∃ x', σ[j]? = some x' ∧ x'.held = true := fun {j x} e hx => by
      rcases set_at e with ⟨rfl, rfl⟩ | ⟨_, e⟩
      · exact ⟨_, ei, hsv⟩
      · exact ⟨x, e, hx⟩
    obtain ⟨x', f1, f2⟩ := f e1 h1
    obtain ⟨y', f3, f4⟩ := f e2 h2
    exact a.s.sep j k x' y' u f1 f3 f2 f4 e3 e4
  · have ne : c ≠ p := fun e2 => by rw [e2, b0] at e; cases e
    obtain ⟨x1, x2, x3⟩ := a.le.kp c o e nc
    exact ⟨by rw [upd_ne ne]; exact x1, x2, x3⟩
  · rcases set_at e with ⟨rfl, rfl⟩ | ⟨_, e⟩
    · obtain ⟨g1, _⟩ := a.hf.h i _ q ei hsv eq
      refine ⟨g1, fun c fs k => ?_⟩
      rw [ep] at eq
      cases eq
      exact slf c fs k
    · exact a.hf.h j x q e hx eq
theorem fldOk_of {G : Prg} {c f : Nat} {fs : List (Nat × T)} (e : fldOk G c f fs = true) : ∃ k, G.cl c = some k ∧ k.flds.contains f = true ∧ fs.length < 900 := by
  unfold fldOk at e
  cases hc : G.cl c with
  | none => rw [hc] at e; cases e
  | some k =>
    rw [hc] at e
    obtain ⟨h1, h2⟩ := ba2 e
    exact ⟨k, rfl, h1, of_decide_eq_true h2⟩
/-- a cell changes -/
theorem At.recell (a : At Γ b σ σv Z φ H h) {k : Nat} {p : Addr} {o : HO} {mo : MO} (hk : φ[k]? = some p) (new : MOk Γ Z φ (upd H p o) p mo) : At Γ b σ σv Z φ (upd H p o) (h.set k mo) :=
  ⟨a.r.cell_set hk new, a.s.mono a.r (Le.cell_set hk), a.le.trans (Le.cell_set hk), a.hf, a.lz.trans (keepZ_cell a.r hk)⟩
/-- x.f = e -/
theorem t_fld (bd : Bd Γ n X W) (wd : WdF Γ) {x : Str} {i f : Nat} {e : Expr} {p1 p2 pos : Pos} {ev : Sl → Hh → Ro T} (he : PE X e (rdE Γ W ev)) (hv : ckVar X.N X.env.scope x i = true) (hc : noComp e = true) :
    PS X (.Assign [.Attribute (.Name x p1) (Γ.nm f) p2] e pos) (rdS Γ W b fun σ h => So.of σ (ev σ h) fun t h => (match σ[i]? with
      | some (.self c fs) => if fldOk Γ.G c f fs then some (.nx (σ.set i (.self c (putF f t fs))), h) else none
      | some (.val (.ref a)) => (match h[a]? with
        | some (.ins c fs) => if fldOk Γ.G c f fs then some (.nx σ, h.set a (.ins c (putF f t fs))) else none
        | _ => none)
      | _ => none)) := by
  unfold ckVar at hv
  obtain ⟨h1, h3⟩ := ba2 hv
  obtain ⟨h1, h2⟩ := ba2 h1
  obtain ⟨d1, d2, d3⟩ := dbg_ok h3
  have pv := pe_var (X := X) (pos := p1) (of_decide_eq_true h1) (visB_ok h2) d1 d2
  refine ps_weaken (ps_fld pv he (noComp_sw hc _ _ _)) fun D σv H q => (rdS_of q).mono fun v H1 ⟨Z1, φ1, h1, σ, t, a, w, q1⟩ => ?_
  cases ei : σ[i]? with
  | none => rw [ei] at q1; exact q1.elim
  | some sv =>
    rw [ei] at q1
    cases sv with
    | self c fs =>
      dsimp only at q1
      split at q1
      · rename_i hf
        obtain ⟨k, hk, hf1, hf2⟩ := fldOk_of hf
        have C := wd.cl c k hk
        obtain ⟨o, eo, p, dx, gs, rfl, eH, tf, nz, np⟩ := a.s.at_ i _ ei
        have hb := (a.hf.h i _ p ei rfl eo).2 c fs rfl
        refine ⟨.ref p, eo, p, Γ.cA c, dx, gs, rfl, eH, bd.gd.K ▸ C.cls, bd.gd.K ▸ C.flds f hf1, by rw [tfs_len tf]; omega, ?_⟩
        have lz : LeZ Z1 φ1 H1 Z1 φ1 (upd H1 p (.ins (Γ.cA c) dx (L2.putF (Γ.nm f) v gs))) := ⟨fun _ _ h => h, fun c z => ⟨z, upd_ne fun e => nz (e ▸ z)⟩⟩
        exact q1 Z1 φ1 _ _ (a.rehold ei rfl eo rfl nz np ⟨p, dx, _, rfl, upd_same, tfs_put wd.inj f (w.monoZ lz) (tf.monoZ lz), nz, np⟩ fun _ _ _ => hb)
      · exact q1.elim
    | val t1 =>
      cases t1 with
      | ref k =>
        dsimp only at q1
        cases ek : h1[k]? with
        | none => rw [ek] at q1; exact q1.elim
        | some mo =>
          rw [ek] at q1
          cases mo with
          | ins c fs =>
            dsimp only at q1
            split at q1
            · rename_i hf
              obtain ⟨kk, hkk, hf1, hf2⟩ := fldOk_of hf
              have C := wd.cl c kk hkk
              obtain ⟨u, eo, w1⟩ := a.s.val ei
              cases w1 with
              | ref hφ =>
                rename_i p
                have mk := a.r.ok _ _ _ ek hφ
                cases mk with
                | @ins dx gs _ _ eH tf =>
                  refine ⟨.ref p, eo, p, Γ.cA c, dx, gs, rfl, eH, bd.gd.K ▸ C.cls, bd.gd.K ▸ C.flds f hf1, by rw [tfs_len tf]; omega, ?_⟩
                  have lz := keepZ_cell (Γ := Γ) (o := .ins (Γ.cA c) dx (L2.putF (Γ.nm f) v gs)) a.r hφ
                  exact q1 Z1 φ1 _ _ (a.recell hφ (.ins upd_same (tfs_put wd.inj f (w.monoZ lz) (tf.monoZ lz))))
            · exact q1.elim
          | _ => exact q1.elim
      | _ => exact q1.elim
    | _ => exact q1.elim
end
end Ev
end
section
set_option Elab.async false
set_option linter.all false
set_option maxRecDepth 100000
set_option maxHeartbeats 1000000
/-! Ev, part SF: places. -/
namespace Ev
open PySem PySem.Spec PyProof.Rows L2

section
variable {Γ : Gam} {Z Z1 : Addr → Prop} {φ φ1 : List Addr} {H H1 : Hp} {h h1 : Hh} {X : Cx} {W : WX} {n m : Nat} {σv : L2.St} {b : Bs} {σ : Sl} {D : Ends}
/-- c[k] = v, c a cell -/
def tSetC : TSet := fun o i v H Q => (∃ p H4, o = .ref p ∧ DPut H p i v H4 ∧ Q H4) ∨ rSetL o i v H Q
theorem set_cell (hu : X.A.units + 1 < cLine) : PSet X tSetC := by
  intro pins s σ H o i v ov iv u Q I ro ri rv h
  rcases h with ⟨p, H4, rfl, g, q⟩ | h
  · cases ro
    exact d_setItem hu I g ri rv fun s4 I4 => ⟨H4, I4, q⟩
  · exact set_list pins s σ H o i v ov iv u Q I ro ri rv h
/-- an expression within a statement, from where it stands -/
theorem rdS_at {α β : Type} {rel : (Addr → Prop) → List Addr → Hp → β → α → Prop} {ev : Sl → Hh → Ro α} {f : α → Hh → So} (a : At Γ b σ σv Z φ H h) (q : PostS Γ W b D (So.of σ (ev σ h) f)) :
    rd Γ W rel ev σv H (fun v H1 => ∃ (Z1 : Addr → Prop) (φ1 : List Addr) (h1 : Hh) (t : α), Le Z φ H Z1 φ1 H1 ∧ At Γ b σ σv Z1 φ1 H1 h1 ∧ rel Z1 φ1 H1 v t ∧ PostS Γ W b D (f t h1)) := by
  refine ⟨Z, φ, h, σ, a.r, a.s, ?_⟩
  cases e : ev σ h with
  | none => rw [e] at q; exact q
  | some x => cases x with
    | ok t h1 => rw [e] at q; exact fun Z1 φ1 H1 v le r rr => ⟨Z1, φ1, h1, t, le, a.later le r, rr, q⟩
    | ex c fs h1 => rw [e] at q; exact fun Z1 φ1 H1 d gs le r hd nz np nh tf => q Z1 φ1 H1 σv d gs (a.later le r) hd nz np (a.le.fresh nh (le.notin np)) tf
theorem sub_assign {o i : Expr} {p2 : Pos} {env : Env} (h : noSlice i = true) : ∀ v, assign (.Subscript o i p2) env v = (do
      let ov ← holding [v] (eval o env)
      let iv ← holding [v, ov] (eval i env)
      standAt p2
      holding [v, ov, iv] (setItem ov iv v)
      release [v, ov, iv] []) := by
  intro v
  cases i <;> first | rfl | cases h
theorem cell_dct (r : R Γ Z φ H h) {v : V} {k : Nat} {l : List (Key × T)} (w : TV Γ Z φ H v (.ref k)) (e : h[k]? = some (.dct l)) : ∃ a kvs, v = .ref a ∧ φ[k]? = some a ∧ H a = some (.dK kvs) ∧ kvs.map (·.1) = l.map (·.1) ∧ TVs Γ Z φ H (kvs.map (·.2)) (l.map (·.2)) := by
  cases w with
  | ref x =>
    have mk := r.ok _ _ _ e x
    cases mk with
    | dct h1 k1 r1 => exact ⟨_, _, rfl, x, h1, k1, r1⟩
/-- c[k] = v by values -/
theorem item_go (a : At Γ b σ σv Z φ H h) {o i v : V} {x y t : T} (wo : TV Γ Z φ H o x) (wi : TV Γ Z φ H i y) (wv : TV Γ Z φ H v t) (q : PostS Γ W b D (itemS σ x y t h)) : tSetC o i v H fun H4 => D.nx σv H4 := by
  cases x with
  | ref k =>
    unfold itemS at q
    dsimp only at q
    cases ek : h[k]? with
    | none => rw [ek] at q; exact q.elim
    | some mo =>
      rw [ek] at q
      cases mo with
      | dct l =>
        dsimp only at q
        cases ey : keyT y with
        | none => rw [ey] at q; exact q.elim
        | some key =>
          rw [ey] at q
          dsimp only at q
          split at q
          · rename_i hz
            obtain ⟨p, kvs, rfl, hφ, hH, hk, tv⟩ := cell_dct a.r wo ek
            have lz := keepZ_cell (Γ := Γ) (o := .dK (putK kvs key v)) a.r hφ
            obtain ⟨m1, m2⟩ := put_rel (k := key) wv hk tv
            have lk : kvs.length = l.length := by have := congrArg List.length hk; simpa using this
            refine .inl ⟨p, _, rfl, .inl ⟨kvs, key, hH, key_val wi ey, by rw [lk]; have := big_lt (Nat.le_refl big); omega, rfl⟩, ?_⟩
            exact q Z φ _ _ (a.recell hφ (.dct upd_same m1 (m2.monoZ lz)))
          · exact q.elim
      | lst l =>
        dsimp only at q
        cases y with
        | int j =>
          dsimp only at q
          cases ej : L2.ixN l.length j with
          | none => rw [ej] at q; exact q.elim
          | some jj =>
            rw [ej] at q
            obtain ⟨p, vs, rfl, hφ, hH, tv⟩ := cell_lst a.r wo ek
            cases wi
            have lz := keepZ_cell (Γ := Γ) (o := .lst (vs.set jj v)) a.r hφ
            refine .inr ⟨p, vs, j, jj, rfl, rfl, hH, by rw [tv.length]; exact ej, ?_⟩
            exact q Z φ _ _ (a.recell hφ (.lst upd_same ((tv.set wv jj).monoZ lz)))
        | _ => exact q.elim
      | _ => exact q.elim
  | _ => exact q.elim
theorem t_item (bd : Bd Γ (n + 1) X W) {o i e : Expr} {p2 pos : Pos} {eo ei ev : Sl → Hh → Ro T} (he : PE X e (rdE Γ W ev)) (ho : PE X o (rdE Γ W eo)) (hi : PE X i (rdE Γ W ei)) (hc : noComp e = true) (hns : noSlice i = true) :
    PS X (.Assign [.Subscript o i p2] e pos) (rdS Γ W b fun σ h => So.of σ (ev σ h) fun t h => So.of σ (eo σ h) fun x h => So.of σ (ei σ h) fun y h => itemS σ x y t h) := by
  have hu := bd.gd.room.units
  refine ps_weaken (ps_asg he (pg_sub ho hi (set_cell (by omega)) (sub_assign hns)) (noComp_sole hc _ _) (by rfl)) fun D σv H q => ?_
  obtain ⟨Z, φ, h, σ, a, q⟩ := q
  refine (rdS_at (rel := TV Γ) a q).mono fun v H1 ⟨Z1, φ1, h1, t, le1, a1, w1, q1⟩ => ?_
  refine (rdS_at (rel := TV Γ) a1 q1).mono fun o H2 ⟨Z2, φ2, h2, x, le2, a2, w2, q2⟩ => ?_
  refine (rdS_at (rel := TV Γ) a2 q2).mono fun i H3 ⟨Z3, φ3, h3, y, le3, a3, w3, q3⟩ => ?_
  exact item_go a3 (w2.mono a2.r le3) w3 ((w1.mono a1.r le2).mono a2.r le3) q3
end
end Ev
end
section
set_option Elab.async false
set_option linter.all false
set_option maxRecDepth 100000
set_option maxHeartbeats 1000000
/-! Ev, part SG: settling, sums, places of held lists, extend. -/
namespace Ev
open PySem PySem.Spec PyProof.Rows L2

section
variable {Γ : Gam} {Z Z1 : Addr → Prop} {φ φ1 : List Addr} {H H1 : Hp} {h h1 : Hh} {X : Cx} {W : WX} {n m : Nat} {σv : L2.St} {b : Bs} {σ : Sl} {D : Ends}
/-- a held list is settled -/
theorem At.frz (a : At Γ b σ σv Z φ H h) {i : Nat} {l : List T} (ei : σ[i]? = some (.own l)) : ∃ p, At Γ b (σ.set i (.val (.lst l))) σv (fun c => Z c ∨ c = p) φ H h := by
  obtain ⟨o, eo, p, vs, rfl, hp, tv, nz, np⟩ := a.s.at_ i _ ei
  have b0 : b.H p = none := (a.hf.h i _ p ei rfl eo).1
  have lz : LeZ Z φ H (fun c => Z c ∨ c = p) φ H := LeZ.settle p
  refine ⟨p, a.r.settle hp np, ⟨by rw [List.length_set]; exact a.s.len, fun j x e => ?_, fun j k x y u e1 e2 h1 h2 e3 e4 => ?_⟩, a.le.settle b0, ⟨fun j x q e hx eq => ?_, a.hf.c.set1 i rfl⟩, a.lz.trans lz⟩
  · rcases set_at e with ⟨rfl, rfl⟩ | ⟨ne, e⟩
    · exact ⟨_, eo, .ref p, rfl, .lst ⟨.inr rfl, hp⟩ (tv.monoZ lz)⟩
    · obtain ⟨o, eo2, k⟩ := a.s.at_ j x e
      refine ⟨o, eo2, ?_⟩
      cases x with
      | no => trivial
      | val t => obtain ⟨v, ev, w⟩ := k; exact ⟨v, ev, w.monoZ lz⟩
      | own l2 =>
        obtain ⟨q, us, rfl, hq2, t2, nz2, np2⟩ := k
        exact ⟨q, us, rfl, hq2, t2.monoZ lz, fun z => z.elim nz2 fun e2 => by subst e2; exact ne (a.s.sep i j _ _ _ ei e rfl rfl eo eo2), np2⟩
      | self c fs =>
        obtain ⟨q, dx, gs, rfl, hq2, t2, nz2, np2⟩ := k
        exact ⟨q, dx, gs, rfl, hq2, t2.monoZ lz, fun z => z.elim nz2 fun e2 => by subst e2; exact ne (a.s.sep i j _ _ _ ei e rfl rfl eo eo2), np2⟩
      | clo _ _ => trivial
  · rcases set_at e1 with ⟨rfl, rfl⟩ | ⟨n1, e1⟩
    · cases h1
    · rcases set_at e2 with ⟨rfl, rfl⟩ | ⟨n2, e2⟩
      · cases h2
      · exact a.s.sep j k x y u e1 e2 h1 h2 e3 e4
  · rcases set_at e with ⟨rfl, rfl⟩ | ⟨_, e⟩
    · cases hx
    · exact a.hf.h j x q e hx eq
theorem t_frz {ss : List Stmt} {i : Nat} {f : Sl → Hh → So} (h2 : PSs X ss (rdS Γ W b f)) : PSs X ss (rdS Γ W b fun σ h => match σ[i]? with
    | some (.own l) => f (σ.set i (.val (.lst l))) h
    | some (.val _) => f σ h
    | _ => none) :=
  pss_weaken h2 fun D σv H q => by
    obtain ⟨Z, φ, h, σ, a, q⟩ := q
    dsimp only at q
    cases ei : σ[i]? with
    | none => rw [ei] at q; exact q.elim
    | some sv =>
      rw [ei] at q
      cases sv with
      | own l =>
        obtain ⟨p, a2⟩ := a.frz ei
        exact ⟨_, φ, h, _, a2, q⟩
      | val t => exact ⟨Z, φ, h, σ, a, q⟩
      | _ => exact q.elim
/-- x += e, ints -/
theorem t_aug (bd : Bd Γ n X W) {x : Str} {i : Nat} {e : Expr} {p1 pos : Pos} {ev : Sl → Hh → Ro T} (he : PE X e (rdE Γ W ev)) (hi : X.N[i]? = some x) (hx : locB X.env.scope x = true) :
    PS X (.AugAssign (.Name x p1) .Add e pos) (rdS Γ W b fun σ h => (match σ[i]? with
      | some (.val x) => So.of σ (ev σ h) fun y h => (match Bop.add, x, y with
        | .add, .int a, .int b => some (.nx (σ.set i (.val (.int (a + b)))), h)
        | _, _, _ => none)
      | _ => none)) := by
  refine ps_weaken (ps_aug bd.gd.nd hi (locB_ok hx) he ip_add (.inl (bd.fn x))) fun D σv H q => ?_
  obtain ⟨Z, φ, h, σ, a, q⟩ := q
  dsimp only at q
  cases ei : σ[i]? with
  | none => rw [ei] at q; exact q.elim
  | some sv =>
    rw [ei] at q
    cases sv with
    | val t =>
      dsimp only at q
      obtain ⟨v, ev', w⟩ := a.s.val ei
      refine ⟨v, ev', (rdS_at (rel := TV Γ) a q).mono fun y H1 ⟨Z1, φ1, h1, t1, le, a1, w1, q1⟩ => ?_⟩
      have w := w.mono a.r le
      split at q1
      · cases w
        cases w1
        exact ⟨_, _, rfl, rfl, q1 Z1 φ1 H1 _ (a1.setTg (tg := .nm i) (vs := []) (.int _) rfl trivial)⟩
      · exact q1.elim
    | _ => exact q.elim
/-- x[k] = e, x held by its name alone -/
theorem t_oset (bd : Bd Γ (n + 1) X W) {x : Str} {i : Nat} {k e : Expr} {p1 p2 pos : Pos} {ek ev : Sl → Hh → Ro T} (he : PE X e (rdE Γ W ev)) (hk : PE X k (rdE Γ W ek)) (hv : ckVar X.N X.env.scope x i = true) (hc : noComp e = true) (hns : noSlice k = true) :
    PS X (.Assign [.Subscript (.Name x p1) k p2] e pos) (rdS Γ W b fun σ h => (match σ[i]? with
      | some (.own l) => So.of σ (ev σ h) fun t h => So.of σ (ek σ h) fun y h => (match y with
        | .int n => (match L2.ixN l.length n with
          | some j => some (.nx (σ.set i (.own (l.set j t))), h)
          | none => none)
        | _ => none)
      | _ => none)) := by
  unfold ckVar at hv
  obtain ⟨h1, h3⟩ := ba2 hv
  obtain ⟨h1, h2⟩ := ba2 h1
  obtain ⟨d1, d2, d3⟩ := dbg_ok h3
  have pv := pe_var (X := X) (pos := p1) (of_decide_eq_true h1) (visB_ok h2) d1 d2
  refine ps_weaken (ps_asg he (pg_sub pv hk set_list (sub_assign hns)) (noComp_sole hc _ _) (by rfl)) fun D σv H q => ?_
  obtain ⟨Z, φ, h, σ, a, q⟩ := q
  dsimp only at q
  cases ei : σ[i]? with
  | none => rw [ei] at q; exact q.elim
  | some sv =>
    rw [ei] at q
    cases sv with
    | own l =>
      dsimp only at q
      obtain ⟨o, eo, p, vs, rfl, hp, tv, nz, np⟩ := a.s.at_ i _ ei
      refine (rdS_at (rel := TV Γ) a q).mono fun v H1 ⟨Z1, φ1, h1, t, le1, a1, w1, q1⟩ => ?_
      refine ⟨.ref p, eo, ?_⟩
      refine (rdS_at (rel := TV Γ) a1 q1).mono fun y H2 ⟨Z2, φ2, h2, u, le2, a2, w2, q2⟩ => ?_
      have le12 := le1.trans le2
      obtain ⟨hp2, _, _⟩ := le12.kp p _ hp np
      cases u with
      | int nn =>
        dsimp only at q2
        cases ej : L2.ixN l.length nn with
        | none => rw [ej] at q2; exact q2.elim
        | some j =>
          rw [ej] at q2
          dsimp only at q2
          cases w2
          exact ⟨p, vs, nn, j, rfl, rfl, hp2, by rw [tv.length]; exact ej, q2 Z2 φ2 _ _ (a2.relist ei eo (((tv.mono a.r le12)).set (w1.mono a1.r le2) j))⟩
      | _ => exact q2.elim
    | _ => exact q.elim
/-- c[k] = a new list, from then on a cell -/
theorem t_itemB (bd : Bd Γ (n + 1) X W) {o i e : Expr} {p2 pos : Pos} {ev : Sl → Hh → Ro (List T)} {eo ei : Sl → Hh → Ro T} (he : PE X e (rdL Γ W ev)) (ho : PE X o (rdE Γ W eo)) (hi : PE X i (rdE Γ W ei)) (hns : noSlice i = true) :
    PS X (.Assign [.Subscript o i p2] e pos) (rdS Γ W b fun σ h => So.of σ (ev σ h) fun l h => So.of σ (eo σ (h ++ [.lst l])) fun x h' => So.of σ (ei σ h') fun y h' => itemS σ x y (.ref h.length) h') := by
  have hu := bd.gd.room.units
  have hsw : swapsWithSole [.Subscript o i p2] e pos.line X.env = pure false := by cases e <;> rfl
  refine ps_weaken (ps_asg he (pg_sub ho hi (set_cell (by omega)) (sub_assign hns)) hsw (by rfl)) fun D σv H q => ?_
  obtain ⟨Z, φ, h, σ, a, q⟩ := q
  have q : PostS Γ W b D (So.of σ (ev σ h) fun l h => So.of σ (eo σ (h ++ [.lst l])) fun x h' => So.of σ (ei σ h') fun y h' => itemS σ x y (.ref h.length) h') := q
  refine ⟨Z, φ, h, σ, a.r, a.s, ?_⟩
  cases e : ev σ h with
  | none => rw [e] at q; exact q
  | some y => cases y with
    | ex c fs h1 => rw [e] at q; exact fun Z1 φ1 H1 d gs le r hd nz np nh tf => q Z1 φ1 H1 σv d gs (a.later le r) hd nz np (a.le.fresh nh (le.notin np)) tf
    | ok l h0 =>
      rw [e] at q
      intro Z1 φ1 H1 v le r oo
      obtain ⟨p, rfl, a1, w1⟩ := a.box le r oo
      refine (rdS_at (rel := TV Γ) a1 q).mono fun o H2 ⟨Z2, φ2, h2, x, le2, a2, w2, q2⟩ => ?_
      refine (rdS_at (rel := TV Γ) a2 q2).mono fun i H3 ⟨Z3, φ3, h3, y, le3, a3, w3, q3⟩ => ?_
      exact item_go a3 (w2.mono a2.r le3) w3 ((w1.mono a1.r le2).mono a2.r le3) q3
end
end Ev
end
section
set_option Elab.async false
set_option linter.all false
set_option maxRecDepth 100000
set_option maxHeartbeats 1000000
/-! Ev, part SH: parallel assignment. -/
namespace Ev
open PySem PySem.Spec PyProof.Rows L2

/-- how a tuple is stored in names: at once, or by way of a tuple -/
def swapR (sc : Scope) (ts vs : List Expr) : Option (Option (List Str)) :=
  if !(ts.length == 2 || ts.length == 3) || vs.length != ts.length || sc.kind != .function then some none else
  if vs.any fun | .Starred .. => true | _ => false then some none else
  let line := (ts.head?.map (·.pos.line)).getD 0
  let names := ts.filterMap fun
    | .Name id pos => if sc.names.lookup id == some .local && pos.line == line then some id else none
    | _ => none
  if names.length != ts.length || names.eraseDups.length != names.length then some none else
  if vs.all (foldedForSure 8) then some none else
  if vs.all (constantsAlone 8) then none else
  some (some names)
theorem swapR_ok {sc : Scope} {ts vs : List Expr} {env : Env} {r : Option (List Str)} {k1 k2 : Nat} {p1 p2 : Pos} (hs : env.scope = sc) (hk : sc.kind = .function) (h : swapR sc ts vs = some r) : swappedStores [.Tuple ts k1 p1] (.Tuple vs k2 p2) env = pure r := by
  subst hs
  have hb : env.blockKind = .function := by unfold Env.blockKind; rw [hk]; rfl
  unfold swapR at h
  unfold swappedStores
  simp only [hb, Env.kindOf]
  rw [hk] at h
  split at h
  · rename_i c
    cases h
    exact if_pos c
  · rename_i c
    refine (if_neg c).trans ?_
    split at h
    · rename_i c
      cases h
      exact if_pos c
    · rename_i c
      refine (if_neg c).trans ?_
      dsimp only at h
      split at h
      · rename_i c
        cases h
        exact if_pos c
      · rename_i c
        refine (if_neg c).trans ?_
        split at h
        · rename_i c
          cases h
          exact if_pos c
        · rename_i c
          refine (if_neg c).trans ?_
          split at h
          · cases h
          · rename_i c
            cases h
            exact (if_neg c).trans rfl

section
variable {Γ : Gam} {Z Z1 : Addr → Prop} {φ φ1 : List Addr} {H H1 : Hp} {h h1 : Hh} {X : Cx} {W : WX} {n m : Nat} {σv : L2.St} {b : Bs} {σ : Sl} {D : Ends}
theorem So.of_bd {α β : Type} (σ : Sl) (mm : Ro α) (f : α → Hh → Ro β) (g : β → Hh → So) : So.of σ (Ro.bd mm f) g = So.of σ mm fun a h => So.of σ (f a h) g := by
  cases mm with
  | none => rfl
  | some x => cases x <;> rfl
def setAll (s : L2.St) (is : List (Nat × Nat)) (vs : List V) : L2.St := ((is.map (·.1)).zip vs).foldl (fun σ p => σ.set p.1 (some p.2)) s
/-- a name gets a value -/
theorem At.put (a : At Γ b σ σv Z φ H h) (i : Nat) {v : V} {t : T} (w : TV Γ Z φ H v t) : At Γ b (σ.set i (.val t)) (σv.set i (some v)) Z φ H h := a.setTg (tg := .nm i) (vs := []) w rfl trivial
/-- the parts of a parallel assignment, each stored where the names are not looked at any more -/
def rdPar (Γ : Gam) (W : WX) (b : Bs) (n : Nat) (is : List (Nat × Nat)) (cs : List CE) : TA := fun σv H Q =>
  ∃ (accv : L2.St) (Z : Addr → Prop) (φ : List Addr) (h : Hh) (σ acc : Sl) (D : Ends) (g : Sl → Hh → So), At Γ b σ σv Z φ H h ∧ At Γ b acc accv Z φ H h ∧ PostS Γ W b D (So.of σ (parL Γ.G (Γ.at_ n) σ is cs acc h) g) ∧
    ∀ (vs : List V) (Z' : Addr → Prop) (φ' : List Addr) (H' : Hp) (h' : Hh) (acc' : Sl), vs.length = is.length → At Γ b acc' (setAll accv is vs) Z' φ' H' h' → PostS Γ W b D (g acc' h') → Q vs H'
theorem par_go (gd : Gd Γ (n + 1) X W) (l : Lvl Γ n) {k : Nat} : ∀ {es : List Expr} {is : List (Nat × Nat)} {cs : List CE}, all2 (ck Γ.nms X.N k false X.env.scope) es cs = true → es.all notStar = true → is.length = cs.length → PA X es (rdPar Γ W b n is cs)
  | [], [], [], _, _, _ => ⟨fun pos pins s σv H Q I q => pa_nil.run pos pins s σv H Q I (by
      obtain ⟨accv, Z, φ, h, σ, acc, D, g, a1, a2, p, q⟩ := q
      exact q [] Z φ H h acc rfl a2 p)⟩
  | [], _ :: _, [], _, _, hl => by cases hl
  | [], _, _ :: _, h, _, _ => by cases h
  | _ :: _, _, [], h, _, _ => by cases h
  | _ :: _, [], _ :: _, _, _, hl => by cases hl
  | e :: es, (i, mo) :: is, c :: cs, hh, hs, hl => by
    obtain ⟨h1, h2⟩ := ba2 (show (ck Γ.nms X.N k false X.env.scope e c && all2 (ck Γ.nms X.N k false X.env.scope) es cs) = true from hh)
    rw [List.all_cons] at hs
    obtain ⟨s1, s2⟩ := ba2 hs
    have ih := par_go gd l (is := is) h2 s2 (by simpa using hl)
    have gd' := gd.down (Nat.le_succ n)
    match mo with
    | 0 =>
      refine ⟨fun pos pins s σv H Q I q => (pa_cons (l.e X W gd' k e c h1) ih (starEach_cons s1)).run pos pins s σv H Q I ?_⟩
      obtain ⟨accv, Z, φ, h, σ, acc, D, g, a1, a2, p, q⟩ := q
      have p : PostS Γ W b D (So.of σ (Ro.bd ((Γ.at_ n).e σ c h) fun t h => parL Γ.G (Γ.at_ n) σ is cs (acc.set i (.val t)) h) g) := p
      rw [So.of_bd] at p
      refine (rdS_at (rel := TV Γ) a1 p).mono fun v H1 ⟨Z1, φ1, h1, t, le, a3, w1, q1⟩ => ?_
      refine ⟨accv.set i (some v), Z1, φ1, h1, σ, acc.set i (.val t), D, g, a3, (a2.later le a3.r).put i w1, q1, fun vs Z' φ' H' h' acc' hvs a4 p4 => q (v :: vs) Z' φ' H' h' acc' (by simp [hvs]) a4 p4⟩
    | 1 =>
      refine ⟨fun pos pins s σv H Q I q => (pa_cons (ck_L l gd h1) ih (starEach_cons s1)).run pos pins s σv H Q I ?_⟩
      obtain ⟨accv, Z, φ, h, σ, acc, D, g, a1, a2, p, q⟩ := q
      have p : PostS Γ W b D (So.of σ (Ro.bd (evL Γ.G (Γ.at_ n) σ c h) fun l h => parL Γ.G (Γ.at_ n) σ is cs (acc.set i (.own l)) h) g) := p
      rw [So.of_bd] at p
      refine ⟨Z, φ, h, σ, a1.r, a1.s, ?_⟩
      show Post Γ W σv (OL Γ H) Z φ H (evL Γ.G (Γ.at_ n) σ c h) _
      cases e : evL Γ.G (Γ.at_ n) σ c h with
      | none => rw [e] at p; exact p
      | some y => cases y with
        | ex c fs h1 => rw [e] at p; exact fun Z1 φ1 H1 d gs le r hd nz np nh tf => p Z1 φ1 H1 σv d gs (a1.later le r) hd nz np (a1.le.fresh nh (le.notin np)) tf
        | ok l h1 =>
          rw [e] at p
          exact fun Z1 φ1 H1 v le r o => ⟨accv.set i (some v), Z1, φ1, h1, σ, acc.set i (.own l), D, g, a1.later le r, a2.own le r o i, p, fun vs Z' φ' H' h' acc' hvs a4 p4 => q (v :: vs) Z' φ' H' h' acc' (by simp [hvs]) a4 p4⟩
    | mo + 2 =>
      refine ⟨fun pos pins s σv H Q I q => (pa_cons (ck_L l gd h1) ih (starEach_cons s1)).run pos pins s σv H Q I ?_⟩
      obtain ⟨accv, Z, φ, h, σ, acc, D, g, a1, a2, p, q⟩ := q
      have p : PostS Γ W b D (So.of σ (Ro.bd (evL Γ.G (Γ.at_ n) σ c h) fun l h => parL Γ.G (Γ.at_ n) σ is cs (acc.set i (.val (.ref h.length))) (h ++ [.lst l])) g) := p
      rw [So.of_bd] at p
      refine ⟨Z, φ, h, σ, a1.r, a1.s, ?_⟩
      show Post Γ W σv (OL Γ H) Z φ H (evL Γ.G (Γ.at_ n) σ c h) _
      cases e : evL Γ.G (Γ.at_ n) σ c h with
      | none => rw [e] at p; exact p
      | some y => cases y with
        | ex c fs h1 => rw [e] at p; exact fun Z1 φ1 H1 d gs le r hd nz np nh tf => p Z1 φ1 H1 σv d gs (a1.later le r) hd nz np (a1.le.fresh nh (le.notin np)) tf
        | ok l h1 =>
          rw [e] at p
          intro Z1 φ1 H1 v le r o
          obtain ⟨p1, e1, b1, w1⟩ := a1.box le r o
          obtain ⟨p2, e2, b2, w2⟩ := a2.box le r o
          rw [e1] at e2
          cases e2
          exact ⟨accv.set i (some v), Z1, φ1 ++ [p1], _, σ, _, D, g, b1, b2.put i w1, p, fun vs Z' φ' H' h' acc' hvs a4 p4 => q (v :: vs) Z' φ' H' h' acc' (by simp [hvs]) a4 p4⟩
/-- what is asked of the names -/
def parB (sc : Scope) (N : List Str) (ts vs : List Expr) (is : List Nat) : Bool := (sc.kind == .function) && all2 (ckTgN N sc) ts is && (match swapR sc ts vs with
  | some none => true
  | some (some names) => decide (names = is.map fun i => N.getD i Str.empty) && names.all (lclB sc) && (match is with
    | [i, j] => decide (i ≠ j)
    | [i, j, l] => decide (i ≠ j) && decide (i ≠ l) && decide (j ≠ l)
    | _ => false)
  | none => false)
theorem lclB_ok {sc : Scope} {x : Str} (h : lclB sc x = true) : sc.names.lookup x = some .local := by
  unfold lclB at h
  split at h
  · assumption
  · cases h
theorem getD_at {N : List Str} {i : Nat} {x : Str} (h : N[i]? = some x) : N.getD i Str.empty = x := by rw [List.getD_eq_getElem?_getD, h]; rfl
theorem no_swaps {ts vs : List Expr} {k1 k2 : Nat} {p1 p2 : Pos} (l : Nat) (env : Env) : swapsWithSole [.Tuple ts k1 p1] (.Tuple vs k2 p2) l env = pure false := rfl
theorem held_new {p : Addr} {o : HO} (a : At Γ b σ σv Z φ H h) (hp : H p = none) : At Γ b σ σv Z φ (upd H p o) h := a.later (Le.held hp) (a.r.held hp)
/-- a, b = x, y -/
theorem t_par (bd : Bd Γ (n + 1) X W) (l : Lvl Γ n) {k : Nat} {ts es : List Expr} {is : List (Nat × Nat)} {cs : List CE} {k1 k2 : Nat} {p1 p2 pos : Pos} (he : all2 (ck Γ.nms X.N k false X.env.scope) es cs = true) (hs : es.all notStar = true) (hl : is.length = cs.length) (hb : es.length ≤ big)
    (hp : parB X.env.scope X.N ts es (is.map (·.1)) = true) : PS X (.Assign [.Tuple ts k1 p1] (.Tuple es k2 p2) pos) (rdS Γ W b fun σ h => So.of σ (parL Γ.G (Γ.at_ n) σ is cs σ h) fun σ' h => some (.nx σ', h)) := by
  have PAr := par_go (b := b) bd.gd l he hs hl
  have hlen : es.length = is.length := by rw [all2_len he, hl]
  unfold parB at hp
  obtain ⟨hp, h3⟩ := ba2 hp
  obtain ⟨h1, h2⟩ := ba2 hp
  have hk : X.env.scope.kind = .function := eq_of_beq h1
  cases hsw : swapR X.env.scope ts es with
  | none => rw [hsw] at h3; cases h3
  | some r =>
    rw [hsw] at h3
    have sw := swapR_ok (env := X.env) (k1 := k1) (k2 := k2) (p1 := p1) (p2 := p2) rfl hk hsw
    cases r with
    | none =>
      have hg := ck_G (e := .Tuple ts k1 p1) (tg := .tup (is.map fun p : Nat × Nat => p.1)) bd.gd (fun x hx => ⟨locB_ok hx, .inl (bd.fn x)⟩) h2
      refine ps_weaken (ps_asg (pe_tup PAr) hg (no_swaps _ _) sw) fun D σv H q => ?_
      obtain ⟨Z, φ, h, σ, a, q⟩ := q
      refine ⟨σv, Z, φ, h, σ, σ, D, fun σ' h => some (.nx σ', h), a, a, q, fun vs Z' φ' H' h' acc' hvs a4 p4 => ?_⟩
      refine ⟨by rw [hvs, ← hlen]; exact big_lt hb, fun p hp => ?_⟩
      refine ⟨p, vs, rfl, .inl (.inl upd_same), by rw [hvs, List.length_map], gs_run _ _ _ _ _ (by rw [hvs, List.length_map]) ?_⟩
      exact p4 Z' φ' _ _ (held_new a4 hp)
    | some names =>
      dsimp only at h3
      obtain ⟨h3, h4⟩ := ba2 h3
      obtain ⟨h3, h5⟩ := ba2 h3
      have h3 := of_decide_eq_true h3
      match is, ts, es, h2, h4, h3, hlen, PAr, sw, hl with
      | [(i, mi), (j, mj)], [t1, t2], [a1, a2], h2, h4, h3, hlen, PAr, sw, hl =>
        obtain ⟨g1, g2⟩ := ba2 (show (ckTgN X.N X.env.scope t1 i && (ckTgN X.N X.env.scope t2 j && true)) = true from h2)
        obtain ⟨g2, _⟩ := ba2 g2
        obtain ⟨x, px, rfl, ex, lx⟩ := ckTgN_ok g1
        obtain ⟨y, py, rfl, ey, ly⟩ := ckTgN_ok g2
        have hn : names = [x, y] := by rw [h3]; simp only [List.map_cons, List.map_nil, getD_at ex, getD_at ey]
        subst hn
        have kx := lclB_ok (List.all_eq_true.mp h5 x (by simp))
        have ky := lclB_ok (List.all_eq_true.mp h5 y (by simp))
        have hij : i ≠ j := of_decide_eq_true h4
        refine ps_weaken (ps_par bd.gd.calm bd.gd.nd ex ey hij kx ky PAr sw (no_swaps _ _)) fun D σv H q => ?_
        obtain ⟨Z, φ, h, σ, a, q⟩ := q
        refine ⟨σv, Z, φ, h, σ, σ, D, fun σ' h => some (.nx σ', h), a, a, q, fun vs Z' φ' H' h' acc' hvs a4 p4 => ?_⟩
        match vs, hvs, a4 with
        | [v, w], _, a4 => exact ⟨v, w, rfl, p4 Z' φ' _ _ a4⟩
      | [(i, mi), (j, mj), (q, mq)], [t1, t2, t3], [a1, a2, a3], h2, h4, h3, hlen, PAr, sw, hl =>
        obtain ⟨g1, g2⟩ := ba2 (show (ckTgN X.N X.env.scope t1 i && (ckTgN X.N X.env.scope t2 j && (ckTgN X.N X.env.scope t3 q && true))) = true from h2)
        obtain ⟨g2, g3⟩ := ba2 g2
        obtain ⟨g3, _⟩ := ba2 g3
        obtain ⟨x, px, rfl, ex, lx⟩ := ckTgN_ok g1
        obtain ⟨y, py, rfl, ey, ly⟩ := ckTgN_ok g2
        obtain ⟨z, pz, rfl, ez, lz⟩ := ckTgN_ok g3
        have hn : names = [x, y, z] := by rw [h3]; simp only [List.map_cons, List.map_nil, getD_at ex, getD_at ey, getD_at ez]
        subst hn
        have kx := lclB_ok (List.all_eq_true.mp h5 x (by simp))
        have ky := lclB_ok (List.all_eq_true.mp h5 y (by simp))
        have kz := lclB_ok (List.all_eq_true.mp h5 z (by simp))
        obtain ⟨h4, hjl⟩ := ba2 (show (decide (i ≠ j) && decide (i ≠ q) && decide (j ≠ q)) = true from h4)
        obtain ⟨hij, hil⟩ := ba2 h4
        refine ps_weaken (ps_par3 bd.gd.calm bd.gd.nd ex ey ez (of_decide_eq_true hij) (of_decide_eq_true hil) (of_decide_eq_true hjl) kx ky kz PAr sw (no_swaps _ _)) fun D σv H q => ?_
        obtain ⟨Z, φ, h, σ, a, q⟩ := q
        refine ⟨σv, Z, φ, h, σ, σ, D, fun σ' h => some (.nx σ', h), a, a, q, fun vs Z' φ' H' h' acc' hvs a4 p4 => ?_⟩
        match vs, hvs, a4 with
        | [v, w, u], _, a4 => exact ⟨v, w, u, rfl, p4 Z' φ' _ _ a4⟩
      | [], _, _, _, h4, _, _, _, _, _ => cases h4
      | [_], _, _, _, h4, _, _, _, _, _ => cases h4
      | _ :: _ :: _ :: _ :: _, _, _, _, h4, _, _, _, _, _ => cases h4
      | [_, _], [], _, h2, _, _, _, _, _, _ => cases h2
      | [_, _], [_], _, h2, _, _, _, _, _, _ => simp [all2] at h2
      | [_, _], _ :: _ :: _ :: _, _, h2, _, _, _, _, _, _ => simp [all2] at h2
      | [_, _], [_, _], [], _, _, _, hlen, _, _, _ => cases hlen
      | [_, _], [_, _], [_], _, _, _, hlen, _, _, _ => cases hlen
      | [_, _], [_, _], _ :: _ :: _ :: _, _, _, _, hlen, _, _, _ => simp at hlen
      | [_, _, _], [], _, h2, _, _, _, _, _, _ => cases h2
      | [_, _, _], [_], _, h2, _, _, _, _, _, _ => simp [all2] at h2
      | [_, _, _], [_, _], _, h2, _, _, _, _, _, _ => simp [all2] at h2
      | [_, _, _], _ :: _ :: _ :: _ :: _, _, h2, _, _, _, _, _, _ => simp [all2] at h2
      | [_, _, _], [_, _, _], [], _, _, _, hlen, _, _, _ => cases hlen
      | [_, _, _], [_, _, _], [_], _, _, _, hlen, _, _, _ => cases hlen
      | [_, _, _], [_, _, _], [_, _], _, _, _, hlen, _, _, _ => simp at hlen
      | [_, _, _], [_, _, _], _ :: _ :: _ :: _ :: _, _, _, _, hlen, _, _, _ => simp at hlen
end
end Ev
end
section
set_option Elab.async false
set_option linter.all false
set_option maxRecDepth 100000
set_option maxHeartbeats 1000000
/-! Ev, part SI: several fields at once; extend. -/
namespace Ev
open PySem PySem.Spec PyProof.Rows L2

section
variable {Γ : Gam} {Z Z1 : Addr → Prop} {φ φ1 : List Addr} {H H1 : Hp} {h h1 : Hh} {X : Cx} {W : WX} {n m : Nat} {σv : L2.St} {b : Bs} {σ : Sl} {D : Ends}
/-- o.f as a target -/
def gFld (K : PySem.W.Frag) (ta : TE) (f : Str) : TG := fun v σ H Q => ta σ H fun x H2 => ∃ a C dx fs, x = .ref a ∧ H2 a = some (.ins C dx fs) ∧ Cls K C ∧ NoAttr K C f ∧ fs.length < 1000 ∧ Q σ (upd H2 a (.ins C dx (L2.putF f v fs)))
theorem pg_fld {o : Expr} {f : Str} {pos : Pos} {ta : TE} (ha : PE X o ta) : PG X (.Attribute o f pos) (gFld X.K ta f) := by
  refine ⟨fun pins s σ H v u Q I ry h => ?_⟩
  refine PySem.W.kas_attr (thn (ha.run pins s σ H _ I h) fun ov s2 ⟨x, H2, I2, rx, a, C, dx, fs, ex, ea, c, nn, l, q2⟩ => ?_)
  subst ex
  obtain rfl : ov = Value.ref a := rx
  exact setattr_ok I2 ea c nn l ry fun s3 I3 => ⟨σ, _, I3, q2⟩
def gsF (K : PySem.W.Frag) (nm : Nat → Str) (i : Nat) : List (Nat × Nat) → TGs
  | [] => gNil
  | p :: l => gCons (gFld K (tVar i) (nm p.2)) (gsF K nm i l)
def fldTg (nm : Nat → Str) (N : List Str) (sc : Scope) (e : Expr) (p : Nat × Nat) : Bool := match e with
  | .Attribute (.Name x _) f _ => decide (f = nm p.2) && ckVar N sc x p.1
  | _ => false
theorem fldTg_ok {N : List Str} {sc : Scope} {nm : Nat → Str} {e : Expr} {p : Nat × Nat} (h : fldTg nm N sc e p = true) : ∃ x px pf, e = .Attribute (.Name x px) (nm p.2) pf ∧ ckVar N sc x p.1 = true := by
  unfold fldTg at h
  split at h
  · obtain ⟨h1, h2⟩ := ba2 h
    have h1 := of_decide_eq_true h1
    subst h1
    exact ⟨_, _, _, rfl, h2⟩
  · cases h
theorem assign_flds {env : Env} : ∀ {es : List Expr}, (∀ e ∈ es, ∃ x px f p, e = Expr.Attribute (.Name x px) f p) → (assignEach es env).length = es.length ∧ (assignEach es env).findIdx? (·.1) = none
  | [], _ => ⟨rfl, rfl⟩
  | e :: es, h => by
    obtain ⟨x, px, f, p, rfl⟩ := h e List.mem_cons_self
    obtain ⟨h1, h2⟩ := assign_flds (env := env) (es := es) fun e he => h e (List.mem_cons_of_mem _ he)
    refine ⟨?_, ?_⟩
    · show (assignEach es env).length + 1 = es.length + 1
      omega
    · show List.findIdx? (·.1) ((false, assign (.Attribute (.Name x px) f p) env) :: assignEach es env) = none
      rw [List.findIdx?_cons]
      simp only [Bool.false_eq_true, if_false, h2]
      rfl
theorem flds_G {i : Nat} : ∀ {ts : List Expr} {l : List (Nat × Nat)}, all2 (fldTg Γ.nm X.N X.env.scope) ts l = true → (∀ p ∈ l, p.1 = i) → (∀ e ∈ ts, ∃ x px f p, e = Expr.Attribute (.Name x px) f p) ∧ PGs X ts (gsF X.K Γ.nm i l)
  | [], [], _, _ => ⟨fun _ h => (List.not_mem_nil h).elim, pgs_nil⟩
  | [], _ :: _, h, _ => by cases h
  | _ :: _, [], h, _ => by cases h
  | e :: ts, p :: l, h, hi => by
    obtain ⟨h1, h2⟩ := ba2 (show (fldTg Γ.nm X.N X.env.scope e p && all2 (fldTg Γ.nm X.N X.env.scope) ts l) = true from h)
    obtain ⟨x, px, pf, rfl, hv⟩ := fldTg_ok h1
    obtain ⟨a1, a2⟩ := flds_G (i := i) h2 fun q hq => hi q (List.mem_cons_of_mem _ hq)
    have e1 := hi p List.mem_cons_self
    rw [e1] at hv
    unfold ckVar at hv
    obtain ⟨h1, h3⟩ := ba2 hv
    obtain ⟨h1, h2⟩ := ba2 h1
    obtain ⟨d1, d2, d3⟩ := dbg_ok h3
    have pv := pe_var (X := X) (pos := px) (of_decide_eq_true h1) (visB_ok h2) d1 d2
    refine ⟨fun e he => ?_, pgs_cons (pg_fld pv) a2⟩
    rcases List.mem_cons.mp he with rfl | he
    · exact ⟨_, _, _, _, rfl⟩
    · exact a1 e he
theorem putF_len (f : Nat) (t : T) : ∀ (fs : List (Nat × T)), (putF f t fs).length ≤ fs.length + 1
  | [] => by simp [putF]
  | (g, x) :: r => by
    unfold putF
    have := putF_len f t r
    split <;> simp <;> omega
theorem set_self {α : Type} {l : List α} {i : Nat} {a : α} (e : l[i]? = some a) : l.set i a = l := by
  obtain ⟨h, rfl⟩ := List.getElem?_eq_some_iff.mp e
  exact List.set_getElem_self h
theorem flds_run (bd : Bd Γ n X W) (wd : WdF Γ) {i c : Nat} {k : ClD} (hc : Γ.G.cl c = some k) {Q : L2.St → Hp → Prop} : ∀ (l : List (Nat × Nat)) (vs : List V) (ts : List T) {σ : Sl} {fs : List (Nat × T)} {H : Hp},
    At Γ b σ σv Z φ H h → σ[i]? = some (.self c fs) → TVs Γ Z φ H vs ts → ts.length = l.length → (∀ p ∈ l, k.flds.contains p.2 = true) → fs.length + l.length < 1000 →
    (∀ H', At Γ b (σ.set i (.self c ((l.zip ts).foldl (fun fs p => putF p.1.2 p.2 fs) fs))) σv Z φ H' h → Q σv H') → gsF X.K Γ.nm i l vs σv H Q
  | [], [], [], σ, fs, H, a, ei, _, _, _, _, q => ⟨rfl, q H (by rw [set_self (show σ[i]? = some (.self c ((([] : List (Nat × Nat)).zip ([] : List T)).foldl (fun fs p => putF p.1.2 p.2 fs) fs)) from ei)]; exact a)⟩
  | [], _ :: _, _, _, _, _, _, _, tv, hl, _, _, _ => by cases tv; cases hl
  | [], _, _ :: _, _, _, _, _, _, tv, hl, _, _, _ => by cases hl
  | p :: l, [], ts, _, _, _, _, _, tv, hl, _, _, _ => by cases tv; cases hl
  | p :: l, v :: vs, [], _, _, _, _, _, tv, hl, _, _, _ => by cases tv
  | p :: l, v :: vs, t :: ts, σ, fs, H, a, ei, tv, hl, hf, hz, q => by
    cases tv with
    | cons w tv =>
      have C := wd.cl c k hc
      obtain ⟨o, eo, pp, dx, gs, rfl, eH, tf, nz, np⟩ := a.s.at_ i _ ei
      have hb := (a.hf.h i _ pp ei rfl eo).2 c fs rfl
      have lz : LeZ Z φ H Z φ (upd H pp (.ins (Γ.cA c) dx (L2.putF (Γ.nm p.2) v gs))) := ⟨fun _ _ h => h, fun c z => ⟨z, upd_ne fun e => nz (e ▸ z)⟩⟩
      have a2 := a.rehold ei rfl eo (sv' := .self c (putF p.2 t fs)) rfl nz np ⟨pp, dx, _, rfl, upd_same, tfs_put wd.inj p.2 (w.monoZ lz) (tf.monoZ lz), nz, np⟩ fun _ _ _ => hb
      have il : i < σ.length := (List.getElem?_eq_some_iff.mp ei).1
      refine ⟨v, vs, rfl, .ref pp, eo, pp, Γ.cA c, dx, gs, rfl, eH, bd.gd.K ▸ C.cls, bd.gd.K ▸ C.flds p.2 (hf p List.mem_cons_self), by rw [tfs_len tf]; simp at hz; omega, ?_⟩
      refine flds_run bd wd hc l vs ts a2 (by rw [List.getElem?_set_self il]) (tv.monoZ lz) (by simpa using hl) (fun q hq => hf q (List.mem_cons_of_mem _ hq)) (by have := putF_len p.2 t fs; simp at hz; omega) fun H' a3 => ?_
      rw [List.set_set] at a3
      exact q H' a3
/-- x.f, x.g = a, b -/
theorem t_flds (bd : Bd Γ (n + 1) X W) (l : Lvl Γ n) {k i f0 : Nat} {ts es : List Expr} {fl : List (Nat × Nat)} {cs : List CE} {k1 k2 : Nat} {p1 p2 pos : Pos} (he : all2 (argB (ck Γ.nms X.N k false X.env.scope)) es cs = true) (ht : all2 (fldTg Γ.nm X.N X.env.scope) ts ((i, f0) :: fl) = true)
    (hall : ∀ p ∈ (i, f0) :: fl, p.1 = i) (hk : X.env.scope.kind = .function) (hsw : swapR X.env.scope ts es = some none) (hbig : fl.length ≤ 20) :
    PS X (.Assign [.Tuple ts k1 p1] (.Tuple es k2 p2) pos) (rdS Γ W b fun σ h => So.of σ (evArgs (Γ.at_ n) σ cs h) fun ts h => if ts.length = ((i, f0) :: fl).length then (match σ[i]? with
        | some (.self c fs) => if ((i, f0) :: fl).all (fun p => p.1 == i && fldOk Γ.G c p.2 fs) && decide (((i, f0) :: fl).length ≤ 20) then some (.nx (σ.set i (.self c ((((i, f0) :: fl).zip ts).foldl (fun fs p => putF p.1.2 p.2 fs) fs))), h) else none
        | _ => none) else none) := by
  have gd' := bd.gd.down (Nat.le_succ n)
  obtain ⟨a1, a2⟩ := flds_G (Γ := Γ) (X := X) (i := i) ht hall
  obtain ⟨b1, b2⟩ := assign_flds (env := X.env) a1
  have hlen := all2_len ht
  have sw := swapR_ok (env := X.env) (k1 := k1) (k2 := k2) (p1 := p1) (p2 := p2) rfl hk hsw
  refine ps_weaken (ps_asg (pe_tup (ck_args gd' l.e he)) (pg_tup bd.gd.calm a2 (n := ((i, f0) :: fl).length) (by rw [b1, hlen]) b2) (no_swaps _ _) sw) fun D σv H q => ?_
  refine (rdS_of (rel := TVs Γ) q).mono fun vs H1 ⟨Z1, φ1, h1, σ, ts', a, w, q1⟩ => ?_
  split at q1
  · rename_i hl1
    cases ei : σ[i]? with
    | none => rw [ei] at q1; exact q1.elim
    | some sv =>
      rw [ei] at q1
      cases sv with
      | self c fs =>
        dsimp only at q1
        split at q1
        · rename_i hok
          obtain ⟨hok, h20⟩ := ba2 hok
          have h20 := of_decide_eq_true h20
          have hok' : ∀ p ∈ (i, f0) :: fl, fldOk Γ.G c p.2 fs = true := fun p hp => (ba2 (List.all_eq_true.mp hok p hp)).2
          obtain ⟨kk, hkk, _, hz⟩ := fldOk_of (hok' (i, f0) List.mem_cons_self)
          have hcon : ∀ p ∈ (i, f0) :: fl, kk.flds.contains p.2 = true := fun p hp => by
            obtain ⟨k2, hk2, hf2, _⟩ := fldOk_of (hok' p hp)
            rw [hkk] at hk2
            cases hk2
            exact hf2
          refine ⟨by rw [w.length, hl1]; exact big_lt (Nat.le_trans h20 (by decide)), fun p hp => ?_⟩
          refine ⟨p, vs, rfl, .inl (.inl upd_same), by rw [w.length, hl1], ?_⟩
          have a3 := held_new (o := .tup vs) a hp
          exact flds_run bd l.wd hkk _ vs ts' a3 ei (w.mono a.r (Le.held hp)) hl1 hcon (by omega) fun H' a4 => q1 Z1 φ1 _ _ a4
        · exact q1.elim
      | _ => exact q1.elim
  · exact q1.elim
end
end Ev
end
section
set_option Elab.async false
set_option linter.all false
set_option maxRecDepth 100000
set_option maxHeartbeats 1000000
/-! Ev, part SJ: extend; stores of comprehensions. -/
namespace Ev
open PySem PySem.Spec PyProof.Rows L2

section
variable {Γ : Gam} {Z Z1 : Addr → Prop} {φ φ1 : List Addr} {H H1 : Hp} {h h1 : Hh} {X : Cx} {W : WX} {n m : Nat} {σv : L2.St} {b : Bs} {σ : Sl} {D : Ends}
theorem ext_of {v : V} {t : T} {l : List T} (w : TW Γ Z φ H v t) (e : extF t = some l) : ∃ (a : Addr) (vs : List V), v = .ref a ∧ H a = some (.lst vs) ∧ TVs Γ Z φ H vs l := by
  rcases w with w | ⟨p, vs, l', rfl, rfl, hp, rr, _, _⟩
  · cases w with
    | lst x y => cases e; exact ⟨_, _, rfl, x.2, y⟩
    | _ => cases e
  · cases e
    exact ⟨p, vs, rfl, hp, rr⟩
/-- x.extend(e), x held by its name alone -/
theorem t_ext (bd : Bd Γ n X W) (wd : WdF Γ) {x : Str} {i : Nat} {e : Expr} {p1 ap cp pos : Pos} {ev : Sl → Hh → Ro T} (he : PE X e (rdW Γ W ev)) (hv : ckVar X.N X.env.scope x i = true) (hs : notStar e = true) (hl : (ap.endLine == cp.line) = true) (hx : Γ.nm nExtend = "extend") :
    PS X (.Expr (.Call (.Attribute (.Name x p1) (Γ.nm nExtend) ap) [e] [] cp) pos) (rdS Γ W b fun σ h => (match σ[i]? with
      | some (.own l) => So.of σ (ev σ h) fun t h => (match extF t with
        | some m => if l.length + m.length ≤ big then some (.nx (σ.set i (.own (l ++ m))), h) else none
        | none => none)
      | _ => none)) := by
  unfold ckVar at hv
  obtain ⟨h1, h3⟩ := ba2 hv
  obtain ⟨h1, h2⟩ := ba2 h1
  obtain ⟨d1, d2, d3⟩ := dbg_ok h3
  have pv := pe_var (X := X) (pos := p1) (of_decide_eq_true h1) (visB_ok h2) d1 d2
  have PEc : PE X (.Call (.Attribute (.Name x p1) (Γ.nm nExtend) ap) [e] [] cp) (fun σv H Q => ∃ (p : Addr) (vs : List V), σv[i]? = some (some (.ref p)) ∧ H p = some (.lst vs) ∧ rdW Γ W ev σv H fun v H1 => ∃ q ws, v = .ref q ∧ H1 q = some (.lst ws) ∧ H1 p = some (.lst vs) ∧ vs.length + ws.length ≤ sizeLine ∧ Q .non (upd H1 p (.lst (vs ++ ws)))) := by
    refine ⟨fun pins s σv H Q I q => ?_⟩
    obtain ⟨p, vs, ep, hp, q⟩ := q
    refine mcall_of rfl (few_of (by simp [hs]) rfl (by simp)) hl (thn (pv.run pins s σv H (fun y H1 => y = .ref p ∧ H1 = H) I ⟨.ref p, ep, rfl, rfl⟩) fun u s1 ⟨y, H1, I1, ry, ey, eH⟩ pl => ?_)
    subst ey eH
    cases ry
    obtain ⟨_, its, k, _, _, g1⟩ := I1.lstM hp
    rw [hx]
    refine getMethod_builtin (T := "list") ⟨_, g1, rfl⟩ PySem.F.plainAttrs_list PySem.F.slot_list_extend rfl (fun a e => by cases e; exact ⟨_, g1, rfl⟩) ?_
    have PAr := pa_cons he pa_nil (starEach_cons hs)
    have hpl : (backTo cp (starEach [e] X.env)).any (·.1) = false := any_plain (by simp [hs])
    refine Calls.callWith_builtin hpl ?_
    have hA := PAr.run cp pins s1 σv H1 (fun wl H' => ∃ q ws, wl = [.ref q] ∧ H' q = some (.lst ws) ∧ H' p = some (.lst vs) ∧ vs.length + ws.length ≤ sizeLine ∧ Q .non (upd H' p (.lst (vs ++ ws)))) I1 (rd.mono q fun v H' ⟨q, ws, e1, e2⟩ => ⟨q, ws, by rw [e1], e2⟩)
    rw [starEach_cons hs] at hA ⊢
    refine Calls.evalArgs_plain (thn hA fun us s2 ⟨wl, H2, I2, rv, q, ws, ew, hq2, hp2, hz, q2⟩ => ?_)
    subst ew
    exact mt_extend pins s2 σv H2 (.ref p) [.ref q] (.ref p) us Q I2 rfl rv ⟨p, q, vs, ws, rfl, rfl, hp2, hq2, hz, q2⟩
  refine ps_weaken (ps_expr PEc (noComp_sw rfl _ _ _)) fun D σv H q => ?_
  obtain ⟨Z, φ, h, σ, a, q⟩ := q
  dsimp only at q
  cases ei : σ[i]? with
  | none => rw [ei] at q; exact q.elim
  | some sv =>
    rw [ei] at q
    cases sv with
    | own l =>
      dsimp only at q
      obtain ⟨o, eo, p, vs, rfl, hp, tv, nz, np⟩ := a.s.at_ i _ ei
      refine ⟨p, vs, eo, hp, ?_⟩
      refine (rdS_at (rel := TW Γ) a q).mono fun v H1 ⟨Z1, φ1, h1, t, le, a1, w, q1⟩ => ?_
      cases et : extF t with
      | none => rw [et] at q1; exact q1.elim
      | some mm =>
        rw [et] at q1
        dsimp only at q1
        split at q1
        · rename_i hz
          obtain ⟨qa, ws, rfl, hq, tw⟩ := ext_of w et
          obtain ⟨hp1, z1, n1⟩ := le.kp p _ hp np
          exact ⟨qa, ws, rfl, hq, hp1, by rw [tv.length, tw.length]; exact big_lt hz, q1 Z1 φ1 _ _ (a1.relist ei eo ((tv.mono a.r le).app tw))⟩
        · exact q1.elim
    | _ => exact q.elim
/-- does a comprehension's store go by way of the swap? -/
def swB (sc : Scope) (e : Expr) (y : Str) (p : Pos) : Bool := match e with
  | .ListComp _ _ s _ | .SetComp _ _ s _ | .DictComp _ _ _ s _ => decide (sc.names.lookup y = some .local) && p.line == e.pos.line && !(s.names.any fun (n, k) => n == y && (k == .local || k == .cell))
  | _ => false
theorem swB_ok {sc : Scope} {e : Expr} {y : Str} {p : Pos} {l : Nat} {env : Env} (hs : env.scope = sc) (hk : sc.kind = .function) : swapsWith e (some (.Name y p)) l env = pure (swB sc e y p) := by
  subst hs
  have hb : env.blockKind = .function := by unfold Env.blockKind; rw [hk]; rfl
  have key : ∀ s : Scope, (env.blockKind == .function && env.kindOf y == some .local && p.line == e.pos.line && !(s.names.any fun (n, k) => n == y && (k == .local || k == .cell))) = (decide (env.scope.names.lookup y = some .local) && p.line == e.pos.line && !(s.names.any fun (n, k) => n == y && (k == .local || k == .cell))) := fun s => by
    rw [hb]
    show (true && env.scope.names.lookup y == some .local && p.line == e.pos.line && _) = _
    rw [Bool.true_and]
    congr 2
    cases env.scope.names.lookup y with
    | none => rfl
    | some k => cases k <;> rfl
  cases e with
  | ListComp a b s d => exact congrArg pure (key s)
  | SetComp a b s d => exact congrArg pure (key s)
  | DictComp a b c s d => exact congrArg pure (key s)
  | _ => rfl
/-- x = a new list -/
theorem asgL (bd : Bd Γ (n + 1) X W) (l : Lvl Γ n) {k : Nat} {x : Str} {i : Nat} {e : Expr} {c : CE} {p' pos : Pos} (hck : ck Γ.nms X.N k false X.env.scope e c = true) (hi : X.N[i]? = some x) (hx : locB X.env.scope x = true) (hk : X.env.scope.kind = .function) :
    PS X (.Assign [.Name x p'] e pos) (tAsg (rdL Γ W fun σ h => evL Γ.G (Γ.at_ n) σ c h) (gName i)) := by
  have gd := bd.gd
  have gd' := gd.down (Nat.le_succ n)
  have hsw := fun l => swB_ok (e := e) (y := x) (p := p') (l := l) (env := X.env) rfl hk
  cases hb : swB X.env.scope e x p' with
  | false => exact ps_set bd.gd.nd hi (locB_ok hx) (ck_L l bd.gd hck) (by rw [hsw, hb]) (.inl (bd.fn x))
  | true =>
    have hsw := hsw pos.line
    rw [hb] at hsw
    cases k with
    | zero => cases hck
    | succ k =>
      cases e with
      | ListComp el' gens scope pos =>
        have hyl : X.env.scope.names.lookup x = some .local := by
          obtain ⟨g1, _⟩ := ba2 (show (decide (X.env.scope.names.lookup x = some .local) && p'.line == _ && _) = true from hb)
          exact of_decide_eq_true (ba2 g1).1
        cases c with
        | comp el tg it ifs ws =>
          cases gens with
          | nil => cases hck
          | cons g0 gs =>
            obtain ⟨tg', it', ifs', asy⟩ := g0
            cases gs with
            | cons => exact absurd hck (by simp [ck])
            | nil =>
              by_cases has : asy = 0
              case neg => exact absurd hck (by simp [ck, has])
              case pos =>
                subst has
                have h := hck
                unfold ck at h
                dsimp only at h
                obtain ⟨h, i1⟩ := ba2 h
                obtain ⟨h, i2⟩ := ba2 h
                obtain ⟨h, i3⟩ := ba2 h
                obtain ⟨h, i4⟩ := ba2 h
                obtain ⟨h, i5⟩ := ba2 h
                obtain ⟨h, i6⟩ := ba2 h
                obtain ⟨i8, i7⟩ := ba2 h
                obtain ⟨i0, i8⟩ := ba2 i8
                refine s_setLc gd i0 l.wd l.fa l.e i8 (ck_I gd' l.wd l.e true i6).1 i7 i5 (fun i hi => ?_) (of_decide_eq_true i4) i3 i2 hi hyl hsw
                cases tg with
                | nm j =>
                  simp only [Tg.idx, List.mem_singleton] at hi
                  subst hi
                  simpa using i1
                | tup is =>
                  have := List.all_eq_true.mp i1 i hi
                  simpa using this
        | con t => cases hck
        | _ => cases hck
      | _ => first | cases hb | (cases c <;> cases hck)
end
end Ev
end
section
set_option Elab.async false
set_option linter.all false
set_option maxRecDepth 100000
set_option maxHeartbeats 2000000
/-! Ev, part Xb: the body of an exception's __init__. -/
namespace Ev
open PySem PySem.Spec PyProof.Rows L2
/-- an exception in the making, its fields so far -/
def XSt (C a : Addr) (gs : List (Str × V)) (H0 H : Hp) : Prop :=
  (gs = [] ∧ H a = some (exo a C none) ∧ ∀ b, b ≠ a → H b = H0 b) ∨
  ∃ d, d ≠ a ∧ H0 d = none ∧ H a = some (exo a C (some d)) ∧ H d = some (exd d gs) ∧ ∀ b, b ≠ a → b ≠ d → H b = H0 b
section
variable {X : Cx}
/-- what the stores ask -/
def tXs (K : PySem.W.Frag) (fs : List (Str × Nat)) : TS := fun D σ H => ∃ (C a : Addr) (gs : List (Str × V)) (H0 : Hp) (ys : List V), σ[(0 : Nat)]? = some (some (.ref a)) ∧ OexC K C ∧ XSt C a gs H0 H ∧ gs.length + fs.length ≤ 100 ∧
  (∀ p ∈ fs, PySem.W.findIn K (.ref C) p.1 = some none) ∧ Paired (fun (p : Str × Nat) (y : V) => σ[p.2]? = some (some y)) fs ys ∧ ∀ H', XSt C a (((fs.map (·.1)).zip ys).reverse ++ gs) H0 H' → D.nx σ H'
theorem var_ok {x : Str} {i : Nat} {pos : Pos} (h : ckVar X.N X.env.scope x i = true) : PE X (.Name x pos) (tVar i) := by
  obtain ⟨h, hd⟩ := ba2 h
  obtain ⟨h1, h2⟩ := ba2 h
  obtain ⟨d1, d2, _⟩ := dbg_ok hd
  exact pe_var (of_decide_eq_true h1) (visB_ok h2) d1 d2
theorem xs_ok : ∀ (ss : List Stmt) (fs : List (Str × Nat)), xsB X.N X.env.scope ss fs = true → PSs X ss (tXs X.K fs)
  | [], [], _ => pss_weaken pss_nil fun D σ H ⟨C, a, gs, H0, ys, _, _, xs, _, _, hp, q⟩ => by
    cases hp
    exact q H xs
  | s :: ss, (f, i) :: fs, h => by
    unfold xsB at h
    split at h
    · rename_i e1 e2
      cases e1
    · rename_i x p1 g p2 y p3 p4 ss' f' i' fs' e1 e2
      cases e1
      cases e2
      obtain ⟨h, h4⟩ := ba2 h
      obtain ⟨h, h3⟩ := ba2 h
      obtain ⟨h1, h2⟩ := ba2 h
      have h1 := of_decide_eq_true h1
      subst h1
      have ih := xs_ok ss fs h4
      refine pss_weaken (pss_cons (ps_ost (var_ok h2) (var_ok h3) (noComp_sw rfl _ _ _)) ih) fun D σ H ⟨C, a, gs, H0, ys, e0, T, xs, len, no, hp, q⟩ => ?_
      cases hp with
      | cons hy hp =>
        rename_i y' ys'
        refine ⟨y', hy, .ref a, e0, a, C, rfl, T, no _ List.mem_cons_self, ?_⟩
        rw [List.length_cons] at len
        have fin : ∀ H1, XSt C a ((g, y') :: gs) H0 H1 → tXs X.K fs D σ H1 := fun H1 x1 => by
          refine ⟨C, a, (g, y') :: gs, H0, ys', e0, T, x1, by rw [List.length_cons]; omega, fun p hpm => no p (List.mem_cons_of_mem _ hpm), hp, fun H' x' => q H' ?_⟩
          rw [List.map_cons, List.zip_cons_cons, List.reverse_cons, List.append_assoc]
          exact x'
        rcases xs with ⟨rfl, ha, hb⟩ | ⟨d, nd, hd0, ha, hd, hb⟩
        · refine .inl ⟨ha, fun dx hdx ne => fin _ (.inr ⟨dx, ne, ?_, upd_same, ?_, fun b h1 h2 => ?_⟩)⟩
          · rw [← hb dx ne]; exact hdx
          · rw [upd_ne ne, upd_same]
          · rw [upd_ne h1, upd_ne h2]; exact hb b h1
        · refine .inr ⟨d, gs, ha, hd, by omega, fin _ (.inr ⟨d, nd, hd0, ?_, upd_same, fun b h1 h2 => ?_⟩)⟩
          · rw [upd_ne (Ne.symm nd)]; exact ha
          · rw [upd_ne h2]; exact hb b h1 h2
    · cases h
  | [], _ :: _, h => by cases h
  | _ :: _, [], h => by
    unfold xsB at h
    split at h
    · rename_i e1 e2
      cases e1
    · rename_i e1 e2
      cases e2
    · cases h
end
end Ev
end
section
set_option Elab.async false
set_option linter.all false
set_option maxRecDepth 100000
set_option maxHeartbeats 2000000
/-! Ev, part Xc: an own exception's __init__ as a def that keeps its promise. -/
namespace Ev
open PySem PySem.Spec PyProof.Rows L2
/-- C0.__init__(e, ..), C0 an own class that has ValueError's __init__ -/
theorem pe_cinit {X : Cx} {e : Expr} {es : List Expr} {ta : TA} {c0 : Str} {C0 : Addr} {p1 p2 pos : Pos} (hg : Gl X c0) (hm : X.mg c0 = some (.ref C0)) (r : ClX.CRead X.K C0 (.type "type")) (at_ : PySem.W.findCls X.K (.ref C0) (.type "type") "__init__" = some (.val (.builtin "ValueError.__init__"))) (ha : PA X (e :: es) ta)
    (hdb : (c0 == ("__debug__" : Str)) = false) (hl : (p2.endLine == pos.line) = true) (hn : (e :: es).all notStar = true) (hfew : (e :: es).length < 29)
    (he : starEach (e :: es) X.env = (false, eval e X.env) :: starEach es X.env := by rfl) (hpl : (backTo pos (starEach es X.env)).any (·.1) = false := by rfl) :
    PE X (.Call (.Attribute (.Name c0 p1) "__init__" p2) (e :: es) [] pos) (tVeI X.K ta) := by
  refine ⟨fun pins s σ H Q I h => ?_⟩
  refine mcall_of rfl (few_of hn rfl (by simpa using hfew)) hl (ld_glob I hg hm (fun pl => ?_) hdb)
  refine PySem.W.method_cls I.kIn r.ga (PySem.W.cls_value I.kIn r.rd at_ (by decide +kernel) ?_)
  show wpAny _ _ (callWith pos (Value.builtin "ValueError.__init__") [] (backTo pos (starEach (e :: es) X.env)) []) _ _ _
  refine PyProof.Rows.callWith_method1 (thn (ha.run pos pins _ σ H _ (I.tok _) h) fun us s1 ⟨vs, H1, I1, r1, a, C, ws, ev, hl, T, ea, q⟩ => ?_) he hpl
  subst ev
  cases r1 with
  | @cons _ u0 _ ur ra rw' =>
    obtain rfl : u0 = Value.ref a := ra
    have hlen : ur.length ≤ sizeLine := by
      rw [← Paired.length rw', sizeLine_eq]
      omega
    exact oinit_ok T I1 ea hlen fun s' J => ⟨.non, H1, J, rfl, q⟩
/-- what __init__ does -/
def spX (Γ : Gam) (c : Nat) (k : XcD) : Sp := fun vs H Q E => ∃ (a : Addr) (ys : List V), vs = .ref a :: ys ∧ ys.length = k.exf.length ∧ H a = some (exo a (Γ.cA c) none) ∧
  ∀ H', XSt (Γ.cA c) a (((k.exf.map fun p => Γ.nm p.1).zip ys).reverse) H H' → Q .non H'
theorem paired_of {σ : L2.St} : ∀ (fs : List (Str × Nat)) (ys : List V) (j : Nat), fs.map (·.2) = List.range' j fs.length → ys.length = fs.length → (∀ (i : Nat) (y : V), ys[i]? = some y → σ[j + i]? = some (some y)) →
    Paired (fun (p : Str × Nat) (y : V) => σ[p.2]? = some (some y)) fs ys
  | [], [], _, _, _, _ => .nil
  | [], _ :: _, _, _, h, _ => by cases h
  | _ :: _, [], _, _, h, _ => by cases h
  | (f, i) :: fs, y :: ys, j, e, h, q => by
    rw [List.map_cons, List.length_cons, List.range'_succ] at e
    obtain ⟨e1, e2⟩ := List.cons.inj e
    have e1 : i = j := e1
    subst e1
    refine .cons (q 0 y rfl) (paired_of fs ys (i + 1) e2 (by simpa using h) fun n z hz => ?_)
    have := q (n + 1) z hz
    rw [show i + 1 + n = i + (n + 1) by omega]
    exact this
theorem fnX_ok {Γ : Gam} {c : Nat} {k : XcD} (F : XcF Γ c k) (ne : k.exf ≠ []) : ∃ (fI : Addr) (fd : FuncData) (ps : List Str), FnOk Γ.prog Γ.w Γ.K Γ.mg Γ.base (L2.CX Γ.prog Γ.w) 1 fI fd ps (spX Γ c k) ∧
    PySem.W.findIn Γ.K (.ref (Γ.cA c)) "__init__" = some (some (.ref fI)) ∧ PySem.W.typeIn Γ.K (.ref fI) = some (.type "function") ∧
    ∀ n, n ≤ k.exf.length → (∀ p ∈ k.exf.drop n, p.2 ≠ none) → Binds Γ.K fd ps (List.replicate (k.exf.length - n) Value.none) := by
  obtain ⟨x, qual, params, body, scope, dvs, fI, fd, N, ps, c0, C0, fs, FD, S, pl, hb, hn, hi, hm, hdb, hg, r, at_, iC, tI, B⟩ := F.make ne
  refine ⟨fI, fd, ps, FD.ok S (fun vs H Q E ⟨a, ys, e, l, _⟩ => by rw [e, List.length_cons, l, pl]) ?_, iC, tI, B⟩
  intro cdv A outer s H vs Q E hr ⟨a, ys, ev, ly, ha, q⟩
  subst ev
  unfold xbB at hb
  split at hb
  · rename_i fl y p1 m p2 z p3 st p4 p5 p6 p7 ss
    obtain ⟨hb, h4⟩ := ba2 hb
    obtain ⟨hb, hl⟩ := ba2 hb
    obtain ⟨hb, h3⟩ := ba2 hb
    obtain ⟨h1, h2⟩ := ba2 hb
    have h1 := of_decide_eq_true h1
    have h2 := of_decide_eq_true h2
    subst h1 h2
    have G : Gl (cxOf (L2.CX Γ.prog Γ.w) Γ.prog Γ.w Γ.K Γ.mg Γ.base N qual scope fI cdv A outer s H E) y := glB_ok (X := cxOf (L2.CX Γ.prog Γ.w) Γ.prog Γ.w Γ.K Γ.mg Γ.base N qual scope fI cdv A outer s H E) hg
    refine ⟨_, pss_cons (ps_expr (pe_cinit G hm r at_ (pa_cons (var_ok (X := cxOf (L2.CX Γ.prog Γ.w) Γ.prog Γ.w Γ.K Γ.mg Γ.base N qual scope fI cdv A outer s H E) h3) (pa_cons pe_str pa_nil)) (dbg_ok hdb).1 hl rfl (by simp)) (noComp_sw rfl _ _ _)) (xs_ok (X := cxOf (L2.CX Γ.prog Γ.w) Γ.prog Γ.w Γ.K Γ.mg Γ.base N qual scope fI cdv A outer s H E) ss fs h4), ?_⟩
    have lf : fs.length = k.exf.length := by
      have := congrArg List.length hn
      simpa using this
    refine ⟨.ref a, start_get N _ rfl, a, Γ.cA c, [.str st], rfl, by simp, F.oex, ha, Γ.cA c, a, [], H, ys, start_get N _ rfl, F.oex, .inl ⟨rfl, ha, fun _ _ => rfl⟩, ?_, ?_, ?_, fun H' x' => q H' ?_⟩
    · have := F.many
      simp only [List.length_nil]
      omega
    · intro p hp
      have : p.1 ∈ k.exf.map fun p => Γ.nm p.1 := by rw [← hn]; exact List.mem_map.mpr ⟨p, hp, rfl⟩
      obtain ⟨w, hw, e⟩ := List.mem_map.mp this
      rw [← e]
      exact F.no w.1 (by simpa using ⟨w.2, hw⟩)
    · refine paired_of fs ys 1 (by rw [hi, lf]) (by rw [ly, lf]) fun i y hy => ?_
      rw [show 1 + i = i + 1 by omega]
      exact start_get N _ hy
    · rw [List.append_nil, hn] at x'
      exact x'
  · cases hb
end Ev
end
section
set_option Elab.async false
set_option linter.all false
set_option maxRecDepth 100000
set_option maxHeartbeats 2000000
/-! Ev, part Xd: raise of an own exception. -/
namespace Ev
open PySem PySem.Spec PyProof.Rows L2
def plainC (c : CE) : Bool := match c with
  | .star _ => false
  | _ => true
section
variable {Γ : Gam} {Z : Addr → Prop} {φ : List Addr} {H : Hp} {h : Hh} {X : Cx} {W : WX} {n m : Nat} {σv : L2.St} {b : Bs}
theorem evArgs_len {r : Rec} {σ : Sl} : ∀ {cs : List CE} {h h' : Hh} {ts : List T}, cs.all plainC = true → evArgs r σ cs h = some (.ok ts h') → ts.length = cs.length
  | [], h, h', ts, _, e => by cases e; rfl
  | c :: cs, h, h', ts, hp, e => by
    rw [List.all_cons] at hp
    obtain ⟨h1, h2⟩ := ba2 hp
    have e : Ro.bd (r.e σ c h) (fun t h => Ro.bd (evArgs r σ cs h) fun ts h => some (.ok (t :: ts) h)) = some (.ok ts h') := by
      cases c <;> first | exact e | cases h1
    cases q : r.e σ c h with
    | none => rw [q] at e; cases e
    | some y => cases y with
      | ex c fs h => rw [q] at e; cases e
      | ok t h1 =>
        rw [q] at e
        dsimp only [Ro.bd] at e
        cases q2 : evArgs r σ cs h1 with
        | none => rw [q2] at e; cases e
        | some y => cases y with
          | ex c fs h => rw [q2] at e; cases e
          | ok us h2 =>
            rw [q2] at e
            cases e
            rw [List.length_cons, List.length_cons, evArgs_len h2 q2]
theorem evArgs_zero {P : Prg} {wf : Nat} {σ : Sl} {c : CE} {cs : List CE} {h : Hh} (hp : plainC c = true) : evArgs (run P wf 0) σ (c :: cs) h = none := by
  cases c <;> first | rfl | cases hp
theorem tfs_app {gs gs' : List (Str × V)} {fs fs' : List (Nat × T)} : TFs Γ Z φ H gs fs → TFs Γ Z φ H gs' fs' → TFs Γ Z φ H (gs ++ gs') (fs ++ fs')
  | .nil, q => q
  | .cons a b, q => .cons a (tfs_app b q)
theorem tfs_rev {gs : List (Str × V)} {fs : List (Nat × T)} : TFs Γ Z φ H gs fs → TFs Γ Z φ H gs.reverse fs.reverse
  | .nil => .nil
  | .cons a b => by
    rw [List.reverse_cons, List.reverse_cons]
    exact tfs_app (tfs_rev b) (.cons a .nil)
theorem bindX_zip : ∀ {xs : List (Nat × Option T)} {vs : List V} {ts : List T} {fs : List (Nat × T)}, ts.length = xs.length → bindX xs ts = some fs → TVs Γ Z φ H vs ts → TFs Γ Z φ H ((xs.map fun p => Γ.nm p.1).zip vs) fs
  | [], _, _, _, _, e, .nil => by cases e; exact .nil
  | [], _, _ :: _, _, hl, _, _ => by cases hl
  | _ :: _, _, _, _, hl, _, .nil => by cases hl
  | (f, o) :: xs, v :: vs, t :: ts, fs, hl, e, .cons a r => by
    have e : (bindX xs ts).map ((f, t) :: ·) = some fs := by
      cases o <;> exact e
    cases q : bindX xs ts with
    | none => rw [q] at e; cases e
    | some l =>
      rw [q] at e
      cases e
      exact .cons a (bindX_zip (by simpa using hl) q r)
/-- raise C(e, ..) -/
theorem t_raise (bd : Bd Γ (n + 1) X W) (l : Lvl Γ n) {x : Str} {g c kk : Nat} {k : XcD} {e : Expr} {es : List Expr} {cs : List CE} {p pos rp : Pos} (hm : Γ.mg x = some (.ref (Γ.cA c))) (hg : glB X.env.scope x = true) (hd : dbgB x = true) (hG : Γ.G.gl g = some (.cls c)) (hc : Γ.G.xc c = some k)
    (hck : all2 (argB (ck Γ.nms X.N kk false X.env.scope)) (e :: es) cs = true) (hs : (e :: es).all notStar = true) (hp : cs.all plainC = true) (hl : cs.length = k.exf.length) (ne : k.exf ≠ []) :
    PS X (.Raise (some (.Call (.Name x p) (e :: es) [] pos)) none rp) (rdS Γ W b fun σ h => evS Γ.G (Γ.at_ n) Γ.wf σ (.raise_ (.glob g) cs) h) := by
  have gd := bd.gd
  have gd' := gd.down (Nat.le_succ n)
  have F := l.wd.xc c k hc
  have ev : ∀ σ h, evS Γ.G (Γ.at_ n) Γ.wf σ (.raise_ (.glob g) cs) h = So.of σ (evArgs (Γ.at_ n) σ cs h) fun ts h => (match bindX k.exf ts with
        | some fs => some (.ex c fs.reverse σ, h)
        | none => none) := fun σ h => by
    unfold evS
    dsimp only
    rw [hG]
    dsimp only
    rw [hc]
    dsimp only
    have hz : (decide (cs.length = k.exf.length) && !k.exf.isEmpty) = true := by
      have : k.exf.isEmpty = false := by cases hk : k.exf with
        | nil => exact absurd hk ne
        | cons => rfl
      rw [decide_eq_true hl, this] <;> rfl
    exact if_pos hz
  have ev2 : ∀ σ h, So.of σ (evArgs (Γ.at_ n) σ cs h) (fun ts h => (match bindX k.exf ts with
        | some fs => some (.ex c fs.reverse σ, h)
        | none => none)) = So.of σ (evArgs (Γ.at_ n) σ cs h) fun ts h => (if ts.length = cs.length then (match bindX k.exf ts with
        | some fs => some (.ex c fs.reverse σ, h)
        | none => none) else none) := fun σ h => by
    cases q : evArgs (Γ.at_ n) σ cs h with
    | none => rfl
    | some y => cases y with
      | ex c fs h => rfl
      | ok ts h' => exact (if_pos (evArgs_len hp q)).symm
  cases n with
  | zero =>
    refine ⟨fun pins s σ H D I q => ?_⟩
    obtain ⟨Z, φ, hh, σ, a, q⟩ := q
    have q : PostS Γ W b D (evS Γ.G (Γ.at_ 0) Γ.wf σ (.raise_ (.glob g) cs) hh) := q
    rw [ev] at q
    cases cs with
    | nil => exact absurd (List.length_eq_zero_iff.mp hl.symm) ne
    | cons c0 cs =>
      rw [List.all_cons] at hp
      rw [show evArgs (Γ.at_ 0) σ (c0 :: cs) hh = none from evArgs_zero (ba2 hp).1] at q
      exact q.elim
  | succ n =>
    obtain ⟨fI, fd, ps, FO, iC, tI, B⟩ := fnX_ok F ne
    have ha := ck_args gd' l.e hck
    have hs1 := ba2 (show (notStar e && es.all notStar) = true from hs)
    have T := F.oex
    have B0 := B k.exf.length (Nat.le_refl _) (by simp)
    rw [Nat.sub_self] at B0
    rw [← gd.K] at T iC tI B0
    rw [← gd.prog, ← gd.w, ← gd.K, ← gd.mg, ← gd.base] at FO
    rw [← gd.mg] at hm
    have PM := pmk_oex (p := p) (pos := pos) T iC tI FO (gd.room.mono (by omega)) B0 .nil (passes_call (E := fun _ _ _ => False) gd.tk (fun _ _ _ _ z => z.elim)) (glB_ok hg) hm ha (dbg_ok hd).1 (starEach_cons hs1.1) (any_plain hs1.2)
    refine ps_weaken (ps_raise gd.calm gd.tk PM) fun D σv H q => ?_
    obtain ⟨Z, φ, hh, σ, a, q⟩ := q
    have q : PostS Γ W b D (evS Γ.G (Γ.at_ (n + 1)) Γ.wf σ (.raise_ (.glob g) cs) hh) := q
    rw [ev, ev2] at q
    have q : rdS Γ W b (fun σ h => So.of σ (evArgs (Γ.at_ (n + 1)) σ cs h) fun ts h => (if ts.length = cs.length then (match bindX k.exf ts with
        | some fs => some (.ex c fs.reverse σ, h)
        | none => none) else none)) D σv H := ⟨Z, φ, hh, σ, a, q⟩
    refine (rdS_of (rel := TVs Γ) (ev := fun σ h => evArgs (Γ.at_ (n + 1)) σ cs h) q).mono fun vs H1 ⟨Z1, φ1, h1, σ, ts, a1, tv, q1⟩ => ?_
    by_cases hlen : ts.length = cs.length
    · rw [if_pos hlen] at q1
      cases qb : bindX k.exf ts with
      | none => rw [qb] at q1; exact q1.elim
      | some fs =>
        rw [qb] at q1
        have lv : vs.length = k.exf.length := by rw [tv.length, hlen, hl]
        refine ⟨by have := F.many; omega, fun a0 na => ⟨a0, vs, by rw [List.append_nil], lv, upd_same, fun H' xs => ⟨rfl, ?_⟩⟩⟩
        rcases xs with ⟨e0, _, _⟩ | ⟨d, nd, hd0, ha0, hd1, hb⟩
        · exact absurd (by
            have := congrArg List.length e0
            rw [List.length_reverse, List.length_zip, List.length_map, lv, Nat.min_self] at this
            exact List.length_eq_zero_iff.mp this) ne
        · have n1 : H1 d = none := by rw [upd_ne nd] at hd0; exact hd0
          have eH : upd (del H' a0) d (.xd ((k.exf.map fun p => Γ.nm p.1).zip vs).reverse) = upd H1 d (.xd ((k.exf.map fun p => Γ.nm p.1).zip vs).reverse) := by
            funext b
            by_cases h1 : b = d
            · rw [h1, upd_same, upd_same]
            · rw [upd_ne h1, upd_ne h1]
              by_cases h2 : b = a0
              · rw [h2, del_same, na]
              · rw [del_ne h2, hb b h2 h1, upd_ne h2]
          refine ⟨d, _, ha0, hd1, n1, ?_⟩
          rw [eH]
          have r2 := a1.r.held (o := .xd ((k.exf.map fun p => Γ.nm p.1).zip vs).reverse) n1
          have le : Le Z1 φ1 H1 Z1 φ1 (upd H1 d (.xd ((k.exf.map fun p => Γ.nm p.1).zip vs).reverse)) := Le.held n1
          exact q1 Z1 φ1 _ σv d _ (a1.later le r2) upd_same (fun z => by obtain ⟨_, o, eo⟩ := a1.r.dz d z; rw [n1] at eo; cases eo) (a1.r.notin n1) (a1.le.fresh n1 (a1.r.notin n1)) (tfs_rev (bindX_zip (by rw [hlen, hl]) qb (tv.mono a1.r le)))
    · rw [if_neg hlen] at q1
      exact q1.elim
end
end Ev
end
section
set_option Elab.async false
set_option linter.all false
set_option maxRecDepth 100000
set_option maxHeartbeats 4000000
/-! Ev, part Xe: try with one clause; the caught object is tracked behind its suite. -/
namespace Ev
open PySem PySem.Spec PyProof.Rows L2
section
variable {X : Cx} {pins : List (Addr × Obj)} {σ : L2.St} {H : Hp} {s : Shared}
theorem xcO_ok {P : Program} {w : World} {H : Hp} {h : Heap} {a C d : Addr} {oe : Obj} {vs : Array Value} (e : h.get? a = some oe) (c : oe.cls = .ref C) (dd : oe.dict = some d) (f : oe.data = .fields vs) : ObjOk P w H h a (XcO C d a) :=
  ⟨⟨oe, vs, e, c, dd, f⟩, ⟨oe, e⟩, fun _ _ ⟨o, v, q, r⟩ k => ⟨o, v, k o q, r⟩⟩
/-- an object that nothing told of is tracked -/
theorem inv_track (I : Inv X pins σ H s) {a C d : Addr} {oe : Obj} {vs : Array Value} (he : s.heap.get? a = some oe) (hc : oe.cls = .ref C) (hd : oe.dict = some d) (hf : oe.data = .fields vs) (na : H a = none) (nL : a ≠ X.env.locals)
    (n0 : X.s_0.heap.get? a = none) (np : ∀ p ∈ X.pn ++ pins, p.1 ≠ a) : Inv X pins σ (upd H a (XcO C d a)) s := by
  have ne : ∀ {b : Addr} {o : HO}, H b = some o → b ≠ a := fun {b o} e z => by rw [z, na] at e; cases e
  refine ⟨I.ok, I.os, I.bare, ⟨I.base.keep, I.base.slot, fun b o e n hx => ?_, I.base.there, fun b xs e => ?_, fun b o xs e => ?_, fun b ps e => ?_⟩, I.loc, I.cell, ?_, fun x c e => ?_, fun p hp => ?_, I.hok.laidN (fun _ _ z => z) na (xcO_ok he hc hd hf), I.len⟩
  · rw [upd_ne (fun z => by rw [z, n0] at e; cases e)]
    exact I.base.free b o e n hx
  · have := I.base.tups b xs e
    rw [upd_ne (ne this)]
    exact this
  · have := I.base.frzs b o xs e
    rw [upd_ne (ne this)]
    exact this
  · obtain ⟨more, this⟩ := I.base.tbls b ps e
    exact ⟨more, by rw [upd_ne (ne this)]; exact this⟩
  · rw [upd_ne (Ne.symm nL)]
    exact I.free
  · rw [upd_ne (fun z => ?_)]
    · exact I.freeC x c e
    · obtain ⟨v, q⟩ := I.cell x c e
      subst z
      obtain ⟨o, q1, q2⟩ := (show ∃ o, s.heap.get? c = some o ∧ o.data = .cell v from by
        obtain ⟨o, q1, q2⟩ := q
        exact ⟨o, q1, by first | exact q2 | exact q2.1 | exact q2.2⟩)
      rw [he] at q1
      cases q1
      rw [hf] at q2
      cases q2
  · obtain ⟨e1, e2, e3⟩ := I.pin p hp
    exact ⟨e1, by rw [upd_ne (np p hp)]; exact e2, e3⟩
/-- what the clause wishes of an exception: where its suite goes on, the object is tracked, the clause's name is gone -/
def wKeep (K : PySem.W.Frag) (c : Value) (i : Nat) (ts : Addr → Value → Option Addr → TS) (Wo : WX) (D : Ends) : WX := fun cls d σ H => ∃ yes, PySem.W.exmOne K cls c = some yes ∧
  (yes = true → ∃ C dd, cls = .ref C ∧ d = some dd ∧ ∀ a, H a = none → ts a cls d { nx := fun σ1 H1 => D.nx (σ1.set i none) (upd H1 a (XcO C dd a)), rt := fun _ _ => False, bk := fun _ _ => False, ct := fun _ _ => False } (σ.set i (some (.ref a))) H) ∧
  (yes = false → Wo cls d σ H)
variable {x n : Str} {c : Value} {i : Nat} {body sui : List Stmt} {st0 : Stmt} {np pos pos' : Pos} {tb : WX → TS} {ts : Addr → Value → Option Addr → TS} {Wo : WX}
theorem ps_try_keep (h1 : X.stack = X.env :: X.outer) (h2 : X.env.frame = some X.env.locals) (hex : X.ex = []) (hN : X.N.Nodup) (hi : X.N[i]? = some n) (hloc : X.env.kindOf n = some .local) (hc : Names X x c) (tk : Takes X Wo)
    (hb : ∀ (W : WX) (pn : List (Addr × Obj)) (xe : Value → Shared → Prop), Takes (X.tr pn xe) W → PassesOwn (model X.prog X.w) X.A X.env xe → PSs (X.tr pn xe) body (tb W))
    (hsu : ∀ (a : Addr) (oe : Obj) (cls : Value) (d : Option Addr) (pn : List (Addr × Obj)), Zc cls d oe → (∃ vs, oe.data = .fields vs) → PSs (X.suite a ((a, oe) :: pn)) (st0 :: sui) (ts a cls d)) :
    PS X (.Try body [.ExceptHandler (some (.Name x np)) (some n) (st0 :: sui) pos'] [] [] pos) (fun D σ H => tb (wKeep X.K c i ts Wo D) D σ H) := by
  refine ⟨fun pins st σ0 H0 D J0 wish => ?_⟩
  have oks := J0.ok
  have frm : X.A.frames = some (X.env :: X.outer) := by rw [oks.frames, h1]
  refine wpAny_Try_except ?_
  have bodyRun := hb (wKeep X.K c i ts Wo D) (X.pn ++ pins) (fun ev t1 => wpAny (model X.prog X.w) X.A (noteFrame ev X.env) (fun _ t2 => wpAny (model X.prog X.w) X.A (setFlight ev none) (fun _ t3 =>
    wpAny (model X.prog X.w) X.A (handleBy ev X.env [.ExceptHandler (some (.Name x np)) (some n) (st0 :: sui) pos']) (SP X pins D) X.xe t3) X.xe t2) X.xe t1)
  refine wpAny_mono ((bodyRun (fun u t' air => ?_) PassesOwn.looking).run [] st σ0 H0 D (J0.toTry _) wish) (fun fl t1 good => ?_) (fun _ _ z => z)
  · obtain ⟨a, B, tI, pins1, σ1, H1, cls, d, rfl, JT, inB, toS, sky, na, sameOs, bare, yes, hyes, wy, wn⟩ := air
    have J : Inv X pins σ1 H1 tI := JT.ofTry oks
    have sky1 : Sky B (X.env :: X.outer) a (Zc cls d) X.env.locals t'.heap := by rw [← h1]; exact sky
    show wpAny (model X.prog X.w) X.A (noteFrame (.ref a) X.env) _ _ _
    refine Sky.land Zc.steady frm h2 sky1 fun hp3 fly3 up3 => ?_
    have J3 : Inv X pins σ1 H1 { t' with heap := hp3 } := J.landed inB fly3.1 (toS.trans up3) sameOs bare
    obtain ⟨oe3, vs3, at3, z3, f3⟩ := fly3.there
    have noFr : a ∉ frs (X.env :: X.outer) := fun hm => by
      obtain ⟨_, o', e', hnf⟩ := fly3.2.2.1.mem hm
      rw [at3] at e'
      cases e'
      exact hnf _ f3
    have nL : a ≠ X.env.locals := fun z => noFr (List.mem_filterMap.mpr ⟨X.env, List.mem_cons_self, by rw [h2, z]⟩)
    have nF : a ∉ X.fs := fun hm => by
      obtain ⟨en, hen, q⟩ := List.mem_filterMap.mp hm
      exact noFr (List.mem_filterMap.mpr ⟨en, List.mem_cons_of_mem _ hen, q⟩)
    have newI : tI.heap.get? a = none := by
      cases q : tI.heap.get? a with
      | none => rfl
      | some o =>
        have z := inB a o q (by rw [show (X.tr (X.pn ++ pins) _).stack = X.env :: X.outer from h1]; exact noFr)
        rw [fly3.2.1] at z
        cases z
    have new0 : X.s_0.heap.get? a = none := by
      cases q : X.s_0.heap.get? a with
      | none => rfl
      | some o =>
        obtain ⟨o', z⟩ := J.base.there a o q (by rw [hex]; exact List.not_mem_nil)
        rw [newI] at z
        cases z
    have noPin : ∀ p ∈ X.pn ++ pins, p.1 ≠ a := fun p hp z => by
      have q := (J.pin p hp).1
      rw [z, newI] at q
      cases q
    have S3 := J3.suite at3 f3 na nL nF
    refine wpAny_handleBy_cons (codeAny_handlers_test ?_) (by intro q; cases q)
    have looksT : PySem.W.Looks (model X.prog X.w) hp3 (typeOf (.ref a)) cls := fun A Q E s k q => wpAny_typeOf_ref (k _ _ at3) (by rw [z3.1]; exact q)
    have looksM := PySem.W.exm_one (M := model X.prog X.w) (J3.kIn) looksT hyes
    have named : ∀ {Q : Value → Shared → Prop} {E : Value → Shared → Prop}, Q c { t' with heap := hp3 } → wpAny (model X.prog X.w) (X.A.mark (some (.ref a))) (eval (.Name x np) X.env) Q E { t' with heap := hp3 } := fun {Q E} q => by
      obtain ⟨g1, g2, g3 | ⟨g3, g4, g5⟩⟩ := hc
      · exact ld_glob (X := X.suite a ((a, oe3) :: (X.pn ++ pins))) S3 g1 g3 q g2
      · exact ld_blt (X := X.suite a ((a, oe3) :: (X.pn ++ pins))) S3 g1 g3 g4 q g5 g2
    refine named (looksM.here ?_)
    cases yes with
    | true =>
      obtain ⟨C, dd, ec, ed, wy⟩ := wy rfl
      refine codeAny_handlers_suite_as ?_
      refine HandSPX.lands_againZ fly3 fun hp4 fly4 up4 => ?_
      have J4 : Inv X pins σ1 H1 { t' with heap := hp4 } := J.landed inB fly4.1 ((toS.trans up3).trans up4) sameOs bare
      obtain ⟨oe4, vs4, at4, z4, f4⟩ := fly4.there
      have S4 := J4.suite at4 f4 na nL nF
      refine store_ok (X := X.suite a ((a, oe4) :: (X.pn ++ pins))) (v := .ref a) S4 hN hi (.inl hloc) rfl (fun t5 S5 => ?_) (.inr hloc)
      refine wpAny_mono ((hsu a oe4 cls d (X.pn ++ pins) z4 ⟨_, f4⟩).run [] t5 _ H1 _ S5 (wy a na)) (fun fl t6 good => ?_) (fun _ _ z => False.elim z)
      cases fl with
      | next =>
        obtain ⟨σ6, H6, S6, q6⟩ := good
        obtain ⟨at6, na6, _⟩ := S6.pin (a, oe4) (List.mem_append_left _ List.mem_cons_self)
        have J6 : Inv X pins σ6 H6 t6 := S6.unsuite oks
        have J7 := inv_track (C := C) (d := dd) J6 at6 (z4.1.trans ec) (z4.2.trans ed) f4 na6 nL new0 noPin
        exact gone_ok J7 hN hi hloc fun t7 J8 => ⟨_, _, J8, q6⟩
      | brk =>
        obtain ⟨_, _, _, q6⟩ := good
        exact q6.elim
      | cont =>
        obtain ⟨_, _, _, q6⟩ := good
        exact q6.elim
      | ret u =>
        obtain ⟨_, _, _, _, _, q6⟩ := good
        exact q6.elim
    | false =>
      show wpAny _ X.A (handleBy (.ref a) X.env []) _ _ _
      refine wpAny_handleBy_nil ?_
      obtain ⟨k1, k2, k3, oe, vs, T, oT, ts', he, hz, hd, hv1, hr⟩ := id fly3
      unfold PySem.passOn
      refine wpAny_bind (wpAny_field he hd hv1 ?_)
      rw [if_neg (show ¬ ((Value.ref T == Value.none) = true) from by simp)]
      have fin : wpAny (model X.prog X.w) X.A (setFlight (.ref a) X.env.frame) (fun _ t4 => wpAny (model X.prog X.w) X.A (throw (.ref a) : Sem Flow) (SP X pins D) X.xe t4) X.xe { t' with heap := hp3 } := by
        rw [h2]
        refine HandSPX.setFlight_upZ fly3 fun hp4 hh4 up4 => wpAny_throw (tk _ _ ?_)
        exact ⟨a, B, tI, pins, σ1, H1, cls, d, rfl, J, inB, (toS.trans up3).trans up4, .inr (.inr (by rw [h1]; exact hh4)), na, sameOs, bare, wn rfl⟩
      first
        | exact wpAny_bind (wpAny_pure (wpAny_bind fin))
        | exact wpAny_bind fin
  · cases fl with
    | next =>
      obtain ⟨σ1, H1, J1, q⟩ := good
      exact wpAny_execs_nil ⟨σ1, H1, J1.ofTry oks, q⟩
    | brk =>
      obtain ⟨σ1, H1, J1, q⟩ := good
      exact ⟨σ1, H1, J1.ofTry oks, q⟩
    | cont =>
      obtain ⟨σ1, H1, J1, q⟩ := good
      exact ⟨σ1, H1, J1.ofTry oks, q⟩
    | ret u =>
      obtain ⟨v, σ1, H1, J1, r, q⟩ := good
      exact ⟨v, σ1, H1, J1.ofTry oks, r, q⟩
end
end Ev
end
section
set_option Elab.async false
set_option linter.all false
set_option maxRecDepth 100000
set_option maxHeartbeats 4000000
/-! Ev, part Xf: try: body / except C as n: v = n. -/
namespace Ev
open PySem PySem.Spec PyProof.Rows L2
section
variable {Γ : Gam} {X : Cx} {W : WX} {n : Nat} {b : Bs} {ckS' : Nat → List Str → Scope → List Stmt → List CS → Bool}
/-- the suite v = n -/
theorem suite_ok {x y : Str} {i j : Nat} {p1 p2 p3 : Pos} (bd : Bd Γ n X W) (hy : ckVar X.N X.env.scope y i = true) (hj : X.N[j]? = some x) (hx : locB X.env.scope x = true) (a : Addr) (pn : List (Addr × Obj)) :
    PSs (X.suite a pn) [.Assign [.Name x p1] (.Name y p2) p3] (fun D σ H => ∃ v, σ[i]? = some (some v) ∧ D.nx (σ.set j (some v)) H) :=
  pss_weaken (pss_cons (ps_set (X := X.suite a pn) bd.gd.nd hj (locB_ok hx) (var_ok (X := X.suite a pn) hy) (noComp_sw rfl _ _ _) (.inl (bd.fn x))) pss_nil) fun D σ H ⟨v, e, q⟩ => ⟨v, e, q⟩
theorem at_set (Γ : Gam) {σ : Sl} {i j : Nat} {t : T} {h : Hh} (e : σ[i]? = some (.val t)) : ∀ n, (Γ.at_ n).ss σ [.set (.nm j) (.var i)] h = none ∨ (Γ.at_ n).ss σ [.set (.nm j) (.var i)] h = some (.nx (σ.set j (.val t)), h)
  | 0 => .inl rfl
  | 1 => .inl rfl
  | n + 2 => .inr (by
    show evSs Γ.G (Γ.at_ (n + 1)) Γ.wf σ [.set (.nm j) (.var i)] h = _
    have e1 : (Γ.at_ (n + 1)).e σ (.var i) h = some (.ok t h) := by
      show evE Γ.G (Γ.at_ n) σ (.var i) h = _
      unfold evE
      dsimp only
      rw [e]
    unfold evSs evS
    dsimp only
    rw [e1]
    rfl)
end
end Ev
end
section
set_option Elab.async false
set_option linter.all false
set_option maxRecDepth 100000
set_option maxHeartbeats 4000000
/-! Ev, part Xg: try with one clause. -/
namespace Ev
open PySem PySem.Spec PyProof.Rows L2
section
variable {Γ : Gam} {X : Cx} {W : WX} {n : Nat} {b : Bs} {ckS' : Nat → List Str → Scope → List Stmt → List CS → Bool}
theorem SOk.settle {Z : Addr → Prop} {φ : List Addr} {H : Hp} {d : Addr} {u : HO} (hd : H d = some u) (h1 : ∀ vs, u ≠ .lst vs) (h2 : ∀ c x gs, u ≠ .ins c x gs) {o : Option V} {x : SV} (s : SOk Γ Z φ H o x) : SOk Γ (fun a => Z a ∨ a = d) φ H o x := by
  cases x with
  | no => trivial
  | val t => obtain ⟨v, e, w⟩ := s; exact ⟨v, e, w.monoZ (LeZ.settle d)⟩
  | own l =>
    obtain ⟨p, vs, eo, e, rr, nz, np⟩ := s
    exact ⟨p, vs, eo, e, rr.monoZ (LeZ.settle d), fun z => z.elim nz fun z => by rw [z, hd] at e; exact h1 _ (Option.some.inj e), np⟩
  | clo _ _ => trivial
  | self c fs =>
    obtain ⟨p, dx, gs, eo, e, rr, nz, np⟩ := s
    exact ⟨p, dx, gs, eo, e, rr.monoZ (LeZ.settle d), fun z => z.elim nz fun z => by rw [z, hd] at e; exact h2 _ _ _ (Option.some.inj e), np⟩
theorem At.settle {Z : Addr → Prop} {φ : List Addr} {H : Hp} {h : Hh} {σ : Sl} {σv : L2.St} {d : Addr} {u : HO} (a : At Γ b σ σv Z φ H h) (hd : H d = some u) (h1 : ∀ vs, u ≠ .lst vs) (h2 : ∀ c x gs, u ≠ .ins c x gs) (np : d ∉ φ) (nb : b.H d = none) : At Γ b σ σv (fun a => Z a ∨ a = d) φ H h :=
  ⟨a.r.settle hd np, ⟨a.s.len, fun i x e => by
    obtain ⟨o, e1, k⟩ := a.s.at_ i x e
    exact ⟨o, e1, k.settle hd h1 h2⟩, a.s.sep⟩, a.le.settle nb, a.hf, a.lz.trans (LeZ.settle d)⟩
theorem At.no {Z : Addr → Prop} {φ : List Addr} {H : Hp} {h : Hh} {σ : Sl} {σv : L2.St} (a : At Γ b σ σv Z φ H h) (i : Nat) (o : Option V) : At Γ b (σ.set i .no) (σv.set i o) Z φ H h :=
  ⟨a.r, a.s.no i o, a.le, ⟨fun j x p e hx ep => by
    by_cases hj : i = j
    · subst hj
      have hl : i < σ.length := by
        have := (List.getElem?_eq_some_iff.mp e).1
        simpa using this
      rw [List.getElem?_set_self hl] at e
      cases e
      cases hx
    · rw [List.getElem?_set_ne hj] at e ep
      exact a.hf.h j x p e hx ep, a.hf.c.set i rfl⟩, a.lz⟩
theorem t_try (bd : Bd Γ (n + 1) X W) (oc : OcP Γ n X b) (l : Lvl Γ n) (L : LvS Γ n ckS') {m : Nat} {body : List Stmt} {bcs : List CS} {cx y v : Str} {gI cI i j : Nat} {kI : XcD} {p1 p2 p3 p4 p5 p6 : Pos} (hg : Gl X cx) (hd : (cx == ("__debug__" : Str)) = false) (hm : Γ.mg cx = some (.ref (Γ.cA cI))) (hgI : Γ.G.gl gI = some (.cls cI)) (hk : Γ.G.xc cI = some kI)
    (hck : ckS' m X.N X.env.scope body bcs = true) (hy : ckVar X.N X.env.scope y i = true) (hyl : X.env.kindOf y = some .local) (hj : X.N[j]? = some v) (hv : locB X.env.scope v = true) :
    PS X (.Try body [.ExceptHandler (some (.Name cx p1)) (some y) [.Assign [.Name v p2] (.Name y p3) p4] p5] [] [] p6) (rdS Γ W b fun σ h => evS Γ.G (Γ.at_ n) Γ.wf σ (.try_ bcs [([gI], some i, [.set (.nm j) (.var i)])]) h) := by
  have gd := bd.gd
  have gd' := gd.down (Nat.le_succ n)
  have hi : X.N[i]? = some y := by
    obtain ⟨h, _⟩ := ba2 hy
    exact of_decide_eq_true (ba2 h).1
  refine ps_weaken (ps_try_keep (c := .ref (Γ.cA cI)) (tb := fun W' => rdS Γ W' b fun σ h => (Γ.at_ n).ss σ bcs h) bd.st bd.fr bd.ex gd.nd hi hyl ⟨hg, hd, .inl (by rw [gd.mg]; exact hm)⟩ gd.tk
    (fun W' pn xe tk po => L (X.tr pn xe) W' b ⟨gd'.K, gd'.prog, gd'.w, gd'.mg, gd'.base, gd'.nd, gd'.room, tk, gd'.calm, gd'.lam⟩ bd.st bd.fr bd.fn po bd.ex oc.tr m body bcs hck) (fun a oe cls d pn _ _ => suite_ok bd hy hj hv a ((a, oe) :: pn))) fun D σv H q => ?_
  obtain ⟨Z, φ, h, σ, a, q⟩ := q
  refine ⟨Z, φ, h, σ, a, ?_⟩
  show PostS Γ _ b D ((Γ.at_ n).ss σ bcs h)
  have hx : xcOf Γ.G gI = some cI := by
    unfold xcOf
    rw [hgI]
    dsimp only
    rw [hk]
  have hto : tryOk Γ.G [([gI], some i, [.set (.nm j) (.var i)])] = true := by
    simp [tryOk, hx]
  have q : PostS Γ W b D (if !tryOk Γ.G [([gI], some i, [.set (.nm j) (.var i)])] then none else (match (Γ.at_ n).ss σ bcs h with
    | some (.ex c fs σ', h') => (match Γ.G.xc c with
      | none => none
      | some _ => (match handler Γ.G c [([gI], some i, [.set (.nm j) (.var i)])] with
        | some (o, b') => (match (Γ.at_ n).ss (setOpt o (.val (.exc c fs)) σ') b' h' with
          | some (f, h'') => some (flWipe o f, h'')
          | none => none)
        | none => some (.ex c fs σ', h')))
    | o => o)) := q
  rw [hto, if_neg (by decide)] at q
  have q : PostS Γ W b D (match (Γ.at_ n).ss σ bcs h with
    | some (.ex c fs σ', h') => (match Γ.G.xc c with
      | none => none
      | some _ => (match handler Γ.G c [([gI], some i, [.set (.nm j) (.var i)])] with
        | some (o, b') => (match (Γ.at_ n).ss (setOpt o (.val (.exc c fs)) σ') b' h' with
          | some (f, h'') => some (flWipe o f, h'')
          | none => none)
        | none => some (.ex c fs σ', h')))
    | o => o) := q
  cases e : (Γ.at_ n).ss σ bcs h with
  | none => rw [e] at q; exact q.elim
  | some yy =>
    obtain ⟨fl, h'⟩ := yy
    rw [e] at q
    cases fl with
    | nx σ' => exact q
    | rt t => exact q
    | bk σ' => exact q
    | ct σ' => exact q
    | ex c fs σ' =>
      intro Z1 φ1 H1 σ1 d gs a1 hd1 nz np nb tf
      dsimp only at q
      cases hc : Γ.G.xc c with
      | none => rw [hc] at q; exact q.elim
      | some k =>
        rw [hc] at q
        have F := l.wd.xc c k hc
        refine ⟨Γ.G.isSubX c cI, by rw [gd.K]; exact F.exm cI kI hk, fun yes => ?_, fun no => ?_⟩
        · have hh : handler Γ.G c [([gI], some i, [.set (.nm j) (.var i)])] = some (some i, [.set (.nm j) (.var i)]) := by
            unfold handler
            rw [if_pos (by simp [isH, hx, yes])]
          rw [hh] at q
          dsimp only [setOpt] at q
          by_cases hl : i < σ'.length
          · have hlv : i < σ1.length := by rw [← a1.s.len]; exact hl
            refine ⟨Γ.cA c, d, rfl, rfl, fun a0 na => ⟨.ref a0, List.getElem?_set_self hlv, ?_⟩⟩
            have q : PostS Γ W b D (match (Γ.at_ n).ss (σ'.set i (.val (.exc c fs))) [.set (.nm j) (.var i)] h' with
              | some (f, h'') => some (flWipe (some i) f, h'')
              | none => none) := q
            rcases at_set Γ (σ := σ'.set i (.val (.exc c fs))) (j := j) (t := .exc c fs) (h := h') (List.getElem?_set_self hl) n with e2 | e2
            · rw [e2] at q
              exact q.elim
            · rw [e2] at q
              have A2 := a1.settle hd1 (fun _ z => by cases z) (fun _ _ _ z => by cases z) np nb
              have A3 := A2.later (Le.new (o := XcO (Γ.cA c) d a0) na) (A2.r.new na)
              have tx : TV Γ (fun a => (Z1 a ∨ a = d) ∨ a = a0) φ1 (upd H1 a0 (XcO (Γ.cA c) d a0)) (.ref a0) (.exc c fs) :=
                .exc (.inr rfl) (.inl (.inr rfl)) upd_same (by rw [upd_ne (ne_of_none hd1 na)]; exact hd1) ((tf.monoZ (LeZ.settle d)).mono A2.r (Le.new na))
              have A4 := ((A3.put i tx).put j tx).no i none
              exact q _ _ _ _ A4
          · have e2 : (Γ.at_ n).ss (σ'.set i (.val (.exc c fs))) [.set (.nm j) (.var i)] h' = none := by
              have e0 : (σ'.set i (.val (.exc c fs)))[i]? = none := List.getElem?_eq_none_iff.mpr (by rw [List.length_set]; omega)
              match n with
              | 0 => rfl
              | 1 => rfl
              | n + 2 =>
                show evSs Γ.G (Γ.at_ (n + 1)) Γ.wf (σ'.set i (.val (.exc c fs))) [.set (.nm j) (.var i)] h' = _
                have e1 : (Γ.at_ (n + 1)).e (σ'.set i (.val (.exc c fs))) (.var i) h' = none := by
                  show evE Γ.G (Γ.at_ n) (σ'.set i (.val (.exc c fs))) (.var i) h' = _
                  unfold evE
                  dsimp only
                  rw [e0]
                unfold evSs evS
                dsimp only
                rw [e1]
                rfl
            have q : PostS Γ W b D (match (Γ.at_ n).ss (σ'.set i (.val (.exc c fs))) [.set (.nm j) (.var i)] h' with
              | some (f, h'') => some (flWipe (some i) f, h'')
              | none => none) := q
            rw [e2] at q
            exact q.elim
        · have hh : handler Γ.G c [([gI], some i, [.set (.nm j) (.var i)])] = none := by
            unfold handler
            rw [if_neg (by simp [isH, hx, no])]
            rfl
          rw [hh] at q
          exact q Z1 φ1 H1 σ1 d gs a1 hd1 nz np nb tf
end
end Ev
end
section
set_option Elab.async false
set_option linter.all false
set_option maxRecDepth 100000
set_option maxHeartbeats 2000000
/-! Ev, part Lb: statements that call a closure. -/
namespace Ev
open PySem PySem.Spec PyProof.Rows L2
section
variable {Γ : Gam} {X : Cx} {W : WX} {n m : Nat} {b : Bs} {σv : L2.St} {H : Hp}
/-- an expression as a statement's part -/
def PEs (Γ : Gam) (X : Cx) (W : WX) (b : Bs) (e : Expr) (ev : Sl → Hh → Ro T) : Prop := ∃ te : TE, PE X e te ∧ ∀ (f : Sl → T → Hh → So) (D : Ends) (σv : L2.St) (H : Hp), rdS Γ W b (fun σ h => So.of σ (ev σ h) (f σ)) D σv H →
  te σv H (fun v H1 => ∃ (Z1 : Addr → Prop) (φ1 : List Addr) (h1 : Hh) (σ : Sl) (a : T), At Γ b σ σv Z1 φ1 H1 h1 ∧ TV Γ Z1 φ1 H1 v a ∧ PostS Γ W b D (f σ a h1))
theorem te_mono {te : TE} {e : Expr} {X : Cx} (h : PE X e te) : PE X e (fun σv H Q => ∃ Q' : VK, te σv H Q' ∧ ∀ v H1, Q' v H1 → Q v H1) := ⟨fun pins s σ H Q I ⟨Q', q, k⟩ => wpAny_mono (h.run pins s σ H Q' I q) (fun v s' ⟨x, H', I', r, y⟩ => ⟨x, H', I', r, k _ _ y⟩) fun _ _ y => y⟩
theorem t_expL {e : Expr} {pos : Pos} {ev : Sl → Hh → Ro T} (he : PEs Γ X W b e ev) (hc : noComp e = true) : PS X (.Expr e pos) (rdS Γ W b fun σ h => So.of σ (ev σ h) fun _ h => some (.nx σ, h)) := by
  obtain ⟨te, he, k⟩ := he
  exact ps_weaken (ps_expr (te_mono he) (noComp_sw hc _ _ _)) fun D σv H q => ⟨_, k _ D σv H q, fun v H1 ⟨Z1, φ1, h1, σ, u, a, w, q1⟩ => q1 Z1 φ1 H1 _ a⟩
theorem t_setL (bd : Bd Γ n X W) {tg e : Expr} {t : Tg} {pos : Pos} {ev : Sl → Hh → Ro T} (he : PEs Γ X W b e ev) (htg : ckTg X.N X.env.scope tg t = true) (hc : noComp e = true) (hs : (noTup e || nameE tg) = true) :
    PS X (.Assign [tg] e pos) (rdS Γ W b fun σ h => So.of σ (ev σ h) fun u h => (match setTg t u σ with
      | some σ' => some (.nx σ', h)
      | none => none)) := by
  obtain ⟨te, he, k⟩ := he
  have hg := ck_G bd.gd (fun x hx => ⟨locB_ok hx, .inl (bd.fn x)⟩) htg
  have h1 : (assignEach [tg] X.env).map (·.2) = [assign tg X.env] := by
    cases t with
    | nm i => obtain ⟨x, p, rfl, _, _⟩ := ckTgN_ok htg; rfl
    | tup is => cases tg <;> first | rfl | cases htg
  refine ps_weaken (ps_asg (te_mono he) hg (noComp_sole hc _ _) (no_swap hs _) h1) fun D σv H q => ?_
  refine ⟨_, k _ D σv H q, fun v H1 ⟨Z1, φ1, h1, σ, u, a, w, q1⟩ => ?_⟩
  cases es : setTg t u σ with
  | none => rw [es] at q1; exact q1.elim
  | some σ' =>
    rw [es] at q1
    rw [bd.gd.K]
    exact gOf_run w es fun vs tp => q1 Z1 φ1 H1 _ (a.setTg w es tp)
/-- what a closure's call asks -/
def lcR (Γ : Gam) (W : WX) (b : Bs) (m i : Nat) : TE := fun σv H Q => ∃ (bb : CE) (σb : Sl), b.clo = some (bb, σb) ∧ σv[i]? = some (some (.ref b.x)) ∧ ∃ (Z : Addr → Prop) (φ : List Addr) (h : Hh), Le b.Z b.φ b.H Z φ H ∧ R Γ Z φ H h ∧ Post Γ W σv (TV Γ) Z φ H ((Γ.at_ m).e σb bb h) Q
theorem lc_pe (gd : Gd Γ n X W) (oc : OcP Γ n X b) (hm : m ≤ n) {x : Str} {i : Nat} {p1 p2 : Pos} (hx : ckVar X.N X.env.scope x i = true) : PE X (.Call (.Name x p1) [] [] p2) (lcR Γ W b m i) := by
  obtain ⟨g, h3⟩ := ba2 hx
  obtain ⟨h1, h2⟩ := ba2 g
  obtain ⟨d1, d2, d3⟩ := dbg_ok h3
  refine ⟨fun pins s σv H Q I q => ?_⟩
  obtain ⟨bb, σb, e, q⟩ := q
  exact (oc bb σb e m hm X.pn X.xe W gd.tk (of_decide_eq_true h1) (visB_ok h2) d1 d2).run pins s σv H Q I q
theorem lcl_ev (Γ : Gam) (σ : Sl) (i : Nat) (h : Hh) : (Γ.at_ (m + 1)).e σ (.lcl i) h = (match σ[i]? with
    | some (.clo b σ') => (Γ.at_ m).e σ' b h
    | _ => none) := rfl
theorem lcl_run {σ : Sl} {Z : Addr → Prop} {φ : List Addr} {h : Hh} {D : Ends} {i : Nat} {f : T → Hh → So} (a : At Γ b σ σv Z φ H h) (q : PostS Γ W b D (So.of σ ((Γ.at_ (m + 1)).e σ (.lcl i) h) f)) :
    lcR Γ W b m i σv H (fun v H1 => ∃ (Z1 : Addr → Prop) (φ1 : List Addr) (h1 : Hh) (t : T), At Γ b σ σv Z1 φ1 H1 h1 ∧ Le Z φ H Z1 φ1 H1 ∧ TV Γ Z1 φ1 H1 v t ∧ PostS Γ W b D (f t h1)) := by
  rw [lcl_ev] at q
  cases e : σ[i]? with
  | none => rw [e] at q; exact q.elim
  | some sv =>
    rw [e] at q
    cases sv with
    | clo bb σ' =>
      obtain ⟨e1, e2⟩ := a.hf.c i bb σ' e
      refine ⟨bb, σ', e1, e2, Z, φ, h, a.le, a.r, ?_⟩
      dsimp only at q
      cases ee : (Γ.at_ m).e σ' bb h with
      | none => rw [ee] at q; exact q
      | some y => cases y with
        | ok t h1 => rw [ee] at q; exact fun Z1 φ1 H1 v le r w => ⟨Z1, φ1, h1, t, a.later le r, le, w, q⟩
        | ex c fs h1 => rw [ee] at q; exact fun Z1 φ1 H1 d gs le r hd nz np nh tf => q Z1 φ1 H1 σv d gs (a.later le r) hd nz np (a.le.fresh nh (le.notin np)) tf
    | _ => exact q.elim
theorem lc1 (gd : Gd Γ (n + 1) X W) (oc : OcP Γ (n + 1) X b) {x : Str} {i : Nat} {p1 p2 : Pos} (hx : ckVar X.N X.env.scope x i = true) : PEs Γ X W b (.Call (.Name x p1) [] [] p2) (fun σ h => (Γ.at_ n).e σ (.lcl i) h) := by
  cases n with
  | zero => exact ⟨fun _ _ _ => False, ⟨fun pins s σ H Q I q => q.elim⟩, fun f D σv H q => by
      obtain ⟨Z, φ, h, σ, a, q⟩ := q
      exact q⟩
  | succ m =>
    refine ⟨lcR Γ W b m i, lc_pe gd oc (by omega) hx, fun f D σv H q => ?_⟩
    obtain ⟨Z, φ, h, σ, a, q⟩ := q
    obtain ⟨bb, σb, e, es, Z0, φ0, h0, l0, r0, p0⟩ := lcl_run (f := f σ) a q
    exact ⟨bb, σb, e, es, Z0, φ0, h0, l0, r0, p0.mono fun v H1 ⟨Z1, φ1, h1, t, a1, _, w, q1⟩ => ⟨Z1, φ1, h1, σ, t, a1, w, q1⟩⟩
/-- [a()] -/
theorem lc2 (gd : Gd Γ (n + 1) X W) (oc : OcP Γ (n + 1) X b) {x : Str} {i : Nat} {p1 p2 p3 : Pos} (hx : ckVar X.N X.env.scope x i = true) : PEs Γ X W b (.List [.Call (.Name x p1) [] [] p2] p3) (fun σ h => (Γ.at_ n).e σ (.lst [.lcl i]) h) := by
  have never : (∀ σ h, (Γ.at_ n).e σ (.lst [.lcl i]) h = none) → PEs Γ X W b (.List [.Call (.Name x p1) [] [] p2] p3) (fun σ h => (Γ.at_ n).e σ (.lst [.lcl i]) h) := fun k => ⟨fun _ _ _ => False, ⟨fun pins s σ H Q I q => q.elim⟩, fun f D σv H q => by
      obtain ⟨Z, φ, h, σ, a, q⟩ := q
      dsimp only at q
      rw [k] at q
      exact q⟩
  match n, gd, oc, never with
  | 0, _, _, never => exact never fun σ h => rfl
  | 1, _, _, never => exact never fun σ h => rfl
  | m + 2, gd, oc, _ =>
    have ev : ∀ σ h, (Γ.at_ (m + 2)).e σ (.lst [.lcl i]) h = Ro.bd ((Γ.at_ (m + 1)).e σ (.lcl i) h) fun t h => some (.ok (.lst [t]) h) := fun σ h => by
      show Ro.bd (Ro.bd (evArgs (Γ.at_ (m + 1)) σ [.lcl i] h) fun ts h => if ts.length ≤ big then some (.ok ts h) else none) (fun l h => some (.ok (T.lst l) h)) = _
      have e1 : evArgs (Γ.at_ (m + 1)) σ [.lcl i] h = Ro.bd ((Γ.at_ (m + 1)).e σ (.lcl i) h) fun t h => some (.ok [t] h) := rfl
      rw [e1]
      cases (Γ.at_ (m + 1)).e σ (.lcl i) h with
      | none => rfl
      | some y => cases y <;> rfl
    refine ⟨tLst (tCons (lcR Γ W b m i) tNil), pe_lst (pa_cons (lc_pe gd oc (by omega) hx) pa_nil), fun f D σv H q => ?_⟩
    obtain ⟨Z, φ, h, σ, a, q⟩ := q
    dsimp only at q
    rw [ev, So.of_bd] at q
    obtain ⟨bb, σb, e, es, Z0, φ0, h0, l0, r0, p0⟩ := lcl_run (f := fun t h => f σ (.lst [t]) h) a q
    refine ⟨bb, σb, e, es, Z0, φ0, h0, l0, r0, p0.mono fun v H1 ⟨Z1, φ1, h1, t, a1, le1, w, q1⟩ => ⟨by simp; decide, fun p hp => ?_⟩⟩
    exact ⟨_, φ1, h1, σ, .lst [t], a1.later (Le.new (o := .lst [v]) hp) (a1.r.new hp), TV.newLst a1.r hp (.cons w .nil), q1⟩
/-- is it a closure's call? -/
def ckLc (N : List Str) (sc : Scope) (e : Expr) (c : CE) : Bool := match c with
  | .lcl i => (match e with
    | .Call (.Name x _) [] [] _ => ckVar N sc x i
    | _ => false)
  | .lst [.lcl i] => (match e with
    | .List [.Call (.Name x _) [] [] _] _ => ckVar N sc x i
    | _ => false)
  | _ => false
theorem ckLc_ok (gd : Gd Γ (n + 1) X W) (oc : OcP Γ (n + 1) X b) {e : Expr} {c : CE} (h : ckLc X.N X.env.scope e c = true) : PEs Γ X W b e (fun σ h => (Γ.at_ n).e σ c h) ∧ noComp e = true ∧ noTup e = true := by
  unfold ckLc at h
  split at h
  · split at h
    · exact ⟨lc1 gd oc h, rfl, rfl⟩
    · cases h
  · split at h
    · exact ⟨lc2 gd oc h, rfl, rfl⟩
    · cases h
  · cases h
end
end Ev
end
section
set_option Elab.async false
set_option linter.all false
set_option maxRecDepth 100000
set_option maxHeartbeats 2000000
/-! Ev, part SK: are statements the text of ours? every statement at the next level. -/
namespace Ev
open PySem PySem.Spec PyProof.Rows L2

/-- try with one clause -/
def ckTry (M : Nms) (N : List Str) (sc : Scope) (sub : List Stmt → List CS → Bool) (s : Stmt) (bcs : List CS) (hs : List (List Nat × Option Nat × List CS)) : Bool := match hs with
  | [([g], some i, [.set (.nm j) (.var i')])] => (match s with
    | .Try body [.ExceptHandler (some (.Name cx _)) (some y) [.Assign [.Name v _] (.Name y' _) _] _] [] [] _ => decide (y = y') && decide (i = i') && decide (cx = M.gn g) && glB sc cx && dbgB cx && sub body bcs && ckVar N sc y i && lclB sc y && decide (N[j]? = some v) && locB sc v
    | _ => false)
  | _ => false
/-- a statement -/
def ckS (M : Nms) (N : List Str) (k : Nat) (sc : Scope) (sub : List Stmt → List CS → Bool) (s : Stmt) (c : CS) : Bool := match c with
  | .set tg c => (match s with
    | .Assign [t] e _ => ckTg N sc t tg && ((ck M N k false sc e c && noComp e && (noTup e || nameE t)) || ckLc N sc e c)
    | _ => false)
  | .setL i c => (match s with
    | .Assign [.Name x _] e _ => decide (N[i]? = some x) && locB sc x && (sc.kind == .function) && ck M N k false sc e c
    | _ => false)
  | .own i c => (match s with
    | .Assign [.Name x _] e _ => decide (N[i]? = some x) && locB sc x && (sc.kind == .function) && ck M N k false sc e c
    | _ => false)
  | .box i c => (match s with
    | .Assign [.Name x _] e _ => decide (N[i]? = some x) && locB sc x && (sc.kind == .function) && ck M N k false sc e c
    | _ => false)
  | .par is cs => (match s with
    | .Assign [.Tuple ts _ _] (.Tuple es _ _) _ => all2 (ck M N k false sc) es cs && es.all notStar && decide (is.length = cs.length) && decide (es.length ≤ 100) && parB sc N ts es (is.map (·.1))
    | _ => false)
  | .fld i f c => (match s with
    | .Assign [.Attribute (.Name x _) g _] e _ => decide (g = M.nm f) && ckVar N sc x i && ck M N k false sc e c && noComp e
    | _ => false)
  | .flds fl cs => (match s with
    | .Assign [.Tuple ts _ _] (.Tuple es _ _) _ => (match fl with
      | (i, _) :: fl' => all2 (argB (ck M N k false sc)) es cs && all2 (fldTg M.nm N sc) ts fl && fl.all (fun p => p.1 == i) && (sc.kind == .function) && decide (swapR sc ts es = some none) && decide (fl'.length ≤ 20)
      | [] => false)
    | _ => false)
  | .item a y c => (match s with
    | .Assign [.Subscript o i _] e _ => ck M N k false sc o a && ck M N k false sc i y && noSlice i && ck M N k false sc e c && noComp e
    | _ => false)
  | .itemB a y c => (match s with
    | .Assign [.Subscript o i _] e _ => ck M N k false sc o a && ck M N k false sc i y && noSlice i && ck M N k false sc e c
    | _ => false)
  | .aug i o c => (match s with
    | .AugAssign (.Name x _) .Add e _ => decide (o = .add) && decide (N[i]? = some x) && locB sc x && ck M N k false sc e c
    | _ => false)
  | .app i c => (match s with
    | .Expr (.Call (.Attribute (.Name x _) g ap) [e] [] cp) _ => decide (g = M.nm nAppend) && ckVar N sc x i && notStar e && (ap.endLine == cp.line) && ck M N k false sc e c
    | _ => false)
  | .ext i c => (match s with
    | .Expr (.Call (.Attribute (.Name x _) g ap) [e] [] cp) _ => decide (g = M.nm nExtend) && ckVar N sc x i && notStar e && (ap.endLine == cp.line) && ck M N k false sc e c
    | _ => false)
  | .oset i y c => (match s with
    | .Assign [.Subscript (.Name x _) q _] e _ => ckVar N sc x i && ck M N k false sc q y && noSlice q && ck M N k false sc e c && noComp e
    | _ => false)
  | .frz _ => false
  | .exp c => (match s with
    | .Expr e _ => (noComp e && ck M N k false sc e c) || ckLc N sc e c
    | _ => false)
  | .ret c => (match s with
    | .Return (some e) _ => ck M N k false sc e c
    | _ => false)
  | .ife c a b => (match s with
    | .If t p q _ => ck M N k true sc t c && sub p a && sub q b
    | _ => false)
  | .for_ tg it b => (match s with
    | .For t i body [] _ => ckIt M N k sc (isTupE t) i it && ckTg N sc t tg && sub body b
    | _ => false)
  | .while_ c b => (match s with
    | .While t body [] _ => ck M N k true sc t c && sub body b
    | _ => false)
  | .pass => (match s with
    | .Pass _ => true
    | _ => false)
  | .brk => (match s with
    | .Break _ => true
    | _ => false)
  | .cont => (match s with
    | .Continue _ => true
    | _ => false)
  | .raise_ (.glob g) cs => (match s with
    | .Raise (some (.Call (.Name x _) (e :: es) [] _)) none _ => decide (x = M.gn g) && glB sc x && dbgB x && all2 (argB (ck M N k false sc)) (e :: es) cs && (e :: es).all notStar && cs.all plainC
    | _ => false)
  | .raise_ _ _ => false
  | .try_ bcs hs => ckTry M N sc sub s bcs hs
  | .nev => true
def ckSs (M : Nms) : Nat → List Str → Scope → List Stmt → List CS → Bool
  | 0, _, _, _, _ => false
  | k + 1, N, sc, ss, cs => match cs with
    | [] => ss.isEmpty
    | .frz _ :: cs => ckSs M k N sc ss cs
    | c :: cs => match ss with
      | [] => false
      | s :: ss => ckS M N k sc (ckSs M k N sc) s c && (match c with
        | .nev => true
        | _ => ckSs M k N sc ss cs)

section
variable {Γ : Gam} {X : Cx} {W : WX} {n m : Nat} {b : Bs}
theorem ck_Name {N : List Str} {sc : Scope} {x : Str} {i : Nat} {r : Bool} (h : (decide (N[i]? = some x) && locB sc x && (sc.kind == .function) && r) = true) : N[i]? = some x ∧ locB sc x = true ∧ sc.kind = .function ∧ r = true := by
  obtain ⟨h, h4⟩ := ba2 h
  obtain ⟨h, h3⟩ := ba2 h
  obtain ⟨h1, h2⟩ := ba2 h
  exact ⟨of_decide_eq_true h1, h2, eq_of_beq h3, h4⟩
theorem ps_none {s : Stmt} {ev : Sl → Hh → So} (z : ∀ σ h, ev σ h = none) : PS X s (rdS Γ W b ev) := ps_weaken (t_never (Γ := Γ) (W := W) (b := b)) fun D σv H q => by
  obtain ⟨Z, φ, hh, σ, a, q⟩ := q
  rw [z] at q
  exact q.elim
/-- every statement -/
theorem ckS_ok (l : Lvl Γ n) {ckS' : Nat → List Str → Scope → List Stmt → List CS → Bool} (ls : LvS Γ n ckS') (bd : Bd Γ (n + 1) X W) (oc : OcP Γ (n + 1) X b) {k kk : Nat} {sub : List Stmt → List CS → Bool} (hsub : ∀ b' : Bs, b'.same b → ∀ ss cs, sub ss cs = true → PSs X ss (rdS Γ W b' fun σ h => (Γ.at_ n).ss σ cs h)) (hsub' : ∀ ss cs, sub ss cs = true → ckS' kk X.N X.env.scope ss cs = true) {s : Stmt} {c : CS} (h : ckS Γ.nms X.N k X.env.scope sub s c = true) :
    PS X s (rdS Γ W b fun σ h => evS Γ.G (Γ.at_ n) Γ.wf σ c h) := by
  have gd := bd.gd
  have gd' := gd.down (Nat.le_succ n)
  have E : ∀ {e : Expr} {c : CE}, ck Γ.nms X.N k false X.env.scope e c = true → PE X e (rdE Γ W fun σ h => (Γ.at_ n).e σ c h) := fun h => l.e X W gd' k _ _ h
  cases c with
  | set tg c =>
    cases s with
    | Assign ts e pos =>
      match ts, h with
      | [t], h =>
        obtain ⟨h1, h⟩ := ba2 (show (ckTg X.N X.env.scope t tg && ((ck Γ.nms X.N k false X.env.scope e c && noComp e && (noTup e || nameE t)) || ckLc X.N X.env.scope e c)) = true from h)
        rcases Bool.or_eq_true_iff.mp h with h | h
        · obtain ⟨h, h4⟩ := ba2 h
          obtain ⟨h2, h3⟩ := ba2 h
          exact t_set (c := c) bd (E h2) h1 h3 h4
        · obtain ⟨g1, g2, g3⟩ := ckLc_ok gd oc h
          exact t_setL bd g1 h1 g2 (by rw [g3]; rfl)
      | [], h => cases h
      | _ :: _ :: _, h => cases h
    | _ => cases h
  | setL i c =>
    unfold ckS at h
    dsimp only at h
    split at h
    · obtain ⟨h1, h2, h3, h4⟩ := ck_Name h
      exact t_setS (asgL bd l h4 h1 h2 h3)
    · cases h
  | own i c =>
    unfold ckS at h
    dsimp only at h
    split at h
    · obtain ⟨h1, h2, h3, h4⟩ := ck_Name h
      exact t_ownS (asgL bd l h4 h1 h2 h3)
    · cases h
  | box i c =>
    unfold ckS at h
    dsimp only at h
    split at h
    · obtain ⟨h1, h2, h3, h4⟩ := ck_Name h
      exact t_boxS (asgL bd l h4 h1 h2 h3)
    · cases h
  | par is cs =>
    unfold ckS at h
    dsimp only at h
    split at h
    · obtain ⟨h, h5⟩ := ba2 h
      obtain ⟨h, h4⟩ := ba2 h
      obtain ⟨h, h3⟩ := ba2 h
      obtain ⟨h1, h2⟩ := ba2 h
      exact t_par bd l h1 h2 (of_decide_eq_true h3) (Nat.le_trans (of_decide_eq_true h4) (by decide)) h5
    · cases h
  | fld i f c =>
    unfold ckS at h
    dsimp only at h
    split at h
    · obtain ⟨h, h4⟩ := ba2 h
      obtain ⟨h, h3⟩ := ba2 h
      obtain ⟨h1, h2⟩ := ba2 h
      have h1 := of_decide_eq_true h1
      subst h1
      exact t_fld bd l.wd (E h3) h2 h4
    · cases h
  | flds fl cs =>
    unfold ckS at h
    dsimp only at h
    split at h
    · split at h
      · obtain ⟨h, h6⟩ := ba2 h
        obtain ⟨h, h5⟩ := ba2 h
        obtain ⟨h, h4⟩ := ba2 h
        obtain ⟨h, h3⟩ := ba2 h
        obtain ⟨h1, h2⟩ := ba2 h
        exact t_flds bd l h1 h2 (fun p hp => eq_of_beq (List.all_eq_true.mp h3 p hp)) (eq_of_beq h4) (of_decide_eq_true h5) (of_decide_eq_true h6)
      · cases h
    · cases h
  | item a y c =>
    unfold ckS at h
    dsimp only at h
    split at h
    · obtain ⟨h, h5⟩ := ba2 h
      obtain ⟨h, h4⟩ := ba2 h
      obtain ⟨h, h3⟩ := ba2 h
      obtain ⟨h1, h2⟩ := ba2 h
      exact t_item bd (E h4) (E h1) (E h2) h5 h3
    · cases h
  | itemB a y c =>
    unfold ckS at h
    dsimp only at h
    split at h
    · obtain ⟨h, h4⟩ := ba2 h
      obtain ⟨h, h3⟩ := ba2 h
      obtain ⟨h1, h2⟩ := ba2 h
      exact t_itemB bd (ck_L l gd h4) (E h1) (E h2) h3
    · cases h
  | aug i o c =>
    unfold ckS at h
    dsimp only at h
    split at h
    · obtain ⟨h, h4⟩ := ba2 h
      obtain ⟨h, h3⟩ := ba2 h
      obtain ⟨h1, h2⟩ := ba2 h
      have h1 := of_decide_eq_true h1
      subst h1
      exact t_aug bd (E h4) (of_decide_eq_true h2) h3
    · cases h
  | app i c =>
    unfold ckS at h
    dsimp only at h
    split at h
    · obtain ⟨h, h5⟩ := ba2 h
      obtain ⟨h, h4⟩ := ba2 h
      obtain ⟨h, h3⟩ := ba2 h
      obtain ⟨h1, h2⟩ := ba2 h
      have h1 := of_decide_eq_true h1
      subst h1
      exact t_app bd l.wd (E h5) h2 h3 h4
    · cases h
  | ext i c =>
    unfold ckS at h
    dsimp only at h
    split at h
    · obtain ⟨h, h5⟩ := ba2 h
      obtain ⟨h, h4⟩ := ba2 h
      obtain ⟨h, h3⟩ := ba2 h
      obtain ⟨h1, h2⟩ := ba2 h
      have h1 := of_decide_eq_true h1
      subst h1
      exact t_ext bd l.wd (ck_V gd' l.e h5) h2 h3 h4 l.wd.b12
    · cases h
  | oset i y c =>
    unfold ckS at h
    dsimp only at h
    split at h
    · obtain ⟨h, h5⟩ := ba2 h
      obtain ⟨h, h4⟩ := ba2 h
      obtain ⟨h, h3⟩ := ba2 h
      obtain ⟨h1, h2⟩ := ba2 h
      exact t_oset bd (E h4) (E h2) h1 h5 h3
    · cases h
  | frz i => cases h
  | exp c =>
    cases s with
    | Expr e pos =>
      rcases Bool.or_eq_true_iff.mp (show ((noComp e && ck Γ.nms X.N k false X.env.scope e c) || ckLc X.N X.env.scope e c) = true from h) with h | h
      · obtain ⟨h1, h2⟩ := ba2 h
        exact t_exp (E h2) h1
      · obtain ⟨g1, g2, g3⟩ := ckLc_ok gd oc h
        exact t_expL g1 g2
    | _ => cases h
  | ret c =>
    cases s with
    | Return e pos =>
      cases e with
      | some e => exact t_ret (E h)
      | none => cases h
    | _ => cases h
  | ife c p q =>
    cases s with
    | If t p' q' pos =>
      obtain ⟨h, h3⟩ := ba2 (show (ck Γ.nms X.N k true X.env.scope t c && sub p' p && sub q' q) = true from h)
      obtain ⟨h1, h2⟩ := ba2 h
      exact t_if (ck_T l.wd l.fa l.e gd h1) (hsub b b.same_refl _ _ h2) (hsub b b.same_refl _ _ h3)
    | _ => cases h
  | for_ tg it b' =>
    cases s with
    | For t i body els pos =>
      cases els with
      | cons => cases h
      | nil =>
        obtain ⟨h, h3⟩ := ba2 (show (ckIt Γ.nms X.N k X.env.scope (isTupE t) i it && ckTg X.N X.env.scope t tg && sub body b') = true from h)
        obtain ⟨h1, h2⟩ := ba2 h
        obtain ⟨g1, g2⟩ := ck_I gd' l.wd l.e false (tg := t) h1
        exact t_for bd g1 g2 h2 fun b' hs => hsub b' hs _ _ h3
    | _ => cases h
  | while_ c b' =>
    cases s with
    | While t body els pos =>
      cases els with
      | cons => cases h
      | nil =>
        obtain ⟨h1, h2⟩ := ba2 (show (ck Γ.nms X.N k true X.env.scope t c && sub body b') = true from h)
        exact t_while bd (ck_T l.wd l.fa l.e gd h1) fun b' hs => hsub b' hs _ _ h2
    | _ => cases h
  | pass =>
    cases s with
    | Pass pos => exact t_pass
    | _ => cases h
  | brk =>
    cases s with
    | Break pos => exact t_brk
    | _ => cases h
  | cont =>
    cases s with
    | Continue pos => exact t_cont
    | _ => cases h
  | raise_ c cs =>
    cases c with
    | glob g =>
      unfold ckS at h
      dsimp only at h
      split at h
      · rename_i x _ e es _ _
        obtain ⟨h, h6⟩ := ba2 h
        obtain ⟨h, h5⟩ := ba2 h
        obtain ⟨h, h4⟩ := ba2 h
        obtain ⟨h, h3⟩ := ba2 h
        obtain ⟨h1, h2⟩ := ba2 h
        have h1 := of_decide_eq_true h1
        subst h1
        cases hG : Γ.G.gl g with
        | none => exact ps_none fun σ h => by unfold evS; dsimp only; rw [hG]
        | some G => cases G with
          | cls c =>
            cases hc : Γ.G.xc c with
            | none => exact ps_none fun σ h => by unfold evS; dsimp only; rw [hG]; dsimp only; rw [hc]
            | some kx =>
              by_cases hz : (decide (cs.length = kx.exf.length) && !kx.exf.isEmpty) = true
              · obtain ⟨z1, z2⟩ := ba2 hz
                have G := l.gl g (.cls c) hG
                exact t_raise bd l (by exact G.1) h2 h3 hG hc h4 h5 h6 (of_decide_eq_true z1) (fun z => by rw [z] at z2; cases z2)
              · exact ps_none fun σ h => by unfold evS; dsimp only; rw [hG]; dsimp only; rw [hc]; exact if_neg hz
          | _ => exact ps_none fun σ h => by unfold evS; dsimp only; rw [hG]
      · cases h
    | _ => cases h
  | try_ bcs hs =>
    have h : ckTry Γ.nms X.N X.env.scope sub s bcs hs = true := h
    unfold ckTry at h
    split at h
    case h_2 => cases h
    rename_i g i j i2 _
    split at h
    · obtain ⟨h, h10⟩ := ba2 h
      obtain ⟨h, h9⟩ := ba2 h
      obtain ⟨h, h8⟩ := ba2 h
      obtain ⟨h, h7⟩ := ba2 h
      obtain ⟨h, h6⟩ := ba2 h
      obtain ⟨h, h5⟩ := ba2 h
      obtain ⟨h, h4⟩ := ba2 h
      obtain ⟨h, h3⟩ := ba2 h
      obtain ⟨h1, h2⟩ := ba2 h
      have h1 := of_decide_eq_true h1
      have h2 := of_decide_eq_true h2
      have h3 := of_decide_eq_true h3
      subst h1 h2 h3
      have none_of : xcOf Γ.G g = none → ∀ σ h, evS Γ.G (Γ.at_ n) Γ.wf σ (.try_ bcs [([g], some i, [.set (.nm j) (.var i)])]) h = none := fun z σ h => by
        have : tryOk Γ.G [([g], some i, [CS.set (.nm j) (.var i)])] = false := by simp [tryOk, z]
        unfold evS
        dsimp only
        rw [this]
        rfl
      cases hG : Γ.G.gl g with
      | none => exact ps_none (none_of (by unfold xcOf; rw [hG]))
      | some G => cases G with
        | cls c =>
          cases hc : Γ.G.xc c with
          | none => exact ps_none (none_of (by unfold xcOf; rw [hG]; dsimp only; rw [hc]))
          | some kx =>
            have G := l.gl g (.cls c) hG
            exact t_try bd (oc.down (Nat.le_succ n)) l ls (glB_ok h4) (dbg_ok h5).1 G.1 hG hc (hsub' _ _ h6) h7 (lclB_ok h8) (of_decide_eq_true h9) h10
        | _ => exact ps_none (none_of (by unfold xcOf; rw [hG]))
    · cases h
  | nev => exact t_never
theorem pss_none {ss : List Stmt} {ev : Sl → Hh → So} (h : ∀ σ h, ev σ h = none) : PSs X ss (rdS Γ W b ev) := pss_weaken pss_never fun D σv H q => by
  obtain ⟨Z, φ, hh, σ, a, q⟩ := q
  rw [h] at q
  exact q
theorem LvS_succ (l : Lvl Γ n) (ls : LvS Γ n (ckSs Γ.nms)) : LvS Γ (n + 1) (ckSs Γ.nms) := by
  intro X W b gd hst hfr hfn hpo hex hoc m
  have bd : Bd Γ (n + 1) X W := ⟨gd, hfn, hpo, hst, hfr, hex⟩
  have gd' := gd.down (Nat.le_succ n)
  have IH : ∀ (m : Nat) (b' : Bs), b'.same b → ∀ (ss : List Stmt) (cs : List CS), ckSs Γ.nms m X.N X.env.scope ss cs = true → PSs X ss (rdS Γ W b' fun σ h => (Γ.at_ n).ss σ cs h) := fun m b' hs ss cs h => ls X W b' gd' hst hfr hfn hpo hex ((hoc.same hs).down (Nat.le_succ n)) m ss cs h
  show ∀ (ss : List Stmt) (cs : List CS), ckSs Γ.nms m X.N X.env.scope ss cs = true → PSs X ss (rdS Γ W b fun σ h => evSs Γ.G (Γ.at_ n) Γ.wf σ cs h)
  induction m with
  | zero =>
    intro ss cs h
    cases h
  | succ m tail =>
    intro ss cs h
    cases cs with
    | nil =>
      cases ss with
      | nil =>
        refine pss_weaken pss_nil fun D σv H q => ?_
        obtain ⟨Z, φ, hh, σ, a, q⟩ := q
        exact q Z φ H _ a
      | cons => cases h
    | cons c cs =>
      have gen : ∀ (s : Stmt) (ss : List Stmt), ckS Γ.nms X.N m X.env.scope (ckSs Γ.nms m X.N X.env.scope) s c = true → ckSs Γ.nms m X.N X.env.scope ss cs = true → PSs X (s :: ss) (rdS Γ W b fun σ h => evSs Γ.G (Γ.at_ n) Γ.wf σ (c :: cs) h) := fun s ss h1 h2 => by
        refine pss_weaken (t_seq (ckS_ok l (kk := m) ls bd hoc (fun b' hs ss cs h => IH m b' hs ss cs h) (fun ss cs h => h) h1) (tail ss cs h2)) fun D σv H q => ?_
        obtain ⟨Z, φ, hh, σ, a, q⟩ := q
        exact ⟨Z, φ, hh, σ, a, q⟩
      by_cases hf : ∃ i, c = .frz i
      · obtain ⟨i, rfl⟩ := hf
        have h : ckSs Γ.nms m X.N X.env.scope ss cs = true := h
        refine pss_weaken (t_frz (i := i) (tail ss cs h)) fun D σv H q => ?_
        obtain ⟨Z, φ, hh, σ, a, q⟩ := q
        refine ⟨Z, φ, hh, σ, a, ?_⟩
        have q : PostS Γ W b D (match (match σ[i]? with
            | some (.own l) => (some (.nx (σ.set i (.val (.lst l))), hh) : So)
            | some (.val _) => some (.nx σ, hh)
            | _ => none) with
          | some (.nx σ', h') => evSs Γ.G (Γ.at_ n) Γ.wf σ' cs h'
          | o => o) := q
        cases ei : σ[i]? with
        | none => rw [ei] at q; exact q.elim
        | some sv =>
          rw [ei] at q
          cases sv with
          | own l =>
            dsimp only
            rw [ei]
            exact q
          | val t =>
            dsimp only
            rw [ei]
            exact q
          | _ => exact q.elim
      · by_cases hn : c = .nev
        · subst hn
          refine pss_none fun σ h => rfl
        · cases ss with
          | nil =>
            exfalso
            cases c <;> first | (cases h; done) | exact hf ⟨_, rfl⟩
          | cons s ss =>
            have h' : (ckS Γ.nms X.N m X.env.scope (ckSs Γ.nms m X.N X.env.scope) s c && ckSs Γ.nms m X.N X.env.scope ss cs) = true := by
              cases c <;> first | exact h | (exact absurd rfl hn) | exact absurd ⟨_, rfl⟩ hf
            obtain ⟨h1, h2⟩ := ba2 h'
            exact gen s ss h1 h2
end
end Ev
end
section
set_option Elab.async false
set_option linter.all false
set_option maxRecDepth 100000
set_option maxHeartbeats 1000000
/-! Ev, part Ha: all levels; the law's end; a program's facts as tests of what its top leaves. -/
namespace Ev
open PySem PySem.Spec PyProof.Rows L2

theorem lvl_all {Γ : Gam} (wd : WdF Γ) (gl : GlF Γ) (bo : ∀ g b, Γ.G.gl g = some (.bi b) → biOk b = true) (ff : ∀ f d, Γ.G.fn f = some d → FnF Γ (ckSs Γ.nms) f d) : ∀ n, ∀ m, m ≤ n → Lvl Γ m ∧ LvS Γ m (ckSs Γ.nms)
  | 0 => fun m hm => by
    obtain rfl : m = 0 := by omega
    exact ⟨⟨wd, gl, fun f d hf A outer s H us kws vs Z φ h ts ks bs Q E _ _ _ _ _ _ _ p => p.elim, fun f d hf A outer s H c x dx us kws vs Z φ h ts ks bs Q E _ _ _ _ _ _ _ _ _ _ p => p.elim, fun X W gd m e c _ => pe_never fun _ _ => rfl⟩,
      fun X W b gd _ _ _ _ _ _ m ss cs _ => pss_none fun _ _ => rfl⟩
  | n + 1 => fun m hm => by
    have ih := lvl_all wd gl bo ff n
    by_cases e : m = n + 1
    · subst e
      obtain ⟨l, ls⟩ := ih n (Nat.le_refl n)
      have hl : LamOk Γ n := lam_ok wd gl ff (fun m hm => (ih m hm).1.e) (fun m hm => (ih m hm).2)
      exact ⟨⟨wd, gl, fun f d hf => fnG_of hf (ff f d hf) ls, fun f d hf => fnI_of hf (ff f d hf) ls, LvE_succ l hl bo⟩, LvS_succ l ls⟩
    · exact ih m (by omega)

/-- the law's promise: what the evaluator gives -/
def spLaw (Γ : Gam) (n : Nat) (N : List Str) (d : FnD) : Sp := fun vs H Q E => vs.length = 1 ∧ ∃ b, b.clo = none ∧ rdS Γ (WofE E) b (fun σ h => (Γ.at_ n).ss σ d.body h) { nx := fun _ H' => Q .non H', rt := Q } (L2.start N vs) H
theorem law_fn {Γ : Gam} {n m : Nat} (L : LvS Γ n (ckSs Γ.nms)) {f : Nat} {d : FnD} {x qual px : Str} {params : Arguments} {body : List Stmt} {scope : Scope} {fd : FuncData} {N : List Str}
    {dvs : List V} {kws : List (Str × V)} (F : FunD Γ.K x qual params body scope dvs kws (Γ.fA f) fd) (hlm : ∀ (t : Nat) (ti : TabI), Γ.tb[t]? = some ti → lamNm t ∈ N → fd.code = .ref ti.code ∧ (qual ++ ".<locals>.") ++ "<lambda>" = ti.q) (S : FnScope N [px] scope) (hck : ckSs Γ.nms m N scope body d.body = true) : FnOk Γ.prog Γ.w Γ.K Γ.mg Γ.base (L2.CX Γ.prog Γ.w) (n + 1) (Γ.fA f) fd [px] (spLaw Γ n N d) := by
  obtain ⟨oc, od, dV, kV, doc, pm, an, cdv, ct, osl, rfl, lk, hcd, _, _⟩ := F.ex
  exact fn_of lk hcd S (fun vs H Q E h => h.1) fun A outer s H vs Q E hr h => by
    obtain ⟨_, b, hb, q⟩ := h
    exact ⟨_, pss_body L S hr hlm b hb hck, q⟩
theorem tvs_int {Γ : Gam} {Z : Addr → Prop} {φ : List Addr} {H : Hp} : ∀ (ns : List Int), TVs Γ Z φ H (ns.map V.int) (ns.map T.int)
  | [] => .nil
  | n :: ns => .cons (.int n) (tvs_int ns)
/-- the tables at the law's start -/
theorem tab_start {Γ : Gam} {Z : Addr → Prop} {H : Hp} (hT : ∀ ti ∈ Γ.tb, H ti.tbl = some (.tbl #[])) (nd : (Γ.tb.map (·.tbl)).Nodup) (hz : ∀ a, Z a → a ∉ Γ.tb.map (·.tbl) ∧ ∃ o, H a = some o) : R Γ Z (Γ.tb.map (·.tbl)) H ((List.range Γ.tb.length).map MO.tab) := by
  refine ⟨nd, by simp, hz, fun n m a e1 e2 => ?_⟩
  rw [List.getElem?_map] at e1 e2
  cases hn : Γ.tb[n]? with
  | none => rw [hn] at e2; cases e2
  | some ti =>
    rw [hn] at e2
    cases e2
    have hl : n < Γ.tb.length := (List.getElem?_eq_some_iff.mp hn).1
    rw [List.getElem?_range hl] at e1
    cases e1
    refine .tab hn rfl ⟨#[], hT ti (List.mem_of_getElem? hn), True.intro, fun pos cv hc => ?_⟩
    have z : codeAmong pos [] = some cv := hc
    simp [codeAmong] at z
theorem law_sp {Γ : Gam} {n : Nat} {N : List Str} {d : FnD} {H : Hp} {a : Addr} {ns : List Int} (hN : N.length = d.n) (hK : ∀ b o, Γ.K.lookup b = some o → o.cls ≠ .type "list") (hS : SqL Γ.K H a (ns.map V.int))
    (hT : ∀ ti ∈ Γ.tb, H ti.tbl = some (.tbl #[])) (nd : (Γ.tb.map (·.tbl)).Nodup)
    (run : ∃ h', (Γ.at_ n).ss (startS d.n [.frl (ns.map T.int)]) d.body ((List.range Γ.tb.length).map MO.tab) = some (.rt (.bl true), h')) : spLaw Γ n N d [.ref a] H (fun v _ => v = .bl true) fun _ _ _ => False := by
  have hr : Rd H a (.lst (ns.map V.int)) := by
    rcases hS with h | ⟨o, _, _, e1, e2, _⟩
    · exact h
    · exact absurd e2 (hK a o e1)
  have ex : ∃ o, H a = some o := by
    rcases hr with h | ⟨o, h⟩
    · exact ⟨_, h⟩
    · exact ⟨_, h⟩
  have R0 : R Γ (fun b => b = a) (Γ.tb.map (·.tbl)) H ((List.range Γ.tb.length).map MO.tab) := tab_start hT nd fun b e => by
    subst e
    refine ⟨fun hm => ?_, ex⟩
    obtain ⟨ti, h1, h2⟩ := List.mem_map.mp hm
    have h3 := hT ti h1
    rw [h2] at h3
    rcases hr with h | ⟨o, h⟩ <;> rw [h3] at h <;> cases h
  obtain ⟨h', e⟩ := run
  refine ⟨rfl, ⟨fun b => b = a, Γ.tb.map (·.tbl), H, a, fun b => b = a, Γ.tb.map (·.tbl), H, none⟩, rfl, fun b => b = a, Γ.tb.map (·.tbl), (List.range Γ.tb.length).map MO.tab, startS d.n [.frl (ns.map T.int)], At.start R0 (.cons (.frl ⟨rfl, hr⟩ (tvs_int ns)) .nil) hN, ?_⟩
  dsimp only
  rw [e]
  intro Z φ H v le r tv
  cases tv
  rfl

/-! ### names by number -/
theorem nmOf_inj {l : List Str} (hn : l.Nodup) (hl : (l.all fun x => decide (x.length < 1000)) = true) (i j : Nat) (h : nmOf l i = nmOf l j) : i = j := by
  have sz : ∀ {k : Nat} {x : Str}, l[k]? = some x → x.length < 1000 := fun {k x} e => of_decide_eq_true (List.all_eq_true.mp hl x (List.mem_of_getElem? e))
  have ln : ∀ k : Nat, (⟨Array.replicate (1000 + k) 97⟩ : Str).length = 1000 + k := fun k => Array.size_replicate
  unfold nmOf at h
  cases e1 : l[i]? with
  | some x =>
    rw [e1] at h
    cases e2 : l[j]? with
    | some y =>
      rw [e2] at h
      have h : x = y := h
      subst h
      exact (List.getElem?_inj (List.getElem?_eq_some_iff.mp e1).1 hn).mp (e1.trans e2.symm)
    | none =>
      rw [e2] at h
      have h : x = ⟨Array.replicate (1000 + j) 97⟩ := h
      have := sz e1
      rw [h, ln] at this
      omega
  | none =>
    rw [e1] at h
    cases e2 : l[j]? with
    | some y =>
      rw [e2] at h
      have h : (⟨Array.replicate (1000 + i) 97⟩ : Str) = y := h
      have := sz e2
      rw [← h, ln] at this
      omega
    | none =>
      rw [e2] at h
      have h : (⟨Array.replicate (1000 + i) 97⟩ : Str) = ⟨Array.replicate (1000 + j) 97⟩ := h
      have := congrArg (fun z : Str => z.length) h
      rw [ln, ln] at this
      omega

/-! ### a program's text -/
def plQ : Pl → Str
  | .top x => x
  | .meth c m => c ++ "." ++ m
  | .prop c m => c ++ "." ++ m
def Tx.tabI (t : Tx) (K : PySem.W.Frag) (f : Nat) : TabI := ⟨(tabA K (t.fA K f)).1, (tabA K (t.fA K f)).2, (match t.fps.lookup f with
  | some p => plQ p
  | none => Str.empty) ++ ".<locals>." ++ "<lambda>"⟩
def Tx.gam (t : Tx) (K : PySem.W.Frag) (prog : Program) (w : World) (mg : Str → Option Value) (base : Heap) : Gam :=
  ⟨t.G, t.wf, t.cA K, t.fA K, nmOf t.nms, nmOf t.gns, K, prog, w, mg, base, t.tabs.map (t.tabI K)⟩

theorem valB_ok {t : T} {u : Value} (h : valB t u = true) : ∃ v, RelV v u ∧ ∀ Γ Z φ H, TV Γ Z φ H v t := by
  unfold valB at h
  split at h
  · have h := of_decide_eq_true h
    subst h
    exact ⟨.int _, ⟨_, rfl⟩, fun _ _ _ _ => .int _⟩
  · have h := of_decide_eq_true h
    subst h
    exact ⟨.str _, ⟨_, rfl⟩, fun _ _ _ _ => .str _⟩
  · have h := eq_of_beq h
    subst h
    exact ⟨.bl _, rfl, fun _ _ _ _ => .bl _⟩
  · exact ⟨.non, rfl, fun _ _ _ _ => .non⟩
  · cases h
theorem oB_ok {K : PySem.W.Frag} {C : Addr} {x : Str} {r : Option (Option Value)} (h : oB K C x r = true) : PySem.W.findIn K (.ref C) x = r := of_decide_eq_true h
theorem fills_none {M : Model} {h : Heap} {K : PySem.W.Frag} {C : Addr} {nm : String} (X : K.In h) (hf : noFill K C nm = true) : PySem.W.Looks M h (fillsNumberSlot (.ref C) nm) false := by
  intro A Q E s k q
  unfold noFill at hf
  split at hf
  · rename_i cd hc
    have X' := X.keeps k
    unfold fillsNumberSlot
    refine wpAny_bind ((PySem.W.looks_clsIn X hc).andThen (f := fun cd => pure cd.mro) .now A _ E s k ?_)
    revert hf
    generalize cd.mro = l
    intro hf
    induction l with
    | nil => exact wpAny_pure q
    | cons v l ih =>
      rw [List.all_cons] at hf
      obtain ⟨h1, h2⟩ := ba2 hf
      obtain ⟨h1, h3⟩ := ba2 h1
      have h1 := of_decide_eq_true h1
      have h3 := of_decide_eq_true h3
      rw [List.anyM_cons]
      refine wpAny_bind ?_
      cases v with
      | type n =>
        refine wpAny_bind (PySem.W.looks_findIn X h1 A _ E s k ?_)
        refine wpAny_bind (PySem.W.looks_findIn X h3 A _ E s k ?_)
        refine wpAny_pure ?_
        rw [if_neg (by decide)]
        exact ih h2
      | _ =>
        show wpAny M A (List.anyM _ [PySem.dunder nm, dunderR nm]) _ _ _
        rw [List.anyM_cons]
        refine wpAny_bind (wpAny_bind (PySem.W.looks_findIn X h1 A _ E s k ?_))
        refine wpAny_pure ?_
        rw [if_neg Bool.false_ne_true, List.anyM_cons]
        refine wpAny_bind (wpAny_bind (PySem.W.looks_findIn X h3 A _ E s k ?_))
        refine wpAny_pure ?_
        rw [if_neg Bool.false_ne_true]
        refine wpAny_pure ?_
        rw [if_neg Bool.false_ne_true]
        exact ih h2
  · cases hf
theorem lookup_in {α : Type} {k : Nat} {v : α} : ∀ {l : List (Nat × α)}, l.lookup k = some v → (k, v) ∈ l
  | [], h => by cases h
  | (j, x) :: r, h => by
    rw [List.lookup_cons] at h
    cases e : k == j with
    | true =>
      rw [e] at h
      cases h
      rw [eq_of_beq e]
      exact List.mem_cons_self
    | false =>
      rw [e] at h
      exact List.mem_cons_of_mem _ (lookup_in h)

theorem clB_ok {t : Tx} {K : PySem.W.Frag} {prog : Program} {w : World} {mg : Str → Option Value} {base : Heap} {c : Nat} {k : ClD} (h : clB t K c k = true) : ClF (t.gam K prog w mg base) c k := by
  unfold clB at h
  dsimp only at h
  obtain ⟨h, hsub⟩ := ba2 h
  obtain ⟨h, hadd⟩ := ba2 h
  obtain ⟨h, hcls⟩ := ba2 h
  obtain ⟨h, hty⟩ := ba2 h
  obtain ⟨h, hobj⟩ := ba2 h
  obtain ⟨h, htk⟩ := ba2 h
  obtain ⟨h, hgt⟩ := ba2 h
  obtain ⟨h, hcl⟩ := ba2 h
  obtain ⟨h, hsf⟩ := ba2 h
  obtain ⟨h, hseq⟩ := ba2 h
  obtain ⟨h, hcm⟩ := ba2 h
  obtain ⟨h, hcon⟩ := ba2 h
  obtain ⟨h, hprop⟩ := ba2 h
  obtain ⟨h, hmeth⟩ := ba2 h
  obtain ⟨h, hflds⟩ := ba2 h
  obtain ⟨h, hinit⟩ := ba2 h
  obtain ⟨h, hsa⟩ := ba2 h
  obtain ⟨h, hpo⟩ := ba2 h
  obtain ⟨hpg, hhd⟩ := ba2 h
  have hT : ∀ n, n < 8 → PySem.W.notFirst K (t.cA K c) (.type (tyN n)) = true ∧ PySem.W.kitOne K (.type (tyN n)) (.ref (t.cA K c)) = some false ∧ PySem.W.kitOne K (.ref (t.cA K c)) (.type (tyN n)) = some false := fun n hn => by
    have q := List.all_eq_true.mp hty n (List.mem_range.mpr hn)
    obtain ⟨q, q3⟩ := ba2 q
    obtain ⟨q1, q2⟩ := ba2 q
    exact ⟨q1, of_decide_eq_true q2, of_decide_eq_true q3⟩
  have hC : ∀ c' k', t.G.cl c' = some k' → PySem.W.notFirst K (t.cA K c) (.ref (t.cA K c')) = true ∧ PySem.W.kitOne K (.ref (t.cA K c')) (.ref (t.cA K c)) = some (t.G.isSub c' c) := fun c' k' e => by
    have q := List.all_eq_true.mp hcls (c', k') (lookup_in e)
    obtain ⟨q1, q2⟩ := ba2 q
    exact ⟨q1, of_decide_eq_true q2⟩
  refine
    { cls := ⟨hpg, hhd, hpo, oB_ok hsa⟩
      init := fun f e => ?_
      flds := fun f e => ?_
      meth := fun m g e => ?_
      prop := fun m g e => ?_
      con := fun f u e => ?_
      cm := fun m g e => ?_
      noseq := hseq, sf := hsf, hcl := oB_ok hcl, hgt := of_decide_eq_true hgt, htk := of_decide_eq_true htk, obj := of_decide_eq_true hobj
      nf := fun n hn => (hT n hn).1
      nfc := fun c' k' e => (hC c' k' e).1
      inst := fun n hn => (hT n hn).2.1
      instc := fun c' k' e => (hC c' k' e).2
      nadd := fun e M h X => ?_
      nsub := fun e M h X => ?_
      instT := fun n hn => (hT n hn).2.2 }
  · rw [e] at hinit
    obtain ⟨q, q4⟩ := ba2 hinit
    obtain ⟨q, q3⟩ := ba2 q
    obtain ⟨q1, q2⟩ := ba2 q
    exact ⟨q1, oB_ok q2, q3, q4⟩
  · exact oB_ok (List.all_eq_true.mp hflds f (List.contains_iff_mem.mp e))
  · obtain ⟨q, q4⟩ := ba2 (List.all_eq_true.mp hmeth (m, g) (lookup_in e))
    obtain ⟨q, q3⟩ := ba2 q
    obtain ⟨q1, q2⟩ := ba2 q
    exact ⟨⟨oB_ok q1, q2, q3⟩, q4⟩
  · obtain ⟨q, q4⟩ := ba2 (List.all_eq_true.mp hprop (m, g) (lookup_in e))
    obtain ⟨q, q3⟩ := ba2 q
    obtain ⟨q1, q2⟩ := ba2 q
    refine ⟨_, oB_ok q1, of_decide_eq_true q2, of_decide_eq_true q3, ?_⟩
    split at q4
    · rename_i g' rest hr
      have q4 := of_decide_eq_true q4
      subst q4
      exact ⟨rest, hr⟩
    · cases q4
  · obtain ⟨q, q4⟩ := ba2 (List.all_eq_true.mp hcon (f, u) (lookup_in e))
    obtain ⟨q, q3⟩ := ba2 q
    obtain ⟨q1, q2⟩ := ba2 q
    split at q1
    · rename_i w' hw
      obtain ⟨p, p3⟩ := ba2 q1
      obtain ⟨p1, p2⟩ := ba2 p
      obtain ⟨v, rv, tv⟩ := valB_ok p1
      split at p3
      · rename_i x hx
        have p3 := of_decide_eq_true p3
        subst p3
        exact ⟨v, x, .type "type", ⟨hw, rv, of_decide_eq_true p2, by
          cases z : PySem.W.copiedNames.contains ((t.gam K prog w mg base).nm f) with
          | false => rfl
          | true => rw [show PySem.W.copiedNames.contains (nmOf t.nms f) = true from z] at q2; cases q2⟩, ⟨q3, of_decide_eq_true q4⟩, ⟨hx, rv⟩, tv _⟩
      · cases p3
    · cases q1
  · rw [List.isEmpty_iff.mp hcm] at e
    cases e
  · rcases Bool.or_eq_true_iff.mp hadd with z | z
    · rw [e] at z; cases z
    · exact fills_none X z
  · rcases Bool.or_eq_true_iff.mp hsub with z | z
    · rw [e] at z; cases z
    · exact fills_none X z
end Ev
end
section
set_option Elab.async false
set_option linter.all false
set_option maxRecDepth 100000
set_option maxHeartbeats 1000000
/-! Ev, part Hb: what a program's top leaves, all in one. -/
namespace Ev
open PySem PySem.Spec PyProof.Rows L2

def Tx.nmsT (t : Tx) : Nms := ⟨nmOf t.nms, nmOf t.gns, t.G.gl⟩
def stdN : List Str := ["__eq__", "__lt__", "__le__", "__add__", "__sub__", "__neg__", "__contains__", "__getitem__", "__len__", "__bool__", "__call__", "append", "extend", "pop", "count", "index", "get", "setdefault", "remove", "join", "split"]
/-- what of a text does not hang on its run -/
def Tx.okB (t : Tx) : Bool := decide (t.nms.take 21 = stdN) && decide t.nms.Nodup && (t.nms.all fun x => decide (x.length < 1000)) && (t.gls.all fun g => match g.2 with
  | .bi b => biOk b
  | _ => true)
theorem boot_ty7 : bootBuiltins (Str.ofString (tyN 7)) = some (.type (tyN 7)) := rfl
theorem boot_ty : ∀ n, n < 6 → bootBuiltins (Str.ofString (tyN n)) = some (.type (tyN n)) := by
  intro n h
  match n, h with
  | 0, _ => rfl
  | 1, _ => rfl
  | 2, _ => rfl
  | 3, _ => rfl
  | 4, _ => rfl
  | 5, _ => rfl
theorem take_at {l m : List Str} {n i : Nat} {x : Str} (h : l.take n = m) (hi : i < n) (e : m[i]? = some x) : nmOf l i = x := by
  have : l[i]? = some x := by
    rw [← h, List.getElem?_take_of_lt hi] at e
    exact e
  unfold nmOf
  rw [this]
/-! ### how calls bind -/
def fnD (d : Df) (dV kV doc pm : Value) (an : Option Addr) (cdv ct : Value) : FuncData := PySem.W.fnOf d.name d.qual (L2.defArgs d.st) (L2.defBody d.st) (L2.defScope d.st) dV kV doc pm an cdv ct
def bt0 (d : Df) (us : List Value) (kw : List (Str × Value)) (us' : List Value) : Prop := match d.dn, d.kn with
  | 0, [] => ∀ (kV doc pm : Value) (an : Option Addr) (cdv ct : Value), bindArgs (fnD d .none kV doc pm an cdv ct) ⟨us, kw⟩ = pure (d.ps.zip us')
  | 0, _ :: _ => ∀ (D : Addr) (doc pm : Value) (an : Option Addr) (cdv ct : Value), ∃ miss : List Str, (∀ x ∈ miss, x ∈ d.kn) ∧ KwChain D (miss.map fun x => (x, Value.none)) (bindArgs (fnD d .none (.ref D) doc pm an cdv ct) ⟨us, kw⟩) (d.ps.zip us')
  | n + 1, [] => ∀ (T : Addr) (kV doc pm : Value) (an : Option Addr) (cdv ct : Value), ∃ k, bindArgs (fnD d (.ref T) kV doc pm an cdv ct) ⟨us, kw⟩ = seqItems? (.ref T) >>= k ∧ k (some (List.replicate (n + 1) Value.none).toArray) = pure (d.ps.zip us')
  | _ + 1, _ :: _ => False
theorem vals_non : ∀ {n : Nat} {its : List Value}, Vals (List.replicate n V.non) its → its = List.replicate n Value.none
  | 0, _, .nil => rfl
  | n + 1, u :: us, .cons h r => by
    rw [List.replicate_succ, ← vals_non r, show u = Value.none from h]
theorem bt_ok {K : PySem.W.Frag} {d : Df} {f : Addr} {fd : FuncData} {us us' : List Value} {kw : List (Str × Value)} {s : Shared} (F : FunD K d.name d.qual (L2.defArgs d.st) (L2.defBody d.st) (L2.defScope d.st) d.dvs d.kws f fd) (h : bt0 d us kw us') (X : K.In s.heap) : BindsTo s fd ⟨us, kw⟩ (d.ps.zip us') := by
  obtain ⟨oc, od, dV, kV, doc, pm, an, cdv, ct, osl, rfl, lk, hcd, hD, hK⟩ := F.ex
  unfold bt0 at h
  unfold Df.dvs at hD
  unfold Df.kws at hK
  cases e1 : d.dn with
  | zero =>
    rw [e1] at h hD
    have eV : dV = .none := by
      rcases hD with ⟨_, e⟩ | ⟨e, _⟩
      · exact e
      · exact absurd rfl e
    subst eV
    cases e2 : d.kn with
    | nil =>
      rw [e2] at h
      exact .of_eq (h kV doc pm an cdv ct)
    | cons k ks =>
      rw [e2] at h hK
      rcases hK with e | ⟨D, rfl, hq⟩
      · cases e
      · obtain ⟨miss, h1, h2⟩ := h D doc pm an cdv ct
        refine BindsTo.of_looks fun M => KwChain.looks X (fun q hqm => ?_) h2
        obtain ⟨x, hx, rfl⟩ := List.mem_map.mp hqm
        obtain ⟨u, e3, e4⟩ := hq (x, .non) (List.mem_map.mpr ⟨x, h1 x hx, rfl⟩)
        rw [show u = Value.none from e4] at e3
        exact e3
  | succ n =>
    rw [e1] at h hD
    cases e2 : d.kn with
    | nil =>
      rw [e2] at h
      rcases hD with ⟨e, _⟩ | ⟨_, T, o, its, m, rfl, lT, oT, rT⟩
      · cases e
      · obtain ⟨k, h1, h2⟩ := h T kV doc pm an cdv ct
        refine BindsTo.of_looks fun M => ?_
        have h1 : bindArgs (PySem.W.fnOf d.name d.qual (L2.defArgs d.st) (L2.defBody d.st) (L2.defScope d.st) (.ref T) kV doc pm an cdv ct) ⟨us, kw⟩ = _ := h1
        rw [h1]
        rw [← vals_non rT] at h2
        exact looks_items X lT oT (.of_pure h2)
    | cons k ks => rw [e2] at h; exact h.elim
/-- an exception's __init__, as the text has it -/
structure XOk (t : Tx) (d : Df) (k : XcD) : Prop where
  S : FnScope d.N d.ps (L2.defScope d.st)
  len : d.ps.length = k.exf.length + 1
  ex : ∃ fs, xbB d.N (L2.defScope d.st) t.xba (L2.defBody d.st) fs = true ∧ fs.map (·.1) = k.exf.map (fun p => nmOf t.nms p.1) ∧ fs.map (·.2) = List.range' 1 k.exf.length
  gl : glB (L2.defScope d.st) t.xba = true
  db : dbgB t.xba = true
  bnd : ∀ n, n ≤ k.exf.length → (∀ p ∈ k.exf.drop n, p.2 ≠ none) → ∀ us : List Value, us.length = n + 1 → bt0 d us [] (us ++ List.replicate (k.exf.length - n) Value.none)

section
variable {t : Tx} {K : PySem.W.Frag} {prog : Program} {w : World} {mg : Str → Option Value} {base h : Heap}
theorem oexB_ok {C : Addr} (h : oexB K C = true) : OexC K C := by
  unfold oexB at h
  obtain ⟨h, h5⟩ := ba2 h
  obtain ⟨h, h4⟩ := ba2 h
  obtain ⟨h, h3⟩ := ba2 h
  obtain ⟨h1, h2⟩ := ba2 h
  refine ⟨?_, oB_ok h2, of_decide_eq_true h3, of_decide_eq_true h4, h5⟩
  split at h1
  · rename_i ty dd cd sl hk
    obtain ⟨h1, g6⟩ := ba2 h1
    obtain ⟨h1, g5⟩ := ba2 h1
    obtain ⟨h1, g4⟩ := ba2 h1
    obtain ⟨h1, g3⟩ := ba2 h1
    obtain ⟨g1, g2⟩ := ba2 h1
    obtain ⟨nm, bs, mro, N, q, hdct, sn, sub, ab, col, hdel⟩ := cd
    replace g1 := of_decide_eq_true g1
    replace g2 : hdct = true := g2
    replace g3 : hdel = false := by simpa using g3
    subst g1 g2 g3
    obtain ⟨sl⟩ := sl
    replace g5 := of_decide_eq_true g5
    replace g6 := of_decide_eq_true g6
    dsimp only at g4
    cases mro with
    | nil => cases g4
    | cons v bm =>
      cases v with
      | ref c =>
        obtain ⟨g7, g8⟩ := ba2 g4
        replace g7 := of_decide_eq_true g7
        subst g7
        match sl, g5, g6 with
        | [k0, k1, k2, k3, k4, k5], _, g6 =>
          have g6 : k4 = some (.builtin "ValueError.__new__") := by simpa using g6
          subst g6
          exact ⟨nm, q, N, bs, bm, sn, sub, ab, col, dd, k0, k1, k2, k3, k5, hk, g8⟩
      | _ => cases g4
  · cases h1
theorem ns_ok (X : K.In h) (Gs : h.Ns mainGlobals mg) {x : Str} {v : Value} (c : nsB K x (some v) = true) : mg x = some v := PySem.W.mg_of X Gs (of_decide_eq_true c)
theorem ns_no (X : K.In h) (Gs : h.Ns mainGlobals mg) {x : Str} (c : nsB K x none = true) : mg x = none := PySem.W.mg_none_of X Gs (of_decide_eq_true c)
theorem xcB_ok {c : Nat} {k : XcD} {ds : List Df} (X : K.In h) (Gs : h.Ns mainGlobals mg) (defs : ∀ (i : Nat) (d : Df), ds[i]? = some d → ∃ fd, FunD K d.name d.qual (L2.defArgs d.st) (L2.defBody d.st) (L2.defScope d.st) d.dvs d.kws (d.pl.ad K) fd)
    (hb : xbaB t K = true) (hxo : ∀ (c : Nat) (k : XcD) (p : Pl), t.G.xc c = some k → t.xis.lookup c = some p → ∃ (i : Nat) (d : Df), ds[i]? = some d ∧ d.pl = p ∧ XOk t d k) (hc : t.G.xc c = some k) (hx : xcB t K c k = true) : XcF (t.gam K prog w mg base) c k := by
  unfold xcB at hx
  dsimp only at hx
  obtain ⟨hx, h7⟩ := ba2 hx
  obtain ⟨hx, h6⟩ := ba2 hx
  obtain ⟨hx, h5⟩ := ba2 hx
  obtain ⟨hx, h4⟩ := ba2 hx
  obtain ⟨hx, k4⟩ := ba2 hx
  obtain ⟨hx, k3⟩ := ba2 hx
  obtain ⟨hx, k2⟩ := ba2 hx
  obtain ⟨hx, k1⟩ := ba2 hx
  obtain ⟨hx, h3⟩ := ba2 hx
  obtain ⟨h1, h2⟩ := ba2 hx
  refine ⟨oexB_ok h1, xfB_ok h2, fun c' k' e => ?_, fun f hf => ?_, of_decide_eq_true h5, ?_, fun c' k' e => ?_, fun c' k' e => ?_, fun n hn => ?_, fun p hp u hu => ?_, fun ne => ?_⟩
  · exact of_decide_eq_true (List.all_eq_true.mp h3 (c', k') (lookup_in e))
  · obtain ⟨p, hp, e⟩ := List.mem_map.mp (List.contains_iff_mem.mp hf)
    have := oB_ok (List.all_eq_true.mp h4 p hp)
    rw [e] at this
    exact this
  · unfold excB at k1
    obtain ⟨k1, e8⟩ := ba2 k1
    obtain ⟨k1, e7⟩ := ba2 k1
    obtain ⟨k1, e6⟩ := ba2 k1
    obtain ⟨k1, e5⟩ := ba2 k1
    obtain ⟨k1, e4⟩ := ba2 k1
    obtain ⟨k1, e3⟩ := ba2 k1
    obtain ⟨e1, e2⟩ := ba2 k1
    exact ⟨oB_ok e1, oB_ok e2, of_decide_eq_true e3, e4, oB_ok e5, of_decide_eq_true e6, of_decide_eq_true e7, of_decide_eq_true e8⟩
  · exact of_decide_eq_true (List.all_eq_true.mp k2 (c', k') (lookup_in e))
  · obtain ⟨q1, q2⟩ := ba2 (List.all_eq_true.mp k3 (c', k') (lookup_in e))
    exact ⟨of_decide_eq_true q1, of_decide_eq_true q2⟩
  · obtain ⟨q1, q2⟩ := ba2 (List.all_eq_true.mp k4 n (List.mem_range.mpr hn))
    exact ⟨of_decide_eq_true q1, of_decide_eq_true q2⟩
  · have := List.all_eq_true.mp h6 p hp
    rw [hu] at this
    cases u <;> first | rfl | cases this
  · cases q : t.xis.lookup c with
    | none =>
      rw [q] at h7
      exact absurd (List.isEmpty_iff.mp h7) ne
    | some p =>
      rw [q] at h7
      obtain ⟨g1, g2⟩ := ba2 h7
      obtain ⟨i, d, hd, hpl, o⟩ := hxo c k p hc q
      obtain ⟨fd, F⟩ := defs i d hd
      obtain ⟨fs, f1, f2, f3⟩ := o.ex
      unfold xbaB at hb
      obtain ⟨hb, b4⟩ := ba2 hb
      obtain ⟨hb, b3⟩ := ba2 hb
      obtain ⟨b1, b2⟩ := ba2 hb
      subst hpl
      refine ⟨d.name, d.qual, L2.defArgs d.st, L2.defBody d.st, L2.defScope d.st, d.dvs, d.pl.ad K, fd, d.N, d.ps, t.xba, He.ga K t.xba, fs, ?_, o.S, o.len, f1, f2, f3, PySem.W.mg_of X Gs (of_decide_eq_true b1), o.db, o.gl, ⟨b2, of_decide_eq_true b3⟩, ?_, oB_ok g1, of_decide_eq_true g2, fun n hn hdr s us KX hl => ?_⟩
      · obtain ⟨oc, od, dV, kV, doc, pm, an, cdv, ct, osl, e1, lk, hcd, hD, hK⟩ := F.ex
        exact ⟨⟨oc, od, dV, kV, doc, pm, an, cdv, ct, osl, e1, lk, hcd, hD, .inl rfl⟩, F.kp⟩
      · split at b4
        · rename_i v hv
          have b4 := of_decide_eq_true b4
          subst b4
          exact hv
        · cases b4
      · have e := o.len
        rw [List.length_append, List.length_replicate] at hl
        exact bt_ok F (o.bnd n hn hdr us (by omega)) KX
theorem wd_of {ds : List Df} (X : K.In h) (Gs : h.Ns mainGlobals mg) (hs : t.okB = true) (hx : t.exB K = true) (htb : ∀ f ∈ t.tabs, LamX.TabB base mg (tabA K (t.fA K f)).1 (tabA K (t.fA K f)).2) (defs : ∀ (i : Nat) (d : Df), ds[i]? = some d → ∃ fd, FunD K d.name d.qual (L2.defArgs d.st) (L2.defBody d.st) (L2.defScope d.st) d.dvs d.kws (d.pl.ad K) fd)
    (hxo : ∀ (c : Nat) (k : XcD) (p : Pl), t.G.xc c = some k → t.xis.lookup c = some p → ∃ (i : Nat) (d : Df), ds[i]? = some d ∧ d.pl = p ∧ XOk t d k) : WdF (t.gam K prog w mg base) := by
  unfold Tx.okB at hs
  obtain ⟨hs, _⟩ := ba2 hs
  obtain ⟨hs, s3⟩ := ba2 hs
  obtain ⟨s1, s2⟩ := ba2 hs
  have s1 := of_decide_eq_true s1
  unfold Tx.exB at hx
  obtain ⟨hx, x10⟩ := ba2 hx
  obtain ⟨hx, x9⟩ := ba2 hx
  obtain ⟨hx, x8⟩ := ba2 hx
  obtain ⟨hx, x7⟩ := ba2 hx
  obtain ⟨hx, x6⟩ := ba2 hx
  obtain ⟨hx, x5⟩ := ba2 hx
  obtain ⟨hx, x4⟩ := ba2 hx
  obtain ⟨hx, x3⟩ := ba2 hx
  obtain ⟨x1, x2⟩ := ba2 hx
  have nm : ∀ {i : Nat} {x : Str}, i < 21 → stdN[i]? = some x → nmOf t.nms i = x := fun hi e => take_at s1 hi e
  exact
    { tbs := fun i ti e => by
        have e : (t.tabs.map (t.tabI K))[i]? = some ti := e
        rw [List.getElem?_map] at e
        cases q : t.tabs[i]? with
        | none => rw [q] at e; cases e
        | some f =>
          rw [q] at e
          cases e
          exact htb f (List.mem_of_getElem? q)
      xc := fun c k e => by
        have e : t.G.xc c = some k := e
        have hm := lookup_in e
        have q := List.all_eq_true.mp x8 (c, k) hm
        have hb : xbaB t K = true := by
          rcases Bool.or_eq_true_iff.mp x9 with z | z
          · rw [List.isEmpty_iff.mp z] at hm; cases hm
          · exact z
        exact xcB_ok X Gs defs hb hxo e q
      cl := fun c k e => clB_ok (List.all_eq_true.mp x1 (c, k) (lookup_in e))
      inj := fun i j e => nmOf_inj (of_decide_eq_true s2) s3 i j e
      kit := fun a b ha hb => of_decide_eq_true (List.all_eq_true.mp (List.all_eq_true.mp x2 a (List.mem_range.mpr ha)) b (List.mem_range.mpr hb))
      rng := ns_no X Gs x3, enm := ns_no X Gs x4, zip := ns_no X Gs x5
      b11 := nm (by decide) rfl, b12 := nm (by decide) rfl, b13 := nm (by decide) rfl, b14 := nm (by decide) rfl, b15 := nm (by decide) rfl, b16 := nm (by decide) rfl, b19 := nm (by decide) rfl, b20 := nm (by decide) rfl
      n0 := nm (by decide) rfl, n1 := nm (by decide) rfl, n2 := nm (by decide) rfl, n3 := nm (by decide) rfl, n4 := nm (by decide) rfl, n5 := nm (by decide) rfl, n6 := nm (by decide) rfl, n7 := nm (by decide) rfl, n8 := nm (by decide) rfl, n9 := nm (by decide) rfl, n10 := nm (by decide) rfl }
theorem gl_of (X : K.In h) (Gs : h.Ns mainGlobals mg) (hx : t.exB K = true) : GlF (t.gam K prog w mg base) := by
  unfold Tx.exB at hx
  obtain ⟨hx, x10⟩ := ba2 hx
  obtain ⟨hx, x9⟩ := ba2 hx
  obtain ⟨hx, x8⟩ := ba2 hx
  obtain ⟨hx, x7⟩ := ba2 hx
  obtain ⟨hx, x6⟩ := ba2 hx
  intro i g e
  have q : glChk t K (nmOf t.gns i) g = true := List.all_eq_true.mp x6 (i, g) (lookup_in e)
  show GlOk (t.gam K prog w mg base) (nmOf t.gns i) g
  cases g with
  | fn f =>
    obtain ⟨q1, q2⟩ := ba2 q
    exact ⟨ns_ok X Gs q1, q2⟩
  | cls c =>
    obtain ⟨q1, q2⟩ := ba2 q
    exact ⟨ns_ok X Gs q1, q2⟩
  | ty n =>
    obtain ⟨q, q3⟩ := ba2 q
    obtain ⟨q1, q2⟩ := ba2 q
    have q3 := of_decide_eq_true q3
    rcases Bool.or_eq_true_iff.mp q2 with q2 | q2
    · have q2 := of_decide_eq_true q2
      exact ⟨ns_no X Gs q1, by omega, q3, by rw [q3]; exact boot_ty n q2⟩
    · have q2 := of_decide_eq_true q2
      subst q2
      exact ⟨ns_no X Gs q1, by omega, q3, by rw [q3]; exact boot_ty7⟩
  | bi b =>
    obtain ⟨q1, q2⟩ := ba2 q
    exact ⟨ns_no X Gs q1, of_decide_eq_true q2⟩
  | con u =>
    have q : (match PySem.W.nsIn K mainGlobals (nmOf t.gns i) with
      | some (some v) => valB u v
      | _ => false) = true := q
    split at q
    · rename_i v hv
      obtain ⟨v', r, tv⟩ := valB_ok q
      exact ⟨v', v, PySem.W.mg_of X Gs hv, r, tv _⟩
    · cases q
theorem bo_of (hs : t.okB = true) : ∀ g b, (t.gam K prog w mg base).G.gl g = some (.bi b) → biOk b = true := fun g b e => by
  unfold Tx.okB at hs
  obtain ⟨_, s5⟩ := ba2 hs
  exact List.all_eq_true.mp s5 (g, .bi b) (lookup_in e)
theorem nl_of (hx : t.exB K = true) : ∀ b o, K.lookup b = some o → o.cls ≠ .type "list" := fun b o e => by
  unfold Tx.exB at hx
  obtain ⟨hx, x10⟩ := ba2 hx
  obtain ⟨hx, x9⟩ := ba2 hx
  obtain ⟨hx, x8⟩ := ba2 hx
  obtain ⟨_, x7⟩ := ba2 hx
  exact of_decide_eq_true (List.all_eq_true.mp x7 (b, o) (He.lookup_mem e))

theorem nd_of (hx : t.exB K = true) : (((t.gam K prog w mg base).tb).map (·.tbl)).Nodup := by
  unfold Tx.exB at hx
  obtain ⟨hx, x10⟩ := ba2 hx
  have := of_decide_eq_true x10
  show ((t.tabs.map (t.tabI K)).map (·.tbl)).Nodup
  rw [List.map_map]
  exact this

/-! ### defs -/
/-- a call's shape: how the parameters get their values -/
def shpOk (d : Df) (D : FnD) (nm : Nat → Str) (nk : Nat × List Nat) : Prop := ∀ us ws : List Value, us.length = nk.1 → ws.length = nk.2.length →
  ∃ us', bindP Value.none D.dn D.ps us (nk.2.zip ws) = some us' ∧ bt0 d us ((nk.2.map nm).zip ws) us'
def isMark (x : Str) : Bool := x.cps[0]? == some 10
/-- its marks are those of a table that is its own -/
def marksB (t : Tx) (f : Nat) (N : List Str) : Bool := N.all fun x => !isMark x || (decide (t.tabs[x.length - 1]? = some f))
theorem lamNm_len (i : Nat) : (lamNm i).length = i + 1 := Array.size_replicate
theorem lamNm_mark (i : Nat) : isMark (lamNm i) = true := by
  unfold isMark lamNm
  simp
structure DfOk (t : Tx) (f : Nat) (d : Df) (D : FnD) : Prop where
  S : FnScope d.N d.ps (L2.defScope d.st)
  len : d.N.length = D.n
  ck : ∃ m, ckSs t.nmsT m d.N (L2.defScope d.st) (L2.defBody d.st) D.body = true
  mrk : marksB t f d.N = true
  ql : d.qual = plQ d.pl
  lam : D.lam = true → D.star = false ∧ D.ps.length = 1 ∧ ∀ u : Value, bt0 d [u] [] [u]
  pos : D.star = false → d.ps = D.ps.map (nmOf t.nms) ∧ ∀ nk ∈ D.shp, shpOk d D (nmOf t.nms) nk
  str : D.star = true → d.dn = 0 ∧ ∃ pv, d.ps = D.ps.map (nmOf t.nms) ++ [pv] ∧ ∀ us rest : List Value, us.length = D.ps.length → ∀ (kV doc pm : Value) (an : Option Addr) (cdv ct : Value),
    bindArgs (fnD d .none kV doc pm an cdv ct) ⟨us ++ rest, []⟩ = (newTuple rest >>= fun q => pure ((D.ps.map (nmOf t.nms)).zip us ++ [(pv, q)]))
theorem marks_ok {f : Nat} {d : Df} {D : FnD} {fd : FuncData} {aF : Addr} (hp : t.fps.lookup f = some d.pl) (F : FunD K d.name d.qual (L2.defArgs d.st) (L2.defBody d.st) (L2.defScope d.st) d.dvs d.kws (d.pl.ad K) fd) (o : DfOk t f d D) (i : Nat) (ti : TabI) (e : (t.gam K prog w mg base).tb[i]? = some ti) (hm : lamNm i ∈ d.N) :
    fd.code = .ref ti.code ∧ (d.qual ++ ".<locals>.") ++ "<lambda>" = ti.q := by
  have e : (t.tabs.map (t.tabI K))[i]? = some ti := e
  have hk := List.all_eq_true.mp o.mrk _ hm
  rw [lamNm_mark] at hk
  have hk : t.tabs[(lamNm i).length - 1]? = some f := by simpa using hk
  rw [lamNm_len, Nat.add_sub_cancel] at hk
  rw [List.getElem?_map, hk] at e
  cases e
  obtain ⟨oc, od, dV, kV, doc, pm, an, cdv, ct, osl, rfl, lk, hcd, hD, hK⟩ := F.ex
  have ef : t.fA K f = d.pl.ad K := by
    unfold Tx.fA
    rw [hp]
  constructor
  · obtain ⟨c, hc⟩ := He.codeIn_ref hcd
    show cdv = .ref (codeA K (t.fA K f))
    rw [ef]
    unfold codeA
    rw [lk]
    subst hc
    rfl
  · show _ = (((match t.fps.lookup f with
      | some p => plQ p
      | none => Str.empty) : Str) ++ (".<locals>." : Str)) ++ ("<lambda>" : Str)
    rw [hp, o.ql]
theorem fnF_of {f : Nat} {d : Df} {D : FnD} (hp : t.fps.lookup f = some d.pl) (F : ∃ fd, FunD K d.name d.qual (L2.defArgs d.st) (L2.defBody d.st) (L2.defScope d.st) d.dvs d.kws (d.pl.ad K) fd) (o : DfOk t f d D) : FnF (t.gam K prog w mg base) (ckSs (t.gam K prog w mg base).nms) f D := by
  obtain ⟨fd, F⟩ := F
  have ef : (t.gam K prog w mg base).fA f = d.pl.ad K := by
    show t.fA K f = _
    unfold Tx.fA
    rw [hp]
  obtain ⟨m, hm⟩ := o.ck
  refine ⟨d.name, d.qual, L2.defArgs d.st, L2.defBody d.st, L2.defScope d.st, d.dvs, d.kws, fd, d.N, d.ps, m, fun i ti e hm => marks_ok (aF := 0) hp F o i ti e hm, fun hl => ?_, by rw [ef]; exact F, o.S, o.len, hm, fun hs => ?_, fun hs => ?_⟩
  · obtain ⟨g1, g2, g3⟩ := o.lam hl
    exact ⟨g1, g2, fun s u KX => bt_ok F (g3 u) KX⟩
  · obtain ⟨e, q⟩ := o.pos hs
    refine ⟨e, fun nk hnk s us ws KX h1 h2 => ?_⟩
    obtain ⟨us', e1, e2⟩ := q nk hnk us ws h1 h2
    exact ⟨us', e1, bt_ok F e2 KX⟩
  · obtain ⟨e0, pv, e, q⟩ := o.str hs
    refine ⟨pv, e, fun us rest hl => ?_⟩
    obtain ⟨oc, od, dV, kV, doc, pm, an, cdv, ct, osl, rfl, lk, hcd, hD, hK⟩ := F.ex
    have eV : dV = .none := by
      rcases hD with ⟨_, e⟩ | ⟨e, _⟩
      · exact e
      · exact absurd (by unfold Df.dvs; rw [e0]; rfl) e
    subst eV
    exact q us rest hl kV doc pm an cdv ct
end

/-! ### the Hook -/
/-- the whole: what the evaluator answers, the law answers -/
theorem law_walk {t : Tx} {ds : List Df} {l : PySem.W.OpenLaw} {n m j g : Nat} {q : Program} {loose : List Str} {XP : (Str → Option Value) → Heap → Prop} {dr : DefRec} {px : Str} {d : Df} {D : FnD} {k : Nat}
    (hn : l.most = some n) (hn2 : n ≤ sizeLine) (hdf : dr.params.defaults = []) (hr : Room (k + 1) callerA) (hs : t.okB = true)
    (hall : ∀ (f : Nat) (D' : FnD), t.G.fn f = some D' → ∃ (i : Nat) (d' : Df), ds[i]? = some d' ∧ t.fps.lookup f = some d'.pl ∧ DfOk t f d' D')
    (hxo : ∀ (c : Nat) (k : XcD) (p : Pl), t.G.xc c = some k → t.xis.lookup c = some p → ∃ (i : Nat) (d : Df), ds[i]? = some d ∧ d.pl = p ∧ XOk t d k)
    (hD : t.G.fn j = some D) (hlaw : ∃ i : Nat, ds[i]? = some d ∧ t.fps.lookup j = some d.pl ∧ DfOk t j d D) (hp1 : d.ps = [px]) (hg : t.G.gl g = some (.fn j)) (hgn : nmOf t.gns g = dr.name)
    (hb : d.dn = 0 ∧ ∀ (u : Value) (kV doc pm : Value) (an : Option Addr) (cdv ct : Value), bindArgs (PySem.W.fnOf d.name d.qual (L2.defArgs d.st) (L2.defBody d.st) (L2.defScope d.st) .none kV doc pm an cdv ct) ⟨[u], []⟩ = pure [(px, u)])
    (run : ∀ ns : List Int, ns.length ≤ n → (∀ z ∈ ns, Builtin.Int.intBits z ≤ 1048576) → ∃ h', (Ev.run t.G t.wf k).ss (startS D.n [.frl (ns.map T.int)]) D.body ((List.range t.tabs.length).map MO.tab) = some (.rt (.bl true), h')) :
    PySem.W.WalkO q loose XP (hookV m ds t).says l.row.toRowW dr [] (fun f vs => PySem.call f vs) := by
  refine LamX.walk_ofTsE (l := l) (n := n) (k := k + 1) (x := px) (CX := fun w => L2.CX l.prog w) hn hn2 hdf hr ?F (fun w H s e s' z => by
    obtain ⟨_, _, _, _, _, _, _, _, _, _, _, _, z⟩ := z
    exact z)
  intro w mg fa h Y Gs hmg
  obtain ⟨K, KX, c, cT⟩ := Y
  refine ⟨K, KX, ?_⟩
  obtain ⟨i0, hd, e2, o⟩ := hlaw
  obtain ⟨fd, F⟩ := c.defs i0 d hd
  have ej : t.fA K j = d.pl.ad K := by
    unfold Tx.fA
    rw [e2]
  have efa : fa = d.pl.ad K := by
    have z := gl_of (prog := l.prog) (w := w) (base := h) KX Gs c.more g (.fn j) hg
    have z1 : mg (nmOf t.gns g) = some (.ref (t.fA K j)) := z.1
    rw [hgn, hmg, ej] at z1
    cases z1
    rfl
  subst efa
  obtain ⟨mm, hck⟩ := o.ck
  have hbt : ∀ (s : Shared) (u : Value), BindsTo s fd ⟨[u], []⟩ [(px, u)] := fun s u => by
    obtain ⟨oc, od, dV, kV, doc, pm, an, cdv, ct, osl, rfl, lk, hcd, hD, hK⟩ := F.ex
    have eV : dV = .none := by
      rcases hD with ⟨_, e⟩ | ⟨e, _⟩
      · exact e
      · exact absurd (by unfold Df.dvs; rw [hb.1]; rfl) e
    subst eV
    exact .of_eq (hb.2 u kV doc pm an cdv ct)
  have memT : ∀ p ∈ t.tabs.map (fun f => tabA K (t.fA K f)), ∃ f ∈ t.tabs, tabA K (t.fA K f) = p := fun p hp => List.mem_map.mp hp
  refine ⟨fd, t.tabs.map (fun f => tabA K (t.fA K f)), fun vs H Q E => ∀ base, spLaw (t.gam K l.prog w mg base) k d.N D vs H Q E, fun p hp => ?_, fun p hp => ?_, fun p hp => ?_, hbt, fun H a ns hl hz hH hS base => ?_, fun base KB GB hTB => ?_⟩
  · obtain ⟨f, hf, rfl⟩ := memT p hp
    exact (cT f hf).2.2
  · obtain ⟨f, hf, rfl⟩ := memT p hp
    exact (cT f hf).2.1
  · obtain ⟨f, hf, rfl⟩ := memT p hp
    exact PySem.W.codeHd_of_K KX (cT f hf).1
  · refine law_sp o.len (nl_of c.more) hS (fun ti hti => ?_) (nd_of c.more) ?_
    · obtain ⟨f, hf, rfl⟩ := List.mem_map.mp hti
      exact hH _ (List.mem_map.mpr ⟨f, hf, rfl⟩)
    · have := run ns hl hz
      show ∃ h', ((t.gam K l.prog w mg base).at_ k).ss (startS D.n [.frl (ns.map T.int)]) D.body ((List.range (t.tabs.map (t.tabI K)).length).map MO.tab) = some (.rt (.bl true), h')
      rw [List.length_map]
      exact this
  · have lv := (lvl_all (Γ := t.gam K l.prog w mg base) (wd_of KB GB hs c.more (fun f hf => hTB _ (List.mem_map.mpr ⟨f, hf, rfl⟩)) c.defs hxo) (gl_of KB GB c.more) (bo_of hs) (fun f D' hf => by
      obtain ⟨i2, d2, q1, q2, o2⟩ := hall f D' hf
      exact fnF_of q2 (c.defs i2 d2 q1) o2) k) k (Nat.le_refl k)
    have S := o.S
    rw [hp1] at S
    have F' : FunD (t.gam K l.prog w mg base).K d.name d.qual (L2.defArgs d.st) (L2.defBody d.st) (L2.defScope d.st) d.dvs d.kws (t.fA K j) fd := by rw [ej]; exact F
    have z := law_fn (f := j) (d := D) lv.2 F' (fun i ti e hm => marks_ok (aF := 0) e2 F o i ti e hm) S hck
    rw [← ej]
    exact z.imp fun vs H Q E y => y base
end Ev
end
section
set_option Elab.async false
set_option linter.all false
set_option maxRecDepth 100000
set_option maxHeartbeats 0
namespace LW
open PySem PySem.Spec PyProof.Rows L2 Ev
theorem ok_Row_add : DfOk tx 74 d_Row_add f_Row_add where
  S := ⟨rfl, rfl, rfl, by decide +kernel, rfl, by decide +kernel, by decide +kernel⟩
  len := rfl
  ck := ⟨60, by decide +kernel⟩
  mrk := by decide +kernel
  ql := by decide +kernel
  lam := fun h => nomatch h
  pos := fun _ => ⟨rfl, fun nk h => by
    simp only [f_Row_add, List.mem_cons, List.not_mem_nil, or_false] at h
    rcases h with rfl
    · exact fun us ws h1 h2 => match us, ws, h1, h2 with
        | [u0, u1], [], _, _ => ⟨[u0, u1], rfl, fun _ _ _ _ _ _ => rfl⟩⟩
  str := fun h => nomatch h
theorem ok_Row_bool : DfOk tx 75 d_Row_bool f_Row_bool where
  S := ⟨rfl, rfl, rfl, by decide +kernel, rfl, by decide +kernel, by decide +kernel⟩
  len := rfl
  ck := ⟨60, by decide +kernel⟩
  mrk := by decide +kernel
  ql := by decide +kernel
  lam := fun h => nomatch h
  pos := fun _ => ⟨rfl, fun nk h => by
    simp only [f_Row_bool, List.mem_cons, List.not_mem_nil, or_false] at h
    rcases h with rfl
    · exact fun us ws h1 h2 => match us, ws, h1, h2 with
        | [u0], [], _, _ => ⟨[u0], rfl, fun _ _ _ _ _ _ => rfl⟩⟩
  str := fun h => nomatch h
theorem ok_Row_contains : DfOk tx 76 d_Row_contains f_Row_contains where
  S := ⟨rfl, rfl, rfl, by decide +kernel, rfl, by decide +kernel, by decide +kernel⟩
  len := rfl
  ck := ⟨60, by decide +kernel⟩
  mrk := by decide +kernel
  ql := by decide +kernel
  lam := fun h => nomatch h
  pos := fun _ => ⟨rfl, fun nk h => by
    simp only [f_Row_contains, List.mem_cons, List.not_mem_nil, or_false] at h
    rcases h with rfl
    · exact fun us ws h1 h2 => match us, ws, h1, h2 with
        | [u0, u1], [], _, _ => ⟨[u0, u1], rfl, fun _ _ _ _ _ _ => rfl⟩⟩
  str := fun h => nomatch h
theorem ok_Row_eq : DfOk tx 77 d_Row_eq f_Row_eq where
  S := ⟨rfl, rfl, rfl, by decide +kernel, rfl, by decide +kernel, by decide +kernel⟩
  len := rfl
  ck := ⟨60, by decide +kernel⟩
  mrk := by decide +kernel
  ql := by decide +kernel
  lam := fun h => nomatch h
  pos := fun _ => ⟨rfl, fun nk h => by
    simp only [f_Row_eq, List.mem_cons, List.not_mem_nil, or_false] at h
    rcases h with rfl
    · exact fun us ws h1 h2 => match us, ws, h1, h2 with
        | [u0, u1], [], _, _ => ⟨[u0, u1], rfl, fun _ _ _ _ _ _ => rfl⟩⟩
  str := fun h => nomatch h
theorem ok_Row_getitem : DfOk tx 78 d_Row_getitem f_Row_getitem where
  S := ⟨rfl, rfl, rfl, by decide +kernel, rfl, by decide +kernel, by decide +kernel⟩
  len := rfl
  ck := ⟨60, by decide +kernel⟩
  mrk := by decide +kernel
  ql := by decide +kernel
  lam := fun h => nomatch h
  pos := fun _ => ⟨rfl, fun nk h => by
    simp only [f_Row_getitem, List.mem_cons, List.not_mem_nil, or_false] at h
    rcases h with rfl
    · exact fun us ws h1 h2 => match us, ws, h1, h2 with
        | [u0, u1], [], _, _ => ⟨[u0, u1], rfl, fun _ _ _ _ _ _ => rfl⟩⟩
  str := fun h => nomatch h
theorem ok_Row_init : DfOk tx 79 d_Row_init f_Row_init where
  S := ⟨rfl, rfl, rfl, by decide +kernel, rfl, by decide +kernel, by decide +kernel⟩
  len := rfl
  ck := ⟨60, by decide +kernel⟩
  mrk := by decide +kernel
  ql := by decide +kernel
  lam := fun h => nomatch h
  pos := fun h => nomatch h
  str := fun _ => ⟨rfl, "tickets", rfl, fun us rest h => match us, h with
    | [u0], _ => fun _ _ _ _ _ _ => by cases rest <;> rfl⟩
theorem ok_Row_iter : DfOk tx 80 d_Row_iter f_Row_iter where
  S := ⟨rfl, rfl, rfl, by decide +kernel, rfl, by decide +kernel, by decide +kernel⟩
  len := rfl
  ck := ⟨60, by decide +kernel⟩
  mrk := by decide +kernel
  ql := by decide +kernel
  lam := fun h => nomatch h
  pos := fun _ => ⟨rfl, fun nk h => by
    exact (List.not_mem_nil h).elim⟩
  str := fun h => nomatch h
theorem ok_Row_len : DfOk tx 81 d_Row_len f_Row_len where
  S := ⟨rfl, rfl, rfl, by decide +kernel, rfl, by decide +kernel, by decide +kernel⟩
  len := rfl
  ck := ⟨60, by decide +kernel⟩
  mrk := by decide +kernel
  ql := by decide +kernel
  lam := fun h => nomatch h
  pos := fun _ => ⟨rfl, fun nk h => by
    simp only [f_Row_len, List.mem_cons, List.not_mem_nil, or_false] at h
    rcases h with rfl
    · exact fun us ws h1 h2 => match us, ws, h1, h2 with
        | [u0], [], _, _ => ⟨[u0], rfl, fun _ _ _ _ _ _ => rfl⟩⟩
  str := fun h => nomatch h
theorem ok_Row_lt : DfOk tx 82 d_Row_lt f_Row_lt where
  S := ⟨rfl, rfl, rfl, by decide +kernel, rfl, by decide +kernel, by decide +kernel⟩
  len := rfl
  ck := ⟨60, by decide +kernel⟩
  mrk := by decide +kernel
  ql := by decide +kernel
  lam := fun h => nomatch h
  pos := fun _ => ⟨rfl, fun nk h => by
    simp only [f_Row_lt, List.mem_cons, List.not_mem_nil, or_false] at h
    rcases h with rfl
    · exact fun us ws h1 h2 => match us, ws, h1, h2 with
        | [u0, u1], [], _, _ => ⟨[u0, u1], rfl, fun _ _ _ _ _ _ => rfl⟩⟩
  str := fun h => nomatch h
theorem ok_Row_begin : DfOk tx 83 d_Row_begin f_Row_begin where
  S := ⟨rfl, rfl, rfl, by decide +kernel, rfl, by decide +kernel, by decide +kernel⟩
  len := rfl
  ck := ⟨60, by decide +kernel⟩
  mrk := by decide +kernel
  ql := by decide +kernel
  lam := fun h => nomatch h
  pos := fun _ => ⟨rfl, fun nk h => by
    simp only [f_Row_begin, List.mem_cons, List.not_mem_nil, or_false] at h
    rcases h with rfl
    · exact fun us ws h1 h2 => match us, ws, h1, h2 with
        | [u0], [], _, _ => ⟨[u0], rfl, fun _ _ _ _ _ _ => rfl⟩⟩
  str := fun h => nomatch h
theorem ok_Row_climb : DfOk tx 84 d_Row_climb f_Row_climb where
  S := ⟨rfl, rfl, rfl, by decide +kernel, rfl, by decide +kernel, by decide +kernel⟩
  len := rfl
  ck := ⟨60, by decide +kernel⟩
  mrk := by decide +kernel
  ql := by decide +kernel
  lam := fun h => nomatch h
  pos := fun _ => ⟨rfl, fun nk h => by
    simp only [f_Row_climb, List.mem_cons, List.not_mem_nil, or_false] at h
    rcases h with rfl
    · exact fun us ws h1 h2 => match us, ws, h1, h2 with
        | [u0], [], _, _ => ⟨[u0], rfl, fun _ _ _ _ _ _ => rfl⟩⟩
  str := fun h => nomatch h
theorem ok_Row_cut : DfOk tx 85 d_Row_cut f_Row_cut where
  S := ⟨rfl, rfl, rfl, by decide +kernel, rfl, by decide +kernel, by decide +kernel⟩
  len := rfl
  ck := ⟨60, by decide +kernel⟩
  mrk := by decide +kernel
  ql := by decide +kernel
  lam := fun h => nomatch h
  pos := fun _ => ⟨rfl, fun nk h => by
    exact (List.not_mem_nil h).elim⟩
  str := fun h => nomatch h
theorem ok_Row_end : DfOk tx 86 d_Row_end f_Row_end where
  S := ⟨rfl, rfl, rfl, by decide +kernel, rfl, by decide +kernel, by decide +kernel⟩
  len := rfl
  ck := ⟨60, by decide +kernel⟩
  mrk := by decide +kernel
  ql := by decide +kernel
  lam := fun h => nomatch h
  pos := fun _ => ⟨rfl, fun nk h => by
    simp only [f_Row_end, List.mem_cons, List.not_mem_nil, or_false] at h
    rcases h with rfl
    · exact fun us ws h1 h2 => match us, ws, h1, h2 with
        | [u0], [], _, _ => ⟨[u0], rfl, fun _ _ _ _ _ _ => rfl⟩⟩
  str := fun h => nomatch h
theorem ok_Row_tickets : DfOk tx 87 d_Row_tickets f_Row_tickets where
  S := ⟨rfl, rfl, rfl, by decide +kernel, rfl, by decide +kernel, by decide +kernel⟩
  len := rfl
  ck := ⟨60, by decide +kernel⟩
  mrk := by decide +kernel
  ql := by decide +kernel
  lam := fun h => nomatch h
  pos := fun _ => ⟨rfl, fun nk h => by
    simp only [f_Row_tickets, List.mem_cons, List.not_mem_nil, or_false] at h
    rcases h with rfl
    · exact fun us ws h1 h2 => match us, ws, h1, h2 with
        | [u0], [], _, _ => ⟨[u0], rfl, fun _ _ _ _ _ _ => rfl⟩⟩
  str := fun h => nomatch h
theorem ok_Row_turned : DfOk tx 88 d_Row_turned f_Row_turned where
  S := ⟨rfl, rfl, rfl, by decide +kernel, rfl, by decide +kernel, by decide +kernel⟩
  len := rfl
  ck := ⟨60, by decide +kernel⟩
  mrk := by decide +kernel
  ql := by decide +kernel
  lam := fun h => nomatch h
  pos := fun _ => ⟨rfl, fun nk h => by
    simp only [f_Row_turned, List.mem_cons, List.not_mem_nil, or_false] at h
    rcases h with rfl
    · exact fun us ws h1 h2 => match us, ws, h1, h2 with
        | [u0], [], _, _ => ⟨[u0], rfl, fun _ _ _ _ _ _ => rfl⟩⟩
  str := fun h => nomatch h
theorem ok_Ticket_contains : DfOk tx 89 d_Ticket_contains f_Ticket_contains where
  S := ⟨rfl, rfl, rfl, by decide +kernel, rfl, by decide +kernel, by decide +kernel⟩
  len := rfl
  ck := ⟨60, by decide +kernel⟩
  mrk := by decide +kernel
  ql := by decide +kernel
  lam := fun h => nomatch h
  pos := fun _ => ⟨rfl, fun nk h => by
    simp only [f_Ticket_contains, List.mem_cons, List.not_mem_nil, or_false] at h
    rcases h with rfl
    · exact fun us ws h1 h2 => match us, ws, h1, h2 with
        | [u0, u1], [], _, _ => ⟨[u0, u1], rfl, fun _ _ _ _ _ _ => rfl⟩⟩
  str := fun h => nomatch h
theorem ok_Ticket_eq : DfOk tx 90 d_Ticket_eq f_Ticket_eq where
  S := ⟨rfl, rfl, rfl, by decide +kernel, rfl, by decide +kernel, by decide +kernel⟩
  len := rfl
  ck := ⟨60, by decide +kernel⟩
  mrk := by decide +kernel
  ql := by decide +kernel
  lam := fun h => nomatch h
  pos := fun _ => ⟨rfl, fun nk h => by
    simp only [f_Ticket_eq, List.mem_cons, List.not_mem_nil, or_false] at h
    rcases h with rfl
    · exact fun us ws h1 h2 => match us, ws, h1, h2 with
        | [u0, u1], [], _, _ => ⟨[u0, u1], rfl, fun _ _ _ _ _ _ => rfl⟩⟩
  str := fun h => nomatch h
theorem ok_Ticket_getitem : DfOk tx 91 d_Ticket_getitem f_Ticket_getitem where
  S := ⟨rfl, rfl, rfl, by decide +kernel, rfl, by decide +kernel, by decide +kernel⟩
  len := rfl
  ck := ⟨60, by decide +kernel⟩
  mrk := by decide +kernel
  ql := by decide +kernel
  lam := fun h => nomatch h
  pos := fun _ => ⟨rfl, fun nk h => by
    simp only [f_Ticket_getitem, List.mem_cons, List.not_mem_nil, or_false] at h
    rcases h with rfl
    · exact fun us ws h1 h2 => match us, ws, h1, h2 with
        | [u0, u1], [], _, _ => ⟨[u0, u1], rfl, fun _ _ _ _ _ _ => rfl⟩⟩
  str := fun h => nomatch h
theorem ok_Ticket_init : DfOk tx 92 d_Ticket_init f_Ticket_init where
  S := ⟨rfl, rfl, rfl, by decide +kernel, rfl, by decide +kernel, by decide +kernel⟩
  len := rfl
  ck := ⟨60, by decide +kernel⟩
  mrk := by decide +kernel
  ql := by decide +kernel
  lam := fun h => nomatch h
  pos := fun _ => ⟨rfl, fun nk h => by
    simp only [f_Ticket_init, List.mem_cons, List.not_mem_nil, or_false] at h
    rcases h with rfl | rfl
    · exact fun us ws h1 h2 => match us, ws, h1, h2 with
        | [u0], [w0, w1], _, _ => ⟨[u0, w1, w0], rfl, fun _ _ _ _ _ _ => rfl⟩
    · exact fun us ws h1 h2 => match us, ws, h1, h2 with
        | [u0, u1, u2], [], _, _ => ⟨[u0, u1, u2], rfl, fun _ _ _ _ _ _ => rfl⟩⟩
  str := fun h => nomatch h
theorem ok_Ticket_iter : DfOk tx 93 d_Ticket_iter f_Ticket_iter where
  S := ⟨rfl, rfl, rfl, by decide +kernel, rfl, by decide +kernel, by decide +kernel⟩
  len := rfl
  ck := ⟨60, by decide +kernel⟩
  mrk := by decide +kernel
  ql := by decide +kernel
  lam := fun h => nomatch h
  pos := fun _ => ⟨rfl, fun nk h => by
    exact (List.not_mem_nil h).elim⟩
  str := fun h => nomatch h
theorem ok_Ticket_lt : DfOk tx 94 d_Ticket_lt f_Ticket_lt where
  S := ⟨rfl, rfl, rfl, by decide +kernel, rfl, by decide +kernel, by decide +kernel⟩
  len := rfl
  ck := ⟨60, by decide +kernel⟩
  mrk := by decide +kernel
  ql := by decide +kernel
  lam := fun h => nomatch h
  pos := fun _ => ⟨rfl, fun nk h => by
    simp only [f_Ticket_lt, List.mem_cons, List.not_mem_nil, or_false] at h
    rcases h with rfl
    · exact fun us ws h1 h2 => match us, ws, h1, h2 with
        | [u0, u1], [], _, _ => ⟨[u0, u1], rfl, fun _ _ _ _ _ _ => rfl⟩⟩
  str := fun h => nomatch h
theorem ok_Ticket_is_down : DfOk tx 95 d_Ticket_is_down f_Ticket_is_down where
  S := ⟨rfl, rfl, rfl, by decide +kernel, rfl, by decide +kernel, by decide +kernel⟩
  len := rfl
  ck := ⟨60, by decide +kernel⟩
  mrk := by decide +kernel
  ql := by decide +kernel
  lam := fun h => nomatch h
  pos := fun _ => ⟨rfl, fun nk h => by
    exact (List.not_mem_nil h).elim⟩
  str := fun h => nomatch h
theorem ok_Ticket_is_up : DfOk tx 96 d_Ticket_is_up f_Ticket_is_up where
  S := ⟨rfl, rfl, rfl, by decide +kernel, rfl, by decide +kernel, by decide +kernel⟩
  len := rfl
  ck := ⟨60, by decide +kernel⟩
  mrk := by decide +kernel
  ql := by decide +kernel
  lam := fun h => nomatch h
  pos := fun _ => ⟨rfl, fun nk h => by
    exact (List.not_mem_nil h).elim⟩
  str := fun h => nomatch h
theorem ok_Ticket_turned : DfOk tx 97 d_Ticket_turned f_Ticket_turned where
  S := ⟨rfl, rfl, rfl, by decide +kernel, rfl, by decide +kernel, by decide +kernel⟩
  len := rfl
  ck := ⟨60, by decide +kernel⟩
  mrk := by decide +kernel
  ql := by decide +kernel
  lam := fun h => nomatch h
  pos := fun _ => ⟨rfl, fun nk h => by
    simp only [f_Ticket_turned, List.mem_cons, List.not_mem_nil, or_false] at h
    rcases h with rfl
    · exact fun us ws h1 h2 => match us, ws, h1, h2 with
        | [u0], [], _, _ => ⟨[u0], rfl, fun _ _ _ _ _ _ => rfl⟩⟩
  str := fun h => nomatch h
theorem ok_Ticket_x : DfOk tx 98 d_Ticket_x f_Ticket_x where
  S := ⟨rfl, rfl, rfl, by decide +kernel, rfl, by decide +kernel, by decide +kernel⟩
  len := rfl
  ck := ⟨60, by decide +kernel⟩
  mrk := by decide +kernel
  ql := by decide +kernel
  lam := fun h => nomatch h
  pos := fun _ => ⟨rfl, fun nk h => by
    simp only [f_Ticket_x, List.mem_cons, List.not_mem_nil, or_false] at h
    rcases h with rfl
    · exact fun us ws h1 h2 => match us, ws, h1, h2 with
        | [u0], [], _, _ => ⟨[u0], rfl, fun _ _ _ _ _ _ => rfl⟩⟩
  str := fun h => nomatch h
theorem ok_Ticket_y : DfOk tx 99 d_Ticket_y f_Ticket_y where
  S := ⟨rfl, rfl, rfl, by decide +kernel, rfl, by decide +kernel, by decide +kernel⟩
  len := rfl
  ck := ⟨60, by decide +kernel⟩
  mrk := by decide +kernel
  ql := by decide +kernel
  lam := fun h => nomatch h
  pos := fun _ => ⟨rfl, fun nk h => by
    simp only [f_Ticket_y, List.mem_cons, List.not_mem_nil, or_false] at h
    rcases h with rfl
    · exact fun us ws h1 h2 => match us, ws, h1, h2 with
        | [u0], [], _, _ => ⟨[u0], rfl, fun _ _ _ _ _ _ => rfl⟩⟩
  str := fun h => nomatch h
theorem ok_Trip_add : DfOk tx 100 d_Trip_add f_Trip_add where
  S := ⟨rfl, rfl, rfl, by decide +kernel, rfl, by decide +kernel, by decide +kernel⟩
  len := rfl
  ck := ⟨60, by decide +kernel⟩
  mrk := by decide +kernel
  ql := by decide +kernel
  lam := fun h => nomatch h
  pos := fun _ => ⟨rfl, fun nk h => by
    simp only [f_Trip_add, List.mem_cons, List.not_mem_nil, or_false] at h
    rcases h with rfl
    · exact fun us ws h1 h2 => match us, ws, h1, h2 with
        | [u0, u1], [], _, _ => ⟨[u0, u1], rfl, fun _ _ _ _ _ _ => rfl⟩⟩
  str := fun h => nomatch h
theorem ok_Trip_bool : DfOk tx 101 d_Trip_bool f_Trip_bool where
  S := ⟨rfl, rfl, rfl, by decide +kernel, rfl, by decide +kernel, by decide +kernel⟩
  len := rfl
  ck := ⟨60, by decide +kernel⟩
  mrk := by decide +kernel
  ql := by decide +kernel
  lam := fun h => nomatch h
  pos := fun _ => ⟨rfl, fun nk h => by
    simp only [f_Trip_bool, List.mem_cons, List.not_mem_nil, or_false] at h
    rcases h with rfl
    · exact fun us ws h1 h2 => match us, ws, h1, h2 with
        | [u0], [], _, _ => ⟨[u0], rfl, fun _ _ _ _ _ _ => rfl⟩⟩
  str := fun h => nomatch h
theorem ok_Trip_contains : DfOk tx 102 d_Trip_contains f_Trip_contains where
  S := ⟨rfl, rfl, rfl, by decide +kernel, rfl, by decide +kernel, by decide +kernel⟩
  len := rfl
  ck := ⟨60, by decide +kernel⟩
  mrk := by decide +kernel
  ql := by decide +kernel
  lam := fun h => nomatch h
  pos := fun _ => ⟨rfl, fun nk h => by
    simp only [f_Trip_contains, List.mem_cons, List.not_mem_nil, or_false] at h
    rcases h with rfl
    · exact fun us ws h1 h2 => match us, ws, h1, h2 with
        | [u0, u1], [], _, _ => ⟨[u0, u1], rfl, fun _ _ _ _ _ _ => rfl⟩⟩
  str := fun h => nomatch h
theorem ok_Trip_eq : DfOk tx 103 d_Trip_eq f_Trip_eq where
  S := ⟨rfl, rfl, rfl, by decide +kernel, rfl, by decide +kernel, by decide +kernel⟩
  len := rfl
  ck := ⟨60, by decide +kernel⟩
  mrk := by decide +kernel
  ql := by decide +kernel
  lam := fun h => nomatch h
  pos := fun _ => ⟨rfl, fun nk h => by
    simp only [f_Trip_eq, List.mem_cons, List.not_mem_nil, or_false] at h
    rcases h with rfl
    · exact fun us ws h1 h2 => match us, ws, h1, h2 with
        | [u0, u1], [], _, _ => ⟨[u0, u1], rfl, fun _ _ _ _ _ _ => rfl⟩⟩
  str := fun h => nomatch h
theorem ok_Trip_init : DfOk tx 104 d_Trip_init f_Trip_init where
  S := ⟨rfl, rfl, rfl, by decide +kernel, rfl, by decide +kernel, by decide +kernel⟩
  len := rfl
  ck := ⟨60, by decide +kernel⟩
  mrk := by decide +kernel
  ql := by decide +kernel
  lam := fun h => nomatch h
  pos := fun _ => ⟨rfl, fun nk h => by
    simp only [f_Trip_init, List.mem_cons, List.not_mem_nil, or_false] at h
    rcases h with rfl | rfl
    · exact fun us ws h1 h2 => match us, ws, h1, h2 with
        | [u0], [w0, w1, w2], _, _ => ⟨[u0, w2, w1, w0], rfl, fun _ _ _ _ _ _ => rfl⟩
    · exact fun us ws h1 h2 => match us, ws, h1, h2 with
        | [u0, u1, u2, u3], [], _, _ => ⟨[u0, u1, u2, u3], rfl, fun _ _ _ _ _ _ => rfl⟩⟩
  str := fun h => nomatch h
theorem ok_Trip_len : DfOk tx 105 d_Trip_len f_Trip_len where
  S := ⟨rfl, rfl, rfl, by decide +kernel, rfl, by decide +kernel, by decide +kernel⟩
  len := rfl
  ck := ⟨60, by decide +kernel⟩
  mrk := by decide +kernel
  ql := by decide +kernel
  lam := fun h => nomatch h
  pos := fun _ => ⟨rfl, fun nk h => by
    simp only [f_Trip_len, List.mem_cons, List.not_mem_nil, or_false] at h
    rcases h with rfl
    · exact fun us ws h1 h2 => match us, ws, h1, h2 with
        | [u0], [], _, _ => ⟨[u0], rfl, fun _ _ _ _ _ _ => rfl⟩⟩
  str := fun h => nomatch h
theorem ok_Trip_lt : DfOk tx 106 d_Trip_lt f_Trip_lt where
  S := ⟨rfl, rfl, rfl, by decide +kernel, rfl, by decide +kernel, by decide +kernel⟩
  len := rfl
  ck := ⟨60, by decide +kernel⟩
  mrk := by decide +kernel
  ql := by decide +kernel
  lam := fun h => nomatch h
  pos := fun _ => ⟨rfl, fun nk h => by
    simp only [f_Trip_lt, List.mem_cons, List.not_mem_nil, or_false] at h
    rcases h with rfl
    · exact fun us ws h1 h2 => match us, ws, h1, h2 with
        | [u0, u1], [], _, _ => ⟨[u0, u1], rfl, fun _ _ _ _ _ _ => rfl⟩⟩
  str := fun h => nomatch h
theorem ok_Trip_climbed : DfOk tx 107 d_Trip_climbed f_Trip_climbed where
  S := ⟨rfl, rfl, rfl, by decide +kernel, rfl, by decide +kernel, by decide +kernel⟩
  len := rfl
  ck := ⟨60, by decide +kernel⟩
  mrk := by decide +kernel
  ql := by decide +kernel
  lam := fun h => nomatch h
  pos := fun _ => ⟨rfl, fun nk h => by
    simp only [f_Trip_climbed, List.mem_cons, List.not_mem_nil, or_false] at h
    rcases h with rfl
    · exact fun us ws h1 h2 => match us, ws, h1, h2 with
        | [u0], [], _, _ => ⟨[u0], rfl, fun _ _ _ _ _ _ => rfl⟩⟩
  str := fun h => nomatch h
theorem ok_Trip_end : DfOk tx 108 d_Trip_end f_Trip_end where
  S := ⟨rfl, rfl, rfl, by decide +kernel, rfl, by decide +kernel, by decide +kernel⟩
  len := rfl
  ck := ⟨60, by decide +kernel⟩
  mrk := by decide +kernel
  ql := by decide +kernel
  lam := fun h => nomatch h
  pos := fun _ => ⟨rfl, fun nk h => by
    simp only [f_Trip_end, List.mem_cons, List.not_mem_nil, or_false] at h
    rcases h with rfl
    · exact fun us ws h1 h2 => match us, ws, h1, h2 with
        | [u0], [], _, _ => ⟨[u0], rfl, fun _ _ _ _ _ _ => rfl⟩⟩
  str := fun h => nomatch h
theorem ok_Trip_row : DfOk tx 109 d_Trip_row f_Trip_row where
  S := ⟨rfl, rfl, rfl, by decide +kernel, rfl, by decide +kernel, by decide +kernel⟩
  len := rfl
  ck := ⟨60, by decide +kernel⟩
  mrk := by decide +kernel
  ql := by decide +kernel
  lam := fun h => nomatch h
  pos := fun _ => ⟨rfl, fun nk h => by
    simp only [f_Trip_row, List.mem_cons, List.not_mem_nil, or_false] at h
    rcases h with rfl
    · exact fun us ws h1 h2 => match us, ws, h1, h2 with
        | [u0], [], _, _ => ⟨[u0], rfl, fun _ _ _ _ _ _ => rfl⟩⟩
  str := fun h => nomatch h
theorem ok_Trip_start : DfOk tx 110 d_Trip_start f_Trip_start where
  S := ⟨rfl, rfl, rfl, by decide +kernel, rfl, by decide +kernel, by decide +kernel⟩
  len := rfl
  ck := ⟨60, by decide +kernel⟩
  mrk := by decide +kernel
  ql := by decide +kernel
  lam := fun h => nomatch h
  pos := fun _ => ⟨rfl, fun nk h => by
    simp only [f_Trip_start, List.mem_cons, List.not_mem_nil, or_false] at h
    rcases h with rfl
    · exact fun us ws h1 h2 => match us, ws, h1, h2 with
        | [u0], [], _, _ => ⟨[u0], rfl, fun _ _ _ _ _ _ => rfl⟩⟩
  str := fun h => nomatch h
theorem ok_first_break : DfOk tx 128 d_first_break f_first_break where
  S := ⟨rfl, rfl, rfl, by decide +kernel, rfl, by decide +kernel, by decide +kernel⟩
  len := rfl
  ck := ⟨60, by decide +kernel⟩
  mrk := by decide +kernel
  ql := by decide +kernel
  lam := fun h => nomatch h
  pos := fun _ => ⟨rfl, fun nk h => by
    simp only [f_first_break, List.mem_cons, List.not_mem_nil, or_false] at h
    rcases h with rfl
    · exact fun us ws h1 h2 => match us, ws, h1, h2 with
        | [u0], [], _, _ => ⟨[u0], rfl, fun _ _ _ _ _ _ => rfl⟩⟩
  str := fun h => nomatch h
theorem ok_is_between : DfOk tx 134 d_is_between f_is_between where
  S := ⟨rfl, rfl, rfl, by decide +kernel, rfl, by decide +kernel, by decide +kernel⟩
  len := rfl
  ck := ⟨60, by decide +kernel⟩
  mrk := by decide +kernel
  ql := by decide +kernel
  lam := fun h => nomatch h
  pos := fun _ => ⟨rfl, fun nk h => by
    simp only [f_is_between, List.mem_cons, List.not_mem_nil, or_false] at h
    rcases h with rfl
    · exact fun us ws h1 h2 => match us, ws, h1, h2 with
        | [u0, u1, u2], [], _, _ => ⟨[u0, u1, u2], rfl, fun _ _ _ _ _ _ => rfl⟩⟩
  str := fun h => nomatch h
theorem ok_is_height : DfOk tx 136 d_is_height f_is_height where
  S := ⟨rfl, rfl, rfl, by decide +kernel, rfl, by decide +kernel, by decide +kernel⟩
  len := rfl
  ck := ⟨60, by decide +kernel⟩
  mrk := by decide +kernel
  ql := by decide +kernel
  lam := fun h => nomatch h
  pos := fun _ => ⟨rfl, fun nk h => by
    simp only [f_is_height, List.mem_cons, List.not_mem_nil, or_false] at h
    rcases h with rfl
    · exact fun us ws h1 h2 => match us, ws, h1, h2 with
        | [u0], [], _, _ => ⟨[u0], rfl, fun _ _ _ _ _ _ => rfl⟩⟩
  str := fun h => nomatch h
theorem ok_is_integer : DfOk tx 137 d_is_integer f_is_integer where
  S := ⟨rfl, rfl, rfl, by decide +kernel, rfl, by decide +kernel, by decide +kernel⟩
  len := rfl
  ck := ⟨60, by decide +kernel⟩
  mrk := by decide +kernel
  ql := by decide +kernel
  lam := fun h => nomatch h
  pos := fun _ => ⟨rfl, fun nk h => by
    simp only [f_is_integer, List.mem_cons, List.not_mem_nil, or_false] at h
    rcases h with rfl
    · exact fun us ws h1 h2 => match us, ws, h1, h2 with
        | [u0], [], _, _ => ⟨[u0], rfl, fun _ _ _ _ _ _ => rfl⟩⟩
  str := fun h => nomatch h
theorem ok_law_begun : DfOk tx 182 d_law_begun f_law_begun where
  S := ⟨rfl, rfl, rfl, by decide +kernel, rfl, by decide +kernel, by decide +kernel⟩
  len := rfl
  ck := ⟨60, by decide +kernel⟩
  mrk := by decide +kernel
  ql := by decide +kernel
  lam := fun h => nomatch h
  pos := fun _ => ⟨rfl, fun nk h => by
    simp only [f_law_begun, List.mem_cons, List.not_mem_nil, or_false] at h
    rcases h with rfl
    · exact fun us ws h1 h2 => match us, ws, h1, h2 with
        | [u0], [], _, _ => ⟨[u0], rfl, fun _ _ _ _ _ _ => rfl⟩⟩
  str := fun h => nomatch h
theorem ok_law_class : DfOk tx 200 d_law_class f_law_class where
  S := ⟨rfl, rfl, rfl, by decide +kernel, rfl, by decide +kernel, by decide +kernel⟩
  len := rfl
  ck := ⟨60, by decide +kernel⟩
  mrk := by decide +kernel
  ql := by decide +kernel
  lam := fun h => nomatch h
  pos := fun _ => ⟨rfl, fun nk h => by
    simp only [f_law_class, List.mem_cons, List.not_mem_nil, or_false] at h
    rcases h with rfl
    · exact fun us ws h1 h2 => match us, ws, h1, h2 with
        | [u0], [], _, _ => ⟨[u0], rfl, fun _ _ _ _ _ _ => rfl⟩⟩
  str := fun h => nomatch h
theorem ok_law_draw : DfOk tx 226 d_law_draw f_law_draw where
  S := ⟨rfl, rfl, rfl, by decide +kernel, rfl, by decide +kernel, by decide +kernel⟩
  len := rfl
  ck := ⟨60, by decide +kernel⟩
  mrk := by decide +kernel
  ql := by decide +kernel
  lam := fun h => nomatch h
  pos := fun _ => ⟨rfl, fun nk h => by
    simp only [f_law_draw, List.mem_cons, List.not_mem_nil, or_false] at h
    rcases h with rfl
    · exact fun us ws h1 h2 => match us, ws, h1, h2 with
        | [u0, u1], [], _, _ => ⟨[u0, u1], rfl, fun _ _ _ _ _ _ => rfl⟩⟩
  str := fun h => nomatch h
theorem ok_law_folded : DfOk tx 252 d_law_folded f_law_folded where
  S := ⟨rfl, rfl, rfl, by decide +kernel, rfl, by decide +kernel, by decide +kernel⟩
  len := rfl
  ck := ⟨60, by decide +kernel⟩
  mrk := by decide +kernel
  ql := by decide +kernel
  lam := fun h => nomatch h
  pos := fun _ => ⟨rfl, fun nk h => by
    simp only [f_law_folded, List.mem_cons, List.not_mem_nil, or_false] at h
    rcases h with rfl
    · exact fun us ws h1 h2 => match us, ws, h1, h2 with
        | [u0], [], _, _ => ⟨[u0], rfl, fun _ _ _ _ _ _ => rfl⟩⟩
  str := fun h => nomatch h
theorem ok_law_mixed : DfOk tx 316 d_law_mixed f_law_mixed where
  S := ⟨rfl, rfl, rfl, by decide +kernel, rfl, by decide +kernel, by decide +kernel⟩
  len := rfl
  ck := ⟨60, by decide +kernel⟩
  mrk := by decide +kernel
  ql := by decide +kernel
  lam := fun h => nomatch h
  pos := fun _ => ⟨rfl, fun nk h => by
    simp only [f_law_mixed, List.mem_cons, List.not_mem_nil, or_false] at h
    rcases h with rfl
    · exact fun us ws h1 h2 => match us, ws, h1, h2 with
        | [u0, u1], [], _, _ => ⟨[u0, u1], rfl, fun _ _ _ _ _ _ => rfl⟩⟩
  str := fun h => nomatch h
theorem ok_law_path : DfOk tx 342 d_law_path f_law_path where
  S := ⟨rfl, rfl, rfl, by decide +kernel, rfl, by decide +kernel, by decide +kernel⟩
  len := rfl
  ck := ⟨60, by decide +kernel⟩
  mrk := by decide +kernel
  ql := by decide +kernel
  lam := fun h => nomatch h
  pos := fun _ => ⟨rfl, fun nk h => by
    simp only [f_law_path, List.mem_cons, List.not_mem_nil, or_false] at h
    rcases h with rfl
    · exact fun us ws h1 h2 => match us, ws, h1, h2 with
        | [u0, u1, u2, u3], [], _, _ => ⟨[u0, u1, u2, u3], rfl, fun _ _ _ _ _ _ => rfl⟩⟩
  str := fun h => nomatch h
theorem ok_law_row : DfOk tx 394 d_law_row f_law_row where
  S := ⟨rfl, rfl, rfl, by decide +kernel, rfl, by decide +kernel, by decide +kernel⟩
  len := rfl
  ck := ⟨60, by decide +kernel⟩
  mrk := by decide +kernel
  ql := by decide +kernel
  lam := fun h => nomatch h
  pos := fun _ => ⟨rfl, fun nk h => by
    simp only [f_law_row, List.mem_cons, List.not_mem_nil, or_false] at h
    rcases h with rfl
    · exact fun us ws h1 h2 => match us, ws, h1, h2 with
        | [u0], [], _, _ => ⟨[u0], rfl, fun _ _ _ _ _ _ => rfl⟩⟩
  str := fun h => nomatch h
theorem ok_law_sum_right : DfOk tx 421 d_law_sum_right f_law_sum_right where
  S := ⟨rfl, rfl, rfl, by decide +kernel, rfl, by decide +kernel, by decide +kernel⟩
  len := rfl
  ck := ⟨60, by decide +kernel⟩
  mrk := by decide +kernel
  ql := by decide +kernel
  lam := fun h => nomatch h
  pos := fun _ => ⟨rfl, fun nk h => by
    simp only [f_law_sum_right, List.mem_cons, List.not_mem_nil, or_false] at h
    rcases h with rfl
    · exact fun us ws h1 h2 => match us, ws, h1, h2 with
        | [u0, u1], [], _, _ => ⟨[u0, u1], rfl, fun _ _ _ _ _ _ => rfl⟩⟩
  str := fun h => nomatch h
theorem ok_law_told : DfOk tx 432 d_law_told f_law_told where
  S := ⟨rfl, rfl, rfl, by decide +kernel, rfl, by decide +kernel, by decide +kernel⟩
  len := rfl
  ck := ⟨60, by decide +kernel⟩
  mrk := by decide +kernel
  ql := by decide +kernel
  lam := fun _ => ⟨rfl, rfl, fun u => fun _ _ _ _ _ _ => rfl⟩
  pos := fun _ => ⟨rfl, fun nk h => by
    simp only [f_law_told, List.mem_cons, List.not_mem_nil, or_false] at h
    rcases h with rfl
    · exact fun us ws h1 h2 => match us, ws, h1, h2 with
        | [u0], [], _, _ => ⟨[u0], rfl, fun _ _ _ _ _ _ => rfl⟩⟩
  str := fun h => nomatch h
theorem ok_law_trip : DfOk tx 437 d_law_trip f_law_trip where
  S := ⟨rfl, rfl, rfl, by decide +kernel, rfl, by decide +kernel, by decide +kernel⟩
  len := rfl
  ck := ⟨60, by decide +kernel⟩
  mrk := by decide +kernel
  ql := by decide +kernel
  lam := fun h => nomatch h
  pos := fun _ => ⟨rfl, fun nk h => by
    simp only [f_law_trip, List.mem_cons, List.not_mem_nil, or_false] at h
    rcases h with rfl
    · exact fun us ws h1 h2 => match us, ws, h1, h2 with
        | [u0, u1], [], _, _ => ⟨[u0, u1], rfl, fun _ _ _ _ _ _ => rfl⟩⟩
  str := fun h => nomatch h
theorem ok_law_value_class : DfOk tx 448 d_law_value_class f_law_value_class where
  S := ⟨rfl, rfl, rfl, by decide +kernel, rfl, by decide +kernel, by decide +kernel⟩
  len := rfl
  ck := ⟨60, by decide +kernel⟩
  mrk := by decide +kernel
  ql := by decide +kernel
  lam := fun h => nomatch h
  pos := fun _ => ⟨rfl, fun nk h => by
    simp only [f_law_value_class, List.mem_cons, List.not_mem_nil, or_false] at h
    rcases h with rfl
    · exact fun us ws h1 h2 => match us, ws, h1, h2 with
        | [u0], [], _, _ => ⟨[u0], rfl, fun _ _ _ _ _ _ => rfl⟩⟩
  str := fun h => nomatch h
theorem ok_law_written : DfOk tx 460 d_law_written f_law_written where
  S := ⟨rfl, rfl, rfl, by decide +kernel, rfl, by decide +kernel, by decide +kernel⟩
  len := rfl
  ck := ⟨60, by decide +kernel⟩
  mrk := by decide +kernel
  ql := by decide +kernel
  lam := fun h => nomatch h
  pos := fun _ => ⟨rfl, fun nk h => by
    simp only [f_law_written, List.mem_cons, List.not_mem_nil, or_false] at h
    rcases h with rfl
    · exact fun us ws h1 h2 => match us, ws, h1, h2 with
        | [u0], [], _, _ => ⟨[u0], rfl, fun _ _ _ _ _ _ => rfl⟩⟩
  str := fun h => nomatch h
theorem ok_law : DfOk tx 497 d_law f_law where
  S := ⟨rfl, rfl, rfl, by decide +kernel, rfl, by decide +kernel, by decide +kernel⟩
  len := rfl
  ck := ⟨60, by decide +kernel⟩
  mrk := by decide +kernel
  ql := by decide +kernel
  lam := fun h => nomatch h
  pos := fun _ => ⟨rfl, fun nk h => by
    simp only [f_law, List.mem_cons, List.not_mem_nil, or_false] at h
    rcases h with rfl
    · exact fun us ws h1 h2 => match us, ws, h1, h2 with
        | [u0], [], _, _ => ⟨[u0], rfl, fun _ _ _ _ _ _ => rfl⟩⟩
  str := fun h => nomatch h
def OkF (p : Nat × FnD) : Prop := ∃ (i : Nat) (d : Df), ds[i]? = some d ∧ tx.fps.lookup p.1 = some d.pl ∧ DfOk tx p.1 d p.2
theorem m0 : ∀ p ∈ fns0, OkF p := List.forall_mem_cons.mpr ⟨⟨0, d_Row_add, rfl, rfl, ok_Row_add⟩, List.forall_mem_cons.mpr ⟨⟨1, d_Row_bool, rfl, rfl, ok_Row_bool⟩, List.forall_mem_cons.mpr ⟨⟨2, d_Row_contains, rfl, rfl, ok_Row_contains⟩, List.forall_mem_cons.mpr ⟨⟨3, d_Row_eq, rfl, rfl, ok_Row_eq⟩, List.forall_mem_cons.mpr ⟨⟨4, d_Row_getitem, rfl, rfl, ok_Row_getitem⟩, List.forall_mem_cons.mpr ⟨⟨5, d_Row_init, rfl, rfl, ok_Row_init⟩, List.forall_mem_cons.mpr ⟨⟨6, d_Row_iter, rfl, rfl, ok_Row_iter⟩, List.forall_mem_cons.mpr ⟨⟨7, d_Row_len, rfl, rfl, ok_Row_len⟩, List.forall_mem_cons.mpr ⟨⟨8, d_Row_lt, rfl, rfl, ok_Row_lt⟩, List.forall_mem_cons.mpr ⟨⟨9, d_Row_begin, rfl, rfl, ok_Row_begin⟩, List.forall_mem_cons.mpr ⟨⟨10, d_Row_climb, rfl, rfl, ok_Row_climb⟩, List.forall_mem_cons.mpr ⟨⟨11, d_Row_cut, rfl, rfl, ok_Row_cut⟩, List.forall_mem_cons.mpr ⟨⟨12, d_Row_end, rfl, rfl, ok_Row_end⟩, List.forall_mem_cons.mpr ⟨⟨13, d_Row_tickets, rfl, rfl, ok_Row_tickets⟩, List.forall_mem_cons.mpr ⟨⟨14, d_Row_turned, rfl, rfl, ok_Row_turned⟩, List.forall_mem_cons.mpr ⟨⟨15, d_Ticket_contains, rfl, rfl, ok_Ticket_contains⟩, List.forall_mem_cons.mpr ⟨⟨16, d_Ticket_eq, rfl, rfl, ok_Ticket_eq⟩, List.forall_mem_cons.mpr ⟨⟨17, d_Ticket_getitem, rfl, rfl, ok_Ticket_getitem⟩, List.forall_mem_cons.mpr ⟨⟨18, d_Ticket_init, rfl, rfl, ok_Ticket_init⟩, List.forall_mem_cons.mpr ⟨⟨19, d_Ticket_iter, rfl, rfl, ok_Ticket_iter⟩, List.forall_mem_cons.mpr ⟨⟨20, d_Ticket_lt, rfl, rfl, ok_Ticket_lt⟩, List.forall_mem_cons.mpr ⟨⟨21, d_Ticket_is_down, rfl, rfl, ok_Ticket_is_down⟩, List.forall_mem_cons.mpr ⟨⟨22, d_Ticket_is_up, rfl, rfl, ok_Ticket_is_up⟩, List.forall_mem_cons.mpr ⟨⟨23, d_Ticket_turned, rfl, rfl, ok_Ticket_turned⟩, List.forall_mem_cons.mpr ⟨⟨24, d_Ticket_x, rfl, rfl, ok_Ticket_x⟩, List.forall_mem_nil _⟩⟩⟩⟩⟩⟩⟩⟩⟩⟩⟩⟩⟩⟩⟩⟩⟩⟩⟩⟩⟩⟩⟩⟩⟩
theorem m1 : ∀ p ∈ fns1, OkF p := List.forall_mem_cons.mpr ⟨⟨25, d_Ticket_y, rfl, rfl, ok_Ticket_y⟩, List.forall_mem_cons.mpr ⟨⟨26, d_Trip_add, rfl, rfl, ok_Trip_add⟩, List.forall_mem_cons.mpr ⟨⟨27, d_Trip_bool, rfl, rfl, ok_Trip_bool⟩, List.forall_mem_cons.mpr ⟨⟨28, d_Trip_contains, rfl, rfl, ok_Trip_contains⟩, List.forall_mem_cons.mpr ⟨⟨29, d_Trip_eq, rfl, rfl, ok_Trip_eq⟩, List.forall_mem_cons.mpr ⟨⟨30, d_Trip_init, rfl, rfl, ok_Trip_init⟩, List.forall_mem_cons.mpr ⟨⟨31, d_Trip_len, rfl, rfl, ok_Trip_len⟩, List.forall_mem_cons.mpr ⟨⟨32, d_Trip_lt, rfl, rfl, ok_Trip_lt⟩, List.forall_mem_cons.mpr ⟨⟨33, d_Trip_climbed, rfl, rfl, ok_Trip_climbed⟩, List.forall_mem_cons.mpr ⟨⟨34, d_Trip_end, rfl, rfl, ok_Trip_end⟩, List.forall_mem_cons.mpr ⟨⟨35, d_Trip_row, rfl, rfl, ok_Trip_row⟩, List.forall_mem_cons.mpr ⟨⟨36, d_Trip_start, rfl, rfl, ok_Trip_start⟩, List.forall_mem_cons.mpr ⟨⟨37, d_first_break, rfl, rfl, ok_first_break⟩, List.forall_mem_cons.mpr ⟨⟨38, d_is_between, rfl, rfl, ok_is_between⟩, List.forall_mem_cons.mpr ⟨⟨39, d_is_height, rfl, rfl, ok_is_height⟩, List.forall_mem_cons.mpr ⟨⟨40, d_is_integer, rfl, rfl, ok_is_integer⟩, List.forall_mem_cons.mpr ⟨⟨41, d_law_begun, rfl, rfl, ok_law_begun⟩, List.forall_mem_cons.mpr ⟨⟨42, d_law_class, rfl, rfl, ok_law_class⟩, List.forall_mem_cons.mpr ⟨⟨43, d_law_draw, rfl, rfl, ok_law_draw⟩, List.forall_mem_cons.mpr ⟨⟨44, d_law_folded, rfl, rfl, ok_law_folded⟩, List.forall_mem_cons.mpr ⟨⟨45, d_law_mixed, rfl, rfl, ok_law_mixed⟩, List.forall_mem_cons.mpr ⟨⟨46, d_law_path, rfl, rfl, ok_law_path⟩, List.forall_mem_cons.mpr ⟨⟨47, d_law_row, rfl, rfl, ok_law_row⟩, List.forall_mem_cons.mpr ⟨⟨48, d_law_sum_right, rfl, rfl, ok_law_sum_right⟩, List.forall_mem_cons.mpr ⟨⟨49, d_law_told, rfl, rfl, ok_law_told⟩, List.forall_mem_nil _⟩⟩⟩⟩⟩⟩⟩⟩⟩⟩⟩⟩⟩⟩⟩⟩⟩⟩⟩⟩⟩⟩⟩⟩⟩
theorem m2 : ∀ p ∈ fns2, OkF p := List.forall_mem_cons.mpr ⟨⟨50, d_law_trip, rfl, rfl, ok_law_trip⟩, List.forall_mem_cons.mpr ⟨⟨51, d_law_value_class, rfl, rfl, ok_law_value_class⟩, List.forall_mem_cons.mpr ⟨⟨52, d_law_written, rfl, rfl, ok_law_written⟩, List.forall_mem_cons.mpr ⟨⟨53, d_law, rfl, rfl, ok_law⟩, List.forall_mem_nil _⟩⟩⟩⟩
theorem all_m : ∀ p ∈ tx.fns, OkF p := List.forall_mem_append.mpr ⟨List.forall_mem_append.mpr ⟨m0, m1⟩, m2⟩
theorem all_ok : ∀ (f : Nat) (D : FnD), tx.G.fn f = some D → ∃ (i : Nat) (d : Df), ds[i]? = some d ∧ tx.fps.lookup f = some d.pl ∧ DfOk tx f d D := fun f D h => all_m (f, D) (lookup_in h)
theorem xo_BrokenRow : XOk tx dx_BrokenRow x_BrokenRow where
  S := ⟨rfl, rfl, rfl, by decide +kernel, rfl, by decide +kernel, by decide +kernel⟩
  len := rfl
  ex := ⟨[("spot", 1)], by decide +kernel, by decide +kernel, by decide +kernel⟩
  gl := by decide +kernel
  db := by decide +kernel
  bnd := fun n hn hd us hu => by
    have hn : n ≤ 1 := hn
    match n, hn, hd, us, hu with
    | 0, _, hd, _, _ => exact absurd rfl (hd (164, none) (by simp [x_BrokenRow]))
    | 1, _, _, [u0, u1], _ => exact fun _ _ _ _ _ _ => rfl
    | n + 2, hn, _, _, _ => omega
theorem xo_InvalidAnswer : XOk tx dx_InvalidAnswer x_InvalidAnswer where
  S := ⟨rfl, rfl, rfl, by decide +kernel, rfl, by decide +kernel, by decide +kernel⟩
  len := rfl
  ex := ⟨[("part", 1)], by decide +kernel, by decide +kernel, by decide +kernel⟩
  gl := by decide +kernel
  db := by decide +kernel
  bnd := fun n hn hd us hu => by
    have hn : n ≤ 1 := hn
    match n, hn, hd, us, hu with
    | 0, _, hd, _, _ => exact absurd rfl (hd (141, none) (by simp [x_InvalidAnswer]))
    | 1, _, _, [u0, u1], _ => exact fun _ _ _ _ _ _ => rfl
    | n + 2, hn, _, _, _ => omega
theorem xo_InvalidDesk : XOk tx dx_InvalidDesk x_InvalidDesk where
  S := ⟨rfl, rfl, rfl, by decide +kernel, rfl, by decide +kernel, by decide +kernel⟩
  len := rfl
  ex := ⟨[("spot", 1)], by decide +kernel, by decide +kernel, by decide +kernel⟩
  gl := by decide +kernel
  db := by decide +kernel
  bnd := fun n hn hd us hu => by
    have hn : n ≤ 1 := hn
    match n, hn, hd, us, hu with
    | 0, _, _, [u0], _ => exact fun _ _ _ _ _ _ _ => ⟨_, rfl, rfl⟩
    | 1, _, _, [u0, u1], _ => exact fun _ _ _ _ _ _ _ => ⟨_, rfl, rfl⟩
    | n + 2, hn, _, _, _ => omega
theorem xo_InvalidGroup : XOk tx dx_InvalidGroup x_InvalidGroup where
  S := ⟨rfl, rfl, rfl, by decide +kernel, rfl, by decide +kernel, by decide +kernel⟩
  len := rfl
  ex := ⟨[("part", 1), ("spot", 2)], by decide +kernel, by decide +kernel, by decide +kernel⟩
  gl := by decide +kernel
  db := by decide +kernel
  bnd := fun n hn hd us hu => by
    have hn : n ≤ 2 := hn
    match n, hn, hd, us, hu with
    | 0, _, hd, _, _ => exact absurd rfl (hd (141, none) (by simp [x_InvalidGroup]))
    | 1, _, _, [u0, u1], _ => exact fun _ _ _ _ _ _ _ => ⟨_, rfl, rfl⟩
    | 2, _, _, [u0, u1, u2], _ => exact fun _ _ _ _ _ _ _ => ⟨_, rfl, rfl⟩
    | n + 3, hn, _, _, _ => omega
theorem xo_InvalidNumber : XOk tx dx_InvalidNumber x_InvalidNumber where
  S := ⟨rfl, rfl, rfl, by decide +kernel, rfl, by decide +kernel, by decide +kernel⟩
  len := rfl
  ex := ⟨[("value", 1)], by decide +kernel, by decide +kernel, by decide +kernel⟩
  gl := by decide +kernel
  db := by decide +kernel
  bnd := fun n hn hd us hu => by
    have hn : n ≤ 1 := hn
    match n, hn, hd, us, hu with
    | 0, _, hd, _, _ => exact absurd rfl (hd (192, none) (by simp [x_InvalidNumber]))
    | 1, _, _, [u0, u1], _ => exact fun _ _ _ _ _ _ => rfl
    | n + 2, hn, _, _, _ => omega
theorem xo_InvalidPlan : XOk tx dx_InvalidPlan x_InvalidPlan where
  S := ⟨rfl, rfl, rfl, by decide +kernel, rfl, by decide +kernel, by decide +kernel⟩
  len := rfl
  ex := ⟨[("part", 1), ("spot", 2)], by decide +kernel, by decide +kernel, by decide +kernel⟩
  gl := by decide +kernel
  db := by decide +kernel
  bnd := fun n hn hd us hu => by
    have hn : n ≤ 2 := hn
    match n, hn, hd, us, hu with
    | 0, _, hd, _, _ => exact absurd rfl (hd (141, none) (by simp [x_InvalidPlan]))
    | 1, _, _, [u0, u1], _ => exact fun _ _ _ _ _ _ _ => ⟨_, rfl, rfl⟩
    | 2, _, _, [u0, u1, u2], _ => exact fun _ _ _ _ _ _ _ => ⟨_, rfl, rfl⟩
    | n + 3, hn, _, _, _ => omega
theorem xo_InvalidProfile : XOk tx dx_InvalidProfile x_InvalidProfile where
  S := ⟨rfl, rfl, rfl, by decide +kernel, rfl, by decide +kernel, by decide +kernel⟩
  len := rfl
  ex := ⟨[("spot", 1)], by decide +kernel, by decide +kernel, by decide +kernel⟩
  gl := by decide +kernel
  db := by decide +kernel
  bnd := fun n hn hd us hu => by
    have hn : n ≤ 1 := hn
    match n, hn, hd, us, hu with
    | 0, _, _, [u0], _ => exact fun _ _ _ _ _ _ _ => ⟨_, rfl, rfl⟩
    | 1, _, _, [u0, u1], _ => exact fun _ _ _ _ _ _ _ => ⟨_, rfl, rfl⟩
    | n + 2, hn, _, _, _ => omega
theorem xo_InvalidTicket : XOk tx dx_InvalidTicket x_InvalidTicket where
  S := ⟨rfl, rfl, rfl, by decide +kernel, rfl, by decide +kernel, by decide +kernel⟩
  len := rfl
  ex := ⟨[("part", 1)], by decide +kernel, by decide +kernel, by decide +kernel⟩
  gl := by decide +kernel
  db := by decide +kernel
  bnd := fun n hn hd us hu => by
    have hn : n ≤ 1 := hn
    match n, hn, hd, us, hu with
    | 0, _, hd, _, _ => exact absurd rfl (hd (141, none) (by simp [x_InvalidTicket]))
    | 1, _, _, [u0, u1], _ => exact fun _ _ _ _ _ _ => rfl
    | n + 2, hn, _, _, _ => omega
theorem xo_InvalidTrip : XOk tx dx_InvalidTrip x_InvalidTrip where
  S := ⟨rfl, rfl, rfl, by decide +kernel, rfl, by decide +kernel, by decide +kernel⟩
  len := rfl
  ex := ⟨[("part", 1)], by decide +kernel, by decide +kernel, by decide +kernel⟩
  gl := by decide +kernel
  db := by decide +kernel
  bnd := fun n hn hd us hu => by
    have hn : n ≤ 1 := hn
    match n, hn, hd, us, hu with
    | 0, _, hd, _, _ => exact absurd rfl (hd (141, none) (by simp [x_InvalidTrip]))
    | 1, _, _, [u0, u1], _ => exact fun _ _ _ _ _ _ => rfl
    | n + 2, hn, _, _, _ => omega
theorem xo_LimitExceeded : XOk tx dx_LimitExceeded x_LimitExceeded where
  S := ⟨rfl, rfl, rfl, by decide +kernel, rfl, by decide +kernel, by decide +kernel⟩
  len := rfl
  ex := ⟨[("limit", 1)], by decide +kernel, by decide +kernel, by decide +kernel⟩
  gl := by decide +kernel
  db := by decide +kernel
  bnd := fun n hn hd us hu => by
    have hn : n ≤ 1 := hn
    match n, hn, hd, us, hu with
    | 0, _, hd, _, _ => exact absurd rfl (hd (106, none) (by simp [x_LimitExceeded]))
    | 1, _, _, [u0, u1], _ => exact fun _ _ _ _ _ _ => rfl
    | n + 2, hn, _, _, _ => omega
theorem xo_MissingTicket : XOk tx dx_MissingTicket x_MissingTicket where
  S := ⟨rfl, rfl, rfl, by decide +kernel, rfl, by decide +kernel, by decide +kernel⟩
  len := rfl
  ex := ⟨[("value", 1)], by decide +kernel, by decide +kernel, by decide +kernel⟩
  gl := by decide +kernel
  db := by decide +kernel
  bnd := fun n hn hd us hu => by
    have hn : n ≤ 1 := hn
    match n, hn, hd, us, hu with
    | 0, _, hd, _, _ => exact absurd rfl (hd (192, none) (by simp [x_MissingTicket]))
    | 1, _, _, [u0, u1], _ => exact fun _ _ _ _ _ _ => rfl
    | n + 2, hn, _, _, _ => omega
theorem xo_NoRounds : XOk tx dx_NoRounds x_NoRounds where
  S := ⟨rfl, rfl, rfl, by decide +kernel, rfl, by decide +kernel, by decide +kernel⟩
  len := rfl
  ex := ⟨[("gap", 1)], by decide +kernel, by decide +kernel, by decide +kernel⟩
  gl := by decide +kernel
  db := by decide +kernel
  bnd := fun n hn hd us hu => by
    have hn : n ≤ 1 := hn
    match n, hn, hd, us, hu with
    | 0, _, hd, _, _ => exact absurd rfl (hd (80, none) (by simp [x_NoRounds]))
    | 1, _, _, [u0, u1], _ => exact fun _ _ _ _ _ _ => rfl
    | n + 2, hn, _, _, _ => omega
theorem xo_NoRow : XOk tx dx_NoRow x_NoRow where
  S := ⟨rfl, rfl, rfl, by decide +kernel, rfl, by decide +kernel, by decide +kernel⟩
  len := rfl
  ex := ⟨[("reason", 1)], by decide +kernel, by decide +kernel, by decide +kernel⟩
  gl := by decide +kernel
  db := by decide +kernel
  bnd := fun n hn hd us hu => by
    have hn : n ≤ 1 := hn
    match n, hn, hd, us, hu with
    | 0, _, hd, _, _ => exact absurd rfl (hd (151, none) (by simp [x_NoRow]))
    | 1, _, _, [u0, u1], _ => exact fun _ _ _ _ _ _ => rfl
    | n + 2, hn, _, _, _ => omega
theorem xo_ParseError : XOk tx dx_ParseError x_ParseError where
  S := ⟨rfl, rfl, rfl, by decide +kernel, rfl, by decide +kernel, by decide +kernel⟩
  len := rfl
  ex := ⟨[("line", 1), ("word", 2)], by decide +kernel, by decide +kernel, by decide +kernel⟩
  gl := by decide +kernel
  db := by decide +kernel
  bnd := fun n hn hd us hu => by
    have hn : n ≤ 2 := hn
    match n, hn, hd, us, hu with
    | 0, _, hd, _, _ => exact absurd rfl (hd (107, none) (by simp [x_ParseError]))
    | 1, _, hd, _, _ => exact absurd rfl (hd (196, none) (by simp [x_ParseError]))
    | 2, _, _, [u0, u1, u2], _ => exact fun _ _ _ _ _ _ => rfl
    | n + 3, hn, _, _, _ => omega
theorem xo_TooFew : XOk tx dx_TooFew x_TooFew where
  S := ⟨rfl, rfl, rfl, by decide +kernel, rfl, by decide +kernel, by decide +kernel⟩
  len := rfl
  ex := ⟨[("reason", 1)], by decide +kernel, by decide +kernel, by decide +kernel⟩
  gl := by decide +kernel
  db := by decide +kernel
  bnd := fun n hn hd us hu => by
    have hn : n ≤ 1 := hn
    match n, hn, hd, us, hu with
    | 0, _, hd, _, _ => exact absurd rfl (hd (151, none) (by simp [x_TooFew]))
    | 1, _, _, [u0, u1], _ => exact fun _ _ _ _ _ _ => rfl
    | n + 2, hn, _, _, _ => omega
theorem xo_TooMany : XOk tx dx_TooMany x_TooMany where
  S := ⟨rfl, rfl, rfl, by decide +kernel, rfl, by decide +kernel, by decide +kernel⟩
  len := rfl
  ex := ⟨[("limit", 1)], by decide +kernel, by decide +kernel, by decide +kernel⟩
  gl := by decide +kernel
  db := by decide +kernel
  bnd := fun n hn hd us hu => by
    have hn : n ≤ 1 := hn
    match n, hn, hd, us, hu with
    | 0, _, hd, _, _ => exact absurd rfl (hd (106, none) (by simp [x_TooMany]))
    | 1, _, _, [u0, u1], _ => exact fun _ _ _ _ _ _ => rfl
    | n + 2, hn, _, _, _ => omega
def OkX (p : Nat × Pl) : Prop := ∀ k, tx.G.xc p.1 = some k → ∃ (i : Nat) (d : Df), ds[i]? = some d ∧ d.pl = p.2 ∧ XOk tx d k
theorem ox_TooMany : OkX (28, .meth "TooMany" "__init__") := fun k h => by
  cases xc28.symm.trans h
  exact ⟨69, dx_TooMany, rfl, rfl, xo_TooMany⟩
theorem ox_TooFew : OkX (27, .meth "TooFew" "__init__") := fun k h => by
  cases xc27.symm.trans h
  exact ⟨68, dx_TooFew, rfl, rfl, xo_TooFew⟩
theorem ox_ParseError : OkX (19, .meth "ParseError" "__init__") := fun k h => by
  cases xc19.symm.trans h
  exact ⟨67, dx_ParseError, rfl, rfl, xo_ParseError⟩
theorem ox_NoRow : OkX (17, .meth "NoRow" "__init__") := fun k h => by
  cases xc17.symm.trans h
  exact ⟨66, dx_NoRow, rfl, rfl, xo_NoRow⟩
theorem ox_NoRounds : OkX (16, .meth "NoRounds" "__init__") := fun k h => by
  cases xc16.symm.trans h
  exact ⟨65, dx_NoRounds, rfl, rfl, xo_NoRounds⟩
theorem ox_MissingTicket : OkX (15, .meth "MissingTicket" "__init__") := fun k h => by
  cases xc15.symm.trans h
  exact ⟨64, dx_MissingTicket, rfl, rfl, xo_MissingTicket⟩
theorem ox_LimitExceeded : OkX (13, .meth "LimitExceeded" "__init__") := fun k h => by
  cases xc13.symm.trans h
  exact ⟨63, dx_LimitExceeded, rfl, rfl, xo_LimitExceeded⟩
theorem ox_InvalidTrip : OkX (12, .meth "InvalidTrip" "__init__") := fun k h => by
  cases xc12.symm.trans h
  exact ⟨62, dx_InvalidTrip, rfl, rfl, xo_InvalidTrip⟩
theorem ox_InvalidTicket : OkX (11, .meth "InvalidTicket" "__init__") := fun k h => by
  cases xc11.symm.trans h
  exact ⟨61, dx_InvalidTicket, rfl, rfl, xo_InvalidTicket⟩
theorem ox_InvalidProfile : OkX (10, .meth "InvalidProfile" "__init__") := fun k h => by
  cases xc10.symm.trans h
  exact ⟨60, dx_InvalidProfile, rfl, rfl, xo_InvalidProfile⟩
theorem ox_InvalidPlan : OkX (9, .meth "InvalidPlan" "__init__") := fun k h => by
  cases xc9.symm.trans h
  exact ⟨59, dx_InvalidPlan, rfl, rfl, xo_InvalidPlan⟩
theorem ox_InvalidNumber : OkX (8, .meth "InvalidNumber" "__init__") := fun k h => by
  cases xc8.symm.trans h
  exact ⟨58, dx_InvalidNumber, rfl, rfl, xo_InvalidNumber⟩
theorem ox_InvalidGroup : OkX (7, .meth "InvalidGroup" "__init__") := fun k h => by
  cases xc7.symm.trans h
  exact ⟨57, dx_InvalidGroup, rfl, rfl, xo_InvalidGroup⟩
theorem ox_InvalidDesk : OkX (6, .meth "InvalidDesk" "__init__") := fun k h => by
  cases xc6.symm.trans h
  exact ⟨56, dx_InvalidDesk, rfl, rfl, xo_InvalidDesk⟩
theorem ox_InvalidAnswer : OkX (5, .meth "InvalidAnswer" "__init__") := fun k h => by
  cases xc5.symm.trans h
  exact ⟨55, dx_InvalidAnswer, rfl, rfl, xo_InvalidAnswer⟩
theorem ox_BrokenRow : OkX (0, .meth "BrokenRow" "__init__") := fun k h => by
  cases xc0.symm.trans h
  exact ⟨54, dx_BrokenRow, rfl, rfl, xo_BrokenRow⟩
theorem all_x : ∀ p ∈ tx.xis, OkX p := List.forall_mem_cons.mpr ⟨ox_BrokenRow, List.forall_mem_cons.mpr ⟨ox_InvalidAnswer, List.forall_mem_cons.mpr ⟨ox_InvalidDesk, List.forall_mem_cons.mpr ⟨ox_InvalidGroup, List.forall_mem_cons.mpr ⟨ox_InvalidNumber, List.forall_mem_cons.mpr ⟨ox_InvalidPlan, List.forall_mem_cons.mpr ⟨ox_InvalidProfile, List.forall_mem_cons.mpr ⟨ox_InvalidTicket, List.forall_mem_cons.mpr ⟨ox_InvalidTrip, List.forall_mem_cons.mpr ⟨ox_LimitExceeded, List.forall_mem_cons.mpr ⟨ox_MissingTicket, List.forall_mem_cons.mpr ⟨ox_NoRounds, List.forall_mem_cons.mpr ⟨ox_NoRow, List.forall_mem_cons.mpr ⟨ox_ParseError, List.forall_mem_cons.mpr ⟨ox_TooFew, List.forall_mem_cons.mpr ⟨ox_TooMany, List.forall_mem_nil _⟩⟩⟩⟩⟩⟩⟩⟩⟩⟩⟩⟩⟩⟩⟩⟩
theorem all_xo : ∀ (c : Nat) (k : XcD) (p : Pl), tx.G.xc c = some k → tx.xis.lookup c = some p → ∃ (i : Nat) (d : Df), ds[i]? = some d ∧ d.pl = p ∧ XOk tx d k := fun c k p h1 h2 => all_x (c, p) (lookup_in h2) k h1
theorem tx_ok : tx.okB = true := by decide +kernel
end LW
end
section
set_option Elab.async false
set_option linter.all false
set_option maxRecDepth 100000
set_option maxHeartbeats 1000000
/-! Ev, part Qa: the evaluator's equations, one a constructor, each continuation a name (printed by gen_q.py). -/
namespace Ev.Q
open PySem Ev
theorem run_call (P : Prg) (wf n : Nat) (h : Hh) (f : Nat) (ts : List T) : (run P wf (n + 1)).call f ts h = evCall P (run P wf n) f ts h := rfl
theorem run_init (P : Prg) (wf n : Nat) (h : Hh) (f c : Nat) (fs : List (Nat × T)) (ts : List T) : (run P wf (n + 1)).init f c fs ts h = evInit P (run P wf n) f c fs ts h := rfl
@[simp] theorem run_e (P : Prg) (wf n : Nat) (σ : Sl) (h : Hh) (e : CE) : (run P wf (n + 1)).e σ e h = evE P (run P wf n) σ e h := rfl
@[simp] theorem run_ss (P : Prg) (wf n : Nat) (σ : Sl) (h : Hh) (s : List CS) : (run P wf (n + 1)).ss σ s h = evSs P (run P wf n) wf σ s h := rfl
/-! choices -/
def slE (o : Option SV) (h : Hh) : Ro T := match o with
  | some (.val t) => some (.ok t h)
  | _ => none
@[simp] theorem slE_val (t : T) (h : Hh) : slE (some (.val t)) h = some (.ok t h) := rfl
def slV (o : Option SV) (h : Hh) : Ro T := match o with
  | some (.own l) => some (.ok (.vl l) h)
  | some (.val t) => some (.ok t h)
  | _ => none
@[simp] theorem slV_val (t : T) (h : Hh) : slV (some (.val t)) h = some (.ok t h) := rfl
@[simp] theorem slV_own (l : List T) (h : Hh) : slV (some (.own l)) h = some (.ok (.vl l) h) := rfl
def glE (o : Option G) (h : Hh) : Ro T := match o with
    | some (.fn f) => some (.ok (.fn f) h)
    | some (.cls c) => some (.ok (.cls c) h)
    | some (.ty n) => some (.ok (.ty n) h)
    | some (.con t) => some (.ok t h)
    | _ => none
@[simp] theorem glE_fn (f : Nat) (h : Hh) : glE (some (.fn f)) h = some (.ok (.fn f) h) := rfl
@[simp] theorem glE_cls (f : Nat) (h : Hh) : glE (some (.cls f)) h = some (.ok (.cls f) h) := rfl
@[simp] theorem glE_ty (f : Nat) (h : Hh) : glE (some (.ty f)) h = some (.ok (.ty f) h) := rfl
@[simp] theorem glE_con (t : T) (h : Hh) : glE (some (.con t)) h = some (.ok t h) := rfl
def ifE (r : Rec) (σ : Sl) (a b : CE) (x : Bool) (h : Hh) : Ro T := if x then r.e σ a h else r.e σ b h
@[simp] theorem ifE_t (r : Rec) (σ : Sl) (a b : CE) (h : Hh) : ifE r σ a b true h = r.e σ a h := rfl
@[simp] theorem ifE_f (r : Rec) (σ : Sl) (a b : CE) (h : Hh) : ifE r σ a b false h = r.e σ b h := rfl
def ifS (r : Rec) (σ : Sl) (a b : List CS) (x : Bool) (h : Hh) : So := if x then r.ss σ a h else r.ss σ b h
@[simp] theorem ifS_t (r : Rec) (σ : Sl) (a b : List CS) (h : Hh) : ifS r σ a b true h = r.ss σ a h := rfl
@[simp] theorem ifS_f (r : Rec) (σ : Sl) (a b : List CS) (h : Hh) : ifS r σ a b false h = r.ss σ b h := rfl
def bopK (r : Rec) (k : Bool) (σ : Sl) (l : List CE) (x : T) (h : Hh) : Ro T := match x with
  | .bl b => if b == k then r.e σ (.bop k l) h else some (.ok (.bl b) h)
  | _ => none
@[simp] theorem bopK_tt (r : Rec) (σ : Sl) (l : List CE) (h : Hh) : bopK r true σ l (.bl true) h = r.e σ (.bop true l) h := rfl
@[simp] theorem bopK_ff (r : Rec) (σ : Sl) (l : List CE) (h : Hh) : bopK r false σ l (.bl false) h = r.e σ (.bop false l) h := rfl
@[simp] theorem bopK_tf (r : Rec) (σ : Sl) (l : List CE) (h : Hh) : bopK r true σ l (.bl false) h = some (.ok (.bl false) h) := rfl
@[simp] theorem bopK_ft (r : Rec) (σ : Sl) (l : List CE) (h : Hh) : bopK r false σ l (.bl true) h = some (.ok (.bl true) h) := rfl
def tAnd (P : Prg) (r : Rec) (n : Nat) (σ : Sl) (l : List CE) (x : Bool) (h : Hh) : Ro Bool := if x then evB P r n σ (.bop true l) h else some (.ok false h)
@[simp] theorem tAnd_t (P : Prg) (r : Rec) (n : Nat) (σ : Sl) (l : List CE) (h : Hh) : tAnd P r n σ l true h = evB P r n σ (.bop true l) h := rfl
@[simp] theorem tAnd_f (P : Prg) (r : Rec) (n : Nat) (σ : Sl) (l : List CE) (h : Hh) : tAnd P r n σ l false h = some (.ok false h) := rfl
def tOr (P : Prg) (r : Rec) (n : Nat) (σ : Sl) (l : List CE) (x : Bool) (h : Hh) : Ro Bool := if x then some (.ok true h) else evB P r n σ (.bop false l) h
@[simp] theorem tOr_t (P : Prg) (r : Rec) (n : Nat) (σ : Sl) (l : List CE) (h : Hh) : tOr P r n σ l true h = some (.ok true h) := rfl
@[simp] theorem tOr_f (P : Prg) (r : Rec) (n : Nat) (σ : Sl) (l : List CE) (h : Hh) : tOr P r n σ l false h = evB P r n σ (.bop false l) h := rfl
def c2K (r : Rec) (co2 : Cop) (σ : Sl) (y : T) (c : CE) (k : Bool) (h : Hh) : Ro Bool := if k then Ro.bd (r.e σ c h) fun z h => lift (cmpT co2 h y z) h else some (.ok false h)
def c2L (co2 : Cop) (y z : T) (h : Hh) : Ro Bool := lift (cmpT co2 h y z) h
@[simp] theorem c2K_t (r : Rec) (co2 : Cop) (σ : Sl) (y : T) (c : CE) (h : Hh) : c2K r co2 σ y c true h = Ro.bd (r.e σ c h) (c2L co2 y) := rfl
@[simp] theorem c2K_f (r : Rec) (co2 : Cop) (σ : Sl) (y : T) (c : CE) (h : Hh) : c2K r co2 σ y c false h = some (.ok false h) := rfl
def atS (P : Prg) (r : Rec) (f : Nat) (o : Option SV) (h : Hh) : Ro T := match o with
      | some (.self c fs) => if fldOk P c f fs then lift (fs.lookup f) h else none
      | some (.val t) => attrT P r t f h
      | _ => none
@[simp] theorem atS_val (P : Prg) (r : Rec) (f : Nat) (t : T) (h : Hh) : atS P r f (some (.val t)) h = attrT P r t f h := rfl
theorem atS_self (P : Prg) (r : Rec) (f c : Nat) (fs : List (Nat × T)) (h : Hh) : atS P r f (some (.self c fs)) h = if fldOk P c f fs then lift (fs.lookup f) h else none := rfl
def slcK (x : T) (li ui : Option Int) (h : Hh) : Ro T := match seqOf h x with
    | some (true, xs) => some (.ok (.tup (cutT xs li ui)) h)
    | some (false, xs) => some (.ok (.lst (cutT xs li ui)) h)
    | none => none
@[simp] theorem slcK_lst (xs : List T) (li ui : Option Int) (h : Hh) : slcK (.lst xs) li ui h = some (.ok (.lst (cutT xs li ui)) h) := rfl
@[simp] theorem slcK_vl (xs : List T) (li ui : Option Int) (h : Hh) : slcK (.vl xs) li ui h = some (.ok (.lst (cutT xs li ui)) h) := rfl
@[simp] theorem slcK_tup (xs : List T) (li ui : Option Int) (h : Hh) : slcK (.tup xs) li ui h = some (.ok (.tup (cutT xs li ui)) h) := rfl
@[simp] theorem slcK_ptu (xs : List T) (li ui : Option Int) (h : Hh) : slcK (.ptu xs) li ui h = some (.ok (.tup (cutT xs li ui)) h) := rfl
def revK (x : T) (h : Hh) : Ro T := match seqOf h x with
    | some (false, xs) => some (.ok (.lst xs.reverse) h)
    | _ => none
@[simp] theorem revK_lst (xs : List T) (h : Hh) : revK (.lst xs) h = some (.ok (.lst xs.reverse) h) := rfl
@[simp] theorem revK_vl (xs : List T) (h : Hh) : revK (.vl xs) h = some (.ok (.lst xs.reverse) h) := rfl
def tupK (ts : List T) (h : Hh) : Ro T := if ts.length ≤ big then some (.ok (.tup ts) h) else none
theorem tupK_ok {ts : List T} (q : ts.length ≤ big) (h : Hh) : tupK ts h = some (.ok (.tup ts) h) := if_pos q
@[simp] theorem tupK_1 (a : T) (h : Hh) : tupK [a] h = some (.ok (.tup [a]) h) := rfl
@[simp] theorem tupK_2 (a b : T) (h : Hh) : tupK [a, b] h = some (.ok (.tup [a, b]) h) := rfl
@[simp] theorem tupK_3 (a b c : T) (h : Hh) : tupK [a, b, c] h = some (.ok (.tup [a, b, c]) h) := rfl
@[simp] theorem tupK_0 (h : Hh) : tupK [] h = some (.ok (.tup []) h) := rfl
def lstK (ts : List T) (h : Hh) : Ro (List T) := if ts.length ≤ big then some (.ok ts h) else none
theorem lstK_ok {ts : List T} (q : ts.length ≤ big) (h : Hh) : lstK ts h = some (.ok ts h) := if_pos q
@[simp] theorem lstK_0 (h : Hh) : lstK [] h = some (.ok [] h) := rfl
@[simp] theorem lstK_1 (a : T) (h : Hh) : lstK [a] h = some (.ok [a] h) := rfl
@[simp] theorem lstK_2 (a b : T) (h : Hh) : lstK [a, b] h = some (.ok [a, b] h) := rfl
@[simp] theorem lstK_3 (a b c : T) (h : Hh) : lstK [a, b, c] h = some (.ok [a, b, c] h) := rfl
@[simp] theorem lstK_4 (a b c d : T) (h : Hh) : lstK [a, b, c, d] h = some (.ok [a, b, c, d] h) := rfl
def frzK (l : List T) (h : Hh) : Ro T := some (.ok (.lst l) h)
@[simp] theorem frzK_eq (l : List T) (h : Hh) : frzK l h = some (.ok (.lst l) h) := rfl
def oInt (t : T) (h : Hh) : Ro (Option Int) := match t with
    | .int i => some (.ok (some i) h)
    | _ => none
@[simp] theorem oInt_eq (i : Int) (h : Hh) : oInt (.int i) h = some (.ok (some i) h) := rfl
/-! calls by a module's name -/
def callGl (P : Prg) (r : Rec) (σ : Sl) (g : Nat) (es : List CE) (kws : List (Nat × CE)) (h : Hh) (o : Option G) : Ro T := match o with
  | some x => if isLs x then Ro.bd (evL P r σ (.call (.glob g) es kws) h) frzK else callG P r σ x es kws h
  | none => none
def isiK (P : Prg) (x y : T) (h : Hh) : Ro T := lift ((isInst P h x y).map T.bl) h
def biK (bi : Bi) (ts : List T) (h : Hh) : Ro T := lift (biT bi ts h) h
def tyKk (n : Nat) (x : T) (h : Hh) : Ro T := lift (tyT n x h) h
def seqK (x : T) (h : Hh) : Ro (List T) := match seqOf h x with
      | some (_, xs) => some (.ok xs h)
      | none => none
def srtK (x : T) (h : Hh) : Ro (List T) := match seqOf h x with
      | some (false, xs) => (match intsT xs with
        | some is => if decide (is.length < 64) then some (.ok ((is.mergeSort (fun a b => decide (a ≤ b))).map T.int) h) else none
        | none => none)
      | _ => none
def evLG (r : Rec) (σ : Sl) (a : CE) (h : Hh) (o : Option G) : Ro (List T) := match o with
    | some (.ty 4) => Ro.bd (evV r σ a h) seqK
    | some (.bi .sorted) => Ro.bd (evV r σ a h) srtK
    | _ => none
@[simp] theorem evLG_ty (r : Rec) (σ : Sl) (a : CE) (h : Hh) : evLG r σ a h (some (.ty 4)) = Ro.bd (evV r σ a h) seqK := rfl
@[simp] theorem evLG_so (r : Rec) (σ : Sl) (a : CE) (h : Hh) : evLG r σ a h (some (.bi .sorted)) = Ro.bd (evV r σ a h) srtK := rfl
@[simp] theorem seqK_lst (xs : List T) (h : Hh) : seqK (.lst xs) h = some (.ok xs h) := rfl
@[simp] theorem seqK_vl (xs : List T) (h : Hh) : seqK (.vl xs) h = some (.ok xs h) := rfl
@[simp] theorem seqK_tup (xs : List T) (h : Hh) : seqK (.tup xs) h = some (.ok xs h) := rfl
@[simp] theorem seqK_ptu (xs : List T) (h : Hh) : seqK (.ptu xs) h = some (.ok xs h) := rfl
def callFK (P : Prg) (r : Rec) (f : Nat) (ts : List T) (ks : List (Nat × T)) (h : Hh) : Ro T := callF P r f ts ks h
@[simp] theorem callFK_eq (P : Prg) (r : Rec) (f : Nat) (ts : List T) (ks : List (Nat × T)) (h : Hh) : callFK P r f ts ks h = callF P r f ts ks h := rfl
def makeK (P : Prg) (r : Rec) (c : Nat) (ts : List T) (ks : List (Nat × T)) (h : Hh) : Ro T := makeC P r c ts ks h
@[simp] theorem makeK_eq (P : Prg) (r : Rec) (c : Nat) (ts : List T) (ks : List (Nat × T)) (h : Hh) : makeK P r c ts ks h = makeC P r c ts ks h := rfl
/-! methods -/
def meK (P : Prg) (r : Rec) (σ : Sl) (x : T) (m : Nat) (es : List CE) (kws : List (Nat × CE)) (h : Hh) (o : Option Nat) : Ro T := match o with
  | some f => if noFld h x m then Ro.bd (evArgs r σ es h) fun ts h => Ro.bd (evKws r σ kws h) fun ks h => callF P r f (x :: ts) ks h else none
  | none => if kws.isEmpty && bmOk (tyK h x) m then Ro.bd (evArgs r σ es h) fun ts h' => (if tyK h' x = tyK h x then bmT x m ts h' else none) else none
def meA (P : Prg) (r : Rec) (f : Nat) (x : T) (ts : List T) (ks : List (Nat × T)) (h : Hh) : Ro T := callF P r f (x :: ts) ks h
@[simp] theorem meA_eq (P : Prg) (r : Rec) (f : Nat) (x : T) (ts : List T) (ks : List (Nat × T)) (h : Hh) : meA P r f x ts ks h = callF P r f (x :: ts) ks h := rfl
def meB (P : Prg) (r : Rec) (σ : Sl) (f : Nat) (x : T) (kws : List (Nat × CE)) (ts : List T) (h : Hh) : Ro T := Ro.bd (evKws r σ kws h) (meA P r f x ts)
@[simp] theorem meB_eq (P : Prg) (r : Rec) (σ : Sl) (f : Nat) (x : T) (kws : List (Nat × CE)) (ts : List T) (h : Hh) : meB P r σ f x kws ts h = Ro.bd (evKws r σ kws h) (meA P r f x ts) := rfl
theorem meK_own (P : Prg) (r : Rec) (σ : Sl) (x : T) (m : Nat) (es : List CE) (kws : List (Nat × CE)) (h : Hh) (f : Nat) (q : noFld h x m = true) : meK P r σ x m es kws h (some f) = Ro.bd (evArgs r σ es h) (meB P r σ f x kws) := if_pos q
def bmK (x : T) (m d : Nat) (ts : List T) (h : Hh) : Ro T := if tyK h x = d then bmT x m ts h else none
theorem meK_bi (P : Prg) (r : Rec) (σ : Sl) (x : T) (m : Nat) (es : List CE) (h : Hh) (q : bmOk (tyK h x) m = true) : meK P r σ x m es [] h none = Ro.bd (evArgs r σ es h) (bmK x m (tyK h x)) := if_pos q
theorem bmK_ok (x : T) (m d : Nat) (ts : List T) (h : Hh) (q : tyK h x = d) : bmK x m d ts h = bmT x m ts h := if_pos q
@[simp] theorem bmK_str (x : Str) (m : Nat) (ts : List T) (h : Hh) : bmK (.str x) m 2 ts h = bmT (.str x) m ts h := rfl
@[simp] theorem bmK_ptu (x : List T) (m : Nat) (ts : List T) (h : Hh) : bmK (.ptu x) m 3 ts h = bmT (.ptu x) m ts h := rfl
@[simp] theorem bmK_lst (x : List T) (m : Nat) (ts : List T) (h : Hh) : bmK (.lst x) m 4 ts h = bmT (.lst x) m ts h := rfl
@[simp] theorem bmK_vl (x : List T) (m : Nat) (ts : List T) (h : Hh) : bmK (.vl x) m 4 ts h = bmT (.vl x) m ts h := rfl
@[simp] theorem me_str (P : Prg) (r : Rec) (σ : Sl) (x : Str) (m : Nat) (es : List CE) (h : Hh) : methE P r σ (.str x) m es [] h = meK P r σ (.str x) m es [] h none := rfl
@[simp] theorem me_ptu (P : Prg) (r : Rec) (σ : Sl) (x : List T) (m : Nat) (es : List CE) (h : Hh) : methE P r σ (.ptu x) m es [] h = meK P r σ (.ptu x) m es [] h none := rfl
@[simp] theorem me_lst (P : Prg) (r : Rec) (σ : Sl) (x : List T) (m : Nat) (es : List CE) (h : Hh) : methE P r σ (.lst x) m es [] h = meK P r σ (.lst x) m es [] h none := rfl
@[simp] theorem me_vl (P : Prg) (r : Rec) (σ : Sl) (x : List T) (m : Nat) (es : List CE) (h : Hh) : methE P r σ (.vl x) m es [] h = meK P r σ (.vl x) m es [] h none := rfl
@[simp] theorem meS (P : Prg) (r : Rec) (σ : Sl) (x : Str) (m : Nat) (es : List CE) (h : Hh) (q : bmOk 2 m = true) : meK P r σ (.str x) m es [] h none = Ro.bd (evArgs r σ es h) (bmK (.str x) m 2) := if_pos q
@[simp] theorem meP (P : Prg) (r : Rec) (σ : Sl) (x : List T) (m : Nat) (es : List CE) (h : Hh) (q : bmOk 3 m = true) : meK P r σ (.ptu x) m es [] h none = Ro.bd (evArgs r σ es h) (bmK (.ptu x) m 3) := if_pos q
@[simp] theorem meL (P : Prg) (r : Rec) (σ : Sl) (x : List T) (m : Nat) (es : List CE) (h : Hh) (q : bmOk 4 m = true) : meK P r σ (.lst x) m es [] h none = Ro.bd (evArgs r σ es h) (bmK (.lst x) m 4) := if_pos q
@[simp] theorem meV (P : Prg) (r : Rec) (σ : Sl) (x : List T) (m : Nat) (es : List CE) (h : Hh) (q : bmOk 4 m = true) : meK P r σ (.vl x) m es [] h none = Ro.bd (evArgs r σ es h) (bmK (.vl x) m 4) := if_pos q
@[simp] theorem me_ins (P : Prg) (r : Rec) (σ : Sl) (c : Nat) (fs : List (Nat × T)) (m : Nat) (es : List CE) (kws : List (Nat × CE)) (h : Hh) : methE P r σ (.ins c fs) m es kws h = meK P r σ (.ins c fs) m es kws h (methOf P c m) := rfl
def mthN (P : Prg) (r : Rec) (σ : Sl) (m : Nat) (es : List CE) (kws : List (Nat × CE)) (x : T) (h : Hh) : Ro T := if isClsT x then none else methE P r σ x m es kws h
@[simp] theorem mthN_str (P : Prg) (r : Rec) (σ : Sl) (m : Nat) (es : List CE) (kws : List (Nat × CE)) (x : Str) (h : Hh) : mthN P r σ m es kws (.str x) h = methE P r σ (.str x) m es kws h := rfl
@[simp] theorem mthN_ptu (P : Prg) (r : Rec) (σ : Sl) (m : Nat) (es : List CE) (kws : List (Nat × CE)) (x : List T) (h : Hh) : mthN P r σ m es kws (.ptu x) h = methE P r σ (.ptu x) m es kws h := rfl
@[simp] theorem mthN_lst (P : Prg) (r : Rec) (σ : Sl) (m : Nat) (es : List CE) (kws : List (Nat × CE)) (x : List T) (h : Hh) : mthN P r σ m es kws (.lst x) h = methE P r σ (.lst x) m es kws h := rfl
@[simp] theorem mthN_vl (P : Prg) (r : Rec) (σ : Sl) (m : Nat) (es : List CE) (kws : List (Nat × CE)) (x : List T) (h : Hh) : mthN P r σ m es kws (.vl x) h = methE P r σ (.vl x) m es kws h := rfl
@[simp] theorem mthN_ref (P : Prg) (r : Rec) (σ : Sl) (m : Nat) (es : List CE) (kws : List (Nat × CE)) (x : Nat) (h : Hh) : mthN P r σ m es kws (.ref x) h = methE P r σ (.ref x) m es kws h := rfl
@[simp] theorem mthN_ins (P : Prg) (r : Rec) (σ : Sl) (m : Nat) (es : List CE) (kws : List (Nat × CE)) (c : Nat) (fs : List (Nat × T)) (h : Hh) : mthN P r σ m es kws (.ins c fs) h = methE P r σ (.ins c fs) m es kws h := rfl
/-! walks -/
def itK (t : T) (h : Hh) : Ro (List T) := match itT t with
    | some l => some (.ok l h)
    | none => none
@[simp] theorem itK_lst (l : List T) (h : Hh) : itK (.lst l) h = some (.ok l h) := rfl
@[simp] theorem itK_vl (l : List T) (h : Hh) : itK (.vl l) h = some (.ok l h) := rfl
@[simp] theorem itK_frl (l : List T) (h : Hh) : itK (.frl l) h = some (.ok l h) := rfl
@[simp] theorem itK_tup (l : List T) (h : Hh) : itK (.tup l) h = some (.ok l h) := rfl
@[simp] theorem itK_ptu (l : List T) (h : Hh) : itK (.ptu l) h = some (.ok l h) := rfl
@[simp] theorem itK_str (x : Str) (h : Hh) : itK (.str x) h = some (.ok (x.cps.toList.map fun c => .str ⟨#[c]⟩) h) := rfl
def enK (t : T) (h : Hh) : Ro (List T) := match seqF t with
    | some (_, l) => some (.ok (enumL 0 l) h)
    | none => none
@[simp] theorem enK_lst (l : List T) (h : Hh) : enK (.lst l) h = some (.ok (enumL 0 l) h) := rfl
@[simp] theorem enK_vl (l : List T) (h : Hh) : enK (.vl l) h = some (.ok (enumL 0 l) h) := rfl
@[simp] theorem enK_frl (l : List T) (h : Hh) : enK (.frl l) h = some (.ok (enumL 0 l) h) := rfl
@[simp] theorem enK_tup (l : List T) (h : Hh) : enK (.tup l) h = some (.ok (enumL 0 l) h) := rfl
@[simp] theorem enK_ptu (l : List T) (h : Hh) : enK (.ptu l) h = some (.ok (enumL 0 l) h) := rfl
def rgK (ts : List T) (h : Hh) : Ro (List T) := match ts with
    | [.int j] => if smallI j then some (.ok (rangeL 0 j.toNat) h) else none
    | [.int i, .int j] => if smallI i && smallI j then some (.ok (rangeL i (j - i).toNat) h) else none
    | _ => none
theorem smallI_ok {i : Int} (h1 : -(2 ^ 62) ≤ i) (h2 : i < 2 ^ 62) : smallI i = true := by
  unfold smallI
  rw [decide_eq_true h1, decide_eq_true h2] <;> rfl
theorem rgK_1 {j : Int} (h1 : -(2 ^ 62) ≤ j) (h2 : j < 2 ^ 62) (h : Hh) : rgK [.int j] h = some (.ok (rangeL 0 j.toNat) h) := if_pos (smallI_ok h1 h2)
theorem rgK_2 {i j : Int} (h1 : -(2 ^ 62) ≤ i) (h2 : i < 2 ^ 62) (h3 : -(2 ^ 62) ≤ j) (h4 : j < 2 ^ 62) (h : Hh) : rgK [.int i, .int j] h = some (.ok (rangeL i (j - i).toNat) h) := if_pos (by rw [smallI_ok h1 h2, smallI_ok h3 h4] <;> rfl)
def zpK (t u : T) (h : Hh) : Ro (List T) := match seqF t, seqF u with
    | some (x, l), some (y, m) => if x == y then some (.ok (zipL l m) h) else none
    | _, _ => none
/-! comprehensions -/
def oneK (t : T) (h : Hh) : Ro (List T) := some (.ok [t] h)
@[simp] theorem oneK_eq (t : T) (h : Hh) : oneK t h = some (.ok [t] h) := rfl
@[simp] theorem noEx_ok {α : Type} (a : α) (h : Hh) : noEx (some (.ok a h)) = some (.ok a h) := rfl
def cmE (r : Rec) (el : CE) (σ : Sl) (h : Hh) : Ro (List T) := Ro.bd (noEx (r.e σ el h)) oneK
theorem cmE_eq (r : Rec) (el : CE) (σ : Sl) (h : Hh) : cmE r el σ h = Ro.bd (noEx (r.e σ el h)) oneK := rfl
@[simp] theorem wipe_nil (σ : Sl) : wipeS σ [] = σ := rfl
@[simp] theorem wipe_cons (σ : Sl) (v : Nat) (vs : List Nat) : wipeS σ (v :: vs) = (wipeS σ vs).set v .no := rfl
def cmI (P : Prg) (r : Rec) (ifs : List CE) (σ : Sl) (h : Hh) : Ro Bool := noEx (evIfs P r σ ifs h)
theorem cmI_eq (P : Prg) (r : Rec) (ifs : List CE) (σ : Sl) (h : Hh) : cmI P r ifs σ h = noEx (evIfs P r σ ifs h) := rfl
def cmK (P : Prg) (r : Rec) (σ : Sl) (el : CE) (tg : Tg) (ifs : List CE) (ws : List Nat) (l : List T) (h : Hh) : Ro (List T) := if l.length ≤ big then compL tg (cmI P r ifs) (cmE r el) (wipeS σ ws) l h else none
theorem cmK_ok {P : Prg} {r : Rec} {σ : Sl} {el : CE} {tg : Tg} {ifs : List CE} {ws : List Nat} {l : List T} {h : Hh} (q : l.length ≤ big) : cmK P r σ el tg ifs ws l h = compL tg (cmI P r ifs) (cmE r el) (wipeS σ ws) l h := if_pos q
/-! statements -/
def SoNx (o : So) (f : Sl → Hh → So) : So := match o with
  | some (Fl.nx σ', h') => f σ' h'
  | o => o
@[simp] theorem nx_nx (σ : Sl) (h : Hh) (f : Sl → Hh → So) : SoNx (some (Fl.nx σ, h)) f = f σ h := rfl
@[simp] theorem nx_rt (t : T) (h : Hh) (f : Sl → Hh → So) : SoNx (some (Fl.rt t, h)) f = some (Fl.rt t, h) := rfl
@[simp] theorem nx_bk (σ : Sl) (h : Hh) (f : Sl → Hh → So) : SoNx (some (Fl.bk σ, h)) f = some (Fl.bk σ, h) := rfl
@[simp] theorem nx_ct (σ : Sl) (h : Hh) (f : Sl → Hh → So) : SoNx (some (Fl.ct σ, h)) f = some (Fl.ct σ, h) := rfl
@[simp] theorem nx_ex (σ : Sl) (h : Hh) (c : Nat) (fs : List (Nat × T)) (f : Sl → Hh → So) : SoNx (some (Fl.ex c fs σ, h)) f = some (Fl.ex c fs σ, h) := rfl
def ssK (P : Prg) (r : Rec) (wf : Nat) (ss : List CS) (σ : Sl) (h : Hh) : So := evSs P r wf σ ss h
@[simp] theorem ssK_eq (P : Prg) (r : Rec) (wf : Nat) (ss : List CS) (σ : Sl) (h : Hh) : ssK P r wf ss σ h = evSs P r wf σ ss h := rfl
@[simp] theorem ss_nil (P : Prg) (r : Rec) (wf : Nat) (σ : Sl) (h : Hh) : evSs P r wf σ [] h = some (Fl.nx σ, h) := by unfold evSs; rfl
@[simp] theorem ss_cons (P : Prg) (r : Rec) (wf : Nat) (σ : Sl) (h : Hh) (s : CS) (ss : List CS) : evSs P r wf σ (s :: ss) h = SoNx (evS P r wf σ s h) (ssK P r wf ss) := by
  conv => lhs; unfold evSs
  rfl
@[simp] theorem of_ok {α : Type} (σ : Sl) (a : α) (h : Hh) (f : α → Hh → So) : So.of σ (some (.ok a h)) f = f a h := rfl
@[simp] theorem of_ex {α : Type} (σ : Sl) (c : Nat) (fs : List (Nat × T)) (h : Hh) (f : α → Hh → So) : So.of σ (some (.ex c fs h)) f = some (Fl.ex c fs σ, h) := rfl
def setK (tg : Tg) (σ : Sl) (t : T) (h : Hh) : So := match setTg tg t σ with
    | some σ' => some (Fl.nx σ', h)
    | none => none
@[simp] theorem setK_nm (i : Nat) (σ : Sl) (t : T) (h : Hh) : setK (.nm i) σ t h = some (Fl.nx (σ.set i (.val t)), h) := rfl
def appK (i : Nat) (σ : Sl) (l : List T) (t : T) (h : Hh) : So := if l.length < big then some (Fl.nx (σ.set i (.own (l ++ [t]))), h) else none
theorem appK_ok {i : Nat} {σ : Sl} {l : List T} {t : T} {h : Hh} (q : l.length < big) : appK i σ l t h = some (Fl.nx (σ.set i (.own (l ++ [t]))), h) := if_pos q
def appS (r : Rec) (i : Nat) (e : CE) (σ : Sl) (h : Hh) (o : Option SV) : So := match o with
    | some (.own l) => So.of σ (r.e σ e h) (appK i σ l)
    | _ => none
@[simp] theorem appS_own (r : Rec) (i : Nat) (e : CE) (σ : Sl) (h : Hh) (l : List T) : appS r i e σ h (some (.own l)) = So.of σ (r.e σ e h) (appK i σ l) := rfl
def osK (i : Nat) (σ : Sl) (l : List T) (t y : T) (h : Hh) : So := match y with
      | .int n => (match L2.ixN l.length n with
        | some j => some (Fl.nx (σ.set i (.own (l.set j t))), h)
        | none => none)
      | _ => none
theorem osK_ok {i : Nat} {σ : Sl} {l : List T} {t : T} {n : Int} {j : Nat} {h : Hh} (q : L2.ixN l.length n = some j) : osK i σ l t (.int n) h = some (Fl.nx (σ.set i (.own (l.set j t))), h) := by
  unfold osK
  dsimp only
  rw [q]
def osJ (r : Rec) (i : Nat) (a : CE) (σ : Sl) (l : List T) (t : T) (h : Hh) : So := So.of σ (r.e σ a h) (osK i σ l t)
@[simp] theorem osJ_eq (r : Rec) (i : Nat) (a : CE) (σ : Sl) (l : List T) (t : T) (h : Hh) : osJ r i a σ l t h = So.of σ (r.e σ a h) (osK i σ l t) := rfl
def osS (r : Rec) (i : Nat) (a e : CE) (σ : Sl) (h : Hh) (o : Option SV) : So := match o with
    | some (.own l) => So.of σ (r.e σ e h) (osJ r i a σ l)
    | _ => none
@[simp] theorem osS_own (r : Rec) (i : Nat) (a e : CE) (σ : Sl) (h : Hh) (l : List T) : osS r i a e σ h (some (.own l)) = So.of σ (r.e σ e h) (osJ r i a σ l) := rfl
def exK (i : Nat) (σ : Sl) (l : List T) (t : T) (h : Hh) : So := match extF t with
      | some m => if l.length + m.length ≤ big then some (Fl.nx (σ.set i (.own (l ++ m))), h) else none
      | none => none
theorem exK_ok {i : Nat} {σ : Sl} {l m : List T} {t : T} {h : Hh} (e : extF t = some m) (q : l.length + m.length ≤ big) : exK i σ l t h = some (Fl.nx (σ.set i (.own (l ++ m))), h) := by
  unfold exK
  rw [e]
  exact if_pos q
def exS (r : Rec) (i : Nat) (e : CE) (σ : Sl) (h : Hh) (o : Option SV) : So := match o with
    | some (.own l) => So.of σ (evV r σ e h) (exK i σ l)
    | _ => none
@[simp] theorem exS_own (r : Rec) (i : Nat) (e : CE) (σ : Sl) (h : Hh) (l : List T) : exS r i e σ h (some (.own l)) = So.of σ (evV r σ e h) (exK i σ l) := rfl
def fzS (i : Nat) (σ : Sl) (h : Hh) (o : Option SV) : So := match o with
    | some (.own l) => some (Fl.nx (σ.set i (.val (.lst l))), h)
    | some (.val _) => some (Fl.nx σ, h)
    | _ => none
@[simp] theorem fzS_own (i : Nat) (σ : Sl) (h : Hh) (l : List T) : fzS i σ h (some (.own l)) = some (Fl.nx (σ.set i (.val (.lst l))), h) := rfl
@[simp] theorem fzS_val (i : Nat) (σ : Sl) (h : Hh) (t : T) : fzS i σ h (some (.val t)) = some (Fl.nx σ, h) := rfl
def agK (i : Nat) (o : Bop) (σ : Sl) (x y : T) (h : Hh) : So := match o, x, y with
      | .add, .int a, .int b => some (Fl.nx (σ.set i (.val (.int (a + b)))), h)
      | _, _, _ => none
@[simp] theorem agK_int (i : Nat) (σ : Sl) (a b : Int) (h : Hh) : agK i .add σ (.int a) (.int b) h = some (Fl.nx (σ.set i (.val (.int (a + b)))), h) := rfl
def agS (r : Rec) (i : Nat) (o : Bop) (e : CE) (σ : Sl) (h : Hh) (v : Option SV) : So := match v with
    | some (.val x) => So.of σ (r.e σ e h) (agK i o σ x)
    | _ => none
@[simp] theorem agS_val (r : Rec) (i : Nat) (o : Bop) (e : CE) (σ : Sl) (h : Hh) (x : T) : agS r i o e σ h (some (.val x)) = So.of σ (r.e σ e h) (agK i o σ x) := rfl
def rtK (t : T) (h : Hh) : So := some (Fl.rt t, h)
@[simp] theorem rtK_eq (t : T) (h : Hh) : rtK t h = some (Fl.rt t, h) := rfl
def dpK (σ : Sl) (t : T) (h : Hh) : So := some (Fl.nx σ, h)
@[simp] theorem dpK_eq (σ : Sl) (t : T) (h : Hh) : dpK σ t h = some (Fl.nx σ, h) := rfl
def owK (i : Nat) (σ : Sl) (l : List T) (h : Hh) : So := some (Fl.nx (σ.set i (.own l)), h)
@[simp] theorem owK_eq (i : Nat) (σ : Sl) (l : List T) (h : Hh) : owK i σ l h = some (Fl.nx (σ.set i (.own l)), h) := rfl
def bxK (i : Nat) (σ : Sl) (l : List T) (h : Hh) : So := some (Fl.nx (σ.set i (.val (.ref h.length))), h ++ [.lst l])
@[simp] theorem bxK_eq (i : Nat) (σ : Sl) (l : List T) (h : Hh) : bxK i σ l h = some (Fl.nx (σ.set i (.val (.ref h.length))), h ++ [.lst l]) := rfl
def slK (i : Nat) (σ : Sl) (l : List T) (h : Hh) : So := some (Fl.nx (σ.set i (.val (.lst l))), h)
@[simp] theorem slK_eq (i : Nat) (σ : Sl) (l : List T) (h : Hh) : slK i σ l h = some (Fl.nx (σ.set i (.val (.lst l))), h) := rfl
def paK (σ : Sl) (h : Hh) : So := some (Fl.nx σ, h)
@[simp] theorem paK_eq (σ : Sl) (h : Hh) : paK σ h = some (Fl.nx σ, h) := rfl
def itI (σ : Sl) (x t y : T) (h : Hh) : So := itemS σ x y t h
@[simp] theorem itI_eq (σ : Sl) (x t y : T) (h : Hh) : itI σ x t y h = itemS σ x y t h := rfl
def itJ (r : Rec) (b : CE) (σ : Sl) (t x : T) (h : Hh) : So := So.of σ (r.e σ b h) (itI σ x t)
@[simp] theorem itJ_eq (r : Rec) (b : CE) (σ : Sl) (t x : T) (h : Hh) : itJ r b σ t x h = So.of σ (r.e σ b h) (itI σ x t) := rfl
def itA (r : Rec) (a b : CE) (σ : Sl) (t : T) (h : Hh) : So := So.of σ (r.e σ a h) (itJ r b σ t)
@[simp] theorem itA_eq (r : Rec) (a b : CE) (σ : Sl) (t : T) (h : Hh) : itA r a b σ t h = So.of σ (r.e σ a h) (itJ r b σ t) := rfl
def ibA (r : Rec) (a b : CE) (σ : Sl) (l : List T) (h : Hh) : So := So.of σ (r.e σ a (h ++ [.lst l])) (itJ r b σ (.ref h.length))
@[simp] theorem ibA_eq (r : Rec) (a b : CE) (σ : Sl) (l : List T) (h : Hh) : ibA r a b σ l h = So.of σ (r.e σ a (h ++ [.lst l])) (itJ r b σ (.ref h.length)) := rfl
def flK (P : Prg) (i f : Nat) (σ : Sl) (t : T) (h : Hh) : So := match σ[i]? with
    | some (.self c fs) => if fldOk P c f fs then some (Fl.nx (σ.set i (.self c (putF f t fs))), h) else none
    | some (.val (.ref a)) => (match h[a]? with
      | some (.ins c fs) => if fldOk P c f fs then some (Fl.nx σ, h.set a (.ins c (putF f t fs))) else none
      | _ => none)
    | _ => none
theorem flK_self {P : Prg} {i f c : Nat} {fs : List (Nat × T)} {σ : Sl} {t : T} {h : Hh} (e : σ[i]? = some (.self c fs)) (q : fldOk P c f fs = true) : flK P i f σ t h = some (Fl.nx (σ.set i (.self c (putF f t fs))), h) := by
  unfold flK
  rw [e]
  exact if_pos q
def fsK (P : Prg) (i : Nat) (fl : List (Nat × Nat)) (σ : Sl) (ts : List T) (h : Hh) : So := if ts.length = fl.length then (match σ[i]? with
        | some (.self c fs) => if fl.all (fun p => p.1 == i && fldOk P c p.2 fs) && decide (fl.length ≤ 20) then some (Fl.nx (σ.set i (.self c ((fl.zip ts).foldl (fun fs p => putF p.1.2 p.2 fs) fs))), h) else none
        | _ => none) else none
/-! loops -/
@[simp] theorem f_nil (tg : Tg) (b : List CS) (ss : Sl → List CS → Hh → So) (σ : Sl) (h : Hh) : forL tg b ss [] σ h = some (Fl.nx σ, h) := rfl
def forK (tg : Tg) (b : List CS) (ss : Sl → List CS → Hh → So) (ts : List T) (o : So) : So := match o with
      | some (Fl.nx σ', h') => forL tg b ss ts σ' h'
      | some (Fl.ct σ', h') => forL tg b ss ts σ' h'
      | some (Fl.bk σ', h') => some (Fl.nx σ', h')
      | o => o
def forT (tg : Tg) (b : List CS) (ss : Sl → List CS → Hh → So) (ts : List T) (h : Hh) (o : Option Sl) : So := match o with
    | none => none
    | some σ' => forK tg b ss ts (ss σ' b h)
theorem f_cons (tg : Tg) (b : List CS) (ss : Sl → List CS → Hh → So) (t : T) (ts : List T) (σ : Sl) (h : Hh) : forL tg b ss (t :: ts) σ h = forT tg b ss ts h (setTg tg t σ) := rfl
@[simp] theorem forT_some (tg : Tg) (b : List CS) (ss : Sl → List CS → Hh → So) (ts : List T) (h : Hh) (σ : Sl) : forT tg b ss ts h (some σ) = forK tg b ss ts (ss σ b h) := rfl
@[simp] theorem fk_nx (tg : Tg) (b : List CS) (ss : Sl → List CS → Hh → So) (ts : List T) (σ : Sl) (h : Hh) : forK tg b ss ts (some (Fl.nx σ, h)) = forL tg b ss ts σ h := rfl
@[simp] theorem fk_rt (tg : Tg) (b : List CS) (ss : Sl → List CS → Hh → So) (ts : List T) (t : T) (h : Hh) : forK tg b ss ts (some (Fl.rt t, h)) = some (Fl.rt t, h) := rfl
@[simp] theorem tg_nm (i : Nat) (t : T) (σ : Sl) : setTg (.nm i) t σ = some (σ.set i (.val t)) := rfl
@[simp] theorem tg_2 (i j : Nat) (t u : T) (σ : Sl) : setTg (.tup [i, j]) (.tup [t, u]) σ = some ((σ.set i (.val t)).set j (.val u)) := rfl
@[simp] theorem tg_3 (i j k : Nat) (t u v : T) (σ : Sl) : setTg (.tup [i, j, k]) (.tup [t, u, v]) σ = some (((σ.set i (.val t)).set j (.val u)).set k (.val v)) := rfl
/-! the ends -/
def endC (o : So) : Ro T := match o with
    | some (Fl.nx _, h) => some (.ok .non h)
    | some (Fl.rt t, h) => some (.ok t h)
    | some (Fl.ex c fs _, h) => some (.ex c fs h)
    | _ => none
@[simp] theorem end_nx (σ : Sl) (h : Hh) : endC (some (Fl.nx σ, h)) = some (.ok .non h) := rfl
@[simp] theorem end_rt (t : T) (h : Hh) : endC (some (Fl.rt t, h)) = some (.ok t h) := rfl
@[simp] theorem end_ex (c : Nat) (fs : List (Nat × T)) (σ : Sl) (h : Hh) : endC (some (Fl.ex c fs σ, h)) = some (.ex c fs h) := rfl
theorem c_call (P : Prg) (r : Rec) (h : Hh) (f : Nat) (d : FnD) (ts : List T) (hf : P.fn f = some d) : evCall P r f ts h = endC (r.ss (startS d.n ts) d.body h) := by
  unfold evCall
  rw [hf] <;> rfl
def bindK (r : Rec) (f : Nat) (h : Hh) (o : Option (List T)) : Ro T := match o with
    | some bs => r.call f bs h
    | none => none
theorem cf (P : Prg) (r : Rec) (h : Hh) (f : Nat) (d : FnD) (ts : List T) (ks : List (Nat × T)) (hf : P.fn f = some d) : callF P r f ts ks h = bindK r f h (bindA d ts ks) := by
  unfold callF
  rw [hf] <;> rfl
theorem bk_some (r : Rec) (h : Hh) (f : Nat) (bs : List T) : bindK r f h (some bs) = r.call f bs h := rfl
@[simp] theorem tru_bl (P : Prg) (r : Rec) (b : Bool) (h : Hh) : truE P r (.bl b) h = some (.ok b h) := rfl
def notK (bb : Bool) (h : Hh) : Ro T := some (.ok (.bl (!bb)) h)
@[simp] theorem notK_eq (bb : Bool) (h : Hh) : notK bb h = some (.ok (.bl (!bb)) h) := rfl
def blK (bb : Bool) (h : Hh) : Ro T := some (.ok (.bl bb) h)
@[simp] theorem blK_eq (bb : Bool) (h : Hh) : blK bb h = some (.ok (.bl bb) h) := rfl
def ntK (bb : Bool) (h : Hh) : Ro Bool := some (.ok (!bb) h)
@[simp] theorem ntK_eq (bb : Bool) (h : Hh) : ntK bb h = some (.ok (!bb) h) := rfl

/-! expressions -/
@[simp] theorem e_var (P : Prg) (r : Rec) (σ : Sl) (h : Hh) (i : Nat) : evE P r σ (.var i) h = slE σ[i]? h := rfl
@[simp] theorem e_con (P : Prg) (r : Rec) (σ : Sl) (h : Hh) (t : T) : evE P r σ (.con t) h = some (.ok t h) := rfl
@[simp] theorem e_glob (P : Prg) (r : Rec) (σ : Sl) (h : Hh) (g : Nat) : evE P r σ (.glob g) h = glE (P.gl g) h := rfl
def k_e_bin_2 (P : Prg) (r : Rec) (o : Bop) (x : T) (y : T) (h : Hh) : Ro T := binE P r o x y h
@[simp] theorem k_e_bin_2_eq (P : Prg) (r : Rec) (o : Bop) (x : T) (y : T) (h : Hh) : k_e_bin_2 P r o x y h = binE P r o x y h := rfl
def k_e_bin_1 (P : Prg) (r : Rec) (σ : Sl) (o : Bop) (b : CE) (x : T) (h : Hh) : Ro T := Ro.bd (evV r σ b h) (k_e_bin_2 P r o x)
@[simp] theorem k_e_bin_1_eq (P : Prg) (r : Rec) (σ : Sl) (o : Bop) (b : CE) (x : T) (h : Hh) : k_e_bin_1 P r σ o b x h = Ro.bd (evV r σ b h) (k_e_bin_2 P r o x) := rfl
@[simp] theorem e_bin (P : Prg) (r : Rec) (σ : Sl) (h : Hh) (o : Bop) (a : CE) (b : CE) : evE P r σ (.bin o a b) h = Ro.bd (evV r σ a h) (k_e_bin_1 P r σ o b) := rfl
def k_e_neg_1 (P : Prg) (r : Rec) (x : T) (h : Hh) : Ro T := negE P r x h
@[simp] theorem k_e_neg_1_eq (P : Prg) (r : Rec) (x : T) (h : Hh) : k_e_neg_1 P r x h = negE P r x h := rfl
@[simp] theorem e_neg (P : Prg) (r : Rec) (σ : Sl) (h : Hh) (a : CE) : evE P r σ (.neg a) h = Ro.bd (r.e σ a h) (k_e_neg_1 P r) := rfl
def k_e_not_2  (bb : Bool) (h : Hh) : Ro T := some (.ok (.bl (!bb)) h)
@[simp] theorem k_e_not_2_eq  (bb : Bool) (h : Hh) : k_e_not_2  bb h = some (.ok (.bl (!bb)) h) := rfl
def k_e_not_1 (P : Prg) (r : Rec) (t : T) (h : Hh) : Ro T := Ro.bd (truE P r t h) k_e_not_2
@[simp] theorem k_e_not_1_eq (P : Prg) (r : Rec) (t : T) (h : Hh) : k_e_not_1 P r t h = Ro.bd (truE P r t h) k_e_not_2 := rfl
@[simp] theorem e_not (P : Prg) (r : Rec) (σ : Sl) (h : Hh) (a : CE) : evE P r σ (.not a) h = Ro.bd (evV r σ a h) (k_e_not_1 P r) := rfl
@[simp] theorem e_bop1 (P : Prg) (r : Rec) (σ : Sl) (h : Hh) (a : CE) (k : Bool) : evE P r σ (.bop k [a]) h = r.e σ a h := rfl
def k_e_bop_1 (r : Rec) (σ : Sl) (b : CE) (es : List CE) (k : Bool) (x : T) (h : Hh) : Ro T := bopK r k σ (b :: es) x h
@[simp] theorem k_e_bop_1_eq (r : Rec) (σ : Sl) (b : CE) (es : List CE) (k : Bool) (x : T) (h : Hh) : k_e_bop_1 r σ b es k x h = bopK r k σ (b :: es) x h := rfl
@[simp] theorem e_bop (P : Prg) (r : Rec) (σ : Sl) (h : Hh) (a : CE) (b : CE) (es : List CE) (k : Bool) : evE P r σ (.bop k (a :: b :: es)) h = Ro.bd (r.e σ a h) (k_e_bop_1 r σ b es k) := rfl
def k_e_ife_1 (r : Rec) (σ : Sl) (a : CE) (b : CE) (bb : Bool) (h : Hh) : Ro T := ifE r σ a b bb h
@[simp] theorem k_e_ife_1_eq (r : Rec) (σ : Sl) (a : CE) (b : CE) (bb : Bool) (h : Hh) : k_e_ife_1 r σ a b bb h = ifE r σ a b bb h := rfl
@[simp] theorem e_ife (P : Prg) (r : Rec) (σ : Sl) (h : Hh) (a : CE) (b : CE) (c : CE) : evE P r σ (.ife c a b) h = Ro.bd (evB P r 50 σ c h) (k_e_ife_1 r σ a b) := rfl
def k_e_cmp_3  (bb : Bool) (h : Hh) : Ro T := some (.ok (.bl bb) h)
@[simp] theorem k_e_cmp_3_eq  (bb : Bool) (h : Hh) : k_e_cmp_3  bb h = some (.ok (.bl bb) h) := rfl
def k_e_cmp_2 (P : Prg) (r : Rec) (co : Cop) (x : T) (y : T) (h : Hh) : Ro T := Ro.bd (cmpE P r co x y h) k_e_cmp_3
@[simp] theorem k_e_cmp_2_eq (P : Prg) (r : Rec) (co : Cop) (x : T) (y : T) (h : Hh) : k_e_cmp_2 P r co x y h = Ro.bd (cmpE P r co x y h) k_e_cmp_3 := rfl
def k_e_cmp_1 (P : Prg) (r : Rec) (σ : Sl) (co : Cop) (b : CE) (x : T) (h : Hh) : Ro T := Ro.bd (evV r σ b h) (k_e_cmp_2 P r co x)
@[simp] theorem k_e_cmp_1_eq (P : Prg) (r : Rec) (σ : Sl) (co : Cop) (b : CE) (x : T) (h : Hh) : k_e_cmp_1 P r σ co b x h = Ro.bd (evV r σ b h) (k_e_cmp_2 P r co x) := rfl
@[simp] theorem e_cmp (P : Prg) (r : Rec) (σ : Sl) (h : Hh) (co : Cop) (a : CE) (b : CE) : evE P r σ (.cmp co a b) h = Ro.bd (evV r σ a h) (k_e_cmp_1 P r σ co b) := rfl
def k_e_cmp2_1  (bb : Bool) (h : Hh) : Ro T := some (.ok (.bl bb) h)
@[simp] theorem k_e_cmp2_1_eq  (bb : Bool) (h : Hh) : k_e_cmp2_1  bb h = some (.ok (.bl bb) h) := rfl
@[simp] theorem e_cmp2 (P : Prg) (r : Rec) (σ : Sl) (h : Hh) (co : Cop) (co2 : Cop) (a : CE) (b : CE) (c : CE) : evE P r σ (.cmp2 co co2 a b c) h = Ro.bd (cmp2E r co co2 σ a b c h) k_e_cmp2_1 := rfl
def k_cmp2_eq_3 (r : Rec) (σ : Sl) (co2 : Cop) (c : CE) (y : T) (k : Bool) (h : Hh) : Ro Bool := c2K r co2 σ y c k h
@[simp] theorem k_cmp2_eq_3_eq (r : Rec) (σ : Sl) (co2 : Cop) (c : CE) (y : T) (k : Bool) (h : Hh) : k_cmp2_eq_3 r σ co2 c y k h = c2K r co2 σ y c k h := rfl
def k_cmp2_eq_2 (r : Rec) (σ : Sl) (co : Cop) (co2 : Cop) (c : CE) (x : T) (y : T) (h : Hh) : Ro Bool := Ro.bd (lift (cmpT co h x y) h) (k_cmp2_eq_3 r σ co2 c y)
@[simp] theorem k_cmp2_eq_2_eq (r : Rec) (σ : Sl) (co : Cop) (co2 : Cop) (c : CE) (x : T) (y : T) (h : Hh) : k_cmp2_eq_2 r σ co co2 c x y h = Ro.bd (lift (cmpT co h x y) h) (k_cmp2_eq_3 r σ co2 c y) := rfl
def k_cmp2_eq_1 (r : Rec) (σ : Sl) (co : Cop) (co2 : Cop) (b : CE) (c : CE) (x : T) (h : Hh) : Ro Bool := Ro.bd (r.e σ b h) (k_cmp2_eq_2 r σ co co2 c x)
@[simp] theorem k_cmp2_eq_1_eq (r : Rec) (σ : Sl) (co : Cop) (co2 : Cop) (b : CE) (c : CE) (x : T) (h : Hh) : k_cmp2_eq_1 r σ co co2 b c x h = Ro.bd (r.e σ b h) (k_cmp2_eq_2 r σ co co2 c x) := rfl
@[simp] theorem cmp2_eq (r : Rec) (σ : Sl) (h : Hh) (co : Cop) (co2 : Cop) (a : CE) (b : CE) (c : CE) : cmp2E r co co2 σ a b c h = Ro.bd (r.e σ a h) (k_cmp2_eq_1 r σ co co2 b c) := rfl
def k_e_tup_1  (ts : List T) (h : Hh) : Ro T := tupK ts h
@[simp] theorem k_e_tup_1_eq  (ts : List T) (h : Hh) : k_e_tup_1  ts h = tupK ts h := rfl
@[simp] theorem e_tup (P : Prg) (r : Rec) (σ : Sl) (h : Hh) (es : List CE) : evE P r σ (.tup es) h = Ro.bd (evArgs r σ es h) k_e_tup_1 := rfl
def k_e_sub_2 (P : Prg) (r : Rec) (x : T) (y : T) (h : Hh) : Ro T := ixE P r x y h
@[simp] theorem k_e_sub_2_eq (P : Prg) (r : Rec) (x : T) (y : T) (h : Hh) : k_e_sub_2 P r x y h = ixE P r x y h := rfl
def k_e_sub_1 (P : Prg) (r : Rec) (σ : Sl) (b : CE) (x : T) (h : Hh) : Ro T := Ro.bd (r.e σ b h) (k_e_sub_2 P r x)
@[simp] theorem k_e_sub_1_eq (P : Prg) (r : Rec) (σ : Sl) (b : CE) (x : T) (h : Hh) : k_e_sub_1 P r σ b x h = Ro.bd (r.e σ b h) (k_e_sub_2 P r x) := rfl
@[simp] theorem e_sub (P : Prg) (r : Rec) (σ : Sl) (h : Hh) (a : CE) (b : CE) : evE P r σ (.sub a b) h = Ro.bd (evV r σ a h) (k_e_sub_1 P r σ b) := rfl
@[simp] theorem e_attrV (P : Prg) (r : Rec) (σ : Sl) (h : Hh) (i : Nat) (f : Nat) : evE P r σ (.attr (.var i) f) h = atS P r f σ[i]? h := rfl
def k_e_attrG_1 (P : Prg) (r : Rec) (f : Nat) (x : T) (h : Hh) : Ro T := attrT P r x f h
@[simp] theorem k_e_attrG_1_eq (P : Prg) (r : Rec) (f : Nat) (x : T) (h : Hh) : k_e_attrG_1 P r f x h = attrT P r x f h := rfl
@[simp] theorem e_attrG (P : Prg) (r : Rec) (σ : Sl) (h : Hh) (f : Nat) (g : Nat) : evE P r σ (.attr (.glob g) f) h = Ro.bd (r.e σ (.glob g) h) (k_e_attrG_1 P r f) := rfl
def k_e_attrA_1 (P : Prg) (r : Rec) (f : Nat) (x : T) (h : Hh) : Ro T := attrT P r x f h
@[simp] theorem k_e_attrA_1_eq (P : Prg) (r : Rec) (f : Nat) (x : T) (h : Hh) : k_e_attrA_1 P r f x h = attrT P r x f h := rfl
@[simp] theorem e_attrA (P : Prg) (r : Rec) (σ : Sl) (h : Hh) (a : CE) (f : Nat) (m : Nat) : evE P r σ (.attr (.attr a m) f) h = Ro.bd (r.e σ (.attr a m) h) (k_e_attrA_1 P r f) := rfl
def k_e_attrC_1 (P : Prg) (r : Rec) (f : Nat) (x : T) (h : Hh) : Ro T := attrT P r x f h
@[simp] theorem k_e_attrC_1_eq (P : Prg) (r : Rec) (f : Nat) (x : T) (h : Hh) : k_e_attrC_1 P r f x h = attrT P r x f h := rfl
@[simp] theorem e_attrC (P : Prg) (r : Rec) (σ : Sl) (h : Hh) (a : CE) (es : List CE) (kws : List (Nat × CE)) (f : Nat) : evE P r σ (.attr (.call a es kws) f) h = Ro.bd (r.e σ (.call a es kws) h) (k_e_attrC_1 P r f) := rfl
def k_e_attrS_1 (P : Prg) (r : Rec) (f : Nat) (x : T) (h : Hh) : Ro T := attrT P r x f h
@[simp] theorem k_e_attrS_1_eq (P : Prg) (r : Rec) (f : Nat) (x : T) (h : Hh) : k_e_attrS_1 P r f x h = attrT P r x f h := rfl
@[simp] theorem e_attrS (P : Prg) (r : Rec) (σ : Sl) (h : Hh) (a : CE) (b : CE) (f : Nat) : evE P r σ (.attr (.sub a b) f) h = Ro.bd (r.e σ (.sub a b) h) (k_e_attrS_1 P r f) := rfl
def k_e_slc_3 (x : T) (li : Option Int) (ui : Option Int) (h : Hh) : Ro T := slcK x li ui h
@[simp] theorem k_e_slc_3_eq (x : T) (li : Option Int) (ui : Option Int) (h : Hh) : k_e_slc_3 x li ui h = slcK x li ui h := rfl
def k_e_slc_2 (r : Rec) (σ : Sl) (x : T) (hi : Option CE) (li : Option Int) (h : Hh) : Ro T := Ro.bd (evO r σ hi h) (k_e_slc_3 x li)
@[simp] theorem k_e_slc_2_eq (r : Rec) (σ : Sl) (x : T) (hi : Option CE) (li : Option Int) (h : Hh) : k_e_slc_2 r σ x hi li h = Ro.bd (evO r σ hi h) (k_e_slc_3 x li) := rfl
def k_e_slc_1 (r : Rec) (σ : Sl) (lo : Option CE) (hi : Option CE) (x : T) (h : Hh) : Ro T := Ro.bd (evO r σ lo h) (k_e_slc_2 r σ x hi)
@[simp] theorem k_e_slc_1_eq (r : Rec) (σ : Sl) (lo : Option CE) (hi : Option CE) (x : T) (h : Hh) : k_e_slc_1 r σ lo hi x h = Ro.bd (evO r σ lo h) (k_e_slc_2 r σ x hi) := rfl
@[simp] theorem e_slc (P : Prg) (r : Rec) (σ : Sl) (h : Hh) (a : CE) (lo : Option CE) (hi : Option CE) : evE P r σ (.slc a lo hi) h = Ro.bd (evV r σ a h) (k_e_slc_1 r σ lo hi) := rfl
@[simp] theorem o_none (r : Rec) (σ : Sl) (h : Hh) : evO r σ none h = some (.ok none h) := rfl
@[simp] theorem o_some (r : Rec) (σ : Sl) (e : CE) (h : Hh) : evO r σ (some e) h = Ro.bd (r.e σ e h) oInt := rfl
def k_e_rev_1  (x : T) (h : Hh) : Ro T := revK x h
@[simp] theorem k_e_rev_1_eq  (x : T) (h : Hh) : k_e_rev_1  x h = revK x h := rfl
@[simp] theorem e_rev (P : Prg) (r : Rec) (σ : Sl) (h : Hh) (a : CE) : evE P r σ (.rev a) h = Ro.bd (evV r σ a h) k_e_rev_1 := rfl
def lsK (ts : List T) (h : Hh) : Ro T := Ro.bd (lstK ts h) frzK
@[simp] theorem lsK_eq (ts : List T) (h : Hh) : lsK ts h = Ro.bd (lstK ts h) frzK := rfl
@[simp] theorem e_lst (P : Prg) (r : Rec) (σ : Sl) (es : List CE) (h : Hh) : evE P r σ (.lst es) h = Ro.bd (evArgs r σ es h) lsK := by
  show Ro.bd (Ro.bd (evArgs r σ es h) lstK) frzK = _
  cases evArgs r σ es h with
  | none => rfl
  | some x => cases x <;> rfl
@[simp] theorem e_comp (P : Prg) (r : Rec) (σ : Sl) (el : CE) (tg : Tg) (it : CE) (ifs : List CE) (ws : List Nat) (h : Hh) : evE P r σ (.comp el tg it ifs ws) h = Ro.bd (evL P r σ (.comp el tg it ifs ws) h) frzK := rfl
@[simp] theorem l_comp (P : Prg) (r : Rec) (σ : Sl) (el : CE) (tg : Tg) (it : CE) (ifs : List CE) (ws : List Nat) (h : Hh) : evL P r σ (.comp el tg it ifs ws) h = Ro.bd (evIt r true σ it h) (cmK P r σ el tg ifs ws) := rfl
@[simp] theorem l_lst (P : Prg) (r : Rec) (σ : Sl) (es : List CE) (h : Hh) : evL P r σ (.lst es) h = Ro.bd (evArgs r σ es h) lstK := rfl
@[simp] theorem l_call (P : Prg) (r : Rec) (σ : Sl) (g : Nat) (a : CE) (h : Hh) : evL P r σ (.call (.glob g) [a] []) h = evLG r σ a h (P.gl g) := rfl
@[simp] theorem e_callG (P : Prg) (r : Rec) (σ : Sl) (g : Nat) (es : List CE) (kws : List (Nat × CE)) (h : Hh) : evE P r σ (.call (.glob g) es kws) h = callGl P r σ g es kws h (P.gl g) := by
  show (match P.gl g with | some x => if isLs x then Ro.bd (evL P r σ (.call (.glob g) es kws) h) frzK else callG P r σ x es kws h | none => none) = _
  cases P.gl g <;> rfl
def k_g_fn_2 (P : Prg) (r : Rec) (ts : List T) (f : Nat) (ks : List (Nat × T)) (h : Hh) : Ro T := callF P r f ts ks h
@[simp] theorem k_g_fn_2_eq (P : Prg) (r : Rec) (ts : List T) (f : Nat) (ks : List (Nat × T)) (h : Hh) : k_g_fn_2 P r ts f ks h = callF P r f ts ks h := rfl
def k_g_fn_1 (P : Prg) (r : Rec) (σ : Sl) (kws : List (Nat × CE)) (f : Nat) (ts : List T) (h : Hh) : Ro T := Ro.bd (evKws r σ kws h) (k_g_fn_2 P r ts f)
@[simp] theorem k_g_fn_1_eq (P : Prg) (r : Rec) (σ : Sl) (kws : List (Nat × CE)) (f : Nat) (ts : List T) (h : Hh) : k_g_fn_1 P r σ kws f ts h = Ro.bd (evKws r σ kws h) (k_g_fn_2 P r ts f) := rfl
@[simp] theorem g_fn (P : Prg) (r : Rec) (σ : Sl) (h : Hh) (es : List CE) (kws : List (Nat × CE)) (f : Nat) (g : Nat) : callGl P r σ g es kws h (some (.fn f)) = Ro.bd (evArgs r σ es h) (k_g_fn_1 P r σ kws f) := rfl
def k_g_cls_2 (P : Prg) (r : Rec) (ts : List T) (f : Nat) (ks : List (Nat × T)) (h : Hh) : Ro T := makeC P r f ts ks h
@[simp] theorem k_g_cls_2_eq (P : Prg) (r : Rec) (ts : List T) (f : Nat) (ks : List (Nat × T)) (h : Hh) : k_g_cls_2 P r ts f ks h = makeC P r f ts ks h := rfl
def k_g_cls_1 (P : Prg) (r : Rec) (σ : Sl) (kws : List (Nat × CE)) (f : Nat) (ts : List T) (h : Hh) : Ro T := Ro.bd (evKws r σ kws h) (k_g_cls_2 P r ts f)
@[simp] theorem k_g_cls_1_eq (P : Prg) (r : Rec) (σ : Sl) (kws : List (Nat × CE)) (f : Nat) (ts : List T) (h : Hh) : k_g_cls_1 P r σ kws f ts h = Ro.bd (evKws r σ kws h) (k_g_cls_2 P r ts f) := rfl
@[simp] theorem g_cls (P : Prg) (r : Rec) (σ : Sl) (h : Hh) (es : List CE) (kws : List (Nat × CE)) (f : Nat) (g : Nat) : callGl P r σ g es kws h (some (.cls f)) = Ro.bd (evArgs r σ es h) (k_g_cls_1 P r σ kws f) := rfl
def k_g_len_1 (P : Prg) (r : Rec) (x : T) (h : Hh) : Ro T := lenE P r x h
@[simp] theorem k_g_len_1_eq (P : Prg) (r : Rec) (x : T) (h : Hh) : k_g_len_1 P r x h = lenE P r x h := rfl
@[simp] theorem g_len (P : Prg) (r : Rec) (σ : Sl) (h : Hh) (a : CE) (g : Nat) : callGl P r σ g [a] [] h (some (.bi .len)) = Ro.bd (evV r σ a h) (k_g_len_1 P r) := rfl
@[simp] theorem g_sum (P : Prg) (r : Rec) (σ : Sl) (g : Nat) (es : List CE) (h : Hh) : callGl P r σ g es [] h (some (.bi .sum)) = Ro.bd (evArgs r σ es h) (biK .sum) := rfl
@[simp] theorem g_max (P : Prg) (r : Rec) (σ : Sl) (g : Nat) (es : List CE) (h : Hh) : callGl P r σ g es [] h (some (.bi .max)) = Ro.bd (evArgs r σ es h) (biK .max) := rfl
@[simp] theorem g_min (P : Prg) (r : Rec) (σ : Sl) (g : Nat) (es : List CE) (h : Hh) : callGl P r σ g es [] h (some (.bi .min)) = Ro.bd (evArgs r σ es h) (biK .min) := rfl
@[simp] theorem g_all (P : Prg) (r : Rec) (σ : Sl) (g : Nat) (es : List CE) (h : Hh) : callGl P r σ g es [] h (some (.bi .all)) = Ro.bd (evArgs r σ es h) (biK .all) := rfl
@[simp] theorem g_any (P : Prg) (r : Rec) (σ : Sl) (g : Nat) (es : List CE) (h : Hh) : callGl P r σ g es [] h (some (.bi .any)) = Ro.bd (evArgs r σ es h) (biK .any) := rfl
@[simp] theorem g_abs (P : Prg) (r : Rec) (σ : Sl) (g : Nat) (es : List CE) (h : Hh) : callGl P r σ g es [] h (some (.bi .abs)) = Ro.bd (evArgs r σ es h) (biK .abs) := rfl
def k_isi (P : Prg) (r : Rec) (σ : Sl) (b : CE) (x : T) (h : Hh) : Ro T := Ro.bd (r.e σ b h) (isiK P x)
@[simp] theorem k_isi_eq (P : Prg) (r : Rec) (σ : Sl) (b : CE) (x : T) (h : Hh) : k_isi P r σ b x h = Ro.bd (r.e σ b h) (isiK P x) := rfl
@[simp] theorem g_isi (P : Prg) (r : Rec) (σ : Sl) (g d : Nat) (a : CE) (h : Hh) : callGl P r σ g [a, .glob d] [] h (some (.bi .isinstance)) = Ro.bd (evV r σ a h) (k_isi P r σ (.glob d)) := rfl
@[simp] theorem g_ty0 (P : Prg) (r : Rec) (σ : Sl) (g : Nat) (a : CE) (h : Hh) : callGl P r σ g [a] [] h (some (.ty 0)) = Ro.bd (evV r σ a h) (tyKk 0) := rfl
@[simp] theorem g_ty1 (P : Prg) (r : Rec) (σ : Sl) (g : Nat) (a : CE) (h : Hh) : callGl P r σ g [a] [] h (some (.ty 1)) = Ro.bd (evV r σ a h) (tyKk 1) := rfl
@[simp] theorem g_ty2 (P : Prg) (r : Rec) (σ : Sl) (g : Nat) (a : CE) (h : Hh) : callGl P r σ g [a] [] h (some (.ty 2)) = Ro.bd (evV r σ a h) (tyKk 2) := rfl
@[simp] theorem g_ty3 (P : Prg) (r : Rec) (σ : Sl) (g : Nat) (a : CE) (h : Hh) : callGl P r σ g [a] [] h (some (.ty 3)) = Ro.bd (evV r σ a h) (tyKk 3) := rfl
@[simp] theorem g_ty4 (P : Prg) (r : Rec) (σ : Sl) (g : Nat) (a : CE) (h : Hh) : callGl P r σ g [a] [] h (some (.ty 4)) = Ro.bd (evL P r σ (.call (.glob g) [a] []) h) frzK := rfl
@[simp] theorem g_sorted (P : Prg) (r : Rec) (σ : Sl) (g : Nat) (a : CE) (h : Hh) : callGl P r σ g [a] [] h (some (.bi .sorted)) = Ro.bd (evL P r σ (.call (.glob g) [a] []) h) frzK := rfl
def k_e_callA_1 (P : Prg) (r : Rec) (σ : Sl) (es : List CE) (kws : List (Nat × CE)) (m : Nat) (x : T) (h : Hh) : Ro T := mthN P r σ m es kws x h
@[simp] theorem k_e_callA_1_eq (P : Prg) (r : Rec) (σ : Sl) (es : List CE) (kws : List (Nat × CE)) (m : Nat) (x : T) (h : Hh) : k_e_callA_1 P r σ es kws m x h = mthN P r σ m es kws x h := rfl
@[simp] theorem e_callA (P : Prg) (r : Rec) (σ : Sl) (h : Hh) (a : CE) (es : List CE) (kws : List (Nat × CE)) (m : Nat) : evE P r σ (.call (.attr a m) es kws) h = Ro.bd (evV r σ a h) (k_e_callA_1 P r σ es kws m) := rfl
/-! looked at -/
@[simp] theorem v_var (r : Rec) (σ : Sl) (h : Hh) (i : Nat) : evV r σ (.var i) h = slV σ[i]? h := rfl
@[simp] theorem v_con (r : Rec) (σ : Sl) (h : Hh) (t : T) : evV r σ (.con t) h = r.e σ (.con t) h := rfl
@[simp] theorem v_glob (r : Rec) (σ : Sl) (h : Hh) (g : Nat) : evV r σ (.glob g) h = r.e σ (.glob g) h := rfl
@[simp] theorem v_bin (r : Rec) (σ : Sl) (h : Hh) (o : Bop) (a : CE) (b : CE) : evV r σ (.bin o a b) h = r.e σ (.bin o a b) h := rfl
@[simp] theorem v_neg (r : Rec) (σ : Sl) (h : Hh) (a : CE) : evV r σ (.neg a) h = r.e σ (.neg a) h := rfl
@[simp] theorem v_not (r : Rec) (σ : Sl) (h : Hh) (a : CE) : evV r σ (.not a) h = r.e σ (.not a) h := rfl
@[simp] theorem v_bop (r : Rec) (σ : Sl) (h : Hh) (es : List CE) (k : Bool) : evV r σ (.bop k es) h = r.e σ (.bop k es) h := rfl
@[simp] theorem v_ife (r : Rec) (σ : Sl) (h : Hh) (a : CE) (b : CE) (c : CE) : evV r σ (.ife c a b) h = r.e σ (.ife c a b) h := rfl
@[simp] theorem v_cmp (r : Rec) (σ : Sl) (h : Hh) (co : Cop) (a : CE) (b : CE) : evV r σ (.cmp co a b) h = r.e σ (.cmp co a b) h := rfl
@[simp] theorem v_cmp2 (r : Rec) (σ : Sl) (h : Hh) (co : Cop) (co2 : Cop) (a : CE) (b : CE) (c : CE) : evV r σ (.cmp2 co co2 a b c) h = r.e σ (.cmp2 co co2 a b c) h := rfl
@[simp] theorem v_tup (r : Rec) (σ : Sl) (h : Hh) (es : List CE) : evV r σ (.tup es) h = r.e σ (.tup es) h := rfl
@[simp] theorem v_lst (r : Rec) (σ : Sl) (h : Hh) (es : List CE) : evV r σ (.lst es) h = r.e σ (.lst es) h := rfl
@[simp] theorem v_sub (r : Rec) (σ : Sl) (h : Hh) (a : CE) (b : CE) : evV r σ (.sub a b) h = r.e σ (.sub a b) h := rfl
@[simp] theorem v_slc (r : Rec) (σ : Sl) (h : Hh) (a : CE) (lo : Option CE) (hi : Option CE) : evV r σ (.slc a lo hi) h = r.e σ (.slc a lo hi) h := rfl
@[simp] theorem v_rev (r : Rec) (σ : Sl) (h : Hh) (a : CE) : evV r σ (.rev a) h = r.e σ (.rev a) h := rfl
@[simp] theorem v_attr (r : Rec) (σ : Sl) (h : Hh) (a : CE) (f : Nat) : evV r σ (.attr a f) h = r.e σ (.attr a f) h := rfl
@[simp] theorem v_call (r : Rec) (σ : Sl) (h : Hh) (a : CE) (es : List CE) (kws : List (Nat × CE)) : evV r σ (.call a es kws) h = r.e σ (.call a es kws) h := rfl
@[simp] theorem v_comp (r : Rec) (σ : Sl) (h : Hh) (tg : Tg) (ifs : List CE) (ws : List Nat) (it : CE) (el : CE) : evV r σ (.comp el tg it ifs ws) h = r.e σ (.comp el tg it ifs ws) h := rfl
@[simp] theorem v_fmt (r : Rec) (σ : Sl) (h : Hh) (es : List CE) : evV r σ (.fmt es) h = r.e σ (.fmt es) h := rfl
@[simp] theorem v_dct (r : Rec) (σ : Sl) (h : Hh) (es : List CE) (ls : List CE) : evV r σ (.dct es ls) h = r.e σ (.dct es ls) h := rfl
/-! arguments -/
@[simp] theorem a_nil (r : Rec) (σ : Sl) (h : Hh) : evArgs r σ [] h = some (.ok [] h) := rfl
def a_app (l ts : List T) (h : Hh) : Ro (List T) := some (.ok (l ++ ts) h)
@[simp] theorem a_app_eq (l ts : List T) (h : Hh) : a_app l ts h = some (.ok (l ++ ts) h) := rfl
def starK (r : Rec) (σ : Sl) (es : List CE) (t : T) (h : Hh) : Ro (List T) := match seqOf h t with | some (_, l) => Ro.bd (evArgs r σ es h) (a_app l) | none => none
@[simp] theorem starK_lst (r : Rec) (σ : Sl) (es : List CE) (l : List T) (h : Hh) : starK r σ es (.lst l) h = Ro.bd (evArgs r σ es h) (a_app l) := rfl
@[simp] theorem starK_vl (r : Rec) (σ : Sl) (es : List CE) (l : List T) (h : Hh) : starK r σ es (.vl l) h = Ro.bd (evArgs r σ es h) (a_app l) := rfl
@[simp] theorem starK_tup (r : Rec) (σ : Sl) (es : List CE) (l : List T) (h : Hh) : starK r σ es (.tup l) h = Ro.bd (evArgs r σ es h) (a_app l) := rfl
@[simp] theorem starK_ptu (r : Rec) (σ : Sl) (es : List CE) (l : List T) (h : Hh) : starK r σ es (.ptu l) h = Ro.bd (evArgs r σ es h) (a_app l) := rfl
@[simp] theorem a_star (r : Rec) (σ : Sl) (a : CE) (es : List CE) (h : Hh) : evArgs r σ (.star a :: es) h = Ro.bd (evV r σ a h) (starK r σ es) := rfl
def a_put (t : T) (ts : List T) (h : Hh) : Ro (List T) := some (.ok (t :: ts) h)
@[simp] theorem a_put_eq (t : T) (ts : List T) (h : Hh) : a_put t ts h = some (.ok (t :: ts) h) := rfl
def a_next (r : Rec) (σ : Sl) (es : List CE) (t : T) (h : Hh) : Ro (List T) := Ro.bd (evArgs r σ es h) (a_put t)
@[simp] theorem a_next_eq (r : Rec) (σ : Sl) (es : List CE) (t : T) (h : Hh) : a_next r σ es t h = Ro.bd (evArgs r σ es h) (a_put t) := rfl
@[simp] theorem a_var (r : Rec) (σ : Sl) (h : Hh) (es : List CE) (i : Nat) : evArgs r σ ((CE.var i) :: es) h = Ro.bd (r.e σ (CE.var i) h) (a_next r σ es) := rfl
@[simp] theorem a_con (r : Rec) (σ : Sl) (h : Hh) (es : List CE) (t : T) : evArgs r σ ((CE.con t) :: es) h = Ro.bd (r.e σ (CE.con t) h) (a_next r σ es) := rfl
@[simp] theorem a_glob (r : Rec) (σ : Sl) (h : Hh) (es : List CE) (g : Nat) : evArgs r σ ((CE.glob g) :: es) h = Ro.bd (r.e σ (CE.glob g) h) (a_next r σ es) := rfl
@[simp] theorem a_bin (r : Rec) (σ : Sl) (h : Hh) (o : Bop) (a : CE) (b : CE) (es : List CE) : evArgs r σ ((CE.bin o a b) :: es) h = Ro.bd (r.e σ (CE.bin o a b) h) (a_next r σ es) := rfl
@[simp] theorem a_neg (r : Rec) (σ : Sl) (h : Hh) (a : CE) (es : List CE) : evArgs r σ ((CE.neg a) :: es) h = Ro.bd (r.e σ (CE.neg a) h) (a_next r σ es) := rfl
@[simp] theorem a_not (r : Rec) (σ : Sl) (h : Hh) (a : CE) (es : List CE) : evArgs r σ ((CE.not a) :: es) h = Ro.bd (r.e σ (CE.not a) h) (a_next r σ es) := rfl
@[simp] theorem a_bop (r : Rec) (σ : Sl) (h : Hh) (es : List CE) (ls : List CE) (k : Bool) : evArgs r σ ((CE.bop k ls) :: es) h = Ro.bd (r.e σ (CE.bop k ls) h) (a_next r σ es) := rfl
@[simp] theorem a_ife (r : Rec) (σ : Sl) (h : Hh) (a : CE) (b : CE) (c : CE) (es : List CE) : evArgs r σ ((CE.ife c a b) :: es) h = Ro.bd (r.e σ (CE.ife c a b) h) (a_next r σ es) := rfl
@[simp] theorem a_cmp (r : Rec) (σ : Sl) (h : Hh) (co : Cop) (a : CE) (b : CE) (es : List CE) : evArgs r σ ((CE.cmp co a b) :: es) h = Ro.bd (r.e σ (CE.cmp co a b) h) (a_next r σ es) := rfl
@[simp] theorem a_cmp2 (r : Rec) (σ : Sl) (h : Hh) (co : Cop) (co2 : Cop) (a : CE) (b : CE) (c : CE) (es : List CE) : evArgs r σ ((CE.cmp2 co co2 a b c) :: es) h = Ro.bd (r.e σ (CE.cmp2 co co2 a b c) h) (a_next r σ es) := rfl
@[simp] theorem a_tup (r : Rec) (σ : Sl) (h : Hh) (es : List CE) (ls : List CE) : evArgs r σ ((CE.tup ls) :: es) h = Ro.bd (r.e σ (CE.tup ls) h) (a_next r σ es) := rfl
@[simp] theorem a_lst (r : Rec) (σ : Sl) (h : Hh) (es : List CE) (ls : List CE) : evArgs r σ ((CE.lst ls) :: es) h = Ro.bd (r.e σ (CE.lst ls) h) (a_next r σ es) := rfl
@[simp] theorem a_sub (r : Rec) (σ : Sl) (h : Hh) (a : CE) (b : CE) (es : List CE) : evArgs r σ ((CE.sub a b) :: es) h = Ro.bd (r.e σ (CE.sub a b) h) (a_next r σ es) := rfl
@[simp] theorem a_slc (r : Rec) (σ : Sl) (h : Hh) (a : CE) (es : List CE) (lo : Option CE) (hi : Option CE) : evArgs r σ ((CE.slc a lo hi) :: es) h = Ro.bd (r.e σ (CE.slc a lo hi) h) (a_next r σ es) := rfl
@[simp] theorem a_rev (r : Rec) (σ : Sl) (h : Hh) (a : CE) (es : List CE) : evArgs r σ ((CE.rev a) :: es) h = Ro.bd (r.e σ (CE.rev a) h) (a_next r σ es) := rfl
@[simp] theorem a_attr (r : Rec) (σ : Sl) (h : Hh) (a : CE) (es : List CE) (f : Nat) : evArgs r σ ((CE.attr a f) :: es) h = Ro.bd (r.e σ (CE.attr a f) h) (a_next r σ es) := rfl
@[simp] theorem a_call (r : Rec) (σ : Sl) (h : Hh) (a : CE) (es : List CE) (ls : List CE) (kws : List (Nat × CE)) : evArgs r σ ((CE.call a ls kws) :: es) h = Ro.bd (r.e σ (CE.call a ls kws) h) (a_next r σ es) := rfl
@[simp] theorem a_comp (r : Rec) (σ : Sl) (h : Hh) (es : List CE) (tg : Tg) (ifs : List CE) (ws : List Nat) (it : CE) (el : CE) : evArgs r σ ((CE.comp el tg it ifs ws) :: es) h = Ro.bd (r.e σ (CE.comp el tg it ifs ws) h) (a_next r σ es) := rfl
@[simp] theorem a_fmt (r : Rec) (σ : Sl) (h : Hh) (es : List CE) (ls : List CE) : evArgs r σ ((CE.fmt ls) :: es) h = Ro.bd (r.e σ (CE.fmt ls) h) (a_next r σ es) := rfl
@[simp] theorem k_nil (r : Rec) (σ : Sl) (h : Hh) : evKws r σ [] h = some (.ok [] h) := rfl
def k_put (f : Nat) (t : T) (ks : List (Nat × T)) (h : Hh) : Ro (List (Nat × T)) := some (.ok ((f, t) :: ks) h)
@[simp] theorem k_put_eq (f : Nat) (t : T) (ks : List (Nat × T)) (h : Hh) : k_put f t ks h = some (.ok ((f, t) :: ks) h) := rfl
def k_next (r : Rec) (σ : Sl) (f : Nat) (kws : List (Nat × CE)) (t : T) (h : Hh) : Ro (List (Nat × T)) := Ro.bd (evKws r σ kws h) (k_put f t)
@[simp] theorem k_next_eq (r : Rec) (σ : Sl) (f : Nat) (kws : List (Nat × CE)) (t : T) (h : Hh) : k_next r σ f kws t h = Ro.bd (evKws r σ kws h) (k_put f t) := rfl
@[simp] theorem k_cons (r : Rec) (σ : Sl) (f : Nat) (e : CE) (kws : List (Nat × CE)) (h : Hh) : evKws r σ ((f, e) :: kws) h = Ro.bd (r.e σ e h) (k_next r σ f kws) := rfl
def pK3 (key : L2.Key) (u : T) (l : List (L2.Key × T)) (h : Hh) : Ro (List (L2.Key × T)) := some (.ok ((key, u) :: l) h)
@[simp] theorem pK3_eq (key : L2.Key) (u : T) (l : List (L2.Key × T)) (h : Hh) : pK3 key u l h = some (.ok ((key, u) :: l) h) := rfl
def pK2 (r : Rec) (σ : Sl) (es ls : List CE) (t u : T) (h : Hh) : Ro (List (L2.Key × T)) := match keyT t with
    | some key => Ro.bd (evPairs r σ es ls h) (pK3 key u)
    | none => none
@[simp] theorem pK2_s (r : Rec) (σ : Sl) (es ls : List CE) (x : Str) (u : T) (h : Hh) : pK2 r σ es ls (.str x) u h = Ro.bd (evPairs r σ es ls h) (pK3 (.inr x) u) := rfl
@[simp] theorem pK2_i (r : Rec) (σ : Sl) (es ls : List CE) (x : Int) (u : T) (h : Hh) : pK2 r σ es ls (.int x) u h = Ro.bd (evPairs r σ es ls h) (pK3 (.inl x) u) := rfl
def pK1 (r : Rec) (σ : Sl) (es : List CE) (e : CE) (ls : List CE) (t : T) (h : Hh) : Ro (List (L2.Key × T)) := Ro.bd (r.e σ e h) (pK2 r σ es ls t)
@[simp] theorem pK1_eq (r : Rec) (σ : Sl) (es : List CE) (e : CE) (ls : List CE) (t : T) (h : Hh) : pK1 r σ es e ls t h = Ro.bd (r.e σ e h) (pK2 r σ es ls t) := rfl
@[simp] theorem p_nil (r : Rec) (σ : Sl) (h : Hh) : evPairs r σ [] [] h = some (.ok [] h) := rfl
@[simp] theorem p_cons (r : Rec) (σ : Sl) (e2 e : CE) (es ls : List CE) (h : Hh) : evPairs r σ (e2 :: es) (e :: ls) h = Ro.bd (r.e σ e2 h) (pK1 r σ es e ls) := rfl
def dcK (l : List (L2.Key × T)) (h : Hh) : Ro T := if l.length ≤ 15 then some (.ok (.ref h.length) (h ++ [.dct (mergeD l)])) else none
theorem dcK_ok {l : List (L2.Key × T)} (q : l.length ≤ 15) (h : Hh) : dcK l h = some (.ok (.ref h.length) (h ++ [.dct (mergeD l)])) := if_pos q
@[simp] theorem e_dct (P : Prg) (r : Rec) (σ : Sl) (es ls : List CE) (h : Hh) : evE P r σ (.dct es ls) h = Ro.bd (evPairs r σ es ls h) dcK := rfl
/-! tests -/
def k_t_not_1  (bb : Bool) (h : Hh) : Ro Bool := some (.ok (!bb) h)
@[simp] theorem k_t_not_1_eq  (bb : Bool) (h : Hh) : k_t_not_1  bb h = some (.ok (!bb) h) := rfl
@[simp] theorem t_not (P : Prg) (r : Rec) (σ : Sl) (h : Hh) (n : Nat) (a : CE) : evB P r (n + 1) σ (.not a) h = Ro.bd (evB P r n σ a h) k_t_not_1 := rfl
@[simp] theorem t_bop1 (P : Prg) (r : Rec) (n : Nat) (σ : Sl) (k : Bool) (a : CE) (h : Hh) : evB P r (n + 1) σ (.bop k [a]) h = evB P r n σ a h := by cases k <;> rfl
def k_t_and_1 (P : Prg) (r : Rec) (σ : Sl) (n : Nat) (b : CE) (es : List CE) (bb : Bool) (h : Hh) : Ro Bool := tAnd P r n σ (b :: es) bb h
@[simp] theorem k_t_and_1_eq (P : Prg) (r : Rec) (σ : Sl) (n : Nat) (b : CE) (es : List CE) (bb : Bool) (h : Hh) : k_t_and_1 P r σ n b es bb h = tAnd P r n σ (b :: es) bb h := rfl
@[simp] theorem t_and (P : Prg) (r : Rec) (σ : Sl) (h : Hh) (n : Nat) (a : CE) (b : CE) (es : List CE) : evB P r (n + 1) σ (.bop true (a :: b :: es)) h = Ro.bd (evB P r n σ a h) (k_t_and_1 P r σ n b es) := rfl
def k_t_or_1 (P : Prg) (r : Rec) (σ : Sl) (n : Nat) (b : CE) (es : List CE) (bb : Bool) (h : Hh) : Ro Bool := tOr P r n σ (b :: es) bb h
@[simp] theorem k_t_or_1_eq (P : Prg) (r : Rec) (σ : Sl) (n : Nat) (b : CE) (es : List CE) (bb : Bool) (h : Hh) : k_t_or_1 P r σ n b es bb h = tOr P r n σ (b :: es) bb h := rfl
@[simp] theorem t_or (P : Prg) (r : Rec) (σ : Sl) (h : Hh) (n : Nat) (a : CE) (b : CE) (es : List CE) : evB P r (n + 1) σ (.bop false (a :: b :: es)) h = Ro.bd (evB P r n σ a h) (k_t_or_1 P r σ n b es) := rfl
def k_t_cmp_2 (P : Prg) (r : Rec) (co : Cop) (x : T) (y : T) (h : Hh) : Ro Bool := cmpE P r co x y h
@[simp] theorem k_t_cmp_2_eq (P : Prg) (r : Rec) (co : Cop) (x : T) (y : T) (h : Hh) : k_t_cmp_2 P r co x y h = cmpE P r co x y h := rfl
def k_t_cmp_1 (P : Prg) (r : Rec) (σ : Sl) (co : Cop) (b : CE) (x : T) (h : Hh) : Ro Bool := Ro.bd (evV r σ b h) (k_t_cmp_2 P r co x)
@[simp] theorem k_t_cmp_1_eq (P : Prg) (r : Rec) (σ : Sl) (co : Cop) (b : CE) (x : T) (h : Hh) : k_t_cmp_1 P r σ co b x h = Ro.bd (evV r σ b h) (k_t_cmp_2 P r co x) := rfl
@[simp] theorem t_cmp (P : Prg) (r : Rec) (σ : Sl) (h : Hh) (n : Nat) (co : Cop) (a : CE) (b : CE) : evB P r (n + 1) σ (.cmp co a b) h = Ro.bd (evV r σ a h) (k_t_cmp_1 P r σ co b) := rfl
@[simp] theorem t_cmp2 (P : Prg) (r : Rec) (σ : Sl) (h : Hh) (n : Nat) (co : Cop) (co2 : Cop) (a : CE) (b : CE) (c : CE) : evB P r (n + 1) σ (.cmp2 co co2 a b c) h = cmp2E r co co2 σ a b c h := rfl
def k_t_call_1 (P : Prg) (r : Rec) (t : T) (h : Hh) : Ro Bool := truE P r t h
@[simp] theorem k_t_call_1_eq (P : Prg) (r : Rec) (t : T) (h : Hh) : k_t_call_1 P r t h = truE P r t h := rfl
@[simp] theorem t_call (P : Prg) (r : Rec) (σ : Sl) (h : Hh) (n : Nat) (a : CE) (es : List CE) (kws : List (Nat × CE)) : evB P r (n + 1) σ (.call a es kws) h = Ro.bd (r.e σ (.call a es kws) h) (k_t_call_1 P r) := rfl
def k_t_attr_1 (P : Prg) (r : Rec) (t : T) (h : Hh) : Ro Bool := truE P r t h
@[simp] theorem k_t_attr_1_eq (P : Prg) (r : Rec) (t : T) (h : Hh) : k_t_attr_1 P r t h = truE P r t h := rfl
@[simp] theorem t_attr (P : Prg) (r : Rec) (σ : Sl) (h : Hh) (n : Nat) (a : CE) (f : Nat) : evB P r (n + 1) σ (.attr a f) h = Ro.bd (r.e σ (.attr a f) h) (k_t_attr_1 P r) := rfl
def k_t_sub_1 (P : Prg) (r : Rec) (t : T) (h : Hh) : Ro Bool := truE P r t h
@[simp] theorem k_t_sub_1_eq (P : Prg) (r : Rec) (t : T) (h : Hh) : k_t_sub_1 P r t h = truE P r t h := rfl
@[simp] theorem t_sub (P : Prg) (r : Rec) (σ : Sl) (h : Hh) (n : Nat) (a : CE) (b : CE) : evB P r (n + 1) σ (.sub a b) h = Ro.bd (r.e σ (.sub a b) h) (k_t_sub_1 P r) := rfl
def k_t_var_1 (P : Prg) (r : Rec) (t : T) (h : Hh) : Ro Bool := truE P r t h
@[simp] theorem k_t_var_1_eq (P : Prg) (r : Rec) (t : T) (h : Hh) : k_t_var_1 P r t h = truE P r t h := rfl
@[simp] theorem t_var (P : Prg) (r : Rec) (σ : Sl) (h : Hh) (n : Nat) (i : Nat) : evB P r (n + 1) σ (.var i) h = Ro.bd (slV σ[i]? h) (k_t_var_1 P r) := rfl
@[simp] theorem i_nil (P : Prg) (r : Rec) (σ : Sl) (h : Hh) : evIfs P r σ [] h = some (.ok true h) := rfl
@[simp] theorem i_one (P : Prg) (r : Rec) (σ : Sl) (c : CE) (h : Hh) : evIfs P r σ [c] h = evB P r 50 σ c h := rfl
/-! walks -/
@[simp] theorem w_t (r : Rec) (σ : Sl) (e : CE) (h : Hh) : evW r true σ e h = evV r σ e h := rfl
@[simp] theorem w_f (r : Rec) (σ : Sl) (e : CE) (h : Hh) : evW r false σ e h = r.e σ e h := rfl
@[simp] theorem it_rng (r : Rec) (wb : Bool) (σ : Sl) (es : List CE) (h : Hh) : evIt r wb σ (.irng es) h = Ro.bd (evArgs r σ es h) rgK := rfl
@[simp] theorem it_enm (r : Rec) (wb : Bool) (σ : Sl) (a : CE) (h : Hh) : evIt r wb σ (.ienm a) h = Ro.bd (evW r wb σ a h) enK := rfl
def zpJ (r : Rec) (wb : Bool) (σ : Sl) (b : CE) (t : T) (h : Hh) : Ro (List T) := Ro.bd (evW r wb σ b h) (zpK t)
@[simp] theorem zpJ_eq (r : Rec) (wb : Bool) (σ : Sl) (b : CE) (t : T) (h : Hh) : zpJ r wb σ b t h = Ro.bd (evW r wb σ b h) (zpK t) := rfl
@[simp] theorem it_zip (r : Rec) (wb : Bool) (σ : Sl) (a b : CE) (h : Hh) : evIt r wb σ (.izip a b) h = Ro.bd (evW r wb σ a h) (zpJ r wb σ b) := rfl
@[simp] theorem it_var (r : Rec) (σ : Sl) (h : Hh) (i : Nat) (wb : Bool) : evIt r wb σ (CE.var i) h = Ro.bd (evW r wb σ (CE.var i) h) itK := rfl
@[simp] theorem it_attr (r : Rec) (σ : Sl) (h : Hh) (a : CE) (f : Nat) (wb : Bool) : evIt r wb σ (CE.attr a f) h = Ro.bd (evW r wb σ (CE.attr a f) h) itK := rfl
@[simp] theorem it_call (r : Rec) (σ : Sl) (h : Hh) (a : CE) (es : List CE) (kws : List (Nat × CE)) (wb : Bool) : evIt r wb σ (CE.call a es kws) h = Ro.bd (evW r wb σ (CE.call a es kws) h) itK := rfl
@[simp] theorem it_lst (r : Rec) (σ : Sl) (h : Hh) (es : List CE) (wb : Bool) : evIt r wb σ (CE.lst es) h = Ro.bd (evW r wb σ (CE.lst es) h) itK := rfl
@[simp] theorem it_bin (r : Rec) (σ : Sl) (h : Hh) (o : Bop) (a : CE) (b : CE) (wb : Bool) : evIt r wb σ (CE.bin o a b) h = Ro.bd (evW r wb σ (CE.bin o a b) h) itK := rfl
@[simp] theorem it_slc (r : Rec) (σ : Sl) (h : Hh) (a : CE) (lo : Option CE) (hi : Option CE) (wb : Bool) : evIt r wb σ (CE.slc a lo hi) h = Ro.bd (evW r wb σ (CE.slc a lo hi) h) itK := rfl
@[simp] theorem it_sub (r : Rec) (σ : Sl) (h : Hh) (a : CE) (b : CE) (wb : Bool) : evIt r wb σ (CE.sub a b) h = Ro.bd (evW r wb σ (CE.sub a b) h) itK := rfl
@[simp] theorem it_rev (r : Rec) (σ : Sl) (h : Hh) (a : CE) (wb : Bool) : evIt r wb σ (CE.rev a) h = Ro.bd (evW r wb σ (CE.rev a) h) itK := rfl
@[simp] theorem it_tup (r : Rec) (σ : Sl) (h : Hh) (es : List CE) (wb : Bool) : evIt r wb σ (CE.tup es) h = Ro.bd (evW r wb σ (CE.tup es) h) itK := rfl
/-! statements -/
def k_s_set_1 (σ : Sl) (tg : Tg) (t : T) (h : Hh) : So := setK tg σ t h
@[simp] theorem k_s_set_1_eq (σ : Sl) (tg : Tg) (t : T) (h : Hh) : k_s_set_1 σ tg t h = setK tg σ t h := rfl
@[simp] theorem s_set (P : Prg) (wf : Nat) (r : Rec) (σ : Sl) (h : Hh) (e : CE) (tg : Tg) : evS P r wf σ (.set tg e) h = So.of σ (r.e σ e h) (k_s_set_1 σ tg) := rfl
@[simp] theorem s_own (P : Prg) (r : Rec) (wf : Nat) (σ : Sl) (i : Nat) (e : CE) (h : Hh) : evS P r wf σ (.own i e) h = So.of σ (evL P r σ e h) (owK i σ) := rfl
@[simp] theorem s_box (P : Prg) (r : Rec) (wf : Nat) (σ : Sl) (i : Nat) (e : CE) (h : Hh) : evS P r wf σ (.box i e) h = So.of σ (evL P r σ e h) (bxK i σ) := rfl
@[simp] theorem s_setL (P : Prg) (r : Rec) (wf : Nat) (σ : Sl) (i : Nat) (e : CE) (h : Hh) : evS P r wf σ (.setL i e) h = So.of σ (evL P r σ e h) (slK i σ) := rfl
@[simp] theorem s_par (P : Prg) (r : Rec) (wf : Nat) (σ : Sl) (is_ : List (Nat × Nat)) (es : List CE) (h : Hh) : evS P r wf σ (.par is_ es) h = So.of σ (parL P r σ is_ es σ h) paK := rfl
@[simp] theorem pa_nil (P : Prg) (r : Rec) (σ acc : Sl) (h : Hh) : parL P r σ [] [] acc h = some (.ok acc h) := rfl
def pa0 (P : Prg) (r : Rec) (σ : Sl) (is_ : List (Nat × Nat)) (es : List CE) (acc : Sl) (i : Nat) (t : T) (h : Hh) : Ro Sl := parL P r σ is_ es (acc.set i (.val t)) h
@[simp] theorem pa0_eq (P : Prg) (r : Rec) (σ : Sl) (is_ : List (Nat × Nat)) (es : List CE) (acc : Sl) (i : Nat) (t : T) (h : Hh) : pa0 P r σ is_ es acc i t h = parL P r σ is_ es (acc.set i (.val t)) h := rfl
@[simp] theorem pa_0 (P : Prg) (r : Rec) (σ : Sl) (is_ : List (Nat × Nat)) (e : CE) (es : List CE) (acc : Sl) (i : Nat) (h : Hh) : parL P r σ ((i, 0) :: is_) (e :: es) acc h = Ro.bd (r.e σ e h) (pa0 P r σ is_ es acc i) := rfl
def pa1 (P : Prg) (r : Rec) (σ : Sl) (is_ : List (Nat × Nat)) (es : List CE) (acc : Sl) (i : Nat) (l : List T) (h : Hh) : Ro Sl := parL P r σ is_ es (acc.set i (.own l)) h
@[simp] theorem pa1_eq (P : Prg) (r : Rec) (σ : Sl) (is_ : List (Nat × Nat)) (es : List CE) (acc : Sl) (i : Nat) (l : List T) (h : Hh) : pa1 P r σ is_ es acc i l h = parL P r σ is_ es (acc.set i (.own l)) h := rfl
@[simp] theorem pa_1 (P : Prg) (r : Rec) (σ : Sl) (is_ : List (Nat × Nat)) (e : CE) (es : List CE) (acc : Sl) (i : Nat) (h : Hh) : parL P r σ ((i, 1) :: is_) (e :: es) acc h = Ro.bd (evL P r σ e h) (pa1 P r σ is_ es acc i) := rfl
def pa2 (P : Prg) (r : Rec) (σ : Sl) (is_ : List (Nat × Nat)) (es : List CE) (acc : Sl) (i : Nat) (l : List T) (h : Hh) : Ro Sl := parL P r σ is_ es (acc.set i (.val (.ref h.length))) (h ++ [.lst l])
@[simp] theorem pa2_eq (P : Prg) (r : Rec) (σ : Sl) (is_ : List (Nat × Nat)) (es : List CE) (acc : Sl) (i : Nat) (l : List T) (h : Hh) : pa2 P r σ is_ es acc i l h = parL P r σ is_ es (acc.set i (.val (.ref h.length))) (h ++ [.lst l]) := rfl
@[simp] theorem pa_2 (P : Prg) (r : Rec) (σ : Sl) (is_ : List (Nat × Nat)) (e : CE) (es : List CE) (acc : Sl) (i : Nat) (h : Hh) : parL P r σ ((i, 2) :: is_) (e :: es) acc h = Ro.bd (evL P r σ e h) (pa2 P r σ is_ es acc i) := rfl
@[simp] theorem s_fld (P : Prg) (r : Rec) (wf : Nat) (σ : Sl) (i f : Nat) (e : CE) (h : Hh) : evS P r wf σ (.fld i f e) h = So.of σ (r.e σ e h) (flK P i f σ) := rfl
@[simp] theorem s_flds (P : Prg) (r : Rec) (wf : Nat) (σ : Sl) (i f : Nat) (fl : List (Nat × Nat)) (es : List CE) (h : Hh) : evS P r wf σ (.flds ((i, f) :: fl) es) h = So.of σ (evArgs r σ es h) (fsK P i ((i, f) :: fl) σ) := rfl
@[simp] theorem s_item (P : Prg) (r : Rec) (wf : Nat) (σ : Sl) (a b e : CE) (h : Hh) : evS P r wf σ (.item a b e) h = So.of σ (r.e σ e h) (itA r a b σ) := rfl
@[simp] theorem s_itemB (P : Prg) (r : Rec) (wf : Nat) (σ : Sl) (a b e : CE) (h : Hh) : evS P r wf σ (.itemB a b e) h = So.of σ (evL P r σ e h) (ibA r a b σ) := rfl
@[simp] theorem s_app (P : Prg) (r : Rec) (wf : Nat) (σ : Sl) (i : Nat) (e : CE) (h : Hh) : evS P r wf σ (.app i e) h = appS r i e σ h σ[i]? := rfl
@[simp] theorem s_ext (P : Prg) (r : Rec) (wf : Nat) (σ : Sl) (i : Nat) (e : CE) (h : Hh) : evS P r wf σ (.ext i e) h = exS r i e σ h σ[i]? := rfl
@[simp] theorem s_oset (P : Prg) (r : Rec) (wf : Nat) (σ : Sl) (i : Nat) (a e : CE) (h : Hh) : evS P r wf σ (.oset i a e) h = osS r i a e σ h σ[i]? := rfl
@[simp] theorem s_aug (P : Prg) (r : Rec) (wf : Nat) (σ : Sl) (i : Nat) (o : Bop) (e : CE) (h : Hh) : evS P r wf σ (.aug i o e) h = agS r i o e σ h σ[i]? := rfl
@[simp] theorem s_frz (P : Prg) (r : Rec) (wf : Nat) (σ : Sl) (i : Nat) (h : Hh) : evS P r wf σ (.frz i) h = fzS i σ h σ[i]? := rfl
@[simp] theorem s_exp (P : Prg) (r : Rec) (wf : Nat) (σ : Sl) (e : CE) (h : Hh) : evS P r wf σ (.exp e) h = So.of σ (r.e σ e h) (dpK σ) := rfl
@[simp] theorem s_ret (P : Prg) (r : Rec) (wf : Nat) (σ : Sl) (e : CE) (h : Hh) : evS P r wf σ (.ret e) h = So.of σ (r.e σ e h) rtK := rfl
@[simp] theorem s_ife (P : Prg) (r : Rec) (wf : Nat) (σ : Sl) (c : CE) (a b : List CS) (h : Hh) : evS P r wf σ (.ife c a b) h = So.of σ (evB P r 50 σ c h) (ifS r σ a b) := rfl
def forS (r : Rec) (tg : Tg) (b : List CS) (σ : Sl) (l : List T) (h : Hh) : So := forL tg b r.ss l σ h
@[simp] theorem forS_eq (r : Rec) (tg : Tg) (b : List CS) (σ : Sl) (l : List T) (h : Hh) : forS r tg b σ l h = forL tg b r.ss l σ h := rfl
@[simp] theorem s_for (P : Prg) (r : Rec) (wf : Nat) (σ : Sl) (tg : Tg) (it : CE) (b : List CS) (h : Hh) : evS P r wf σ (.for_ tg it b) h = So.of σ (evIt r false σ it h) (forS r tg b σ) := rfl
@[simp] theorem s_pass (P : Prg) (r : Rec) (wf : Nat) (σ : Sl) (h : Hh) : evS P r wf σ .pass h = some (Fl.nx σ, h) := rfl
end Ev.Q
end
section
set_option Elab.async false
set_option linter.all false
set_option maxRecDepth 100000
set_option maxHeartbeats 1000000
/-! Ev, part Qb: ways to use the equations. -/
namespace Ev.Q
open PySem Ev
section
variable {P : Prg} {wf n : Nat} {σ : Sl} {h : Hh}
theorem cf_open {f : Nat} {d : FnD} {ts bs : List T} {ks : List (Nat × T)} (hf : P.fn f = some d) (hb : bindA d ts ks = some bs) : callF P (run P wf (n + 2)) f ts ks h = endC (evSs P (run P wf n) wf (startS d.n bs) d.body h) := by
  rw [cf P _ h f d ts ks hf, hb, bk_some, run_call, c_call _ _ _ f d bs hf, run_ss]
/-- .. an instance is made -/
def endI (c : Nat) (o : So) : Ro T := match o with
    | some (.nx σ, h) => (match (σ : List SV)[(0 : Nat)]? with
      | some (SV.self c' fs) => if c' = c then some (.ok (.ins c fs) h) else none
      | _ => none)
    | some (.ex c fs _, h) => some (.ex c fs h)
    | _ => none
theorem endI_nx (c : Nat) (fs : List (Nat × T)) (σ : Sl) : endI c (some (.nx (SV.self c fs :: σ), h)) = some (.ok (.ins c fs) h) := if_pos rfl
theorem endI_ex (c c' : Nat) (fs : List (Nat × T)) (σ : Sl) : endI c (some (.ex c' fs σ, h)) = some (.ex c' fs h) := rfl
theorem mk_open {c f : Nat} {k : ClD} {d : FnD} {ts bs : List T} {ks : List (Nat × T)} (hc : P.cl c = some k) (hk : k.kind = 0) (hi : k.init = some f) (hf : P.fn f = some d) (hb : bindA d (.non :: ts) ks = some (.non :: bs)) :
    makeC P (run P wf (n + 2)) c ts ks h = endI c (evSs P (run P wf n) wf ((startS d.n (.non :: bs)).set 0 (.self c [])) d.body h) := by
  unfold makeC
  simp only [hc, hk, hi, hf, hb]
  show Ro.bd (evInit P (run P wf (n + 1)) f c [] bs h) _ = _
  unfold evInit
  rw [hf]
  dsimp only
  rw [run_ss]
  cases evSs P (run P wf n) wf ((startS d.n (.non :: bs)).set 0 (.self c [])) d.body h with
  | none => rfl
  | some y =>
    obtain ⟨fl, h'⟩ := y
    cases fl with
    | nx σ =>
      unfold endI
      dsimp only
      cases e : (σ : List SV)[(0 : Nat)]? with
      | none => rfl
      | some sv =>
        cases sv with
        | self c' fs =>
          dsimp only
          by_cases hcc : c' = c
          · rw [if_pos hcc, if_pos hcc] <;> rfl
          · rw [if_neg hcc, if_neg hcc] <;> rfl
        | _ => rfl
    | _ => rfl
/-- a comprehension without cells -/
theorem comp_pure {tg : Tg} {tst : Sl → Hh → Ro Bool} {el : Sl → Hh → Ro (List T)} (f : T → T) (p : T → Bool) (σf : T → Sl) : ∀ (l : List T), (∀ t ∈ l, setTg tg t σ = some (σf t) ∧ tst (σf t) h = some (.ok (p t) h) ∧ (p t = true → el (σf t) h = some (.ok [f t] h))) →
    compL tg tst el σ l h = some (.ok ((l.filter p).map f) h)
  | [], _ => rfl
  | t :: l, q => by
    obtain ⟨h1, h2, h3⟩ := q t List.mem_cons_self
    have ih := comp_pure f p σf l fun u hu => q u (List.mem_cons_of_mem _ hu)
    unfold compL
    rw [h1]
    dsimp only
    rw [h2, Ro.bd_ok]
    cases hp : p t with
    | true => rw [if_pos rfl, h3 hp, Ro.bd_ok, ih, Ro.bd_ok, List.filter_cons_of_pos hp] <;> rfl
    | false => rw [if_neg Bool.false_ne_true, ih, List.filter_cons_of_neg (by rw [hp]; exact Bool.false_ne_true)]
/-- .. with cells: I holds of what is left and of the cells, each item is good -/
theorem comp_inv {tg : Tg} {tst : Sl → Hh → Ro Bool} {el : Sl → Hh → Ro (List T)} {I : List T → Hh → Prop} {G : T → Prop} : ∀ (l : List T) (h : Hh), I l h → (∀ t r h, (t :: r) <:+ l → I (t :: r) h → ∃ σ' u h', setTg tg t σ = some σ' ∧ tst σ' h = some (.ok true h) ∧ el σ' h = some (.ok [u] h') ∧ G u ∧ I r h') →
    ∃ us h', compL tg tst el σ l h = some (.ok us h') ∧ us.length = l.length ∧ (∀ u ∈ us, G u) ∧ I [] h'
  | [], h, i, _ => ⟨[], h, rfl, rfl, fun _ z => (List.not_mem_nil z).elim, i⟩
  | t :: l, h, i, q => by
    obtain ⟨σ', u, h1, e1, e2, e3, g, i1⟩ := q t l h (List.suffix_refl _) i
    obtain ⟨us, h2, e4, e5, e6, i2⟩ := comp_inv l h1 i1 fun t r h hs => q t r h (hs.trans (List.suffix_cons _ _))
    refine ⟨u :: us, h2, ?_, by simp [e5], fun x hx => ?_, i2⟩
    · unfold compL
      rw [e1]
      dsimp only
      rw [e2, Ro.bd_ok, if_pos rfl, e3, Ro.bd_ok, e4, Ro.bd_ok] <;> rfl
    · rcases List.mem_cons.mp hx with rfl | hx
      · exact g
      · exact e6 x hx
/-- a loop by its invariant: each turn goes on -/
theorem for_inv {tg : Tg} {b : List CS} {ss : Sl → List CS → Hh → So} {I : List T → Sl → Hh → Prop} : ∀ (l : List T) (σ : Sl) (h : Hh), I l σ h → (∀ t r σ h, (t :: r) <:+ l → I (t :: r) σ h → ∃ σ1 σ' h', setTg tg t σ = some σ1 ∧ ss σ1 b h = some (.nx σ', h') ∧ I r σ' h') →
    ∃ σ' h', forL tg b ss l σ h = some (.nx σ', h') ∧ I [] σ' h'
  | [], σ, h, i, _ => ⟨σ, h, rfl, i⟩
  | t :: l, σ, h, i, q => by
    obtain ⟨σ1, σ2, h2, e1, e2, i2⟩ := q t l σ h (List.suffix_refl _) i
    obtain ⟨σ', h', e3, i3⟩ := for_inv l σ2 h2 i2 fun t r σ h hs => q t r σ h (hs.trans (List.suffix_cons _ _))
    refine ⟨σ', h', ?_, i3⟩
    rw [f_cons, e1, forT_some, e2, fk_nx, e3]
end
end Ev.Q
end
section
set_option Elab.async false
set_option linter.all false
set_option maxRecDepth 100000
set_option maxHeartbeats 1000000
/-! Ev, part Qc: operators on plain values. -/
namespace Ev.Q
open PySem Ev
section
variable (P : Prg) (r : Rec) (h : Hh)
@[simp] theorem add_int (a b : Int) : binE P r .add (.int a) (.int b) h = some (.ok (.int (a + b)) h) := rfl
@[simp] theorem sub_int (a b : Int) : binE P r .sub (.int a) (.int b) h = some (.ok (.int (a - b)) h) := rfl
theorem mul_int {a b : Int} (q : mulOk a b = true) : binE P r .mul (.int a) (.int b) h = some (.ok (.int (a * b)) h) := by
  show lift (if mulOk a b then some (T.int (a * b)) else none) h = _
  rw [q] <;> rfl
theorem mulOk_l {a b : Int} (h1 : -(2 ^ 64) < a) (h2 : a < 2 ^ 64) : mulOk a b = true := by
  unfold mulOk
  rw [decide_eq_true h1, decide_eq_true h2] <;> rfl
theorem mulOk_r {a b : Int} (h1 : -(2 ^ 64) < b) (h2 : b < 2 ^ 64) : mulOk a b = true := by
  unfold mulOk
  rw [decide_eq_true h1, decide_eq_true h2, Bool.or_comm] <;> rfl
theorem mul_L {a b : Int} (h1 : -(2 ^ 64) < a) (h2 : a < 2 ^ 64) : binE P r .mul (.int a) (.int b) h = some (.ok (.int (a * b)) h) := mul_int P r h (mulOk_l h1 h2)
theorem mul_R {a b : Int} (h1 : -(2 ^ 64) < b) (h2 : b < 2 ^ 64) : binE P r .mul (.int a) (.int b) h = some (.ok (.int (a * b)) h) := mul_int P r h (mulOk_r h1 h2)
theorem fdiv_int {a b : Int} (h1 : 0 < b) (h2 : b < 1073741824) : binE P r .fdiv (.int a) (.int b) h = some (.ok (.int (a / b)) h) := by
  show lift (if decide (0 < b) && decide (b < 1073741824) then some (T.int (a / b)) else none) h = _
  rw [decide_eq_true h1, decide_eq_true h2] <;> rfl
theorem mod_int {a b : Int} (h1 : 0 < b) : binE P r .mod (.int a) (.int b) h = some (.ok (.int (a % b)) h) := by
  show lift (if decide (0 < b) then some (T.int (a % b)) else none) h = _
  rw [decide_eq_true h1] <;> rfl
@[simp] theorem pow_18 : binE P r .pow (.int 10) (.int 18) h = some (.ok (.int 1000000000000000000) h) := rfl
@[simp] theorem neg_int (a : Int) : negE P r (.int a) h = some (.ok (.int (-a)) h) := rfl
@[simp] theorem lt_int (a b : Int) : cmpE P r .lt (.int a) (.int b) h = some (.ok (decide (a < b)) h) := rfl
@[simp] theorem le_int (a b : Int) : cmpE P r .le (.int a) (.int b) h = some (.ok (decide (a ≤ b)) h) := rfl
@[simp] theorem gt_int (a b : Int) : cmpE P r .gt (.int a) (.int b) h = some (.ok (decide (b < a)) h) := rfl
@[simp] theorem ge_int (a b : Int) : cmpE P r .ge (.int a) (.int b) h = some (.ok (decide (b ≤ a)) h) := rfl
@[simp] theorem eq_int (a b : Int) : cmpE P r .eq (.int a) (.int b) h = some (.ok (a == b) h) := rfl
@[simp] theorem ne_int (a b : Int) : cmpE P r .ne (.int a) (.int b) h = some (.ok (!(a == b)) h) := rfl
@[simp] theorem is_non (t : T) : cmpE P r .is_ t .non h = some (.ok (match t with | .non => true | _ => false) h) := by
  cases t <;> rfl
@[simp] theorem isn_non (t : T) : cmpE P r .isn t .non h = some (.ok (match t with | .non => false | _ => true) h) := by
  cases t <;> rfl
@[simp] theorem eq_str (a b : Str) : cmpE P r .eq (.str a) (.str b) h = some (.ok (a == b) h) := rfl
@[simp] theorem ne_str (a b : Str) : cmpE P r .ne (.str a) (.str b) h = some (.ok (!(a == b)) h) := rfl
/-! a dict's value by its key, a list's item, of cells -/
theorem ix_dct {a : Nat} {l : List (L2.Key × T)} {x : Str} {t : T} (hh : h[a]? = some (.dct l)) (hl : dlook (.inr x) l = some t) : ixE P r (.ref a) (.str x) h = some (.ok t h) := by
  have e : ownM P h (.ref a) nIx = none := by
    unfold ownM clsOf
    simp [hh]
  unfold ixE
  rw [e]
  dsimp only
  rw [hh]
  dsimp only [keyT]
  rw [hl] <;> rfl
theorem ix_cell {a : Nat} {l : List T} {i : Int} {t : T} (hh : h[a]? = some (.lst l)) (hl : ixT l i = some t) : ixE P r (.ref a) (.int i) h = some (.ok t h) := by
  have e : ownM P h (.ref a) nIx = none := by
    unfold ownM clsOf
    simp [hh]
  unfold ixE
  rw [e]
  dsimp only
  rw [hh]
  dsimp only
  rw [hl] <;> rfl
theorem ix_seq {t u : T} {k : Bool} {l : List T} {i : Int} (ht : seqF t = some (k, l)) (hl : ixT l i = some u) : ixE P r t (.int i) h = some (.ok u h) := by
  have e : ownM P h t nIx = none := by
    cases t <;> first | rfl | cases ht
  unfold ixE
  rw [e]
  cases t <;> first | (cases ht; done) | (dsimp only; rw [ht]; dsimp only; rw [hl]; rfl)
theorem ixT_nat {l : List T} {i : Nat} {t : T} (e : l[i]? = some t) : ixT l (i : Int) = some t := by
  unfold ixT
  exact L2.atI_nat e
end
end Ev.Q
end
section
set_option Elab.async false
set_option linter.all false
set_option maxRecDepth 100000
set_option maxHeartbeats 1000000
/-! Ev, part Qg: equations of raise, try, lambdas, classes of exceptions. -/
namespace Ev.Q
open PySem Ev
section
variable (P : Prg) (r : Rec) (wf : Nat) (σ : Sl) (h : Hh)
/-! raise -/
def raF (c : Nat) (k : XcD) (σ : Sl) (ts : List T) (h : Hh) : So := match bindX k.exf ts with
  | some fs => some (.ex c fs.reverse σ, h)
  | none => none
def raX (cs : List CE) (c : Nat) (o : Option XcD) : So := match o with
  | some k => if decide (cs.length = k.exf.length) && !k.exf.isEmpty then So.of σ (evArgs r σ cs h) (raF c k σ) else none
  | none => none
def raG (cs : List CE) (o : Option G) : So := match o with
  | some (.cls c) => raX r σ h cs c (P.xc c)
  | _ => none
@[simp] theorem s_raise (g : Nat) (cs : List CE) : evS P r wf σ (.raise_ (.glob g) cs) h = raG P r σ h cs (P.gl g) := by
  unfold evS raG raX raF
  rfl
@[simp] theorem raG_cls (cs : List CE) (c : Nat) : raG P r σ h cs (some (.cls c)) = raX r σ h cs c (P.xc c) := rfl
theorem raX_some (cs : List CE) (c : Nat) (k : XcD) (q : (decide (cs.length = k.exf.length) && !k.exf.isEmpty) = true) : raX r σ h cs c (some k) = So.of σ (evArgs r σ cs h) (raF c k σ) := if_pos q
theorem raF_1 (c : Nat) (k : XcD) (f : Nat) (o : Option T) (t : T) (e : k.exf = [(f, o)]) : raF c k σ [t] h = some (.ex c [(f, t)] σ, h) := by
  unfold raF
  rw [e]
  rfl
theorem raF_2 (c : Nat) (k : XcD) (f g : Nat) (o p : Option T) (t u : T) (e : k.exf = [(f, o), (g, p)]) : raF c k σ [t, u] h = some (.ex c [(g, u), (f, t)] σ, h) := by
  unfold raF
  rw [e]
  rfl
/-! try -/
def tryK (hs : List (List Nat × Option Nat × List CS)) (o : So) : So := match o with
    | some (.ex c fs σ', h') => (match P.xc c with
      | none => none
      | some _ => (match handler P c hs with
        | some (o, b') => (match r.ss (setOpt o (.val (.exc c fs)) σ') b' h' with
          | some (f, h'') => some (flWipe o f, h'')
          | none => none)
        | none => some (.ex c fs σ', h')))
    | o => o
theorem s_try (b : List CS) (hs : List (List Nat × Option Nat × List CS)) (q : tryOk P hs = true) : evS P r wf σ (.try_ b hs) h = tryK P r hs (r.ss σ b h) := by
  unfold evS
  dsimp only
  rw [q]
  rfl
@[simp] theorem tryK_nx (hs : List (List Nat × Option Nat × List CS)) : tryK P r hs (some (.nx σ, h)) = some (.nx σ, h) := rfl
@[simp] theorem tryK_rt (hs : List (List Nat × Option Nat × List CS)) (t : T) : tryK P r hs (some (.rt t, h)) = some (.rt t, h) := rfl
theorem tryK_ex {c d g i : Nat} {k : XcD} {fs : List (Nat × T)} {b : List CS} (hc : P.xc c = some k) (hg : xcOf P g = some d) (hs : P.isSubX c d = true) : tryK P r [([g], some i, b)] (some (.ex c fs σ, h)) = (match r.ss (σ.set i (.val (.exc c fs))) b h with
          | some (f, h'') => some (flWipe (some i) f, h'')
          | none => none) := by
  have e : handler P c [([g], some i, b)] = some (some i, b) := by
    unfold handler
    rw [if_pos (by simp [isH, hg, hs])]
  show (match P.xc c with
      | none => none
      | some _ => (match handler P c [([g], some i, b)] with
        | some (o, b') => (match r.ss (setOpt o (.val (.exc c fs)) σ) b' h with
          | some (f, h'') => some (flWipe o f, h'')
          | none => none)
        | none => some (.ex c fs σ, h))) = _
  rw [hc]
  dsimp only
  rw [e]
  rfl
def trW (i : Nat) (o : So) : So := match o with
  | some (f, h'') => some (flWipe (some i) f, h'')
  | none => none
@[simp] theorem trW_nx (i : Nat) (σ : Sl) (h : Hh) : trW i (some (.nx σ, h)) = some (.nx (σ.set i .no), h) := rfl
theorem try_exW {c d g i : Nat} {k : XcD} {fs : List (Nat × T)} {b : List CS} (hc : P.xc c = some k) (hg : xcOf P g = some d) (hs : P.isSubX c d = true) : tryK P r [([g], some i, b)] (some (.ex c fs σ, h)) = trW i (r.ss (σ.set i (.val (.exc c fs))) b h) := tryK_ex P r σ h hc hg hs
theorem tryOk_1 {g d : Nat} {o : Option Nat} {b : List CS} (hg : xcOf P g = some d) : tryOk P [([g], o, b)] = true := by simp [tryOk, hg]
theorem xcOf_some {g d : Nat} {k : XcD} (h1 : P.gl g = some (.cls d)) (h2 : P.xc d = some k) : xcOf P g = some d := by
  unfold xcOf
  rw [h1]
  dsimp only
  rw [h2]
/-! exceptions as values -/
def atX (f : Nat) (fs : List (Nat × T)) (h : Hh) (o : Option XcD) : Ro T := match o with
    | some k => if (k.exf.map (·.1)).contains f then lift (fs.lookup f) h else none
    | none => none
@[simp] theorem attr_exc (c : Nat) (fs : List (Nat × T)) (f : Nat) : attrT P r (.exc c fs) f h = atX f fs h (P.xc c) := rfl
theorem atX_ok {f : Nat} {fs : List (Nat × T)} {k : XcD} {t : T} (h1 : (k.exf.map (·.1)).contains f = true) (h2 : fs.lookup f = some t) : atX f fs h (some k) = some (.ok t h) := by
  unfold atX
  dsimp only
  rw [if_pos h1, h2]
  rfl
theorem isi_xx {c d : Nat} {k kd : XcD} (fs : List (Nat × T)) (h1 : P.xc c = some k) (h2 : P.cl d = none) (h3 : P.xc d = some kd) : isiK P (.exc c fs) (.cls d) h = some (.ok (.bl (P.isSubX c d)) h) := by
  show lift ((if (P.xc c).isSome then (match P.cl d with
    | none => (match P.xc d with
      | none => none
      | some _ => some (P.isSubX c d))
    | some _ => some false) else none : Option Bool).map T.bl) h = _
  rw [h1, h2, h3]
  rfl
theorem isi_nx {d : Nat} {kd : XcD} (h2 : P.cl d = none) (h3 : P.xc d = some kd) : isiK P .non (.cls d) h = some (.ok (.bl false) h) := by
  show lift ((match P.cl d with
    | none => (match P.xc d with
      | none => none
      | some _ => some false)
    | some _ => some false : Option Bool).map T.bl) h = _
  rw [h2, h3]
  rfl
theorem isi_lx {d : Nat} {kd : XcD} (l : List T) (h2 : P.cl d = none) (h3 : P.xc d = some kd) : isiK P (.lst l) (.cls d) h = some (.ok (.bl false) h) := by
  show lift ((match P.cl d with
    | none => (match P.xc d with
      | none => none
      | some _ => some false)
    | some _ => some false : Option Bool).map T.bl) h = _
  rw [h2, h3]
  rfl
@[simp] theorem isi_l4 (l : List T) : isiK P (.lst l) (.ty 4) h = some (.ok (.bl true) h) := rfl
@[simp] theorem isi_t4 (l : List T) : isiK P (.tup l) (.ty 4) h = some (.ok (.bl false) h) := rfl
@[simp] theorem isi_l3 (l : List T) : isiK P (.lst l) (.ty 3) h = some (.ok (.bl false) h) := rfl
@[simp] theorem isi_t3 (l : List T) : isiK P (.tup l) (.ty 3) h = some (.ok (.bl true) h) := rfl
/-! lambdas -/
def laT (t f : Nat) (b : CE) (o : Option MO) : Ro T := match o with
      | some (.tab t') => if t' = t then r.lcall f b σ h else none
      | _ => none
/-- the cell of a table -/
def tbA (h : Hh) (t : Nat) : Option MO := h[t]?
def laG (t : Nat) (b : CE) (o : Option G) : Ro T := match o with
    | some (.fn f) => laT r σ h t f b (tbA h t)
    | _ => none
@[simp] theorem e_lam (g t : Nat) (b : CE) : evE P r σ (.lam g t b) h = laG r σ h t b (P.gl g) := by
  unfold evE laG laT tbA
  rfl
@[simp] theorem laG_fn (t f : Nat) (b : CE) : laG r σ h t b (some (.fn f)) = laT r σ h t f b (tbA h t) := rfl
@[simp] theorem laT_tab (t f : Nat) (b : CE) : laT r σ h t f b (some (.tab t)) = r.lcall f b σ h := if_pos rfl
def lcC (o : Option SV) : Ro T := match o with
    | some (.clo b σ') => r.e σ' b h
    | _ => none
@[simp] theorem e_lcl (i : Nat) : evE P r σ (.lcl i) h = lcC r h σ[i]? := by
  unfold evE lcC
  rfl
@[simp] theorem lcC_clo (b : CE) (σ' : Sl) : lcC r h (some (.clo b σ')) = r.e σ' b h := rfl
@[simp] theorem a_lcl (i : Nat) (es : List CE) : evArgs r σ ((CE.lcl i) :: es) h = Ro.bd (r.e σ (CE.lcl i) h) (a_next r σ es) := rfl
@[simp] theorem a_lam (g t : Nat) (b : CE) (es : List CE) : evArgs r σ ((CE.lam g t b) :: es) h = Ro.bd (r.e σ (CE.lam g t b) h) (a_next r σ es) := rfl
@[simp] theorem v_lam (g t : Nat) (b : CE) : evV r σ (CE.lam g t b) h = r.e σ (CE.lam g t b) h := rfl
end
theorem lc_open {P : Prg} {wf n : Nat} {σ : Sl} {h : Hh} {f : Nat} {d : FnD} {b : CE} (hf : P.fn f = some d) (hl : d.lam = true) : (run P wf (n + 2)).lcall f b σ h = endC (evSs P (run P wf n) wf (.clo b σ :: List.replicate (d.n - 1) SV.no) d.body h) := by
  show evLcall P (run P wf (n + 1)) f b σ h = _
  unfold evLcall
  rw [hf]
  dsimp only
  rw [if_pos hl, run_ss]
  rfl
/-- a conditional expression as a test -/
def tIfe (P : Prg) (r : Rec) (n : Nat) (σ : Sl) (a b : CE) (x : Bool) (h : Hh) : Ro Bool := if x then evB P r n σ a h else evB P r n σ b h
@[simp] theorem tIfe_t (P : Prg) (r : Rec) (n : Nat) (σ : Sl) (a b : CE) (h : Hh) : tIfe P r n σ a b true h = evB P r n σ a h := rfl
@[simp] theorem tIfe_f (P : Prg) (r : Rec) (n : Nat) (σ : Sl) (a b : CE) (h : Hh) : tIfe P r n σ a b false h = evB P r n σ b h := rfl
@[simp] theorem t_ife (P : Prg) (r : Rec) (n : Nat) (σ : Sl) (c a b : CE) (h : Hh) : evB P r (n + 1) σ (.ife c a b) h = Ro.bd (evB P r n σ c h) (tIfe P r n σ a b) := rfl
end Ev.Q
end
section
set_option Elab.async false
set_option linter.all false
set_option maxRecDepth 100000
set_option maxHeartbeats 1000000
/-! Ev, part Qd: the laws' drawn numbers: a dict at cell 0, its list of great numbers at cell 1. -/
namespace Ev.Q
open PySem Ev
structure DS where
  cells : List Int
  great : List Int
  n : Nat
/-- the dict of the drawn numbers at cell n, its great numbers at cell n + 1 -/
def dS (n : Nat) (s : DS) : List (L2.Key × T) := [(.inr "cells", .lst (s.cells.map .int)), (.inr "great", .ref (n + 1)), (.inr "spot", .int s.n)]
def hS (pre : Hh) (s : DS) (rest : Hh) : Hh := pre ++ .dct (dS pre.length s) :: .lst (s.great.map .int) :: rest
structure DS.ok (s : DS) (N : Nat) : Prop where
  len : s.cells.length = 64
  c : ∀ x ∈ s.cells, 0 ≤ x ∧ x < 2147483647
  gl : s.great.length ≤ 63
  g : ∀ x ∈ s.great, 0 ≤ x
  n : s.n ≤ N
theorem DS.ok.mono {s : DS} {N M : Nat} (h : s.ok N) (q : N ≤ M) : s.ok M := ⟨h.len, h.c, h.gl, h.g, Nat.le_trans h.n q⟩
section
variable (P : Prg) (r : Rec) (pre : Hh) (s : DS) (rest : Hh) (σ : Sl)
theorem hS_pre {t : Nat} (q : t < pre.length) : (hS pre s rest)[t]? = pre[t]? := List.getElem?_append_left q
theorem hS_0 : (hS pre s rest)[pre.length]? = some (.dct (dS pre.length s)) := by
  unfold hS
  rw [List.getElem?_append_right (Nat.le_refl _), Nat.sub_self] <;> rfl
theorem hS_1 : (hS pre s rest)[pre.length + 1]? = some (.lst (s.great.map .int)) := by
  unfold hS
  rw [List.getElem?_append_right (by omega), show pre.length + 1 - pre.length = 1 by omega] <;> rfl
@[simp] theorem hS_len : (hS pre s rest).length = pre.length + (rest.length + 2) := by
  unfold hS
  simp
@[simp] theorem hS_app (l : Hh) : hS pre s rest ++ l = hS pre s (rest ++ l) := by
  unfold hS
  simp
@[simp] theorem ix_spot : ixE P r (.ref pre.length) (.str "spot") (hS pre s rest) = some (.ok (.int s.n) (hS pre s rest)) := ix_dct P r _ (hS_0 pre s rest) rfl
@[simp] theorem ix_great : ixE P r (.ref pre.length) (.str "great") (hS pre s rest) = some (.ok (.ref (pre.length + 1)) (hS pre s rest)) := ix_dct P r _ (hS_0 pre s rest) rfl
@[simp] theorem ix_cells : ixE P r (.ref pre.length) (.str "cells") (hS pre s rest) = some (.ok (.lst (s.cells.map .int)) (hS pre s rest)) := ix_dct P r _ (hS_0 pre s rest) rfl
@[simp] theorem it_spot : itemS σ (.ref pre.length) (.str "spot") (.int ((s.n : Int) + 1)) (hS pre s rest) = some (Fl.nx σ, hS pre { s with n := s.n + 1 } rest) := by
  show (match (hS pre s rest)[pre.length]? with
    | some (.dct ps) => _
    | some (.lst l) => _
    | _ => none) = _
  rw [hS_0]
  dsimp only
  have e : (hS pre s rest).set pre.length (.dct (dS pre.length { s with n := s.n + 1 })) = hS pre { s with n := s.n + 1 } rest := by
    unfold hS
    rw [List.set_append_right _ _ (Nat.le_refl _), Nat.sub_self] <;> rfl
  rw [← e] <;> rfl
@[simp] theorem ne_great : cmpE P r .ne (.ref (pre.length + 1)) (.lst []) (hS pre s rest) = some (.ok (!s.great.isEmpty) (hS pre s rest)) := by
  have e1 : ownM P (hS pre s rest) (.ref (pre.length + 1)) nEq = none := by
    unfold ownM clsOf
    dsimp only
    rw [hS_1]
  have e2 : view (hS pre s rest) (.ref (pre.length + 1)) = .lst (s.great.map .int) := by
    unfold view
    dsimp only
    rw [hS_1]
  have ok : ∀ l : List Int, okDs 7 (l.map T.int) = true := fun l => by
    induction l with
    | nil => rfl
    | cons a l ih => show (okD 7 (T.int a) && okDs 7 (l.map T.int)) = true; rw [ih] <;> rfl
  show (match ownM P (hS pre s rest) (.ref (pre.length + 1)) nEq with
    | some _ => none
    | none => lift ((eqT (view (hS pre s rest) (.ref (pre.length + 1))) (.lst [])).map (!·)) (hS pre s rest)) = _
  rw [e1, e2]
  dsimp only
  unfold eqT
  rw [show okD 8 (.lst (s.great.map T.int)) = okDs 7 (s.great.map T.int) from rfl, ok]
  cases s.great <;> rfl
@[simp] theorem len_great : lenE P r (.ref (pre.length + 1)) (hS pre s rest) = some (.ok (.int s.great.length) (hS pre s rest)) := by
  have e1 : ownM P (hS pre s rest) (.ref (pre.length + 1)) nLen = none := by
    unfold ownM clsOf
    dsimp only
    rw [hS_1]
  unfold lenE
  rw [e1]
  show lift (biT .len [.ref (pre.length + 1)] (hS pre s rest)) (hS pre s rest) = _
  unfold biT seqOf
  dsimp only
  rw [hS_1]
  dsimp only
  rw [List.length_map] <;> rfl
theorem ix_g {i : Int} {j : Nat} {g : Int} (e : i = j) (q : s.great[j]? = some g) : ixE P r (.ref (pre.length + 1)) (.int i) (hS pre s rest) = some (.ok (.int g) (hS pre s rest)) := by
  subst e
  exact ix_cell P r _ (hS_1 pre s rest) (ixT_nat (by rw [List.getElem?_map, q]; rfl))
theorem it_g {i v : Int} {j : Nat} (e : i = j) (q : j < s.great.length) : itemS σ (.ref (pre.length + 1)) (.int i) (.int v) (hS pre s rest) = some (Fl.nx σ, hS pre { s with great := s.great.set j v } rest) := by
  subst e
  have e1 : L2.ixN (s.great.map T.int).length (j : Int) = some j := by
    unfold L2.ixN
    rw [List.length_map, if_pos (by omega), if_pos (by omega)]
    simp
  unfold itemS
  dsimp only
  rw [hS_1]
  dsimp only
  rw [e1]
  dsimp only
  have e : (hS pre s rest).set (pre.length + 1) (.lst ((s.great.map T.int).set j (.int v))) = hS pre { s with great := s.great.set j v } rest := by
    unfold hS
    rw [List.set_append_right _ _ (by omega), show pre.length + 1 - pre.length = 1 by omega, ← List.map_set] <;> rfl
  rw [e]
theorem ix_c {i : Int} {j : Nat} {g : Int} (e : i = j) (q : s.cells[j]? = some g) (h : Hh) : ixE P r (.lst (s.cells.map .int)) (.int i) h = some (.ok (.int g) h) := by
  subst e
  exact ix_seq P r _ (k := false) rfl (ixT_nat (by rw [List.getElem?_map, q]; rfl))
theorem hS_at (c : MO) : (hS pre s (rest ++ [c]))[pre.length + (rest.length + 2)]? = some c := by
  unfold hS
  rw [List.getElem?_append_right (by omega), show pre.length + (rest.length + 2) - pre.length = rest.length + 2 by omega]
  show (rest ++ [c])[rest.length]? = some c
  rw [List.getElem?_append_right (Nat.le_refl _)]
  simp
theorem hS_set (c c' : MO) : (hS pre s (rest ++ [c])).set (pre.length + (rest.length + 2)) c' = hS pre s (rest ++ [c']) := by
  unfold hS
  rw [List.set_append_right _ _ (by omega), show pre.length + (rest.length + 2) - pre.length = rest.length + 2 by omega]
  show pre ++ MO.dct (dS pre.length s) :: MO.lst (s.great.map .int) :: (rest ++ [c]).set rest.length c' = _
  rw [List.set_append_right _ _ (Nat.le_refl _)]
  simp
theorem len_cell {a : Nat} {l : List T} {h : Hh} (q : h[a]? = some (.lst l)) : lenE P r (.ref a) h = some (.ok (.int l.length) h) := by
  have e1 : ownM P h (.ref a) nLen = none := by
    unfold ownM clsOf
    dsimp only
    simp [q]
  unfold lenE
  rw [e1]
  show lift (biT .len [.ref a] h) h = _
  unfold biT seqOf
  dsimp only
  simp [q]
theorem me_cell {a m : Nat} {l : List T} {es : List CE} {h : Hh} (q : h[a]? = some (.lst l)) (hm : bmOk 4 m = true) : methE P r σ (.ref a) m es [] h = Ro.bd (evArgs r σ es h) (bmK (.ref a) m 4) := by
  have e1 : ownM P h (.ref a) m = none := by
    unfold ownM clsOf
    dsimp only
    simp [q]
  have e2 : tyK h (.ref a) = 4 := by
    unfold tyK
    simp [q]
  unfold methE
  rw [e1, e2]
  simp only [List.isEmpty_nil, hm, Bool.and_self, if_true]
  rfl
theorem pop_cell {a i : Nat} {l : List T} {u : T} {h : Hh} (q : h[a]? = some (.lst l)) (hu : l[i]? = some u) (hs : i < 2 ^ 62) : bmK (.ref a) 13 4 [.int i] h = some (.ok u (h.set a (.lst (l.eraseIdx i)))) := by
  have e2 : tyK h (.ref a) = 4 := by
    unfold tyK
    simp [q]
  have hi : i < l.length := (List.getElem?_eq_some_iff.mp hu).1
  have e1 : L2.ixN l.length (i : Int) = some i := by
    unfold L2.ixN
    rw [if_pos (by omega), if_pos (by omega)]
    simp
  unfold bmK
  rw [if_pos e2]
  show bPop (.ref a) [.int i] h = _
  unfold bPop cellL
  simp only [q]
  rw [if_pos (smallI_ok (by omega) (by omega)), e1]
  dsimp only
  rw [hu]
end
/-- a pair of ints as a value -/
def pr (p : Int × Int) : T := .tup [.int p.1, .int p.2]
theorem ixN_ok {n : Nat} {i : Int} (h0 : 0 ≤ i) (h1 : i < n) : L2.ixN n i = some i.toNat := by
  unfold L2.ixN
  rw [if_pos h0, if_pos (by omega)]
theorem ix_ints (P : Prg) (r : Rec) {t : T} {k : Bool} {l : List Int} {i : Int} (h : Hh) (e : seqF t = some (k, l.map .int)) (h0 : 0 ≤ i) (h1 : i.toNat < l.length) : ixE P r t (.int i) h = some (.ok (.int l[i.toNat]) h) := by
  obtain ⟨j, rfl⟩ := Int.eq_ofNat_of_zero_le h0
  refine ix_seq P r h e (ixT_nat ?_)
  rw [List.getElem?_map, List.getElem?_eq_getElem (by simpa using h1)]
  rfl
theorem perm_erase {α : Type} : ∀ {l : List α} {i : Nat} (hi : i < l.length), (l[i] :: l.eraseIdx i).Perm l
  | a :: l, 0, _ => .refl _
  | a :: l, i + 1, hi => by
    rw [List.eraseIdx_cons_succ, List.getElem_cons_succ]
    exact (List.Perm.swap a _ _).trans (List.Perm.cons a (perm_erase (by simpa using hi)))
end Ev.Q
end
section
set_option Elab.async false
set_option linter.all false
set_option maxRecDepth 100000
set_option maxHeartbeats 2000000
/-! Ev, part Mo: more fuel, the same answer. -/
namespace Ev.Mo
open PySem Ev
def Lo {α : Type} (m m' : Option α) : Prop := ∀ x, m = some x → m' = some x
theorem Lo.refl {α : Type} (m : Option α) : Lo m m := fun _ h => h
theorem Lo.none {α : Type} (m : Option α) : Lo none m := fun _ h => by cases h
theorem bd_lo {α β : Type} {m m' : Ro α} {f f' : α → Hh → Ro β} (h1 : Lo m m') (h2 : ∀ a h, Lo (f a h) (f' a h)) : Lo (Ro.bd m f) (Ro.bd m' f') := by
  intro x e
  cases q : m with
  | none => rw [q] at e; cases e
  | some y =>
    rw [h1 y q]
    rw [q] at e
    cases y with
    | ok a h => exact h2 a h x e
    | ex => exact e
theorem of_lo {α : Type} {σ : Sl} {m m' : Ro α} {f f' : α → Hh → So} (h1 : Lo m m') (h2 : ∀ a h, Lo (f a h) (f' a h)) : Lo (So.of σ m f) (So.of σ m' f') := by
  intro x e
  cases q : m with
  | none => rw [q] at e; cases e
  | some y =>
    rw [h1 y q]
    rw [q] at e
    cases y with
    | ok a h => exact h2 a h x e
    | ex => exact e
theorem noEx_lo {α : Type} {m m' : Ro α} (h1 : Lo m m') : Lo (noEx m) (noEx m') := by
  intro x e
  cases q : m with
  | none => rw [q] at e; cases e
  | some y => rw [h1 y q]; rw [q] at e; exact e
theorem asB_lo {m m' : Ro T} (h1 : Lo m m') : Lo (asB m) (asB m') := bd_lo h1 fun _ _ => .refl _
structure Rle (r r' : Rec) : Prop where
  e : ∀ σ x h, Lo (r.e σ x h) (r'.e σ x h)
  ss : ∀ σ x h, Lo (r.ss σ x h) (r'.ss σ x h)
  call : ∀ f x h, Lo (r.call f x h) (r'.call f x h)
  init : ∀ f c x y h, Lo (r.init f c x y h) (r'.init f c x y h)
  lcall : ∀ f b σ h, Lo (r.lcall f b σ h) (r'.lcall f b σ h)
section
variable {P : Prg} {r r' : Rec} (R : Rle r r')
include R
theorem m_V (σ : Sl) (e : CE) (h : Hh) : Lo (evV r σ e h) (evV r' σ e h) := by
  cases e <;> first | exact Lo.refl _ | exact R.e _ _ _
theorem m_args (σ : Sl) : ∀ (l : List CE) (h : Hh), Lo (evArgs r σ l h) (evArgs r' σ l h)
  | [], h => .refl _
  | e :: es, h => by
    cases e <;> first
      | (refine bd_lo (m_V R _ _ _) fun t h => ?_
         cases seqOf h t with
         | none => exact .none _
         | some kl => exact bd_lo (m_args σ es _) fun _ _ => .refl _)
      | exact bd_lo (R.e _ _ _) fun _ _ => bd_lo (m_args σ es _) fun _ _ => .refl _
theorem m_kws (σ : Sl) : ∀ (l : List (Nat × CE)) (h : Hh), Lo (evKws r σ l h) (evKws r' σ l h)
  | [], h => .refl _
  | (k, e) :: es, h => bd_lo (R.e _ _ _) fun _ _ => bd_lo (m_kws σ es _) fun _ _ => .refl _
theorem m_callF (f : Nat) (ts : List T) (ks : List (Nat × T)) (h : Hh) : Lo (callF P r f ts ks h) (callF P r' f ts ks h) := by
  unfold callF
  cases P.fn f with
  | none => exact .none _
  | some d =>
    dsimp only
    cases bindA d ts ks with
    | none => exact .none _
    | some bs => exact R.call _ _ _
theorem m_make (c : Nat) (ts : List T) (ks : List (Nat × T)) (h : Hh) : Lo (makeC P r c ts ks h) (makeC P r' c ts ks h) := by
  unfold makeC
  cases P.cl c with
  | none => exact .none _
  | some k =>
    dsimp only
    split
    · split
      · split
        · split
          · exact bd_lo (R.init _ _ _ _ _) fun _ _ => .refl _
          · exact .none _
        · exact .none _
      · exact .none _
    · exact .none _
theorem m_attrI (t : T) (c : Nat) (fs : List (Nat × T)) (f : Nat) (h : Hh) : Lo (attrI P r t c fs f h) (attrI P r' t c fs f h) := by
  unfold attrI
  cases P.cl c with
  | none => exact .none _
  | some k =>
    dsimp only
    cases k.prop.lookup f with
    | none => exact .refl _
    | some g => exact noEx_lo (m_callF R _ _ _ _)
theorem m_attrT (t : T) (f : Nat) (h : Hh) : Lo (attrT P r t f h) (attrT P r' t f h) := by
  cases t <;> first | exact .refl _ | exact m_attrI R _ _ _ _ _ | skip
  rename_i a
  unfold attrT
  dsimp only
  cases h[a]? with
  | none => exact .none _
  | some m => cases m <;> first | exact .none _ | exact m_attrI R _ _ _ _ _
theorem m_bin (o : Bop) (x y : T) (h : Hh) : Lo (binE P r o x y h) (binE P r' o x y h) := by
  cases o <;> first | exact .refl _ | skip
  · unfold binE
    dsimp only
    cases ownM P h x nAdd with
    | none => exact .refl _
    | some f => dsimp only; split <;> first | exact .none _ | exact m_callF R _ _ _ _
  · unfold binE
    dsimp only
    cases ownM P h x nSub with
    | none => exact .refl _
    | some f => dsimp only; split <;> first | exact .none _ | exact m_callF R _ _ _ _
theorem m_neg (x : T) (h : Hh) : Lo (negE P r x h) (negE P r' x h) := by
  unfold negE
  split
  · exact .refl _
  · split
    · exact m_callF R _ _ _ _
    · exact .none _
theorem m_cmp (o : Cop) (a b : T) (h : Hh) : Lo (cmpE P r o a b h) (cmpE P r' o a b h) := by
  cases o <;> first | exact .refl _ | skip
  all_goals
    unfold cmpE
    dsimp only
    split
    · first
      | exact .refl _
      | (split
         · first | exact asB_lo (m_callF R _ _ _ _) | exact bd_lo (asB_lo (m_callF R _ _ _ _)) fun _ _ => .refl _
         · exact .none _)
    · exact .refl _
theorem m_cmp2 (o o' : Cop) (σ : Sl) (a b c : CE) (h : Hh) : Lo (cmp2E r o o' σ a b c h) (cmp2E r' o o' σ a b c h) := by
  refine bd_lo (R.e _ _ _) fun x h => bd_lo (R.e _ _ _) fun y h => bd_lo (.refl _) fun k h => ?_
  cases k
  · exact .refl _
  · exact bd_lo (R.e _ _ _) fun _ _ => .refl _
theorem m_tru (t : T) (h : Hh) : Lo (truE P r t h) (truE P r' t h) := by
  unfold truE
  split
  · exact asB_lo (m_callF R _ _ _ _)
  · exact .refl _
theorem m_W (w : Bool) (σ : Sl) (e : CE) (h : Hh) : Lo (evW r w σ e h) (evW r' w σ e h) := by
  cases w
  · exact R.e _ _ _
  · exact m_V R _ _ _
theorem m_it (w : Bool) (σ : Sl) (it : CE) (h : Hh) : Lo (evIt r w σ it h) (evIt r' w σ it h) := by
  cases it <;> first
    | exact bd_lo (m_W R _ _ _ _) fun _ _ => .refl _
    | exact bd_lo (m_args R _ _ _) fun _ _ => .refl _
    | exact bd_lo (m_W R _ _ _ _) fun _ _ => bd_lo (m_W R _ _ _ _) fun _ _ => .refl _
theorem m_B (σ : Sl) : ∀ (n : Nat) (e : CE) (h : Hh), Lo (evB P r n σ e h) (evB P r' n σ e h)
  | 0, e, h => .refl _
  | n + 1, e, h => by
    have plain : Lo (Ro.bd (evV r σ e h) fun t h => truE P r t h) (Ro.bd (evV r' σ e h) fun t h => truE P r' t h) := bd_lo (m_V R _ _ _) fun _ _ => m_tru R _ _
    cases e with
    | not a => exact bd_lo (m_B σ n _ _) fun _ _ => .refl _
    | bop k l =>
      match k, l with
      | _, [] => cases k <;> exact .refl _
      | true, [a] => exact m_B σ n _ _
      | false, [a] => exact m_B σ n _ _
      | true, a :: b :: l =>
        refine bd_lo (m_B σ n _ _) fun x h => ?_
        cases x
        · exact .refl _
        · exact m_B σ n _ _
      | false, a :: b :: l =>
        refine bd_lo (m_B σ n _ _) fun x h => ?_
        cases x
        · exact m_B σ n _ _
        · exact .refl _
    | cmp o a b => exact bd_lo (m_V R _ _ _) fun _ _ => bd_lo (m_V R _ _ _) fun _ _ => m_cmp R _ _ _ _
    | cmp2 o o' a b c => exact m_cmp2 R _ _ _ _ _ _ _
    | ife c a b =>
      refine bd_lo (m_B σ n _ _) fun x h => ?_
      cases x
      · exact m_B σ n _ _
      · exact m_B σ n _ _
    | _ => exact plain
theorem m_ifs (σ : Sl) (l : List CE) (h : Hh) : Lo (evIfs P r σ l h) (evIfs P r' σ l h) := by
  match l with
  | [] => exact .refl _
  | [c] => exact m_B R _ _ _ _
  | _ :: _ :: _ => exact .refl _
theorem m_O (σ : Sl) (e : Option CE) (h : Hh) : Lo (evO r σ e h) (evO r' σ e h) := by
  cases e with
  | none => exact .refl _
  | some e => exact bd_lo (R.e _ _ _) fun _ _ => .refl _
omit R in
theorem m_comp {tg : Tg} {t1 t2 : Sl → Hh → Ro Bool} {e1 e2 : Sl → Hh → Ro (List T)} (ht : ∀ σ h, Lo (t1 σ h) (t2 σ h)) (he : ∀ σ h, Lo (e1 σ h) (e2 σ h)) (σ : Sl) : ∀ (l : List T) (h : Hh), Lo (compL tg t1 e1 σ l h) (compL tg t2 e2 σ l h)
  | [], h => .refl _
  | t :: ts, h => by
    unfold compL
    cases setTg tg t σ with
    | none => exact .none _
    | some σ' =>
      dsimp only
      refine bd_lo (ht _ _) fun b h => ?_
      cases b
      · exact m_comp ht he σ ts _
      · exact bd_lo (he _ _) fun _ _ => bd_lo (m_comp ht he σ ts _) fun _ _ => .refl _
theorem m_el (σ : Sl) (el : CE) (h : Hh) : Lo (Ro.bd (noEx (r.e σ el h)) fun t h => (some (.ok [t] h) : Ro (List T))) (Ro.bd (noEx (r'.e σ el h)) fun t h => some (.ok [t] h)) := bd_lo (noEx_lo (R.e _ _ _)) fun _ _ => .refl _
theorem m_L (σ : Sl) (e : CE) (h : Hh) : Lo (evL P r σ e h) (evL P r' σ e h) := by
  cases e with
  | lst es => exact bd_lo (m_args R _ _ _) fun _ _ => .refl _
  | comp el tg it ifs ws =>
    refine bd_lo (m_it R _ _ _ _) fun l h => ?_
    by_cases q : l.length ≤ big
    · rw [if_pos q, if_pos q]
      exact m_comp (fun _ _ => noEx_lo (m_ifs R _ _ _)) (fun _ _ => m_el R _ _ _) _ _ _
    · rw [if_neg q]; exact .none _
  | comp2 el tg it ifs tg2 it2 ifs2 ws ws2 =>
    refine bd_lo (m_it R _ _ _ _) fun l h => ?_
    by_cases q : l.length ≤ big
    · rw [if_pos q, if_pos q]
      refine bd_lo (m_comp (fun _ _ => noEx_lo (m_ifs R _ _ _)) (fun _ _ => bd_lo (noEx_lo (m_it R _ _ _ _)) fun l2 h => m_comp (fun _ _ => noEx_lo (m_ifs R _ _ _)) (fun _ _ => m_el R _ _ _) _ _ _) _ _ _) fun _ _ => .refl _
    · rw [if_neg q]; exact .none _
  | bin o a b =>
    cases o <;> first
      | exact .refl _
      | exact bd_lo (m_V R _ _ _) fun _ _ => bd_lo (m_V R _ _ _) fun _ _ => .refl _
      | exact bd_lo (m_V R _ _ _) fun _ _ => bd_lo (R.e _ _ _) fun _ _ => .refl _
  | slc a lo hi => exact bd_lo (m_V R _ _ _) fun _ _ => bd_lo (m_O R _ _ _) fun _ _ => bd_lo (m_O R _ _ _) fun _ _ => .refl _
  | rev a => exact bd_lo (m_V R _ _ _) fun _ _ => .refl _
  | call f args kws =>
    cases f with
    | glob g =>
      match args, kws with
      | [a], [] =>
        unfold evL
        dsimp only
        split
        · exact bd_lo (m_V R _ _ _) fun _ _ => .refl _
        · exact bd_lo (m_V R _ _ _) fun _ _ => .refl _
        · exact .none _
      | [], _ => exact .refl _
      | _ :: _ :: _, _ => exact .refl _
      | [_], _ :: _ => exact .refl _
    | _ => exact .refl _
  | _ => exact .refl _
theorem m_ix (t u : T) (h : Hh) : Lo (ixE P r t u h) (ixE P r' t u h) := by
  unfold ixE
  cases ownM P h t nIx with
  | none => exact .refl _
  | some f => dsimp only; split <;> first | exact .none _ | exact m_callF R _ _ _ _
theorem m_len (x : T) (h : Hh) : Lo (lenE P r x h) (lenE P r' x h) := by
  unfold lenE
  cases ownM P h x nLen with
  | none => exact .refl _
  | some f => exact bd_lo (m_callF R _ _ _ _) fun _ _ => .refl _
theorem m_callB (σ : Sl) (b : Bi) (args : List CE) (h : Hh) : Lo (callB P r σ b args h) (callB P r' σ b args h) := by
  cases b <;> first
    | exact bd_lo (m_args R _ _ _) fun _ _ => .refl _
    | (match args with
       | [a] => exact bd_lo (m_V R _ _ _) fun _ _ => m_len R _ _
       | [] => exact .refl _
       | _ :: _ :: _ => exact .refl _)
    | (match args with
       | [a, b] =>
         cases b <;> first
           | exact .refl _
           | exact bd_lo (m_V R _ _ _) fun _ _ => bd_lo (R.e _ _ _) fun _ _ => .refl _
       | [] => exact .refl _
       | [_] => exact .refl _
       | _ :: x :: _ :: _ => cases x <;> exact .refl _)
theorem m_callT (σ : Sl) (n : Nat) (args : List CE) (h : Hh) : Lo (callT r σ n args h) (callT r' σ n args h) := by
  match args with
  | [a] => exact bd_lo (m_V R _ _ _) fun _ _ => .refl _
  | [] => exact .refl _
  | _ :: _ :: _ => exact .refl _
theorem m_callG (σ : Sl) (g : G) (args : List CE) (kws : List (Nat × CE)) (h : Hh) : Lo (callG P r σ g args kws h) (callG P r' σ g args kws h) := by
  cases g with
  | fn f => exact bd_lo (m_args R _ _ _) fun _ _ => bd_lo (m_kws R _ _ _) fun _ _ => m_callF R _ _ _ _
  | cls c => exact bd_lo (m_args R _ _ _) fun _ _ => bd_lo (m_kws R _ _ _) fun _ _ => m_make R _ _ _ _
  | con t => exact .refl _
  | bi b =>
    unfold callG
    dsimp only
    split
    · exact m_callB R _ _ _ _
    · exact .none _
  | ty n =>
    unfold callG
    dsimp only
    split
    · exact m_callT R _ _ _ _
    · exact .none _
theorem m_meth (σ : Sl) (x : T) (m : Nat) (args : List CE) (kws : List (Nat × CE)) (h : Hh) : Lo (methE P r σ x m args kws h) (methE P r' σ x m args kws h) := by
  unfold methE
  cases ownM P h x m with
  | none =>
    dsimp only
    split
    · exact bd_lo (m_args R _ _ _) fun _ _ => .refl _
    · exact .none _
  | some f =>
    dsimp only
    split
    · exact bd_lo (m_args R _ _ _) fun _ _ => bd_lo (m_kws R _ _ _) fun _ _ => m_callF R _ _ _ _
    · exact .none _
theorem m_fmt (σ : Sl) : ∀ (l : List CE) (h : Hh), Lo (evFmt r σ l h) (evFmt r' σ l h)
  | [], h => .refl _
  | e :: es, h => by
    cases e with
    | con t =>
      cases t <;> first | exact .refl _ | skip
      rename_i x
      show Lo (if x.length ≤ 1000 then Ro.bd (evFmt r σ es h) fun xs h => some (.ok (x :: xs) h) else none) (if x.length ≤ 1000 then Ro.bd (evFmt r' σ es h) fun xs h => some (.ok (x :: xs) h) else none)
      split
      · exact bd_lo (m_fmt σ es _) fun _ _ => .refl _
      · exact .none _
    | fval a sp =>
      refine bd_lo (m_V R _ _ _) fun t h => ?_
      cases fmtT t sp with
      | none => exact .none _
      | some x =>
        dsimp only
        split
        · exact bd_lo (m_fmt σ es _) fun _ _ => .refl _
        · exact .none _
    | _ => exact .refl _
theorem m_pairs (σ : Sl) : ∀ (l m : List CE) (h : Hh), Lo (evPairs r σ l m h) (evPairs r' σ l m h)
  | [], [], h => .refl _
  | [], _ :: _, h => .refl _
  | _ :: _, [], h => .refl _
  | k :: ks, v :: vs, h => by
    refine bd_lo (R.e _ _ _) fun t h => bd_lo (R.e _ _ _) fun u h => ?_
    cases keyT t with
    | none => exact .none _
    | some key => exact bd_lo (m_pairs σ ks vs _) fun _ _ => .refl _
theorem m_E (σ : Sl) (e : CE) (h : Hh) : Lo (evE P r σ e h) (evE P r' σ e h) := by
  have lst : Lo (Ro.bd (evL P r σ e h) fun l h => (some (.ok (.lst l) h) : Ro T)) (Ro.bd (evL P r' σ e h) fun l h => some (.ok (.lst l) h)) := bd_lo (m_L R _ _ _) fun _ _ => .refl _
  cases e with
  | var i => exact .refl _
  | con t => exact .refl _
  | glob x => exact .refl _
  | bin o a b => exact bd_lo (m_V R _ _ _) fun _ _ => bd_lo (m_V R _ _ _) fun _ _ => m_bin R _ _ _ _
  | neg a => exact bd_lo (R.e _ _ _) fun _ _ => m_neg R _ _
  | not a => exact bd_lo (m_V R _ _ _) fun _ _ => bd_lo (m_tru R _ _) fun _ _ => .refl _
  | bop k l =>
    match l with
    | [] => exact .refl _
    | [a] => exact R.e _ _ _
    | a :: b :: l =>
      refine bd_lo (R.e _ _ _) fun x h => ?_
      cases x <;> first | exact .refl _ | skip
      rename_i b'
      dsimp only
      split
      · exact R.e _ _ _
      · exact .refl _
  | ife c a b =>
    refine bd_lo (m_B R _ _ _ _) fun x h => ?_
    cases x
    · exact R.e _ _ _
    · exact R.e _ _ _
  | cmp o a b => exact bd_lo (m_V R _ _ _) fun _ _ => bd_lo (m_V R _ _ _) fun _ _ => bd_lo (m_cmp R _ _ _ _) fun _ _ => .refl _
  | cmp2 o o' a b c => exact bd_lo (m_cmp2 R _ _ _ _ _ _ _) fun _ _ => .refl _
  | tup es => exact bd_lo (m_args R _ _ _) fun _ _ => .refl _
  | dct ks vs => exact bd_lo (m_pairs R _ _ _ _) fun _ _ => .refl _
  | sub a b => exact bd_lo (m_V R _ _ _) fun _ _ => bd_lo (R.e _ _ _) fun _ _ => m_ix R _ _ _
  | attr a f =>
    cases a with
    | var i =>
      unfold evE
      dsimp only
      split
      · exact .refl _
      · exact m_attrT R _ _ _
      · exact .none _
    | _ => exact bd_lo (R.e _ _ _) fun _ _ => m_attrT R _ _ _
  | slc a lo hi => exact bd_lo (m_V R _ _ _) fun _ _ => bd_lo (m_O R _ _ _) fun _ _ => bd_lo (m_O R _ _ _) fun _ _ => .refl _
  | rev a => exact bd_lo (m_V R _ _ _) fun _ _ => .refl _
  | fmt es =>
    unfold evE
    dsimp only
    split
    · exact bd_lo (m_fmt R _ _ _) fun _ _ => .refl _
    · exact .none _
  | call f args kws =>
    cases f with
    | glob g =>
      unfold evE
      dsimp only
      cases P.gl g with
      | none => exact .none _
      | some x =>
        dsimp only
        split
        · exact lst
        · exact m_callG R _ _ _ _ _
    | attr o m =>
      refine bd_lo (m_V R _ _ _) fun x h => ?_
      split
      · exact .none _
      · exact m_meth R _ _ _ _ _ _
    | _ =>
      refine bd_lo (R.e _ _ _) fun x h => ?_
      cases ownM P h x nCall with
      | none => exact .none _
      | some f => exact bd_lo (m_args R _ _ _) fun _ _ => bd_lo (m_kws R _ _ _) fun _ _ => m_callF R _ _ _ _
  | lam g t b =>
    unfold evE
    dsimp only
    split
    · split
      · split
        · exact R.lcall _ _ _ _
        · exact .none _
      · exact .none _
    · exact .none _
  | lcl i =>
    unfold evE
    dsimp only
    split
    · exact R.e _ _ _
    · exact .none _
  | _ => exact lst
theorem m_par (σ : Sl) : ∀ (is : List (Nat × Nat)) (es : List CE) (acc : Sl) (h : Hh), Lo (parL P r σ is es acc h) (parL P r' σ is es acc h)
  | [], [], acc, h => .refl _
  | [], _ :: _, acc, h => .refl _
  | (_, 0) :: _, [], acc, h => .refl _
  | (_, 1) :: _, [], acc, h => .refl _
  | (_, _ + 2) :: _, [], acc, h => .refl _
  | (i, 0) :: is, e :: es, acc, h => bd_lo (R.e _ _ _) fun _ _ => m_par σ is es _ _
  | (i, 1) :: is, e :: es, acc, h => bd_lo (m_L R _ _ _) fun _ _ => m_par σ is es _ _
  | (i, m + 2) :: is, e :: es, acc, h => bd_lo (m_L R _ _ _) fun _ _ => m_par σ is es _ _
omit R in
theorem m_for {tg : Tg} {b : List CS} {s1 s2 : Sl → List CS → Hh → So} (hs : ∀ σ x h, Lo (s1 σ x h) (s2 σ x h)) : ∀ (l : List T) (σ : Sl) (h : Hh), Lo (forL tg b s1 l σ h) (forL tg b s2 l σ h)
  | [], σ, h => .refl _
  | t :: ts, σ, h => by
    intro x e
    unfold forL at e ⊢
    cases q : setTg tg t σ with
    | none => rw [q] at e; cases e
    | some σ' =>
      rw [q] at e
      dsimp only at e ⊢
      cases q2 : s1 σ' b h with
      | none => rw [q2] at e; cases e
      | some y =>
        rw [hs _ _ _ y q2]
        rw [q2] at e
        obtain ⟨fl, h'⟩ := y
        cases fl with
        | nx σ2 => exact m_for hs ts σ2 h' x e
        | ct σ2 => exact m_for hs ts σ2 h' x e
        | _ => exact e
omit R in
theorem m_while {b : List CS} {c1 c2 : Sl → Hh → Ro Bool} {s1 s2 : Sl → List CS → Hh → So} (hc : ∀ σ h, Lo (c1 σ h) (c2 σ h)) (hs : ∀ σ x h, Lo (s1 σ x h) (s2 σ x h)) : ∀ (n : Nat) (σ : Sl) (h : Hh), Lo (whileL c1 b s1 n σ h) (whileL c2 b s2 n σ h)
  | 0, σ, h => .refl _
  | n + 1, σ, h => by
    refine of_lo (hc _ _) fun k h => ?_
    cases k
    · exact .refl _
    · intro x e
      rw [if_pos rfl] at e ⊢
      cases q2 : s1 σ b h with
      | none => rw [q2] at e; cases e
      | some y =>
        rw [q2] at e
        rw [hs _ _ _ y q2]
        obtain ⟨fl, h'⟩ := y
        cases fl with
        | nx σ2 => exact m_while hc hs n σ2 h' x e
        | ct σ2 => exact m_while hc hs n σ2 h' x e
        | _ => exact e
theorem m_S (wf : Nat) (σ : Sl) (s : CS) (h : Hh) : Lo (evS P r wf σ s h) (evS P r' wf σ s h) := by
  cases s with
  | set tg e => exact of_lo (R.e _ _ _) fun _ _ => .refl _
  | own i e => exact of_lo (m_L R _ _ _) fun _ _ => .refl _
  | box i e => exact of_lo (m_L R _ _ _) fun _ _ => .refl _
  | setL i e => exact of_lo (m_L R _ _ _) fun _ _ => .refl _
  | par is es => exact of_lo (m_par R _ _ _ _ _) fun _ _ => .refl _
  | fld i f e => exact of_lo (R.e _ _ _) fun _ _ => .refl _
  | flds l es => exact of_lo (m_args R _ _ _) fun _ _ => .refl _
  | item a k e => exact of_lo (R.e _ _ _) fun _ _ => of_lo (R.e _ _ _) fun _ _ => of_lo (R.e _ _ _) fun _ _ => .refl _
  | itemB a k e => exact of_lo (m_L R _ _ _) fun _ _ => of_lo (R.e _ _ _) fun _ _ => of_lo (R.e _ _ _) fun _ _ => .refl _
  | aug i o e =>
    unfold evS
    dsimp only
    split
    · exact of_lo (R.e _ _ _) fun _ _ => .refl _
    · exact .none _
  | app i e =>
    unfold evS
    dsimp only
    split
    · exact of_lo (R.e _ _ _) fun _ _ => .refl _
    · exact .none _
  | ext i e =>
    unfold evS
    dsimp only
    split
    · exact of_lo (m_V R _ _ _) fun _ _ => .refl _
    · exact .none _
  | oset i k e =>
    unfold evS
    dsimp only
    split
    · exact of_lo (R.e _ _ _) fun _ _ => of_lo (R.e _ _ _) fun _ _ => .refl _
    · exact .none _
  | frz i => exact .refl _
  | exp e => exact of_lo (R.e _ _ _) fun _ _ => .refl _
  | ret e => exact of_lo (R.e _ _ _) fun _ _ => .refl _
  | ife c a b =>
    refine of_lo (m_B R _ _ _ _) fun k h => ?_
    cases k
    · exact R.ss _ _ _
    · exact R.ss _ _ _
  | for_ tg it b => exact of_lo (m_it R _ _ _ _) fun _ _ => m_for R.ss _ _ _
  | while_ c b => exact m_while (fun _ _ => m_B R _ _ _ _) R.ss _ _ _
  | raise_ c args =>
    cases c <;> first | exact .refl _ | skip
    rename_i g
    unfold evS
    dsimp only
    split
    · split
      · split
        · exact of_lo (m_args R _ _ _) fun _ _ => .refl _
        · exact .none _
      · exact .none _
    · exact .none _
  | try_ b hs =>
    intro x e
    unfold evS at e ⊢
    dsimp only at e ⊢
    cases hok : !tryOk P hs with
    | true => rw [hok] at e; cases e
    | false =>
    rw [hok, if_neg (by decide)] at e
    rw [if_neg (by decide)]
    cases q : r.ss σ b h with
    | none => rw [q] at e; cases e
    | some y =>
      rw [R.ss _ _ _ y q]
      rw [q] at e
      obtain ⟨fl, h'⟩ := y
      cases fl with
      | ex c fs σ' =>
        dsimp only at e ⊢
        cases q1 : P.xc c with
        | none => rw [q1] at e; cases e
        | some kx =>
        rw [q1] at e
        dsimp only at e ⊢
        cases q2 : handler P c hs with
        | none => rw [q2] at e; exact e
        | some z =>
          rw [q2] at e
          obtain ⟨o, b'⟩ := z
          dsimp only at e ⊢
          cases q3 : r.ss (setOpt o (.val (.exc c fs)) σ') b' h' with
          | none => rw [q3] at e; cases e
          | some u => rw [R.ss _ _ _ u q3]; rw [q3] at e; exact e
      | _ => exact e
  | pass => exact .refl _
  | brk => exact .refl _
  | cont => exact .refl _
  | nev => exact .refl _
theorem m_Ss (wf : Nat) : ∀ (l : List CS) (σ : Sl) (h : Hh), Lo (evSs P r wf σ l h) (evSs P r' wf σ l h)
  | [], σ, h => by unfold evSs; exact .refl _
  | s :: ss, σ, h => by
    intro x e
    unfold evSs at e ⊢
    cases q : evS P r wf σ s h with
    | none => rw [q] at e; cases e
    | some y =>
      rw [m_S R wf σ s h y q]
      rw [q] at e
      obtain ⟨fl, h'⟩ := y
      cases fl with
      | nx σ' => exact m_Ss wf ss σ' h' x e
      | _ => exact e
theorem m_step (wf : Nat) : Rle (step P r wf) (step P r' wf) where
  e := fun σ x h => m_E R σ x h
  ss := fun σ x h => m_Ss R wf x σ h
  call := fun f x h => by
    show Lo (evCall P r f x h) (evCall P r' f x h)
    intro y e
    unfold evCall at e ⊢
    cases q : P.fn f with
    | none => rw [q] at e; cases e
    | some d =>
      rw [q] at e
      dsimp only at e ⊢
      cases q2 : r.ss (startS d.n x) d.body h with
      | none => rw [q2] at e; cases e
      | some z => rw [R.ss _ _ _ z q2]; rw [q2] at e; exact e
  init := fun f c fs x h => by
    show Lo (evInit P r f c fs x h) (evInit P r' f c fs x h)
    intro y e
    unfold evInit at e ⊢
    cases q : P.fn f with
    | none => rw [q] at e; cases e
    | some d =>
      rw [q] at e
      dsimp only at e ⊢
      cases q2 : r.ss ((startS d.n (.non :: x)).set 0 (.self c fs)) d.body h with
      | none => rw [q2] at e; cases e
      | some z => rw [R.ss _ _ _ z q2]; rw [q2] at e; exact e
  lcall := fun f b σ h => by
    show Lo (evLcall P r f b σ h) (evLcall P r' f b σ h)
    intro y e
    unfold evLcall at e ⊢
    cases q : P.fn f with
    | none => rw [q] at e; cases e
    | some d =>
      rw [q] at e
      dsimp only at e ⊢
      cases hl : d.lam with
      | false => rw [hl] at e; cases e
      | true =>
        rw [hl, if_pos rfl] at e
        rw [if_pos rfl]
        cases q2 : r.ss (.clo b σ :: List.replicate (d.n - 1) SV.no) d.body h with
        | none => rw [q2] at e; cases e
        | some z => rw [R.ss _ _ _ z q2]; rw [q2] at e; exact e
end
theorem run_le (P : Prg) (wf : Nat) : ∀ n, Rle (run P wf n) (run P wf (n + 1))
  | 0 => ⟨fun _ _ _ => .none _, fun _ _ _ => .none _, fun _ _ _ => .none _, fun _ _ _ _ _ => .none _, fun _ _ _ _ => .none _⟩
  | n + 1 => m_step (run_le P wf n) wf
theorem Rle.trans {a b c : Rec} (h : Rle a b) (q : Rle b c) : Rle a c :=
  ⟨fun _ _ _ x e => q.e _ _ _ x (h.e _ _ _ x e), fun _ _ _ x e => q.ss _ _ _ x (h.ss _ _ _ x e), fun _ _ _ x e => q.call _ _ _ x (h.call _ _ _ x e), fun _ _ _ _ _ x e => q.init _ _ _ _ _ x (h.init _ _ _ _ _ x e), fun _ _ _ _ x e => q.lcall _ _ _ _ x (h.lcall _ _ _ _ x e)⟩
theorem run_up (P : Prg) (wf n : Nat) : ∀ k, Rle (run P wf n) (run P wf (k + n))
  | 0 => by rw [Nat.zero_add]; exact ⟨fun _ _ _ => .refl _, fun _ _ _ => .refl _, fun _ _ _ => .refl _, fun _ _ _ _ _ => .refl _, fun _ _ _ _ => .refl _⟩
  | k + 1 => by
    have h := (run_up P wf n k).trans (run_le P wf (k + n))
    rw [show k + 1 + n = k + n + 1 by omega]
    exact h
/-- a call's answer stays -/
theorem call_up {P : Prg} {wf n f : Nat} {ts : List T} {ks : List (Nat × T)} {h : Hh} {x : Rs T} (e : callF P (run P wf n) f ts ks h = some x) (k : Nat) : callF P (run P wf (k + n)) f ts ks h = some x := m_callF (run_up P wf n k) f ts ks h x e
theorem make_up {P : Prg} {wf n c : Nat} {ts : List T} {ks : List (Nat × T)} {h : Hh} {x : Rs T} (e : makeC P (run P wf n) c ts ks h = some x) (k : Nat) : makeC P (run P wf (k + n)) c ts ks h = some x := m_make (run_up P wf n k) c ts ks h x e
theorem ss_up {P : Prg} {wf n : Nat} {σ : Sl} {s : List CS} {h : Hh} {x : Fl × Hh} (e : (run P wf n).ss σ s h = some x) (k : Nat) : (run P wf (k + n)).ss σ s h = some x := (run_up P wf n k).ss σ s h x e
end Ev.Mo
end
section
set_option Elab.async false
set_option linter.all false
set_option maxRecDepth 100000
set_option maxHeartbeats 1000000
/-! Ev, part Qe: lists and texts under the operators. -/
namespace Ev.Q
open PySem Ev
section
variable (P : Prg) (r : Rec) (h : Hh)
theorem add_lst {a b : List T} (q : a.length + b.length ≤ 1000000) : binE P r .add (.lst a) (.lst b) h = some (.ok (.lst (a ++ b)) h) := by
  show lift (if decide (a.length + b.length ≤ big) then some (T.lst (a ++ b)) else none) h = _
  rw [decide_eq_true (show _ ≤ big from q)] <;> rfl
theorem add_str {a b : Str} (q : a.length + b.length ≤ 1000000) : binE P r .add (.str a) (.str b) h = some (.ok (.str (a ++ b)) h) := by
  show lift (if decide (a.length + b.length ≤ big) then some (T.str (a ++ b)) else none) h = _
  rw [decide_eq_true (show _ ≤ big from q)] <;> rfl
theorem mul_one {t : T} {k : Int} (h0 : 0 ≤ k) (h1 : k ≤ 1000) : binE P r .mul (.lst [t]) (.int k) h = some (.ok (.lst (List.replicate k.toNat t)) h) := by
  show lift (if smallI k && decide (([t] : List T).length * k.toNat ≤ big) then some (T.lst (List.replicate k.toNat [t]).flatten) else none) h = _
  rw [smallI_ok (by omega) (by omega), decide_eq_true (by unfold big; simp only [List.length_singleton]; omega)]
  have e : (List.replicate k.toNat [t]).flatten = List.replicate k.toNat t := by
    generalize k.toNat = n
    induction n with
    | zero => rfl
    | succ n ih => rw [List.replicate_succ, List.flatten_cons, ih] <;> rfl
  rw [e] <;> rfl
end
theorem cut_to {l : List T} {k : Int} (h0 : 0 ≤ k) : cutT l none (some k) = l.take k.toNat := by
  obtain ⟨n, rfl⟩ := Int.eq_ofNat_of_zero_le h0
  unfold cutT
  rw [HT.sIx_none, HT.sIx_nat, List.drop_zero, Nat.sub_zero]
  by_cases q : n ≤ l.length
  · rw [Nat.min_eq_left q] <;> rfl
  · rw [Nat.min_eq_right (by omega), List.take_of_length_le (Nat.le_refl _), List.take_of_length_le (by show l.length ≤ n; omega)]
theorem cut_from {l : List T} {k : Int} (h0 : 0 ≤ k) : cutT l (some k) none = l.drop k.toNat := by
  obtain ⟨n, rfl⟩ := Int.eq_ofNat_of_zero_le h0
  unfold cutT
  rw [HT.sIx_none, HT.sIx_nat]
  by_cases q : n ≤ l.length
  · rw [Nat.min_eq_left q, List.take_of_length_le (by rw [List.length_drop]; omega)] <;> rfl
  · rw [Nat.min_eq_right (by omega), List.drop_of_length_le (Nat.le_refl _), List.drop_of_length_le (by show l.length ≤ n; omega)] <;> simp
section
variable (P : Prg) (r : Rec) (h : Hh)
@[simp] theorem len_lst (l : List T) : lenE P r (.lst l) h = some (.ok (.int l.length) h) := rfl
@[simp] theorem len_tup (l : List T) : lenE P r (.tup l) h = some (.ok (.int l.length) h) := rfl
@[simp] theorem len_ptu (l : List T) : lenE P r (.ptu l) h = some (.ok (.int l.length) h) := rfl
@[simp] theorem len_vl (l : List T) : lenE P r (.vl l) h = some (.ok (.int l.length) h) := rfl
@[simp] theorem isi_i0 (i : Int) : isiK P (.int i) (.ty 0) h = some (.ok (.bl true) h) := rfl
@[simp] theorem isi_i1 (i : Int) : isiK P (.int i) (.ty 1) h = some (.ok (.bl false) h) := rfl
@[simp] theorem isi_s2 (i : Str) : isiK P (.str i) (.ty 2) h = some (.ok (.bl true) h) := rfl
@[simp] theorem cT_le (a b : Int) : cmpT .le h (.int a) (.int b) = some (decide (a ≤ b)) := rfl
@[simp] theorem cT_lt (a b : Int) : cmpT .lt h (.int a) (.int b) = some (decide (a < b)) := rfl
@[simp] theorem c2L_le (a b : Int) : c2L .le (.int a) (.int b) h = some (.ok (decide (a ≤ b)) h) := rfl
@[simp] theorem c2L_lt (a b : Int) : c2L .lt (.int a) (.int b) h = some (.ok (decide (a < b)) h) := rfl
end
/-- drawn tickets between two heights, as values -/
def PL (lo hi : Int) (l : List T) : Prop := ∀ t ∈ l, ∃ p : Int × Int, t = pr p ∧ lo ≤ p.1 ∧ p.1 ≤ hi ∧ lo ≤ p.2 ∧ p.2 ≤ hi
theorem PL.nil {lo hi : Int} : PL lo hi [] := fun t h => by cases h
theorem PL.app {lo hi : Int} {l m : List T} (a : PL lo hi l) (b : PL lo hi m) : PL lo hi (l ++ m) := fun t h => (List.mem_append.mp h).elim (a t) (b t)
theorem PL.one {lo hi x y : Int} (a : lo ≤ x) (b : x ≤ hi) (c : lo ≤ y) (d : y ≤ hi) : PL lo hi [.tup [.int x, .int y]] := fun t h => by
  rw [List.mem_singleton.mp h]
  exact ⟨(x, y), rfl, a, b, c, d⟩
theorem PL.sub {lo hi : Int} {l m : List T} (a : PL lo hi l) (h : m ⊆ l) : PL lo hi m := fun t q => a t (h q)
theorem PL.wide {lo hi lo' hi' : Int} {l : List T} (a : PL lo hi l) (h1 : lo' ≤ lo) (h2 : hi ≤ hi') : PL lo' hi' l := fun t q => by
  obtain ⟨p, e, a, b, c, d⟩ := a t q
  exact ⟨p, e, by omega, by omega, by omega, by omega⟩
theorem PL.pairs {lo hi : Int} : ∀ {l : List T}, PL lo hi l → ∃ ps : List (Int × Int), l = ps.map pr ∧ ∀ p ∈ ps, lo ≤ p.1 ∧ p.1 ≤ hi ∧ lo ≤ p.2 ∧ p.2 ≤ hi
  | [], _ => ⟨[], rfl, fun _ h => by cases h⟩
  | t :: l, h => by
    obtain ⟨p, rfl, q⟩ := h _ List.mem_cons_self
    obtain ⟨ps, rfl, qs⟩ := PL.pairs (l := l) fun t ht => h t (List.mem_cons_of_mem _ ht)
    exact ⟨p :: ps, rfl, fun x hx => (List.mem_cons.mp hx).elim (fun e => e ▸ q) (qs x)⟩
end Ev.Q
end
section
set_option Elab.async false
set_option linter.all false
set_option maxRecDepth 100000
set_option maxHeartbeats 1000000
/-! Ev, part Qh: equality of data, sums, rows of pairs. -/
namespace Ev.Q
open PySem Ev
mutual
theorem eqB_refl : ∀ (n : Nat) (t : T), okD n t = true → eqB t t = true
  | n, t, h => by
    cases t <;> first
      | rfl
      | (show (_ == _) = true; exact beq_self_eq_true _)
      | (cases n with
         | zero => cases h
         | succ n => exact eqBs_refl n _ h)
      | (cases n <;> cases h)
theorem eqBs_refl : ∀ (n : Nat) (l : List T), okDs n l = true → eqBs l l = true
  | n, [], _ => rfl
  | n, t :: r, h => by
    obtain ⟨h1, h2⟩ := Bool.and_eq_true_iff.mp (show (okD n t && okDs n r) = true from h)
    show (eqB t t && eqBs r r) = true
    rw [eqB_refl n t h1, eqBs_refl n r h2] <;> rfl
end
theorem eqT_refl {t : T} (h : okD 8 t = true) : eqT t t = some true := by
  unfold eqT
  rw [h, eqB_refl 8 t h] <;> rfl
theorem okDs_mem {n : Nat} : ∀ {l : List T}, (∀ t ∈ l, okD n t = true) → okDs n l = true
  | [], _ => rfl
  | t :: r, h => by
    show (okD n t && okDs n r) = true
    rw [h t List.mem_cons_self, okDs_mem fun u hu => h u (List.mem_cons_of_mem _ hu)] <;> rfl
theorem okDs_prs {n : Nat} (ps : List (Int × Int)) : okDs (n + 2) (ps.map pr) = true := okDs_mem fun t ht => by
  obtain ⟨p, _, rfl⟩ := List.mem_map.mp ht
  rfl
/-- what == looks at as it stands -/
def flat : T → Bool
  | .vl _ => false | .ref _ => false | .ins _ _ => false | _ => true
theorem view_flat {t : T} (h : Hh) (q : flat t = true) : view h t = t := by
  cases t <;> first | rfl | cases q
theorem ownM_flat (P : Prg) (h : Hh) (m : Nat) {t : T} (q : flat t = true) : ownM P h t m = none := by
  cases t <;> first | rfl | cases q
section
variable (P : Prg) (r : Rec) (h : Hh)
theorem eq_data {a b : T} {k : Bool} (ha : flat a = true) (hb : flat b = true) (e : eqT a b = some k) : cmpE P r .eq a b h = some (.ok k h) := by
  show (match ownM P h a nEq with
    | some f => if okY P h b then asB (callF P r f [a, b] [] h) else none
    | none => lift (eqT (view h a) (view h b)) h) = _
  rw [ownM_flat P h nEq ha, view_flat h ha, view_flat h hb]
  dsimp only
  rw [e] <;> rfl
theorem ne_data {a b : T} {k : Bool} (ha : flat a = true) (hb : flat b = true) (e : eqT a b = some k) : cmpE P r .ne a b h = some (.ok (!k) h) := by
  show (match ownM P h a nEq with
    | some _ => none
    | none => lift ((eqT (view h a) (view h b)).map (!·)) h) = _
  rw [ownM_flat P h nEq ha, view_flat h ha, view_flat h hb]
  dsimp only
  rw [e] <;> rfl
theorem ne_same {a : T} (ha : flat a = true) (o : okD 8 a = true) : cmpE P r .ne a a h = some (.ok false h) := ne_data P r h ha ha (eqT_refl o)
theorem eq_same {a : T} (ha : flat a = true) (o : okD 8 a = true) : cmpE P r .eq a a h = some (.ok true h) := eq_data P r h ha ha (eqT_refl o)
theorem ne_prs (ps : List (Int × Int)) : cmpE P r .ne (.ptu (ps.map pr)) (.tup []) h = some (.ok (!ps.isEmpty) h) := by
  refine ne_data P r h rfl rfl ?_
  unfold eqT
  rw [show okD 8 (.ptu (ps.map pr)) = true from okDs_prs ps]
  cases ps <;> rfl
theorem ne_prl (ps : List (Int × Int)) : cmpE P r .ne (.lst (ps.map pr)) (.lst []) h = some (.ok (!ps.isEmpty) h) := by
  refine ne_data P r h rfl rfl ?_
  unfold eqT
  rw [show okD 8 (.lst (ps.map pr)) = true from okDs_prs ps]
  cases ps <;> rfl
theorem ints_map : ∀ is : List Int, intsT (is.map T.int) = some is
  | [] => rfl
  | y :: ys => by
    show (intsT (ys.map T.int)).map (y :: ·) = _
    rw [ints_map ys] <;> rfl
theorem sum_ints (is : List Int) : biK .sum [.lst (is.map T.int)] h = some (.ok (.int is.sum) h) := by
  show lift ((intsT (is.map T.int)).map fun is => T.int is.sum) h = _
  rw [ints_map] <;> rfl
end
theorem lenE_own {P : Prg} {r : Rec} {x : T} {f : Nat} {h h' : Hh} {n : Int} (hf : ownM P h x nLen = some f) (e : callF P r f [x] [] h = some (.ok (.int n) h')) (h0 : 0 ≤ n) (h1 : n < 2 ^ 60) : lenE P r x h = some (.ok (.int n) h') := by
  unfold lenE
  rw [hf]
  dsimp only
  rw [e, Ro.bd_ok]
  dsimp only
  rw [decide_eq_true h0, smallI_ok (by omega) (by omega)]
  rfl
/-! rows of pairs -/
/-- each begins at or above the end of the one before -/
def Fit : List (Int × Int) → Prop
  | [] => True
  | [_] => True
  | p :: q :: r => p.2 ≤ q.1 ∧ Fit (q :: r)
theorem Fit.idx : ∀ {ps : List (Int × Int)}, Fit ps → ∀ (j : Nat) (h : j + 1 < ps.length), (ps[j]).2 ≤ (ps[j + 1]).1
  | [], _, j, h => by simp at h
  | [_], _, j, h => by simp at h
  | p :: q :: r, f, 0, _ => f.1
  | p :: q :: r, f, j + 1, h => Fit.idx (ps := q :: r) f.2 j (by simpa using h)
theorem Fit.app : ∀ {ps qs : List (Int × Int)}, Fit ps → Fit qs → (∀ p ∈ ps.getLast?, ∀ q ∈ qs.head?, p.2 ≤ q.1) → Fit (ps ++ qs)
  | [], qs, _, f, _ => f
  | [p], [], _, _, _ => trivial
  | [p], q :: qs, _, f, h => ⟨h p rfl q rfl, f⟩
  | p :: p' :: ps, qs, f, g, h => ⟨f.1, Fit.app (ps := p' :: ps) f.2 g fun a ha => h a (by rw [List.getLast?_cons_cons]; exact ha)⟩
/-- the climbs between -/
def gaps : List (Int × Int) → List Int
  | [] => []
  | [_] => []
  | p :: q :: r => (q.1 - p.2) :: gaps (q :: r)
def climb (ps : List (Int × Int)) : Int := (gaps ps).sum
theorem zip_gaps : ∀ ps : List (Int × Int), ∃ zs : List ((Int × Int) × (Int × Int)), zipL (ps.map pr) ((ps.drop 1).map pr) = zs.map (fun z => .tup [pr z.1, pr z.2]) ∧ gaps ps = zs.map fun z => z.2.1 - z.1.2
  | [] => ⟨[], rfl, rfl⟩
  | [p] => ⟨[], rfl, rfl⟩
  | p :: q :: r => by
    obtain ⟨zs, e1, e2⟩ := zip_gaps (q :: r)
    refine ⟨(p, q) :: zs, ?_, ?_⟩
    · show T.tup [pr p, pr q] :: zipL ((q :: r).map pr) (r.map pr) = _
      rw [show r.map pr = ((q :: r).drop 1).map pr from rfl, e1] <;> rfl
    · show (q.1 - p.2) :: gaps (q :: r) = _
      rw [e2] <;> rfl
theorem gaps_len : ∀ ps : List (Int × Int), (gaps ps).length ≤ ps.length
  | [] => Nat.le_refl _
  | [p] => Nat.zero_le _
  | p :: q :: r => Nat.succ_le_succ (gaps_len (q :: r))
theorem climb_app : ∀ (ps : List (Int × Int)) (qs : List (Int × Int)) (p q : Int × Int), climb (ps ++ [p] ++ q :: qs) = climb (ps ++ [p]) + (q.1 - p.2) + climb (q :: qs)
  | [], qs, p, q => by
    show (q.1 - p.2) + climb (q :: qs) = (0 + (q.1 - p.2) + climb (q :: qs) : Int)
    omega
  | [a], qs, p, q => by
    have := climb_app [] qs p q
    show (p.1 - a.2) + climb ([] ++ [p] ++ q :: qs) = (p.1 - a.2) + climb ([] ++ [p]) + _ + _
    omega
  | a :: b :: ps, qs, p, q => by
    have := climb_app (b :: ps) qs p q
    show (b.1 - a.2) + climb (b :: ps ++ [p] ++ q :: qs) = (b.1 - a.2) + climb (b :: ps ++ [p]) + _ + _
    omega
theorem ix_prs (P : Prg) (r : Rec) {t : T} {k : Bool} {ps : List (Int × Int)} {i : Int} {j : Nat} (h : Hh) (e : seqF t = some (k, ps.map pr)) (hi : i = j) {p : Int × Int} (hp : ps[j]? = some p) : ixE P r t (.int i) h = some (.ok (pr p) h) := by
  subst hi
  refine ix_seq P r h e (ixT_nat ?_)
  rw [List.getElem?_map, hp] <;> rfl
theorem ix_last (P : Prg) (r : Rec) {t : T} {k : Bool} {l : List T} {u : T} (h : Hh) (e : seqF t = some (k, l)) (hp : l.getLast? = some u) : ixE P r t (.int (-1)) h = some (.ok u h) := by
  refine ix_seq P r h e ?_
  have hl : 0 < l.length := List.length_pos_iff.mpr fun z => by rw [z] at hp; cases hp
  unfold ixT L2.atI L2.ixN
  rw [if_neg (by omega), if_pos (by omega)]
  rw [List.getLast?_eq_getElem?] at hp
  show l[((l.length : Int) + -1).toNat]? = some u
  rw [show ((l.length : Int) + -1).toNat = l.length - 1 by omega]
  exact hp
@[simp] theorem ix_pr0 (P : Prg) (r : Rec) (p : Int × Int) (h : Hh) : ixE P r (pr p) (.int 0) h = some (.ok (.int p.1) h) := rfl
@[simp] theorem ix_pr1 (P : Prg) (r : Rec) (p : Int × Int) (h : Hh) : ixE P r (pr p) (.int 1) h = some (.ok (.int p.2) h) := rfl
theorem enum_get : ∀ {l : List T} {k : Int} {t : T}, t ∈ enumL k l → ∃ (j : Nat) (u : T), l[j]? = some u ∧ t = .tup [.int (k + j), u]
  | [], k, t, h => by cases h
  | x :: l, k, t, h => by
    rcases List.mem_cons.mp h with rfl | h
    · exact ⟨0, x, rfl, by simp⟩
    · obtain ⟨j, u, e1, rfl⟩ := enum_get h
      exact ⟨j + 1, u, e1, by rw [show k + 1 + (j : Int) = k + ((j + 1 : Nat) : Int) by omega]⟩
end Ev.Q
end
section
set_option Elab.async false
set_option linter.all false
set_option maxRecDepth 100000
set_option maxHeartbeats 1000000
namespace LW
open PySem Ev Ev.Q Ev.Mo
theorem range_mem {a : Int} {n : Nat} {t : T} (h : t ∈ rangeL a n) : ∃ j : Int, t = .int j ∧ a ≤ j ∧ j < a + n := by
  unfold rangeL at h
  obtain ⟨k, hk, rfl⟩ := List.mem_map.mp h
  exact ⟨a + k, rfl, by omega, by have := List.mem_range.mp hk; omega⟩
theorem range_len (a : Int) (n : Nat) : (rangeL a n).length = n := by simp [rangeL]
local macro_rules | `(tactic| walk_at "dz") => `(tactic| first | omega | rfl | (simp [range_len, Ev.big]; done))
abbrev wf : Nat := tx.wf
/-- the tables' cells -/
def pre : Hh := (List.range tx.tabs.length).map MO.tab
theorem pre_len : pre.length = tx.tabs.length := by simp [pre]
theorem pre_tab {t : Nat} (q : t < tx.tabs.length) (s : DS) (rest : Hh) : tbA (hS pre s rest) t = some (.tab t) := by
  unfold tbA
  rw [hS_pre _ _ _ (by rw [pre_len]; exact q)]
  unfold pre
  rw [List.getElem?_map, List.getElem?_range q] <;> rfl
def mixed (c n : Int) : Int := (c * (1 + 2 * n) * 48271 % 2147483647 + 7919 * n * n + 104729 * n) * 69621 % 2147483629 / 7
theorem mixed_lt (c n : Int) : 0 ≤ mixed c n ∧ mixed c n < 2147483647 := by
  unfold mixed
  omega
theorem e_mixed (k : Nat) (c n : Int) (h : Hh) (h0 : 0 ≤ n) (h1 : n < 2 ^ 60) : callF P (run P wf (k + 20)) k_law_mixed [.int c, .int n] [] h = some (.ok (.int (mixed c n)) h) := by
  refine (cf_open (d := f_law_mixed) (bs := [.int c, .int n]) rfl rfl).trans ?_
  simp (disch := walk_at "dz") [f_law_mixed, b_law_mixed, startS, mul_L, mul_R, mod_int, fdiv_int, mixed]
theorem e_draw (s : DS) (top : Int) (rest : Hh) (N : Nat) (hs : s.ok N) (hN : N < 2 ^ 50) (h0 : 0 < top) (h1 : top < 2 ^ 30) :
    ∃ v s', (∀ k, callF P (run P wf (k + 40)) k_law_draw [.ref pre.length, .int top] [] (hS pre s rest) = some (.ok (.int v) (hS pre s' rest))) ∧ 0 ≤ v ∧ v < top ∧ s'.ok (N + 1) := by
  have hn := hs.n
  have s1 : DS.ok { s with n := s.n + 1 } (N + 1) := ⟨hs.len, hs.c, hs.gl, hs.g, by show s.n + 1 ≤ N + 1; omega⟩
  have hq : s.n % 64 < s.cells.length := by rw [hs.len]; omega
  have hc : ∀ r h, ixE P r (.lst (s.cells.map .int)) (.int ((s.n : Int) % 64)) h = some (.ok (.int (s.cells[s.n % 64])) h) := fun r h => ix_c P r s (j := s.n % 64) (by omega) (List.getElem?_eq_getElem hq) h
  have fin : ∀ v : Int, 0 ≤ v % top ∧ v % top < top := fun v => ⟨Int.emod_nonneg v (by omega), Int.emod_lt_of_pos v h0⟩
  have ml := mixed_lt (s.cells[s.n % 64] + 31 * ((s.n : Int) / 64)) s.n
  cases hg : s.great.isEmpty with
  | true =>
    refine ⟨mixed (mixed (s.cells[s.n % 64] + 31 * ((s.n : Int) / 64)) s.n) (s.n + 7) % top, { s with n := s.n + 1 }, fun k => (cf_open (d := f_law_draw) (bs := [.ref pre.length, .int top]) rfl rfl).trans ?_, (fin _).1, (fin _).2, s1⟩
    simp (disch := walk_at "dz") [f_law_draw, b_law_draw, startS, mul_L, mul_R, mod_int, fdiv_int, hg, hc, e_mixed]
  | false =>
    have hl : 0 < s.great.length := List.length_pos_iff.mpr fun e => by rw [e] at hg; cases hg
    have hj : s.n % s.great.length < s.great.length := Nat.mod_lt _ hl
    have ha : (s.n : Int) % (s.great.length : Int) = ((s.n % s.great.length : Nat) : Int) := by omega
    have hi : ∀ r, ixE P r (.ref (pre.length + 1)) (.int ((s.n : Int) % (s.great.length : Int))) (hS pre { s with n := s.n + 1 } rest) = some (.ok (.int (s.great[s.n % s.great.length])) (hS pre { s with n := s.n + 1 } rest)) := fun r => ix_g P r pre { s with n := s.n + 1 } rest ha (List.getElem?_eq_getElem hj)
    by_cases hp : 0 < s.great[s.n % s.great.length]
    · have hs : ∀ σ v, itemS σ (.ref (pre.length + 1)) (.int ((s.n : Int) % (s.great.length : Int))) (.int v) (hS pre { s with n := s.n + 1 } rest) = _ := fun σ v => it_g pre { s with n := s.n + 1 } rest σ (v := v) ha hj
      refine ⟨s.great[s.n % s.great.length] % top, { s with n := s.n + 1, great := s.great.set (s.n % s.great.length) (s.great[s.n % s.great.length] / top) }, fun k => (cf_open (d := f_law_draw) (bs := [.ref pre.length, .int top]) rfl rfl).trans ?_, (fin _).1, (fin _).2, s1.len, s1.c, ?_, ?_, s1.n⟩
      · simp (disch := walk_at "dz") [f_law_draw, b_law_draw, startS, mul_L, mul_R, mod_int, fdiv_int, hg, hi, hs, hp]
      · rw [List.length_set]
        exact s1.gl
      · intro x hx
        rcases List.mem_or_eq_of_mem_set hx with hx | rfl
        · exact s1.g x hx
        · exact Int.ediv_nonneg (by omega) (by omega)
    · refine ⟨mixed (mixed (s.cells[s.n % 64] + 31 * ((s.n : Int) / 64)) s.n) (s.n + 7) % top, { s with n := s.n + 1 }, fun k => (cf_open (d := f_law_draw) (bs := [.ref pre.length, .int top]) rfl rfl).trans ?_, (fin _).1, (fin _).2, s1⟩
      simp (disch := walk_at "dz") [f_law_draw, b_law_draw, startS, mul_L, mul_R, mod_int, fdiv_int, hg, hi, hp, hc, e_mixed]
/-- from one level on -/
theorem up {n f : Nat} {ts : List T} {ks : List (Nat × T)} {h h' : Hh} {v : T} (e : callF P (run P wf (0 + n)) f ts ks h = some (.ok v h')) : ∀ k, callF P (run P wf (k + n)) f ts ks h = some (.ok v h') := fun k => by
  have := call_up e k
  rwa [Nat.zero_add] at this
theorem enum_mem : ∀ {l : List T} {k : Int} {t : T}, t ∈ enumL k l → ∃ j u, t = .tup [.int j, u] ∧ k ≤ j ∧ j < k + l.length ∧ u ∈ l
  | [], k, t, h => by cases h
  | x :: l, k, t, h => by
    rcases List.mem_cons.mp h with rfl | h
    · exact ⟨k, x, rfl, by omega, by simp; omega, List.mem_cons_self⟩
    · obtain ⟨j, u, e, a, b, c⟩ := enum_mem h
      exact ⟨j, u, e, by omega, by simp; omega, List.mem_cons_of_mem _ c⟩
theorem e_folded (ns : List Int) (hl : ns.length ≤ 63) (h : Hh) : ∃ cs : List Int, (∀ k, callF P (run P wf (k + 40)) k_law_folded [.frl (ns.map .int)] [] h = some (.ok (.lst (cs.map .int)) h)) ∧ cs.length = 64 ∧ ∀ x ∈ cs, 0 ≤ x ∧ x < 2147483647 := by
  suffices H : ∀ k, ∃ cs : List Int, callF P (run P wf (k + 40)) k_law_folded [.frl (ns.map .int)] [] h = some (.ok (.lst (cs.map .int)) h) ∧ cs.length = 64 ∧ ∀ x ∈ cs, 0 ≤ x ∧ x < 2147483647 by
    obtain ⟨cs, e, q⟩ := H 0
    exact ⟨cs, up e, q⟩
  intro k
  obtain ⟨cs0, len0, b0, c0⟩ : ∃ cs0 : List Int, cs0.length = 64 ∧ (∀ x ∈ cs0, 0 ≤ x ∧ x < 2147483647) ∧ ∀ r : Rec, (∀ j, r.e [.val (.frl (ns.map .int)), .no, .val (.int j), .no] (.bin .add (.con (.int 17)) (.var 2)) h = some (.ok (.int (17 + j)) h)) →
      compL (.nm 2) (cmI P r []) (cmE r (.bin .add (.con (.int 17)) (.var 2))) [.val (.frl (ns.map .int)), .no, .no, .no] (rangeL 0 64) h = some (.ok (cs0.map .int) h) := by
    refine ⟨(List.range 64).map fun j : Nat => (17 + (j : Int)), by simp, by simp; omega, fun r hr => ?_⟩
    rw [comp_pure (fun t => match t with | .int j => .int (17 + j) | t => t) (fun _ => true) (fun t => [.val (.frl (ns.map .int)), .no, .val t, .no]) (rangeL 0 64) fun t ht => ?_]
    · rw [List.filter_eq_self.mpr fun _ _ => rfl]
      simp [rangeL, List.map_map, Function.comp_def]
    · obtain ⟨j, rfl, _⟩ := range_mem ht
      refine ⟨rfl, rfl, fun _ => ?_⟩
      rw [cmE_eq, hr] <;> rfl
  obtain ⟨σ1, h1, e1, cs1, x2, x3, rfl, rfl, len1, b1⟩ := for_inv (tg := .tup [2, 3]) (b := b_law_folded_f1) (ss := (run P wf (k + 38)).ss)
    (I := fun r σ h' => ∃ (cs : List Int) (x2 x3 : SV), σ = [.val (.frl (ns.map .int)), .own (cs.map .int), x2, x3] ∧ h' = h ∧ cs.length = 64 ∧ ∀ x ∈ cs, 0 ≤ x ∧ x < 2147483647) (enumL 0 (ns.map .int)) [.val (.frl (ns.map .int)), .own (cs0.map .int), .no, .no] h
    ⟨_, _, _, rfl, rfl, len0, b0⟩ (by
      rintro t r σ h' hs ⟨cs, x2, x3, rfl, rfl, len, hb⟩
      obtain ⟨j, u, rfl, hj, _, hu⟩ := enum_mem (hs.subset List.mem_cons_self)
      obtain ⟨z, _, rfl⟩ := List.mem_map.mp hu
      have hm : 0 ≤ j % 64 ∧ j % 64 < 64 := by omega
      have i0 : (j % 64).toNat < cs.length := by omega
      have ix : ∀ r, ixE P r (.vl (cs.map .int)) (.int (j % 64)) h' = some (.ok (.int cs[(j % 64).toNat]) h') := fun r => ix_ints P r h' rfl hm.1 i0
      have iN : L2.ixN (cs.map T.int).length (j % 64) = some (j % 64).toNat := ixN_ok hm.1 (by rw [List.length_map]; omega)
      refine ⟨_, _, _, rfl, ?_, cs.set (j % 64).toNat ((cs[(j % 64).toNat] * 48271 + z) % 2147483647), .val (.int j), .val (.int z), rfl, rfl, by rw [List.length_set]; exact len, fun x hx => ?_⟩
      · simp (disch := walk_at "dz") [b_law_folded_f1, mul_R, mod_int, ix, osK_ok iN, List.map_set]
      · rcases List.mem_or_eq_of_mem_set hx with hx | rfl
        · exact hb x hx
        · omega)
  obtain ⟨σ2, h2, e2, cs2, x4, x5, rfl, rfl, len2, b2⟩ := for_inv (tg := .nm 2) (b := b_law_folded_f2) (ss := (run P wf (k + 38)).ss)
    (I := fun r σ h' => ∃ (cs : List Int) (x2 x3 : SV), σ = [.val (.frl (ns.map .int)), .own (cs.map .int), x2, x3] ∧ h' = h1 ∧ cs.length = 64 ∧ ∀ x ∈ cs, 0 ≤ x ∧ x < 2147483647) (rangeL 1 63) [.val (.frl (ns.map .int)), .own (cs1.map .int), x2, x3] h1
    ⟨_, _, _, rfl, rfl, len1, b1⟩ (by
      rintro t r σ h' hs ⟨cs, x2, x3, rfl, rfl, len, hb⟩
      obtain ⟨j, rfl, hj1, hj2⟩ := range_mem (hs.subset List.mem_cons_self)
      have i0 : j.toNat < cs.length := by omega
      have i1 : (j - 1).toNat < cs.length := by omega
      have ix : ∀ r, ixE P r (.vl (cs.map .int)) (.int j) h' = some (.ok (.int cs[j.toNat]) h') := fun r => ix_ints P r h' rfl (by omega) i0
      have ix1 : ∀ r, ixE P r (.vl (cs.map .int)) (.int (j - 1)) h' = some (.ok (.int cs[(j - 1).toNat]) h') := fun r => ix_ints P r h' rfl (by omega) i1
      have iN : L2.ixN (cs.map T.int).length j = some j.toNat := ixN_ok (by omega) (by rw [List.length_map]; omega)
      refine ⟨_, _, _, rfl, ?_, cs.set j.toNat ((cs[j.toNat] + cs[(j - 1).toNat] * 16807) % 2147483647), .val (.int j), x3, rfl, rfl, by rw [List.length_set]; exact len, fun x hx => ?_⟩
      · simp (disch := walk_at "dz") [b_law_folded_f2, mul_R, mod_int, ix, ix1, osK_ok iN, List.map_set]
      · rcases List.mem_or_eq_of_mem_set hx with hx | rfl
        · exact hb x hx
        · omega)
  refine ⟨cs2, (cf_open (d := f_law_folded) (bs := [.frl (ns.map .int)]) rfl rfl).trans ?_, len2, b2⟩
  simp (disch := walk_at "dz") [f_law_folded, b_law_folded, startS, rgK_1, rgK_2, cmK_ok (l := rangeL 0 64) (by rw [range_len]; decide), c0, e1, e2]
theorem map_comp {f : T → T} {l : List T} {tg : Tg} {r : Rec} {el : CE} {σ : Sl} {h : Hh} (σf : T → Sl) (q : ∀ t ∈ l, setTg tg t σ = some (σf t) ∧ r.e (σf t) el h = some (.ok (f t) h)) : compL tg (cmI P r []) (cmE r el) σ l h = some (.ok (l.map f) h) := by
  rw [comp_pure f (fun _ => true) σf l fun t ht => ⟨(q t ht).1, rfl, fun _ => by rw [cmE_eq, (q t ht).2] <;> rfl⟩, List.filter_eq_self.mpr fun _ _ => rfl]
theorem e_begun (ns : List Int) (hl : ns.length ≤ 63) : ∃ s : DS, (∀ k, callF P (run P wf (k + 60)) k_law_begun [.frl (ns.map .int)] [] pre = some (.ok (.ref pre.length) (hS pre s []))) ∧ s.ok 0 := by
  obtain ⟨cs, e1, len, hb⟩ := e_folded ns hl pre
  have el : ∀ (r : Rec) (h : Hh) (x : T), (∀ z : Int, r.e [.val (.frl (ns.map .int)), .val x, .val (.int z)] (.ife (.cmp .ge (.var 2) (.bin .pow (.con (.int 10)) (.con (.int 18)))) (.var 2) (.con (.int 0))) h = some (.ok (.int (if 1000000000000000000 ≤ z then z else 0)) h)) →
      compL (.nm 2) (cmI P r []) (cmE r (.ife (.cmp .ge (.var 2) (.bin .pow (.con (.int 10)) (.con (.int 18)))) (.var 2) (.con (.int 0)))) [.val (.frl (ns.map .int)), .val x, .no] (ns.map .int) h = some (.ok ((ns.map fun z => if 1000000000000000000 ≤ z then z else 0).map .int) h) := fun r h x hr => by
    rw [map_comp (f := fun t => match t with | .int z => .int (if 1000000000000000000 ≤ z then z else 0) | t => t) (fun t => [.val (.frl (ns.map .int)), .val x, .val t]) fun t ht => ?_]
    · simp [List.map_map, Function.comp_def]
    · obtain ⟨z, _, rfl⟩ := List.mem_map.mp ht
      exact ⟨rfl, hr z⟩
  have hr : ∀ (n : Nat) (h : Hh) (x : T) (z : Int), (run P wf (n + 10)).e [.val (.frl (ns.map .int)), .val x, .val (.int z)] (.ife (.cmp .ge (.var 2) (.bin .pow (.con (.int 10)) (.con (.int 18)))) (.var 2) (.con (.int 0))) h = some (.ok (.int (if 1000000000000000000 ≤ z then z else 0)) h) := fun n h x z => by
    by_cases hz : 1000000000000000000 ≤ z <;> simp [hz]
  have bigm : (ns.map T.int).length ≤ big := by rw [List.length_map]; exact Nat.le_trans hl (by decide)
  refine ⟨⟨cs, ns.map fun z => if 1000000000000000000 ≤ z then z else 0, 0⟩, fun k => (cf_open (d := f_law_begun) (bs := [.frl (ns.map .int)]) rfl rfl).trans ?_, len, hb, by simpa using hl, ?_, Nat.le_refl _⟩
  · have el1 := fun h x => el (run P wf (k + 57 + 1)) h x (hr (k + 48) h x)
    have key : ∀ (l : List (L2.Key × T)), l = [(.inr "cells", .lst (cs.map .int)), (.inr "great", .lst []), (.inr "spot", .int 0)] → dcK l pre = some (.ok (.ref pre.length) (pre ++ [.dct l])) := fun l e => by subst e; rfl
    have key2 : ∀ (σ : Sl) (g : List T), g = (ns.map fun z => if 1000000000000000000 ≤ z then z else 0).map .int → itemS σ (.ref pre.length) (.str "great") (.ref (pre.length + 1)) (pre ++ [.dct [(.inr "cells", .lst (cs.map .int)), (.inr "great", .lst []), (.inr "spot", .int 0)], .lst g]) = some (Fl.nx σ, hS pre ⟨cs, ns.map fun z => if 1000000000000000000 ≤ z then z else 0, 0⟩ []) := fun σ g eg => by
      subst eg
      have q : ∀ x y : MO, (pre ++ [x, y])[pre.length]? = some x := fun x y => by rw [List.getElem?_append_right (Nat.le_refl _), Nat.sub_self] <;> rfl
      unfold itemS
      dsimp only
      rw [q]
      have q2 : ∀ x y z : MO, (pre ++ [x, y]).set pre.length z = pre ++ [z, y] := fun x y z => by rw [List.set_append_right _ _ (Nat.le_refl _), Nat.sub_self] <;> rfl
      dsimp only [keyT]
      rw [q2] <;> rfl
    simp (disch := walk_at "dz") [f_law_begun, b_law_begun, startS, e1, key, key2, el1, cmK_ok bigm, -List.map_map]
  · intro x hx
    obtain ⟨z, _, rfl⟩ := List.mem_map.mp hx
    split <;> omega
end LW
end
section
set_option Elab.async false
set_option linter.all false
set_option maxRecDepth 100000
set_option maxHeartbeats 1000000
namespace LW
open PySem Ev Ev.Q Ev.Mo
local macro_rules | `(tactic| walk_at "dz") => `(tactic| first | omega | rfl | (simp [range_len, Ev.big]; done) | (simp [range_len, Ev.big]; omega))
theorem bindA_star {d : FnD} {ts : List T} (hd : d.star = true) (h1 : d.ps.length = 1) (hl : ts.length ≤ 1000) : bindA d (.non :: ts) [] = some [.non, .tup ts] := by
  unfold bindA
  rw [if_pos hd, h1, if_pos (by simp; unfold big; omega)]
  rfl
theorem e_isint (k : Nat) (i : Int) (h : Hh) : callF P (run P wf (k + 20)) k_is_integer [.int i] [] h = some (.ok (.bl true) h) := by
  refine (cf_open (d := f_is_integer) (bs := [.int i]) rfl rfl).trans ?_
  simp (disch := walk_at "dz") [f_is_integer, b_is_integer, startS]
theorem e_isbet (k : Nat) (i a b : Int) (h : Hh) : callF P (run P wf (k + 40)) k_is_between [.int i, .int a, .int b] [] h = some (.ok (.bl (decide (a ≤ i) && decide (i ≤ b))) h) := by
  refine (cf_open (d := f_is_between) (bs := [.int i, .int a, .int b]) rfl rfl).trans ?_
  by_cases h1 : a ≤ i <;> by_cases h2 : i ≤ b <;> simp (disch := walk_at "dz") [f_is_between, b_is_between, startS, e_isint, h1, h2]
/-- a ticket -/
def tk (p : Int × Int) : T := .ins 26 [(76, .int p.1), (84, .int p.2)]
section
variable (r : Rec) (h : Hh)
@[simp] theorem at_foot (p : Int × Int) : attrT P r (tk p) 76 h = some (.ok (.int p.1) h) := rfl
@[simp] theorem at_head (p : Int × Int) : attrT P r (tk p) 84 h = some (.ok (.int p.2) h) := rfl
@[simp] theorem at_x (p : Int × Int) : attrT P r (tk p) 198 h = noEx (callF P r k_Ticket_x [tk p] [] h) := rfl
@[simp] theorem at_y (p : Int × Int) : attrT P r (tk p) 199 h = noEx (callF P r k_Ticket_y [tk p] [] h) := rfl
@[simp] theorem at_mh : attrT P r (.cls 26) 24 h = some (.ok (.int 30) h) := rfl
@[simp] theorem isi_tk (p : Int × Int) : isiK P (tk p) (.cls 26) h = some (.ok (.bl true) h) := rfl
end
@[simp] theorem e_tx (k : Nat) (p : Int × Int) (h : Hh) : callF P (run P wf (k + 8)) 98 [tk p] [] h = some (.ok (.int p.1) h) := by
  refine (cf_open (d := f_Ticket_x) (bs := [tk p]) rfl rfl).trans ?_
  simp (disch := walk_at "dz") [f_Ticket_x, b_Ticket_x, startS]
@[simp] theorem e_ty (k : Nat) (p : Int × Int) (h : Hh) : callF P (run P wf (k + 8)) 99 [tk p] [] h = some (.ok (.int p.2) h) := by
  refine (cf_open (d := f_Ticket_y) (bs := [tk p]) rfl rfl).trans ?_
  simp (disch := walk_at "dz") [f_Ticket_y, b_Ticket_y, startS]
theorem e_ticket (k : Nat) (x y : Int) (h : Hh) (x0 : 0 ≤ x) (x1 : x ≤ 30) (y0 : 0 ≤ y) (y1 : y ≤ 30) : makeC P (run P wf (k + 60)) 26 [.int x, .int y] [] h = some (.ok (tk (x, y)) h) := by
  refine (mk_open (k := c_Ticket) (d := f_Ticket_init) (bs := [.int x, .int y]) rfl rfl rfl rfl rfl).trans ?_
  have fs : ∀ h, fsK P 0 [(0, 76), (0, 84)] [.self 26 [], .val (.int x), .val (.int y)] [.int x, .int y] h = some (Fl.nx [.self 26 [(76, .int x), (84, .int y)], .val (.int x), .val (.int y)], h) := fun _ => rfl
  simp (disch := walk_at "dz") [f_Ticket_init, b_Ticket_init, startS, e_isbet, x0, x1, y0, y1, fs, endI_nx, tk]
end LW
end
section
set_option Elab.async false
set_option linter.all false
set_option maxRecDepth 100000
set_option maxHeartbeats 1000000
namespace LW
open PySem Ev Ev.Q Ev.Mo
local macro_rules | `(tactic| walk_at "dz") => `(tactic| first | omega | rfl | (simp [range_len, Ev.big]; done) | (simp [range_len, Ev.big]; omega))
theorem e_fbreak (k : Nat) (ps : List (Int × Int)) (f : Fit ps) (h : Hh) : callF P (run P wf (k + 60)) k_first_break [.tup (ps.map tk)] [] h = some (.ok .non h) := by
  refine (cf_open (d := f_first_break) (bs := [.tup (ps.map tk)]) rfl rfl).trans ?_
  obtain ⟨σ1, h1, e1, x2, x3, rfl, rfl⟩ := for_inv (tg := .tup [1, 2]) (b := b_first_break_f1) (ss := (run P wf (k + 58)).ss)
    (I := fun r σ h' => ∃ (x2 x3 : SV), σ = [.val (.tup (ps.map tk)), x2, x3] ∧ h' = h) (enumL 0 (ps.map tk)) [.val (.tup (ps.map tk)), .no, .no] h
    ⟨_, _, rfl, rfl⟩ (by
      rintro t r σ h' hs ⟨x2, x3, rfl, rfl⟩
      obtain ⟨j, u, hu, rfl⟩ := enum_get (hs.subset List.mem_cons_self)
      rw [List.getElem?_map] at hu
      cases hp : ps[j]? with
      | none => rw [hp] at hu; cases hu
      | some p =>
        rw [hp] at hu
        cases hu
        refine ⟨_, _, _, rfl, ?_, .val (.int (0 + j)), .val (tk p), rfl, rfl⟩
        cases j with
        | zero => simp (disch := walk_at "dz") [b_first_break_f1]
        | succ i =>
          obtain ⟨hj, hpe⟩ := List.getElem?_eq_some_iff.mp hp
          have hi : (ps.map tk)[i]? = some (tk ps[i]) := by rw [List.getElem?_map, List.getElem?_eq_getElem (by omega)] <;> rfl
          have ix : ∀ r h, ixE P r (.tup (ps.map tk)) (.int (0 + ((i + 1 : Nat) : Int) - 1)) h = some (.ok (tk ps[i]) h) := fun r h => by
            rw [show (0 + ((i + 1 : Nat) : Int) - 1) = (i : Int) by omega]
            exact ix_seq P r h (k := true) rfl (ixT_nat hi)
          have ft := f.idx i hj
          rw [hpe] at ft
          have c1 : decide ((0 : Int) < 0 + ((i + 1 : Nat) : Int)) = true := decide_eq_true (by omega)
          have c2 : decide (p.1 < ps[i].2) = false := decide_eq_false (by omega)
          simp -implicitDefEqProofs (disch := walk_at "dz") [b_first_break_f1, ix, c1, c2, -Int.natCast_add, -Int.zero_add, -Int.add_sub_cancel])
  simp (disch := walk_at "dz") [f_first_break, b_first_break, startS, e1]
/-- a row -/
def rw_ (ps : List (Int × Int)) : T := .ins 25 [(45, .tup (ps.map tk)), (140, .ptu (ps.map pr)), (170, .int (climb ps))]
section
variable (r : Rec) (h : Hh)
@[simp] theorem at_rtk (ps : List (Int × Int)) : attrT P r (rw_ ps) 45 h = some (.ok (.tup (ps.map tk)) h) := rfl
@[simp] theorem at_rpr (ps : List (Int × Int)) : attrT P r (rw_ ps) 140 h = some (.ok (.ptu (ps.map pr)) h) := rfl
@[simp] theorem at_rcl (ps : List (Int × Int)) : attrT P r (rw_ ps) 170 h = some (.ok (.int (climb ps)) h) := rfl
@[simp] theorem at_rbg (ps : List (Int × Int)) : attrT P r (rw_ ps) 38 h = noEx (callF P r 83 [rw_ ps] [] h) := rfl
@[simp] theorem at_rcm (ps : List (Int × Int)) : attrT P r (rw_ ps) 48 h = noEx (callF P r 84 [rw_ ps] [] h) := rfl
@[simp] theorem at_ren (ps : List (Int × Int)) : attrT P r (rw_ ps) 63 h = noEx (callF P r 86 [rw_ ps] [] h) := rfl
@[simp] theorem at_rts (ps : List (Int × Int)) : attrT P r (rw_ ps) 180 h = noEx (callF P r 87 [rw_ ps] [] h) := rfl
@[simp] theorem isi_rw (ps : List (Int × Int)) : isiK P (rw_ ps) (.cls 25) h = some (.ok (.bl true) h) := rfl
@[simp] theorem isi_rwt (ps : List (Int × Int)) : isiK P (rw_ ps) (.cls 26) h = some (.ok (.bl false) h) := rfl
end
@[simp] theorem e_rcl (k : Nat) (ps : List (Int × Int)) (h : Hh) : callF P (run P wf (k + 8)) 84 [rw_ ps] [] h = some (.ok (.int (climb ps)) h) := by
  refine (cf_open (d := f_Row_climb) (bs := [rw_ ps]) rfl rfl).trans ?_
  simp (disch := walk_at "dz") [f_Row_climb, b_Row_climb, startS]
@[simp] theorem e_rts (k : Nat) (ps : List (Int × Int)) (h : Hh) : callF P (run P wf (k + 8)) 87 [rw_ ps] [] h = some (.ok (.tup (ps.map tk)) h) := by
  refine (cf_open (d := f_Row_tickets) (bs := [rw_ ps]) rfl rfl).trans ?_
  simp (disch := walk_at "dz") [f_Row_tickets, b_Row_tickets, startS]
@[simp] theorem e_rlen (k : Nat) (ps : List (Int × Int)) (h : Hh) : callF P (run P wf (k + 8)) 81 [rw_ ps] [] h = some (.ok (.int ps.length) h) := by
  refine (cf_open (d := f_Row_len) (bs := [rw_ ps]) rfl rfl).trans ?_
  simp (disch := walk_at "dz") [f_Row_len, b_Row_len, startS]
theorem len_rw (k : Nat) (ps : List (Int × Int)) (hl : ps.length ≤ 1000) (h : Hh) : lenE P (run P wf (k + 8)) (rw_ ps) h = some (.ok (.int ps.length) h) := lenE_own rfl (e_rlen k ps h) (by omega) (by omega)
theorem add_rwt (k : Nat) (ps : List (Int × Int)) (p : Int × Int) (h : Hh) : binE P (run P wf k) .add (rw_ ps) (tk p) h = callF P (run P wf k) 74 [rw_ ps, tk p] [] h := rfl
theorem add_rw (k : Nat) (ps qs : List (Int × Int)) (h : Hh) : binE P (run P wf k) .add (rw_ ps) (rw_ qs) h = callF P (run P wf k) 74 [rw_ ps, rw_ qs] [] h := rfl
theorem e_rbegin (k : Nat) (p : Int × Int) (ps : List (Int × Int)) (h : Hh) : callF P (run P wf (k + 12)) 83 [rw_ (p :: ps)] [] h = some (.ok (.int p.1) h) := by
  refine (cf_open (d := f_Row_begin) (bs := [rw_ (p :: ps)]) rfl rfl).trans ?_
  have ix : ∀ r h, ixE P r (.ptu ((p :: ps).map pr)) (.int 0) h = some (.ok (pr p) h) := fun r h => ix_prs P r h (k := true) (j := 0) rfl rfl rfl
  simp (disch := walk_at "dz") [f_Row_begin, b_Row_begin, startS, ne_prs, ix, -List.map_cons]
theorem e_rend (k : Nat) (ps : List (Int × Int)) (p : Int × Int) (hp : ps.getLast? = some p) (h : Hh) : callF P (run P wf (k + 12)) 86 [rw_ ps] [] h = some (.ok (.int p.2) h) := by
  refine (cf_open (d := f_Row_end) (bs := [rw_ ps]) rfl rfl).trans ?_
  have ix : ∀ r h, ixE P r (.ptu (ps.map pr)) (.int (-1)) h = some (.ok (pr p) h) := fun r h => ix_last P r h (k := true) rfl (by rw [List.getLast?_map, hp] <;> rfl)
  have ne : ps.isEmpty = false := by cases ps <;> first | rfl | cases hp
  simp (disch := walk_at "dz") [f_Row_end, b_Row_end, startS, ne_prs, ix, ne]
theorem rw_c1 (k : Nat) (ps : List (Int × Int)) (x0 x1 x2 x4 x5 : SV) (h : Hh) :
    compL (.nm 3) (cmI P (run P wf (k + 20)) []) (cmE (run P wf (k + 20)) (.tup [.attr (.var 3) 76, .attr (.var 3) 84])) [x0, x1, x2, .no, x4, x5] (ps.map tk) h = some (.ok (ps.map pr) h) := by
  rw [map_comp (f := fun t => match t with | .ins _ [(_, a), (_, b)] => .tup [a, b] | t => t) (fun t => [x0, x1, x2, .val t, x4, x5]) fun t ht => ?_]
  · rw [List.map_map] <;> rfl
  · obtain ⟨p, _, rfl⟩ := List.mem_map.mp ht
    refine ⟨rfl, ?_⟩
    simp (disch := walk_at "dz")
    rfl
theorem rw_c2 (k : Nat) (zs : List ((Int × Int) × (Int × Int))) (x0 x1 x2 x3 : SV) (h : Hh) :
    compL (.tup [4, 5]) (cmI P (run P wf (k + 20)) []) (cmE (run P wf (k + 20)) (.bin .sub (.sub (.var 5) (.con (.int 0))) (.sub (.var 4) (.con (.int 1))))) [x0, x1, x2, x3, .no, .no] (zs.map fun z => .tup [pr z.1, pr z.2]) h = some (.ok ((zs.map fun z => z.2.1 - z.1.2).map T.int) h) := by
  rw [map_comp (f := fun t => match t with | .tup [.tup [_, .int a], .tup [.int b, _]] => .int (b - a) | t => t) (fun t => match t with | .tup [a, b] => [x0, x1, x2, x3, .val a, .val b] | _ => []) fun t ht => ?_]
  · rw [List.map_map, List.map_map] <;> rfl
  · obtain ⟨z, _, rfl⟩ := List.mem_map.mp ht
    refine ⟨rfl, ?_⟩
    simp (disch := walk_at "dz")
    rfl
theorem e_row (k : Nat) (ps : List (Int × Int)) (hl : ps.length ≤ 1000) (f : Fit ps) (h : Hh) : makeC P (run P wf (k + 80)) 25 (ps.map tk) [] h = some (.ok (rw_ ps) h) := by
  refine (mk_open (k := c_Row) (d := f_Row_init) (bs := [.tup (ps.map tk)]) rfl rfl rfl rfl (bindA_star rfl rfl (by rw [List.length_map]; omega))).trans ?_
  have lm : (ps.map tk).length ≤ big := by rw [List.length_map]; unfold big; omega
  obtain ⟨zs, z1, z2⟩ := zip_gaps ps
  have lz : (zs.map fun z => T.tup [pr z.1, pr z.2]).length ≤ big := by
    have := gaps_len ps
    rw [z2, List.length_map] at this
    rw [List.length_map]; unfold big; omega
  have ct : cutT (ps.map pr) (some 1) none = (ps.drop 1).map pr := by rw [cut_from (by omega), List.map_drop] <;> rfl
  have zp : ∀ h, zpK (.ptu (ps.map pr)) (.tup ((ps.drop 1).map pr)) h = some (.ok (zs.map fun z => T.tup [pr z.1, pr z.2]) h) := fun h => by rw [← z1] <;> rfl
  have fl1 : ∀ h, flK P 0 45 [.self 25 [], .val (.tup (ps.map tk)), .val .non, .no, .no, .no] (.tup (ps.map tk)) h = some (Fl.nx [.self 25 [(45, .tup (ps.map tk))], .val (.tup (ps.map tk)), .val .non, .no, .no, .no], h) := fun _ => rfl
  have fl2 : ∀ h x, flK P 0 140 [.self 25 [(45, .tup (ps.map tk))], .val (.tup (ps.map tk)), .val .non, .no, .no, .no] x h = some (Fl.nx [.self 25 [(45, .tup (ps.map tk)), (140, x)], .val (.tup (ps.map tk)), .val .non, .no, .no, .no], h) := fun _ _ => rfl
  have fl3 : ∀ h x z, flK P 0 170 [.self 25 [(45, .tup (ps.map tk)), (140, x)], .val (.tup (ps.map tk)), .val .non, .no, .no, .no] z h = some (Fl.nx [.self 25 [(45, .tup (ps.map tk)), (140, x), (170, z)], .val (.tup (ps.map tk)), .val .non, .no, .no, .no], h) := fun _ _ _ => rfl
  have at1 : ∀ r h x, atS P r 140 (some (.self 25 [(45, .tup (ps.map tk)), (140, x)])) h = some (.ok x h) := fun _ _ _ => rfl
  have tt : ∀ h, tyKk 3 (.lst (ps.map pr)) h = some (.ok (.ptu (ps.map pr)) h) := fun _ => rfl
  have sm : ∀ h, biK .sum [.lst ((zs.map fun z => z.2.1 - z.1.2).map T.int)] h = some (.ok (.int (climb ps)) h) := fun h => by
    rw [sum_ints, ← z2] <;> rfl
  have c2 := fun k x0 x1 x2 x3 h => rw_c2 k zs x0 x1 x2 x3 h
  generalize (ps.drop 1).map pr = D at ct zp
  simp -implicitDefEqProofs (disch := walk_at "dz") [f_Row_init, b_Row_init, startS, e_fbreak, f, fl1, fl2, fl3, at1, tt, cmK_ok lm, cmK_ok lz, rw_c1, c2, ct, zp, sm, endI_nx, -List.map_map]
  rfl
theorem e_radd_t (k : Nat) (ps : List (Int × Int)) (p : Int × Int) (hl : ps.length ≤ 999) (f : Fit (ps ++ [p])) (h : Hh) : callF P (run P wf (k + 90)) 74 [rw_ ps, tk p] [] h = some (.ok (rw_ (ps ++ [p])) h) := by
  refine (cf_open (d := f_Row_add) (bs := [rw_ ps, tk p]) rfl rfl).trans ?_
  have e := fun k h => e_row k (ps ++ [p]) (by rw [List.length_append, List.length_singleton]; omega) f h
  rw [List.map_append] at e
  have e2 : ∀ k h, makeC P (run P wf (k + 80)) 25 (ps.map tk ++ [tk p]) [] h = some (.ok (rw_ (ps ++ [p])) h) := e
  simp -implicitDefEqProofs (disch := walk_at "dz") [f_Row_add, b_Row_add, startS, e2]
theorem e_radd (k : Nat) (ps qs : List (Int × Int)) (hl : ps.length + qs.length ≤ 1000) (f : Fit (ps ++ qs)) (h : Hh) : callF P (run P wf (k + 90)) 74 [rw_ ps, rw_ qs] [] h = some (.ok (rw_ (ps ++ qs)) h) := by
  refine (cf_open (d := f_Row_add) (bs := [rw_ ps, rw_ qs]) rfl rfl).trans ?_
  have e := fun k h => e_row k (ps ++ qs) (by rw [List.length_append]; omega) f h
  rw [List.map_append] at e
  simp -implicitDefEqProofs (disch := walk_at "dz") [f_Row_add, b_Row_add, startS, e]
end LW
end
section
set_option Elab.async false
set_option linter.all false
set_option maxRecDepth 100000
set_option maxHeartbeats 1000000
namespace LW
open PySem Ev Ev.Q Ev.Mo
local macro_rules | `(tactic| walk_at "dz") => `(tactic| first | omega | rfl | (simp [range_len, Ev.big]; done) | (simp [range_len, Ev.big]; omega))
def eff (a : Int) (ps : List (Int × Int)) (b : Int) : Int := match ps.head?, ps.getLast? with
  | some p, some q => p.1 - a + climb ps + b - q.2
  | _, _ => b - a
/-- a trip -/
def trp (a : Int) (ps : List (Int × Int)) (b : Int) : T := .ins 29 [(74, .int a), (107, rw_ ps), (103, .int b), (100, .tup [.int a, .ptu (ps.map pr), .int b]), (170, .int (eff a ps b))]
structure TripOk (a : Int) (ps : List (Int × Int)) (b : Int) : Prop where
  a0 : 0 ≤ a
  a1 : a ≤ 30
  b0 : 0 ≤ b
  b1 : b ≤ 30
  fit : Fit ps
  hd : ∀ p ∈ ps.head?, a ≤ p.1
  la : ∀ p ∈ ps.getLast?, p.2 ≤ b
  em : ps = [] → a ≤ b
  len : ps.length ≤ 900
section
variable (r : Rec) (h : Hh) (a : Int) (ps : List (Int × Int)) (b : Int)
@[simp] theorem at_pst : attrT P r (trp a ps b) 74 h = some (.ok (.int a) h) := rfl
@[simp] theorem at_pky : attrT P r (trp a ps b) 100 h = some (.ok (.tup [.int a, .ptu (ps.map pr), .int b]) h) := rfl
@[simp] theorem at_pen : attrT P r (trp a ps b) 103 h = some (.ok (.int b) h) := rfl
@[simp] theorem at_prw : attrT P r (trp a ps b) 107 h = some (.ok (rw_ ps) h) := rfl
@[simp] theorem at_pef : attrT P r (trp a ps b) 170 h = some (.ok (.int (eff a ps b)) h) := rfl
@[simp] theorem at_pcl : attrT P r (trp a ps b) 49 h = noEx (callF P r 107 [trp a ps b] [] h) := rfl
@[simp] theorem at_pend : attrT P r (trp a ps b) 63 h = noEx (callF P r 108 [trp a ps b] [] h) := rfl
@[simp] theorem at_prow : attrT P r (trp a ps b) 154 h = noEx (callF P r 109 [trp a ps b] [] h) := rfl
@[simp] theorem at_pstart : attrT P r (trp a ps b) 166 h = noEx (callF P r 110 [trp a ps b] [] h) := rfl
@[simp] theorem isi_trp : isiK P (trp a ps b) (.cls 29) h = some (.ok (.bl true) h) := rfl
variable (k : Nat)
@[simp] theorem e_pcl : callF P (run P wf (k + 8)) 107 [trp a ps b] [] h = some (.ok (.int (eff a ps b)) h) := by
  refine (cf_open (d := f_Trip_climbed) (bs := [trp a ps b]) rfl rfl).trans ?_
  simp (disch := walk_at "dz") [f_Trip_climbed, b_Trip_climbed, startS]
@[simp] theorem e_pend : callF P (run P wf (k + 8)) 108 [trp a ps b] [] h = some (.ok (.int b) h) := by
  refine (cf_open (d := f_Trip_end) (bs := [trp a ps b]) rfl rfl).trans ?_
  simp (disch := walk_at "dz") [f_Trip_end, b_Trip_end, startS]
@[simp] theorem e_prow : callF P (run P wf (k + 8)) 109 [trp a ps b] [] h = some (.ok (rw_ ps) h) := by
  refine (cf_open (d := f_Trip_row) (bs := [trp a ps b]) rfl rfl).trans ?_
  simp (disch := walk_at "dz") [f_Trip_row, b_Trip_row, startS]
@[simp] theorem e_pstart : callF P (run P wf (k + 8)) 110 [trp a ps b] [] h = some (.ok (.int a) h) := by
  refine (cf_open (d := f_Trip_start) (bs := [trp a ps b]) rfl rfl).trans ?_
  simp (disch := walk_at "dz") [f_Trip_start, b_Trip_start, startS]
theorem e_plen : callF P (run P wf (k + 12)) 105 [trp a ps b] [] h = some (.ok (.int ps.length) h) := by
  refine (cf_open (d := f_Trip_len) (bs := [trp a ps b]) rfl rfl).trans ?_
  have ix : ∀ r h, ixE P r (.tup [.int a, .ptu (ps.map pr), .int b]) (.int 1) h = some (.ok (.ptu (ps.map pr)) h) := fun r h => ix_seq P r h (k := true) (l := [.int a, .ptu (ps.map pr), .int b]) rfl (ixT_nat (i := 1) rfl)
  simp (disch := walk_at "dz") [f_Trip_len, b_Trip_len, startS, ix]
theorem len_trp (hl : ps.length ≤ 1000) : lenE P (run P wf (k + 12)) (trp a ps b) h = some (.ok (.int ps.length) h) := lenE_own rfl (e_plen h a ps b k) (by omega) (by omega)
theorem e_ishgt (i : Int) (h0 : 0 ≤ i) (h1 : i ≤ 30) : callF P (run P wf (k + 50)) k_is_height [.int i] [] h = some (.ok (.bl true) h) := by
  refine (cf_open (d := f_is_height) (bs := [.int i]) rfl rfl).trans ?_
  simp (disch := walk_at "dz") [f_is_height, b_is_height, startS, e_isbet, h0, h1]
end
theorem e_trip (k : Nat) (a : Int) (ps : List (Int × Int)) (b : Int) (o : TripOk a ps b) (h : Hh) : makeC P (run P wf (k + 80)) 29 [.int a, rw_ ps, .int b] [] h = some (.ok (trp a ps b) h) := by
  refine (mk_open (k := c_Trip) (d := f_Trip_init) (bs := [.int a, rw_ ps, .int b]) rfl rfl rfl rfl rfl).trans ?_
  have a0 := o.a0
  have a1 := o.a1
  have b0 := o.b0
  have b1 := o.b1
  have ln := o.len
  have fs : ∀ h x, fsK P 0 [(0, 74), (0, 107), (0, 103)] [.self 29 [], .val (.int a), .val (rw_ ps), .val (.int b), x] [.int a, rw_ ps, .int b] h = some (Fl.nx [.self 29 [(74, .int a), (107, rw_ ps), (103, .int b)], .val (.int a), .val (rw_ ps), .val (.int b), x], h) := fun _ _ => rfl
  have fl1 : ∀ h x z, flK P 0 100 [.self 29 [(74, .int a), (107, rw_ ps), (103, .int b)], .val (.int a), .val (rw_ ps), .val (.int b), x] z h = some (Fl.nx [.self 29 [(74, .int a), (107, rw_ ps), (103, .int b), (100, z)], .val (.int a), .val (rw_ ps), .val (.int b), x], h) := fun _ _ _ => rfl
  have fl2 : ∀ h x y z, flK P 0 170 [.self 29 [(74, .int a), (107, rw_ ps), (103, .int b), (100, y)], .val (.int a), .val (rw_ ps), .val (.int b), x] z h = some (Fl.nx [.self 29 [(74, .int a), (107, rw_ ps), (103, .int b), (100, y), (170, z)], .val (.int a), .val (rw_ ps), .val (.int b), x], h) := fun _ _ _ _ => rfl
  cases ps with
  | nil =>
    have ab : decide (b < a) = false := decide_eq_false (by have := o.em rfl; omega)
    have l0 := fun k h => len_rw k [] (Nat.zero_le _) h
    simp -implicitDefEqProofs (disch := walk_at "dz") [f_Trip_init, b_Trip_init, b_Trip_init_f1, startS, f_cons, e_ishgt, a0, a1, b0, b1, l0, fs, fl1, fl2, ab, endI_nx]
    rfl
  | cons p ps =>
    have hp : decide (p.1 < a) = false := decide_eq_false (by have := o.hd p rfl; omega)
    obtain ⟨q, hq⟩ : ∃ q, (p :: ps).getLast? = some q := ⟨_, List.getLast?_eq_some_getLast (by simp)⟩
    have hb : decide (b < q.2) = false := decide_eq_false (by have := o.la q hq; omega)
    obtain ⟨n, hn, hn0⟩ : ∃ n : Int, (((p :: ps).length : Nat) : Int) = n ∧ 0 < n := ⟨_, rfl, by rw [List.length_cons]; omega⟩
    have l0 := fun k h => len_rw k (p :: ps) (by omega) h
    rw [hn] at l0
    have c0 : decide (0 < n) = true := decide_eq_true hn0
    have bg := fun k h => e_rbegin k p ps h
    have en := fun k h => e_rend k (p :: ps) q hq h
    have ef : eff a (p :: ps) b = p.1 - a + climb (p :: ps) + b - q.2 := by
      unfold eff
      rw [hq] <;> rfl
    unfold trp
    rw [ef]
    generalize p :: ps = w at *
    simp -implicitDefEqProofs (disch := walk_at "dz") [f_Trip_init, b_Trip_init, b_Trip_init_f1, startS, f_cons, e_ishgt, a0, a1, b0, b1, l0, c0, bg, en, hp, hb, fs, fl1, fl2, endI_nx]
theorem TripOk.join {a b c d : Int} {ps qs : List (Int × Int)} (o : TripOk a ps b) (q : TripOk c qs d) (hl : ps.length + qs.length ≤ 900) (hbc : b ≤ c) : TripOk a (ps ++ qs) d where
  a0 := o.a0
  a1 := o.a1
  b0 := q.b0
  b1 := q.b1
  fit := o.fit.app q.fit fun p hp r hr => by
    have := o.la p hp
    have := q.hd r hr
    omega
  hd := fun p hp => by
    cases ps with
    | nil =>
      have := o.em rfl
      have := q.hd p hp
      omega
    | cons x xs => exact o.hd p hp
  la := fun p hp => by
    rw [List.getLast?_append] at hp
    cases hq : qs.getLast? with
    | some r =>
      rw [hq] at hp
      exact q.la p (by rw [hq]; exact hp)
    | none =>
      rw [hq] at hp
      have := o.la p hp
      have := q.em (List.getLast?_eq_none_iff.mp hq)
      omega
  em := fun e => by
    obtain ⟨e1, e2⟩ := List.append_eq_nil_iff.mp e
    have := o.em e1
    have := q.em e2
    omega
  len := by rw [List.length_append]; omega
theorem eff_cons {a b : Int} {ps : List (Int × Int)} {p q : Int × Int} (h1 : ps.head? = some p) (h2 : ps.getLast? = some q) : eff a ps b = p.1 - a + climb ps + b - q.2 := by
  unfold eff
  rw [h1, h2]
theorem eff_app (a b c d : Int) (ps qs : List (Int × Int)) : eff a (ps ++ qs) d = eff a ps b + eff c qs d + c - b := by
  cases qs with
  | nil =>
    rw [List.append_nil]
    have e : eff c [] d = d - c := rfl
    rw [e]
    cases ps with
    | nil =>
      show d - a = b - a + (d - c) + c - b
      omega
    | cons p ps =>
      obtain ⟨q, hq⟩ : ∃ q, (p :: ps).getLast? = some q := ⟨_, List.getLast?_eq_some_getLast (by simp)⟩
      rw [eff_cons rfl hq, eff_cons rfl hq]
      omega
  | cons y qs =>
    obtain ⟨q, hq⟩ : ∃ q, (y :: qs).getLast? = some q := ⟨_, List.getLast?_eq_some_getLast (by simp)⟩
    cases ps with
    | nil =>
      show eff a (y :: qs) d = b - a + eff c (y :: qs) d + c - b
      rw [eff_cons rfl hq, eff_cons rfl hq]
      omega
    | cons p ps =>
      obtain ⟨z, hz⟩ : ∃ q, (p :: ps).getLast? = some q := ⟨_, List.getLast?_eq_some_getLast (by simp)⟩
      have hqq : (p :: ps ++ y :: qs).getLast? = some q := by rw [List.getLast?_append, hq] <;> rfl
      obtain ⟨l, hl⟩ := List.getLast?_eq_some_iff.mp hz
      have cl : climb (p :: ps ++ y :: qs) = climb (p :: ps) + (y.1 - z.2) + climb (y :: qs) := by
        rw [hl]
        exact climb_app l qs z y
      rw [eff_cons (ps := p :: ps ++ y :: qs) rfl hqq, eff_cons rfl hz, eff_cons rfl hq, cl]
      omega
theorem add_trp (k : Nat) (a b c d : Int) (ps qs : List (Int × Int)) (h : Hh) : binE P (run P wf k) .add (trp a ps b) (trp c qs d) h = callF P (run P wf k) 100 [trp a ps b, trp c qs d] [] h := rfl
theorem e_padd (k : Nat) (a b c d : Int) (ps qs : List (Int × Int)) (o : TripOk a ps b) (q : TripOk c qs d) (hl : ps.length + qs.length ≤ 900) (hbc : b ≤ c) (h : Hh) : callF P (run P wf (k + 120)) 100 [trp a ps b, trp c qs d] [] h = some (.ok (trp a (ps ++ qs) d) h) := by
  refine (cf_open (d := f_Trip_add) (bs := [trp a ps b, trp c qs d]) rfl rfl).trans ?_
  have j := o.join q hl hbc
  have cb : decide (c < b) = false := decide_eq_false (by omega)
  have ad := fun k h => e_radd k ps qs (by omega) j.fit h
  have mk := fun k h => e_trip k a (ps ++ qs) d j h
  simp -implicitDefEqProofs (disch := walk_at "dz") [f_Trip_add, b_Trip_add, startS, cb, add_rw, ad, mk]
theorem e_padd_x (k : Nat) (a b c d : Int) (ps qs : List (Int × Int)) (hbc : c < b) (h : Hh) : callF P (run P wf (k + 120)) 100 [trp a ps b, trp c qs d] [] h = some (.ex 12 [(141, .str "join")] h) := by
  refine (cf_open (d := f_Trip_add) (bs := [trp a ps b, trp c qs d]) rfl rfl).trans ?_
  have cb : decide (c < b) = true := decide_eq_true hbc
  have ra : ∀ r σ h, raX r σ h [CE.con (.str "join")] 12 (some x_InvalidTrip) = So.of σ (evArgs r σ [CE.con (.str "join")] h) (raF 12 x_InvalidTrip σ) := fun r σ h => raX_some r σ h _ _ _ rfl
  have rf : ∀ σ h, raF 12 x_InvalidTrip σ [.str "join"] h = some (.ex 12 [(141, .str "join")] σ, h) := fun _ _ => rfl
  simp -implicitDefEqProofs (disch := walk_at "dz") [f_Trip_add, b_Trip_add, startS, cb, ra, rf]
theorem e_peq (k : Nat) (a b : Int) (ps : List (Int × Int)) (h : Hh) : cmpE P (run P wf (k + 20)) .eq (trp a ps b) (trp a ps b) h = some (.ok true h) := by
  show (if okY P h (trp a ps b) then asB (callF P (run P wf (k + 20)) 103 [trp a ps b, trp a ps b] [] h) else none) = _
  rw [show okY P h (trp a ps b) = true from rfl, if_pos rfl]
  have e : callF P (run P wf (k + 20)) 103 [trp a ps b, trp a ps b] [] h = some (.ok (.bl true) h) := by
    refine (cf_open (d := f_Trip_eq) (bs := [trp a ps b, trp a ps b]) rfl rfl).trans ?_
    have eq : ∀ r h, cmpE P r .eq (.tup [.int a, .ptu (ps.map pr), .int b]) (.tup [.int a, .ptu (ps.map pr), .int b]) h = some (.ok true h) := fun r h => eq_same P r h rfl (by
      show (true && (okDs 6 (ps.map pr) && (true && true))) = true
      rw [okDs_prs] <;> rfl)
    simp -implicitDefEqProofs (disch := walk_at "dz") [f_Trip_eq, b_Trip_eq, startS, eq]
  rw [e] <;> rfl
end LW
end
section
set_option Elab.async false
set_option linter.all false
set_option maxRecDepth 100000
set_option maxHeartbeats 1000000
namespace LW
open PySem Ev Ev.Q Ev.Mo
local macro_rules | `(tactic| walk_at "dz") => `(tactic| first | omega | rfl | (simp [range_len, Ev.big]; done) | (simp [range_len, Ev.big]; omega))
/-- drawn pairs between two heights -/
def Pin (lo hi : Int) (ps : List (Int × Int)) : Prop := ∀ p ∈ ps, lo ≤ p.1 ∧ p.1 ≤ hi ∧ lo ≤ p.2 ∧ p.2 ≤ hi
theorem path_turn (k : Nat) (s : DS) (lo hi many here j : Int) (fd : List T) (x6 x7 : SV) (rest : Hh) (N : Nat) (o : s.ok N) (hN : N < 2 ^ 49) (h0 : 0 ≤ lo) (h1 : lo ≤ here) (h2 : here ≤ hi) (h3 : hi ≤ 30) (hf : fd.length ≤ 1000) :
    ∃ (here' there : Int) (s' : DS), s'.ok (N + 3) ∧ here ≤ here' ∧ here' ≤ hi ∧ lo ≤ there ∧ there ≤ hi ∧
      (run P wf (k + 58)).ss [.val (.ref pre.length), .val (.int lo), .val (.int hi), .val (.int many), .own fd, .val (.int here), .val (.int j), x7] b_law_path_f1 (hS pre s rest) =
      some (Fl.nx [.val (.ref pre.length), .val (.int lo), .val (.int hi), .val (.int many), .own (fd ++ [.tup [.int here', .int there]]), .val (.int there), .val (.int j), .val (.int there)], hS pre s' rest) := by
  have fb : fd.length < big := by unfold big; omega
  obtain ⟨v1, s1, e1, a1, b1, o1⟩ := e_draw s 4 rest N o (by omega) (by omega) (by omega)
  by_cases hv : v1 = 0
  · subst hv
    obtain ⟨v2, s2, e2, a2, b2, o2⟩ := e_draw s1 (hi - here + 1) rest _ o1 (by omega) (by omega) (by omega)
    obtain ⟨v3, s3, e3, a3, b3, o3⟩ := e_draw s2 (hi - lo + 1) rest _ o2 (by omega) (by omega) (by omega)
    refine ⟨here + v2, lo + v3, s3, o3.mono (by omega), by omega, by omega, by omega, by omega, ?_⟩
    simp (disch := walk_at "dz") [b_law_path_f1, e1, e2, e3, appK_ok fb]
  · obtain ⟨v3, s3, e3, a3, b3, o3⟩ := e_draw s1 (hi - lo + 1) rest _ o1 (by omega) (by omega) (by omega)
    refine ⟨here, lo + v3, s3, o3.mono (by omega), by omega, by omega, by omega, by omega, ?_⟩
    simp (disch := walk_at "dz") [b_law_path_f1, e1, e3, beq_eq_false_iff_ne.mpr hv, appK_ok fb]
theorem e_path (s : DS) (lo hi many : Int) (rest : Hh) (N : Nat) (o : s.ok N) (hN : N < 2 ^ 48) (h0 : 0 ≤ lo) (h1 : lo ≤ hi) (h2 : hi ≤ 30) (h3 : 0 ≤ many) (h4 : many ≤ 100) :
    ∃ ps s', (∀ k, callF P (run P wf (k + 60)) k_law_path [.ref pre.length, .int lo, .int hi, .int many] [] (hS pre s rest) = some (.ok (.lst (ps.map pr)) (hS pre s' rest))) ∧ ps.length = many.toNat ∧ Pin lo hi ps ∧ Fit ps ∧ s'.ok (N + 400) := by
  suffices H : ∀ k, ∃ ps s', callF P (run P wf (k + 60)) k_law_path [.ref pre.length, .int lo, .int hi, .int many] [] (hS pre s rest) = some (.ok (.lst (ps.map pr)) (hS pre s' rest)) ∧ ps.length = many.toNat ∧ Pin lo hi ps ∧ Fit ps ∧ s'.ok (N + 400) by
    obtain ⟨l', s', e, q⟩ := H 0
    exact ⟨l', s', up e, q⟩
  intro k
  obtain ⟨v1, s1, e1, a1, b1, o1⟩ := e_draw s (hi - lo + 1) rest N o (by omega) (by omega) (by omega)
  have lp : ∃ (σ' : Sl) (h' : Hh), forL (.nm 6) b_law_path_f1 (run P wf (k + 58)).ss (rangeL 0 many.toNat) [.val (.ref pre.length), .val (.int lo), .val (.int hi), .val (.int many), .own [], .val (.int (lo + v1)), .no, .no] (hS pre s1 rest) = some (Fl.nx σ', h') ∧
      ∃ (ps : List (Int × Int)) (here : Int) (s : DS) (x6 x7 : SV), σ' = [.val (.ref pre.length), .val (.int lo), .val (.int hi), .val (.int many), .own (ps.map pr), .val (.int here), x6, x7] ∧ h' = hS pre s rest ∧ s.ok (N + 1 + 3 * many.toNat) ∧ ps.length = many.toNat ∧ Pin lo hi ps ∧ Fit ps := by
    have := for_inv (tg := .nm 6) (b := b_law_path_f1) (ss := (run P wf (k + 58)).ss) (I := fun r σ h => ∃ (ps : List (Int × Int)) (here : Int) (s : DS) (x6 x7 : SV), σ = [.val (.ref pre.length), .val (.int lo), .val (.int hi), .val (.int many), .own (ps.map pr), .val (.int here), x6, x7] ∧ h = hS pre s rest ∧ s.ok (N + 1 + 3 * ps.length) ∧ ps.length + r.length = many.toNat ∧ Pin lo hi ps ∧ Fit ps ∧ (∀ p ∈ ps.getLast?, p.2 ≤ here) ∧ lo ≤ here ∧ here ≤ hi)
      (rangeL 0 many.toNat) [.val (.ref pre.length), .val (.int lo), .val (.int hi), .val (.int many), .own [], .val (.int (lo + v1)), .no, .no] (hS pre s1 rest) ⟨[], lo + v1, s1, .no, .no, rfl, rfl, o1, by rw [range_len]; exact Nat.zero_add _, (fun p q => (List.not_mem_nil q).elim), trivial, (fun p q => by simp at q), by omega, by omega⟩ ?_
    · obtain ⟨σ', h', e, ps, here, s, x6, x7, rfl, rfl, o, len, pl, ft, q⟩ := this
      rw [List.length_nil, Nat.add_zero] at len
      exact ⟨_, _, e, ps, here, s, x6, x7, rfl, rfl, by rw [← len]; exact o, len, pl, ft⟩
    · rintro t r σ h hsuf ⟨ps, here, s2, x6, x7, rfl, rfl, o, len, pl, ft, la, l1, l2⟩
      rw [List.length_cons] at len
      obtain ⟨j, rfl, _⟩ := range_mem (hsuf.subset List.mem_cons_self)
      obtain ⟨here', there, s3, o3, c1, c2, c3, c4, e3⟩ := path_turn k s2 lo hi many here j (ps.map pr) x6 x7 rest _ o (by omega) h0 l1 l2 h2 (by rw [List.length_map]; omega)
      refine ⟨_, _, _, rfl, e3, ps ++ [(here', there)], there, s3, _, _, by rw [List.map_append]; rfl, rfl, o3.mono ?_, ?_, ?_, ft.app trivial ?_, ?_, c3, c4⟩
      · rw [List.length_append, List.length_singleton]; omega
      · rw [List.length_append, List.length_singleton]; omega
      · intro p hp
        rcases List.mem_append.mp hp with hp | hp
        · exact pl p hp
        · rw [List.mem_singleton.mp hp]
          exact ⟨by dsimp only; omega, c2, c3, c4⟩
      · intro p hp q hq
        have := la p hp
        rw [List.head?_cons, Option.mem_some_iff] at hq
        subst hq
        dsimp only
        omega
      · intro p hp
        rw [List.getLast?_concat, Option.mem_some_iff] at hp
        subst hp
        exact Int.le_refl _
  obtain ⟨σ1, h1, e2, ps, here, s2, x6, x7, rfl, rfl, o2, len, pl, ft⟩ := lp
  refine ⟨ps, s2, (cf_open (d := f_law_path) (bs := [.ref pre.length, .int lo, .int hi, .int many]) rfl rfl).trans ?_, len, pl, ft, o2.mono (by omega)⟩
  simp (disch := walk_at "dz") [f_law_path, b_law_path, startS, e1, e2, rgK_1]
end LW
end
section
set_option Elab.async false
set_option linter.all false
set_option maxRecDepth 100000
set_option maxHeartbeats 1000000
namespace LW
open PySem Ev Ev.Q Ev.Mo
local macro_rules | `(tactic| walk_at "dz") => `(tactic| first | omega | rfl | (simp [range_len, Ev.big]; done) | (simp [range_len, Ev.big]; omega))
theorem try_s (r : Rec) (σ : Sl) (b hb : List CS) (o : Option Nat) (h : Hh) : evS P r wf σ (.try_ b [([5], o, hb)]) h = tryK P r [([5], o, hb)] (r.ss σ b h) := s_try P r wf σ h b _ (tryOk_1 P (xcOf_some P gl5 xc1))
theorem told_ok (k : Nat) {b : CE} {σ : Sl} {h h' : Hh} {v : T} (e : (run P wf (k + 100)).e σ b h = some (.ok v h')) : (run P wf (k + 105)).lcall k_law_told b σ h = some (.ok (.lst [v]) h') := by
  refine (lc_open (n := k + 103) (d := f_law_told) rfl rfl).trans ?_
  have e : (run P wf (k + 99 + 1)).e σ b h = some (.ok v h') := e
  simp -implicitDefEqProofs (disch := walk_at "dz") [f_law_told, b_law_told, List.replicate, try_s, -run_e, run_e _ _ (k + 102), run_e _ _ (k + 101), run_e _ _ (k + 100), e]
theorem told_ex (k : Nat) {b : CE} {σ : Sl} {h h' : Hh} {c : Nat} {fs : List (Nat × T)} {kx : XcD} {w : T} (e : (run P wf (k + 100)).e σ b h = some (.ex c fs h')) (hc : P.xc c = some kx) (hs : P.isSubX c 1 = true)
    (ec : ∀ k h, callF P (run P wf (k + 60)) k_law_class [.exc c fs] [] h = some (.ok w h)) : (run P wf (k + 105)).lcall k_law_told b σ h = some (.ok w h') := by
  refine (lc_open (n := k + 103) (d := f_law_told) rfl rfl).trans ?_
  have e : (run P wf (k + 99 + 1)).e σ b h = some (.ex c fs h') := e
  have tx : ∀ r σ h o, tryK P r [([5], some 3, o)] (some (.ex c fs σ, h)) = trW 3 (r.ss (σ.set 3 (.val (.exc c fs))) o h) := fun r σ h o => try_exW P r σ h hc (xcOf_some P gl5 xc1) hs
  simp -implicitDefEqProofs (disch := walk_at "dz") [f_law_told, b_law_told, List.replicate, try_s, -run_e, run_e _ _ (k + 102), run_e _ _ (k + 101), run_e _ _ (k + 100), e, tx, ec]
/-- an exception's class and one field as a tuple: the classes of _law_class -/
theorem cls_trip (k : Nat) (t : T) (h : Hh) : callF P (run P wf (k + 60)) k_law_class [.exc 12 [(141, t)]] [] h = some (.ok (.tup [.str "InvalidTrip", t]) h) := by
  refine (cf_open (d := f_law_class) (bs := [.exc 12 [(141, t)]]) rfl rfl).trans ?_
  have i7 : ∀ h, isiK P (.exc 12 [(141, t)]) (.cls 7) h = some (.ok (.bl false) h) := fun _ => rfl
  have i9 : ∀ h, isiK P (.exc 12 [(141, t)]) (.cls 9) h = some (.ok (.bl false) h) := fun _ => rfl
  have i11 : ∀ h, isiK P (.exc 12 [(141, t)]) (.cls 11) h = some (.ok (.bl false) h) := fun _ => rfl
  have i12 : ∀ h, isiK P (.exc 12 [(141, t)]) (.cls 12) h = some (.ok (.bl true) h) := fun _ => rfl
  have a : ∀ r h, attrT P r (.exc 12 [(141, t)]) 141 h = some (.ok t h) := fun _ _ => rfl
  simp -implicitDefEqProofs (disch := walk_at "dz") [f_law_class, b_law_class, startS, i7, i9, i11, i12, a, -attr_exc]
end LW
end
section
set_option Elab.async false
set_option linter.all false
set_option maxRecDepth 100000
set_option maxHeartbeats 1000000
namespace LW
open PySem Ev Ev.Q Ev.Mo
local macro_rules | `(tactic| walk_at "dz") => `(tactic| first | omega | rfl | (simp [range_len, Ev.big]; done) | (simp [range_len, Ev.big]; omega))
theorem Fit.left : ∀ {ps qs : List (Int × Int)}, Fit (ps ++ qs) → Fit ps
  | [], _, _ => trivial
  | [p], _, _ => trivial
  | p :: q :: r, qs, f => ⟨f.1, Fit.left (ps := q :: r) f.2⟩
/-- _law_row -/
theorem e_lrow (k : Nat) (ps : List (Int × Int)) (hl : ps.length ≤ 900) (f : Fit ps) (b : ∀ p ∈ ps, 0 ≤ p.1 ∧ p.1 ≤ 30 ∧ 0 ≤ p.2 ∧ p.2 ≤ 30) (h : Hh) : callF P (run P wf (k + 110)) k_law_row [.lst (ps.map pr)] [] h = some (.ok (rw_ ps) h) := by
  obtain ⟨σ1, h1, e1, dn, x2, x3, hd, rfl, rfl⟩ := for_inv (tg := .tup [2, 3]) (b := b_law_row_f1) (ss := (run P wf (k + 108)).ss)
    (I := fun r σ h' => ∃ (dn : List (Int × Int)) (x2 x3 : SV), dn.map pr ++ r = ps.map pr ∧ σ = [.val (.lst (ps.map pr)), .val (rw_ dn), x2, x3] ∧ h' = h) (ps.map pr) [.val (.lst (ps.map pr)), .val (rw_ []), .no, .no] h
    ⟨[], _, _, rfl, rfl, rfl⟩ (by
      rintro t r σ h' hs ⟨dn, x2, x3, hd, rfl, rfl⟩
      obtain ⟨p, hp, rfl⟩ := List.mem_map.mp (hs.subset List.mem_cons_self)
      obtain ⟨b0, b1, b2, b3⟩ := b p hp
      have inj : ∀ {x y : Int × Int}, pr x = pr y → x = y := fun {x y} e => by
        obtain ⟨x1, x2⟩ := x
        obtain ⟨y1, y2⟩ := y
        cases e
        rfl
      obtain ⟨u, w, hw, hu, ht⟩ := List.map_eq_append_iff.mp hd.symm
      obtain ⟨q, w', rfl, hq, hr⟩ := List.map_eq_cons_iff.mp ht
      have : u = dn := List.map_inj_right (fun _ _ => inj) |>.mp hu
      subst this
      have := inj hq
      subst this
      have fq : Fit (u ++ [q]) := Fit.left (qs := w') (by rw [List.append_assoc]; rw [hw] at f; exact f)
      have lu : u.length ≤ 900 := by rw [hw, List.length_append] at hl; omega
      have ad := fun k h => e_radd_t k u q (by omega) fq h
      have tkt := fun k h => e_ticket k q.1 q.2 h b0 b1 b2 b3
      refine ⟨_, _, _, rfl, ?_, u ++ [q], .val (.int q.1), .val (.int q.2), by rw [List.map_append, List.append_assoc]; exact hd, rfl, rfl⟩
      simp -implicitDefEqProofs (disch := walk_at "dz") [b_law_row_f1, pr, tkt, add_rwt, ad])
  rw [List.append_nil] at hd
  have inj : ∀ {x y : Int × Int}, pr x = pr y → x = y := fun {x y} e => by
    obtain ⟨x1, x2⟩ := x
    obtain ⟨y1, y2⟩ := y
    cases e
    rfl
  have : dn = ps := List.map_inj_right (fun _ _ => inj) |>.mp hd
  subst this
  refine (cf_open (d := f_law_row) (bs := [.lst (dn.map pr)]) rfl rfl).trans ?_
  have e0 := fun k h => e_row k [] (by decide) trivial h
  rw [List.map_nil] at e0
  simp -implicitDefEqProofs (disch := walk_at "dz") [f_law_row, b_law_row, startS, e0, e1]
/-- _law_written of a row -/
theorem e_lwr (k : Nat) (ps : List (Int × Int)) (hl : ps.length ≤ 1000) (h : Hh) : callF P (run P wf (k + 30)) k_law_written [rw_ ps] [] h = some (.ok (.lst (ps.map pr)) h) := by
  refine (cf_open (d := f_law_written) (bs := [rw_ ps]) rfl rfl).trans ?_
  have lm : (ps.map tk).length ≤ big := by rw [List.length_map]; unfold big; omega
  have c : ∀ k x0 h, compL (.nm 1) (cmI P (run P wf (k + 20)) []) (cmE (run P wf (k + 20)) (.tup [.attr (.var 1) 198, .attr (.var 1) 199])) [x0, .no] (ps.map tk) h = some (.ok (ps.map pr) h) := fun k x0 h => by
    rw [map_comp (f := fun t => match t with | .ins _ [(_, a), (_, b)] => .tup [a, b] | t => t) (fun t => [x0, .val t]) fun t ht => ?_]
    · rw [List.map_map] <;> rfl
    · obtain ⟨p, _, rfl⟩ := List.mem_map.mp ht
      refine ⟨rfl, ?_⟩
      simp (disch := walk_at "dz")
      rfl
  simp -implicitDefEqProofs (disch := walk_at "dz") [f_law_written, b_law_written, startS, cmK_ok lm, c]
end LW
end
section
set_option Elab.async false
set_option linter.all false
set_option maxRecDepth 100000
set_option maxHeartbeats 1000000
namespace LW
open PySem Ev Ev.Q Ev.Mo
local macro_rules | `(tactic| walk_at "dz") => `(tactic| first | omega | rfl | (simp [range_len, Ev.big]; done) | (simp [range_len, Ev.big]; omega))
theorem bi_max (a b : Int) (h : Hh) : biK .max [.int a, .int b] h = some (.ok (.int (if a < b then b else a)) h) := rfl
theorem bi_min (a b : Int) (h : Hh) : biK .min [.int a, .int b] h = some (.ok (.int (if b < a then b else a)) h) := rfl
def lt_st1 : CS := .set (.nm 1) (.ife (.cmp .gt (.call (.glob 172) [.var 0, .con (.int 6)] []) (.con (.int 0))) (.var 1) (.call (.glob 85) [.con (.int 0), .bin .sub (.bin .sub (.var 1) (.con (.int 1))) (.call (.glob 172) [.var 0, .con (.int 5)] [])] []))
theorem lt_rest (s : DS) (a : Int) (rest : Hh) (N : Nat) (o : s.ok N) (hN : N < 2 ^ 40) (a0 : 0 ≤ a) (a1 : a ≤ 30) :
    ∃ ps b s', (∀ k, evSs P (run P wf (k + 128)) wf [.val (.ref pre.length), .val (.int a), .no, .no] (b_law_trip.drop 1) (hS pre s rest) = some (Fl.rt (trp a ps b), hS pre s' rest)) ∧ TripOk a ps b ∧ ps.length ≤ 3 ∧ s'.ok (N + 410) := by
  obtain ⟨v3, s3, e3, c3, d3, o3⟩ := e_draw s 9 rest N o (by omega) (by omega) (by omega)
  obtain ⟨v4, s4, e4, c4, d4, o4⟩ := e_draw s3 4 rest _ o3 (by omega) (by omega) (by omega)
  obtain ⟨hi, hhi⟩ : ∃ hi : Int, (if a + 1 + v3 < 30 then a + 1 + v3 else 30) = hi := ⟨_, rfl⟩
  have hi1 : a ≤ hi ∧ hi ≤ 30 := by
    rw [← hhi]
    split <;> omega
  obtain ⟨ps, s5, e5, len, pin, fit, o5⟩ := e_path s4 a hi v4 rest _ o4 (by omega) a0 hi1.1 hi1.2 c4 (by omega)
  have lr := fun k h => e_lrow k ps (by omega) fit (fun p hp => by have := pin p hp; omega) h
  have mn : ∀ h, biK .min [.int 30, .int (a + 1 + v3)] h = some (.ok (.int hi) h) := fun h => by rw [bi_min, hhi]
  cases hq : ps.getLast? with
  | none =>
    have e : ps = [] := List.getLast?_eq_none_iff.mp hq
    subst e
    obtain ⟨m, hm⟩ : ∃ m : Int, (if 31 - a < 3 then 31 - a else 3) = m := ⟨_, rfl⟩
    have hm1 : 0 < m ∧ m ≤ 31 - a := by
      rw [← hm]
      split <;> omega
    obtain ⟨v6, s6, e6, c6, d6, o6⟩ := e_draw s5 m rest _ o5 (by omega) (by omega) (by omega)
    have tok : TripOk a [] (a + v6) := ⟨a0, a1, by omega, by omega, trivial, fun p hp => by simp at hp, fun p hp => by simp at hp, fun _ => by omega, by simp⟩
    have mk := fun k h => e_trip k a [] (a + v6) tok h
    have m3 : ∀ h, biK .min [.int 3, .int (31 - a)] h = some (.ok (.int m) h) := fun h => by rw [bi_min, hm]
    have nn : ∀ r h, cmpE P r .ne (.lst []) (.lst []) h = some (.ok false h) := fun r h => ne_prl P r h []
    refine ⟨[], a + v6, s6, fun k => ?_, tok, by simp, o6.mono (by omega)⟩
    rw [List.map_nil] at e5 lr
    simp -implicitDefEqProofs (disch := walk_at "dz") [b_law_trip, e3, e4, mn, e5, nn, lr, m3, e6, mk]
  | some q =>
    have hqm : q ∈ ps := List.mem_of_getLast? hq
    have qin := pin q hqm
    obtain ⟨m, hm⟩ : ∃ m : Int, (if 31 - q.2 < 3 then 31 - q.2 else 3) = m := ⟨_, rfl⟩
    have hm1 : 0 < m ∧ m ≤ 31 - q.2 := by
      rw [← hm]
      split <;> omega
    obtain ⟨v6, s6, e6, c6, d6, o6⟩ := e_draw s5 m rest _ o5 (by omega) (by omega) (by omega)
    have tok : TripOk a ps (q.2 + v6) := ⟨a0, a1, by omega, by omega, fit, fun p hp => (pin p (List.mem_of_mem_head? hp)).1, fun p hp => by
      rw [hq, Option.mem_some_iff] at hp
      subst hp
      omega, fun e => by rw [e] at hq; simp at hq, by omega⟩
    have mk := fun k h => e_trip k a ps (q.2 + v6) tok h
    have m3 : ∀ h, biK .min [.int 3, .int (31 - q.2)] h = some (.ok (.int m) h) := fun h => by rw [bi_min, hm]
    have ne : ps.isEmpty = false := by cases ps <;> first | rfl | cases hq
    have ix : ∀ r h, ixE P r (.lst (ps.map pr)) (.int (-1)) h = some (.ok (pr q) h) := fun r h => ix_last P r h (k := false) rfl (by rw [List.getLast?_map, hq] <;> rfl)
    refine ⟨ps, q.2 + v6, s6, fun k => ?_, tok, by omega, o6.mono (by omega)⟩
    simp -implicitDefEqProofs (disch := walk_at "dz") [b_law_trip, e3, e4, mn, e5, ne_prl, ne, ix, lr, m3, e6, mk]
theorem e_ltrip (s : DS) (foot : Int) (rest : Hh) (N : Nat) (o : s.ok N) (hN : N < 2 ^ 39) (f0 : 0 ≤ foot) (f1 : foot ≤ 30) :
    ∃ a ps b s', (∀ k, callF P (run P wf (k + 130)) k_law_trip [.ref pre.length, .int foot] [] (hS pre s rest) = some (.ok (trp a ps b) (hS pre s' rest))) ∧ TripOk a ps b ∧ ps.length ≤ 3 ∧ s'.ok (N + 420) := by
  obtain ⟨v1, s1, e1, c1, d1, o1⟩ := e_draw s 6 rest N o (by omega) (by omega) (by omega)
  by_cases hv : 0 < v1
  · obtain ⟨ps, b, s', er, tok, len, o'⟩ := lt_rest s1 foot rest _ o1 (by omega) f0 f1
    refine ⟨foot, ps, b, s', fun k => (cf_open (d := f_law_trip) (bs := [.ref pre.length, .int foot]) rfl rfl).trans ?_, tok, len, o'.mono (by omega)⟩
    rw [show f_law_trip.body = lt_st1 :: b_law_trip.drop 1 from rfl]
    generalize b_law_trip.drop 1 = R at er
    simp -implicitDefEqProofs (disch := walk_at "dz") [lt_st1, f_law_trip, startS, e1, hv, er]
  · obtain ⟨v2, s2, e2, c2, d2, o2⟩ := e_draw s1 5 rest _ o1 (by omega) (by omega) (by omega)
    obtain ⟨a, ha⟩ : ∃ a : Int, (if 0 < foot - 1 - v2 then foot - 1 - v2 else 0) = a := ⟨_, rfl⟩
    have a1 : 0 ≤ a ∧ a ≤ 30 := by
      rw [← ha]
      split <;> omega
    obtain ⟨ps, b, s', er, tok, len, o'⟩ := lt_rest s2 a rest _ o2 (by omega) a1.1 a1.2
    refine ⟨a, ps, b, s', fun k => (cf_open (d := f_law_trip) (bs := [.ref pre.length, .int foot]) rfl rfl).trans ?_, tok, len, o'.mono (by omega)⟩
    rw [show f_law_trip.body = lt_st1 :: b_law_trip.drop 1 from rfl]
    generalize b_law_trip.drop 1 = R at er
    have mx : ∀ h, biK .max [.int 0, .int (foot - 1 - v2)] h = some (.ok (.int a) h) := fun h => by rw [bi_max, ha]
    simp -implicitDefEqProofs (disch := walk_at "dz") [lt_st1, f_law_trip, startS, e1, hv, e2, mx, er]
end LW
end
section
set_option Elab.async false
set_option linter.all false
set_option maxRecDepth 100000
set_option maxHeartbeats 1000000
namespace LW
open PySem Ev Ev.Q Ev.Mo
local macro_rules | `(tactic| walk_at "dz") => `(tactic| first | omega | rfl | (simp [range_len, Ev.big]; done) | (simp [range_len, Ev.big]; omega))
theorem e_sum (k : Nat) (a b c d : Int) (ps qs : List (Int × Int)) (o : TripOk a ps b) (q : TripOk c qs d) (hl : ps.length + qs.length ≤ 900) (s : DS) (rest : Hh) :
    callF P (run P wf (k + 200)) k_law_sum_right [trp a ps b, trp c qs d] [] (hS pre s rest) = some (.ok (.bl true) (hS pre s rest)) := by
  refine (cf_open (d := f_law_sum_right) (bs := [trp a ps b, trp c qs d]) rfl rfl).trans ?_
  have t0 : tbA (hS pre s rest) 0 = some (.tab 0) := pre_tab (by decide) s rest
  by_cases hcb : c < b
  · have tl : ∀ k, (run P wf (k + 145)).lcall k_law_told (.bin .add (.var 0) (.var 1)) [.val (trp a ps b), .val (trp c qs d), .no, .no] (hS pre s rest) = some (.ok (.tup [.str "InvalidTrip", .str "join"]) (hS pre s rest)) := fun k => by
      refine told_ex (k + 40) (c := 12) (fs := [(141, .str "join")]) (kx := x_InvalidTrip) ?_ rfl rfl fun k h => cls_trip k _ h
      simp -implicitDefEqProofs (disch := walk_at "dz") [add_trp, e_padd_x _ _ _ _ _ _ _ hcb]
    have c1 : decide (c < b) = true := decide_eq_true hcb
    have eq : ∀ r h, cmpE P r .eq (.tup [.str "InvalidTrip", .str "join"]) (.tup [.str "InvalidTrip", .str "join"]) h = some (.ok true h) := fun r h => eq_same P r h rfl rfl
    simp -implicitDefEqProofs (disch := walk_at "dz") [f_law_sum_right, b_law_sum_right, startS, t0, tl, c1, eq]
  · have tl : ∀ k, (run P wf (k + 145)).lcall k_law_told (.bin .add (.var 0) (.var 1)) [.val (trp a ps b), .val (trp c qs d), .no, .no] (hS pre s rest) = some (.ok (.lst [trp a (ps ++ qs) d]) (hS pre s rest)) := fun k => by
      refine told_ok (k + 40) ?_
      have ad := fun k h => e_padd k a b c d ps qs o q hl (by omega) h
      simp -implicitDefEqProofs (disch := walk_at "dz") [add_trp, ad]
    have c1 : decide (c < b) = false := decide_eq_false hcb
    have ix : ∀ r h, ixE P r (.lst [trp a (ps ++ qs) d]) (.int 0) h = some (.ok (trp a (ps ++ qs) d) h) := fun r h => ix_seq P r h (k := false) rfl (ixT_nat (i := 0) rfl)
    have n1 : ∀ r h, cmpE P r .ne (.tup [.int a, .int d]) (.tup [.int a, .int d]) h = some (.ok false h) := fun r h => ne_same P r h rfl rfl
    have w1 := fun k h => e_lwr k ps (by omega) h
    have w2 := fun k h => e_lwr k qs (by omega) h
    have w3 := fun k h => e_lwr k (ps ++ qs) (by rw [List.length_append]; omega) h
    simp only [List.map_append] at w3
    have ad : ∀ r h, binE P r .add (.lst (ps.map pr)) (.lst (qs.map pr)) h = some (.ok (.lst (ps.map pr ++ qs.map pr)) h) := fun r h => add_lst P r h (by rw [List.length_map, List.length_map]; omega)
    have n2 : ∀ r h, cmpE P r .ne (.lst (ps.map pr ++ qs.map pr)) (.lst (ps.map pr ++ qs.map pr)) h = some (.ok false h) := fun r h => ne_same P r h rfl (by
      show okDs 7 (ps.map pr ++ qs.map pr) = true
      rw [← List.map_append]
      exact okDs_prs _)
    generalize ps.map pr = A at w1 w3 ad n2
    generalize qs.map pr = B at w2 w3 ad n2
    have l1 := fun k h => len_trp h a ps b k (by omega)
    have l2 := fun k h => len_trp h c qs d k (by omega)
    have l3 := fun k h => len_trp h a (ps ++ qs) d k (by rw [List.length_append]; omega)
    simp only [List.length_append, Int.natCast_add] at l3
    generalize (ps.length : Int) = n at l1 l3
    generalize (qs.length : Int) = m at l2 l3
    simp -implicitDefEqProofs (disch := walk_at "dz") [f_law_sum_right, b_law_sum_right, startS, t0, tl, c1, ix, n1, w1, w2, w3, ad, n2, l1, l2, l3, eff_app a b c d ps qs]
end LW
end
section
set_option Elab.async false
set_option linter.all false
set_option maxRecDepth 100000
set_option maxHeartbeats 1000000
namespace LW
open PySem Ev Ev.Q Ev.Mo
local macro_rules | `(tactic| walk_at "dz") => `(tactic| first | omega | rfl | (simp [range_len, Ev.big]; done) | (simp [range_len, Ev.big]; omega))
theorem law_turn (k : Nat) (s : DS) (rest : Hh) (N : Nat) (o : s.ok N) (hN : N < 2 ^ 38) (x0 x2 x3 x4 x5 x6 : SV) (h0 : 0 ≤ 0) :
    ∃ (y3 y4 y5 y6 : SV) (s' : DS), s'.ok (N + 2000) ∧ (run P wf (k + 228)).ss [x0, .val (.ref pre.length), x2, x3, x4, x5, x6] b_law_f1 (hS pre s rest) = some (Fl.nx [x0, .val (.ref pre.length), x2, y3, y4, y5, y6], hS pre s' rest) := by
  obtain ⟨v1, s1, e1, c1, d1, o1⟩ := e_draw s 10 rest N o (by omega) (by omega) (by omega)
  obtain ⟨a, ps, b, s2, e2, t1, l1, o2⟩ := e_ltrip s1 v1 rest _ o1 (by omega) c1 (by omega)
  obtain ⟨v3, s3, e3, c3, d3, o3⟩ := e_draw s2 2 rest _ o2 (by omega) (by omega) (by omega)
  obtain ⟨f2, hf2⟩ : ∃ f : Int, (if b + v3 < 30 then b + v3 else 30) = f := ⟨_, rfl⟩
  have b0 := t1.b0
  have b1 := t1.b1
  have g2 : 0 ≤ f2 ∧ f2 ≤ 30 := by
    rw [← hf2]
    split <;> omega
  obtain ⟨c, qs, d, s4, e4, t2, l2, o4⟩ := e_ltrip s3 f2 rest _ o3 (by omega) g2.1 g2.2
  obtain ⟨v5, s5, e5, c5, d5, o5⟩ := e_draw s4 2 rest _ o4 (by omega) (by omega) (by omega)
  obtain ⟨f3, hf3⟩ : ∃ f : Int, (if d + v5 < 30 then d + v5 else 30) = f := ⟨_, rfl⟩
  have b0' := t2.b0
  have b1' := t2.b1
  have g3 : 0 ≤ f3 ∧ f3 ≤ 30 := by
    rw [← hf3]
    split <;> omega
  obtain ⟨e, rs, f, s6, e6, t3, l3, o6⟩ := e_ltrip s5 f3 rest _ o5 (by omega) g3.1 g3.2
  have m2 : ∀ h, biK .min [.int 30, .int (b + v3)] h = some (.ok (.int f2) h) := fun h => by rw [bi_min, hf2]
  have m3 : ∀ h, biK .min [.int 30, .int (d + v5)] h = some (.ok (.int f3) h) := fun h => by rw [bi_min, hf3]
  have u1 := fun k s rest => e_sum k a b c d ps qs t1 t2 (by omega) s rest
  have u2 := fun k s rest => e_sum k c d e f qs rs t2 t3 (by omega) s rest
  have u3 := fun k s rest => e_sum k e f a b rs ps t3 t1 (by omega) s rest
  have r0 := fun k h => e_row k [] (by decide) trivial h
  rw [List.map_nil] at r0
  have tb : TripOk b [] b := ⟨b0, b1, b0, b1, trivial, fun p hp => by simp at hp, fun p hp => by simp at hp, fun _ => Int.le_refl _, by simp⟩
  have mk := fun k h => e_trip k b [] b tb h
  have z1 := fun k h => e_padd k a b b b ps [] t1 tb (by simp; omega) (Int.le_refl _) h
  simp only [List.append_nil] at z1
  refine ⟨.val (trp a ps b), .val (trp c qs d), .val (trp e rs f), .val (trp b [] b), s6, o6.mono (by omega), ?_⟩
  by_cases h1 : b ≤ c
  · by_cases h2 : d ≤ e
    · have j1 := t1.join t2 (by omega) h1
      have j2 := t2.join t3 (by omega) h2
      have a1 := fun k h => e_padd k a b c d ps qs t1 t2 (by omega) h1 h
      have a2 := fun k h => e_padd k c d e f qs rs t2 t3 (by omega) h2 h
      have a3 := fun k h => e_padd k a d e f (ps ++ qs) rs j1 t3 (by rw [List.length_append]; omega) h2 h
      have a4 := fun k h => e_padd k a b c f ps (qs ++ rs) t1 j2 (by rw [List.length_append]; omega) h1 h
      simp only [List.append_assoc] at a3
      have n1 := fun k h => len_trp h a ps b k (by omega)
      have n2 := fun k h => len_trp h c qs d k (by omega)
      have n3 := fun k h => len_trp h a (ps ++ qs) d k (by rw [List.length_append]; omega)
      simp only [List.length_append, Int.natCast_add] at n3
      generalize (ps.length : Int) = n at n1 n3
      generalize (qs.length : Int) = m at n2 n3
      simp -implicitDefEqProofs (disch := walk_at "dz") [b_law_f1, e1, e2, e3, m2, e4, e5, m3, e6, u1, u2, u3, h1, h2, add_trp, a1, a2, a3, a4, e_peq, n1, n2, n3, r0, mk, z1]
    · simp -implicitDefEqProofs (disch := walk_at "dz") [b_law_f1, e1, e2, e3, m2, e4, e5, m3, e6, u1, u2, u3, h1, h2, add_trp, e_peq, r0, mk, z1]
  · simp -implicitDefEqProofs (disch := walk_at "dz") [b_law_f1, e1, e2, e3, m2, e4, e5, m3, e6, u1, u2, u3, h1, add_trp, e_peq, r0, mk, z1]
theorem e_law (k : Nat) (ns : List Int) (hl : ns.length ≤ 63) : ∃ h', (run P wf (k + 229)).ss (startS f_law.n [.frl (ns.map T.int)]) f_law.body pre = some (.rt (.bl true), h') := by
  obtain ⟨s, e1, o⟩ := e_begun ns hl
  obtain ⟨σ1, h1, e2, s1, x2, x3, x4, x5, x6, rfl, rfl, o1⟩ := for_inv (tg := .nm 2) (b := b_law_f1) (ss := (run P wf (k + 228)).ss)
    (I := fun r σ h => ∃ (s : DS) (x2 x3 x4 x5 x6 : SV), σ = [.val (.frl (ns.map T.int)), .val (.ref pre.length), x2, x3, x4, x5, x6] ∧ h = hS pre s [] ∧ s.ok (2000 * (8 - r.length))) (rangeL 0 8)
    [.val (.frl (ns.map T.int)), .val (.ref pre.length), .no, .no, .no, .no, .no] (hS pre s []) ⟨s, _, _, _, _, _, rfl, rfl, o.mono (Nat.zero_le _)⟩ (by
      rintro t r σ h hs ⟨s, x2, x3, x4, x5, x6, rfl, rfl, o⟩
      have q1 := hs.length_le
      rw [range_len, List.length_cons] at q1
      rw [List.length_cons] at o
      obtain ⟨y3, y4, y5, y6, s', o', e⟩ := law_turn k s [] _ o (by omega) (.val (.frl (ns.map T.int))) (.val t) x3 x4 x5 x6 (Nat.le_refl _)
      exact ⟨_, _, _, rfl, e, s', .val t, y3, y4, y5, y6, rfl, rfl, o'.mono (by omega)⟩)
  refine ⟨hS pre s1 [], ?_⟩
  simp -implicitDefEqProofs (disch := walk_at "dz") [f_law, b_law, startS, e1, rgK_1, e2]
theorem holds : ∀ ns : List Int, ns.length ≤ 63 → (∀ z ∈ ns, Builtin.Int.intBits z ≤ 1048576) → ∃ h', (Ev.run tx.G tx.wf 230).ss (startS f_law.n [.frl (ns.map T.int)]) f_law.body ((List.range tx.tabs.length).map MO.tab) = some (.rt (.bl true), h') := fun ns hl _ => by
  have := e_law 1 ns hl
  exact this
end LW
end
section
set_option Elab.async false
set_option linter.all false
set_option maxRecDepth 100000
set_option maxHeartbeats 0
open PySem PySem.W PySem.Calls PyProof.Rows
theorem PySem.Challenge.cw_climbtickets_k51_trips_joined_holds : PySem.Challenge.rw_climbtickets_k51_trips_joined.Holds := by
  w_on; o_law
  refine HandSHeadRun.head_any (r := OpenLaw.row PySem.Challenge.rw_climbtickets_k51_trips_joined) (q := view (OpenLaw.row PySem.Challenge.rw_climbtickets_k51_trips_joined).prog [42]) (H := LW.hk) (ob := LW.ob) (M := 9000) (loose := LW.loose) (d := HandSHeadRun.topDef (OpenLaw.row PySem.Challenge.rw_climbtickets_k51_trips_joined).prog 42) (kwd := []) LW.ob_eq
    (by kernel_rfl) (fun s => by kernel_rfl) LW.headRun (by kernel_rfl) (by kernel_rfl) (by kernel_rfl) (by rfl) (by first | assumption | decide +kernel) (by decide +kernel) ⟨rfl, rfl, rfl, rfl, rfl, by decide +kernel⟩ ?hw ?hc
  case hw => w_witness2
  case hc =>
    exact Ev.law_walk (t := LW.tx) (ds := LW.ds) (n := 63) (j := 497) (g := 443) (d := LW.d_law) (D := LW.f_law) (k := 230) (px := "script") rfl (by decide) (by kernel_rfl) ⟨rfl, by decide, by decide⟩ LW.tx_ok LW.all_ok LW.all_xo rfl ⟨53, rfl, rfl, LW.ok_law⟩ rfl rfl (by kernel_rfl) ⟨rfl, fun _ _ _ _ _ _ _ => rfl⟩ LW.holds
end
