import PyProof.Rows.All
import Wide.All
import OpenK.AllK
import Wide.FinOn
import HandS.ForMost
import HandS.Wide
import HandS.ExcOwn
import HandS.ExcCtx
import HandS.CallSlots
import HandS.Defaults
import HandS.IsInst
import HandS.Property
import HandS.TupAny
import HandS.Style
import HandS.More
import HandS.Conv
import HandS.SortInts
import HandS.Ends
import HandS.Codes
import HandS.EndBits
import HandS.Head0
import HandS.Head1
import HandS.Head2
import HandS.HeadEnd
import HandS.HeadHook1
import HandS.HeadHook2
import HandS.HeadHook3
import HandS.HeadHook4
import KE.KOpsOwn
import KE.KFmtOwn
import HandS.FStr
import PySem.Challenge.RW_tollbooks_k01_fractions_add_and_compare
set_option Elab.async false
set_option linter.all false
set_option maxRecDepth 100000
set_option maxHeartbeats 0
/-! DL0: pure data, cells, the small language and its evaluator. -/
namespace DL
open PySem L2
/-! ### data -/
/-- a key of a dict -/
inductive DK where
  | i (n : Int) | s (x : Str) | t (ks : List Key)
  deriving DecidableEq
/-- a value through and through, without places -/
inductive D where
  | non | bl (b : Bool) | int (i : Int) | str (x : Str)
  | lst (xs : List D) | kls (xs : List D) | tup (xs : List D) | dic (kvs : List (DK × D)) | kdic (kvs : List (Str × D))
  | ins (c : Nat) (fs : List (Str × D))
  | fn (j : Nat) | cls (c : Nat)
/-- what a name holds: a value, or the place of a thing that may change -/
inductive X where
  | d (x : D) | r (k : Nat)
/-- a thing that may change -/
inductive Node where
  | lst (xs : List D) | dic (kvs : List (DK × D)) | ins (c : Nat) (fs : List (Str × X))
abbrev Mu := List (Option Node)
abbrev Env := List (Option X)
/-- an exception of an own class -/
structure Exn where
  c : Nat
  fs : List (Str × D)
/-- an end -/
inductive R (α : Type) where
  | ok (a : α) (μ : Mu) | er (e : Exn) (μ : Mu) | no
def R.bind {α β : Type} : R α → (α → Mu → R β) → R β
  | .ok a μ, f => f a μ
  | .er e μ, _ => .er e μ
  | .no, _ => .no
def R.lift {α : Type} (o : Option α) (μ : Mu) : R α := match o with
  | some a => .ok a μ
  | none => .no
/-! ### the language -/
inductive Bop where | add | sub | mul | fdiv | mod | pow
inductive Cop where | eq | ne | lt | le | gt | ge | isin | notin | is_ | isnot
  deriving DecidableEq
inductive Ty where | int | bool | str | lst | tup | dic | cls (c : Nat)
inductive Blt where | len | abs | min2 | max2 | sum | all | any | int | str | bool | list | tuple | sorted
  deriving DecidableEq
inductive Lm where | append | count | index | pop | extend
  deriving DecidableEq
/-- a target: a name's slot, names' slots of a tuple -/
inductive Tg where
  | nm (i : Nat) | tp (is : List Nat)
mutual
inductive E where
  | var (i : Nat)
  | con (x : D)
  | glo (g : Nat)
  | bin (op : Bop) (a b : E)
  | binC (a b : E)
  | rv (cell : Bool) (a : E)
  | fmt (a : E)
  | jn1 (a : E)
  | jn (es : Es)
  | never
  | neg (a : E)
  | cmp (op : Cop) (a b : E)
  | chain (o1 o2 : Cop) (a b c : E)
  | bop (conj : Bool) (es : Es)
  | not (a : E)
  | ife (c : T) (a b : E)
  | tup (es : Es)
  | lst (cell : Bool) (es : Es)
  | dic (cell : Bool) (kvs : Es)
  | idx (a i : E)
  | sl (cell : Bool) (a : E) (lo hi : Eo)
  | fld (a : E) (f : Str)
  | call (j : Nat) (es : Es) (ds : List D)
  | mk (c : Nat) (es : Es) (ds : List D)
  | meth (m : Str) (o : E) (es : Es) (ds : List D)
  | blt (cell : Bool) (b : Blt) (es : Es)
  | isi (a : E) (ts : List Ty)
  | lm (m : Lm) (o : E) (es : Es)
  | lrng (cell : Bool) (a : E) (b : Eo)
  | lc (cell : Bool) (tg : Tg) (it : It) (ifs : To) (elt : E) (own : List Nat)
  | frz (a : E)
inductive Es where
  | nil | cons (e : E) (r : Es)
inductive Eo where
  | none | some (e : E)
/-- a test -/
inductive T where
  | bop (conj : Bool) (ts : Ts) | not (t : T) | cmp (op : Cop) (a b : E) | chain (o1 o2 : Cop) (a b c : E) | isi (a : E) (ts : List Ty) | val (e : E)
inductive Ts where
  | nil | cons (t : T) (r : Ts)
inductive To where
  | none | some (t : T)
/-- what is walked -/
inductive It where
  | seq (e : E) | rng1 (e : E) | rng2 (a b : E) | enum (e : E) | zip (a b : E) | rev (e : E)
end
mutual
inductive S where
  | set (i : Nat) (e : E)
  | unp (is : List Nat) (e : E)
  | par (i j : Nat) (a b : E)
  | setI (o i e : E)
  | setF (o : E) (f : Str) (e : E)
  | augN (i : Nat) (sub : Bool) (e : E)
  | ex (e : E)
  | ite (c : T) (t f : Ss)
  | for_ (tg : Tg) (it : It) (b : Ss)
  | whl (c : T) (b : Ss)
  | ret (e : E)
  | retN
  | pass | brk | cnt
  | frz (i : Nat)
  | never
inductive Ss where
  | nil | cons (s : S) (r : Ss)
end
/-! ### operations -/
def Node.toD : Node → Option D
  | .lst xs => some (.lst xs)
  | .dic kvs => some (.dic kvs)
  | .ins _ _ => none
/-- what stands there as a value, read -/
def view (μ : Mu) : X → Option D
  | .d x => some x
  | .r k => match μ[k]? with
    | some (some n) => n.toD
    | _ => none
/-- a list that one only reads, as a list -/
def unk : D → D
  | .kls xs => .lst xs
  | d => d
def viewS (μ : Mu) (x : X) : Option D := (view μ x).map unk
def X.dOf : X → Option D
  | .d x => some x
  | .r _ => none
mutual
def toP : D → Option PyData
  | .non => some .none
  | .bl b => some (.bool b)
  | .int i => some (.int i)
  | .str x => some (.str x)
  | .lst xs => (toPs xs).map PyData.list
  | .kls xs => (toPs xs).map PyData.list
  | .tup xs => (toPs xs).map PyData.tuple
  | _ => none
def toPs : List D → Option (List PyData)
  | [] => some []
  | x :: xs => match toP x, toPs xs with
    | some p, some ps => some (p :: ps)
    | _, _ => none
end
def scalar : D → Bool
  | .non => true
  | .bl _ => true
  | .int _ => true
  | .str _ => true
  | _ => false
/-- == of flat values -/
def eqF : D → D → Bool
  | .non, .non => true
  | .bl a, .bl b => decide (a = b)
  | .int a, .int b => decide (a = b)
  | .str a, .str b => decide (a = b)
  | .bl a, .int b => decide ((if a then 1 else 0) = b)
  | .int a, .bl b => decide (a = (if b then 1 else 0))
  | _, _ => false
def eqD (x y : D) : Option Bool :=
  if scalar x && scalar y then some (eqF x y) else
  match toP x, toP y with
  | some p, some q => if SeqAt.shaped p && SeqAt.shaped q then some (PyData.eqv p q) else none
  | _, _ => none
def keyOf : D → Option DK
  | .int i => some (.i i)
  | .str x => some (.s x)
  | _ => none
def dget (kvs : List (DK × D)) (k : DK) : Option D := kvs.lookup k
def inD (x : D) : D → Option Bool
  | .lst ys => if scalar x && ys.all scalar then some (ys.any fun y => eqF y x) else none
  | .tup ys => if scalar x && ys.all scalar then some (ys.any fun y => eqF y x) else none
  | .dic kvs => (keyOf x).map fun k => (dget kvs k).isSome
  | .kdic kvs => (match x with
    | .str z => some (kvs.lookup z).isSome
    | _ => none)
  | .str s => (match x with
    | .str z => (match z.cps.toList with
      | [c] => some (decide (c ∈ s.cps.toList))
      | _ => none)
    | _ => none)
  | _ => none
def truth : D → Option Bool
  | .non => some false
  | .bl b => some b
  | .int i => some (i != 0)
  | .str s => if s.length ≤ 1000000 then some (s.length != 0) else none
  | .lst xs => some (!xs.isEmpty)
  | .kls xs => some (!xs.isEmpty)
  | .tup xs => some (!xs.isEmpty)
  | _ => none
@[irreducible] def mulOk (i j : Int) : Bool := decide (i.natAbs.log2 + j.natAbs.log2 < 1000000)
@[irreducible] def divOk (j : Int) : Bool := decide (0 < j) && decide (j.natAbs.log2 < 9000)
/-- .. below 0 -/
@[irreducible] def divNeg (j : Int) : Bool := decide (j < 0) && decide (j.natAbs.log2 < 9000)
def powOk (i j : Int) : Bool := decide (0 ≤ j) && (decide (j ≤ 1000000) && decide (i.natAbs < 2 ^ 64))
def binI : Bop → Int → Int → Option Int
  | .add, i, j => some (i + j)
  | .sub, i, j => some (i - j)
  | .mul, i, j => if mulOk i j then some (i * j) else none
  | .fdiv, i, j => if divOk j then some (i / j) else if divNeg j then some (i.fdiv j) else none
  | .mod, i, j => if decide (0 < j) then some (i % j) else none
  | .pow, i, j => if powOk i j then some (i ^ j.toNat) else none
def eqX (μ : Mu) (x y : X) : Option Bool := (view μ x).bind fun a => (view μ y).bind fun b => eqD a b
def inX (μ : Mu) (x y : X) : Option Bool := x.dOf.bind fun a => (viewS μ y).bind fun b => inD a b
def isN : X → Bool
  | .d .non => true
  | _ => false
def isNX (x y : X) : Option Bool := match y with
  | .d .non => some (isN x)
  | .d (.bl b) => (match x with
    | .d (.bl a) => some (decide (a = b))
    | _ => none)
  | _ => none
def intX : X → Option Int
  | .d (.int i) => some i
  | _ => none
def cmpD (μ : Mu) (op : Cop) (x y : X) : Option Bool := match op with
  | .eq => eqX μ x y
  | .ne => (eqX μ x y).map not
  | .isin => inX μ x y
  | .notin => (inX μ x y).map not
  | .is_ => isNX x y
  | .isnot => (isNX x y).map not
  | .lt => (intX x).bind fun i => (intX y).map fun j => decide (i < j)
  | .le => (intX x).bind fun i => (intX y).map fun j => decide (i ≤ j)
  | .gt => (intX x).bind fun i => (intX y).map fun j => decide (j < i)
  | .ge => (intX x).bind fun i => (intX y).map fun j => decide (j ≤ i)
def Node.size : Node → Nat
  | .lst xs => xs.length
  | .dic kvs => kvs.length
  | .ins _ fs => fs.length
/-- a new list, tuple .. : a cell, or a value -/
def alloc (cell : Bool) (n : Node) (μ : Mu) : R X := if n.size ≤ 1000000 then (match cell with
  | true => .ok (.r μ.length) (μ ++ [some n])
  | false => R.lift (n.toD.map X.d) μ) else .no
def oneS (c : Nat) : Str := ⟨#[c]⟩
def seqOf : D → Option (List D)
  | .lst xs => some xs
  | .kls xs => some xs
  | .tup xs => some xs
  | .str z => some (z.cps.toList.map fun c => .str (oneS c))
  | _ => none
def idxD (a i : D) : Option D := match a with
  | .lst xs => (match i with | .int j => atI xs j | _ => none)
  | .tup xs => (match i with | .int j => atI xs j | _ => none)
  | .str z => (match i with | .int j => if z.length ≤ 1000000 then (atI z.cps.toList j).map fun c => .str (oneS c) else none | _ => none)
  | .dic kvs => (keyOf i).bind (dget kvs)
  | .kdic kvs => (match i with | .str z => kvs.lookup z | _ => none)
  | _ => none
def cutD (xs : List D) (lo hi : Option Int) : List D := (xs.drop (HT.sIx xs.length 0 lo)).take (HT.sIx xs.length xs.length hi - HT.sIx xs.length 0 lo)
def intsD : List D → Option (List Int)
  | [] => some []
  | .int i :: r => (intsD r).map (i :: ·)
  | _ :: _ => none
def boolsD : List D → Option (List Bool)
  | [] => some []
  | .bl i :: r => (boolsD r).map (i :: ·)
  | _ :: _ => none
/-- the class of an instance -/
def insOf (μ : Mu) : X → Option Nat
  | .d (.ins c _) => some c
  | .r k => (match μ[k]? with | some (some (.ins c _)) => some c | _ => none)
  | _ => none
def isTy (μ : Mu) (x : X) : Ty → Bool
  | .int => (match x with | .d (.int _) => true | .d (.bl _) => true | _ => false)
  | .bool => (match x with | .d (.bl _) => true | _ => false)
  | .str => (match x with | .d (.str _) => true | _ => false)
  | .lst => (match viewS μ x with | some (.lst _) => true | _ => false)
  | .tup => (match x with | .d (.tup _) => true | _ => false)
  | .dic => (match viewS μ x with | some (.dic _) => true | some (.kdic _) => true | _ => false)
  | .cls c => (match insOf μ x with
    | some c' => c' == c
    | none => false)
/-- the type is known -/
def tyKnown (μ : Mu) (x : X) : Bool := match x with
  | .d (.fn _) => false
  | .d (.cls _) => false
  | .d _ => true
  | .r k => (match μ[k]? with | some (some _) => true | _ => false)
def sizeOk {α : Type} (xs : List α) : Bool := decide (xs.length ≤ 1000000)
def small (i : Int) : Bool := decide (-(2 ^ 62) ≤ i) && decide (i < 2 ^ 62)
def upTo (lo : Int) (n : Nat) : List D := (List.range n).map fun (i : Nat) => D.int (lo + (i : Int))
def bltD (μ : Mu) (cell : Bool) : Blt → List X → R X
  | .len, [x] => (match viewS μ x with
    | some (.lst xs) => .ok (.d (.int xs.length)) μ
    | some (.tup xs) => .ok (.d (.int xs.length)) μ
    | some (.str s) => if s.length ≤ 1000000 then .ok (.d (.int s.length)) μ else .no
    | _ => .no)
  | .abs, [.d (.int i)] => .ok (.d (.int (if i < 0 then -i else i))) μ
  | .min2, [.d (.int i), .d (.int j)] => .ok (.d (.int (if j < i then j else i))) μ
  | .max2, [.d (.int i), .d (.int j)] => .ok (.d (.int (if j > i then j else i))) μ
  | .sum, [x] => (match viewS μ x with
    | some (.lst xs) => (match intsD xs with
      | some ns => .ok (.d (.int ns.sum)) μ
      | none => .no)
    | _ => .no)
  | .all, [x] => (match viewS μ x with
    | some (.lst xs) => (match boolsD xs with
      | some bs => .ok (.d (.bl (bs.all id))) μ
      | none => .no)
    | _ => .no)
  | .any, [x] => (match viewS μ x with
    | some (.lst xs) => (match boolsD xs with
      | some bs => .ok (.d (.bl (bs.any id))) μ
      | none => .no)
    | _ => .no)
  | .int, [.d (.int i)] => .ok (.d (.int i)) μ
  | .int, [.d (.bl b)] => .ok (.d (.int (if b then 1 else 0))) μ
  | .list, [x] => (match viewS μ x with
    | some (.lst xs) => alloc cell (.lst xs) μ
    | some (.tup xs) => alloc cell (.lst xs) μ
    | _ => .no)
  | .bool, [.d (.int i)] => .ok (.d (.bl (i != 0))) μ
  | .bool, [.d (.bl b)] => .ok (.d (.bl b)) μ
  | .str, [.d (.int i)] => if i.natAbs.log2 < 1920 then .ok (.d (.str (toString i))) μ else .no
  | .tuple, [x] => (match viewS μ x with
    | some (.lst xs) => if xs.length ≤ 1000000 then .ok (.d (.tup xs)) μ else .no
    | some (.tup xs) => .ok (.d (.tup xs)) μ
    | _ => .no)
  | .sorted, [x] => (match viewS μ x with
    | some (.lst xs) => (match intsD xs with
      | some ns => alloc cell (.lst ((ns.mergeSort (fun a b => decide (a ≤ b))).map D.int)) μ
      | none => .no)
    | _ => .no)
  | _, _ => .no
def Mu.put (μ : Mu) (k : Nat) (n : Node) : Mu := μ.set k (some n)
def isLst (μ : Mu) (x : X) : Bool := match viewS μ x with
  | some (.lst _) => true
  | _ => false
/-- a method of a list that stands in a cell -/
def lmD (μ : Mu) : Lm → X → List X → R X
  | .append, .r k, [.d x] => (match μ[k]? with
    | some (some (.lst xs)) => if sizeOk xs then .ok (.d .non) (μ.set k (some (.lst (xs ++ [x])))) else .no
    | _ => .no)
  | _, _, _ => .no
def setIX (μ : Mu) : X → X → X → R Unit
  | .r k, .d i, .d v => (match μ[k]? with
    | some (some (.lst xs)) => (match i with
      | .int j => (match ixN xs.length j with
        | some n => .ok () (μ.set k (some (.lst (xs.set n v))))
        | none => .no)
      | _ => .no)
    | _ => .no)
  | _, _, _ => .no
def fldX (μ : Mu) (x : X) (f : Str) : Option X := match x with
  | .d (.ins _ fs) => (fs.lookup f).map X.d
  | .r k => (match μ[k]? with
    | some (some (.ins _ fs)) => fs.lookup f
    | _ => none)
  | _ => none
def valF : List (Str × X) → Option (List (Str × D))
  | [] => some []
  | (f, x) :: r => match x, valF r with
    | .d d, some fs => some ((f, d) :: fs)
    | _, _ => none
/-- .. made fast -/
def Node.fast : Node → Option D
  | .lst xs => some (.lst xs)
  | .dic kvs => some (.dic kvs)
  | .ins c fs => (valF fs).map fun fs => .ins c fs
def frzX (μ : Mu) : X → R X
  | .d x => .ok (.d x) μ
  | .r k => (match μ[k]? with
    | some (some n) => (match n.fast with
      | some x => .ok (.d x) (μ.set k none)
      | none => .no)
    | _ => .no)
def putX (f : Str) (y : X) : List (Str × X) → List (Str × X)
  | [] => [(f, y)]
  | (g, x) :: r => if g = f then (g, y) :: r else (g, x) :: putX f y r
/-- a field is stored -/
def setFX (μ : Mu) (x : X) (f : Str) (v : X) : R Unit := match x with
  | .r k => (match μ[k]? with
    | some (some (.ins c fs)) => if fs.length < 500 then .ok () (μ.set k (some (.ins c (putX f v fs)))) else .no
    | _ => .no)
  | _ => .no
/-- the cells from n on are dropped: no cell below names one of them -/
def Node.below (n : Nat) : Node → Bool
  | .ins _ fs => fs.all fun p => match p.2 with
    | .d _ => true
    | .r k => decide (k < n)
  | _ => true
def belowAll (n : Nat) : Mu → Bool
  | [] => true
  | o :: r => (match o with | some nd => nd.below n | none => true) && belowAll n r
def clr (n : Nat) : Option X → Option X
  | some (.r k) => if k < n then some (.r k) else none
  | o => o
def tidy (n : Nat) (ρ : Env) (μ : Mu) : Env × Mu := if belowAll n (μ.take n) then (ρ.map (clr n), μ.take n) else (ρ, μ)
/-! ### targets, walks -/
def bindTg : Tg → D → Env → Option Env
  | .nm i, x, ρ => some (ρ.set i (some (.d x)))
  | .tp is, .tup xs, ρ => if is.length = xs.length then some ((is.zip xs).foldl (fun ρ p => ρ.set p.1 (some (.d p.2))) ρ) else none
  | _, _, _ => none
/-- a call's answers -/
abbrev CallF := Nat → List X → Mu → R X
structure Par where
  C : CallF
  C1 : CallF
  W : Nat
  glo : Nat → Option D
  methOf : Nat → Str → Option Nat
  propOf : Nat → Str → Option Nat
  fldOk : Nat → Str → Bool
/-- nothing is raised -/
def quiet : R X → R X
  | .er _ _ => .no
  | r => r
def boolR : R X → R Bool
  | .ok (.d (.bl b)) μ => .ok b μ
  | .er e μ => .er e μ
  | _ => .no
def notR : R Bool → R Bool
  | .ok b μ => .ok (!b) μ
  | r => r
/-- a method of the own text -/
def ownM (P : Par) (c : Nat) (m : Str) (xs : List X) (μ : Mu) : R X := match P.methOf c m with
  | some j => quiet (P.C1 j xs μ)
  | none => .no
def eqTo (μ : Mu) (y : X) : Bool := (insOf μ y).isSome || (match y with | .d (.lst _) => true | .d (.tup _) => true | .d d => scalar d | _ => false)
def ownCmp (P : Par) (op : Cop) (x y : X) (μ : Mu) : Option (R Bool) := match op with
  | .isin => (insOf μ y).map fun c => boolR (ownM P c "__contains__" [y, x] μ)
  | .notin => (insOf μ y).map fun c => notR (boolR (ownM P c "__contains__" [y, x] μ))
  | .eq => (insOf μ x).map fun c => if eqTo μ y then boolR (ownM P c "__eq__" [x, y] μ) else .no
  | .ne => (insOf μ x).map fun c => if eqTo μ y then notR (boolR (ownM P c "__eq__" [x, y] μ)) else .no
  | _ => none
def cmpX (P : Par) (op : Cop) (x y : X) (μ : Mu) : R Bool := match ownCmp P op x y μ with
  | some r => r
  | none => R.lift (cmpD μ op x y) μ
def opMeth : Bop → Str
  | .add => "__add__"
  | .sub => "__sub__"
  | .mul => "__mul__"
  | .fdiv => "__floordiv__"
  | .mod => "__mod__"
  | .pow => "__pow__"
/-- a built-in of an own instance -/
def ownB (P : Par) (b : Blt) (xs : List X) (μ : Mu) : Option (R X) := match b with
  | .abs => (match xs with
    | [.d (.ins c fs)] => some (ownM P c "__abs__" [.d (.ins c fs)] μ)
    | _ => none)
  | .bool => (match xs with
    | [.d (.ins c fs)] => some ((boolR (ownM P c "__bool__" [.d (.ins c fs)] μ)).bind fun b μ => .ok (.d (.bl b)) μ)
    | _ => none)
  | _ => none
def bltP (P : Par) (μ : Mu) (cell : Bool) (b : Blt) (xs : List X) : R X := match ownB P b xs μ with
  | some r => r
  | none => bltD μ cell b xs
/-- an operator on two ints -/
def binZ (op : Bop) : X → X → Option (Option Int)
  | .d (.int i), .d (.int j) => some (binI op i j)
  | _, _ => none
def addD (μ : Mu) (x y : X) : R X := match view μ x with
  | some (.str s) => (match view μ y with
    | some (.str t) => if s.length + t.length ≤ 1000000 then .ok (.d (.str (s ++ t))) μ else .no
    | _ => .no)
  | some (.tup xs) => (match view μ y with
    | some (.tup ys) => if xs.length + ys.length ≤ 1000000 then .ok (.d (.tup (xs ++ ys))) μ else .no
    | _ => .no)
  | some (.lst xs) => (match view μ y with
    | some (.lst ys) => alloc false (.lst (xs ++ ys)) μ
    | _ => .no)
  | _ => .no
def binX (P : Par) (op : Bop) (x y : X) (μ : Mu) : R X := match binZ op x y with
  | some o => R.lift (o.map fun k => X.d (.int k)) μ
  | none => (match insOf μ x with
    | some c => if insOf μ y = some c then ownM P c (opMeth op) [x, y] μ else .no
    | none => (match op with
      | .add => addD μ x y
      | _ => .no))
def addC (μ : Mu) (x y : X) : R X := match view μ x with
  | some (.lst xs) => (match view μ y with
    | some (.lst ys) => alloc true (.lst (xs ++ ys)) μ
    | _ => .no)
  | _ => .no
def optI : Option X → Option (Option Int)
  | none => some none
  | some (.d (.int i)) => some (some i)
  | _ => none
def cutSt (z : Str) (lo hi : Option Int) : Str := ⟨((z.cps.toList.drop (HT.sIx z.length 0 lo)).take (HT.sIx z.length z.length hi - HT.sIx z.length 0 lo)).toArray⟩
def slD (μ : Mu) (cell : Bool) (x : X) (lo hi : Option Int) : R X := match viewS μ x with
  | some (.lst xs) => alloc cell (.lst (cutD xs lo hi)) μ
  | some (.tup xs) => .ok (.d (.tup (cutD xs lo hi))) μ
  | some (.str z) => if z.length ≤ 1000000 then .ok (.d (.str (cutSt z lo hi))) μ else .no
  | _ => .no
def rvD (μ : Mu) (cell : Bool) (x : X) : R X := match viewS μ x with
  | some (.lst xs) => alloc cell (.lst xs.reverse) μ
  | _ => .no
/-- a field, a property -/
def fldP (P : Par) (x : X) (f : Str) (μ : Mu) : R X := match insOf μ x with
  | some c => (match P.propOf c f with
    | some j => quiet (P.C1 j [x] μ)
    | none => if P.fldOk c f then R.lift (fldX μ x f) μ else .no)
  | none => .no
/-- a value in an f-string -/
def fmtX (x : X) (μ : Mu) : R X := match x with
  | .d (.str z) => if z.length ≤ 1000000 then .ok (.d (.str z)) μ else .no
  | .d (.int i) => if i.natAbs.log2 < 1920 then .ok (.d (.str (toString i))) μ else .no
  | _ => .no
/-- the pairs of a display -/
def pairs : List X → Option (List (DK × D))
  | [] => some []
  | .d k :: .d v :: r => match keyOf k, pairs r with
    | some q, some kvs => if (kvs.lookup q).isSome then none else some ((q, v) :: kvs)
    | _, _ => none
  | _ => none
/-- a comprehension's turns -/
def lcD (bind : D → Env → Option Env) (test : Env → Mu → R Bool) (elt : Env → Mu → R X) (ρ : Env) : List D → List D → Mu → R (List D)
  | [], acc, μ => .ok acc μ
  | x :: xs, acc, μ => match bind x ρ with
    | none => .no
    | some ρ' => match test ρ' μ with
      | .ok true μ1 => (match elt ρ' μ1 with
        | .ok (.d y) μ2 => if sizeOk acc then lcD bind test elt ρ xs (acc ++ [y]) (tidy μ.length [] μ2).2 else .no
        | _ => .no)
      | .ok false μ1 => lcD bind test elt ρ xs acc (tidy μ.length [] μ1).2
      | _ => .no
def wipeE (ρ : Env) : List Nat → Env
  | [] => ρ
  | v :: vs => (wipeE ρ vs).set v none
def zipD : List D → List D → List D
  | a :: as, b :: bs => .tup [a, b] :: zipD as bs
  | _, _ => []
def enumD : Int → List D → List D
  | _, [] => []
  | n, a :: as => .tup [.int n, a] :: enumD (n + 1) as
mutual
def evE (P : Par) : E → Env → Mu → R X
  | .var i, ρ, μ => (match ρ[i]? with | some (some x) => .ok x μ | _ => .no)
  | .con x, _, μ => .ok (.d x) μ
  | .glo g, _, μ => R.lift ((P.glo g).map X.d) μ
  | .bin op a b, ρ, μ => (evE P a ρ μ).bind fun x μ1 => (evE P b ρ μ1).bind fun y μ2 => binX P op x y μ2
  | .binC a b, ρ, μ => (evE P a ρ μ).bind fun x μ1 => (evE P b ρ μ1).bind fun y μ2 => addC μ2 x y
  | .rv c a, ρ, μ => (evE P a ρ μ).bind fun x μ1 => rvD μ1 c x
  | .fmt a, ρ, μ => (evE P a ρ μ).bind fun x μ1 => fmtX x μ1
  | .jn1 a, ρ, μ => evE P a ρ μ
  | .jn es, ρ, μ => (evJ P es Str.empty ρ μ).bind fun z μ1 => .ok (.d (.str z)) μ1
  | .never, _, _ => .no
  | .neg a, ρ, μ => (evE P a ρ μ).bind fun x μ1 => (match x with
    | .d (.int i) => .ok (.d (.int (-i))) μ1
    | .d (.ins c fs) => ownM P c "__neg__" [.d (.ins c fs)] μ1
    | _ => .no)
  | .cmp op a b, ρ, μ => (evE P a ρ μ).bind fun x μ1 => (evE P b ρ μ1).bind fun y μ2 => (cmpX P op x y μ2).bind fun b μ3 => .ok (.d (.bl b)) μ3
  | .chain o1 o2 a b c, ρ, μ => (evE P a ρ μ).bind fun x μ1 => (evE P b ρ μ1).bind fun y μ2 => (cmpX P o1 x y μ2).bind fun k μ3 =>
    if k then (evE P c ρ μ3).bind fun z μ4 => (cmpX P o2 y z μ4).bind fun b μ5 => .ok (.d (.bl b)) μ5 else .ok (.d (.bl false)) μ3
  | .bop cj es, ρ, μ => evB P cj es ρ μ
  | .not a, ρ, μ => (evE P a ρ μ).bind fun x μ1 => (match x with
    | .d (.bl b) => .ok (.d (.bl (!b))) μ1
    | _ => .no)
  | .ife c a b, ρ, μ => (evT P c ρ μ).bind fun k μ1 => if k then evE P a ρ μ1 else evE P b ρ μ1
  | .tup es, ρ, μ => (evEs P es ρ μ).bind fun xs μ1 => R.lift ((xs.mapM X.dOf).bind fun ds => if ds.length ≤ 1000000 then some (X.d (.tup ds)) else none) μ1
  | .lst c es, ρ, μ => (evEs P es ρ μ).bind fun xs μ1 => (match xs.mapM X.dOf with
    | some ds => alloc c (.lst ds) μ1
    | none => .no)
  | .dic c es, ρ, μ => (evEs P es ρ μ).bind fun xs μ1 => (match pairs xs with
    | some kvs => if xs.length ≤ 30 && !xs.isEmpty then (match c with
      | true => .ok (.r μ1.length) (μ1 ++ [some (.dic kvs)])
      | false => .ok (.d (.dic kvs)) μ1) else .no
    | none => .no)
  | .idx a i, ρ, μ => (evE P a ρ μ).bind fun x μ1 => (evE P i ρ μ1).bind fun y μ2 => (match viewS μ2 x, y with
    | some x, .d y => R.lift ((idxD x y).map X.d) μ2
    | _, _ => .no)
  | .sl c a lo hi, ρ, μ => (evE P a ρ μ).bind fun x μ1 => (evO P lo ρ μ1).bind fun l μ2 => (evO P hi ρ μ2).bind fun h μ3 => slD μ3 c x l h
  | .fld a f, ρ, μ => (evE P a ρ μ).bind fun x μ1 => fldP P x f μ1
  | .call j es ds, ρ, μ => (evEs P es ρ μ).bind fun xs μ1 => P.C j (xs ++ ds.map X.d) μ1
  | .mk c es ds, ρ, μ => (evEs P es ρ μ).bind fun xs μ1 => (match P.methOf c "__init__" with
    | some j => (P.C1 j (.r μ1.length :: (xs ++ ds.map X.d)) (μ1 ++ [some (.ins c [])])).bind fun y μ2 => (match y with
      | .d .non => .ok (.r μ1.length) μ2
      | _ => .no)
    | none => .no)
  | .meth m o es ds, ρ, μ => (evE P o ρ μ).bind fun x μ1 => (match insOf μ1 x with
    | some c => (match P.methOf c m with
      | some j => if (fldX μ1 x m).isNone then (evEs P es ρ μ1).bind fun xs μ2 => P.C j (x :: (xs ++ ds.map X.d)) μ2 else .no
      | none => .no)
    | none => .no)
  | .blt c b es, ρ, μ => (evEs P es ρ μ).bind fun xs μ1 => bltP P μ1 c b xs
  | .isi a ts, ρ, μ => (evE P a ρ μ).bind fun x μ1 => if tyKnown μ1 x then .ok (.d (.bl (ts.any (isTy μ1 x)))) μ1 else .no
  | .lm m o es, ρ, μ => (evE P o ρ μ).bind fun x μ1 => if isLst μ1 x then (evEs P es ρ μ1).bind fun xs μ2 => lmD μ2 m x xs else .no
  | .lrng c a b, ρ, μ => (match b with
    | .none => (evE P a ρ μ).bind fun x μ1 => (match intX x with
      | some j => if small j then alloc c (.lst (upTo 0 j.toNat)) μ1 else .no
      | none => .no)
    | .some b => (evE P a ρ μ).bind fun x μ1 => (evE P b ρ μ1).bind fun y μ2 => (match intX x, intX y with
      | some i, some j => if small i && small j then alloc c (.lst (upTo i (j - i).toNat)) μ2 else .no
      | _, _ => .no))
  | .lc c tg it ifs elt own, ρ, μ => (evIt P it ρ μ).bind fun ds μ1 =>
    (lcD (bindTg tg) (evA P ifs) (evE P elt) (wipeE ρ own) ds [] μ1).bind fun ys μ2 => alloc c (.lst ys) μ2
  | .frz a, ρ, μ => (evE P a ρ μ).bind fun x μ1 => frzX μ1 x
/-- a slice's end -/
def evO (P : Par) : Eo → Env → Mu → R (Option Int)
  | .none, _, μ => .ok none μ
  | .some e, ρ, μ => (evE P e ρ μ).bind fun x μ1 => R.lift ((intX x).map some) μ1
def evEs (P : Par) : Es → Env → Mu → R (List X)
  | .nil, _, μ => .ok [] μ
  | .cons e r, ρ, μ => (evE P e ρ μ).bind fun x μ1 => (evEs P r ρ μ1).bind fun xs μ2 => .ok (x :: xs) μ2
/-- an f-string's parts, joined -/
def evJ (P : Par) : Es → Str → Env → Mu → R Str
  | .nil, acc, _, μ => .ok acc μ
  | .cons e r, acc, ρ, μ => (evE P e ρ μ).bind fun x μ1 => (match x with
    | .d (.str y) => if (acc ++ y).length ≤ 1000000 then evJ P r (acc ++ y) ρ μ1 else .no
    | _ => .no)
/-- and, or: all but the last True or False -/
def evB (P : Par) (cj : Bool) : Es → Env → Mu → R X
  | .nil, _, _ => .no
  | .cons e r, ρ, μ => (evE P e ρ μ).bind fun x μ1 => (match r with
    | .nil => .ok x μ1
    | .cons _ _ => (match x with
      | .d (.bl b) => if b = cj then evB P cj r ρ μ1 else .ok (.d (.bl b)) μ1
      | _ => .no))
/-- a test -/
def evT (P : Par) : T → Env → Mu → R Bool
  | .bop cj ts, ρ, μ => evTs P cj ts ρ μ
  | .not a, ρ, μ => (evT P a ρ μ).bind fun k μ1 => .ok (!k) μ1
  | .cmp op a b, ρ, μ => (evE P a ρ μ).bind fun x μ1 => (evE P b ρ μ1).bind fun y μ2 => cmpX P op x y μ2
  | .chain o1 o2 a b c, ρ, μ => (evE P a ρ μ).bind fun x μ1 => (evE P b ρ μ1).bind fun y μ2 => (cmpX P o1 x y μ2).bind fun k μ3 =>
    if k then (evE P c ρ μ3).bind fun z μ4 => cmpX P o2 y z μ4 else .ok false μ3
  | .isi a ts, ρ, μ => (evE P a ρ μ).bind fun x μ1 => if tyKnown μ1 x then .ok (ts.any (isTy μ1 x)) μ1 else .no
  | .val e, ρ, μ => (evE P e ρ μ).bind fun x μ1 => (match view μ1 x with
    | some d => R.lift (truth d) μ1
    | none => .no)
def evTs (P : Par) (cj : Bool) : Ts → Env → Mu → R Bool
  | .nil, _, μ => .ok cj μ
  | .cons t r, ρ, μ => (evT P t ρ μ).bind fun k μ1 => if k = cj then evTs P cj r ρ μ1 else .ok k μ1
/-- a clause's test -/
def evA (P : Par) : To → Env → Mu → R Bool
  | .none, _, μ => .ok true μ
  | .some t, ρ, μ => evT P t ρ μ
def evIt (P : Par) : It → Env → Mu → R (List D)
  | .seq e, ρ, μ => (evE P e ρ μ).bind fun x μ1 => (match x with
    | .d x => R.lift (seqOf x) μ1
    | _ => .no)
  | .rng1 e, ρ, μ => (evE P e ρ μ).bind fun x μ1 => (match intX x with
    | some j => if small j then .ok (upTo 0 j.toNat) μ1 else .no
    | none => .no)
  | .rng2 a b, ρ, μ => (evE P a ρ μ).bind fun x μ1 => (evE P b ρ μ1).bind fun y μ2 => (match intX x, intX y with
    | some i, some j => if small i && small j then .ok (upTo i (j - i).toNat) μ2 else .no
    | _, _ => .no)
  | .enum e, ρ, μ => (evE P e ρ μ).bind fun x μ1 => (match x with
    | .d (.lst xs) => .ok (enumD 0 xs) μ1
    | _ => .no)
  | .zip a b, ρ, μ => (evE P a ρ μ).bind fun x μ1 => (evE P b ρ μ1).bind fun y μ2 => (match x, y with
    | .d (.lst xs), .d (.lst ys) => .ok (zipD xs ys) μ2
    | _, _ => .no)
  | .rev _, _, _ => .no
end
/-- a statement's end -/
inductive Fl where
  | nx (ρ : Env) | rt (x : X) | bk (ρ : Env) | ct (ρ : Env) | ex (e : Exn) (ρ : Env)
/-- statements' ends: nothing but .ok is used for what is raised -/
def R.st {α : Type} (ρ : Env) : R α → (α → Mu → R Fl) → R Fl
  | .ok a μ, f => f a μ
  | .er e μ, _ => .ok (.ex e ρ) μ
  | .no, _ => .no
def whileD (c : Env → Mu → R Bool) (b : Env → Mu → R Fl) : Nat → Env → Mu → R Fl
  | 0, _, _ => .no
  | n + 1, ρ, μ => (c ρ μ).st ρ fun k μ1 => if k then (match b ρ μ1 with
      | .ok (.nx ρ') μ2 => let t := tidy μ.length ρ' μ2; whileD c b n t.1 t.2
      | .ok (.ct ρ') μ2 => let t := tidy μ.length ρ' μ2; whileD c b n t.1 t.2
      | .ok (.bk ρ') μ2 => .ok (.nx ρ') μ2
      | r => r) else .ok (.nx ρ) μ1
def forD (bind : D → Env → Option Env) (b : Env → Mu → R Fl) : List D → Env → Mu → R Fl
  | [], ρ, μ => .ok (.nx ρ) μ
  | x :: xs, ρ, μ => match bind x ρ with
    | none => .no
    | some ρ1 => match b ρ1 μ with
      | .ok (.nx ρ') μ2 => let t := tidy μ.length ρ' μ2; forD bind b xs t.1 t.2
      | .ok (.ct ρ') μ2 => let t := tidy μ.length ρ' μ2; forD bind b xs t.1 t.2
      | .ok (.bk ρ') μ2 => .ok (.nx ρ') μ2
      | r => r
mutual
def evS (P : Par) : S → Env → Mu → R Fl
  | .set i e, ρ, μ => (evE P e ρ μ).st ρ fun x μ1 => .ok (.nx (ρ.set i (some x))) μ1
  | .unp is e, ρ, μ => (evE P e ρ μ).st ρ fun x μ1 => (match x with
    | .d x => (match bindTg (.tp is) x ρ with
      | some ρ' => .ok (.nx ρ') μ1
      | none => .no)
    | _ => .no)
  | .par i j a b, ρ, μ => (evE P a ρ μ).st ρ fun x μ1 => (evE P b ρ μ1).st ρ fun y μ2 => .ok (.nx ((ρ.set i (some x)).set j (some y))) μ2
  | .setI o i e, ρ, μ => (evE P e ρ μ).st ρ fun v μ1 => (evE P o ρ μ1).st ρ fun x μ2 => (evE P i ρ μ2).st ρ fun y μ3 => (setIX μ3 x y v).st ρ fun _ μ4 => .ok (.nx ρ) μ4
  | .setF o f e, ρ, μ => (evE P e ρ μ).st ρ fun v μ1 => (evE P o ρ μ1).st ρ fun x μ2 => (match insOf μ2 x with
    | some c => if P.fldOk c f then (setFX μ2 x f v).st ρ fun _ μ3 => .ok (.nx ρ) μ3 else .no
    | none => .no)
  | .augN i sub e, ρ, μ => (match ρ[i]? with
    | some (some (.d (.int a))) => (evE P e ρ μ).st ρ fun x μ1 => (match x with
      | .d (.int b) => .ok (.nx (ρ.set i (some (.d (.int (if sub then a - b else a + b)))))) μ1
      | _ => .no)
    | _ => .no)
  | .ex e, ρ, μ => (evE P e ρ μ).st ρ fun _ μ1 => .ok (.nx ρ) μ1
  | .ite c t f, ρ, μ => (evT P c ρ μ).st ρ fun k μ1 => if k then evSs P t ρ μ1 else evSs P f ρ μ1
  | .for_ tg it b, ρ, μ => (evIt P it ρ μ).st ρ fun ds μ1 => forD (bindTg tg) (evSs P b) ds ρ μ1
  | .whl c b, ρ, μ => whileD (evT P c) (evSs P b) P.W ρ μ
  | .ret e, ρ, μ => (evE P e ρ μ).st ρ fun x μ1 => .ok (.rt x) μ1
  | .retN, _, μ => .ok (.rt (.d .non)) μ
  | .pass, ρ, μ => .ok (.nx ρ) μ
  | .brk, ρ, μ => .ok (.bk ρ) μ
  | .cnt, ρ, μ => .ok (.ct ρ) μ
  | .frz i, ρ, μ => (match ρ[i]? with
    | some (some x) => (match frzX μ x with
      | .ok y μ1 => .ok (.nx (ρ.set i (some y))) μ1
      | _ => .no)
    | _ => .no)
  | .never, _, _ => .no
def evSs (P : Par) : Ss → Env → Mu → R Fl
  | .nil, ρ, μ => .ok (.nx ρ) μ
  | .cons s r, ρ, μ => match evS P s ρ μ with
    | .ok (.nx ρ1) μ1 => evSs P r ρ1 μ1
    | z => z
end
/-- a def: how many parameters, how many slots, its body -/
structure Fn where
  ar : Nat
  sl : Nat
  body : Ss
structure Tab where
  fns : List Fn
  glo : Nat → Option D
  methOf : Nat → Str → Option Nat
  propOf : Nat → Str → Option Nat
  fldOk : Nat → Str → Bool
def fin (n : Nat) : R Fl → R X
  | .ok (.rt x) μ => (match x with
    | .d y => .ok (.d y) (tidy n [] μ).2
    | .r k => .ok (.r k) μ)
  | .ok (.nx _) μ => .ok (.d .non) (tidy n [] μ).2
  | .ok (.ex e _) μ => .er e (tidy n [] μ).2
  | _ => .no
/-- a def's body -/
def bodyD (T : Tab) (W : Nat) (C C1 : CallF) : CallF := fun j xs μ => match T.fns[j]? with
  | none => .no
  | some f => if xs.length = f.ar then
      fin μ.length (evSs ⟨C, C1, W, T.glo, T.methOf, T.propOf, T.fldOk⟩ f.body (xs.map some ++ List.replicate (f.sl - f.ar) none) μ)
    else .no
def noC : CallF := fun _ _ _ => .no
/-- calls of a depth, and of one less -/
def callP (T : Tab) (W : Nat) : Nat → CallF × CallF
  | 0 => (noC, noC)
  | n + 1 => (bodyD T W (callP T W n).1 (callP T W n).2, (callP T W n).1)
def callD (T : Tab) (W n : Nat) : CallF := (callP T W n).1
def callE (T : Tab) (W n : Nat) : CallF := (callP T W n).2
abbrev parOf (T : Tab) (W n : Nat) : Par := ⟨callD T W n, callE T W n, W, T.glo, T.methOf, T.propOf, T.fldOk⟩
theorem callE_succ (T : Tab) (W n : Nat) : callE T W (n + 1) = callD T W n := rfl
theorem callD_succ (T : Tab) (W n : Nat) : callD T W (n + 1) = bodyD T W (callD T W n) (callE T W n) := rfl
end DL
/-! DL1: what values stand for, the relation of states, expressions. -/
namespace DL
open PySem PySem.Spec PyProof.Rows L2
/-- the setting -/
structure G where
  P : Program
  w : World
  K : PySem.W.Frag
  mg : Str → Option Value
  base : Heap
  cA : Nat → Addr
  fA : Nat → Addr
  nC : Nat
/-! ### what a value stands for -/
inductive DKey : Key → DK → Prop
  | i (n : Int) : DKey (.inl n) (.i n)
  | s (x : Str) : DKey (.inr x) (.s x)
/-- a list, a tuple of the written part -/
def WrL (K : PySem.W.Frag) (a : Addr) (vs : List V) : Prop := ∀ H, SqL K H a vs
def WrT (K : PySem.W.Frag) (a : Addr) (vs : List V) : Prop := ∀ H, SqT K H a vs
mutual
/-- a constant of the written part -/
inductive CDen (K : PySem.W.Frag) : V → D → Prop
  | non : CDen K .non .non
  | bl (b : Bool) : CDen K (.bl b) (.bl b)
  | int (i : Int) : CDen K (.int i) (.int i)
  | str (x : Str) : CDen K (.str x) (.str x)
  | kls {a : Addr} {vs : List V} {ds : List D} : WrL K a vs → CDens K vs ds → CDen K (.ref a) (.kls ds)
  | tup {a : Addr} {vs : List V} {ds : List D} : WrT K a vs → CDens K vs ds → CDen K (.ref a) (.tup ds)
inductive CDens (K : PySem.W.Frag) : List V → List D → Prop
  | nil : CDens K [] []
  | cons {v : V} {vs : List V} {d : D} {ds : List D} : CDen K v d → CDens K vs ds → CDens K (v :: vs) (d :: ds)
end
/-- a written dict with text keys -/
def KVal (K : PySem.W.Frag) : Option D → Option Value → Prop
  | some d, some u => ∃ v, RelV v u ∧ CDen K v d
  | none, none => True
  | _, _ => False
def KDicR (K : PySem.W.Frag) (w : World) (a : Addr) (kvs : List (Str × D)) : Prop := ∃ es n, KDict K w a es n ∧ ∀ z : Str, ∃ r, PySem.W.nsIn K a z = some r ∧ KVal K (kvs.lookup z) r
section
variable (g : G) (H : Hp)
mutual
inductive Den : V → D → Prop
  | non : Den .non .non
  | bl (b : Bool) : Den (.bl b) (.bl b)
  | int (i : Int) : Den (.int i) (.int i)
  | str (x : Str) : Den (.str x) (.str x)
  | lst {a : Addr} {vs : List V} {ds : List D} : H a = some (.lst vs) → Dens vs ds → Den (.ref a) (.lst ds)
  | kls {a : Addr} {vs : List V} {ds : List D} : SqL g.K H a vs → Dens vs ds → Den (.ref a) (.kls ds)
  | tup {a : Addr} {vs : List V} {ds : List D} : SqT g.K H a vs → Dens vs ds → Den (.ref a) (.tup ds)
  | dic {a : Addr} {ks : List (Key × V)} {kvs : List (DK × D)} : Rd H a (.dK ks) → Denk ks kvs → Den (.ref a) (.dic kvs)
  | kdic {a : Addr} {kvs : List (Str × D)} : KDicR g.K g.w a kvs → Den (.ref a) (.kdic kvs)
  | ins {a dx : Addr} {c : Nat} {vf : List (Str × V)} {fs : List (Str × D)} : c < g.nC → H a = some (.ins (g.cA c) dx vf) → Denf vf fs → Den (.ref a) (.ins c fs)
  | fn (j : Nat) : Den (.ref (g.fA j)) (.fn j)
  | cls (c : Nat) : Den (.ref (g.cA c)) (.cls c)
inductive Dens : List V → List D → Prop
  | nil : Dens [] []
  | cons {v : V} {vs : List V} {d : D} {ds : List D} : Den v d → Dens vs ds → Dens (v :: vs) (d :: ds)
inductive Denf : List (Str × V) → List (Str × D) → Prop
  | nil : Denf [] []
  | cons {f : Str} {v : V} {vs : List (Str × V)} {d : D} {ds : List (Str × D)} : Den v d → Denf vs ds → Denf ((f, v) :: vs) ((f, d) :: ds)
inductive Denk : List (Key × V) → List (DK × D) → Prop
  | nil : Denk [] []
  | cons {k : Key} {q : DK} {v : V} {vs : List (Key × V)} {d : D} {ds : List (DK × D)} : DKey k q → Den v d → Denk vs ds → Denk ((k, v) :: vs) ((q, d) :: ds)
end
end
def Ex (H H' : Hp) : Prop := ∀ a o, H a = some o → H' a = some o
theorem Ex.refl (H : Hp) : Ex H H := fun _ _ h => h
theorem Ex.trans {H H1 H2 : Hp} (a : Ex H H1) (b : Ex H1 H2) : Ex H H2 := fun x o h => b x o (a x o h)
theorem Ex.new {H : Hp} {p : Addr} {o : HO} (h : H p = none) : Ex H (upd H p o) := fun a u e => by
  rw [upd_ne (ne_of_none e h)]
  exact e
theorem ex_rd {H H' : Hp} {a : Addr} {u : HO} (e : Ex H H') (h : Rd H a u) : Rd H' a u := by
  rcases h with h | ⟨o, h⟩
  · exact Or.inl (e a _ h)
  · exact Or.inr ⟨o, e a _ h⟩
theorem ex_l {K : PySem.W.Frag} {H H' : Hp} {a : Addr} {xs : List V} (e : Ex H H') (h : SqL K H a xs) : SqL K H' a xs := by
  rcases h with h | h
  · exact Or.inl (ex_rd e h)
  · exact Or.inr h
theorem ex_t {K : PySem.W.Frag} {H H' : Hp} {a : Addr} {xs : List V} (e : Ex H H') (h : SqT K H a xs) : SqT K H' a xs := by
  rcases h with h | h
  · exact Or.inl (ex_rd e h)
  · exact Or.inr h
section
variable {g : G} {H H' : Hp}
mutual
theorem Den.mono (e : Ex H H') : ∀ {v : V} {d : D}, Den g H v d → Den g H' v d
  | _, _, .non => .non
  | _, _, .bl b => .bl b
  | _, _, .int i => .int i
  | _, _, .str x => .str x
  | _, _, .lst h hs => .lst (e _ _ h) (Dens.mono e hs)
  | _, _, .kls h hs => .kls (ex_l e h) (Dens.mono e hs)
  | _, _, .tup h hs => .tup (ex_t e h) (Dens.mono e hs)
  | _, _, .dic h hs => .dic (ex_rd e h) (Denk.mono e hs)
  | _, _, .kdic h => .kdic h
  | _, _, .ins hc h hs => .ins hc (e _ _ h) (Denf.mono e hs)
  | _, _, .fn j => .fn j
  | _, _, .cls c => .cls c
theorem Dens.mono (e : Ex H H') : ∀ {vs : List V} {ds : List D}, Dens g H vs ds → Dens g H' vs ds
  | _, _, .nil => .nil
  | _, _, .cons h hs => .cons (Den.mono e h) (Dens.mono e hs)
theorem Denf.mono (e : Ex H H') : ∀ {vs : List (Str × V)} {ds : List (Str × D)}, Denf g H vs ds → Denf g H' vs ds
  | _, _, .nil => .nil
  | _, _, .cons h hs => .cons (Den.mono e h) (Denf.mono e hs)
theorem Denk.mono (e : Ex H H') : ∀ {vs : List (Key × V)} {ds : List (DK × D)}, Denk g H vs ds → Denk g H' vs ds
  | _, _, .nil => .nil
  | _, _, .cons k h hs => .cons k (Den.mono e h) (Denk.mono e hs)
end
theorem Dens.length : ∀ {vs : List V} {ds : List D}, Dens g H vs ds → vs.length = ds.length
  | _, _, .nil => rfl
  | _, _, .cons _ hs => congrArg (· + 1) hs.length
theorem Dens.get : ∀ {vs : List V} {ds : List D} {i : Nat} {d : D}, Dens g H vs ds → ds[i]? = some d → ∃ v, vs[i]? = some v ∧ Den g H v d
  | _, _, i, d, .nil, e => by simp at e
  | _, _, 0, d, .cons h _, e => by
    simp at e
    subst e
    exact ⟨_, rfl, h⟩
  | _, _, i + 1, d, .cons _ hs, e => by
    obtain ⟨v, h1, h2⟩ := Dens.get (i := i) hs (by simpa using e)
    exact ⟨v, by simpa using h1, h2⟩
theorem Dens.get' : ∀ {vs : List V} {ds : List D} {i : Nat} {v : V}, Dens g H vs ds → vs[i]? = some v → ∃ d, ds[i]? = some d ∧ Den g H v d
  | _, _, i, d, .nil, e => by simp at e
  | _, _, 0, d, .cons h _, e => by
    simp at e
    subst e
    exact ⟨_, rfl, h⟩
  | _, _, i + 1, d, .cons _ hs, e => by
    obtain ⟨v, h1, h2⟩ := Dens.get' (i := i) hs (by simpa using e)
    exact ⟨v, by simpa using h1, h2⟩
theorem Dens.append : ∀ {vs ws : List V} {ds es : List D}, Dens g H vs ds → Dens g H ws es → Dens g H (vs ++ ws) (ds ++ es)
  | _, _, _, _, .nil, h => h
  | _, _, _, _, .cons h hs, h2 => .cons h (hs.append h2)
theorem Dens.set {x : V} {d : D} (r : Den g H x d) : ∀ {vs : List V} {ds : List D} (i : Nat), Dens g H vs ds → Dens g H (vs.set i x) (ds.set i d)
  | _, _, _, .nil => .nil
  | _, _, 0, .cons _ t => .cons r t
  | _, _, i + 1, .cons q t => .cons q (Dens.set r i t)
theorem Denf.look : ∀ {vs : List (Str × V)} {ds : List (Str × D)} {f : Str} {d : D}, Denf g H vs ds → ds.lookup f = some d → ∃ v, vs.lookup f = some v ∧ Den g H v d
  | _, _, f, d, .nil, e => by cases e
  | _, _, f, d, .cons (f := f') h hs, e => by
    rw [List.lookup_cons] at e
    rw [List.lookup_cons]
    cases q : (f == f') with
    | true =>
      rw [q] at e
      cases e
      exact ⟨_, rfl, h⟩
    | false =>
      rw [q] at e
      exact hs.look e
theorem Denf.none : ∀ {vs : List (Str × V)} {ds : List (Str × D)} {f : Str}, Denf g H vs ds → ds.lookup f = none → vs.lookup f = none
  | _, _, f, .nil, e => rfl
  | _, _, f, .cons (f := f') h hs, e => by
    rw [List.lookup_cons] at e
    rw [List.lookup_cons]
    cases q : (f == f') with
    | true =>
      rw [q] at e
      cases e
    | false =>
      rw [q] at e
      exact hs.none e
end
/-! ### places -/
def XDen (g : G) (H : Hp) (ι : List Addr) (v : V) : X → Prop
  | .d x => Den g H v x
  | .r k => ∃ a, ι[k]? = some a ∧ v = .ref a
inductive XDens (g : G) (H : Hp) (ι : List Addr) : List V → List X → Prop
  | nil : XDens g H ι [] []
  | cons {v : V} {vs : List V} {x : X} {xs : List X} : XDen g H ι v x → XDens g H ι vs xs → XDens g H ι (v :: vs) (x :: xs)
inductive XDenf (g : G) (H : Hp) (ι : List Addr) : List (Str × V) → List (Str × X) → Prop
  | nil : XDenf g H ι [] []
  | cons {f : Str} {v : V} {vs : List (Str × V)} {x : X} {xs : List (Str × X)} : XDen g H ι v x → XDenf g H ι vs xs → XDenf g H ι ((f, v) :: vs) ((f, x) :: xs)
section
variable {g : G} {H H' : Hp} {ι ι' : List Addr}
theorem XDen.mono (e : Ex H H') (p : ∃ m, ι' = ι ++ m) {v : V} : ∀ {x : X}, XDen g H ι v x → XDen g H' ι' v x
  | .d x, h => Den.mono e h
  | .r k, ⟨a, h, q⟩ => by
    obtain ⟨m, rfl⟩ := p
    exact ⟨a, by rw [List.getElem?_append_left (List.getElem?_eq_some_iff.mp h).1]; exact h, q⟩
theorem XDens.mono (e : Ex H H') (p : ∃ m, ι' = ι ++ m) : ∀ {vs : List V} {xs : List X}, XDens g H ι vs xs → XDens g H' ι' vs xs
  | _, _, .nil => .nil
  | _, _, .cons h hs => .cons (XDen.mono e p h) (XDens.mono e p hs)
theorem XDenf.mono (e : Ex H H') (p : ∃ m, ι' = ι ++ m) : ∀ {vs : List (Str × V)} {xs : List (Str × X)}, XDenf g H ι vs xs → XDenf g H' ι' vs xs
  | _, _, .nil => .nil
  | _, _, .cons h hs => .cons (XDen.mono e p h) (XDenf.mono e p hs)
theorem XDens.length : ∀ {vs : List V} {ds : List X}, XDens g H ι vs ds → vs.length = ds.length
  | _, _, .nil => rfl
  | _, _, .cons _ hs => congrArg (· + 1) hs.length
theorem XDens.toD : ∀ {vs : List V} {xs : List X} {ds : List D}, XDens g H ι vs xs → xs.mapM X.dOf = some ds → Dens g H vs ds
  | _, _, ds, .nil, e => by
    cases e
    exact .nil
  | _, _, ds, .cons (x := x) (xs := xs) h hs, e => by
    rw [List.mapM_cons] at e
    cases x with
    | r k => cases e
    | d x =>
      cases q : xs.mapM X.dOf with
      | none =>
        rw [q] at e
        cases e
      | some r =>
        rw [q] at e
        cases e
        exact .cons h (hs.toD q)
theorem XDenf.look : ∀ {vs : List (Str × V)} {ds : List (Str × X)} {f : Str} {d : X}, XDenf g H ι vs ds → ds.lookup f = some d → ∃ v, vs.lookup f = some v ∧ XDen g H ι v d
  | _, _, f, d, .nil, e => by cases e
  | _, _, f, d, .cons (f := f') h hs, e => by
    rw [List.lookup_cons] at e
    rw [List.lookup_cons]
    cases q : (f == f') with
    | true =>
      rw [q] at e
      cases e
      exact ⟨_, rfl, h⟩
    | false =>
      rw [q] at e
      exact hs.look e
end
theorem XDenf.none {g : G} {H : Hp} {ι : List Addr} : ∀ {vs : List (Str × V)} {ds : List (Str × X)} {f : Str}, XDenf g H ι vs ds → ds.lookup f = none → vs.lookup f = none
  | _, _, f, .nil, e => rfl
  | _, _, f, .cons (f := f') h hs, e => by
    rw [List.lookup_cons] at e
    rw [List.lookup_cons]
    cases q : (f == f') with
    | true =>
      rw [q] at e
      cases e
    | false =>
      rw [q] at e
      exact hs.none e
/-- what stands in a cell -/
def CellRel (g : G) (H0 : Hp) (ι : List Addr) (H : Hp) (a : Addr) : Node → Prop
  | .lst xs => ∃ vs, H a = some (.lst vs) ∧ Dens g H0 vs xs
  | .dic kvs => ∃ ks, H a = some (.dK ks) ∧ Denk g H0 ks kvs
  | .ins c fs => c < g.nC ∧ ∃ dx vf, H a = some (.ins (g.cA c) dx vf) ∧ XDenf g H0 ι vf fs
theorem CellRel.mono {g : G} {H0 H0' H H' : Hp} {ι ι' : List Addr} {a : Addr} {nd : Node} (e : Ex H0 H0') (p : ∃ m, ι' = ι ++ m) (k : ∀ o, H a = some o → H' a = some o) (h : CellRel g H0 ι H a nd) : CellRel g H0' ι' H' a nd := by
  cases nd with
  | lst xs =>
    obtain ⟨vs, h5, h6⟩ := h
    exact ⟨vs, k _ h5, h6.mono e⟩
  | dic kvs =>
    obtain ⟨vs, h5, h6⟩ := h
    exact ⟨vs, k _ h5, h6.mono e⟩
  | ins c fs =>
    obtain ⟨hc, dx, vf, h5, h6⟩ := h
    exact ⟨hc, dx, vf, k _ h5, h6.mono e p⟩
theorem CellRel.some {g : G} {H0 H : Hp} {ι : List Addr} {a : Addr} {nd : Node} (h : CellRel g H0 ι H a nd) : ∃ o, H a = some o := by
  cases nd with
  | lst xs => exact ⟨_, h.choose_spec.1⟩
  | dic kvs => exact ⟨_, h.choose_spec.1⟩
  | ins c fs => obtain ⟨_, dx, vf, h5, h6⟩ := h; exact ⟨_, h5⟩
structure Rel (g : G) (H0 H : Hp) (σ : L2.St) (ρ : Env) (μ : Mu) (ι : List Addr) : Prop where
  ex : Ex H0 H
  slot : ∀ (i : Nat) (x : X), ρ[i]? = some (some x) → ∃ v, σ[i]? = some (some v) ∧ XDen g H0 ι v x
  sl : ρ.length ≤ σ.length
  len : ι.length = μ.length
  inj : ι.Nodup
  tr : ∀ a ∈ ι, H a ≠ none
  cell : ∀ (k : Nat) (nd : Node) (a : Addr), μ[k]? = some (some nd) → ι[k]? = some a → H0 a = none ∧ CellRel g H0 ι H a nd
/-- a step of a state -/
structure Stp (H0 H : Hp) (ι : List Addr) (H0' H' : Hp) (ι' : List Addr) : Prop where
  e0 : Ex H0 H0'
  pre : ∃ m, ι' = ι ++ m ∧ ∀ a ∈ m, H a = none
  fr : ∀ b o, H b = some o → b ∉ ι → H' b = some o
  nw : ∀ b o, H b = some o → H0 b = none → b ∉ ι → H0' b = none
  th : ∀ b, H' b = none → H b = none
section
variable {g : G} {H0 H H0' H' H0'' H'' : Hp} {ι ι' ι'' : List Addr} {σ σ' : L2.St} {ρ ρ' : Env} {μ μ' : Mu}
theorem Stp.refl : Stp H0 H ι H0 H ι := ⟨Ex.refl _, ⟨[], by simp, fun a h => by cases h⟩, fun _ _ h _ => h, fun _ _ _ h _ => h, fun _ h => h⟩
theorem Stp.p (s : Stp H0 H ι H0' H' ι') : ∃ m, ι' = ι ++ m := let ⟨m, e, _⟩ := s.pre; ⟨m, e⟩
theorem Stp.out (s : Stp H0 H ι H0' H' ι') {b : Addr} {o : HO} (h : H b = some o) (n : b ∉ ι) : b ∉ ι' := by
  obtain ⟨m, e, f⟩ := s.pre
  rw [e]
  intro z
  rcases List.mem_append.mp z with z | z
  · exact n z
  · rw [f b z] at h
    cases h
theorem Stp.trans (s : Stp H0 H ι H0' H' ι') (t : Stp H0' H' ι' H0'' H'' ι'') : Stp H0 H ι H0'' H'' ι'' := by
  obtain ⟨m, e, f⟩ := s.pre
  obtain ⟨m', e', f'⟩ := t.pre
  refine ⟨s.e0.trans t.e0, ⟨m ++ m', by rw [e', e, List.append_assoc], fun a ha => ?_⟩, fun b o h n => t.fr b o (s.fr b o h n) (s.out h n), fun b o h h0 n => t.nw b o (s.fr b o h n) (s.nw b o h h0 n) (s.out h n), fun b h => s.th b (t.th b h)⟩
  rcases List.mem_append.mp ha with z | z
  · exact f a z
  · exact s.th a (f' a z)
theorem XDen.stp (s : Stp H0 H ι H0' H' ι') {v : V} {x : X} (h : XDen g H0 ι v x) : XDen g H0' ι' v x := h.mono s.e0 s.p
/-- the slots' part -/
theorem Rel.slots (r : Rel g H0 H σ ρ μ ι) (hl : ρ'.length ≤ σ'.length) (h : ∀ (i : Nat) (x : X), ρ'[i]? = some (some x) → ∃ v, σ'[i]? = some (some v) ∧ XDen g H0 ι v x) : Rel g H0 H σ' ρ' μ ι := ⟨r.ex, h, hl, r.len, r.inj, r.tr, r.cell⟩
theorem Rel.bare (r : Rel g H0 H σ ρ μ ι) : Rel g H0 H [] [] μ ι := r.slots (Nat.le_refl _) fun i x e => by simp at e
theorem Rel.noSlots (r : Rel g H0 H σ ρ μ ι) : Rel g H0 H σ [] μ ι := r.slots (Nat.zero_le _) fun i x e => by simp at e
theorem Rel.setSlot (r : Rel g H0 H σ ρ μ ι) {i : Nat} {v : V} {x : X} (h : XDen g H0 ι v x) : Rel g H0 H (σ.set i (some v)) (ρ.set i (some x)) μ ι := r.slots (by rw [List.length_set, List.length_set]; exact r.sl) fun j y e => by
  by_cases hj : j = i
  · subst hj
    have hl : j < ρ.length := by
      have := (List.getElem?_eq_some_iff.mp e).1
      rw [List.length_set] at this
      exact this
    rw [List.getElem?_set_self hl] at e
    have e' : x = y := by simpa using e
    subst e'
    exact ⟨v, List.getElem?_set_self (Nat.lt_of_lt_of_le hl r.sl), h⟩
  · rw [List.getElem?_set_ne (Ne.symm hj)] at e
    rw [List.getElem?_set_ne (Ne.symm hj)]
    exact r.slot j y e
theorem Rel.free (r : Rel g H0 H σ ρ μ ι) {p : Addr} (hp : H p = none) : H0 p = none := by
  cases q : H0 p with
  | none => rfl
  | some u =>
    rw [r.ex p u q] at hp
    cases hp
theorem Rel.notIn (r : Rel g H0 H σ ρ μ ι) {p : Addr} (hp : H p = none) : p ∉ ι := fun z => r.tr p z hp
/-- a new object that is a value -/
theorem Rel.value (r : Rel g H0 H σ ρ μ ι) {p : Addr} {o : HO} (hp : H p = none) : Rel g (upd H0 p o) (upd H p o) σ ρ μ ι ∧ Stp H0 H ι (upd H0 p o) (upd H p o) ι := by
  have h0 := r.free hp
  have e0 : Ex H0 (upd H0 p o) := Ex.new h0
  have i0 : ∃ m, ι = ι ++ m := ⟨[], by simp⟩
  refine ⟨⟨fun b u h => ?_, fun i x e => ?_, r.sl, r.len, r.inj, fun a ha h => ?_, fun k nd a h1 h2 => ?_⟩, e0, ⟨[], by simp, fun a h => by cases h⟩, fun b u h _ => Ex.new hp b u h, fun b u h h0' n => ?_, fun b h => ?_⟩
  · by_cases hb : b = p
    · subst hb
      rw [upd_same] at h ⊢
      exact h
    · rw [upd_ne hb] at h ⊢
      exact r.ex b u h
  · obtain ⟨v, h1, h2⟩ := r.slot i x e
    exact ⟨v, h1, h2.mono e0 i0⟩
  · have ne : a ≠ p := fun z => r.tr a ha (by rw [z]; exact hp)
    rw [upd_ne ne] at h
    exact r.tr a ha h
  · obtain ⟨h3, h4⟩ := r.cell k nd a h1 h2
    obtain ⟨o', h5⟩ := h4.some
    have ne := ne_of_none h5 hp
    exact ⟨by rw [upd_ne ne]; exact h3, h4.mono e0 i0 fun o q => by rw [upd_ne ne]; exact q⟩
  · rw [upd_ne (ne_of_none h hp)]
    exact h0'
  · by_cases hb : b = p
    · rw [hb]; exact hp
    · rw [upd_ne hb] at h
      exact h
/-- a new object that is a cell -/
theorem Rel.newCell (r : Rel g H0 H σ ρ μ ι) {p : Addr} {o : HO} {nd : Node} (hp : H p = none) (hn : CellRel g H0 (ι ++ [p]) (upd H p o) p nd) :
    Rel g H0 (upd H p o) σ ρ (μ ++ [some nd]) (ι ++ [p]) ∧ Stp H0 H ι H0 (upd H p o) (ι ++ [p]) := by
  have h0 := r.free hp
  have pm : ∃ m, ι ++ [p] = ι ++ m := ⟨[p], rfl⟩
  refine ⟨⟨fun b u h => ?_, fun i x e => ?_, r.sl, by simp [r.len], ?_, fun a ha h => ?_, fun k nd' a h1 h2 => ?_⟩, Ex.refl _, ⟨[p], rfl, fun a h => by rw [List.mem_singleton.mp h]; exact hp⟩, fun b u h _ => Ex.new hp b u h, fun b u h h0' n => h0', fun b h => ?_⟩
  · exact Ex.new hp b u (r.ex b u h)
  · obtain ⟨v, h1, h2⟩ := r.slot i x e
    exact ⟨v, h1, h2.mono (Ex.refl _) pm⟩
  · rw [List.nodup_append]
    refine ⟨r.inj, by simp, fun a ha b hb => ?_⟩
    rw [List.mem_singleton.mp hb]
    rintro rfl
    exact r.notIn hp ha
  · rcases List.mem_append.mp ha with z | z
    · have ne : a ≠ p := fun q => r.tr a z (by rw [q]; exact hp)
      rw [upd_ne ne] at h
      exact r.tr a z h
    · rw [List.mem_singleton.mp z, upd_same] at h
      cases h
  · by_cases hk : k < μ.length
    · rw [List.getElem?_append_left hk] at h1
      rw [List.getElem?_append_left (by rw [r.len]; exact hk)] at h2
      obtain ⟨h3, h4⟩ := r.cell k nd' a h1 h2
      obtain ⟨o', h5⟩ := h4.some
      exact ⟨h3, h4.mono (Ex.refl _) pm fun o q => by rw [upd_ne (ne_of_none h5 hp)]; exact q⟩
    · have hk' : μ.length ≤ k := by omega
      rw [List.getElem?_append_right hk'] at h1
      rw [List.getElem?_append_right (by rw [r.len]; exact hk')] at h2
      have e : k - μ.length = 0 := by
        cases q : k - μ.length with
        | zero => rfl
        | succ n => rw [q] at h1; simp at h1
      rw [e] at h1
      rw [r.len, e] at h2
      simp at h1 h2
      subst h1 h2
      exact ⟨h0, hn⟩
  · by_cases hb : b = p
    · rw [hb]; exact hp
    · rw [upd_ne hb] at h
      exact h
theorem ix_inj {a : Addr} {j k : Nat} (n : ι.Nodup) (h1 : ι[j]? = some a) (h2 : ι[k]? = some a) : j = k := by
  obtain ⟨l1, e1⟩ := List.getElem?_eq_some_iff.mp h1
  obtain ⟨l2, e2⟩ := List.getElem?_eq_some_iff.mp h2
  exact (List.getElem_inj n).mp (e1.trans e2.symm)
/-- a cell is changed -/
theorem Rel.put (r : Rel g H0 H σ ρ μ ι) {k : Nat} {a : Addr} {o : HO} {nd nd' : Node} (hk : μ[k]? = some (some nd)) (ha : ι[k]? = some a) (hn : CellRel g H0 ι (upd H a o) a nd') :
    Rel g H0 (upd H a o) σ ρ (μ.set k (some nd')) ι ∧ Stp H0 H ι H0 (upd H a o) ι := by
  obtain ⟨h0, hc⟩ := r.cell k nd a hk ha
  obtain ⟨oa, hoa⟩ := hc.some
  have hkl := (List.getElem?_eq_some_iff.mp hk).1
  have ma : a ∈ ι := List.mem_of_getElem? ha
  have th : ∀ b, upd H a o b = none → H b = none := fun b h => by
    by_cases hb : b = a
    · rw [hb, upd_same] at h
      cases h
    · rw [upd_ne hb] at h
      exact h
  have i0 : ∃ m, ι = ι ++ m := ⟨[], by simp⟩
  refine ⟨⟨fun b u h => ?_, r.slot, r.sl, by simp [r.len], r.inj, fun b hb h => r.tr b hb (th b h), fun j nd2 b h1 h2 => ?_⟩, Ex.refl _, ⟨[], by simp, fun a h => by cases h⟩, fun b u h n => ?_, fun b u h h0' n => h0', th⟩
  · have ne : b ≠ a := fun z => by
      rw [z, h0] at h
      cases h
    rw [upd_ne ne]
    exact r.ex b u h
  · by_cases hj : j = k
    · subst hj
      rw [List.getElem?_set_self hkl] at h1
      have e1 : nd' = nd2 := by simpa using h1
      rw [ha] at h2
      have e2 : a = b := by simpa using h2
      subst e1 e2
      exact ⟨h0, hn⟩
    · rw [List.getElem?_set_ne (Ne.symm hj)] at h1
      obtain ⟨h3, h4⟩ := r.cell j nd2 b h1 h2
      have ne : b ≠ a := fun z => hj (ix_inj r.inj (by rw [← z]; exact h2) ha)
      exact ⟨h3, h4.mono (Ex.refl _) i0 fun u q => by rw [upd_ne ne]; exact q⟩
  · have ne : b ≠ a := fun z => n (by rw [z]; exact ma)
    rw [upd_ne ne]
    exact h
/-- a cell becomes a value -/
theorem Rel.freeze (r : Rel g H0 H σ ρ μ ι) {k : Nat} {a : Addr} {o : HO} {nd : Node} (hk : μ[k]? = some (some nd)) (ha : ι[k]? = some a) (ho : H a = some o) :
    Rel g (upd H0 a o) H σ ρ (μ.set k none) ι ∧ Stp H0 H ι (upd H0 a o) H ι := by
  obtain ⟨h0, hc⟩ := r.cell k nd a hk ha
  have e0 : Ex H0 (upd H0 a o) := Ex.new h0
  have ma : a ∈ ι := List.mem_of_getElem? ha
  have i0 : ∃ m, ι = ι ++ m := ⟨[], by simp⟩
  refine ⟨⟨fun b u h => ?_, fun i x e => ?_, r.sl, by simp [r.len], r.inj, r.tr, fun j nd2 b h1 h2 => ?_⟩, e0, ⟨[], by simp, fun a h => by cases h⟩, fun b u h n => h, fun b u h h0' n => ?_, fun b h => h⟩
  · by_cases hb : b = a
    · subst hb
      rw [upd_same] at h
      rw [← h]
      exact ho
    · rw [upd_ne hb] at h
      exact r.ex b u h
  · obtain ⟨v, h1, h2⟩ := r.slot i x e
    exact ⟨v, h1, h2.mono e0 i0⟩
  · by_cases hj : j = k
    · subst hj
      rw [List.getElem?_set_self (List.getElem?_eq_some_iff.mp hk).1] at h1
      cases h1
    · rw [List.getElem?_set_ne (Ne.symm hj)] at h1
      obtain ⟨h3, h4⟩ := r.cell j nd2 b h1 h2
      have ne : b ≠ a := fun z => hj (ix_inj r.inj (by rw [← z]; exact h2) ha)
      exact ⟨by rw [upd_ne ne]; exact h3, h4.mono e0 i0 fun u q => q⟩
  · have ne : b ≠ a := fun z => n (by rw [z]; exact ma)
    rw [upd_ne ne]
    exact h0'
/-- fields that name no cell from n on -/
theorem XDenf.cut {n : Nat} : ∀ {vf : List (Str × V)} {fs : List (Str × X)}, XDenf g H0 ι vf fs → (fs.all fun p => match p.2 with | .d _ => true | .r k => decide (k < n)) = true → XDenf g H0 (ι.take n) vf fs
  | _, _, .nil, _ => .nil
  | _, _, .cons (x := x) h hs, e => by
    rw [List.all_cons, Bool.and_eq_true] at e
    refine .cons ?_ (hs.cut e.2)
    cases x with
    | d x => exact h
    | r k =>
      obtain ⟨a, h1, h2⟩ := h
      have hk : k < n := by simpa using e.1
      exact ⟨a, by rw [List.getElem?_take_of_lt hk]; exact h1, h2⟩
theorem belowAll_get {n : Nat} : ∀ {μ : Mu} {k : Nat} {nd : Node}, belowAll n μ = true → μ[k]? = some (some nd) → nd.below n = true
  | [], k, nd, _, e => by simp at e
  | o :: μ, 0, nd, h, e => by
    have e' : o = some nd := by simpa using e
    subst e'
    unfold belowAll at h
    exact (Bool.and_eq_true_iff.mp h).1
  | o :: μ, k + 1, nd, h, e => by
    unfold belowAll at h
    exact belowAll_get (Bool.and_eq_true_iff.mp h).2 (by simpa using e)
/-- cells are dropped -/
theorem Rel.drop (r : Rel g H0 H σ ρ μ ι) {n : Nat} (hb : belowAll n (μ.take n) = true) : Rel g H0 H σ (ρ.map (clr n)) (μ.take n) (ι.take n) := by
  refine ⟨r.ex, fun i x e => ?_, by rw [List.length_map]; exact r.sl, by simp [r.len], r.inj.sublist (List.take_sublist _ _), fun a ha => r.tr a (List.mem_of_mem_take ha), fun k nd a h1 h2 => ?_⟩
  · rw [List.getElem?_map] at e
    cases q : ρ[i]? with
    | none => rw [q] at e; cases e
    | some o =>
      rw [q] at e
      have e' : clr n o = some x := by simpa using e
      cases o with
      | none => cases e'
      | some y =>
        obtain ⟨v, h1, h2⟩ := r.slot i y q
        cases y with
        | d y =>
          cases e'
          exact ⟨v, h1, h2⟩
        | r k =>
          unfold clr at e'
          by_cases hk : k < n
          · simp only [if_pos hk] at e'
            cases e'
            obtain ⟨a, h3, h4⟩ := h2
            exact ⟨v, h1, a, by rw [List.getElem?_take_of_lt hk]; exact h3, h4⟩
          · simp only [if_neg hk] at e'
            cases e'
  · have hk : k < n := by
      have := (List.getElem?_eq_some_iff.mp h1).1
      rw [List.length_take] at this
      omega
    have hbk := belowAll_get hb h1
    rw [List.getElem?_take_of_lt hk] at h1 h2
    obtain ⟨h3, h4⟩ := r.cell k nd a h1 h2
    refine ⟨h3, ?_⟩
    cases nd with
    | lst xs => exact h4
    | dic kvs => exact h4
    | ins c fs =>
      obtain ⟨hc, dx, vf, h5, h6⟩ := h4
      exact ⟨hc, dx, vf, h5, h6.cut hbk⟩
/-- .. where it can be done -/
theorem Rel.tidy (r : Rel g H0' H' σ ρ μ ι') (s : Stp H0 H ι H0' H' ι') {n : Nat} (hn : ι.length = n) : ∃ ι2, Rel g H0' H' σ (tidy n ρ μ).1 (tidy n ρ μ).2 ι2 ∧ Stp H0 H ι H0' H' ι2 ∧ (∃ m, ι' = ι2 ++ m) := by
  unfold DL.tidy
  by_cases hb : belowAll n (μ.take n) = true
  · rw [if_pos hb]
    obtain ⟨m, e, f⟩ := s.pre
    have e2 : ι'.take n = ι := by rw [e, ← hn, List.take_left]
    refine ⟨ι'.take n, r.drop hb, ?_, ⟨ι'.drop n, (List.take_append_drop n ι').symm⟩⟩
    rw [e2]
    exact ⟨s.e0, ⟨[], by simp, fun a h => by cases h⟩, s.fr, s.nw, s.th⟩
  · rw [if_neg hb]
    exact ⟨ι', r, s, ⟨[], by simp⟩⟩
end
end DL
/-! DL2: what an end is worth; expressions. -/
namespace DL
open PySem PySem.Spec PyProof.Rows L2
/-- an exception by the abstract heap -/
def EDen (g : G) (H0 H : Hp) (cls : Value) (d : Option Addr) (e : Exn) : Prop := cls = .ref (g.cA e.c) ∧ ∃ dd vf, d = some dd ∧ H dd = some (.xd vf) ∧ Denf g H0 vf e.fs
/-- an end, seen from a state: rel tells what the answer stands for -/
def Post (g : G) (W : WX) (σ : L2.St) (ρ : Env) {α β : Type} (rel : Hp → List Addr → β → α → Prop) (H0 H : Hp) (ι : List Addr) (r : R α) (Q : β → Hp → Prop) : Prop := match r with
  | .ok x μ' => ∀ v H0' H' ι', Stp H0 H ι H0' H' ι' → Rel g H0' H' σ ρ μ' ι' → rel H0' ι' v x → Q v H'
  | .er e μ' => ∀ cls d H0' H' ι', Stp H0 H ι H0' H' ι' → Rel g H0' H' σ ρ μ' ι' → EDen g H0' H' cls d e → W cls d σ H'
  | .no => False
def run (g : G) (W : WX) {α β : Type} (rel : Hp → List Addr → β → α → Prop) (ev : Env → Mu → R α) : L2.St → Hp → (β → Hp → Prop) → Prop := fun σ H Q =>
  ∃ H0 ρ μ ι, Rel g H0 H σ ρ μ ι ∧ Post g W σ ρ rel H0 H ι (ev ρ μ) Q
abbrev rX (g : G) : Hp → List Addr → V → X → Prop := fun H ι v x => XDen g H ι v x
abbrev rXs (g : G) : Hp → List Addr → List V → List X → Prop := fun H ι v x => XDens g H ι v x
abbrev rB : Hp → List Addr → Bool → Bool → Prop := fun _ _ v x => v = x
abbrev tE (g : G) (W : WX) (ev : Env → Mu → R X) : TE := run g W (rX g) ev
abbrev tT (g : G) (W : WX) (ev : Env → Mu → R Bool) : TT := run g W rB ev
abbrev tA (g : G) (W : WX) (ev : Env → Mu → R (List X)) : TA := run g W (rXs g) ev
section
variable {g : G} {W : WX} {σ : L2.St} {ρ : Env} {α β α' β' : Type} {rel : Hp → List Addr → β → α → Prop} {rel' : Hp → List Addr → β' → α' → Prop} {H0 H H0' H' : Hp} {ι ι' : List Addr} {μ μ' : Mu}
theorem Post.step (s : Stp H0 H ι H0' H' ι') {r : R α} {Q : β → Hp → Prop} (h : Post g W σ ρ rel H0 H ι r Q) : Post g W σ ρ rel H0' H' ι' r Q := by
  cases r with
  | ok x μ' => exact fun v A B C t => h v A B C (s.trans t)
  | er e μ' => exact fun c d A B C t => h c d A B C (s.trans t)
  | no => exact h
theorem Post.now {x : α} {v : β} {Q : β → Hp → Prop} (h : Post g W σ ρ rel H0 H ι (.ok x μ) Q) (r : Rel g H0 H σ ρ μ ι) (d : rel H0 ι v x) : Q v H := h v H0 H ι Stp.refl r d
theorem run_bind {ev : Env → Mu → R α} {k : α → Mu → R α'} {Q : β' → Hp → Prop} {S : β → Hp → Prop} (r : Rel g H0 H σ ρ μ ι) (h : Post g W σ ρ rel' H0 H ι ((ev ρ μ).bind k) Q)
    (hk : ∀ v x μ' H0' H' ι', Stp H0 H ι H0' H' ι' → Rel g H0' H' σ ρ μ' ι' → rel H0' ι' v x → Post g W σ ρ rel' H0' H' ι' (k x μ') Q → S v H') : run g W rel ev σ H S := by
  refine ⟨H0, ρ, μ, ι, r, ?_⟩
  cases e : ev ρ μ with
  | ok x μ' =>
    rw [e] at h
    exact fun v A B C s t d => hk v x μ' A B C s t d (Post.step s h)
  | er x μ' =>
    rw [e] at h
    exact h
  | no =>
    rw [e] at h
    exact h
theorem run_of {ev : Env → Mu → R α} {Q : β → Hp → Prop} (r : Rel g H0 H σ ρ μ ι) (h : Post g W σ ρ rel H0 H ι (ev ρ μ) Q) : run g W rel ev σ H Q := ⟨H0, ρ, μ, ι, r, h⟩
end
theorem PE_imp {X : Cx} {e : Expr} {t t' : TE} (h : PE X e t) (i : ∀ σ H Q, t' σ H Q → t σ H Q) : PE X e t' := ⟨fun pins s σ H Q I q => h.run pins s σ H Q I (i _ _ _ q)⟩
theorem PT_imp {X : Cx} {e : Expr} {t t' : TT} (h : PT X e t) (i : ∀ σ H Q, t' σ H Q → t σ H Q) : PT X e t' := ⟨fun pins s σ H Q I q => h.run pins s σ H Q I (i _ _ _ q)⟩
theorem PA_imp {X : Cx} {e : List Expr} {t t' : TA} (h : PA X e t) (i : ∀ σ H Q, t' σ H Q → t σ H Q) : PA X e t' := ⟨fun pos pins s σ H Q I q => h.run pos pins s σ H Q I (i _ _ _ q)⟩
theorem PW_imp {X : Cx} {e : Expr} {t t' : TT} (h : PW X e t) (i : ∀ σ H Q, t' σ H Q → t σ H Q) : PW X e t' := ⟨fun wh pins s σ H Q I q => h.run wh pins s σ H Q I (i _ _ _ q)⟩
/-! ### views -/
theorem view_r {μ : Mu} {k : Nat} {d : D} (e : view μ (.r k) = some d) : ∃ nd, μ[k]? = some (some nd) ∧ nd.toD = some d := by
  unfold view at e
  dsimp only at e
  split at e
  · rename_i n q
    exact ⟨n, q, e⟩
  · cases e
section
variable {g : G} {σ : L2.St} {ρ : Env} {H0 H : Hp} {ι : List Addr} {μ : Mu} {v : V} {x : X}
theorem Rel.den (r : Rel g H0 H σ ρ μ ι) (h : XDen g H0 ι v x) {d : D} (e : view μ x = some d) : Den g H v d := by
  cases x with
  | d y =>
    cases e
    exact Den.mono r.ex h
  | r k =>
    obtain ⟨a, h1, rfl⟩ := h
    obtain ⟨nd, q, e⟩ := view_r e
    obtain ⟨_, c⟩ := r.cell k nd a q h1
    cases nd with
    | lst xs =>
      cases e
      obtain ⟨vs, c1, c2⟩ := c
      exact .lst c1 (c2.mono r.ex)
    | dic kvs =>
      cases e
      obtain ⟨ks, c1, c2⟩ := c
      exact .dic (.inl c1) (c2.mono r.ex)
    | ins c fs => cases e
theorem Rel.viewL (r : Rel g H0 H σ ρ μ ι) (h : XDen g H0 ι v x) {ds : List D} (e : viewS μ x = some (.lst ds)) : ∃ a vs, v = .ref a ∧ SqL g.K H a vs ∧ Dens g H0 vs ds := by
  unfold viewS at e
  cases x with
  | d y =>
    have h : Den g H0 v y := h
    cases h with
    | lst h1 h2 =>
      cases e
      exact ⟨_, _, rfl, SqL.of (r.ex _ _ h1), h2⟩
    | kls h1 h2 =>
      cases e
      exact ⟨_, _, rfl, ex_l r.ex h1, h2⟩
    | _ => cases e
  | r k =>
    obtain ⟨a, h1, rfl⟩ := h
    obtain ⟨z, e1, e2⟩ := Option.map_eq_some_iff.mp e
    obtain ⟨nd, q, e3⟩ := view_r e1
    obtain ⟨_, c⟩ := r.cell k nd a q h1
    cases nd with
    | lst xs =>
      cases e3
      cases e2
      obtain ⟨vs, c1, c2⟩ := c
      exact ⟨a, vs, rfl, SqL.of c1, c2⟩
    | dic kvs =>
      cases e3
      cases e2
    | ins c fs => cases e3
theorem view_S {μ : Mu} {x : X} {d : D} (e : view μ x = some d) : viewS μ x = some (unk d) := by
  unfold viewS
  rw [e]
  rfl
theorem viewS_t {μ : Mu} {x : X} {ds : List D} (e : viewS μ x = some (.tup ds)) : view μ x = some (.tup ds) := by
  unfold viewS at e
  obtain ⟨z, e1, e2⟩ := Option.map_eq_some_iff.mp e
  cases z <;> first | (cases e2; exact e1) | cases e2
theorem viewS_d {μ : Mu} {x : X} {ds : List (DK × D)} (e : viewS μ x = some (.dic ds)) : view μ x = some (.dic ds) := by
  unfold viewS at e
  obtain ⟨z, e1, e2⟩ := Option.map_eq_some_iff.mp e
  cases z <;> first | (cases e2; exact e1) | cases e2
theorem Rel.viewT (r : Rel g H0 H σ ρ μ ι) (h : XDen g H0 ι v x) {ds : List D} (e : viewS μ x = some (.tup ds)) : ∃ a vs, v = .ref a ∧ SqT g.K H a vs ∧ Dens g H0 vs ds := by
  have e := viewS_t e
  cases x with
  | d y =>
    cases e
    cases h with
    | tup h1 h2 => exact ⟨_, _, rfl, ex_t r.ex h1, h2⟩
  | r k =>
    obtain ⟨nd, q, e⟩ := view_r e
    cases nd <;> cases e
theorem Rel.viewK (r : Rel g H0 H σ ρ μ ι) (h : XDen g H0 ι v x) {kvs : List (DK × D)} (e : viewS μ x = some (.dic kvs)) : ∃ a ks, v = .ref a ∧ Rd H a (.dK ks) ∧ Denk g H0 ks kvs := by
  have e := viewS_d e
  cases x with
  | d y =>
    cases e
    cases h with
    | dic h1 h2 => exact ⟨_, _, rfl, ex_rd r.ex h1, h2⟩
  | r k =>
    obtain ⟨a, h1, rfl⟩ := h
    obtain ⟨nd, q, e⟩ := view_r e
    obtain ⟨_, c⟩ := r.cell k nd a q h1
    cases nd with
    | lst xs => cases e
    | dic kvs =>
      cases e
      obtain ⟨vs, c1, c2⟩ := c
      exact ⟨a, vs, rfl, .inl c1, c2⟩
    | ins c fs => cases e
end
mutual
theorem Den.dp {g : G} {H : Hp} : ∀ {v : V} {d : D} {p : PyData}, Den g H v d → toP d = some p → Dp g.K H v p
  | _, _, p, .non, e => by cases e; exact .non
  | _, _, p, .bl b, e => by cases e; exact .bl b
  | _, _, p, .int i, e => by cases e; exact .int i
  | _, _, p, .str x, e => by cases e; exact .str x
  | _, _, p, .lst (ds := ds) h hs, e => by
    unfold toP at e
    cases q : toPs ds with
    | none => rw [q] at e; cases e
    | some ps =>
      rw [q] at e
      cases e
      exact .lst (SqL.of h) (Dens.dp hs q)
  | _, _, p, .kls (ds := ds) h hs, e => by
    unfold toP at e
    cases q : toPs ds with
    | none => rw [q] at e; cases e
    | some ps =>
      rw [q] at e
      cases e
      exact .lst h (Dens.dp hs q)
  | _, _, p, .tup (ds := ds) h hs, e => by
    unfold toP at e
    cases q : toPs ds with
    | none => rw [q] at e; cases e
    | some ps =>
      rw [q] at e
      cases e
      exact .tup h (Dens.dp hs q)
  | _, _, p, .dic h hs, e => by unfold toP at e; cases e
  | _, _, p, .kdic h, e => by unfold toP at e; cases e
  | _, _, p, .ins _ h hs, e => by unfold toP at e; cases e
  | _, _, p, .fn j, e => by unfold toP at e; cases e
  | _, _, p, .cls j, e => by unfold toP at e; cases e
theorem Dens.dp {g : G} {H : Hp} : ∀ {vs : List V} {ds : List D} {ps : List PyData}, Dens g H vs ds → toPs ds = some ps → DpAll g.K H vs ps
  | _, _, ps, .nil, e => by
    unfold toPs at e
    cases e
    exact .nil
  | _, _, ps, .cons (d := d) (ds := ds) h hs, e => by
    unfold toPs at e
    cases q1 : toP d with
    | none => rw [q1] at e; cases e
    | some p =>
      cases q2 : toPs ds with
      | none => rw [q1, q2] at e; cases e
      | some qs =>
        rw [q1, q2] at e
        cases e
        exact .cons (Den.dp h q1) (Dens.dp hs q2)
end
/-! ### where one stands -/
structure Ok (g : G) (X : Cx) (W : WX) (Nm : List Str) (sc : Scope) (k : Nat) : Prop where
  P : X.prog = g.P
  w : X.w = g.w
  K : X.K = g.K
  mg : X.mg = g.mg
  base : X.base = g.base
  N : X.N = Nm
  nd : Nm.Nodup
  sc : X.env.scope = sc
  calm : X.calm = true
  room : Room (k + 1) X.A
  takes : L2N.Takes X W
end DL


/-! DL3: expressions. -/
namespace DL
open PySem PySem.Spec PyProof.Rows L2
section
variable {g : G} {X : Cx} {W : WX} {P : Par} {pos : Pos}
abbrev SE (g : G) (W : WX) (X : Cx) (e : Expr) (ev : Env → Mu → R DL.X) : Prop := PE X e (tE g W ev)
abbrev ST (g : G) (W : WX) (X : Cx) (e : Expr) (ev : Env → Mu → R Bool) : Prop := PT X e (tT g W ev)
abbrev SA (g : G) (W : WX) (X : Cx) (e : List Expr) (ev : Env → Mu → R (List DL.X)) : Prop := PA X e (tA g W ev)
/-! ### calls of the text's defs -/
def WC (E : XK) : WX := fun c d _ H => E c d H
def spF (g : G) (C : CallF) (j : Nat) : Sp := fun vs H Q E => ∃ H0 μ ι xs, Rel g H0 H [] [] μ ι ∧ XDens g H0 ι vs xs ∧ Post g (WC E) [] [] (rX g) H0 H ι (C j xs μ) Q
theorem Rel.unbare {σ σ' : L2.St} {ρ : Env} {H0 H H0' H' : Hp} {ι ι' : List Addr} {μ μ' : Mu} {ρ' : Env} (r : Rel g H0 H σ ρ μ ι) (s : Stp H0 H ι H0' H' ι') (r' : Rel g H0' H' σ' ρ' μ' ι') : Rel g H0' H' σ ρ μ' ι' :=
  r'.slots r.sl fun i x e => by
    obtain ⟨v, h1, h2⟩ := r.slot i x e
    exact ⟨v, h1, h2.stp s⟩
theorem XDens.stp {H0 H H0' H' : Hp} {ι ι' : List Addr} (s : Stp H0 H ι H0' H' ι') {vs : List V} {xs : List DL.X} (h : XDens g H0 ι vs xs) : XDens g H0' ι' vs xs := h.mono s.e0 s.p
theorem XDens.append {H0 : Hp} {ι : List Addr} : ∀ {vs ws : List V} {xs ys : List DL.X}, XDens g H0 ι vs xs → XDens g H0 ι ws ys → XDens g H0 ι (vs ++ ws) (xs ++ ys)
  | _, _, _, _, .nil, h => h
  | _, _, _, _, .cons h hs, h2 => .cons h (hs.append h2)
theorem XDens.ofD {H0 : Hp} {ι : List Addr} : ∀ {vs : List V} {ds : List D}, Dens g H0 vs ds → XDens g H0 ι vs (ds.map DL.X.d)
  | _, _, .nil => .nil
  | _, _, .cons h hs => .cons h (XDens.ofD hs)
/-- a call from a state -/
theorem sp_call {σ : L2.St} {ρ : Env} {H0 H : Hp} {ι : List Addr} {μ : Mu} {C : CallF} {j : Nat} {vs : List V} {xs : List DL.X} {Q : VK} (r : Rel g H0 H σ ρ μ ι) (d : XDens g H0 ι vs xs) (h : Post g W σ ρ (rX g) H0 H ι (C j xs μ) Q) : spF g C j vs H Q (WE W σ) := by
  refine ⟨H0, μ, ι, xs, r.bare, d, ?_⟩
  cases e : C j xs μ with
  | ok x μ' =>
    rw [e] at h
    exact fun v A B K s t q => h v A B K s (r.unbare s t) q
  | er x μ' =>
    rw [e] at h
    exact fun c q A B K s t z => h c q A B K s (r.unbare s t) z
  | no =>
    rw [e] at h
    exact h

/-! ### what the common __ne__, abs and bool do with an own instance -/
theorem entry_one : entryFor table "object.__ne__" = some Builtin.«object.__ne__» := entryFor_of_tree (by kernel_rfl)
theorem args_one (a b : Value) : argsOk "object.__ne__" ⟨[a, b], []⟩ := by unfold argsOk; kernel_rfl
section
variable {prog : Program} {w : World} {M : Model} {A : Around} {E : Value → Shared → Prop} {s : Shared} {K : PySem.W.Frag} {x C f : Addr} {ox : Obj} {od : Option Obj}
open PySem.W in
theorem ifBound_B {M : Model} {name : Str} {id : String} {args : List Value} {Q : Option Value → Shared → Prop} (X : K.In s.heap) (I : InstAt s.heap x ox C od) (hs : findIn K (.ref C) name = some (some (.builtin id)))
    (hb : ∀ self, bindSpecial (.builtin id) self = pure (.builtin id, [self]))
    (h : wpAny M A (call (.builtin id) (.ref x :: args)) (fun v => Q (some v)) E s) : wpAny M A (callSpecialIfBound? (.ref x) name args) Q E s := by
  simp only [callSpecialIfBound?, bindSpecialIfBound?]
  refine wpAny_holding (wpAny_bind (wpAny_bind (wpAny_bind (I.type.here ((looks_findIn X hs).here ?_)))))
  refine wpAny_bind (wpAny_askSetting (wpAny_ite ?_))
  have fin : wpAny M A (call (.builtin id) ([.ref x] ++ args) >>= fun v => pure (some v)) Q E s := wpAny_bind (wpAny_mono h (fun v s' h' => wpAny_pure h') fun _ _ h' => h')
  split
  · exact wpAny_bind ((Looks.of_pure (hb _)).here (wpAny_pure (by exact fin)))
  · exact wpAny_tryCatch (wpAny_bind ((Looks.of_pure (hb _)).here (wpAny_pure (by exact fin))))
open PySem.W Builtin in
theorem one_K {b : Value} {Q : Value → Shared → Prop} (hu : A.in1.units < cLine) (X : K.In s.heap) (I : InstAt s.heap x ox C od) (hm : mroIn K C (.type "object") = some true) (hr : findIn K (.ref C) "__eq__" = some (some (.ref f))) (hf : isFn K (.ref f) = true)
    (h : wpAny (model prog w) A.in1 (call (.ref f) [.ref x, b]) (fun v s' => ∃ r, v = .bool r ∧ Q (.bool (!r)) s') E s) : wpAny (model prog w) A (call (.builtin "object.__ne__") [.ref x, b]) Q E s := by
  refine wpAny_call (codeAny_call_builtin PySem.F.slot_object_ne.plain entry_one (check_slot (i := "object.__ne__") (owner := "object") (n := "__ne__") (by decide +kernel) (by decide +kernel) (I.type.andThen (looks_mroIn X hm)) (args_one _ _) ?_))
  unfold Builtin.«object.__ne__»
  refine wpAny_bind (m := slotArgs "__ne__" 1 _) (wpAny_pure ?_)
  refine wpAny_bind (m := cRoomFor _ _) (wpAny_cRoomFor hu ?_)
  refine wpAny_bind (m := callSpecialIfBound? (.ref x) (Str.ofString "__eq__") _) (ifBound_K X I hr hf (wpAny_mono h (fun r s' hq => ?_) fun _ _ y => y))
  obtain ⟨r', rfl, hq⟩ := hq
  exact wpAny_bind (wpAny_truthy_bool (wpAny_pure hq))
open PySem.W Builtin in
/-- x != b, x's class with an own __eq__ and the common __ne__ -/
theorem ne_K {h₀ : Heap} {L : Addr} {m : Str → Option Value} {b tb : Value} {Q : Value → Shared → Prop} (hu : A.units + 1 < cLine) (F : Fr h₀ L s.heap m) (X₀ : K.In h₀) (I : InstAt s.heap x ox C od) (hb : Looks (model prog w) s.heap (typeOf b) tb) (hn : notFirst K C tb = true)
    (hm : mroIn K C (.type "object") = some true) (hs : findIn K (.ref C) "__ne__" = some (some (.builtin "object.__ne__"))) (hr : findIn K (.ref C) "__eq__" = some (some (.ref f))) (hf : isFn K (.ref f) = true)
    (h : wpAny (model prog w) A.in1 (call (.ref f) [.ref x, b]) (fun v s' => ∃ r, v = .bool r ∧ Q (.bool (!r)) s') E s) : wpAny (model prog w) A (richCompare .NotEq (.ref x) b) Q E s := by
  have X := X₀.keeps F.keep
  have one : wpAny (model prog w) A (tryCompare (.ref x) "__ne__" b) (fun r s' => ∃ v, r = some v ∧ Q v s') E s := by
    unfold tryCompare
    refine wpAny_bind (ifBound_B X I hs PySem.F.slot_object_ne.bind (one_K (by show A.units + 1 < cLine; exact hu) X I hm hr hf (wpAny_mono h (fun v s' hv => ?_) fun _ _ e => e)))
    obtain ⟨r, rfl, hq⟩ := hv
    exact ⟨r, rfl, wpAny_pure ⟨_, rfl, hq⟩⟩
  unfold richCompare
  simp only [oneThing_ref]
  refine wpAny_holding (wpAny_bind (wpAny_cRoomFor (by omega) ?_))
  refine wpAny_bind (I.type.here (wpAny_bind (hb.here ?_)))
  split
  · rename_i q
    have e : subIn K tb (.ref C) = some false := by
      rcases Bool.or_eq_true_iff.mp hn with e | e
      · rw [beq_iff_eq.mp e] at q; simp at q
      · exact beq_iff_eq.mp e
    refine wpAny_bind ((looks_subIn X e).here ?_)
    simp only [Bool.false_eq_true, if_false]
    refine wpAny_bind (wpAny_mono one (fun r s' z => ?_) fun _ _ e => e)
    obtain ⟨v, rfl, hq⟩ := z
    exact wpAny_pure hq
  · refine wpAny_bind (wpAny_pure ?_)
    simp only [Bool.false_eq_true, if_false]
    refine wpAny_bind (wpAny_mono one (fun r s' z => ?_) fun _ _ e => e)
    obtain ⟨v, rfl, hq⟩ := z
    exact wpAny_pure hq
open PySem.W in
/-- abs(x), own -/
theorem abs_K {Q : Value → Shared → Prop} (X : K.In s.heap) (I : InstAt s.heap x ox C od) (hs : findIn K (.ref C) "__abs__" = some (some (.ref f))) (hf : isFn K (.ref f) = true)
    (h : wpAny (model prog w) A.in1 (call (.ref f) [.ref x]) Q E s) : wpAny (model prog w) A (call (.builtin "abs") [.ref x]) Q E s := by
  refine PySem.Calls.call_function_entry kind_abs plain_abs entry_abs (args_abs _) ?_
  unfold Builtin.«abs»
  refine wpAny_bind (m := oneArg "abs" _) (wpAny_pure ?_)
  refine wpAny_bind (m := callSpecial? (.ref x) (Str.ofString "__abs__")) (special_fn X I hs (beq_iff_eq.mp hf) (wpAny_mono h (fun v s' hv => ?_) fun _ _ e => e))
  exact wpAny_pure ⟨_, rfl, hv⟩
open PySem.W in
/-- bool(x), own -/
theorem bool_K {h₀ : Heap} {L : Addr} {m : Str → Option Value} {Q : Value → Shared → Prop} (F : Fr h₀ L s.heap m) (X₀ : K.In h₀) (I : InstAt s.heap x ox C od) (hs : findIn K (.ref C) "__bool__" = some (some (.ref f))) (hf : isFn K (.ref f) = true)
    (h : wpAny (model prog w) A.in1.in1 (call (.ref f) [.ref x]) (fun v s' => ∃ r, v = .bool r ∧ Q (.bool r) s') E s) : wpAny (model prog w) A (call (.type "bool") [.ref x]) Q E s := by
  refine callType_codes (T := "bool") (Bi := Builtin.«object.__init__») (Q₁ := fun r s₁ => ∃ y, r = .bool y ∧ Q r s₁) PySem.F.called_bool (PySem.F.typeCall_bool_1 _) PySem.F.entry_object_init ?_ ?_
  · refine codeAny_of_tree ?_
    show wpAny _ A.in1.in1 (do checkBuiltinCall "bool.__new__" ⟨[.type "bool", .ref x], []⟩; again (.builtin "bool.__new__" ⟨[.type "bool", .ref x], []⟩)) _ _ s
    refine wpAny_bind (wpAny_of_eq (PySem.F.newCall_bool_1 _) (wpAny_pure ⟨plainId_quiet (by decide +kernel) _, codeAny_builtin PySem.F.entry_bool_new ?_⟩))
    rw [Around.under_plainId (by decide +kernel) _]
    unfold Builtin.«bool.__new__»
    refine wpAny_bind (wpAny_pure ?_)
    refine wpAny_bind (wpAny_of_eq PySem.F.conv_sub_bool ?_)
    refine wpAny_bind (wpAny_pure ?_)
    refine wpAny_bind (truthy_K F X₀ I hs hf (wpAny_mono h (fun r s₁ hr => ?_) fun _ _ y => y))
    obtain ⟨y, rfl, hq⟩ := hr
    exact wpAny_pure ⟨y, rfl, hq⟩
  · rintro obj s₁ ⟨y, rfl, hq⟩
    exact ⟨rfl, PySem.F.args_object_init_2 _ _, object_init_meets PySem.F.called_bool.init.lookup PySem.F.called_bool.made (by decide) prog w A.in1 _ s₁ ⟨rfl, rfl, hq⟩⟩
end
section
variable {X : Cx}
theorem run_fn2 {k : Nat} {f : Addr} {fd : FuncData} {ps : List Str} {sp : Sp} {ds : List Value} {dvs : List V} {CX : CXT} {E : XK} {pins : List (Addr × Obj)} {σ : L2.St} {H : Hp} {s : Shared} {Q : VK} {us : List Value} {vs : List V} (F : FnOk X.prog X.w X.K X.mg X.base CX k f fd ps sp) (hr : Room k X.A.in1.in1) (hb : Binds X.K fd ps ds) (hd : Vals dvs ds) (hx : Passes CX X E)
    (I : Inv X pins σ H s) (r : Vals vs us) (h : sp (vs ++ dvs) H Q E) : wpAny (model X.prog X.w) X.A.in1.in1 (call (.ref f) us) (EP X pins σ Q) X.xe s := by
  have r2 : Vals (vs ++ dvs) (us ++ ds) := r.append hd
  have hl : (us ++ ds).length = ps.length := by rw [← r2.length]; exact F.len _ _ _ _ h
  refine wpAny_call (codeAny_mono (F.run X.A.in1.in1 X.stack s H ⟨us, []⟩ (us ++ ds) (vs ++ dvs) Q E hr I.env0.in1.in1 (hb s us I.kIn hl) r2 h) fun r s' hq => ?_)
  cases r with
  | error e => exact hx pins σ H s e s' I hq
  | ok fl =>
    cases fl with
    | ret u => exact I.after hq
    | next => exact False.elim hq
    | brk => exact False.elim hq
    | cont => exact False.elim hq
theorem run_fn1 {k : Nat} {f : Addr} {fd : FuncData} {ps : List Str} {sp : Sp} {ds : List Value} {dvs : List V} {CX : CXT} {E : XK} {pins : List (Addr × Obj)} {σ : L2.St} {H : Hp} {s : Shared} {Q : VK} {us : List Value} {vs : List V} (F : FnOk X.prog X.w X.K X.mg X.base CX k f fd ps sp) (hr : Room (k + 1) X.A) (hb : Binds X.K fd ps ds) (hd : Vals dvs ds) (hx : Passes CX X E)
    (I : Inv X pins σ H s) (r : Vals vs us) (h : sp (vs ++ dvs) H Q E) : wpAny (model X.prog X.w) X.A.in1 (call (.ref f) us) (EP X pins σ Q) X.xe s := by
  have r2 : Vals (vs ++ dvs) (us ++ ds) := r.append hd
  have hl : (us ++ ds).length = ps.length := by rw [← r2.length]; exact F.len _ _ _ _ h
  refine wpAny_call (codeAny_mono (F.run X.A.in1 X.stack s H ⟨us, []⟩ (us ++ ds) (vs ++ dvs) Q E hr.in1 I.env0.in1 (hb s us I.kIn hl) r2 h) fun r s' hq => ?_)
  cases r with
  | error e => exact hx pins σ H s e s' I hq
  | ok fl =>
    cases fl with
    | ret u => exact I.after hq
    | next => exact False.elim hq
    | brk => exact False.elim hq
    | cont => exact False.elim hq
end
/-! ### the own text's classes -/
/-- a type as the machine's value -/
def tyName : Ty → String
  | .int => "int" | .bool => "bool" | .str => "str" | .lst => "list" | .tup => "tuple" | .dic => "dict" | .cls _ => "?"
def Ty.plain : Ty → Bool
  | .cls _ => false
  | _ => true
def tyV (g : G) : Ty → Value
  | .cls c => .ref (g.cA c)
  | t => .type (tyName t)
def tyW (g : G) : Ty → V
  | .cls c => .ref (g.cA c)
  | t => .ty (tyName t)
def tyIn (g : G) : Ty → Prop
  | .cls c => c < g.nC
  | _ => True
def kinds : List String := ["NoneType", "bool", "int", "str", "list", "tuple", "dict"]
structure ClsOk (g : G) (c : Nat) : Prop where
  cl : Cls g.K (g.cA c)
  ha : PySem.W.findIn g.K (.ref (g.cA c)) "__class__" = some (some (.builtin "object.__class__"))
  hn : PySem.W.specialIn g.K (.builtin "object.__class__") "__get__" = some (some (.builtin "getset_descriptor.__get__"))
  htk : PySem.W.takesIn g.K (.builtin "object.__class__") = some true
  hm : PySem.W.mroIn g.K (g.cA c) (.type "object") = some true
  own : ∀ ty : Ty, tyIn g ty → PySem.W.kitOne g.K (.ref (g.cA c)) (tyV g ty) = some (match ty with | .cls c' => c == c' | _ => false)
  bt : ∀ s ∈ kinds, PySem.W.kitOne g.K (.type s) (.ref (g.cA c)) = some false
  nf : ∀ s ∈ kinds, PySem.W.notFirst g.K (g.cA c) (.type s) = true
  nfo : ∀ c', c' < g.nC → PySem.W.notFirst g.K (g.cA c) (.ref (g.cA c')) = true
  sf : PySem.W.selfFirst g.K (g.cA c) = true
  ne : PySem.W.findIn g.K (.ref (g.cA c)) "__ne__" = some (some (.builtin "object.__ne__"))
/-- what the rules ask of the own classes and their methods -/
structure Own (g : G) (X : Cx) (P : Par) (k : Nat) : Prop where
  K : X.K = g.K
  cls : ∀ c, c < g.nC → ClsOk g c
  room : Room (k + 1) X.A
  meth : ∀ c m j, c < g.nC → P.methOf c m = some j → ∃ fd ps, Meth g.K (g.cA c) m (g.fA j) ∧ FnOk X.prog X.w X.K X.mg X.base (L2N.CX X.prog X.w) (k + 1) (g.fA j) fd ps (spF g P.C j) ∧
    FnOk X.prog X.w X.K X.mg X.base (L2N.CX X.prog X.w) k (g.fA j) fd ps (spF g P.C1 j) ∧ Binds X.K fd ps []
  prop : ∀ c m j, c < g.nC → P.propOf c m = some j → ∃ p fd ps, PropOf g.K (g.cA c) m p (g.fA j) ∧ FnOk X.prog X.w X.K X.mg X.base (L2N.CX X.prog X.w) k (g.fA j) fd ps (spF g P.C1 j) ∧ Binds X.K fd ps []
  fld : ∀ c f, c < g.nC → P.fldOk c f = true → NoAttr g.K (g.cA c) f
theorem passNo {CX0 : Cx} : Passes (L2N.CX CX0.prog CX0.w) CX0 (fun _ _ _ => False) := fun pins σ H s e s' I z => by
  obtain ⟨_, _, _, _, _, _, _, _, _, _, _, _, z⟩ := z
  exact z.elim
theorem passNoN {CX0 : Cx} : Passes (L2N.CX CX0.prog CX0.w) CX0.nox (fun _ _ _ => False) := fun pins σ H s e s' I z => by
  obtain ⟨_, _, _, _, _, _, _, _, _, _, _, _, z⟩ := z
  exact z.elim
/-- an instance -/
theorem insOf_read {σ : L2.St} {ρ : Env} {H0 H : Hp} {ι : List Addr} {μ : Mu} {v : V} {x : DL.X} {c : Nat} (r : Rel g H0 H σ ρ μ ι) (d : XDen g H0 ι v x) (e : insOf μ x = some c) : c < g.nC ∧ ∃ a dx vf, v = .ref a ∧ H a = some (.ins (g.cA c) dx vf) ∧
    (∀ f, fldX μ x f = none → vf.lookup f = none) ∧ (∀ f y, fldX μ x f = some y → ∃ u, vf.lookup f = some u ∧ XDen g H0 ι u y) := by
  cases x with
  | d y =>
    have d : Den g H0 v y := d
    cases d with
    | ins hc h hs =>
      cases e
      refine ⟨hc, _, _, _, rfl, r.ex _ _ h, fun f hf => ?_, fun f y hf => ?_⟩
      · exact hs.none (Option.map_eq_none_iff.mp hf)
      · obtain ⟨z, h1, rfl⟩ := Option.map_eq_some_iff.mp hf
        obtain ⟨u, h2, h3⟩ := hs.look h1
        exact ⟨u, h2, h3⟩
    | _ => cases e
  | r k =>
    obtain ⟨a, h1, rfl⟩ := d
    unfold insOf at e
    dsimp only at e
    split at e
    · rename_i c' fs q
      cases e
      obtain ⟨_, hc, dx, vf, h2, h3⟩ := r.cell _ _ a q h1
      refine ⟨hc, a, dx, vf, rfl, h2, fun f hf => ?_, fun f y hf => ?_⟩
      · simp only [fldX, q] at hf
        exact h3.none hf
      · simp only [fldX, q] at hf
        exact h3.look hf
    · cases e
/-- a call that raises nothing -/
theorem sp_quiet {σ : L2.St} {ρ : Env} {H0 H : Hp} {ι : List Addr} {μ : Mu} {C : CallF} {j : Nat} {vs : List V} {xs : List DL.X} {Q : VK} (r : Rel g H0 H σ ρ μ ι) (d : XDens g H0 ι vs xs) (h : Post g W σ ρ (rX g) H0 H ι (quiet (C j xs μ)) Q) : spF g C j vs H Q (fun _ _ _ => False) := by
  refine ⟨H0, μ, ι, xs, r.bare, d, ?_⟩
  cases e : C j xs μ with
  | ok x μ' =>
    rw [e] at h
    exact fun v A B K s t q => h v A B K s (r.unbare s t) q
  | er x μ' =>
    rw [e] at h
    exact (show False from h).elim
  | no =>
    rw [e] at h
    exact (show False from h).elim
/-! ### names, constants -/
theorem se_var {i : Nat} {x : Str} (h : PE X (.Name x pos) (tVar i)) : SE g W X (.Name x pos) (evE P (.var i)) := PE_imp h fun σ H Q ⟨H0, ρ, μ, ι, r, h⟩ => by
  simp only [evE] at h
  split at h
  · rename_i y q
    obtain ⟨v, h1, h2⟩ := r.slot i y q
    exact ⟨v, h1, h.now r h2⟩
  · exact h.elim
theorem se_con {e : Expr} {v : V} {x : D} (h : PE X e (tC v)) (d : ∀ H, Den g H v x) : SE g W X e (evE P (.con x)) := PE_imp h fun σ H Q ⟨H0, ρ, μ, ι, r, h⟩ => by
  simp only [evE] at h
  exact h.now r (d H0)
theorem se_glo {e : Expr} {v : V} {j : Nat} (h : PE X e (tC v)) (d : ∀ x, P.glo j = some x → ∀ H, Den g H v x) : SE g W X e (evE P (.glo j)) := PE_imp h fun σ H Q ⟨H0, ρ, μ, ι, r, h⟩ => by
  simp only [evE] at h
  cases q : P.glo j with
  | none =>
    rw [q] at h
    exact h.elim
  | some x =>
    rw [q] at h
    exact h.now r (d x q H0)
/-! ### operators -/
def opOf : Bop → Operator
  | .add => .Add
  | .sub => .Sub
  | .mul => .Mult
  | .fdiv => .FloorDiv
  | .mod => .Mod
  | .pow => .Pow
def rBop (op : Bop) : R2 := fun x y H Q => ∃ i j z, x = .int i ∧ y = .int j ∧ binI op i j = some z ∧ Q (.int z) H
/-- // by a number below 0 -/
theorem op_fdivNW : OpR X (binaryOp .FloorDiv) (rI (fun _ j => j < 0 ∧ j.natAbs.log2 < 9000) fun i j => .int (i.fdiv j)) := opI fun i j _ _ _ _ _ hc q => by
  have h1 : j < 0 := hc.1
  exact floordiv_int (by omega) q (.inl (PyProof.noPylong_of_log2 hc.2))
theorem op_bop (op : Bop) : OpR X (binaryOp (opOf op)) (rBop op) := by
  intro pins s σ H x y v u Q I rx ry h
  obtain ⟨i, j, z, rfl, rfl, e, q⟩ := h
  cases op with
  | add =>
    cases e
    exact op_add pins s σ H _ _ v u Q I rx ry ⟨i, j, rfl, rfl, q⟩
  | sub =>
    cases e
    exact op_sub pins s σ H _ _ v u Q I rx ry ⟨i, j, rfl, rfl, q⟩
  | mul =>
    simp only [binI] at e
    split at e
    · rename_i k
      cases e
      unfold mulOk at k
      have k2 : i.natAbs.log2 + j.natAbs.log2 < 1000000 := of_decide_eq_true k
      exact op_mulW pins s σ H _ _ v u Q I rx ry ⟨i, j, rfl, rfl, k2, q⟩
    · cases e
  | fdiv =>
    simp only [binI] at e
    split at e
    · rename_i k
      cases e
      unfold divOk at k
      have k2 := Bool.and_eq_true_iff.mp k
      exact op_fdivW pins s σ H _ _ v u Q I rx ry ⟨i, j, rfl, rfl, ⟨of_decide_eq_true k2.1, of_decide_eq_true k2.2⟩, q⟩
    · split at e
      · rename_i k
        cases e
        unfold divNeg at k
        have k2 := Bool.and_eq_true_iff.mp k
        exact op_fdivNW pins s σ H _ _ v u Q I rx ry ⟨i, j, rfl, rfl, ⟨of_decide_eq_true k2.1, of_decide_eq_true k2.2⟩, q⟩
      · cases e
  | mod =>
    simp only [binI] at e
    split at e
    · rename_i k
      cases e
      exact op_mod pins s σ H _ _ v u Q I rx ry ⟨i, j, rfl, rfl, of_decide_eq_true k, q⟩
    · cases e
  | pow =>
    simp only [binI] at e
    split at e
    · rename_i k
      cases e
      have k2 := Bool.and_eq_true_iff.mp k
      have k3 := Bool.and_eq_true_iff.mp k2.2
      exact op_pow pins s σ H _ _ v u Q I rx ry ⟨i, j, rfl, rfl, ⟨of_decide_eq_true k2.1, of_decide_eq_true k3.1, of_decide_eq_true k3.2⟩, q⟩
    · cases e
/-! ### signs, abs, bool of an own instance -/
def rOne (X : Cx) (nm : Str) : V → Hp → VK → Prop := fun x H Q => ∃ a C dx fs f k fd ps sp, x = .ref a ∧ H a = some (.ins C dx fs) ∧ Meth X.K C nm f ∧
  FnOk X.prog X.w X.K X.mg X.base (L2N.CX X.prog X.w) k f fd ps sp ∧ Room (k + 1) X.A ∧ Binds X.K fd ps [] ∧ sp [x] H Q (fun _ _ _ => False)
def rNeg (X : Cx) : V → Hp → VK → Prop := fun x H Q => (∃ i, x = .int i ∧ Q (.int (-i)) H) ∨ rOne X "__neg__" x H Q
theorem un_negA : UnR X (unaryOp .USub) (rNeg X) := by
  intro pins s σ H x v Q I rx h
  rcases h with h | h
  · exact un_neg pins s σ H x v Q I rx h
  · obtain ⟨a, C, dx, fs, f, k, fd, ps, sp, rfl, ha, M, F, hr, bd, h⟩ := h
    cases rx
    obtain ⟨mA, J, _⟩ := ins_get I.hok ha
    obtain ⟨od, J, _⟩ := J.look
    obtain ⟨m, hF⟩ := I.fr
    exact PySem.W.ksp_neg hF I.ok.mod.kin J M.at_ M.fn (run_fn (us := [.ref a]) (vs := [.ref a]) F (hr.mono (Nat.le_succ k)) bd .nil passNo I (.cons rfl .nil) h)
theorem call_absO : CallR X (.builtin "abs") (fun xs H Q => ∃ x, xs = [x] ∧ rOne X "__abs__" x H Q) := by
  intro pins s σ H xs us Q I r h
  obtain ⟨x, rfl, a, C, dx, fs, f, k, fd, ps, sp, rfl, ha, M, F, hr, bd, h⟩ := h
  obtain rfl := Vals.ref1 r
  obtain ⟨mA, J, _⟩ := ins_get I.hok ha
  obtain ⟨od, J, _⟩ := J.look
  obtain ⟨m, hF⟩ := I.fr
  exact abs_K I.kIn J M.at_ M.fn (run_fn1 (us := [.ref a]) (vs := [.ref a]) F hr bd .nil passNo I (.cons rfl .nil) h)
theorem Room.in2 {k : Nat} {A : Around} (r : Room (k + 1) A) : Room k A.in1.in1 :=
  ⟨r.hd, by have := r.dp; show A.depth + 3 * k + 5 < _; omega, by have := r.un; show A.units + 1 + 1 + 16 * k + 200 < _; omega⟩
theorem call_boolO : CallR X (.type "bool") (fun xs H Q => ∃ x, xs = [x] ∧ rOne X "__bool__" x H (fun v H' => ∃ b, v = .bl b ∧ Q v H')) := by
  intro pins s σ H xs us Q I r h
  obtain ⟨x, rfl, a, C, dx, fs, f, k, fd, ps, sp, rfl, ha, M, F, hr, bd, h⟩ := h
  obtain rfl := Vals.ref1 r
  obtain ⟨mA, J, _⟩ := ins_get I.hok ha
  obtain ⟨od, J, _⟩ := J.look
  obtain ⟨m, hF⟩ := I.fr
  refine bool_K hF I.ok.mod.kin J M.at_ M.fn (wpAny_mono (run_fn2 (us := [.ref a]) (vs := [.ref a]) F (Room.in2 hr) bd .nil passNo I (.cons rfl .nil) h) (fun r s' q => ?_) fun _ _ z => z)
  obtain ⟨z, H', I', rz, b, rfl, q⟩ := q
  cases rz
  exact ⟨b, rfl, .bl b, H', I', rfl, q⟩
/-- an operator of an own class -/
def rOwn (X : Cx) (nm : Str) : R2 := fun x y H Q => ∃ a b C dx dy fs gs f k fd ps sp, x = .ref a ∧ y = .ref b ∧ H a = some (.ins C dx fs) ∧ H b = some (.ins C dy gs) ∧ PySem.W.selfFirst X.K C = true ∧ Meth X.K C nm f ∧
  FnOk X.prog X.w X.K X.mg X.base (L2N.CX X.prog X.w) k f fd ps sp ∧ Room k X.A ∧ Binds X.K fd ps [] ∧ sp [x, y] H Q (fun _ _ _ => False)
theorem relV_ni {v : V} {u : Value} (r : RelV v u) : u ≠ .notImplemented := by
  intro e
  subst e
  cases v <;> first | (cases r; done) | (obtain ⟨_, z⟩ := r; cases z)
theorem cmpBack {Q : Value → Shared → Prop} {u : Value} {s : Shared} (h : u ≠ .notImplemented) (q : Q u s) : PySem.W.CmpBack Q u s := by
  cases u <;> first | exact q | exact (h rfl).elim
theorem op_own (op : Bop) : OpR X (binaryOp (opOf op)) (rOwn X (opMeth op)) := by
  intro pins s σ H x y v u Q I rx ry h
  obtain ⟨a, b, C, dx, dy, fs, gs, f, k, fd, ps, sp, rfl, rfl, ha, hb, sf, M, F, hr, bd, h⟩ := h
  cases rx
  cases ry
  obtain ⟨mA, J, _⟩ := ins_get I.hok ha
  obtain ⟨mB, J', _⟩ := ins_get I.hok hb
  obtain ⟨od, J, _⟩ := J.look
  obtain ⟨od', J', _⟩ := J'.look
  obtain ⟨m, hF⟩ := I.fr
  refine PySem.W.binop_K (op := opOf op) hF I.ok.mod.kin J J'.type sf (by
    have e := M.at_
    cases op <;> exact e) M.fn ?_
  refine wpAny_mono (run_fn (us := [.ref a, .ref b]) (vs := [.ref a, .ref b]) F hr bd .nil passNo I (.cons rfl (.cons rfl .nil)) h) (fun r s' q => ?_) fun _ _ z => z
  obtain ⟨z, H', I', rz, q⟩ := q
  exact cmpBack (relV_ni rz) ⟨z, H', I', rz, q⟩
def rAddAll (K : PySem.W.Frag) : R2 := fun x y H Q => (∃ i j, x = .str i ∧ y = .str j ∧ i.length + j.length ≤ sizeLine ∧ Q (.str (i ++ j)) H) ∨ (rCatA K x y H Q ∨ rCat x y H Q)
def rBinAll (X : Cx) (op : Bop) : R2 := fun x y H Q => rBop op x y H Q ∨ (rOwn X (opMeth op) x y H Q ∨ (op = .add ∧ rAddAll X.K x y H Q))
theorem op_all (op : Bop) : OpR X (binaryOp (opOf op)) (rBinAll X op) := by
  refine OpR.or (op_bop op) (OpR.or (op_own op) ?_)
  intro pins s σ H x y v u Q I rx ry h
  obtain ⟨rfl, h⟩ := h
  exact (OpR.or op_add_str (OpR.or op_catA op_cat)) pins s σ H x y v u Q I rx ry h
section
variable {a b c : Expr} {ia ib ic : E}
section
variable {σ : L2.St} {ρ : Env} {H0 H : Hp} {ι : List Addr} {μ : Mu} {v u : V} {x y : DL.X} {k : Nat}
theorem line6 : (1000000 : Nat) ≤ sizeLine := by rw [sizeLine_eq]; decide
/-- a new list -/
theorem alloc_lst {cell : Bool} {xs : List D} {vs : List V} {Q : VK} (r : Rel g H0 H σ ρ μ ι) (hs : Dens g H0 vs xs) (h : Post g W σ ρ (rX g) H0 H ι (alloc cell (.lst xs) μ) Q) :
    vs.length ≤ 1000000 ∧ ∀ p, H p = none → Q (.ref p) (upd H p (.lst vs)) := by
  unfold alloc at h
  split at h
  · rename_i hz
    have hz' : xs.length ≤ 1000000 := hz
    refine ⟨by rw [hs.length]; exact hz', fun p hp => ?_⟩
    cases cell with
    | true =>
      obtain ⟨r2, s2⟩ := r.newCell (o := .lst vs) (nd := .lst xs) hp ⟨vs, upd_same, hs⟩
      exact h (.ref p) _ _ _ s2 r2 ⟨p, by rw [← r.len]; simp, rfl⟩
    | false =>
      obtain ⟨r2, s2⟩ := r.value (o := .lst vs) hp
      exact h (.ref p) _ _ _ s2 r2 (Den.lst upd_same (hs.mono s2.e0))
  · exact h.elim
/-- a new tuple -/
theorem new_tup {xs : List D} {vs : List V} {Q : VK} (r : Rel g H0 H σ ρ μ ι) (hs : Dens g H0 vs xs) (h : Post g W σ ρ (rX g) H0 H ι (.ok (.d (.tup xs)) μ) Q) : ∀ p, H p = none → Q (.ref p) (upd H p (.tup vs)) := fun p hp => by
  obtain ⟨r2, s2⟩ := r.value (o := .tup vs) hp
  exact h (.ref p) _ _ _ s2 r2 (Den.tup (SqT.of upd_same) (hs.mono s2.e0))
/-- a list that is tracked -/
theorem view_lst {xs : List D} (r : Rel g H0 H σ ρ μ ι) (d : XDen g H0 ι v x) (e : view μ x = some (.lst xs)) : ∃ a vs, v = .ref a ∧ H a = some (.lst vs) ∧ Dens g H0 vs xs := by
  cases x with
  | d y =>
    have d : Den g H0 v y := d
    cases e
    cases d with
    | lst h hs => exact ⟨_, _, rfl, r.ex _ _ h, hs⟩
  | r k =>
    obtain ⟨a, h1, rfl⟩ := d
    obtain ⟨nd, q, e⟩ := view_r e
    obtain ⟨_, c⟩ := r.cell k nd a q h1
    cases nd with
    | lst ys =>
      cases e
      obtain ⟨vs, c1, c2⟩ := c
      exact ⟨a, vs, rfl, c1, c2⟩
    | dic ys => cases e
    | ins c fs => cases e
theorem view_str {z : Str} (r : Rel g H0 H σ ρ μ ι) (d : XDen g H0 ι v x) (e : view μ x = some (.str z)) : v = .str z := by
  have := r.den d e
  cases this
  rfl
theorem view_tup {xs : List D} (r : Rel g H0 H σ ρ μ ι) (d : XDen g H0 ι v x) (e : view μ x = some (.tup xs)) : x = .d (.tup xs) := by
  cases x with
  | d y =>
    cases e
    rfl
  | r k =>
    obtain ⟨nd, q, e⟩ := view_r e
    cases nd <;> cases e
theorem cat_read {cell : Bool} {xs ys : List D} {Q : VK} (r : Rel g H0 H σ ρ μ ι) (dx : XDen g H0 ι v x) (dy : XDen g H0 ι u y) (e1 : view μ x = some (.lst xs)) (e2 : view μ y = some (.lst ys)) (h : Post g W σ ρ (rX g) H0 H ι (alloc cell (.lst (xs ++ ys)) μ) Q) : rCat v u H Q := by
  obtain ⟨a, vs, rfl, h1, h2⟩ := view_lst r dx e1
  obtain ⟨b, us, rfl, h3, h4⟩ := view_lst r dy e2
  obtain ⟨q1, q2⟩ := alloc_lst r (h2.append h4) h
  rw [List.length_append] at q1
  exact ⟨a, b, vs, us, rfl, rfl, h1, h3, Nat.le_trans q1 line6, q2⟩
theorem binZ_some {op : Bop} {o : Option Int} (e : binZ op x y = some o) : ∃ i j, x = .d (.int i) ∧ y = .d (.int j) ∧ o = binI op i j := by
  unfold binZ at e
  split at e
  · cases e
    exact ⟨_, _, rfl, rfl, rfl⟩
  · cases e
theorem ownM_some {c : Nat} {m : Str} {xs : List DL.X} {rel : Hp → List Addr → V → DL.X → Prop} {Q : VK} (h : Post g W σ ρ rel H0 H ι (ownM P c m xs μ) Q) : ∃ j, P.methOf c m = some j ∧ Post g W σ ρ rel H0 H ι (quiet (P.C1 j xs μ)) Q := by
  unfold ownM at h
  split at h
  · rename_i j e
    exact ⟨j, e, h⟩
  · exact h.elim
theorem own_read {op : Bop} {c : Nat} {Q : VK} (O : Own g X P k) (r : Rel g H0 H σ ρ μ ι) (dx : XDen g H0 ι v x) (dy : XDen g H0 ι u y) (e1 : insOf μ x = some c) (e2 : insOf μ y = some c) (h : Post g W σ ρ (rX g) H0 H ι (ownM P c (opMeth op) [x, y] μ) Q) : rOwn X (opMeth op) v u H Q := by
  obtain ⟨j, ej, h⟩ := ownM_some h
  obtain ⟨hc, a, dx', vf, ea, ha, _⟩ := insOf_read r dx e1
  obtain ⟨_, b, dy', vg, eb, hb, _⟩ := insOf_read r dy e2
  obtain ⟨fd, ps, M, _, F, bd⟩ := O.meth c _ j hc ej
  have sf := (O.cls c hc).sf
  rw [← O.K] at M sf
  exact ⟨a, b, _, _, _, _, _, _, _, fd, ps, _, ea, eb, ha, hb, sf, M, F, O.room.mono (Nat.le_succ k), bd, sp_quiet r (.cons dx (.cons dy .nil)) h⟩
theorem bin_read {op : Bop} {Q : VK} (O : Own g X P k) (r : Rel g H0 H σ ρ μ ι) (dx : XDen g H0 ι v x) (dy : XDen g H0 ι u y) (h : Post g W σ ρ (rX g) H0 H ι (binX P op x y μ) Q) : rBinAll X op v u H Q := by
  unfold binX at h
  split at h
  · rename_i o e
    obtain ⟨i, j, rfl, rfl, rfl⟩ := binZ_some e
    cases dx
    cases dy
    cases q : binI op i j with
    | none => rw [q] at h; exact h.elim
    | some z =>
      rw [q] at h
      exact .inl ⟨i, j, z, rfl, rfl, q, h.now r (Den.int z)⟩
  · split at h
    · rename_i c e1
      split at h
      · rename_i e2
        exact .inr (.inl (own_read O r dx dy e1 e2 h))
      · exact h.elim
    · split at h
      · refine .inr (.inr ⟨rfl, ?_⟩)
        unfold addD at h
        split at h
        · rename_i s e1
          split at h
          · rename_i t e2
            split at h
            · rename_i hz
              cases view_str r dx e1
              cases view_str r dy e2
              exact .inl ⟨s, t, rfl, rfl, Nat.le_trans hz line6, h.now r (Den.str _)⟩
            · exact h.elim
          · exact h.elim
        · rename_i xs e1
          split at h
          · rename_i ys e2
            split at h
            · rename_i hz
              obtain rfl := view_tup r dx e1
              obtain rfl := view_tup r dy e2
              have dx : Den g H0 v (.tup xs) := dx
              have dy : Den g H0 u (.tup ys) := dy
              refine .inr (.inl ?_)
              rw [O.K]
              cases dx with
              | tup hx hxs =>
                cases dy with
                | tup hy hys =>
                  refine ⟨_, _, _, _, rfl, rfl, ex_t r.ex hx, ex_t r.ex hy, ?_, fun e => ?_, fun e1 e2 => ?_, fun e1 e2 => ?_⟩
                  · rw [hxs.length, hys.length]; exact Nat.le_trans hz line6
                  · subst e
                    cases hxs
                    exact h.now r (Den.tup hy hys)
                  · subst e2
                    cases hys
                    refine h.now r ?_
                    show Den g H0 _ (.tup (xs ++ []))
                    rw [List.append_nil]
                    exact Den.tup hx hxs
                  · exact new_tup r (hxs.append hys) h
            · exact h.elim
          · exact h.elim
        · rename_i xs e1
          split at h
          · rename_i ys e2
            exact .inr (.inr (cat_read r dx dy e1 e2 h))
          · exact h.elim
        · exact h.elim
      · exact h.elim
end
theorem se_bin {op : Bop} {k : Nat} (O : Own g X P k) (ha : SE g W X a (evE P ia)) (hb : SE g W X b (evE P ib)) : SE g W X (.BinOp a (opOf op) b pos) (evE P (.bin op ia ib)) := PE_imp (pe_op (op_all op) ha hb) fun σ H Q ⟨H0, ρ, μ, ι, r, h⟩ => by
  simp only [evE] at h
  refine run_bind r h fun v x μ1 A1 H1 ι1 s1 r1 d1 h => ?_
  refine run_bind r1 h fun v2 y μ2 A2 H2 ι2 s2 r2 d2 h => ?_
  exact bin_read O r2 (d1.stp s2) d2 h
theorem se_binC (O : Own g X P k) (ha : SE g W X a (evE P ia)) (hb : SE g W X b (evE P ib)) : SE g W X (.BinOp a .Add b pos) (evE P (.binC ia ib)) := PE_imp (pe_op op_cat ha hb) fun σ H Q ⟨H0, ρ, μ, ι, r, h⟩ => by
  simp only [evE] at h
  refine run_bind r h fun v x μ1 A1 H1 ι1 s1 r1 d1 h => ?_
  refine run_bind r1 h fun v2 y μ2 A2 H2 ι2 s2 r2 d2 h => ?_
  unfold addC at h
  split at h
  · rename_i xs e1
    split at h
    · rename_i ys e2
      exact cat_read r2 (d1.stp s2) d2 e1 e2 h
    · exact h.elim
  · exact h.elim
theorem one_read {nm : Str} {c k : Nat} {σ : L2.St} {ρ : Env} {H0 H : Hp} {ι : List Addr} {μ : Mu} {v : V} {x : DL.X} {Q : VK} (O : Own g X P k) (r : Rel g H0 H σ ρ μ ι) (dx : XDen g H0 ι v x) (e1 : insOf μ x = some c) (h : Post g W σ ρ (rX g) H0 H ι (ownM P c nm [x] μ) Q) : rOne X nm v H Q := by
  obtain ⟨j, ej, h⟩ := ownM_some h
  obtain ⟨hc, a, dx', vf, ea, ha, _⟩ := insOf_read r dx e1
  obtain ⟨fd, ps, M, _, F, bd⟩ := O.meth c _ j hc ej
  rw [← O.K] at M
  exact ⟨a, _, _, _, _, _, fd, ps, _, ea, ha, M, F, O.room, bd, sp_quiet r (.cons dx .nil) h⟩
theorem se_neg {k : Nat} (O : Own g X P k) (ha : SE g W X a (evE P ia)) : SE g W X (.UnaryOp .USub a pos) (evE P (.neg ia)) := PE_imp (pe_un un_negA ha) fun σ H Q ⟨H0, ρ, μ, ι, r, h⟩ => by
  simp only [evE] at h
  refine run_bind r h fun v x μ1 A1 H1 ι1 s1 r1 d1 h => ?_
  split at h
  · rename_i i
    cases d1
    exact .inl ⟨i, rfl, h.now r1 (Den.int _)⟩
  · exact .inr (one_read O r1 d1 rfl h)
  · exact h.elim
end
theorem rd_tyL {K : PySem.W.Frag} {H : Hp} {a : Addr} {vs : List V} (h : SqL K H a vs) : TyX K H (.ref a) (.type "list") := by
  rcases h with (h | ⟨o, h⟩) | ⟨o, its, n, hk, hc, _⟩
  · exact .base (.lst h)
  · exact .base (.frz h)
  · exact .kList hk hc
theorem rd_tyT {K : PySem.W.Frag} {H : Hp} {a : Addr} {vs : List V} (h : SqT K H a vs) : TyX K H (.ref a) (.type "tuple") := by
  rcases h with (h | ⟨o, h⟩) | ⟨o, its, n, hk, hc, _⟩
  · exact .base (.tup h)
  · exact .fTuple h
  · exact .kTuple hk hc
/-! ### comparisons -/
def copOf : Cop → CmpOp
  | .eq => .Eq | .ne => .NotEq | .lt => .Lt | .le => .LtE | .gt => .Gt | .ge => .GtE | .isin => .In | .notin => .NotIn | .is_ => .Is | .isnot => .IsNot
def rI2 (f : Int → Int → Bool) : R2 := rI0 fun i j => .bl (f i j)
/-- x in d, d a dict -/
def rInD (neg : Bool) : R2 := fun x y H Q => ∃ a o, y = .ref a ∧ DGet H a x o ∧ Q (.bl (if neg then !o.isSome else o.isSome)) H
def rInK (K : PySem.W.Frag) (w : World) (neg : Bool) : R2 := fun x y H Q => ∃ a z es n r, y = .ref a ∧ x = .str z ∧ KDict K w a es n ∧ PySem.W.nsIn K a z = some r ∧ Q (.bl (if neg then !r.isSome else r.isSome)) H
def rInS (neg : Bool) : R2 := fun x y H Q => ∃ (c : Nat) (z : Str), x = .str ⟨#[c]⟩ ∧ y = .str z ∧ Q (.bl (if neg then !decide (c ∈ z.cps.toList) else decide (c ∈ z.cps.toList))) H
/-- x in o, o an own instance -/
def rInO (X : Cx) (neg : Bool) : R2 := fun x y H Q => ∃ b C dy gs f k fd ps sp, y = .ref b ∧ H b = some (.ins C dy gs) ∧ Meth X.K C "__contains__" f ∧
  FnOk X.prog X.w X.K X.mg X.base (L2N.CX X.prog X.w) k f fd ps sp ∧ Room k X.A ∧ Binds X.K fd ps [] ∧ sp [y, x] H (fun v H' => ∃ r, v = .bl r ∧ Q (.bl (if neg then !r else r)) H') (fun _ _ _ => False)
/-- x == y, x an own instance -/
def rEqO (X : Cx) : R2 := fun x y H Q => ∃ a C dx fs f k fd ps sp tb, x = .ref a ∧ H a = some (.ins C dx fs) ∧ TyX X.K H y tb ∧ PySem.W.notFirst X.K C tb = true ∧ Meth X.K C "__eq__" f ∧
  FnOk X.prog X.w X.K X.mg X.base (L2N.CX X.prog X.w) k f fd ps sp ∧ Room k X.A ∧ Binds X.K fd ps [] ∧ sp [x, y] H Q (fun _ _ _ => False)
theorem op_inD (neg : Bool) (hu : X.A.units + 64 < cLine) : OpR X (compareOp (if neg then .NotIn else .In)) (rInD neg) := by
  intro pins s σ H x y v u Q I rx ry h
  obtain ⟨a, o, rfl, g, q⟩ := h
  cases ry
  cases neg with
  | false => exact d_in (by omega) I g rx fun s3 I3 => ⟨.bl o.isSome, H, I3, rfl, q⟩
  | true => exact d_notIn (by omega) I g rx fun s3 I3 => ⟨.bl (!o.isSome), H, I3, rfl, q⟩
theorem op_inK (neg : Bool) : OpR X (compareOp (if neg then .NotIn else .In)) (rInK X.K X.w neg) := by
  intro pins s σ H x y v u Q I rx ry h
  obtain ⟨a, z, es, n, r, rfl, rfl, D, e, q⟩ := h
  cases neg with
  | false => exact op_in_kd D pins s σ H _ _ v u Q I rx ry ⟨z, r, rfl, rfl, e, q⟩
  | true => exact op_notIn_kd D pins s σ H _ _ v u Q I rx ry ⟨z, r, rfl, rfl, e, q⟩
theorem op_inS (neg : Bool) : OpR X (compareOp (if neg then .NotIn else .In)) (rInS neg) := by
  intro pins s σ H x y v u Q I rx ry h
  obtain ⟨c, z, rfl, rfl, q⟩ := h
  cases neg with
  | false => exact op_in_sign pins s σ H _ _ v u Q I rx ry ⟨c, z, rfl, rfl, q⟩
  | true => exact op_notIn_sign pins s σ H _ _ v u Q I rx ry ⟨c, z, rfl, rfl, q⟩
theorem op_inO (neg : Bool) : OpR X (compareOp (if neg then .NotIn else .In)) (rInO X neg) := by
  intro pins s σ H x y v u Q I rx ry h
  obtain ⟨b, C, dy, gs, f, k, fd, ps, sp, rfl, hb, M, F, hr, bd, h⟩ := h
  cases ry
  obtain ⟨mB, J, _⟩ := ins_get I.hok hb
  obtain ⟨od, J, _⟩ := J.look
  obtain ⟨m, hF⟩ := I.fr
  have key : wpAny (model X.prog X.w) X.A (call (.ref f) [.ref b, v]) (EP X pins σ fun w H' => ∃ r, w = .bl r ∧ Q (.bl (if neg then !r else r)) H') X.xe s := run_fn (us := [.ref b, v]) (vs := [.ref b, x]) F hr bd .nil passNo I (.cons rfl (.cons rx .nil)) h
  cases neg with
  | false =>
    refine PySem.W.in_K hF I.ok.mod.kin J M.at_ M.fn (wpAny_mono key (fun r s' q => ?_) fun _ _ z => z)
    obtain ⟨z, H', I', rz, b', rfl, q⟩ := q
    cases rz
    exact wpAny_truthy_bool ⟨.bl b', H', I', rfl, q⟩
  | true =>
    refine PySem.W.notIn_K hF I.ok.mod.kin J M.at_ M.fn (wpAny_mono key (fun r s' q => ?_) fun _ _ z => z)
    obtain ⟨z, H', I', rz, b', rfl, q⟩ := q
    cases rz
    exact wpAny_truthy_bool ⟨.bl (!b'), H', I', rfl, q⟩
theorem tyX_looks {pins : List (Addr × Obj)} {σ : L2.St} {H : Hp} {s : Shared} {x : V} {u t : Value} (I : Inv X pins σ H s) (rx : RelV x u) (ty : TyX X.K H x t) : PySem.W.Looks (model X.prog X.w) s.heap (typeOf u) t := by
  obtain ⟨P, Z, p, _⟩ := kit_of I rx ty
  exact Z.ty _ _ I.kIn p
theorem op_eqO (hu : X.A.units + 64 < cLine) : OpR X (compareOp .Eq) (rEqO X) := by
  intro pins s σ H x y v u Q I rx ry h
  obtain ⟨a, C, dx, fs, f, k, fd, ps, sp, tb, rfl, ha, ty, nf, M, F, hr, bd, h⟩ := h
  cases rx
  obtain ⟨mB, J, _⟩ := ins_get I.hok ha
  obtain ⟨od, J, _⟩ := J.look
  obtain ⟨m, hF⟩ := I.fr
  show wpAny (model X.prog X.w) X.A (richCompare .Eq (.ref a) u) (EP X pins σ Q) X.xe s
  refine PySem.W.cmp_K (op := .Eq) (by omega) hF I.ok.mod.kin J (tyX_looks I ry ty) nf M.at_ M.fn ?_
  refine wpAny_mono (run_fn (us := [.ref a, u]) (vs := [.ref a, y]) F hr bd .nil passNo I (.cons rfl (.cons ry .nil)) h) (fun r s' q => ?_) fun _ _ z => z
  obtain ⟨z, H', I', rz, q⟩ := q
  exact cmpBack (relV_ni rz) ⟨z, H', I', rz, q⟩
/-- x != y -/
def rNeO (X : Cx) : R2 := fun x y H Q => ∃ a C dx fs f k fd ps sp tb, x = .ref a ∧ H a = some (.ins C dx fs) ∧ TyX X.K H y tb ∧ PySem.W.notFirst X.K C tb = true ∧ PySem.W.mroIn X.K C (.type "object") = some true ∧ PySem.W.findIn X.K (.ref C) "__ne__" = some (some (.builtin "object.__ne__")) ∧ Meth X.K C "__eq__" f ∧
  FnOk X.prog X.w X.K X.mg X.base (L2N.CX X.prog X.w) k f fd ps sp ∧ Room (k + 1) X.A ∧ Binds X.K fd ps [] ∧ sp [x, y] H (fun v H' => ∃ r, v = .bl r ∧ Q (.bl (!r)) H') (fun _ _ _ => False)
theorem op_neO (hu : X.A.units + 64 < cLine) : OpR X (compareOp .NotEq) (rNeO X) := by
  intro pins s σ H x y v u Q I rx ry h
  obtain ⟨a, C, dx, fs, f, k, fd, ps, sp, tb, rfl, ha, ty, nf, hm, hn, M, F, hr, bd, h⟩ := h
  cases rx
  obtain ⟨mB, J, _⟩ := ins_get I.hok ha
  obtain ⟨od, J, _⟩ := J.look
  obtain ⟨m, hF⟩ := I.fr
  show wpAny (model X.prog X.w) X.A (richCompare .NotEq (.ref a) u) (EP X pins σ Q) X.xe s
  refine ne_K (by omega) hF I.ok.mod.kin J (tyX_looks I ry ty) nf hm hn M.at_ M.fn ?_
  refine wpAny_mono (run_fn1 (us := [.ref a, u]) (vs := [.ref a, y]) F hr bd .nil passNo I (.cons rfl (.cons ry .nil)) h) (fun r s' q => ?_) fun _ _ z => z
  obtain ⟨z, H', I', rz, b, rfl, q⟩ := q
  cases rz
  exact ⟨b, rfl, .bl (!b), H', I', rfl, q⟩
def rInAll (X : Cx) (neg : Bool) : R2 := fun x y H Q => rIn X.K neg x y H Q ∨ (rInD neg x y H Q ∨ (rInK X.K X.w neg x y H Q ∨ (rInS neg x y H Q ∨ rInO X neg x y H Q)))
def rCmp (X : Cx) : Cop → R2
  | .eq => fun x y H Q => rEq x y H Q ∨ (rEqD X.K x y H Q ∨ rEqO X x y H Q)
  | .ne => fun x y H Q => rNe x y H Q ∨ (rNeD X.K x y H Q ∨ rNeO X x y H Q)
  | .lt => rI2 fun i j => decide (i < j)
  | .le => rI2 fun i j => decide (i ≤ j)
  | .gt => rI2 fun i j => decide (j < i)
  | .ge => rI2 fun i j => decide (j ≤ i)
  | .isin => rInAll X false
  | .notin => rInAll X true
  | .is_ => fun x y H Q => (y = .non ∧ Q (.bl (decide (x = .non))) H) ∨ rIsB x y H Q
  | .isnot => fun x y H Q => (y = .non ∧ Q (.bl (!decide (x = .non))) H) ∨ rNotB x y H Q
theorem op_cmp (op : Cop) (hu : X.A.units + 64 < cLine) : OpR X (compareOp (copOf op)) (rCmp X op) := by
  cases op with
  | eq => exact OpR.or op_eq (OpR.or (op_eqD hu) (op_eqO hu))
  | ne => exact OpR.or op_ne (OpR.or (op_neD hu) (op_neO hu))
  | lt => exact op_lt
  | le => exact op_le
  | gt => exact op_gt
  | ge => exact op_ge
  | isin => exact OpR.or op_in_seq (OpR.or (op_inD false hu) (OpR.or (op_inK false) (OpR.or (op_inS false) (op_inO false))))
  | notin => exact OpR.or op_notIn_seq (OpR.or (op_inD true hu) (OpR.or (op_inK true) (OpR.or (op_inS true) (op_inO true))))
  | is_ => exact OpR.or op_isN op_isBl
  | isnot => exact OpR.or op_notN op_notBl
/-- scalars' == -/
theorem eqF_read {H : Hp} {v u : V} {x y : D} (hx : Den g H v x) (hy : Den g H u y) (sx : scalar x = true) (sy : scalar y = true) : (scal v u = true ∧ decide (v = u) = eqF x y) ∨ (∃ p q, Dp g.K H v p ∧ Dp g.K H u q ∧ SeqAt.shaped p = true ∧ SeqAt.shaped q = true ∧ PyData.eqv p q = eqF x y) := by
  cases hx <;> first | (cases sx; done) | skip
  all_goals (cases hy <;> first | (cases sy; done) | skip)
  all_goals first
    | (refine .inl ⟨rfl, ?_⟩; simp [eqF]; done)
    | (refine .inr ⟨_, _, .bl _, .int _, rfl, rfl, ?_⟩; simp only [PyData.eqv, eqF, Bool.beq_eq_decide_eq]; done)
    | (refine .inr ⟨_, _, .int _, .bl _, rfl, rfl, ?_⟩; simp only [PyData.eqv, eqF, Bool.beq_eq_decide_eq]; done)
theorem eqD_read {H : Hp} {v u : V} {x y : D} {b : Bool} (hx : Den g H v x) (hy : Den g H u y) (e : eqD x y = some b) : (scal v u = true ∧ decide (v = u) = b) ∨ (∃ p q, Dp g.K H v p ∧ Dp g.K H u q ∧ SeqAt.shaped p = true ∧ SeqAt.shaped q = true ∧ PyData.eqv p q = b) := by
  unfold eqD at e
  split at e
  · rename_i k
    cases e
    have k2 := Bool.and_eq_true_iff.mp k
    exact eqF_read hx hy k2.1 k2.2
  · split at e
    · rename_i p q e1 e2
      split at e
      · rename_i k
        cases e
        have k2 := Bool.and_eq_true_iff.mp k
        exact .inr ⟨p, q, hx.dp e1, hy.dp e2, k2.1, k2.2, rfl⟩
      · cases e
    · cases e
theorem flat_of {H : Hp} {v : V} {x : D} (h : Den g H v x) (s : scalar x = true) : flatV v = true := by
  cases h <;> first | rfl | cases s
theorem flats_of {H : Hp} : ∀ {vs : List V} {xs : List D}, Dens g H vs xs → xs.all scalar = true → vs.all flatV = true
  | _, _, .nil, _ => rfl
  | _, _, .cons h hs, s => by
    rw [List.all_cons, Bool.and_eq_true] at s
    rw [List.all_cons, flat_of h s.1, flats_of hs s.2]
    rfl
theorem eqV_of {H : Hp} {v u : V} {x y : D} (hx : Den g H v x) (hy : Den g H u y) (sx : scalar x = true) (sy : scalar y = true) : eqV v u = eqF x y := by
  cases hx <;> first | (cases sx; done) | skip
  all_goals (cases hy <;> first | (cases sy; done) | skip)
  all_goals first | rfl | (simp only [eqV, eqF, Bool.beq_eq_decide_eq]; done)
theorem inV_of {H : Hp} {v : V} {x : D} (hx : Den g H v x) (sx : scalar x = true) : ∀ {vs : List V} {xs : List D}, Dens g H vs xs → xs.all scalar = true → inV v vs = xs.any fun y => eqF y x
  | _, _, .nil, _ => rfl
  | _, _, .cons h hs, s => by
    rw [List.all_cons, Bool.and_eq_true] at s
    have ih := inV_of hx sx hs s.2
    unfold inV at ih ⊢
    rw [List.any_cons, List.any_cons, ih, eqV_of h hx s.1 sx]
theorem dOf_eq {x : DL.X} {d : D} (e : x.dOf = some d) : x = .d d := by
  cases x with
  | d y => cases e; rfl
  | r k => cases e
theorem isN_eq {x : DL.X} (e : isN x = true) : x = .d .non := by
  unfold isN at e
  split at e
  · rfl
  · cases e
theorem intX_eq {x : DL.X} {i : Int} (e : intX x = some i) : x = .d (.int i) := by
  unfold intX at e
  split at e
  · cases e; rfl
  · cases e
theorem isN_V {H0 : Hp} {ι : List Addr} {v : V} {x : DL.X} (h : XDen g H0 ι v x) : decide (v = V.non) = isN x := by
  cases x with
  | d y =>
    have h : Den g H0 v y := h
    cases h <;> simp [isN]
  | r k =>
    obtain ⟨a, _, rfl⟩ := h
    simp [isN]
section
variable {σ : L2.St} {ρ : Env} {H0 H : Hp} {ι : List Addr} {μ : Mu} {v u : V} {x y : DL.X} {b : Bool}
theorem eqX_read (r : Rel g H0 H σ ρ μ ι) (hx : XDen g H0 ι v x) (hy : XDen g H0 ι u y) (e : eqX μ x y = some b) : (scal v u = true ∧ decide (v = u) = b) ∨ (∃ p q, Dp g.K H v p ∧ Dp g.K H u q ∧ SeqAt.shaped p = true ∧ SeqAt.shaped q = true ∧ PyData.eqv p q = b) := by
  unfold eqX at e
  obtain ⟨a, e1, e'⟩ := Option.bind_eq_some_iff.mp e
  obtain ⟨c, e2, e3⟩ := Option.bind_eq_some_iff.mp e'
  clear e e'
  have e := e3
  clear e3
  exact eqD_read (r.den hx e1) (r.den hy e2) e
theorem keyOf_den {H : Hp} {v : V} {x : D} {q : DK} (d : Den g H v x) (e : keyOf x = some q) : ∃ k, DKey k q ∧ v = kV k := by
  cases d <;> first | (cases e; done) | skip
  · cases e
    exact ⟨.inl _, .i _, rfl⟩
  · cases e
    exact ⟨.inr _, .s _, rfl⟩
theorem dkey_eq {k k' : Key} {q q' : DK} (h : DKey k q) (h' : DKey k' q') : (k' = k ↔ q = q') := by
  cases h <;> cases h' <;> simp [eq_comm]
theorem denk_get {H : Hp} {k : Key} {q : DK} (hk : DKey k q) : ∀ {ks : List (Key × V)} {kvs : List (DK × D)}, Denk g H ks kvs → (kvs.lookup q = none ∧ valV ks k = none) ∨ (∃ d v, kvs.lookup q = some d ∧ valV ks k = some v ∧ Den g H v d)
  | _, _, .nil => .inl ⟨rfl, rfl⟩
  | _, _, .cons (k := k') (q := q') (v := v) (vs := vs) (d := d) h hv hs => by
    have e := dkey_eq hk h
    rw [List.lookup_cons]
    unfold valV
    rw [List.find?_cons]
    by_cases c : q = q'
    · have c2 : k' = k := e.mpr c
      have b1 : (q == q') = true := by simp [c]
      rw [b1]
      simp only [c2, decide_true, Option.map_some]
      exact .inr ⟨d, v, rfl, rfl, hv⟩
    · have c2 : ¬ k' = k := fun z => c (e.mp z)
      have b1 : (q == q') = false := by simpa using c
      rw [b1]
      simp only [c2, decide_false]
      exact denk_get hk hs
theorem viewS_den (r : Rel g H0 H σ ρ μ ι) (h : XDen g H0 ι v x) {d : D} (e : viewS μ x = some d) (n : ∀ ds, d ≠ .lst ds) : Den g H v d := by
  unfold viewS at e
  obtain ⟨z, e1, e2⟩ := Option.map_eq_some_iff.mp e
  have hz := r.den h e1
  cases z <;> first | (cases e2; exact (n _ rfl).elim) | (cases e2; exact hz)
theorem inX_read {neg : Bool} {Q : VK} (hK : X.K = g.K) (hw : X.w = g.w) (r : Rel g H0 H σ ρ μ ι) (hx : XDen g H0 ι v x) (hy : XDen g H0 ι u y) (e : inX μ x y = some b) (q : Q (.bl (if neg then !b else b)) H) : rInAll X neg v u H Q := by
  unfold inX at e
  obtain ⟨a, e1, e'⟩ := Option.bind_eq_some_iff.mp e
  obtain ⟨c, e2, e3⟩ := Option.bind_eq_some_iff.mp e'
  clear e e'
  have e := e3
  clear e3
  cases dOf_eq e1
  have hx' : Den g H0 v a := hx
  unfold inD at e
  split at e
  · split at e
    · rename_i ys k
      cases e
      have k2 := Bool.and_eq_true_iff.mp k
      obtain ⟨p, vs, e1, e2, e3⟩ := r.viewL hy e2
      exact .inl ⟨p, vs, e1, .inl (by rw [hK]; exact e2), flat_of hx' k2.1, flats_of e3 k2.2, by rw [inV_of hx' k2.1 e3 k2.2]; exact q⟩
    · cases e
  · split at e
    · rename_i ys k
      cases e
      have k2 := Bool.and_eq_true_iff.mp k
      obtain ⟨p, vs, e1, e2, e3⟩ := r.viewT hy e2
      exact .inl ⟨p, vs, e1, .inr (by rw [hK]; exact e2), flat_of hx' k2.1, flats_of e3 k2.2, by rw [inV_of hx' k2.1 e3 k2.2]; exact q⟩
    · cases e
  · rename_i kvs
    obtain ⟨k, ek, rfl⟩ := Option.map_eq_some_iff.mp e
    obtain ⟨p, ks, rfl, h2, h3⟩ := r.viewK hy e2
    obtain ⟨key, hk, rfl⟩ := keyOf_den hx' ek
    refine .inr (.inl ⟨p, valV ks key, rfl, .inl ⟨ks, key, h2, rfl, rfl⟩, ?_⟩)
    unfold dget at q
    rcases denk_get hk h3 with ⟨h4, h5⟩ | ⟨d, w, h4, h5, _⟩
    · rw [h4] at q; rw [h5]; exact q
    · rw [h4] at q; rw [h5]; exact q
  · split at e
    · rename_i kvs _ z
      cases e
      have hd := viewS_den r hy e2 (fun _ z => nomatch z)
      cases hx'
      cases hd with
      | kdic hk =>
        obtain ⟨es, n, D, hz⟩ := hk
        obtain ⟨r', h1, h2⟩ := hz z
        rw [← hK, ← hw] at D
        rw [← hK] at h1
        refine .inr (.inr (.inl ⟨_, z, es, n, r', rfl, rfl, D, h1, ?_⟩))
        have : r'.isSome = (kvs.lookup z).isSome := by
          cases q1 : kvs.lookup z <;> cases r' <;> rw [q1] at h2 <;> first | rfl | exact h2.elim
        rw [this]
        exact q
    · cases e
  · split at e
    · rename_i s _ z
      split at e
      · rename_i ch ec
        cases e
        have hd := viewS_den r hy e2 (fun _ z => nomatch z)
        cases hx'
        cases hd
        refine .inr (.inr (.inr (.inl ⟨ch, s, ?_, rfl, q⟩)))
        obtain ⟨cps⟩ := z
        have ec : cps.toList = [ch] := ec
        have : cps = #[ch] := by rw [← Array.toArray_toList (xs := cps), ec]
        rw [this]
      · cases e
    · cases e
  · cases e
theorem ints_read {f : Int → Int → Bool} {Q : VK} (hx : XDen g H0 ι v x) (hy : XDen g H0 ι u y) (e : ((intX x).bind fun i => (intX y).map fun j => f i j) = some b) (q : Q (.bl b) H) : rI2 f v u H Q := by
  obtain ⟨i, e1, e'⟩ := Option.bind_eq_some_iff.mp e
  obtain ⟨j, e2, e3⟩ := Option.map_eq_some_iff.mp e'
  clear e e'
  cases intX_eq e1
  cases intX_eq e2
  have hx' : Den g H0 v (.int i) := hx
  have hy' : Den g H0 u (.int j) := hy
  cases hx'
  cases hy'
  exact ⟨i, j, rfl, rfl, by rw [← e3] at q; exact q⟩
theorem cmpD_read {op : Cop} {Q : VK} (hK : X.K = g.K) (hw : X.w = g.w) (r : Rel g H0 H σ ρ μ ι) (hx : XDen g H0 ι v x) (hy : XDen g H0 ι u y) (e : cmpD μ op x y = some b) (q : Q (.bl b) H) : rCmp X op v u H Q := by
  cases op with
  | eq =>
    rcases eqX_read r hx hy e with ⟨h1, h2⟩ | ⟨p, p', h1, h2, h3, h4, h5⟩
    · exact .inl ⟨h1, by rw [h2]; exact q⟩
    · exact .inr (.inl ⟨p, p', by rw [hK]; exact h1, by rw [hK]; exact h2, h3, h4, by rw [h5]; exact q⟩)
  | ne =>
    obtain ⟨c, e1, e2⟩ := Option.map_eq_some_iff.mp (show (eqX μ x y).map not = some b from e)
    subst e2
    rcases eqX_read r hx hy e1 with ⟨h1, h2⟩ | ⟨p, p', h1, h2, h3, h4, h5⟩
    · exact .inl ⟨h1, by rw [h2]; exact q⟩
    · exact .inr (.inl ⟨p, p', by rw [hK]; exact h1, by rw [hK]; exact h2, h3, h4, by rw [h5]; exact q⟩)
  | lt => exact ints_read hx hy e q
  | le => exact ints_read hx hy e q
  | gt => exact ints_read hx hy e q
  | ge => exact ints_read hx hy e q
  | isin => exact inX_read (neg := false) hK hw r hx hy e q
  | notin =>
    obtain ⟨c, e1, e2⟩ := Option.map_eq_some_iff.mp (show (inX μ x y).map not = some b from e)
    subst e2
    exact inX_read (neg := true) hK hw r hx hy e1 q
  | is_ =>
    have e : isNX x y = some b := e
    unfold isNX at e
    split at e
    · cases e
      cases (show Den g H0 u .non from hy)
      exact .inl ⟨rfl, by rw [isN_V hx]; exact q⟩
    · split at e
      · cases e
        cases (show Den g H0 u (.bl _) from hy)
        cases (show Den g H0 v (.bl _) from hx)
        exact .inr ⟨_, _, rfl, rfl, q⟩
      · cases e
    · cases e
  | isnot =>
    obtain ⟨c, e1, e2⟩ := Option.map_eq_some_iff.mp (show (isNX x y).map not = some b from e)
    subst e2
    unfold isNX at e1
    split at e1
    · cases e1
      cases (show Den g H0 u .non from hy)
      exact .inl ⟨rfl, by rw [isN_V hx]; exact q⟩
    · split at e1
      · cases e1
        cases (show Den g H0 u (.bl _) from hy)
        cases (show Den g H0 v (.bl _) from hx)
        exact .inr ⟨_, _, rfl, rfl, q⟩
      · cases e1
    · cases e1
theorem tyX_of (O : Own g X P k) (r : Rel g H0 H σ ρ μ ι) (d : XDen g H0 ι v x) (e : eqTo μ x = true) : ∃ t, TyX X.K H v t ∧ ∀ c, c < g.nC → PySem.W.notFirst X.K (g.cA c) t = true := by
  cases q : insOf μ x with
  | some c =>
    obtain ⟨hc, a, dx, vf, rfl, ha, _⟩ := insOf_read r d q
    have C := O.cls c hc
    refine ⟨.ref (g.cA c), ?_, fun c' hc' => ?_⟩
    · rw [O.K]
      exact .base (.ins ha C.cl C.ha C.hn C.htk C.hm)
    · rw [O.K]
      exact (O.cls c' hc').nfo c hc
  | none =>
    unfold eqTo at e
    rw [q] at e
    cases x with
    | r n => cases e
    | d y =>
      have d : Den g H0 v y := d
      by_cases hl : ∃ ds, y = .lst ds
      · obtain ⟨ds, rfl⟩ := hl
        cases d with
        | lst h hs => exact ⟨_, rd_tyL (.inl (.inl (r.ex _ _ h))), fun c hc => by rw [O.K]; exact (O.cls c hc).nf _ (by simp [kinds])⟩
      by_cases ht : ∃ ds, y = .tup ds
      · obtain ⟨ds, rfl⟩ := ht
        cases d with
        | tup h hs => exact ⟨_, rd_tyT (by rw [O.K]; exact ex_t r.ex h), fun c hc => by rw [O.K]; exact (O.cls c hc).nf _ (by simp [kinds])⟩
      have e : scalar y = true := by
        cases y <;> first | exact e | (exact (hl ⟨_, rfl⟩).elim; done) | (exact (ht ⟨_, rfl⟩).elim; done)
      cases d <;> first | (cases e; done) | skip
      · exact ⟨_, .base .non, fun c hc => by rw [O.K]; exact (O.cls c hc).nf _ (by simp [kinds])⟩
      · exact ⟨_, .base (.bl _), fun c hc => by rw [O.K]; exact (O.cls c hc).nf _ (by simp [kinds])⟩
      · exact ⟨_, .base (.int _), fun c hc => by rw [O.K]; exact (O.cls c hc).nf _ (by simp [kinds])⟩
      · exact ⟨_, .base (.str _), fun c hc => by rw [O.K]; exact (O.cls c hc).nf _ (by simp [kinds])⟩
theorem boolR_some {r : R DL.X} {Q : Bool → Hp → Prop} (h : Post g W σ ρ rB H0 H ι (boolR (quiet r)) Q) : Post g W σ ρ (rX g) H0 H ι (quiet r) fun v H' => ∃ b, v = .bl b ∧ Q b H' := by
  cases r with
  | ok x μ' =>
    cases x with
    | r k => exact h.elim
    | d y =>
      cases y <;> first | (exact h.elim; done) | skip
      intro v A B C s t d
      cases (show Den g A v (.bl _) from d)
      exact ⟨_, rfl, h _ A B C s t rfl⟩
  | er x μ' => exact h.elim
  | no => exact h.elim
theorem notR_some {r : R Bool} {Q : Bool → Hp → Prop} (h : Post g W σ ρ rB H0 H ι (notR r) Q) : Post g W σ ρ rB H0 H ι r fun b H' => Q (!b) H' := by
  cases r with
  | ok x μ' =>
    intro v A B C s t d
    have d : v = x := d
    subst d
    exact h _ A B C s t rfl
  | er x μ' => exact h
  | no => exact h
theorem cmpX_read {op : Cop} {Q : VK} (O : Own g X P k) (hw : X.w = g.w) (r : Rel g H0 H σ ρ μ ι) (hx : XDen g H0 ι v x) (hy : XDen g H0 ι u y) (h : Post g W σ ρ rB H0 H ι (cmpX P op x y μ) fun b H' => Q (.bl b) H') : rCmp X op v u H Q := by
  unfold cmpX at h
  split at h
  · rename_i ro e
    have own : ∀ (neg : Bool) (c : Nat), insOf μ y = some c → Post g W σ ρ rB H0 H ι (boolR (ownM P c "__contains__" [y, x] μ)) (fun b H' => Q (.bl (if neg then !b else b)) H') → rInAll X neg v u H Q := fun neg c ec h => by
      unfold ownM at h
      cases em : P.methOf c "__contains__" with
      | none => rw [em] at h; exact h.elim
      | some j =>
        rw [em] at h
        obtain ⟨hc, b, dy, vg, eb, hb, _⟩ := insOf_read r hy ec
        obtain ⟨fd, ps, M, _, F, bd⟩ := O.meth c _ j hc em
        rw [← O.K] at M
        exact .inr (.inr (.inr (.inr ⟨b, _, _, _, _, _, fd, ps, _, eb, hb, M, F, O.room.mono (Nat.le_succ k), bd, sp_quiet r (.cons hy (.cons hx .nil)) (boolR_some h)⟩)))
    cases op <;> first | (cases e; done) | skip
    · -- ==
      obtain ⟨c, ec, rfl⟩ := Option.map_eq_some_iff.mp (show (insOf μ x).map _ = some ro from e)
      split at h
      · rename_i ky
        unfold ownM at h
        cases em : P.methOf c "__eq__" with
        | none => rw [em] at h; exact h.elim
        | some j =>
          rw [em] at h
          obtain ⟨hc, b, dy, vg, eb, hb, _⟩ := insOf_read r hx ec
          obtain ⟨fd, ps, M, _, F, bd⟩ := O.meth c _ j hc em
          rw [← O.K] at M
          obtain ⟨tb, ty, nf⟩ := tyX_of O r hy ky
          refine .inr (.inr ⟨b, _, _, _, _, _, fd, ps, _, tb, eb, hb, ty, nf c hc, M, F, O.room.mono (Nat.le_succ k), bd, ?_⟩)
          refine sp_quiet (W := W) r (.cons hx (.cons hy .nil)) ?_
          have h2 := boolR_some h
          cases q : quiet (P.C1 j [x, y] μ) with
          | ok z μ' =>
            rw [q] at h2
            intro v A B C s t d
            obtain ⟨b, rfl, h3⟩ := h2 v A B C s t d
            exact h3
          | er z μ' =>
            rw [q] at h2
            exact h2
          | no => rw [q] at h2; exact h2
      · exact h.elim
    · -- !=
      obtain ⟨c, ec, rfl⟩ := Option.map_eq_some_iff.mp (show (insOf μ x).map _ = some ro from e)
      split at h
      · rename_i ky
        have h := notR_some h
        unfold ownM at h
        cases em : P.methOf c "__eq__" with
        | none => rw [em] at h; exact h.elim
        | some j =>
          rw [em] at h
          obtain ⟨hc, b, dy, vg, eb, hb, _⟩ := insOf_read r hx ec
          obtain ⟨fd, ps, M, _, F, bd⟩ := O.meth c _ j hc em
          have C := O.cls c hc
          have hm := C.hm
          have hn := C.ne
          rw [← O.K] at M hm hn
          obtain ⟨tb, ty, nf⟩ := tyX_of O r hy ky
          exact .inr (.inr ⟨b, _, _, _, _, _, fd, ps, _, tb, eb, hb, ty, nf c hc, hm, hn, M, F, O.room, bd, sp_quiet r (.cons hx (.cons hy .nil)) (boolR_some h)⟩)
      · exact h.elim
    · obtain ⟨c, ec, rfl⟩ := Option.map_eq_some_iff.mp (show (insOf μ y).map _ = some ro from e)
      exact own false c ec h
    · obtain ⟨c, ec, rfl⟩ := Option.map_eq_some_iff.mp (show (insOf μ y).map _ = some ro from e)
      exact own true c ec (notR_some h)
  · cases q : cmpD μ op x y with
    | none => rw [q] at h; exact h.elim
    | some z =>
      rw [q] at h
      exact cmpD_read O.K hw r hx hy q (h.now r rfl)
end
section
variable {a b c : Expr} {ia ib ic : E}
theorem post_b {σ : L2.St} {ρ : Env} {H0 H : Hp} {ι : List Addr} {r : R Bool} {Q : VK} (h : Post g W σ ρ (rX g) H0 H ι (r.bind fun b μ => .ok (.d (.bl b)) μ) Q) : Post g W σ ρ rB H0 H ι r fun b H' => Q (.bl b) H' := by
  cases r with
  | ok b μ' =>
    intro v A B C s t d
    have d : v = b := d
    subst d
    exact h _ A B C s t (Den.bl _)
  | er e μ' => exact h
  | no => exact h
variable {k : Nat}
theorem se_cmp {op : Cop} (O : Own g X P k) (hw : X.w = g.w) (hu : X.A.units + 64 < cLine) (ha : SE g W X a (evE P ia)) (hb : SE g W X b (evE P ib)) (hm : behindInMarks (copOf op) b = false) : SE g W X (.Compare a [copOf op] [b] pos) (evE P (.cmp op ia ib)) := PE_imp (pe_cmpR (op_cmp op hu) ha hb hm) fun σ H Q ⟨H0, ρ, μ, ι, r, h⟩ => by
  simp only [evE] at h
  refine run_bind r h fun v x μ1 A1 H1 ι1 s1 r1 d1 h => ?_
  refine run_bind r1 h fun v2 y μ2 A2 H2 ι2 s2 r2 d2 h => ?_
  exact cmpX_read O hw r2 (d1.stp s2) d2 (post_b h)
theorem st_cmp {op : Cop} (O : Own g X P k) (hw : X.w = g.w) (hu : X.A.units + 64 < cLine) (ha : SE g W X a (evE P ia)) (hb : SE g W X b (evE P ib)) (hm : behindInMarks (copOf op) b = false) : ST g W X (.Compare a [copOf op] [b] pos) (evT P (.cmp op ia ib)) := PT_imp (pt_cmpR (op_cmp op hu) ha hb hm) fun σ H Q ⟨H0, ρ, μ, ι, r, h⟩ => by
  simp only [evT] at h
  refine run_bind r h fun v x μ1 A1 H1 ι1 s1 r1 d1 h => ?_
  refine run_bind r1 h fun v2 y μ2 A2 H2 ι2 s2 r2 d2 h => ?_
  refine cmpX_read (W := W) O hw r2 (d1.stp s2) d2 ?_
  cases q : cmpX P op x y μ2 with
  | ok b μ' =>
    rw [q] at h
    exact fun v A B C s t d => ⟨v, rfl, h v A B C s t d⟩
  | er e μ' => rw [q] at h; exact h
  | no => rw [q] at h; exact h
theorem run_cmp {op : Cop} {σ : L2.St} {ρ : Env} {H0 H : Hp} {ι : List Addr} {μ : Mu} {v u : V} {x y : DL.X} {α β : Type} {rel : Hp → List Addr → β → α → Prop} {f : Bool → Mu → R α} {Q' : β → Hp → Prop} {Q : VK} (O : Own g X P k) (hw : X.w = g.w) (r : Rel g H0 H σ ρ μ ι) (hx : XDen g H0 ι v x) (hy : XDen g H0 ι u y)
    (h : Post g W σ ρ rel H0 H ι ((cmpX P op x y μ).bind f) Q') (hk : ∀ b μ' A' H' ι', Stp H0 H ι A' H' ι' → Rel g A' H' σ ρ μ' ι' → Post g W σ ρ rel A' H' ι' (f b μ') Q' → Q (.bl b) H') : rCmp X op v u H Q := by
  refine cmpX_read (W := W) O hw r hx hy ?_
  cases q : cmpX P op x y μ with
  | ok b μ' =>
    rw [q] at h
    intro v A B C s t d
    have d : v = b := d
    subst d
    exact hk _ _ A B C s t (Post.step s h)
  | er e μ' => rw [q] at h; exact h
  | no => rw [q] at h; exact h
theorem se_chain {o1 o2 : Cop} (O : Own g X P k) (hw : X.w = g.w) (hu : X.A.units + 64 < cLine) (ha : SE g W X a (evE P ia)) (hb : SE g W X b (evE P ib)) (hc : SE g W X c (evE P ic)) (hm : lastMarks [copOf o1, copOf o2] [b, c] = false) :
    SE g W X (.Compare a [copOf o1, copOf o2] [b, c] pos) (evE P (.chain o1 o2 ia ib ic)) := PE_imp (pe_chain (op_cmp o1 hu) (op_cmp o2 hu) ha hb hc hm) fun σ H Q ⟨H0, ρ, μ, ι, r, h⟩ => by
  simp only [evE] at h
  refine run_bind r h fun v x μ1 A1 H1 ι1 s1 r1 d1 h => ?_
  refine run_bind r1 h fun v2 y μ2 A2 H2 ι2 s2 r2 d2 h => ?_
  refine run_cmp O hw r2 (d1.stp s2) d2 h fun k' μ3 A3 H3 ι3 s3 r3 h => ⟨k', rfl, ?_⟩
  cases k' with
  | false => exact iteF (h.now r3 (Den.bl false))
  | true =>
    refine iteT ?_
    simp only [if_true] at h
    refine run_bind r3 h fun v3 z μ4 A4 H4 ι4 s4 r4 d4 h => ?_
    exact cmpX_read O hw r4 ((d2.stp s3).stp s4) d4 (post_b h)
theorem st_chain {o1 o2 : Cop} (O : Own g X P k) (hw : X.w = g.w) (hu : X.A.units + 64 < cLine) (ha : SE g W X a (evE P ia)) (hb : SE g W X b (evE P ib)) (hc : SE g W X c (evE P ic)) (hm : lastMarks [copOf o1, copOf o2] [b, c] = false) :
    ST g W X (.Compare a [copOf o1, copOf o2] [b, c] pos) (evT P (.chain o1 o2 ia ib ic)) := PT_imp (pt_chain (op_cmp o1 hu) (op_cmp o2 hu) ha hb hc hm) fun σ H Q ⟨H0, ρ, μ, ι, r, h⟩ => by
  simp only [evT] at h
  refine run_bind r h fun v x μ1 A1 H1 ι1 s1 r1 d1 h => ?_
  refine run_bind r1 h fun v2 y μ2 A2 H2 ι2 s2 r2 d2 h => ?_
  refine run_cmp O hw r2 (d1.stp s2) d2 h fun k' μ3 A3 H3 ι3 s3 r3 h => ⟨k', rfl, ?_⟩
  cases k' with
  | false => exact iteF ⟨_, rfl, h.now r3 rfl⟩
  | true =>
    refine iteT ?_
    simp only [if_true] at h
    refine run_bind r3 h fun v3 z μ4 A4 H4 ι4 s4 r4 d4 h => ?_
    refine cmpX_read (W := W) O hw r4 ((d2.stp s3).stp s4) d4 ?_
    cases q : cmpX P o2 y z μ4 with
    | ok b μ' =>
      rw [q] at h
      exact fun v A B C s t d => ⟨v, rfl, h v A B C s t d⟩
    | er e μ' => rw [q] at h; exact h
    | no => rw [q] at h; exact h
end
end
end DL
/-! DL4: expressions, on. -/
namespace DL
open PySem PySem.Spec PyProof.Rows L2
section
variable {g : G} {X : Cx} {W : WX} {P : Par} {pos : Pos}
section
variable {a b c : Expr} {ia ib ic : E} {it it2 : T} {es rest : List Expr} {ies : Es} {its : Ts}
/-! ### and, or, not, if -/
def boOf : Bool → BoolOp
  | true => .And
  | false => .Or
theorem se_bop1 {cj : Bool} (ha : SE g W X a (evE P ia)) : SE g W X (.BoolOp (boOf cj) [a] pos) (evE P (.bop cj (.cons ia .nil))) := PE_imp (pe_one ha) fun σ H Q ⟨H0, ρ, μ, ι, r, h⟩ => by
  simp only [evE, evB] at h
  exact run_bind r h fun v x μ1 A1 H1 ι1 s1 r1 d1 h => h.now r1 d1
theorem se_bop {cj : Bool} {ie : E} {ir : Es} (ha : SE g W X a (evE P ia)) (hb : SE g W X (.BoolOp (boOf cj) (b :: rest) pos) (evE P (.bop cj (.cons ie ir)))) :
    SE g W X (.BoolOp (boOf cj) (a :: b :: rest) pos) (evE P (.bop cj (.cons ia (.cons ie ir)))) := by
  cases cj with
  | true =>
    refine PE_imp (pe_and ha hb) fun σ H Q ⟨H0, ρ, μ, ι, r, h⟩ => ?_
    simp only [evE] at h
    rw [evB] at h
    refine run_bind r h fun v x μ1 A1 H1 ι1 s1 r1 d1 h => ?_
    dsimp only at h
    split at h
    · rename_i k
      cases d1
      refine ⟨k, rfl, ?_⟩
      cases k with
      | true =>
        refine iteT ?_
        rw [if_pos rfl] at h
        refine ⟨A1, ρ, μ1, ι1, r1, ?_⟩
        simp only [evE]
        exact h
      | false =>
        refine iteF ?_
        rw [if_neg (by decide)] at h
        exact h.now r1 (Den.bl false)
    · exact h.elim
  | false =>
    refine PE_imp (pe_or ha hb) fun σ H Q ⟨H0, ρ, μ, ι, r, h⟩ => ?_
    simp only [evE] at h
    rw [evB] at h
    refine run_bind r h fun v x μ1 A1 H1 ι1 s1 r1 d1 h => ?_
    dsimp only at h
    split at h
    · rename_i k
      cases d1
      refine ⟨k, rfl, ?_⟩
      cases k with
      | true =>
        refine iteT ?_
        rw [if_neg (by decide)] at h
        exact h.now r1 (Den.bl true)
      | false =>
        refine iteF ?_
        rw [if_pos rfl] at h
        refine ⟨A1, ρ, μ1, ι1, r1, ?_⟩
        simp only [evE]
        exact h
    · exact h.elim
theorem se_not (ha : SE g W X a (evE P ia)) : SE g W X (.UnaryOp .Not a pos) (evE P (.not ia)) := PE_imp (pe_not ha) fun σ H Q ⟨H0, ρ, μ, ι, r, h⟩ => by
  simp only [evE] at h
  refine run_bind r h fun v x μ1 A1 H1 ι1 s1 r1 d1 h => ?_
  split at h
  · rename_i k
    cases d1
    exact ⟨k, rfl, h.now r1 (Den.bl _)⟩
  · exact h.elim
theorem se_ife (hc : ST g W X c (evT P it)) (ha : SE g W X a (evE P ia)) (hb : SE g W X b (evE P ib)) : SE g W X (.IfExp c a b pos) (evE P (.ife it ia ib)) := PE_imp (pe_ifExp hc ha hb) fun σ H Q ⟨H0, ρ, μ, ι, r, h⟩ => by
  simp only [evE] at h
  refine run_bind r h fun k k' μ1 A1 H1 ι1 s1 r1 d1 h => ?_
  have d1 : k = k' := d1
  subst d1
  cases k with
  | true => exact iteT (run_of r1 h)
  | false => exact iteF (run_of r1 h)
abbrev SW (g : G) (W : WX) (X : Cx) (e : Expr) (ev : Env → Mu → R Bool) : Prop := PW X e (tT g W ev)
theorem sw_bop1 {cj : Bool} (ha : ST g W X a (evT P it)) : SW g W X (.BoolOp (boOf cj) [a] pos) (evT P (.bop cj (.cons it .nil))) := by
  have go : ∀ σ H Q, tT g W (evT P (.bop cj (.cons it .nil))) σ H Q → tT g W (evT P it) σ H Q := fun σ H Q ⟨H0, ρ, μ, ι, r, h⟩ => by
    simp only [evT, evTs] at h
    refine run_bind r h fun k k' μ1 A1 H1 ι1 s1 r1 d1 h => ?_
    have d1 : k = k' := d1
    subst d1
    split at h
    · rename_i q
      rw [q]
      exact h.now r1 rfl
    · exact h.now r1 rfl
  cases cj with
  | true => exact PW_imp (pw_and1 ha) go
  | false => exact PW_imp (pw_or1 ha) go
theorem sw_bop {cj : Bool} {ie : T} {ir : Ts} (ha : ST g W X a (evT P it)) (hb : SW g W X (.BoolOp (boOf cj) (b :: rest) pos) (evT P (.bop cj (.cons ie ir)))) :
    SW g W X (.BoolOp (boOf cj) (a :: b :: rest) pos) (evT P (.bop cj (.cons it (.cons ie ir)))) := by
  cases cj with
  | true =>
    refine PW_imp (pw_and ha hb) fun σ H Q ⟨H0, ρ, μ, ι, r, h⟩ => ?_
    simp only [evT] at h
    rw [evTs] at h
    refine run_bind r h fun k k' μ1 A1 H1 ι1 s1 r1 d1 h => ?_
    have d1 : k = k' := d1
    subst d1
    cases k with
    | true =>
      refine iteT ⟨A1, ρ, μ1, ι1, r1, ?_⟩
      rw [if_pos rfl] at h
      simp only [evT]
      exact h
    | false =>
      refine iteF ?_
      rw [if_neg (by decide)] at h
      exact h.now r1 rfl
  | false =>
    refine PW_imp (pw_or ha hb) fun σ H Q ⟨H0, ρ, μ, ι, r, h⟩ => ?_
    simp only [evT] at h
    rw [evTs] at h
    refine run_bind r h fun k k' μ1 A1 H1 ι1 s1 r1 d1 h => ?_
    have d1 : k = k' := d1
    subst d1
    cases k with
    | false =>
      refine iteF ⟨A1, ρ, μ1, ι1, r1, ?_⟩
      rw [if_pos rfl] at h
      simp only [evT]
      exact h
    | true =>
      refine iteT ?_
      rw [if_neg (by decide)] at h
      exact h.now r1 rfl
theorem st_not (ha : ST g W X a (evT P it)) : ST g W X (.UnaryOp .Not a pos) (evT P (.not it)) := PT_imp (pt_not ha) fun σ H Q ⟨H0, ρ, μ, ι, r, h⟩ => by
  simp only [evT] at h
  refine run_bind r h fun k k' μ1 A1 H1 ι1 s1 r1 d1 h => ?_
  have d1 : k = k' := d1
  subst d1
  exact h.now r1 rfl
theorem truth_read {σ : L2.St} {ρ : Env} {H0 H : Hp} {ι : List Addr} {μ : Mu} {v : V} {x : DL.X} {d : D} {b : Bool} (r : Rel g H0 H σ ρ μ ι) (hx : XDen g H0 ι v x) (e : view μ x = some d) (t : truth d = some b) : TruV g.K v H b := by
  have hd := r.den hx e
  cases hd with
  | non => cases t; rfl
  | bl k => cases t; rfl
  | int i => cases t; rfl
  | str y =>
    have t : (if y.length ≤ 1000000 then some (y.length != 0) else none) = some b := t
    split at t
    · rename_i hz
      cases t
      refine ⟨Nat.le_trans hz line6, ?_⟩
      rcases Nat.eq_zero_or_pos y.length with e | e
      · rw [e]; rfl
      · have h1 : (y.length != 0) = true := by simp; omega
        have h2 : ((y.length : Int) != 0) = true := by simp; omega
        rw [h1, h2]
    · cases t
  | lst h hs =>
    cases t
    refine .inl ⟨_, SqL.of h, ?_⟩
    cases hs <;> rfl
  | kls h hs =>
    cases t
    refine .inl ⟨_, h, ?_⟩
    cases hs <;> rfl
  | tup h hs =>
    cases t
    refine .inr (.inl ⟨_, h, ?_⟩)
    cases hs <;> rfl
  | dic h hs => cases t
  | kdic h => cases t
  | ins _ h hs => cases t
  | fn j => cases t
  | cls j => cases t
theorem st_val (hK : X.K = g.K) (ha : SE g W X a (evE P ia)) (he : ∀ whole, isTrue a X.env whole = (do let v ← whole; standAt a.pos; holding [v] (truthy v))) : ST g W X a (evT P (.val ia)) := PT_imp (pt_truth ha he) fun σ H Q ⟨H0, ρ, μ, ι, r, h⟩ => by
  simp only [evT] at h
  refine run_bind r h fun v x μ1 A1 H1 ι1 s1 r1 d1 h => ?_
  split at h
  · rename_i d e
    cases q : truth d with
    | none =>
      rw [q] at h
      exact h.elim
    | some k =>
      rw [q] at h
      exact ⟨k, by rw [hK]; exact truth_read r1 d1 e q, h.now r1 rfl⟩
  · exact h.elim
/-! ### arguments, displays -/
theorem sa_nil : SA g W X [] (evEs P .nil) := PA_imp pa_nil fun σ H Q ⟨H0, ρ, μ, ι, r, h⟩ => by
  simp only [evEs] at h
  exact h.now r .nil
theorem sa_cons (ha : SE g W X a (evE P ia)) (hr : SA g W X es (evEs P ies)) (hs : starEach (a :: es) X.env = (false, eval a X.env) :: starEach es X.env) : SA g W X (a :: es) (evEs P (.cons ia ies)) := PA_imp (pa_cons ha hr hs) fun σ H Q ⟨H0, ρ, μ, ι, r, h⟩ => by
  simp only [evEs] at h
  refine run_bind r h fun v x μ1 A1 H1 ι1 s1 r1 d1 h => ?_
  refine run_bind r1 h fun vs xs μ2 A2 H2 ι2 s2 r2 d2 h => ?_
  exact h.now r2 (.cons (d1.stp s2) d2)
theorem se_lst {cell : Bool} (ha : SA g W X es (evEs P ies)) : SE g W X (.List es pos) (evE P (.lst cell ies)) := PE_imp (pe_lst ha) fun σ H Q ⟨H0, ρ, μ, ι, r, h⟩ => by
  simp only [evE] at h
  refine run_bind r h fun vs xs μ1 A1 H1 ι1 s1 r1 d1 h => ?_
  split at h
  · rename_i ds e
    obtain ⟨h1, h2⟩ := alloc_lst r1 (d1.toD e) h
    exact ⟨Nat.le_trans h1 line6, h2⟩
  · exact h.elim
theorem se_tup {n : Nat} (ha : SA g W X es (evEs P ies)) : SE g W X (.Tuple es n pos) (evE P (.tup ies)) := PE_imp (pe_tup ha) fun σ H Q ⟨H0, ρ, μ, ι, r, h⟩ => by
  simp only [evE] at h
  refine run_bind r h fun vs xs μ1 A1 H1 ι1 s1 r1 d1 h => ?_
  cases e : xs.mapM DL.X.dOf with
  | none =>
    rw [e] at h
    exact h.elim
  | some ds =>
    rw [e] at h
    simp only [Option.bind_some] at h
    have hs := d1.toD e
    by_cases hz : ds.length ≤ 1000000
    · rw [if_pos hz] at h
      refine ⟨Nat.le_trans (by rw [hs.length]; exact hz) line6, fun p hp => ?_⟩
      obtain ⟨r2, s2⟩ := r1.value (o := .tup vs) hp
      exact h (.ref p) _ _ _ s2 r2 (Den.tup (SqT.of upd_same) (hs.mono s2.e0))
    · rw [if_neg hz] at h
      exact h.elim
/-! ### items -/
theorem atI_den {H : Hp} {vs : List V} {ds : List D} {i : Int} {d : D} (h : Dens g H vs ds) (e : atI ds i = some d) : ∃ v, atI vs i = some v ∧ Den g H v d := by
  unfold atI at e ⊢
  rw [h.length]
  cases q : ixN ds.length i with
  | none => rw [q] at e; cases e
  | some j =>
    rw [q] at e
    exact h.get e
theorem atI_den1 {α : Type} {f : α → D} {xs : List α} {i : Int} {d : D} (e : (atI xs i).map f = some d) : ∃ c, atI xs i = some c ∧ d = f c := by
  obtain ⟨c, h1, h2⟩ := Option.map_eq_some_iff.mp e
  exact ⟨c, h1, h2.symm⟩
theorem CDen.den {K : PySem.W.Frag} {H : Hp} (hK : K = g.K) : ∀ {v : V} {d : D}, CDen K v d → Den g H v d := by
  intro v d h
  induction h using CDen.rec (motive_2 := fun vs ds _ => Dens g H vs ds) with
  | non => exact .non
  | bl b => exact .bl b
  | int i => exact .int i
  | str x => exact .str x
  | kls h _ ih => exact .kls (by rw [← hK]; exact h H) ih
  | tup h _ ih => exact .tup (by rw [← hK]; exact h H) ih
  | nil => exact .nil
  | cons _ _ h1 h2 => exact .cons h1 h2
/-- a[i] of a dict that is tracked -/
def rIxDK : R2 := fun x y H Q => ∃ a v, x = .ref a ∧ DGet H a y (some v) ∧ Q v H
theorem ix_dk (hu : X.A.units + 64 < cLine) : IxR X rIxDK := by
  intro value slice pins s σ H x y v u Q I rx ry h hs
  obtain ⟨a, z, rfl, g0, q⟩ := h
  obtain rfl : v = Value.ref a := rx
  exact tail_any (dict_typeIs I g0) PySem.F.slot_dict_getitem.lookup (d_getItem (by omega) I g0 ry fun w' s3 I3 rw' => ⟨z, H, I3, rw', q⟩) hs
theorem se_idx (hK : X.K = g.K) (hw : X.w = g.w) (hu : X.A.units + 64 < cLine) (ha : SE g W X a (evE P ia)) (hb : SE g W X b (evE P ib)) (hs : PlainIx b) : SE g W X (.Subscript a b pos) (evE P (.idx ia ib)) := PE_imp (pe_ix (ix_list.or (ix_tup.or (ix_str.or ((ix_dk hu).or ix_kdict)))) ha hb hs) fun σ H Q ⟨H0, ρ, μ, ι, r, h⟩ => by
  simp only [evE] at h
  refine run_bind r h fun v x μ1 A1 H1 ι1 s1 r1 d1 h => ?_
  refine run_bind r1 h fun v2 y μ2 A2 H2 ι2 s2 r2 d2 h => ?_
  rw [hK, hw]
  split at h
  · rename_i d y' e
    have d2 : Den g A2 v2 y' := d2
    cases q : idxD d y' with
    | none =>
      rw [q] at h
      exact h.elim
    | some z =>
      rw [q] at h
      unfold idxD at q
      split at q
      · split at q
        · cases d2
          obtain ⟨p, vs, e1, e2, e3⟩ := r2.viewL (d1.stp s2) e
          obtain ⟨u, e4, e5⟩ := atI_den e3 q
          exact .inl ⟨p, vs, _, u, e1, rfl, e2, e4, h.now r2 e5⟩
        · cases q
      · split at q
        · cases d2
          obtain ⟨p, vs, e1, e2, e3⟩ := r2.viewT (d1.stp s2) e
          obtain ⟨u, e4, e5⟩ := atI_den e3 q
          exact .inr (.inl ⟨p, vs, _, u, e1, rfl, e2, e4, h.now r2 e5⟩)
        · cases q
      · split at q
        · split at q
          · rename_i hz
            obtain ⟨c, e4, rfl⟩ := atI_den1 q
            have hd := viewS_den r2 (d1.stp s2) e (fun _ z => nomatch z)
            cases d2
            cases hd
            exact .inr (.inr (.inl ⟨_, _, c, rfl, rfl, Nat.le_trans hz line6, e4, h.now r2 (Den.str _)⟩))
          · cases q
        · cases q
      · obtain ⟨k, ek, eg⟩ := Option.bind_eq_some_iff.mp q
        obtain ⟨p, ks, rfl, h2, h3⟩ := r2.viewK (d1.stp s2) e
        obtain ⟨key, hk, rfl⟩ := keyOf_den d2 ek
        unfold dget at eg
        rcases denk_get hk h3 with ⟨h4, h5⟩ | ⟨d', w, h4, h5, h6⟩
        · rw [h4] at eg; cases eg
        · rw [h4] at eg
          cases eg
          exact .inr (.inr (.inr (.inl ⟨p, w, rfl, .inl ⟨ks, key, h2, rfl, h5.symm⟩, h.now r2 h6⟩)))
      · split at q
        · rename_i zs _
          have hd := viewS_den r2 (d1.stp s2) e (fun _ z => nomatch z)
          cases d2
          cases hd with
          | kdic hk =>
            obtain ⟨es, n, D, hz⟩ := hk
            obtain ⟨r', h1, h2⟩ := hz zs
            rw [q] at h2
            cases r' with
            | none => exact h2.elim
            | some u0 =>
              obtain ⟨v0, rv, cd⟩ := h2
              exact .inr (.inr (.inr (.inr ⟨_, zs, v0, rfl, rfl, ⟨es, n, u0, D.at_, D.lit, h1, rv⟩, h.now r2 (cd.den rfl)⟩)))
        · cases q
      · cases q
  · exact h.elim
theorem denf_val {H : Hp} {ι : List Addr} : ∀ {vf : List (Str × V)} {fs : List (Str × DL.X)} {ds : List (Str × D)}, XDenf g H ι vf fs → valF fs = some ds → Denf g H vf ds
  | _, _, _, .nil, e => by
    cases e
    exact .nil
  | _, _, ds, .cons (x := x) (xs := xs) h hs, e => by
    unfold valF at e
    cases x with
    | r k => cases e
    | d y =>
      cases q : valF xs with
      | none => rw [q] at e; cases e
      | some rs =>
        rw [q] at e
        cases e
        exact .cons h (denf_val hs q)
theorem Denf.mono' {H H' : Hp} (e : Ex H H') {vs : List (Str × V)} {ds : List (Str × D)} (h : Denf g H vs ds) : Denf g H' vs ds := Denf.mono e h
/-- .. made fast -/
theorem frz_read {σ : L2.St} {ρ : Env} {H0 H : Hp} {ι : List Addr} {μ : Mu} {k : Nat} {p : Addr} {n : Node} {x : D} (r : Rel g H0 H σ ρ μ ι) (q : μ[k]? = some (some n)) (h1 : ι[k]? = some p) (e : n.fast = some x) : ∃ H0', Rel g H0' H σ ρ (μ.set k none) ι ∧ Stp H0 H ι H0' H ι ∧ Den g H0' (.ref p) x := by
  obtain ⟨_, c⟩ := r.cell k n p q h1
  cases n with
  | lst xs =>
    cases e
    obtain ⟨vs, c1, c2⟩ := c
    obtain ⟨r2, s2⟩ := r.freeze q h1 c1
    exact ⟨_, r2, s2, Den.lst upd_same (c2.mono s2.e0)⟩
  | dic kvs =>
    cases e
    obtain ⟨ks, c1, c2⟩ := c
    obtain ⟨r2, s2⟩ := r.freeze q h1 c1
    exact ⟨_, r2, s2, Den.dic (.inl upd_same) (c2.mono s2.e0)⟩
  | ins c fs =>
    obtain ⟨hc, dx, vf, c1, c2⟩ := c
    obtain ⟨fs', e1, rfl⟩ := Option.map_eq_some_iff.mp e
    obtain ⟨r2, s2⟩ := r.freeze q h1 c1
    exact ⟨_, r2, s2, Den.ins hc upd_same ((denf_val c2 e1).mono' s2.e0)⟩
theorem se_frz (ha : SE g W X a (evE P ia)) : SE g W X a (evE P (.frz ia)) := PE_imp ha fun σ H Q ⟨H0, ρ, μ, ι, r, h⟩ => by
  simp only [evE] at h
  refine run_bind r h fun v x μ1 A1 H1 ι1 s1 r1 d1 h => ?_
  cases x with
  | d x => exact h.now r1 d1
  | r k =>
    unfold frzX at h
    dsimp only at h
    split at h
    · rename_i n q
      obtain ⟨p, h1, rfl⟩ := d1
      split at h
      · rename_i x e
        obtain ⟨H0', r2, s2, d2⟩ := frz_read r1 q h1 e
        exact h _ _ _ _ s2 r2 d2
      · exact h.elim
    · exact h.elim
/-! ### slices -/
theorem dens_take {H : Hp} : ∀ {vs : List V} {ds : List D} (n : Nat), Dens g H vs ds → Dens g H (vs.take n) (ds.take n)
  | _, _, 0, _ => by simp only [List.take_zero]; exact .nil
  | _, _, n + 1, .nil => by simp only [List.take_nil]; exact .nil
  | _, _, n + 1, .cons h hs => .cons h (dens_take n hs)
theorem dens_drop {H : Hp} : ∀ {vs : List V} {ds : List D} (n : Nat), Dens g H vs ds → Dens g H (vs.drop n) (ds.drop n)
  | _, _, 0, h => h
  | _, _, n + 1, .nil => by simp only [List.drop_nil]; exact .nil
  | _, _, n + 1, .cons h hs => dens_drop n hs
theorem dens_rev {H : Hp} : ∀ {vs : List V} {ds : List D}, Dens g H vs ds → Dens g H vs.reverse ds.reverse
  | _, _, .nil => .nil
  | _, _, .cons h hs => by
    rw [List.reverse_cons, List.reverse_cons]
    exact (dens_rev hs).append (.cons h .nil)
theorem dens_cut {H : Hp} {vs : List V} {ds : List D} {lo hi : Option Int} (h : Dens g H vs ds) : Dens g H (cutV vs lo hi) (cutD ds lo hi) := by
  unfold cutV cutD
  rw [h.length]
  exact dens_take _ (dens_drop _ h)
theorem whole_cut {ds : List D} {lo hi : Option Int} (h : HT.sIx ds.length 0 lo = 0 ∧ HT.sIx ds.length ds.length hi = ds.length) : cutD ds lo hi = ds := by
  unfold cutD
  rw [h.1, h.2]
  simp
def rSlAll (K : PySem.W.Frag) : V → Option Int → Option Int → Hp → VK → Prop := fun x lo hi H Q => rSlL K x lo hi H Q ∨ (rSlA K x lo hi H Q ∨ rSlS x lo hi H Q)
theorem sl_all : SlR X (rSlAll X.K) := SlR.or sl_list (SlR.or sl_tupA sl_str)
theorem sl_read {σ : L2.St} {ρ : Env} {H0 H : Hp} {ι : List Addr} {μ : Mu} {v : V} {x : DL.X} {cell : Bool} {lo hi : Option Int} {Q : VK} (r : Rel g H0 H σ ρ μ ι) (d : XDen g H0 ι v x) (h : Post g W σ ρ (rX g) H0 H ι (slD μ cell x lo hi) Q) : rSlAll g.K v lo hi H Q := by
  unfold slD at h
  split at h
  · rename_i xs e
    obtain ⟨p, vs, rfl, e2, e3⟩ := r.viewL d e
    exact .inl ⟨p, vs, rfl, e2, (alloc_lst r (dens_cut e3) h).2⟩
  · rename_i xs e
    obtain rfl := view_tup r d (viewS_t e)
    have d : Den g H0 v (.tup xs) := d
    cases d with
    | tup hx hxs =>
      refine .inr (.inl ⟨_, _, rfl, ex_t r.ex hx, fun hw => ?_, fun _ => new_tup r (dens_cut hxs) h⟩)
      rw [hxs.length] at hw
      refine h.now r ?_
      show Den g H0 _ (.tup (cutD xs lo hi))
      rw [whole_cut hw]
      exact Den.tup hx hxs
  · rename_i z e
    split at h
    · rename_i hz
      have hd := viewS_den r d e (fun _ z => nomatch z)
      cases hd
      exact .inr (.inr ⟨z, rfl, Nat.le_trans hz line6, h.now r (Den.str _)⟩)
    · exact h.elim
  · exact h.elim
abbrev rO : Hp → List Addr → Option Int → Option Int → Prop := fun _ _ v x => v = x
abbrev SO (g : G) (W : WX) (X : Cx) (e : Option Expr) (ev : Env → Mu → R (Option Int)) : Prop := PO X e (run g W rO ev)
theorem PO_imp {X : Cx} {e : Option Expr} {t t' : TO} (h : PO X e t) (i : ∀ σ H Q, t' σ H Q → t σ H Q) : PO X e t' := ⟨fun pins s σ H Q I q => h.run pins s σ H Q I (i _ _ _ q)⟩
theorem so_none : SO g W X none (evO P .none) := PO_imp po_none fun σ H Q ⟨H0, ρ, μ, ι, r, h⟩ => by
  simp only [evO] at h
  exact h.now r rfl
theorem so_some (ha : SE g W X a (evE P ia)) : SO g W X (some a) (evO P (.some ia)) := PO_imp (po_some ha) fun σ H Q ⟨H0, ρ, μ, ι, r, h⟩ => by
  simp only [evO] at h
  refine run_bind r h fun v x μ1 A1 H1 ι1 s1 r1 d1 h => ?_
  cases q : intX x with
  | none => rw [q] at h; exact h.elim
  | some i =>
    rw [q] at h
    cases intX_eq q
    cases (show Den g A1 v (.int i) from d1)
    exact ⟨i, rfl, h.now r1 rfl⟩
theorem se_sl {cell : Bool} {lo hi : Option Expr} {il ih : Eo} {p2 : Pos} (hK : X.K = g.K) (ha : SE g W X a (evE P ia)) (hl : SO g W X lo (evO P il)) (hh : SO g W X hi (evO P ih)) : SE g W X (.Subscript a (.Slice lo hi none p2) pos) (evE P (.sl cell ia il ih)) := PE_imp (pe_slice sl_all ha hl hh) fun σ H Q ⟨H0, ρ, μ, ι, r, h⟩ => by
  simp only [evE] at h
  refine run_bind r h fun v x μ1 A1 H1 ι1 s1 r1 d1 h => ?_
  refine run_bind r1 h fun l l' μ2 A2 H2 ι2 s2 r2 d2 h => ?_
  refine run_bind r2 h fun u u' μ3 A3 H3 ι3 s3 r3 d3 h => ?_
  have d2 : l = l' := d2
  have d3 : u = u' := d3
  subst d2 d3
  rw [hK]
  exact sl_read r3 ((d1.stp s2).stp s3) h
/-! f-strings -/
theorem se_fmt (ha : SE g W X a (evE P ia)) : SE g W X (.FormattedValue a (-1) none pos) (evE P (.fmt ia)) := PE_imp (pe_fmt ha) fun σ H Q ⟨H0, ρ, μ, ι, r, h⟩ => by
  simp only [evE] at h
  refine run_bind r h fun v x μ1 A1 H1 ι1 s1 r1 d1 h => ?_
  unfold fmtX at h
  split at h
  · split at h
    · rename_i hz
      cases d1
      exact .inl ⟨_, rfl, Nat.le_trans hz line6, h.now r1 (Den.str _)⟩
    · exact h.elim
  · split at h
    · rename_i hz
      cases d1
      exact .inr ⟨_, rfl, hz, h.now r1 (Den.str _)⟩
    · exact h.elim
  · exact h.elim
theorem se_jn1 (ha : SE g W X a (evE P ia)) : SE g W X (.JoinedStr [a] pos) (evE P (.jn1 ia)) := PE_imp (pe_joined1 ha) fun σ H Q ⟨H0, ρ, μ, ι, r, h⟩ => by
  simp only [evE] at h
  exact ⟨H0, ρ, μ, ι, r, h⟩
/-- the parts, one by one -/
inductive JP (g : G) (W : WX) (X : Cx) (P : Par) : List Expr → Es → Prop where
  | nil : JP g W X P [] .nil
  | cons {e : Expr} {ie : E} {es : List Expr} {ies : Es} (h : SE g W X e (evE P ie)) (r : JP g W X P es ies) : JP g W X P (e :: es) (.cons ie ies)
def jTs (g : G) (W : WX) (P : Par) : Es → List TE
  | .nil => []
  | .cons ie r => tE g W (evE P ie) :: jTs g W P r
theorem JP.pj : ∀ {es : List Expr} {ies : Es}, JP g W X P es ies → PJ X es (jTs g W P ies)
  | _, _, .nil => .nil
  | _, _, .cons h r => .cons h r.pj
theorem jn_run {σ : L2.St} {ρ : Env} {Q : Str → Hp → Prop} : ∀ (ies : Es) {acc : Str} {H0 H : Hp} {ι : List Addr} {μ : Mu}, Rel g H0 H σ ρ μ ι → Post g W σ ρ (fun _ _ (v z : Str) => v = z) H0 H ι (evJ P ies acc ρ μ) Q → tJs (jTs g W P ies) acc σ H Q
  | .nil, acc, H0, H, ι, μ, r, h => by
    simp only [evJ] at h
    exact h.now r rfl
  | .cons ie ies, acc, H0, H, ι, μ, r, h => by
    simp only [evJ] at h
    refine run_bind r h fun v x μ1 A1 H1 ι1 s1 r1 d1 h => ?_
    split at h
    · split at h
      · rename_i hz
        cases d1
        exact ⟨_, rfl, Nat.le_trans hz line6, jn_run ies r1 h⟩
      · exact h.elim
    · exact h.elim
theorem se_jn {e1 e2 : Expr} {es : List Expr} {ies : Es} (h : JP g W X P (e1 :: e2 :: es) ies) : SE g W X (.JoinedStr (e1 :: e2 :: es) pos) (evE P (.jn ies)) := PE_imp (pe_joined h.pj) fun σ H Q ⟨H0, ρ, μ, ι, r, h⟩ => by
  simp only [evE] at h
  refine jn_run ies r ?_
  cases q : evJ P ies Str.empty ρ μ with
  | ok z μ' =>
    rw [q] at h
    intro v A B C s t d
    have d : v = z := d
    subst d
    exact h _ A B C s t (Den.str _)
  | er e μ' => rw [q] at h; exact h
  | no => rw [q] at h; exact h
theorem se_rv {cell : Bool} {kk : Nat} {p1 p2 p3 : Pos} (hK : X.K = g.K) (ha : SE g W X a (evE P ia)) : SE g W X (.Subscript a (.Slice none none (some (.UnaryOp .USub (.Constant (.int 1) kk p1) p2)) p3) pos) (evE P (.rv cell ia)) := PE_imp (pe_revL ha) fun σ H Q ⟨H0, ρ, μ, ι, r, h⟩ => by
  simp only [evE] at h
  refine run_bind r h fun v x μ1 A1 H1 ι1 s1 r1 d1 h => ?_
  unfold rvD at h
  split at h
  · rename_i xs e
    obtain ⟨p, vs, rfl, e2, e3⟩ := r1.viewL d1 e
    exact ⟨p, vs, rfl, by rw [hK]; exact e2, (alloc_lst r1 (dens_rev e3) h).2⟩
  · exact h.elim
theorem se_never {e : Expr} : SE g W X e (evE P .never) := ⟨fun pins s σ H Q I ⟨H0, ρ, μ, ι, r, h⟩ => by
  simp only [evE] at h
  exact h.elim⟩
end
end
end DL
/-! DL5: calls. -/
namespace DL
open PySem PySem.Spec PyProof.Rows L2
section
variable {g : G} {X : Cx} {W : WX} {P : Par} {pos : Pos}
theorem pe_call0SD {CX : CXT} {k : Nat} {f : Addr} {fd : FuncData} {ps : List Str} {sp : Sp} {dvs : List V} {ds : List Value} {E : L2.St → XK} {x : Str} {p : Pos} (F : FnOk X.prog X.w X.K X.mg X.base CX k f fd ps sp) (hr : Room k X.A) (hg : Gl X x) (hm : X.mg x = some (.ref f)) (hk : PySem.W.keepIn X.K (.ref f) = true)
    (hb : Binds X.K fd ps ds) (hd : Vals dvs ds) (hx : ∀ σ, PassesAt CX X σ (E σ)) (hdb : (x == ("__debug__" : Str)) = false) : PE X (.Call (.Name x p) [] [] pos) (tCallSD sp dvs E tNil) := by
  refine ⟨fun pins s σ H Q I h => ?_⟩
  refine wpAny_Call_Name_kw (ld_glob I hg hm ?_ hdb)
  exact PySem.W.callWith_K0 I.kIn hk (run_fnSD (us := []) F hr hb hd (hx σ) I .nil h)
section
variable {k j : Nat} {fd : FuncData} {ps : List Str} {dvs : List V} {ds : List Value} {dds : List D} {x : Str} {p : Pos} {e : Expr} {es : List Expr} {ies : Es}
theorem call_read {t : TA} (ha : ∀ σ H Q, t σ H Q ↔ tA g W (evEs P ies) σ H Q) (hdd : ∀ H, Dens g H dvs dds) : ∀ σ H Q, tE g W (evE P (.call j ies dds)) σ H Q → tCallSD (spF g P.C j) dvs (WE W) t σ H Q := fun σ H Q ⟨H0, ρ, μ, ι, r, h⟩ => by
  simp only [evE] at h
  refine (ha _ _ _).mpr (run_bind r h fun vs xs μ1 A1 H1 ι1 s1 r1 d1 h => ?_)
  exact sp_call r1 (d1.append (XDens.ofD (hdd A1))) h
theorem se_call (F : FnOk X.prog X.w X.K X.mg X.base (L2N.CX X.prog X.w) k (g.fA j) fd ps (spF g P.C j)) (hr : Room k X.A) (hg : Gl X x) (hm : X.mg x = some (.ref (g.fA j))) (hk : PySem.W.keepIn X.K (.ref (g.fA j)) = true) (hb : Binds X.K fd ps ds) (hd : Vals dvs ds) (hdd : ∀ H, Dens g H dvs dds)
    (tk : L2N.Takes X W) (ha : SA g W X (e :: es) (evEs P ies)) (hdb : (x == ("__debug__" : Str)) = false) (he : starEach (e :: es) X.env = (false, eval e X.env) :: starEach es X.env) (hpl : (backTo pos (starEach es X.env)).any (·.1) = false) :
    SE g W X (.Call (.Name x p) (e :: es) [] pos) (evE P (.call j ies dds)) :=
  PE_imp (pe_callSD (E := WE W) F hr hg hm hk hb hd (fun σ => L2N.passAt tk σ) ha hdb he hpl) (call_read (fun _ _ _ => Iff.rfl) hdd)
theorem se_call0 (F : FnOk X.prog X.w X.K X.mg X.base (L2N.CX X.prog X.w) k (g.fA j) fd ps (spF g P.C j)) (hr : Room k X.A) (hg : Gl X x) (hm : X.mg x = some (.ref (g.fA j))) (hk : PySem.W.keepIn X.K (.ref (g.fA j)) = true) (hb : Binds X.K fd ps ds) (hd : Vals dvs ds) (hdd : ∀ H, Dens g H dvs dds)
    (tk : L2N.Takes X W) (hdb : (x == ("__debug__" : Str)) = false) : SE g W X (.Call (.Name x p) [] [] pos) (evE P (.call j .nil dds)) :=
  PE_imp (pe_call0SD (E := WE W) F hr hg hm hk hb hd (fun σ => L2N.passAt tk σ) hdb) fun σ H Q ⟨H0, ρ, μ, ι, r, h⟩ => by
    simp only [evE, evEs, R.bind, List.nil_append] at h
    exact sp_call r (XDens.ofD (hdd H0)) h
end
/-! ### instances -/
def rFldP (X : Cx) (f : Str) : V → Hp → VK → Prop := fun x H Q => ∃ a C dx fs, x = .ref a ∧ H a = some (.ins C dx fs) ∧ Cls X.K C ∧
  ((∃ v, NoAttr X.K C f ∧ fs.lookup f = some v ∧ Q v H) ∨ (∃ p gt k fd ps sp, PropOf X.K C f p gt ∧ FnOk X.prog X.w X.K X.mg X.base (L2N.CX X.prog X.w) k gt fd ps sp ∧ Room (k + 1) X.A ∧ Binds X.K fd ps [] ∧ sp [.ref a] H Q (fun _ _ _ => False)))
theorem pe_fldp {e : Expr} {f : Str} {ta : TE} (he : PE X e ta) (hb : attributeBase e f X.env (eval e X.env) = eval e X.env) : PE X (.Attribute e f pos) (fun σ H Q => ta σ H fun x H1 => rFldP X f x H1 Q) := by
  refine ⟨fun pins s σ H Q I h => ?_⟩
  refine attr_of hb (thn (he.run pins s σ H _ I h) fun u s1 ⟨x, H1, I1, rx, a, C, dx, fs, ex, ea, c, q⟩ => ?_)
  subst ex
  obtain rfl : u = Value.ref a := rx
  rcases q with ⟨v, n, l, q⟩ | ⟨p, gt, k, fd, ps, sp, hp, F, hr, hb, q⟩
  · exact getattr_ok I1 ea c n l fun u' s2 I2 ru => ⟨v, H1, I2, ru, q⟩
  · exact getprop_ok I1 ea c hp F hr hb .nil passNoN q
theorem se_fld {a : Expr} {ia : E} {f : Str} {k : Nat} (O : Own g X P k) (ha : SE g W X a (evE P ia)) (hb : attributeBase a f X.env (eval a X.env) = eval a X.env) : SE g W X (.Attribute a f pos) (evE P (.fld ia f)) := PE_imp (pe_fldp ha hb) fun σ H Q ⟨H0, ρ, μ, ι, r, h⟩ => by
  simp only [evE] at h
  refine run_bind r h fun v x μ1 A1 H1 ι1 s1 r1 d1 h => ?_
  unfold fldP at h
  split at h
  · rename_i c ec
    obtain ⟨hc, b, dx, vf, rfl, hb, _, hf⟩ := insOf_read r1 d1 ec
    have cl := (O.cls c hc).cl
    rw [← O.K] at cl
    refine ⟨b, _, _, _, rfl, hb, cl, ?_⟩
    split at h
    · rename_i j ej
      obtain ⟨p, fd, ps, hp, F, bd⟩ := O.prop c f j hc ej
      rw [← O.K] at hp
      exact .inr ⟨p, _, _, fd, ps, _, hp, F, O.room, bd, sp_quiet r1 (.cons d1 .nil) h⟩
    · split at h
      · rename_i ok
        have nf := O.fld c f hc ok
        rw [← O.K] at nf
        cases q : fldX μ1 x f with
        | none => rw [q] at h; exact h.elim
        | some y =>
          rw [q] at h
          obtain ⟨u, h1, h2⟩ := hf f y q
          exact .inl ⟨u, nf, h1, h.now r1 h2⟩
      · exact h.elim
  · exact h.elim
/-- o.m(..), whatever class o is of -/
def tMethD (X : Cx) (m : Str) (n : Nat) (W : WX) (ta : TE) (t : TA) : TE := fun σ H Q => ta σ H fun x H1 => ∃ a C dx fs f k fd ps sp ds dvs, x = .ref a ∧ H1 a = some (.ins C dx fs) ∧ Cls X.K C ∧ Meth X.K C m f ∧ fs.lookup m = none ∧
  FnOk X.prog X.w X.K X.mg X.base (L2N.CX X.prog X.w) k f fd ps sp ∧ Room k X.A ∧ Binds X.K fd ps ds ∧ Vals dvs ds ∧ t σ H1 fun vs H2 => sp (x :: (vs ++ dvs)) H2 Q (WE W σ)
theorem pe_methD {o : Expr} {m : Str} {apos : Pos} {es : List Expr} {ta : TE} {t : TA} {pl : Sem Bool} (tk : L2N.Takes X W) (he : PE X o ta) (ha : PA X es t)
    (hst : es = [] ∨ ∃ e r, es = e :: r ∧ starEach (e :: r) X.env = (false, eval e X.env) :: starEach r X.env ∧ (backTo pos (starEach r X.env)).any (·.1) = false) (hn : es = [] → ∀ σ H Q, t σ H Q → Q [] H)
    (ht : eval (.Call (.Attribute o m apos) es [] pos) X.env = (do
      let ov ← eval o X.env
      standAt apos.atName
      let (f, first) ← holding [ov] (getMethod ov m pl)
      callWith pos f first (backTo pos (starEach es X.env)) (backToKw pos (keywordEach [] X.env)))) :
    PE X (.Call (.Attribute o m apos) es [] pos) (tMethD X m 0 W ta t) := by
  refine ⟨fun pins s σ H Q I h => ?_⟩
  refine PySem.W.methodCall_KW (pl := pl) (thn (he.run pins s σ H _ I h) fun u s1 ⟨x, H1, I1, rx, a, C, dx, fs, f, k, fd, ps, sp, ds, dvs, ex, ea, c, hm, l, F, hr, hb, hd, q⟩ => ?_) ht
  subst ex
  obtain rfl : u = Value.ref a := rx
  refine getmeth_ok I1 ea c hm l ?_
  rcases hst with rfl | ⟨e, r, rfl, h1, h2⟩
  · have q2 := hn rfl _ _ _ q
    exact PySem.W.callWith_K0 (first := [.ref a]) I1.kIn hm.kp (run_fnSD (E := WE W) (us := [.ref a]) (vs := [.ref a]) F hr hb hd (L2N.passAt tk σ) I1 (.cons rfl .nil) q2)
  · refine PySem.W.callWith_K (first := [.ref a]) (h₀ := X.base) I.ok.mod.kin hm.kp (thn (ha.run pos pins s1 σ H1 _ I1 q) fun us s2 ⟨vs, H2, I2, r, q2⟩ => ⟨I2.kIn, ?_⟩) h1 h2
    exact run_fnSD (E := WE W) (us := .ref a :: us) (vs := .ref a :: vs) F hr hb hd (L2N.passAt tk σ) I2 (.cons rfl r) q2
/-- the methods' defaults -/
def MDf (g : G) (X : Cx) (P : Par) (m : Str) (ds : List D) : Prop := ∀ c j, c < g.nC → P.methOf c m = some j → ∃ fd ps us dvs k, Meth g.K (g.cA c) m (g.fA j) ∧ FnOk X.prog X.w X.K X.mg X.base (L2N.CX X.prog X.w) k (g.fA j) fd ps (spF g P.C j) ∧ Room k X.A ∧ Binds X.K fd ps us ∧ Vals dvs us ∧ ∀ H, Dens g H dvs ds
def MDf1 (g : G) (X : Cx) (P : Par) (c : Nat) (ds : List D) : Prop := ∀ j, P.methOf c "__init__" = some j → ∃ fd ps us dvs k, Mk g.K (g.cA c) (g.fA j) ∧ FnOk X.prog X.w X.K X.mg X.base (L2N.CX X.prog X.w) k (g.fA j) fd ps (spF g P.C1 j) ∧ Room (k + 1) X.A ∧ Binds X.K fd ps us ∧ Vals dvs us ∧ ∀ H, Dens g H dvs ds
theorem se_meth {o : Expr} {io : E} {m : Str} {es : List Expr} {ies : Es} {ds : List D} {apos : Pos} {k : Nat} {pl : Sem Bool} (O : Own g X P k) (tk : L2N.Takes X W) (hD : MDf g X P m ds) (ho : SE g W X o (evE P io)) (ha : SA g W X es (evEs P ies)) (hnil : es = [] → ies = .nil)
    (hst : es = [] ∨ ∃ e r, es = e :: r ∧ starEach (e :: r) X.env = (false, eval e X.env) :: starEach r X.env ∧ (backTo pos (starEach r X.env)).any (·.1) = false)
    (ht : eval (.Call (.Attribute o m apos) es [] pos) X.env = (do
      let ov ← eval o X.env
      standAt apos.atName
      let (f, first) ← holding [ov] (getMethod ov m pl)
      callWith pos f first (backTo pos (starEach es X.env)) (backToKw pos (keywordEach [] X.env)))) :
    SE g W X (.Call (.Attribute o m apos) es [] pos) (evE P (.meth m io ies ds)) := PE_imp (pe_methD tk ho ha hst (fun e σ H Q ⟨H0, ρ, μ, ι, r, h⟩ => by
      rw [hnil e] at h
      simp only [evEs] at h
      exact h.now r .nil) ht) fun σ H Q ⟨H0, ρ, μ, ι, r, h⟩ => by
  simp only [evE] at h
  refine run_bind r h fun v x μ1 A1 H1 ι1 s1 r1 d1 h => ?_
  split at h
  · rename_i c ec
    obtain ⟨hc, b, dx, vf, rfl, hb, hnf, _⟩ := insOf_read r1 d1 ec
    split at h
    · rename_i j ej
      split at h
      · rename_i hno
        obtain ⟨fd, ps, us, dvs, k', M, F, hr, bd, hv, hds⟩ := hD c j hc ej
        have cl := (O.cls c hc).cl
        rw [← O.K] at cl M
        refine ⟨b, _, _, _, _, k', fd, ps, _, us, dvs, rfl, hb, cl, M, hnf m (Option.isNone_iff_eq_none.mp hno), F, hr, bd, hv, ?_⟩
        refine run_bind r1 h fun vs xs μ2 A2 H2 ι2 s2 r2 d2 h => ?_
        exact sp_call r2 (.cons (d1.stp s2) (d2.append (XDens.ofD (hds A2)))) h
      · exact h.elim
    · exact h.elim
  · exact h.elim
/-- C(..) -/
theorem run_makeS {C f : Addr} {fd : FuncData} {ps : List Str} {sp : Sp} {ds : List Value} {dvs : List V} {k : Nat} {CX : CXT} {E : L2.St → XK} {pins : List (Addr × Obj)} {σ : L2.St} {H : Hp} {s : Shared} {Q : VK} {us : List Value} {vs : List V} (M : Mk X.K C f) (F : FnOk X.prog X.w X.K X.mg X.base CX k f fd ps sp) (hr : Room (k + 1) X.A) (hb : Binds X.K fd ps ds) (hd : Vals dvs ds)
    (hx : PassesAt CX X σ (E σ)) (I : Inv X pins σ H s) (r : Vals vs us)
    (h : ∀ x dx, H x = none → H dx = none → dx ≠ x → sp (.ref x :: (vs ++ dvs)) (upd (upd H dx (.own x)) x (.ins C dx [])) (fun v H2 => v = .non ∧ Q (.ref x) H2) (E σ)) :
    wpAny (model X.prog X.w) X.A (call (.ref C) us) (EP X pins σ Q) X.xe s := by
  have hq := h (s.heap.objs.size + 1) s.heap.objs.size (I.hok.fresh (Nat.le_succ _)) (I.hok.fresh (Nat.le_refl _)) (Nat.ne_of_lt (Nat.lt_succ_self _))
  have I2 := Inv.made (C := C) I
  have r2 : Vals (V.ref (s.heap.objs.size + 1) :: (vs ++ dvs)) (Value.ref (s.heap.objs.size + 1) :: (us ++ ds)) := .cons rfl (r.append hd)
  have hl : (Value.ref (s.heap.objs.size + 1) :: us ++ ds).length = ps.length := by
    have e := r2.length
    rw [F.len _ _ _ _ hq] at e
    exact e.symm
  refine wpAny_call (make_map (f := f) I.kIn M.makes M.init (beq_iff_eq.mp M.fn) (codeAny_mono (F.run _ X.stack _ _ ⟨Value.ref (s.heap.objs.size + 1) :: us, []⟩ (Value.ref (s.heap.objs.size + 1) :: (us ++ ds)) _ _ (E σ) (hr.make C us [])
    (I2.env0.make C us []) (hb _ (Value.ref (s.heap.objs.size + 1) :: us) I2.kIn hl) r2 hq) fun r s' hq' => ?_))
  cases r with
  | error e => exact hx pins _ _ e s' I2 hq'
  | ok fl =>
    cases fl with
    | ret u =>
      obtain ⟨v, H', I3, rv, ev, q3⟩ := I2.after hq'
      subst ev
      exact ⟨rv, ⟨V.ref (s.heap.objs.size + 1), H', I3, rfl, q3⟩⟩
    | next => exact False.elim hq'
    | brk => exact False.elim hq'
    | cont => exact False.elim hq'
def tMakeS (C : Addr) (sp : Sp) (dvs : List V) (E : L2.St → XK) (t : TA) : TE := fun σ H Q => t σ H fun vs H1 => ∀ x dx, H1 x = none → H1 dx = none → dx ≠ x →
  sp (.ref x :: (vs ++ dvs)) (upd (upd H1 dx (.own x)) x (.ins C dx [])) (fun v H2 => v = .non ∧ Q (.ref x) H2) (E σ)
theorem pe_makeS {C f : Addr} {fd : FuncData} {ps : List Str} {sp : Sp} {ds : List Value} {dvs : List V} {k : Nat} {CX : CXT} {E : L2.St → XK} {x : Str} {p : Pos} {e : Expr} {es : List Expr} {t : TA} (M : Mk X.K C f) (F : FnOk X.prog X.w X.K X.mg X.base CX k f fd ps sp) (hr : Room (k + 1) X.A) (hg : Gl X x) (hm : X.mg x = some (.ref C)) (hb : Binds X.K fd ps ds) (hd : Vals dvs ds) (hx : ∀ σ, PassesAt CX X σ (E σ))
    (ha : PA X (e :: es) t) (hdb : (x == ("__debug__" : Str)) = false) (he : starEach (e :: es) X.env = (false, eval e X.env) :: starEach es X.env) (hpl : (backTo pos (starEach es X.env)).any (·.1) = false) :
    PE X (.Call (.Name x p) (e :: es) [] pos) (tMakeS C sp dvs E t) := by
  refine ⟨fun pins s σ H Q I h => ?_⟩
  refine wpAny_Call_Name_kw (ld_glob I hg hm ?_ hdb)
  refine PySem.W.callWith_K (h₀ := X.base) I.ok.mod.kin M.kp (thn (ha.run pos pins s σ H _ I h) fun us s1 ⟨vs, H1, I1, r, q⟩ => ⟨I1.kIn, ?_⟩) he hpl
  exact run_makeS M F hr hb hd (hx σ) I1 r q
theorem pe_makeS0 {C f : Addr} {fd : FuncData} {ps : List Str} {sp : Sp} {ds : List Value} {dvs : List V} {k : Nat} {CX : CXT} {E : L2.St → XK} {x : Str} {p : Pos} (M : Mk X.K C f) (F : FnOk X.prog X.w X.K X.mg X.base CX k f fd ps sp) (hr : Room (k + 1) X.A) (hg : Gl X x) (hm : X.mg x = some (.ref C)) (hb : Binds X.K fd ps ds) (hd : Vals dvs ds) (hx : ∀ σ, PassesAt CX X σ (E σ))
    (hdb : (x == ("__debug__" : Str)) = false) : PE X (.Call (.Name x p) [] [] pos) (tMakeS C sp dvs E tNil) := by
  refine ⟨fun pins s σ H Q I h => ?_⟩
  refine wpAny_Call_Name_kw (ld_glob I hg hm ?_ hdb)
  exact PySem.W.callWith_K0 I.kIn M.kp (run_makeS (us := []) M F hr hb hd (hx σ) I .nil h)
/-- an object beside -/
theorem Rel.side' {σ : L2.St} {ρ : Env} {H0 H : Hp} {ι : List Addr} {μ : Mu} {p : Addr} {o : HO} (r : Rel g H0 H σ ρ μ ι) (h0 : H0 p = none) (hi : p ∉ ι) : Rel g H0 (upd H p o) σ ρ μ ι := by
  refine ⟨fun b u h => ?_, r.slot, r.sl, r.len, r.inj, fun a ha h => ?_, fun k nd a h1 h2 => ?_⟩
  · rw [upd_ne (ne_of_none h h0)]
    exact r.ex b u h
  · rw [upd_ne fun z => hi (by rw [← z]; exact ha)] at h
    exact r.tr a ha h
  · obtain ⟨h3, h4⟩ := r.cell k nd a h1 h2
    have ne : a ≠ p := fun z => hi (by rw [← z]; exact List.mem_of_getElem? h2)
    exact ⟨h3, h4.mono (Ex.refl _) ⟨[], by simp⟩ fun u q => by rw [upd_ne ne]; exact q⟩
theorem Stp.side' {H0 H H0' H' : Hp} {ι ι' : List Addr} {p : Addr} {o : HO} (s : Stp H0 H ι H0' H' ι') (hp : H p = none) : Stp H0 H ι H0' (upd H' p o) ι' := ⟨s.e0, s.pre, fun b u h n => by rw [upd_ne (ne_of_none h hp)]; exact s.fr b u h n, s.nw, fun b h => by
  by_cases hb : b = p
  · rw [hb]; exact hp
  · rw [upd_ne hb] at h
    exact s.th b h⟩
theorem mk_read {c j : Nat} {dvs : List V} {ds : List D} {σ : L2.St} {H : Hp} {Q : VK} {ies : Es} {t : TA} (hc : c < g.nC) (hj : P.methOf c "__init__" = some j) (hds : ∀ H, Dens g H dvs ds) (ha : ∀ σ H Q, tA g W (evEs P ies) σ H Q → t σ H Q) (h : tE g W (evE P (.mk c ies ds)) σ H Q) : tMakeS (g.cA c) (spF g P.C1 j) dvs (WE W) t σ H Q := by
  obtain ⟨H0, ρ, μ, ι, r, h⟩ := h
  simp only [evE] at h
  refine ha _ _ _ (run_bind r h fun vs xs μ1 A1 H1 ι1 s1 r1 d1 h => ?_)
  simp only [hj] at h
  intro x dx hx hdx ne
  have hx2 : upd H1 dx (.own x) x = none := by rw [upd_ne (Ne.symm ne)]; exact hx
  have r2 := r1.side' (p := dx) (o := .own x) (r1.free hdx) (r1.notIn hdx)
  have s2 : Stp A1 H1 ι1 A1 (upd H1 dx (.own x)) ι1 := Stp.refl.side' hdx
  obtain ⟨r3, s3⟩ := r2.newCell (o := .ins (g.cA c) dx []) (nd := .ins c []) hx2 ⟨hc, dx, [], upd_same, .nil⟩
  have s23 := s2.trans s3
  have d3 : XDens g A1 (ι1 ++ [x]) (.ref x :: (vs ++ dvs)) (.r μ1.length :: (xs ++ ds.map DL.X.d)) := .cons ⟨x, by rw [← r1.len]; simp, rfl⟩ ((d1.stp s23).append (XDens.ofD (hds A1)))
  refine ⟨A1, _, _, _, r3.bare, d3, ?_⟩
  have h2 := Post.step s23 h
  cases q : P.C1 j (.r μ1.length :: (xs ++ ds.map DL.X.d)) (μ1 ++ [some (.ins c [])]) with
  | no => rw [q] at h2; exact h2
  | er e μ' =>
    rw [q] at h2
    exact fun c d A B K s t z => h2 c d A B K s (r3.unbare s t) z
  | ok y μ' =>
    rw [q] at h2
    intro v A B K s t d
    simp only [R.bind] at h2
    cases y with
    | r k => exact h2.elim
    | d y =>
      cases y <;> first | (exact h2.elim; done) | skip
      have d : Den g A v .non := d
      cases d
      refine ⟨rfl, h2 (.ref x) A B K s ((r1.unbare (s23.trans s) t)) ?_⟩
      obtain ⟨m, em⟩ := s.p
      refine ⟨x, ?_, rfl⟩
      rw [em, ← r1.len]
      simp
theorem se_mk {c : Nat} {ds : List D} {x : Str} {p : Pos} {e : Expr} {es : List Expr} {ies : Es} (tk : L2N.Takes X W) (hK : X.K = g.K) (hc : c < g.nC) (hD : MDf1 g X P c ds) (hj : (P.methOf c "__init__").isSome = true) (hg : Gl X x) (hm : X.mg x = some (.ref (g.cA c))) (ha : SA g W X (e :: es) (evEs P ies)) (hdb : (x == ("__debug__" : Str)) = false) (he : starEach (e :: es) X.env = (false, eval e X.env) :: starEach es X.env)
    (hpl : (backTo pos (starEach es X.env)).any (·.1) = false) : SE g W X (.Call (.Name x p) (e :: es) [] pos) (evE P (.mk c ies ds)) := by
  obtain ⟨j, hj⟩ := Option.isSome_iff_exists.mp hj
  obtain ⟨fd, ps, us, dvs, k, M, F, hr, bd, hv, hds⟩ := hD j hj
  rw [← hK] at M
  exact PE_imp (pe_makeS (E := WE W) M F hr hg hm bd hv (fun σ => L2N.passAt tk σ) ha hdb he hpl) fun σ H Q h => mk_read hc hj hds (fun _ _ _ z => z) h
theorem se_mk0 {c : Nat} {ds : List D} {x : Str} {p : Pos} (tk : L2N.Takes X W) (hK : X.K = g.K) (hc : c < g.nC) (hD : MDf1 g X P c ds) (hj : (P.methOf c "__init__").isSome = true) (hg : Gl X x) (hm : X.mg x = some (.ref (g.cA c))) (hdb : (x == ("__debug__" : Str)) = false) : SE g W X (.Call (.Name x p) [] [] pos) (evE P (.mk c .nil ds)) := by
  obtain ⟨j, hj⟩ := Option.isSome_iff_exists.mp hj
  obtain ⟨fd, ps, us, dvs, k, M, F, hr, bd, hv, hds⟩ := hD j hj
  rw [← hK] at M
  exact PE_imp (pe_makeS0 (E := WE W) M F hr hg hm bd hv (fun σ => L2N.passAt tk σ) hdb) fun σ H Q h => mk_read (t := tNil) hc hj hds (fun σ H Q ⟨H0, ρ, μ, ι, r, h⟩ => by
    simp only [evEs] at h
    exact h.now r .nil) h
/-! ### dicts displayed -/
def trsOf (g : G) (W : WX) (P : Par) : Es → List (TE × TE)
  | .cons k (.cons v r) => (tE g W (evE P k), tE g W (evE P v)) :: trsOf g W P r
  | _ => []
def flatP : List (V × V) → List V
  | [] => []
  | (x, y) :: r => x :: y :: flatP r
inductive PsOk (g : G) (W : WX) (X : Cx) (P : Par) : Es → List (Option Expr) → List Expr → Prop
  | nil : PsOk g W X P .nil [] []
  | cons {k v : E} {r : Es} {ke ve : Expr} {ks : List (Option Expr)} {vs : List Expr} : SE g W X ke (evE P k) → SE g W X ve (evE P v) → PsOk g W X P r ks vs → PsOk g W X P (.cons k (.cons v r)) (some ke :: ks) (ve :: vs)
theorem PsOk.pps {es : Es} {ks : List (Option Expr)} {vs : List Expr} (h : PsOk g W X P es ks vs) : PPs X pos ks vs (trsOf g W P es) := by
  induction h with
  | nil => exact pps_nil
  | cons h1 h2 _ ih => exact pps_cons h1 h2 ih
theorem tp_read {σ : L2.St} {ρ : Env} {es : Es} {ks : List (Option Expr)} {vs : List Expr} (hp : PsOk g W X P es ks vs) : ∀ {H0 H : Hp} {ι : List Addr} {μ : Mu} {Q : List (V × V) → Hp → Prop}, Rel g H0 H σ ρ μ ι → Post g W σ ρ (fun A ι (ps : List (V × V)) xs => XDens g A ι (flatP ps) xs) H0 H ι (evEs P es ρ μ) Q → tPairs (trsOf g W P es) σ H Q := by
  induction hp with
  | nil =>
    intro H0 H ι μ Q r h
    simp only [evEs] at h
    exact h [] _ _ _ Stp.refl r .nil
  | cons h1 h2 _ ih =>
    intro H0 H ι μ Q r h
    rename_i k v rr _ _ _ _ _
    simp only [evEs] at h
    refine run_bind r h fun x x' μ1 A1 H1 ι1 s1 r1 d1 h => ?_
    have h : Post g W σ ρ (fun A ι (ps : List (V × V)) xs => XDens g A ι (flatP ps) xs) A1 H1 ι1 ((evE P v ρ μ1).bind fun y μ2 => (evEs P rr ρ μ2).bind fun ys μ3 => .ok (x' :: y :: ys) μ3) Q := by
      cases q1 : evE P v ρ μ1 with
      | ok y μ2 =>
        rw [q1] at h
        simp only [R.bind] at h ⊢
        cases q2 : evEs P rr ρ μ2 with
        | ok ys μ3 => rw [q2] at h; exact h
        | er e μ3 => rw [q2] at h; exact h
        | no => rw [q2] at h; exact h
      | er e μ2 => rw [q1] at h; exact h
      | no => rw [q1] at h; exact h
    refine run_bind r1 h fun y y' μ2 A2 H2 ι2 s2 r2 d2 h => ?_
    refine ih r2 ?_
    cases q : evEs P rr ρ μ2 with
    | ok ys μ3 =>
      rw [q] at h
      intro ps A B C s t d
      exact h ((x, y) :: ps) A B C s t (.cons ((d1.stp s2).stp s) (.cons (d2.stp s) d))
    | er e μ3 => rw [q] at h; exact h
    | no => rw [q] at h; exact h
theorem pairs_read {A : Hp} {ι : List Addr} : ∀ {ps : List (V × V)} {xs : List DL.X} {kvs : List (DK × D)}, XDens g A ι (flatP ps) xs → pairs xs = some kvs → ∃ ks : List (Key × V), ps = ks.map (fun kv => (kV kv.1, kv.2)) ∧ Denk g A ks kvs ∧ (ks.map (·.1)).Nodup
  | [], xs, kvs, d, e => by
    cases d
    cases e
    exact ⟨[], rfl, .nil, List.nodup_nil⟩
  | (x, y) :: ps, xs, kvs, d, e => by
    cases d with
    | cons d1 d =>
      cases d with
      | cons d2 d =>
        rename_i x' y' xs
        cases x' with
        | r k => simp [pairs] at e
        | d x' =>
          cases y' with
          | r k => simp [pairs] at e
          | d y' =>
            simp only [pairs] at e
            split at e
            · rename_i q kv2 eq1 eq2
              split at e
              · cases e
              · rename_i hn
                cases e
                obtain ⟨ks, e1, e2, e3⟩ := pairs_read d eq2
                obtain ⟨key, hk, ek⟩ := keyOf_den d1 eq1
                refine ⟨(key, y) :: ks, by rw [e1, ek]; rfl, .cons hk d2 e2, ?_⟩
                rw [List.map_cons, List.nodup_cons]
                refine ⟨fun hm => ?_, e3⟩
                have hn : kv2.lookup q = none := by
                  cases hh : kv2.lookup q with
                  | none => rfl
                  | some z => rw [hh] at hn; exact (hn rfl).elim
                rcases denk_get hk e2 with ⟨_, h5⟩ | ⟨_, _, h4, _, _⟩
                · obtain ⟨p, hp1, hp2⟩ := List.mem_map.mp hm
                  unfold valV at h5
                  have h6 : ks.find? (fun kv => decide (kv.1 = key)) = none := by simpa using h5
                  have h7 := List.find?_eq_none.mp h6 p hp1
                  rw [hp2] at h7
                  simp at h7
                · rw [hn] at h4
                  cases h4
            · cases e
theorem merge_nodup : ∀ {ks acc : List (Key × V)}, (ks.map (·.1)).Nodup → (∀ p ∈ ks, ∀ q ∈ acc, q.1 ≠ p.1) → mergeK acc ks = acc ++ ks
  | [], acc, _, _ => by simp [mergeK]
  | p :: ks, acc, hn, ha => by
    have hn' := List.nodup_cons.mp hn
    unfold mergeK
    rw [List.foldl_cons]
    have e1 : putK acc p.1 p.2 = acc ++ [p] := by
      unfold putK
      rw [if_neg]
      intro z
      obtain ⟨q, hq, e⟩ := List.any_eq_true.mp z
      exact ha p List.mem_cons_self q hq (of_decide_eq_true e)
    rw [e1]
    have := merge_nodup (ks := ks) (acc := acc ++ [p]) hn'.2 fun p' hp' q hq => by
      rcases List.mem_append.mp hq with hq | hq
      · exact ha p' (List.mem_cons_of_mem _ hp') q hq
      · rw [List.mem_singleton.mp hq]
        intro e
        exact hn'.1 (by show p.1 ∈ _; rw [e]; exact List.mem_map_of_mem hp')
    unfold mergeK at this
    rw [this, List.append_assoc]
    rfl
theorem flatP_len : ∀ ps : List (V × V), (flatP ps).length = 2 * ps.length
  | [] => rfl
  | (x, y) :: ps => by
    show (flatP ps).length + 1 + 1 = 2 * (ps.length + 1)
    rw [flatP_len ps]
    omega
/-! ### built-ins by name -/
theorem intsD_den {H : Hp} : ∀ {xs : List D} {ns : List Int} {vs : List V}, intsD xs = some ns → Dens g H vs xs → vs = ns.map V.int ∧ xs = ns.map D.int
  | [], ns, vs, e, h => by
    cases h
    cases e
    exact ⟨rfl, rfl⟩
  | x :: xs, ns, vs, e, h => by
    cases h with
    | cons h hs =>
    cases h with
    | int i =>
      unfold intsD at e
      cases q : intsD xs with
      | none => rw [q] at e; cases e
      | some ms =>
        rw [q] at e
        cases e
        obtain ⟨h1, h2⟩ := intsD_den q hs
        rw [h1, h2]
        exact ⟨rfl, rfl⟩
    | _ => cases e
theorem boolsD_den {H : Hp} : ∀ {xs : List D} {ns : List Bool} {vs : List V}, boolsD xs = some ns → Dens g H vs xs → vs = ns.map V.bl
  | [], ns, vs, e, h => by
    cases h
    cases e
    rfl
  | x :: xs, ns, vs, e, h => by
    cases h with
    | cons h hs =>
    cases h with
    | bl i =>
      unfold boolsD at e
      cases q : boolsD xs with
      | none => rw [q] at e; cases e
      | some ms =>
        rw [q] at e
        cases e
        rw [boolsD_den q hs]
        rfl
    | _ => cases e
theorem denInts (H : Hp) : ∀ ns : List Int, Dens g H (ns.map V.int) (ns.map D.int)
  | [] => .nil
  | n :: ns => .cons (.int n) (denInts H ns)
theorem sort_one {ns ns' : List Int} (p : ns'.Perm ns) (s : ns'.Pairwise (· ≤ ·)) : ns' = ns.mergeSort (fun a b => decide (a ≤ b)) := by
  have h1 : (ns.mergeSort (fun a b => decide (a ≤ b))).Perm ns := List.mergeSort_perm _ _
  have h2 : (ns.mergeSort (fun a b => decide (a ≤ b))).Pairwise (fun a b : Int => decide (a ≤ b) = true) := List.pairwise_mergeSort (le := fun (a b : Int) => decide (a ≤ b)) (fun a b c h1 h2 => by simp at *; omega) (fun a b => by simp; omega) ns
  refine List.Perm.eq_of_pairwise (le := fun a b : Int => a ≤ b) (fun a b _ _ h1 h2 => Int.le_antisymm h1 h2) s (h2.imp fun h => by simpa using h) (p.trans h1.symm)
def bltName : Blt → Str
  | .len => "len" | .abs => "abs" | .min2 => "min" | .max2 => "max" | .sum => "sum" | .all => "all" | .any => "any" | .int => "int" | .str => "str" | .bool => "bool" | .list => "list" | .tuple => "tuple" | .sorted => "sorted"
def rBlt (K : PySem.W.Frag) : Blt → List V → Hp → VK → Prop
  | .len => fun xs H Q => ∃ x n, xs = [x] ∧ LenV K x H n ∧ Q (.int n) H
  | .abs => fun xs H Q => ∃ i, xs = [.int i] ∧ Q (.int (if i < 0 then -i else i)) H
  | .min2 => fun xs H Q => ∃ i j, xs = [.int i, .int j] ∧ Q (.int (if j < i then j else i)) H
  | .max2 => fun xs H Q => ∃ i j, xs = [.int i, .int j] ∧ Q (.int (if j > i then j else i)) H
  | .sum => rSum K
  | .all => rAll K
  | .any => rAny K
  | .int => fun xs H Q => (∃ i, xs = [.int i] ∧ Q (.int i) H) ∨ ∃ k, xs = [.bl k] ∧ Q (.int (if k then 1 else 0)) H
  | .list => fun xs H Q => ∃ p ys, xs = [.ref p] ∧ (SqL K H p ys ∨ SqT K H p ys) ∧ ∀ l, H l = none → Q (.ref l) (upd H l (.lst ys))
  | .sorted => rSortedI K
  | .bool => fun xs H Q => (∃ i, xs = [.int i] ∧ Q (.bl (i != 0)) H) ∨ ∃ k, xs = [.bl k] ∧ Q (.bl k) H
  | .str => fun xs H Q => ∃ i, xs = [.int i] ∧ i.natAbs.log2 < 1920 ∧ Q (.str (toString i)) H
  | .tuple => fun xs H Q => ∃ p ys, xs = [.ref p] ∧ ((SqL K H p ys ∧ ∀ l, H l = none → Q (.ref l) (upd H l (.tup ys))) ∨ (SqT K H p ys ∧ Q (.ref p) H))
theorem blt_read {σ : L2.St} {ρ : Env} {H0 H : Hp} {ι : List Addr} {μ : Mu} {b : Blt} {cell : Bool} {vs : List V} {xs : List DL.X} {Q : VK} (r : Rel g H0 H σ ρ μ ι) (d : XDens g H0 ι vs xs) (h : Post g W σ ρ (rX g) H0 H ι (bltD μ cell b xs) Q) : rBlt g.K b vs H Q := by
  unfold bltD at h
  split at h
  · -- len
    rename_i x
    cases d with
    | cons d1 d2 =>
      cases d2
      split at h
      · rename_i xs e
        obtain ⟨p, vs, rfl, e2, e3⟩ := r.viewL d1 e
        exact ⟨_, _, rfl, .inl ⟨vs, e2, rfl⟩, by rw [e3.length]; exact h.now r (Den.int _)⟩
      · rename_i xs e
        obtain ⟨p, vs, rfl, e2, e3⟩ := r.viewT d1 e
        exact ⟨_, _, rfl, .inr ⟨vs, e2, rfl⟩, by rw [e3.length]; exact h.now r (Den.int _)⟩
      · rename_i z e
        split at h
        · rename_i hz
          have hd := viewS_den r d1 e (fun _ z => nomatch z)
          cases hd
          exact ⟨_, _, rfl, ⟨Nat.le_trans hz line6, rfl⟩, h.now r (Den.int _)⟩
        · exact h.elim
      · exact h.elim
  · -- abs
    cases d with
    | cons d1 d2 =>
      cases d2
      cases d1
      exact ⟨_, rfl, h.now r (Den.int _)⟩
  · cases d with
    | cons d1 d2 =>
      cases d2 with
      | cons d2 d3 =>
        cases d3
        cases d1
        cases d2
        exact ⟨_, _, rfl, h.now r (Den.int _)⟩
  · cases d with
    | cons d1 d2 =>
      cases d2 with
      | cons d2 d3 =>
        cases d3
        cases d1
        cases d2
        exact ⟨_, _, rfl, h.now r (Den.int _)⟩
  · -- sum
    cases d with
    | cons d1 d2 =>
      cases d2
      split at h
      · rename_i xs e
        obtain ⟨p, vs, rfl, e2, e3⟩ := r.viewL d1 e
        split at h
        · rename_i ns q
          obtain ⟨rfl, _⟩ := intsD_den q e3
          exact ⟨p, ns, rfl, e2, h.now r (Den.int _)⟩
        · exact h.elim
      · exact h.elim
  · -- all
    cases d with
    | cons d1 d2 =>
      cases d2
      split at h
      · rename_i xs e
        obtain ⟨p, vs, rfl, e2, e3⟩ := r.viewL d1 e
        split at h
        · rename_i ns q
          cases boolsD_den q e3
          exact ⟨p, ns, rfl, e2, h.now r (Den.bl _)⟩
        · exact h.elim
      · exact h.elim
  · cases d with
    | cons d1 d2 =>
      cases d2
      split at h
      · rename_i xs e
        obtain ⟨p, vs, rfl, e2, e3⟩ := r.viewL d1 e
        split at h
        · rename_i ns q
          cases boolsD_den q e3
          exact ⟨p, ns, rfl, e2, h.now r (Den.bl _)⟩
        · exact h.elim
      · exact h.elim
  · -- int
    cases d with
    | cons d1 d2 =>
      cases d2
      cases d1
      exact .inl ⟨_, rfl, h.now r (Den.int _)⟩
  · cases d with
    | cons d1 d2 =>
      cases d2
      cases d1
      exact .inr ⟨_, rfl, h.now r (Den.int _)⟩
  · -- list
    cases d with
    | cons d1 d2 =>
      cases d2
      split at h
      · rename_i xs e
        obtain ⟨p, vs, rfl, e3, e4⟩ := r.viewL d1 e
        exact ⟨p, vs, rfl, .inl e3, (alloc_lst r e4 h).2⟩
      · rename_i xs e
        obtain ⟨p, vs, rfl, e3, e4⟩ := r.viewT d1 e
        exact ⟨p, vs, rfl, .inr e3, (alloc_lst r e4 h).2⟩
      · exact h.elim
  · cases d with
    | cons d1 d2 =>
      cases d2
      cases d1
      exact .inl ⟨_, rfl, h.now r (Den.bl _)⟩
  · cases d with
    | cons d1 d2 =>
      cases d2
      cases d1
      exact .inr ⟨_, rfl, h.now r (Den.bl _)⟩
  · cases d with
    | cons d1 d2 =>
      cases d2
      cases d1
      split at h
      · rename_i k
        exact ⟨_, rfl, k, h.now r (Den.str _)⟩
      · exact h.elim
  · -- tuple
    rename_i x
    cases d with
    | cons d1 d2 =>
      cases d2
      split at h
      · rename_i xs e
        split at h
        · rename_i hz
          obtain ⟨p, vs, rfl, e2, e3⟩ := r.viewL d1 e
          refine ⟨p, vs, rfl, .inl ⟨e2, fun l hl => ?_⟩⟩
          obtain ⟨r2, s2⟩ := r.value (o := .tup vs) hl
          exact h (.ref l) _ _ _ s2 r2 (Den.tup (SqT.of upd_same) (e3.mono s2.e0))
        · exact h.elim
      · rename_i xs e
        obtain ⟨p, vs, rfl, e2, e3⟩ := r.viewT d1 e
        refine ⟨p, vs, rfl, .inr ⟨e2, ?_⟩⟩
        have e := viewS_t e
        cases x with
        | d y =>
          cases e
          exact h.now r d1
        | r k =>
          obtain ⟨nd, q, e⟩ := view_r e
          cases nd <;> cases e
      · exact h.elim
  · -- sorted
    cases d with
    | cons d1 d2 =>
      cases d2
      split at h
      · rename_i xs e
        obtain ⟨p, vs, rfl, e2, e3⟩ := r.viewL d1 e
        split at h
        · rename_i ns q
          obtain ⟨rfl, _⟩ := intsD_den q e3
          refine ⟨p, ns, rfl, e2, fun ns' l hp hs hl => ?_⟩
          rw [sort_one hp hs]
          exact (alloc_lst r (denInts _ _) h).2 l hl
        · exact h.elim
      · exact h.elim
  · exact h.elim
/-- .. or of an own instance -/
def rBltA (X : Cx) (b : Blt) : List V → Hp → VK → Prop := match b with
  | .abs => fun xs H Q => rBlt X.K .abs xs H Q ∨ ∃ x, xs = [x] ∧ rOne X "__abs__" x H Q
  | .bool => fun xs H Q => rBlt X.K .bool xs H Q ∨ ∃ x, xs = [x] ∧ rOne X "__bool__" x H (fun v H' => ∃ b, v = .bl b ∧ Q v H')
  | b => rBlt X.K b
theorem bltP_read {k : Nat} {σ : L2.St} {ρ : Env} {H0 H : Hp} {ι : List Addr} {μ : Mu} {b : Blt} {cell : Bool} {vs : List V} {xs : List DL.X} {Q : VK} (O : Own g X P k) (hK : X.K = g.K) (r : Rel g H0 H σ ρ μ ι) (d : XDens g H0 ι vs xs) (h : Post g W σ ρ (rX g) H0 H ι (bltP P μ cell b xs) Q) : rBltA X b vs H Q := by
  unfold bltP at h
  split at h
  · rename_i ro e
    unfold ownB at e
    split at e
    · split at e
      · cases e
        cases d with
        | cons d1 d2 =>
          cases d2
          exact .inr ⟨_, rfl, one_read O r d1 rfl h⟩
      · cases e
    · split at e
      · cases e
        cases d with
        | cons d1 d2 =>
          cases d2
          refine .inr ⟨_, rfl, ?_⟩
          unfold ownM at h
          have h := post_b h
          split at h
          · rename_i j ej
            obtain ⟨hc, a, dx', vf, ea, ha, _⟩ := insOf_read r d1 rfl
            obtain ⟨fd, ps, M, _, F, bd⟩ := O.meth _ _ j hc ej
            rw [← O.K] at M
            refine ⟨a, _, _, _, _, _, fd, ps, _, ea, ha, M, F, O.room, bd, sp_quiet (W := W) r (.cons d1 .nil) ?_⟩
            have h2 := boolR_some h
            cases q : quiet (P.C1 j [_] μ) with
            | ok z μ' =>
              rw [q] at h2
              intro v A B C s t d
              obtain ⟨b, rfl, h3⟩ := h2 v A B C s t d
              exact ⟨b, rfl, h3⟩
            | er z μ' => rw [q] at h2; exact h2
            | no => rw [q] at h2; exact h2
          · exact h.elim
      · cases e
    · cases e
  · have z : rBlt X.K b vs H Q := by
      rw [hK]
      exact blt_read r d h
    cases b <;> first | exact .inl z | exact z
section
variable {x : Str} {p : Pos} {e : Expr} {es : List Expr} {ies : Es}
theorem se_blt {b : Blt} {cell : Bool} {k : Nat} (O : Own g X P k) (hK : X.K = g.K) (hc : X.calm = true) (hg : Gl X (bltName b)) (hm : X.mg (bltName b) = none) (ha : SA g W X (e :: es) (evEs P ies)) (he : starEach (e :: es) X.env = (false, eval e X.env) :: starEach es X.env) (hpl : (backTo pos (starEach es X.env)).any (·.1) = false) :
    SE g W X (.Call (.Name (bltName b) p) (e :: es) [] pos) (evE P (.blt cell b ies)) := by
  have fin : ∀ σ H Q, tE g W (evE P (.blt cell b ies)) σ H Q → tCB (rBltA X b) (tA g W (evEs P ies)) σ H Q := fun σ H Q ⟨H0, ρ, μ, ι, r, h⟩ => by
    simp only [evE] at h
    exact run_bind r h fun vs xs μ1 A1 H1 ι1 s1 r1 d1 h => bltP_read O hK r1 d1 h
  cases b with
  | len => exact PE_imp (pe_callB call_len hg hm (by decide +kernel) ha (by decide) (by decide) he hpl) fin
  | abs => exact PE_imp (pe_callB (CallR.or call_abs call_absO) hg hm (by decide +kernel) ha (by decide) (by decide) he hpl) fin
  | min2 => exact PE_imp (pe_callB (call_min2 hc) hg hm (by decide +kernel) ha (by decide) (by decide) he hpl) fin
  | max2 => exact PE_imp (pe_callB (call_max2 hc) hg hm (by decide +kernel) ha (by decide) (by decide) he hpl) fin
  | sum => exact PE_imp (pe_callB (cr_sum hc) hg hm (by decide +kernel) ha (by decide) (by decide) he hpl) fin
  | all => exact PE_imp (pe_callB (cr_all hc) hg hm (by decide +kernel) ha (by decide) (by decide) he hpl) fin
  | any => exact PE_imp (pe_callB (cr_any hc) hg hm (by decide +kernel) ha (by decide) (by decide) he hpl) fin
  | int => exact PE_imp (pe_callTy call_int1 hg hm (by decide +kernel) ha (by decide) (by decide) he hpl) fin
  | list => exact PE_imp (pe_callTy call_list_of hg hm (by decide +kernel) ha (by decide) (by decide) he hpl) fin
  | sorted => exact PE_imp (pe_callB cr_sortedI hg hm (by decide +kernel) ha (by decide) (by decide) he hpl) fin
  | str => exact PE_imp (pe_callTy call_str_int hg hm (by decide +kernel) ha (by decide) (by decide) he hpl) fin
  | bool => exact PE_imp (pe_callTy (CallR.or call_bool1 call_boolO) hg hm (by decide +kernel) ha (by decide) (by decide) he hpl) fin
  | tuple => exact PE_imp (pe_callTy call_tuple_of hg hm (by decide +kernel) ha (by decide) (by decide) he hpl) fin
end
end
end DL


/-! DL6: walks, statements. -/
namespace DL
open PySem PySem.Spec PyProof.Rows L2
/-! ### what an iterator yields -/
def Yl (g : G) (H0 : Hp) (J : L2.It) (ds : List D) : Prop := ∀ H, Ex H0 H → ∀ i : Nat,
  (∀ d, ds[i]? = some d → J.go i H ∧ ∀ x H', J.yld i H x H' → (H' = H ∧ Den g H0 x d) ∨ (∃ p us es, H p = none ∧ x = .ref p ∧ H' = upd H p (.tup us) ∧ Dens g H0 us es ∧ d = .tup es)) ∧
  (ds.length ≤ i → J.stop i H)
def rI (g : G) : Hp → List Addr → L2.It → List D → Prop := fun H _ J ds => Yl g H J ds
abbrev SI (g : G) (W : WX) (X : Cx) (tg it : Expr) (ev : Env → Mu → R (List D)) : Prop := PI X tg it (run g W (rI g) ev)
theorem PI_imp {X : Cx} {tg e : Expr} {t t' : TI} (h : PI X tg e t) (i : ∀ σ H Q, t' σ H Q → t σ H Q) : PI X tg e t' := ⟨fun pins s σ H Q I q => h.run pins s σ H Q I (i _ _ _ q)⟩
section
variable {g : G} {X : Cx} {W : WX} {P : Par} {pos p : Pos} {tg : Expr}
/-- a list or a tuple -/
theorem pi_lt {l : Expr} {tl : TE} (hl : PE X l tl) : PI X tg l (fun σ H R => tl σ H fun x H1 => (∃ a xs, x = .ref a ∧ SqL X.K H1 a xs ∧ R (Itl X.K a) H1) ∨ ((∃ a xs, x = .ref a ∧ SqT X.K H1 a xs ∧ R (Itt X.K a) H1) ∨ ∃ z, x = .str z ∧ R (Its z) H1)) := by
  refine ⟨fun pins s σ H R I h => ?_⟩
  refine thn (hl.run pins s σ H _ I h) fun v s1 ⟨x, H1, I1, r1, q1⟩ => ?_
  rcases q1 with ⟨a, xs, e, hq, q⟩ | ⟨a, xs, e, hq, q⟩ | ⟨z, e, q⟩
  · subst e
    cases r1
    obtain ⟨its, rv, p, hz⟩ := I1.list hq
    refine wpAny_pyIter_list p.isList ?_
    refine ⟨s1.heap.objs.size, [s1.heap.objs.size], _, _, H1, rfl, I1.kept (t' := s1.toks) fun b o e => Heap.get?_push_of_some _ e, turn_list a _, ⟨_, Heap.get?_push_size _ rfl, rfl, rfl⟩, fun b hb => ?_, q⟩
    have e : b = s1.heap.objs.size := by simpa using hb
    subst e
    exact I1.fpOk (Nat.le_refl _) (I1.hok.fresh (Nat.le_refl _))
  · subst e
    cases r1
    obtain ⟨its, rv, p, hz⟩ := I1.tuple hq
    refine wpAny_pyIter_tuple (show s1.heap.IsTuple a its.toArray from p) ?_
    refine ⟨s1.heap.objs.size, [s1.heap.objs.size], _, _, H1, rfl, I1.kept (t' := s1.toks) fun b o e => Heap.get?_push_of_some _ e, turn_tuple a _, ⟨_, Heap.get?_push_size _ rfl, rfl, rfl⟩, fun b hb => ?_, q⟩
    have e : b = s1.heap.objs.size := by simpa using hb
    subst e
    exact I1.fpOk (Nat.le_refl _) (I1.hok.fresh (Nat.le_refl _))
  · subst e
    obtain ⟨t, rfl⟩ := r1
    cases ha : z.cps.all (· < 128)
    · exact wpAny_pyIter_wide ha (pi_one (tk := s1.toks) I1 _ (turn_str _ z t "str_iterator" (.inr rfl)) ⟨_, Heap.get?_push_size _ rfl, rfl, rfl⟩ q)
    · exact wpAny_pyIter_ascii ha (pi_one (tk := s1.toks) I1 _ (turn_str _ z t "str_ascii_iterator" (.inl rfl)) ⟨_, Heap.get?_push_size _ rfl, rfl, rfl⟩ q)
theorem yl_s {H0 : Hp} {z : Str} : Yl g H0 (Its z) (z.cps.toList.map fun c => .str (oneS c)) := fun H e i => by
  refine ⟨fun x hx => ?_, fun hi => by rw [List.length_map, Array.length_toList] at hi; exact hi⟩
  rw [List.getElem?_map] at hx
  obtain ⟨c, h1, rfl⟩ := Option.map_eq_some_iff.mp hx
  have h2 : z.cps[i]? = some c := by rw [← Array.getElem?_toList]; exact h1
  refine ⟨(Array.getElem?_eq_some_iff.mp h2).1, fun y H' hy => .inl ?_⟩
  obtain ⟨e1, c', h3, rfl⟩ := hy
  rw [h2] at h3
  cases h3
  exact ⟨e1, Den.str _⟩
theorem yl_l {H0 : Hp} {a : Addr} {vs : List V} {ds : List D} (h : SqL g.K H0 a vs) (d : Dens g H0 vs ds) : Yl g H0 (Itl g.K a) ds := fun H e i => by
  have hq := ex_l e h
  refine ⟨fun x hx => ?_, fun hi => ⟨vs, hq, by rw [d.length]; exact hi⟩⟩
  obtain ⟨v, h1, h2⟩ := d.get hx
  refine ⟨⟨vs, v, hq, h1⟩, fun y H' hy => .inl ?_⟩
  obtain ⟨e1, e2⟩ := hy
  have e3 := e2 vs hq
  rw [h1] at e3
  cases e3
  exact ⟨e1, h2⟩
theorem yl_t {H0 : Hp} {a : Addr} {vs : List V} {ds : List D} (h : SqT g.K H0 a vs) (d : Dens g H0 vs ds) : Yl g H0 (Itt g.K a) ds := fun H e i => by
  have hq := ex_t e h
  refine ⟨fun x hx => ?_, fun hi => ⟨vs, hq, by rw [d.length]; exact hi⟩⟩
  obtain ⟨v, h1, h2⟩ := d.get hx
  refine ⟨⟨vs, v, hq, h1⟩, fun y H' hy => .inl ?_⟩
  obtain ⟨e1, e2⟩ := hy
  have e3 := e2 vs hq
  rw [h1] at e3
  cases e3
  exact ⟨e1, h2⟩
theorem upTo_get {lo : Int} {n i : Nat} {d : D} (h : (upTo lo n)[i]? = some d) : i < n ∧ d = .int (lo + (i : Int)) := by
  unfold upTo at h
  rw [List.getElem?_map] at h
  by_cases hi : i < n
  · rw [List.getElem?_range hi] at h
    cases h
    exact ⟨hi, rfl⟩
  · rw [List.getElem?_eq_none (by simpa using hi)] at h
    cases h
theorem upTo_length (lo : Int) (n : Nat) : (upTo lo n).length = n := by unfold upTo; simp
theorem yl_r {H0 : Hp} {lo : Int} {n : Nat} : Yl g H0 (Itr lo n) (upTo lo n) := fun H e i => by
  refine ⟨fun x hx => ?_, fun hi => by rw [upTo_length] at hi; exact hi⟩
  obtain ⟨h1, rfl⟩ := upTo_get hx
  refine ⟨h1, fun y H' hy => .inl ?_⟩
  obtain ⟨e1, rfl⟩ := hy
  exact ⟨e1, Den.int _⟩
theorem enumD_get : ∀ {ds : List D} {n : Int} {i : Nat} {d : D}, (enumD n ds)[i]? = some d → ∃ x, ds[i]? = some x ∧ d = .tup [.int (n + (i : Int)), x]
  | [], n, i, d, h => by simp [enumD] at h
  | a :: as, n, 0, d, h => by
    simp [enumD] at h
    exact ⟨a, rfl, by rw [← h]; simp⟩
  | a :: as, n, i + 1, d, h => by
    have h' : (enumD (n + 1) as)[i]? = some d := by simpa [enumD] using h
    obtain ⟨x, h1, h2⟩ := enumD_get h'
    exact ⟨x, by simpa using h1, by rw [h2, show n + 1 + (i : Int) = n + ((i + 1 : Nat) : Int) by omega]⟩
theorem enumD_length : ∀ {ds : List D} {n : Int}, (enumD n ds).length = ds.length
  | [], n => rfl
  | a :: as, n => by simp [enumD, enumD_length]
theorem yl_e {H0 : Hp} {a : Addr} {vs : List V} {ds : List D} (h : SqL g.K H0 a vs) (d : Dens g H0 vs ds) : Yl g H0 (Ite g.K a) (enumD 0 ds) := fun H e i => by
  have hq := ex_l e h
  refine ⟨fun x hx => ?_, fun hi => ⟨vs, hq, by rw [d.length]; rw [enumD_length] at hi; exact hi⟩⟩
  obtain ⟨z, h0, rfl⟩ := enumD_get hx
  obtain ⟨v, h1, h2⟩ := d.get h0
  refine ⟨⟨vs, v, hq, h1⟩, fun y H' hy => .inr ?_⟩
  obtain ⟨T, u, rfl, e1, rfl, e2⟩ := hy
  have e3 := e2 vs hq
  rw [h1] at e3
  cases e3
  exact ⟨T, _, _, e1, rfl, rfl, .cons (Den.int _) (.cons h2 .nil), by rw [Int.zero_add]⟩
theorem zipD_get : ∀ {as bs : List D} {i : Nat} {d : D}, (zipD as bs)[i]? = some d → ∃ x y, as[i]? = some x ∧ bs[i]? = some y ∧ d = .tup [x, y]
  | [], bs, i, d, h => by simp [zipD] at h
  | a :: as, [], i, d, h => by simp [zipD] at h
  | a :: as, b :: bs, 0, d, h => by
    simp [zipD] at h
    exact ⟨a, b, rfl, rfl, h.symm⟩
  | a :: as, b :: bs, i + 1, d, h => by
    have h' : (zipD as bs)[i]? = some d := by simpa [zipD] using h
    obtain ⟨x, y, h1, h2, h3⟩ := zipD_get h'
    exact ⟨x, y, by simpa using h1, by simpa using h2, h3⟩
theorem zipD_length : ∀ {as bs : List D}, (zipD as bs).length = min as.length bs.length
  | [], bs => by simp [zipD]
  | a :: as, [] => by simp [zipD]
  | a :: as, b :: bs => by simp [zipD, zipD_length]
theorem yl_z {H0 : Hp} {a b : Addr} {vs us : List V} {ds es : List D} (h : SqL g.K H0 a vs) (h' : SqL g.K H0 b us) (d : Dens g H0 vs ds) (d' : Dens g H0 us es) : Yl g H0 (Itz g.K a b) (zipD ds es) := fun H e i => by
  have hq := ex_l e h
  have hq' := ex_l e h'
  refine ⟨fun x hx => ?_, fun hi => ⟨vs, us, hq, hq', by rw [d.length, d'.length]; rw [zipD_length] at hi; omega⟩⟩
  obtain ⟨z, z', h0, h0', rfl⟩ := zipD_get hx
  obtain ⟨v, h1, h2⟩ := d.get h0
  obtain ⟨v', h1', h2'⟩ := d'.get h0'
  refine ⟨⟨vs, us, v, v', hq, hq', h1, h1'⟩, fun y H' hy => .inr ?_⟩
  obtain ⟨T, u, u', rfl, e1, rfl, e2, e2'⟩ := hy
  have e3 := e2 vs hq
  rw [h1] at e3
  cases e3
  have e3 := e2' us hq'
  rw [h1'] at e3
  cases e3
  exact ⟨T, _, _, e1, rfl, rfl, .cons h2 (.cons h2' .nil), rfl⟩
section
variable {a b : Expr} {ia ib : E}
theorem si_seq (hK : X.K = g.K) (ha : SE g W X a (evE P ia)) : SI g W X tg a (evIt P (.seq ia)) := PI_imp (pi_lt ha) fun σ H Q ⟨H0, ρ, μ, ι, r, h⟩ => by
  simp only [evIt] at h
  refine run_bind r h fun v x μ1 A1 H1 ι1 s1 r1 d1 h => ?_
  cases x with
  | r k => exact h.elim
  | d x =>
    have d1 : Den g A1 v x := d1
    rw [hK]
    cases d1 with
    | lst hs hd => exact .inl ⟨_, _, rfl, SqL.of (r1.ex _ _ hs), h.now r1 (yl_l (SqL.of hs) hd)⟩
    | kls hs hd => exact .inl ⟨_, _, rfl, ex_l r1.ex hs, h.now r1 (yl_l hs hd)⟩
    | tup hs hd => exact .inr (.inl ⟨_, _, rfl, ex_t r1.ex hs, h.now r1 (yl_t hs hd)⟩)
    | str z => exact .inr (.inr ⟨z, rfl, h.now r1 yl_s⟩)
    | _ => exact h.elim
theorem small_ok {i : Int} (h : small i = true) : -(2 ^ 62) ≤ i ∧ i < 2 ^ 62 := by
  have h2 := Bool.and_eq_true_iff.mp h
  exact ⟨of_decide_eq_true h2.1, of_decide_eq_true h2.2⟩
theorem si_rng1 (hg : Gl X "range") (hm : X.mg "range" = none) (ha : SE g W X a (evE P ia)) (hs : starEach [a] X.env = [(false, eval a X.env)]) : SI g W X tg (.Call (.Name "range" p) [a] [] pos) (evIt P (.rng1 ia)) :=
  PI_imp (pi_range1 hg hm (pa_cons ha pa_nil hs) hs) fun σ H Q ⟨H0, ρ, μ, ι, r, h⟩ => by
    simp only [evIt] at h
    refine run_bind r h fun v x μ1 A1 H1 ι1 s1 r1 d1 h => ?_
    split at h
    · rename_i j e
      cases intX_eq e
      cases d1
      split at h
      · rename_i k
        exact ⟨j, rfl, (small_ok k).1, (small_ok k).2, h.now r1 yl_r⟩
      · exact h.elim
    · exact h.elim
theorem si_rng2 (hg : Gl X "range") (hm : X.mg "range" = none) (ha : SE g W X a (evE P ia)) (hb : SE g W X b (evE P ib)) (hs : starEach [a, b] X.env = [(false, eval a X.env), (false, eval b X.env)]) (hs2 : starEach [b] X.env = [(false, eval b X.env)]) : SI g W X tg (.Call (.Name "range" p) [a, b] [] pos) (evIt P (.rng2 ia ib)) :=
  PI_imp (pi_range2 hg hm (pa_cons ha (pa_cons hb pa_nil hs2) (by rw [hs, hs2])) hs hs2) fun σ H Q ⟨H0, ρ, μ, ι, r, h⟩ => by
    simp only [evIt] at h
    refine run_bind r h fun v x μ1 A1 H1 ι1 s1 r1 d1 h0 => ?_
    clear h
    refine run_bind r1 h0 fun v2 y μ2 A2 H2 ι2 s2 r2 d2 h => ?_
    clear h0
    split at h
    · rename_i i j e e2
      cases intX_eq e
      cases intX_eq e2
      cases d1
      cases d2
      split at h
      · rename_i k
        obtain ⟨k1, k2⟩ := Bool.and_eq_true_iff.mp k
        exact ⟨i, j, rfl, ⟨(small_ok k1).1, (small_ok k1).2, (small_ok k2).1, (small_ok k2).2⟩, h.now r2 yl_r⟩
      · exact h.elim
    · exact h.elim
theorem si_enum {elts : List Expr} {kk : Nat} {tpos : Pos} (hK : X.K = g.K) (hg : Gl X "enumerate") (hm : X.mg "enumerate" = none) (ha : SE g W X a (evE P ia)) (hs : starEach [a] X.env = [(false, eval a X.env)]) :
    SI g W X (.Tuple elts kk tpos) (.Call (.Name "enumerate" p) [a] [] pos) (evIt P (.enum ia)) :=
  PI_imp (pi_enum hg hm (pa_cons ha pa_nil hs) hs) fun σ H Q ⟨H0, ρ, μ, ι, r, h⟩ => by
    simp only [evIt] at h
    refine run_bind r h fun v x μ1 A1 H1 ι1 s1 r1 d1 h => ?_
    split at h
    · rename_i xs
      have d1 : Den g A1 v (.lst xs) := d1
      rw [hK]
      cases d1 with
      | lst hs hd => exact ⟨_, _, rfl, SqL.of (r1.ex _ _ hs), h.now r1 (yl_e (SqL.of hs) hd)⟩
    · exact h.elim
theorem si_zip {elts : List Expr} {kk : Nat} {tpos : Pos} (hK : X.K = g.K) (hg : Gl X "zip") (hm : X.mg "zip" = none) (ha : SE g W X a (evE P ia)) (hb : SE g W X b (evE P ib)) (hs : starEach [a, b] X.env = (false, eval a X.env) :: starEach [b] X.env) (hs2 : starEach [b] X.env = [(false, eval b X.env)]) :
    SI g W X (.Tuple elts kk tpos) (.Call (.Name "zip" p) [a, b] [] pos) (evIt P (.zip ia ib)) :=
  PI_imp (pi_zip hg hm (pa_cons ha (pa_cons hb pa_nil hs2) hs) hs (by rw [hs2]; rfl)) fun σ H Q ⟨H0, ρ, μ, ι, r, h⟩ => by
    simp only [evIt] at h
    refine run_bind r h fun v x μ1 A1 H1 ι1 s1 r1 d1 h0 => ?_
    clear h
    refine run_bind r1 h0 fun v2 y μ2 A2 H2 ι2 s2 r2 d2 h => ?_
    clear h0
    split at h
    · rename_i xs ys
      have d1 : Den g A2 v (.lst xs) := XDen.stp (x := .d (.lst xs)) s2 d1
      have d2 : Den g A2 v2 (.lst ys) := d2
      rw [hK]
      cases d1 with
      | lst hs hd =>
        cases d2 with
        | lst hs' hd' => exact ⟨_, _, _, _, rfl, SqL.of (r2.ex _ _ hs), SqL.of (r2.ex _ _ hs'), h.now r2 (yl_z (SqL.of hs) (SqL.of hs') hd hd')⟩
    · exact h.elim
end
/-! ### statements -/
def PostS (g : G) (W : WX) (H0 H : Hp) (ι : List Addr) (r : R Fl) (D : Ends) : Prop := match r with
  | .ok (.nx ρ') μ' => ∀ σ' H0' H' ι', Stp H0 H ι H0' H' ι' → Rel g H0' H' σ' ρ' μ' ι' → D.nx σ' H'
  | .ok (.bk ρ') μ' => ∀ σ' H0' H' ι', Stp H0 H ι H0' H' ι' → Rel g H0' H' σ' ρ' μ' ι' → D.bk σ' H'
  | .ok (.ct ρ') μ' => ∀ σ' H0' H' ι', Stp H0 H ι H0' H' ι' → Rel g H0' H' σ' ρ' μ' ι' → D.ct σ' H'
  | .ok (.rt x) μ' => ∀ v σ' H0' H' ι', Stp H0 H ι H0' H' ι' → Rel g H0' H' σ' [] μ' ι' → XDen g H0' ι' v x → D.rt v H'
  | .ok (.ex e ρ') μ' => ∀ cls d σ' H0' H' ι', Stp H0 H ι H0' H' ι' → Rel g H0' H' σ' ρ' μ' ι' → EDen g H0' H' cls d e → W cls d σ' H'
  | .er _ _ => False
  | .no => False
def tS (g : G) (W : WX) (ev : Env → Mu → R Fl) : TS := fun D σ H => ∃ H0 ρ μ ι, Rel g H0 H σ ρ μ ι ∧ PostS g W H0 H ι (ev ρ μ) D
theorem PS_imp {e : Stmt} {t t' : TS} (h : PS X e t) (i : ∀ D σ H, t' D σ H → t D σ H) : PS X e t' := ⟨fun pins s σ H D I q => h.run pins s σ H D I (i _ _ _ q)⟩
theorem PSs_imp {e : List Stmt} {t t' : TS} (h : PSs X e t) (i : ∀ D σ H, t' D σ H → t D σ H) : PSs X e t' := ⟨fun pins s σ H D I q => h.run pins s σ H D I (i _ _ _ q)⟩
abbrev SS (g : G) (W : WX) (X : Cx) (s : Stmt) (ev : Env → Mu → R Fl) : Prop := PS X s (tS g W ev)
abbrev SSs (g : G) (W : WX) (X : Cx) (s : List Stmt) (ev : Env → Mu → R Fl) : Prop := PSs X s (tS g W ev)
theorem PostS.step {H0 H H0' H' : Hp} {ι ι' : List Addr} (s : Stp H0 H ι H0' H' ι') {r : R Fl} {D : Ends} (h : PostS g W H0 H ι r D) : PostS g W H0' H' ι' r D := by
  cases r with
  | ok f μ' =>
    cases f with
    | nx ρ' => exact fun a A B C t => h a A B C (s.trans t)
    | bk ρ' => exact fun a A B C t => h a A B C (s.trans t)
    | ct ρ' => exact fun a A B C t => h a A B C (s.trans t)
    | rt x => exact fun v a A B C t => h v a A B C (s.trans t)
    | ex e ρ' => exact fun c d a A B C t => h c d a A B C (s.trans t)
  | er e μ' => exact h
  | no => exact h
theorem run_st {α β : Type} {rel : Hp → List Addr → β → α → Prop} {σ : L2.St} {ρ : Env} {H0 H : Hp} {ι : List Addr} {μ : Mu} {ev : Env → Mu → R α} {k : α → Mu → R Fl} {D : Ends} {S : β → Hp → Prop} (r : Rel g H0 H σ ρ μ ι) (h : PostS g W H0 H ι ((ev ρ μ).st ρ k) D)
    (hk : ∀ v x μ' H0' H' ι', Stp H0 H ι H0' H' ι' → Rel g H0' H' σ ρ μ' ι' → rel H0' ι' v x → PostS g W H0' H' ι' (k x μ') D → S v H') : run g W rel ev σ H S := by
  refine ⟨H0, ρ, μ, ι, r, ?_⟩
  cases e : ev ρ μ with
  | ok x μ' =>
    rw [e] at h
    exact fun v A B C s t d => hk v x μ' A B C s t d (PostS.step s h)
  | er x μ' =>
    rw [e] at h
    exact fun c d A B C s t q => h c d σ A B C s t q
  | no =>
    rw [e] at h
    exact h
section
variable {σ : L2.St} {ρ : Env} {H0 H : Hp} {ι : List Addr} {μ : Mu} {D : Ends}
theorem PostS.nx {ρ' : Env} (h : PostS g W H0 H ι (.ok (.nx ρ') μ) D) (r : Rel g H0 H σ ρ' μ ι) : D.nx σ H := h σ H0 H ι Stp.refl r
theorem ss_nil : SSs g W X [] (evSs P .nil) := PSs_imp pss_nil fun D σ H ⟨H0, ρ, μ, ι, r, h⟩ => by
  simp only [evSs] at h
  exact h.nx r
theorem ss_cons {s : Stmt} {rest : List Stmt} {is : S} {ir : Ss} (h1 : SS g W X s (evS P is)) (h2 : SSs g W X rest (evSs P ir)) : SSs g W X (s :: rest) (evSs P (.cons is ir)) := PSs_imp (pss_cons h1 h2) fun D σ H ⟨H0, ρ, μ, ι, r, h⟩ => by
  simp only [evSs] at h
  refine ⟨H0, ρ, μ, ι, r, ?_⟩
  cases e : evS P is ρ μ with
  | ok f μ' =>
    rw [e] at h
    cases f with
    | nx ρ' => exact fun a A B C t q => ⟨A, ρ', μ', C, q, PostS.step t h⟩
    | bk ρ' => exact h
    | ct ρ' => exact h
    | rt x => exact h
    | ex e ρ' => exact h
  | er e μ' =>
    rw [e] at h
    exact h
  | no =>
    rw [e] at h
    exact h
/-- a ghost step -/
theorem ss_frz {rest : List Stmt} {i : Nat} {ir : Ss} (h2 : SSs g W X rest (evSs P ir)) : SSs g W X rest (evSs P (.cons (.frz i) ir)) := PSs_imp h2 fun D σ H ⟨H0, ρ, μ, ι, r, h⟩ => by
  simp only [evSs, evS] at h
  cases q : ρ[i]? with
  | none => simp only [q] at h; exact h.elim
  | some o =>
    cases o with
    | none => simp only [q] at h; exact h.elim
    | some x =>
      simp only [q] at h
      obtain ⟨v, h1, h2⟩ := r.slot i x q
      have hl : i < σ.length := (List.getElem?_eq_some_iff.mp h1).1
      have same : σ.set i (some v) = σ := by
        apply List.ext_getElem?
        intro j
        by_cases hj : j = i
        · subst hj
          rw [List.getElem?_set_self hl, h1]
        · rw [List.getElem?_set_ne (Ne.symm hj)]
      cases x with
      | d x =>
        simp only [frzX] at h
        have r2 := r.setSlot (i := i) h2
        rw [same] at r2
        exact ⟨H0, _, _, ι, r2, h⟩
      | r k =>
        simp only [frzX] at h
        obtain ⟨p, h3, rfl⟩ := h2
        cases q2 : μ[k]? with
        | none => simp only [q2] at h; exact h.elim
        | some o =>
          cases o with
          | none => simp only [q2] at h; exact h.elim
          | some n =>
            simp only [q2] at h
            cases q3 : n.fast with
            | none => simp only [q3] at h; exact h.elim
            | some x =>
              simp only [q3] at h
              obtain ⟨H0', r2, s2, d2⟩ := frz_read r q2 h3 q3
              have r3 := r2.setSlot (i := i) (v := .ref p) (x := .d x) d2
              rw [same] at r3
              exact ⟨_, _, _, ι, r3, PostS.step s2 h⟩
theorem ss_never {s : Stmt} : SS g W X s (evS P .never) := ⟨fun pins s σ H D I ⟨H0, ρ, μ, ι, r, h⟩ => by
  simp only [evS] at h
  exact h.elim⟩
end
end
end DL
/-! DL7: statements. -/
namespace DL
open PySem PySem.Spec PyProof.Rows L2
section
variable {g : G} {X : Cx} {W : WX} {P : Par} {pos : Pos}
section
variable {σ : L2.St} {ρ : Env} {H0 H : Hp} {ι : List Addr} {μ : Mu} {D : Ends}
theorem PostS.rt {v : V} {x : DL.X} (h : PostS g W H0 H ι (.ok (.rt x) μ) D) (r : Rel g H0 H σ ρ μ ι) (d : XDen g H0 ι v x) : D.rt v H := h v σ H0 H ι Stp.refl r.noSlots d
end
section
variable {e c : Expr} {ie : E} {it : T} {a b : List Stmt} {ia ib : Ss}
theorem ss_set {i : Nat} {t : TS} {x : Str} {p : Pos} (h : ∀ te, PE X e te → PS X (.Assign [.Name x p] e pos) (tAsg te (gName i))) (he : SE g W X e (evE P ie)) : SS g W X (.Assign [.Name x p] e pos) (evS P (.set i ie)) := PS_imp (h _ he) fun D σ H ⟨H0, ρ, μ, ι, r, h⟩ => by
  simp only [evS] at h
  refine run_st r h fun v x μ1 A1 H1 ι1 s1 r1 d1 h => ?_
  exact h.nx (r1.setSlot d1)
theorem ss_pass : SS g W X (.Pass pos) (evS P .pass) := PS_imp ps_pass fun D σ H ⟨H0, ρ, μ, ι, r, h⟩ => by
  simp only [evS] at h
  exact h.nx r
theorem ss_doc {x : Str} {j : Nat} {p2 : Pos} : SS g W X (.Expr (.Constant (.str x) j pos) p2) (evS P .pass) := PS_imp ps_doc fun D σ H ⟨H0, ρ, μ, ι, r, h⟩ => by
  simp only [evS] at h
  exact h.nx r
theorem ss_brk : SS g W X (.Break pos) (evS P .brk) := PS_imp ps_break fun D σ H ⟨H0, ρ, μ, ι, r, h⟩ => by
  simp only [evS] at h
  exact h σ H0 H ι Stp.refl r
theorem ss_cnt : SS g W X (.Continue pos) (evS P .cnt) := PS_imp ps_continue fun D σ H ⟨H0, ρ, μ, ι, r, h⟩ => by
  simp only [evS] at h
  exact h σ H0 H ι Stp.refl r
theorem ss_retN : SS g W X (.Return none pos) (evS P .retN) := PS_imp ps_retN fun D σ H ⟨H0, ρ, μ, ι, r, h⟩ => by
  simp only [evS] at h
  exact h.rt r (Den.non)
theorem ss_ret (he : SE g W X e (evE P ie)) : SS g W X (.Return (some e) pos) (evS P (.ret ie)) := PS_imp (ps_ret he) fun D σ H ⟨H0, ρ, μ, ι, r, h⟩ => by
  simp only [evS] at h
  exact run_st r h fun v x μ1 A1 H1 ι1 s1 r1 d1 h => h.rt r1 d1
theorem ss_ex (he : SE g W X e (evE P ie)) (hs : swapsWith e none pos.line X.env = pure false) : SS g W X (.Expr e pos) (evS P (.ex ie)) := PS_imp (ps_expr he hs) fun D σ H ⟨H0, ρ, μ, ι, r, h⟩ => by
  simp only [evS] at h
  exact run_st r h fun v x μ1 A1 H1 ι1 s1 r1 d1 h => h.nx r1
theorem ss_ite (hc : ST g W X c (evT P it)) (ha : SSs g W X a (evSs P ia)) (hb : SSs g W X b (evSs P ib)) : SS g W X (.If c a b pos) (evS P (.ite it ia ib)) := PS_imp (ps_if hc ha hb) fun D σ H ⟨H0, ρ, μ, ι, r, h⟩ => by
  simp only [evS] at h
  refine run_st r h fun k k' μ1 A1 H1 ι1 s1 r1 d1 h => ?_
  have d1 : k = k' := d1
  subst d1
  cases k with
  | true => exact iteT ⟨A1, ρ, μ1, ι1, r1, h⟩
  | false => exact iteF ⟨A1, ρ, μ1, ι1, r1, h⟩
/-! ### targets -/
def gsNames : List Nat → TGs
  | [] => gNil
  | i :: is => gCons (gName i) (gsNames is)
theorem gs_names {H : Hp} {Q : L2.St → Hp → Prop} : ∀ {is : List Nat} {vs : List V} {σ : L2.St}, is.length = vs.length → Q ((is.zip vs).foldl (fun σ p => σ.set p.1 (some p.2)) σ) H → gsNames is vs σ H Q
  | [], [], σ, _, q => ⟨rfl, q⟩
  | [], _ :: _, σ, h, _ => by cases h
  | _ :: _, [], σ, h, _ => by cases h
  | i :: is, v :: vs, σ, h, q => ⟨v, vs, rfl, gs_names (is := is) (vs := vs) (by simpa using h) q⟩
theorem Rel.setAll {H0 H : Hp} {ι : List Addr} {μ : Mu} : ∀ {is : List Nat} {vs : List V} {ds : List D} {σ : L2.St} {ρ : Env}, is.length = ds.length → Dens g H0 vs ds → Rel g H0 H σ ρ μ ι →
    Rel g H0 H ((is.zip vs).foldl (fun σ p => σ.set p.1 (some p.2)) σ) ((is.zip ds).foldl (fun ρ p => ρ.set p.1 (some (.d p.2))) ρ) μ ι
  | [], _, _, σ, ρ, _, _, r => by simpa using r
  | i :: is, _, _, σ, ρ, h, .nil, r => by cases h
  | i :: is, _, _, σ, ρ, h, .cons d ds, r => Rel.setAll (is := is) (by simpa using h) ds (r.setSlot (i := i) (x := .d _) d)
theorem swap_no {e : Expr} {t : Option Expr} {l : Nat} {env : PySem.Env} (h : (match e with | .ListComp .. => false | .SetComp .. => false | .DictComp .. => false | _ => true) = true) : swapsWith e t l env = pure false := by
  cases e <;> first | rfl | cases h
/-- names' targets -/
def gTg (K : PySem.W.Frag) : Tg → TG
  | .nm i => gName i
  | .tp is => gTup K is.length (gsNames is)
theorem tg_read {tg : Tg} {x : D} {v : V} {σ : L2.St} {ρ ρ' : Env} {H0 H : Hp} {ι : List Addr} {μ : Mu} {Q : L2.St → Hp → Prop} (r : Rel g H0 H σ ρ μ ι) (d : Den g H0 v x) (e : bindTg tg x ρ = some ρ') (q : ∀ σ', Rel g H0 H σ' ρ' μ ι → Q σ' H) : gTg g.K tg v σ H Q := by
  cases tg with
  | nm i =>
    unfold bindTg at e
    cases e
    exact q _ (r.setSlot (x := .d x) d)
  | tp is =>
    cases d with
    | tup hs hd =>
      unfold bindTg at e
      dsimp only at e
      split at e
      · rename_i hl
        cases e
        exact ⟨_, _, rfl, ex_t r.ex hs, by rw [hd.length, hl], gs_names (H := H) (by rw [hd.length, hl]) (q _ (Rel.setAll hl hd r))⟩
      · cases e
    | _ => cases e
theorem ss_unp {is : List Nat} {es : List Expr} {k : Nat} {tp : Pos} (hK : X.K = g.K) (he : SE g W X e (evE P ie)) (hg : PG X (.Tuple es k tp) (gTg X.K (.tp is))) (hs : swapsWithSole [.Tuple es k tp] e pos.line X.env = pure false) (hw : swappedStores [.Tuple es k tp] e X.env = pure none) :
    SS g W X (.Assign [.Tuple es k tp] e pos) (evS P (.unp is ie)) := PS_imp (ps_asg he hg hs hw) fun D σ H ⟨H0, ρ, μ, ι, r, h⟩ => by
  simp only [evS] at h
  refine run_st r h fun v x μ1 A1 H1 ι1 s1 r1 d1 h => ?_
  cases x with
  | r k => exact h.elim
  | d x =>
    dsimp only at h
    split at h
    · rename_i ρ' q
      rw [hK]
      exact tg_read r1 d1 q fun σ' r' => h.nx r'
    · exact h.elim
theorem ss_par {i j : Nat} {x y : Str} {e2 : Expr} {ie2 : E} {px py pt : Pos} {kt k2 pt2} (hp : ∀ ta, PA X [e, e2] ta → PS X (.Assign [.Tuple [.Name x px, .Name y py] kt pt] (.Tuple [e, e2] k2 pt2) pos) (tPar i j ta))
    (ha : SA g W X [e, e2] (evEs P (.cons ie (.cons ie2 .nil)))) : SS g W X (.Assign [.Tuple [.Name x px, .Name y py] kt pt] (.Tuple [e, e2] k2 pt2) pos) (evS P (.par i j ie ie2)) := PS_imp (hp _ ha) fun D σ H ⟨H0, ρ, μ, ι, r, h⟩ => by
  simp only [evS] at h
  refine ⟨H0, ρ, μ, ι, r, ?_⟩
  simp only [evEs]
  cases q1 : evE P ie ρ μ with
  | no => rw [q1] at h; exact h
  | er x μ' =>
    rw [q1] at h
    exact fun c d A B C s t z => h c d σ A B C s t z
  | ok x1 μ1 =>
    rw [q1] at h
    simp only [R.st] at h
    simp only [R.bind]
    cases q2 : evE P ie2 ρ μ1 with
    | no => rw [q2] at h; exact h
    | er x μ' =>
      rw [q2] at h
      exact fun c d A B C s t z => h c d σ A B C s t z
    | ok x2 μ2 =>
      rw [q2] at h
      simp only [R.st] at h
      intro vs A B C s t d
      cases d with
      | cons d1 d2 =>
        cases d2 with
        | cons d2 d3 =>
          cases d3
          exact ⟨_, _, rfl, h _ A B C s ((t.setSlot d1).setSlot d2)⟩
theorem ss_aug {i : Nat} {sub : Bool} {x : Str} {p : Pos} (h : ∀ te, PE X e te → PS X (.AugAssign (.Name x p) (if sub then .Sub else .Add) e pos) (tAug i te (ipI fun a b => if sub then a - b else a + b))) (he : SE g W X e (evE P ie)) :
    SS g W X (.AugAssign (.Name x p) (if sub then .Sub else .Add) e pos) (evS P (.augN i sub ie)) := PS_imp (h _ he) fun D σ H ⟨H0, ρ, μ, ι, r, h⟩ => by
  simp only [evS] at h
  split at h
  · rename_i a e1
    obtain ⟨v, h1, h2⟩ := r.slot i _ e1
    cases h2
    refine ⟨_, h1, run_st r h fun v x μ1 A1 H1 ι1 s1 r1 d1 h => ?_⟩
    split at h
    · cases d1
      exact ⟨_, _, rfl, rfl, h.nx (r1.setSlot (Den.int _))⟩
    · exact h.elim
  · exact h.elim
theorem ix_den {xs : List D} {vs : List V} {H : Hp} (d : Dens g H vs xs) {j : Int} {n : Nat} (h : ixN xs.length j = some n) : ixN vs.length j = some n := by rw [d.length]; exact h
end
end
end DL
/-! DL8: loops, stores, list methods, isinstance, comprehensions. -/
namespace DL
open PySem PySem.Spec PyProof.Rows L2
section
variable {g : G} {X : Cx} {W : WX} {P : Par} {pos : Pos}
section
variable {e c : Expr} {ie : E} {it : T} {a b : List Stmt} {ia ib : Ss}
/-! ### o[i] = e -/
theorem ss_setI {o i : Expr} {io ii : E} {sp : Pos} (he : SE g W X e (evE P ie)) (ho : SE g W X o (evE P io)) (hi : SE g W X i (evE P ii))
    (ha : ∀ v, assign (.Subscript o i sp) X.env v = (do
      let ov ← holding [v] (eval o X.env)
      let iv ← holding [v, ov] (eval i X.env)
      standAt sp
      holding [v, ov, iv] (setItem ov iv v)
      release [v, ov, iv] []))
    (hs : swapsWithSole [.Subscript o i sp] e pos.line X.env = pure false) (hw : swappedStores [.Subscript o i sp] e X.env = pure none) :
    SS g W X (.Assign [.Subscript o i sp] e pos) (evS P (.setI io ii ie)) := PS_imp (ps_asg he (pg_sub ho hi set_list ha) hs hw) fun D σ H ⟨H0, ρ, μ, ι, r, h⟩ => by
  simp only [evS] at h
  refine run_st r h fun v z μ1 A1 H1 ι1 s1 r1 d1 h1 => ?_
  refine run_st r1 h1 fun v2 x μ2 A2 H2 ι2 s2 r2 d2 h2 => ?_
  refine run_st r2 h2 fun v3 y μ3 A3 H3 ι3 s3 r3 d3 h3 => ?_
  clear h h1 h2
  have d1 := (d1.stp s2).stp s3
  have d2 := d2.stp s3
  unfold setIX at h3
  split at h3
  · obtain ⟨p, e1, rfl⟩ := d2
    rename_i k i v _
    split at h3
    · rename_i xs e2
      obtain ⟨h0, c⟩ := r3.cell k _ p e2 e1
      obtain ⟨vs, c1, c2⟩ := c
      split at h3
      · rename_i j
        split at h3
        · rename_i n e3
          have e4 : ixN vs.length j = some n := by rw [c2.length]; exact e3
          cases d3
          refine ⟨p, vs, j, n, rfl, rfl, c1, e4, ?_⟩
          have d1 : Den g A3 _ v := d1
          obtain ⟨r4, s4⟩ := r3.put (o := .lst (vs.set n _)) (nd' := .lst (xs.set n v)) e2 e1 ⟨_, upd_same, c2.set d1 n⟩
          exact h3 _ _ _ _ s4 r4
        · exact h3.elim
      · exact h3.elim
    · exact h3.elim
  · exact h3.elim
/-! ### o.f = e -/
theorem denf_put {H0 : Hp} {ι : List Addr} {f : Str} {u : V} {y : DL.X} (d : XDen g H0 ι u y) : ∀ {vf : List (Str × V)} {fs : List (Str × DL.X)}, XDenf g H0 ι vf fs → XDenf g H0 ι (putF f u vf) (putX f y fs)
  | _, _, .nil => .cons d .nil
  | _, _, .cons (f := f') h hs => by
    unfold putF putX
    by_cases e : f' = f
    · rw [if_pos e]
      simp only [e, if_true]
      exact .cons d hs
    · simp only [e, if_false]
      exact .cons h (denf_put d hs)
theorem XDenf.len {H0 : Hp} {ι : List Addr} : ∀ {vf : List (Str × V)} {fs : List (Str × DL.X)}, XDenf g H0 ι vf fs → vf.length = fs.length
  | _, _, .nil => rfl
  | _, _, .cons _ hs => congrArg (· + 1) hs.len
theorem ss_setF {o : Expr} {io : E} {f : Str} {p' : Pos} {k : Nat} (O : Own g X P k) (he : SE g W X e (evE P ie)) (ho : SE g W X o (evE P io)) (hs : swapsWith e (some (.Attribute o f p')) pos.line X.env = pure false) : SS g W X (.Assign [.Attribute o f p'] e pos) (evS P (.setF io f ie)) := PS_imp (ps_fld ho he hs) fun D σ H ⟨H0, ρ, μ, ι, r, h⟩ => by
  simp only [evS] at h
  refine run_st r h fun v z μ1 A1 H1 ι1 s1 r1 d1 h1 => ?_
  refine run_st r1 h1 fun v2 x μ2 A2 H2 ι2 s2 r2 d2 h2 => ?_
  clear h h1
  have d1 := d1.stp s2
  split at h2
  · rename_i c ec
    split at h2
    · rename_i ok
      obtain ⟨hc, b, dx, vf, rfl, hb, _⟩ := insOf_read r2 d2 ec
      have cl := (O.cls c hc).cl
      have nf := O.fld c f hc ok
      rw [← O.K] at cl nf
      cases x with
      | d y => exact h2.elim
      | r n =>
        obtain ⟨b', e1, e2⟩ := d2
        cases e2
        unfold insOf at ec
        dsimp only at ec
        split at ec
        · rename_i c' fs q
          cases ec
          obtain ⟨_, _, dx', vf', c1, c2⟩ := r2.cell n _ b q e1
          rw [hb] at c1
          cases c1
          unfold setFX at h2
          simp only [q] at h2
          split at h2
          · rename_i hz
            refine ⟨b, _, _, _, rfl, hb, cl, nf, by rw [c2.len]; omega, ?_⟩
            have := c2.len
            obtain ⟨r3, s3⟩ := r2.put (o := .ins (g.cA c) dx (putF f v vf)) (nd' := .ins c (putX f z fs)) q e1 ⟨hc, dx, _, upd_same, denf_put d1 c2⟩
            exact h2 _ _ _ _ s3 r3
          · exact h2.elim
        · cases ec
    · exact h2.elim
  · exact h2.elim
/-! ### while -/
theorem run_st0 {α β : Type} {rel : Hp → List Addr → β → α → Prop} {σ : L2.St} {ρ : Env} {H0 H : Hp} {ι : List Addr} {μ : Mu} {ev : Env → Mu → R α} {k : α → Mu → R Fl} {D : Ends} {S : β → Hp → Prop} (r : Rel g H0 H σ ρ μ ι) (h : PostS g W H0 H ι ((ev ρ μ).st ρ k) D)
    (hk : ∀ v x μ' H0' H' ι', Stp H0 H ι H0' H' ι' → Rel g H0' H' σ ρ μ' ι' → rel H0' ι' v x → PostS g W H0 H ι (k x μ') D → S v H') : run g W rel ev σ H S := by
  refine ⟨H0, ρ, μ, ι, r, ?_⟩
  cases e : ev ρ μ with
  | ok x μ' =>
    rw [e] at h
    exact fun v A B C s t d => hk v x μ' A B C s t d h
  | er x μ' =>
    rw [e] at h
    exact fun c d A B C s t q => h c d σ A B C s t q
  | no =>
    rw [e] at h
    exact h
theorem ss_whl (hp : PassesOwn (model X.prog X.w) X.A X.env X.xe) (hc : ST g W X c (evT P it)) (hb : SSs g W X a (evSs P ia)) : SS g W X (.While c a [] pos) (evS P (.whl it ia)) := PS_imp (ps_while hp hc hb) fun D σ H ⟨H0, ρ, μ, ι, r, h⟩ => by
  simp only [evS] at h
  refine ⟨fun m σ H => ∃ A ρ μ ι, Rel g A H σ ρ μ ι ∧ PostS g W A H ι (whileD (evT P it) (evSs P ia) m ρ μ) D, ⟨P.W, H0, ρ, μ, ι, r, h⟩, ?_⟩
  clear h r
  rintro m σ1 H1 ⟨A, ρ, μ, ι, r, h⟩
  cases m with
  | zero => exact h.elim
  | succ m =>
    simp only [whileD] at h
    refine run_st0 r h fun k k' μ1 A1 H1' ι1 s1 r1 d1 h1 => ?_
    have d1 : k = k' := d1
    subst d1
    cases k with
    | false =>
      refine iteF ?_
      rw [if_neg (by decide)] at h1
      exact (PostS.step s1 h1).nx r1
    | true =>
      refine iteT ⟨fun σ H => ∃ A ρ μ ι, Rel g A H σ ρ μ ι ∧ PostS g W A H ι (whileD (evT P it) (evSs P ia) m ρ μ) D, fun σ' H' q => ⟨m, Nat.lt_succ_self _, q⟩, A1, ρ, μ1, ι1, r1, ?_⟩
      rw [if_pos rfl] at h1
      have back : ∀ ρ' μ2, PostS g W A H1 ι (whileD (evT P it) (evSs P ia) m (tidy μ.length ρ' μ2).1 (tidy μ.length ρ' μ2).2) D → ∀ σ' A2 H2 ι2, Stp A1 H1' ι1 A2 H2 ι2 → Rel g A2 H2 σ' ρ' μ2 ι2 → ∃ A ρ μ ι, Rel g A H2 σ' ρ μ ι ∧ PostS g W A H2 ι (whileD (evT P it) (evSs P ia) m ρ μ) D := fun ρ' μ2 h2 σ' A2 H2 ι2 s2 r2 => by
        obtain ⟨ι3, r3, s3, _⟩ := r2.tidy (s1.trans s2) (n := μ.length) r.len
        exact ⟨A2, _, _, ι3, r3, PostS.step s3 h2⟩
      cases q : evSs P ia ρ μ1 with
      | ok f μ2 =>
        rw [q] at h1
        cases f with
        | nx ρ' => exact back ρ' μ2 h1
        | ct ρ' => exact back ρ' μ2 h1
        | bk ρ' => exact PostS.step (r := .ok (.nx ρ') μ2) s1 h1
        | rt x => exact PostS.step s1 h1
        | ex e ρ' => exact PostS.step s1 h1
      | er e μ2 => rw [q] at h1; exact h1
      | no => rw [q] at h1; exact h1
/-! ### for -/
/-- where a loop stands -/
def LoopAt (g : G) (W : WX) (D : Ends) (A1 : Hp) (bind : DL.D → Env → Option Env) (b : Env → Mu → R Fl) (ds : List DL.D) (i : Nat) (σ : L2.St) (H : Hp) : Prop :=
  ∃ A ρ μ ι, Ex A1 A ∧ Rel g A H σ ρ μ ι ∧ PostS g W A H ι (forD bind b (ds.drop i) ρ μ) D
theorem ss_for {tg : Tg} {it : It} {te ie : Expr} (hK : X.K = g.K) (hp : PassesOwn (model X.prog X.w) X.A X.env X.xe) (hcl : X.calm = true) (hi : SI g W X te ie (evIt P it)) (hg : PG X te (gTg X.K tg)) (hb : SSs g W X a (evSs P ia))
    (hs : ∀ x, foldedSetIterable ie X.env x = pure x) : SS g W X (.For te ie a [] pos) (evS P (.for_ tg it ia)) := PS_imp (ps_for hp hcl hi hg hb hs) fun D σ H ⟨H0, ρ, μ, ι, r, h⟩ => by
  simp only [evS] at h
  refine run_st r h fun J ds μ1 A1 H1 ι1 s1 r1 d1 h1 => ?_
  clear h r s1
  have d1 : Yl g A1 J ds := d1
  refine ⟨fun i m σ H => m = ds.length - i ∧ i ≤ ds.length ∧ LoopAt g W D A1 (bindTg tg) (evSs P ia) ds i σ H, ⟨_, rfl, Nat.zero_le _, A1, ρ, μ1, ι1, Ex.refl _, r1, h1⟩, ?_⟩
  clear h1 r1
  rintro i m σ1 H1 ⟨rfl, hi, A, ρ, μ, ι, e, r, h⟩
  obtain ⟨y1, y2⟩ := d1 H1 (e.trans r.ex) i
  by_cases hl : i < ds.length
  · have hd : ds.drop i = ds[i] :: ds.drop (i + 1) := List.drop_eq_getElem_cons hl
    have hx : ds[i]? = some ds[i] := List.getElem?_eq_getElem hl
    obtain ⟨go, yl⟩ := y1 _ hx
    refine .inr ⟨go, fun σ H => LoopAt g W D A1 (bindTg tg) (evSs P ia) ds (i + 1) σ H, fun σ' H' q => ⟨_, by omega, rfl, hl, q⟩, fun v H' hy => ?_⟩
    rw [hd] at h
    simp only [forD] at h
    cases qb : bindTg tg ds[i] ρ with
    | none => rw [qb] at h; exact h.elim
    | some ρ1 =>
      rw [qb] at h
      dsimp only at h
      have main : ∀ A' H' ι', Stp A H1 ι A' H' ι' → Rel g A' H' σ1 ρ μ ι' → Den g A' v ds[i] → gTg X.K tg v σ1 H' fun σ2 H2 => tS g W (evSs P ia) { D with nx := fun σ H => LoopAt g W D A1 (bindTg tg) (evSs P ia) ds (i + 1) σ H, ct := fun σ H => LoopAt g W D A1 (bindTg tg) (evSs P ia) ds (i + 1) σ H, bk := D.nx } σ2 H2 := fun A' H' ι' s' r' d' => by
        rw [hK]
        refine tg_read r' d' qb fun σ2 r2 => ⟨A', ρ1, μ, ι', r2, ?_⟩
        have back : ∀ ρ' μ2, PostS g W A H1 ι (forD (bindTg tg) (evSs P ia) (ds.drop (i + 1)) (tidy μ.length ρ' μ2).1 (tidy μ.length ρ' μ2).2) D → ∀ σ' A2 H2 ι2, Stp A' H' ι' A2 H2 ι2 → Rel g A2 H2 σ' ρ' μ2 ι2 → LoopAt g W D A1 (bindTg tg) (evSs P ia) ds (i + 1) σ' H2 := fun ρ' μ2 h2 σ' A2 H2 ι2 s2 r2 => by
          obtain ⟨ι3, r3, s3, _⟩ := r2.tidy (s'.trans s2) (n := μ.length) r.len
          exact ⟨A2, _, _, ι3, e.trans (s'.trans s2).e0, r3, PostS.step s3 h2⟩
        cases q : evSs P ia ρ1 μ with
        | ok f μ2 =>
          rw [q] at h
          cases f with
          | nx ρ' => exact back ρ' μ2 h
          | ct ρ' => exact back ρ' μ2 h
          | bk ρ' => exact PostS.step (r := .ok (.nx ρ') μ2) s' h
          | rt x => exact PostS.step s' h
          | ex e ρ' => exact PostS.step s' h
        | er e μ2 => rw [q] at h; exact h
        | no => rw [q] at h; exact h
      rcases yl v H' hy with ⟨rfl, d⟩ | ⟨p, us, es, hp, rfl, rfl, hd2, e2⟩
      · exact main A _ ι Stp.refl r (d.mono e)
      · obtain ⟨r', s'⟩ := r.value (o := .tup us) hp
        refine main _ _ ι s' r' ?_
        rw [e2]
        exact Den.tup (SqT.of upd_same) (hd2.mono (e.trans s'.e0))
  · have hn : ds.length ≤ i := Nat.le_of_not_lt hl
    rw [List.drop_eq_nil_of_le hn] at h
    exact .inl ⟨y2 hn, h.nx r⟩
end
/-! ### list methods -/
section
variable {o e : Expr} {es : List Expr} {io : E} {ies : Es} {apos : Pos}
theorem se_append (hK : X.K = g.K) (ho : SE g W X o (evE P io)) (ha : SA g W X (e :: es) (evEs P ies)) (hbase : attributeBase o "append" X.env (eval o X.env) = eval o X.env)
    (hfew : ((backTo pos (starEach (e :: es) X.env)).all (fun x => !x.1) && (backToKw pos (keywordEach [] X.env)).all (fun x => x.1.isSome)
      && decide ((e :: es).length + ([] : List Keyword).length + (if ([] : List Keyword).isEmpty then 0 else 1) < 30)) = true)
    (hline : (apos.endLine == pos.line) = true) (hs : starEach (e :: es) X.env = (false, eval e X.env) :: starEach es X.env) (hplain : (backTo pos (starEach es X.env)).any (·.1) = false) :
    SE g W X (.Call (.Attribute o "append" apos) (e :: es) [] pos) (evE P (.lm .append io ies)) :=
  PE_imp (pe_bm PySem.F.plainAttrs_list PySem.F.slot_list_append PySem.F.type_list_append mt_append ho ha hbase hfew hline hs hplain) fun σ H Q ⟨H0, ρ, μ, ι, r, h⟩ => by
    simp only [evE] at h
    refine run_bind r h fun v x μ1 A1 H1 ι1 s1 r1 d1 h1 => ?_
    clear h
    split at h1
    · rename_i k1
      refine ⟨?_, run_bind r1 h1 fun vs xs μ2 A2 H2 ι2 s2 r2 d2 h2 => ?_⟩
      · unfold isLst at k1
        split at k1
        · rename_i xs e
          obtain ⟨p, vs, rfl, e2, _⟩ := r1.viewL d1 e
          exact .inl ⟨rfl, vs, by rw [hK]; exact e2⟩
        · cases k1
      · have d1 := d1.stp s2
        unfold lmD at h2
        split at h2
        · obtain ⟨p, e1, rfl⟩ := d1
          split at h2
          · rename_i ys e2
            obtain ⟨h0, c⟩ := r2.cell _ _ p e2 e1
            obtain ⟨us, c1, c2⟩ := c
            split at h2
            · rename_i k2
              have k2 := of_decide_eq_true k2
              cases d2 with
              | cons d2 d3 =>
                cases d3
                refine ⟨p, us, _, rfl, rfl, c1, by rw [c2.length, sizeLine_eq]; omega, ?_⟩
                obtain ⟨r4, s4⟩ := r2.put (o := .lst (us ++ [_])) (nd' := .lst (ys ++ [_])) e2 e1 ⟨_, upd_same, c2.append (.cons d2 .nil)⟩
                exact h2 _ _ _ _ s4 r4 Den.non
            · exact h2.elim
          · exact h2.elim
        · exact h2.elim
    · exact h1.elim
/-! ### list(range(..)) -/
theorem dens_rg {H : Hp} (i : Int) (n : Nat) : Dens g H ((List.range n).map fun k => V.int (i + (k : Nat))) (upTo i n) := by
  unfold upTo
  generalize List.range n = l
  induction l with
  | nil => exact .nil
  | cons k l ih => exact .cons (Den.int _) ih
theorem alloc_size {μ : Mu} {cell : Bool} {xs : List DL.D} {σ : L2.St} {ρ : Env} {H0 H : Hp} {ι : List Addr} {Q : VK} (h : Post g W σ ρ (rX g) H0 H ι (alloc cell (.lst xs) μ) Q) : xs.length ≤ 1000000 := by
  unfold alloc at h
  split at h
  · rename_i hz
    exact hz
  · exact h.elim
theorem se_lrng1 {p p2 pos2 : Pos} {cell : Bool} {a : Expr} {ia : E} (hc : X.calm = true) (hg : Gl X "list") (hm : X.mg "list" = none) (hg2 : Gl X "range") (hm2 : X.mg "range" = none) (ha : SE g W X a (evE P ia))
    (na : starEach [a] X.env = (false, eval a X.env) :: starEach [] X.env) (na2 : starEach [.Call (.Name "range" p2) [a] [] pos2] X.env = (false, eval (.Call (.Name "range" p2) [a] [] pos2) X.env) :: starEach [] X.env) :
    SE g W X (.Call (.Name "list" p) [.Call (.Name "range" p2) [a] [] pos2] [] pos) (evE P (.lrng cell ia .none)) := PE_imp (pe_listRg hc hg hm (prg_1 hg2 hm2 ha na) na2) fun σ H Q ⟨H0, ρ, μ, ι, r, h⟩ => by
  simp only [evE] at h
  refine run_bind r h fun v x μ1 A1 H1 ι1 s1 r1 d1 h1 => ?_
  clear h
  split at h1
  · rename_i j e
    cases intX_eq e
    cases d1
    split at h1
    · rename_i k
      have k := small_ok k
      have hz := alloc_size h1
      rw [upTo_length] at hz
      refine ⟨j, rfl, ⟨by omega, by omega, k.1, k.2, by omega⟩, (alloc_lst r1 ?_ h1).2⟩
      have := dens_rg (g := g) (H := A1) 0 j.toNat
      unfold rgV
      rw [Int.sub_zero]
      exact this
    · exact h1.elim
  · exact h1.elim
theorem se_lrng2 {p p2 pos2 : Pos} {cell : Bool} {a b : Expr} {ia ib : E} (hc : X.calm = true) (hg : Gl X "list") (hm : X.mg "list" = none) (hg2 : Gl X "range") (hm2 : X.mg "range" = none) (ha : SE g W X a (evE P ia)) (hb : SE g W X b (evE P ib))
    (na : starEach [a, b] X.env = (false, eval a X.env) :: starEach [b] X.env) (nb : starEach [b] X.env = (false, eval b X.env) :: starEach [] X.env) (hp : (backTo pos2 (starEach [b] X.env)).any (·.1) = false)
    (na2 : starEach [.Call (.Name "range" p2) [a, b] [] pos2] X.env = (false, eval (.Call (.Name "range" p2) [a, b] [] pos2) X.env) :: starEach [] X.env) :
    SE g W X (.Call (.Name "list" p) [.Call (.Name "range" p2) [a, b] [] pos2] [] pos) (evE P (.lrng cell ia (.some ib))) := PE_imp (pe_listRg hc hg hm (prg_2 hg2 hm2 ha hb na nb hp) na2) fun σ H Q ⟨H0, ρ, μ, ι, r, h⟩ => by
  simp only [evE] at h
  refine run_bind r h fun v x μ1 A1 H1 ι1 s1 r1 d1 h1 => ?_
  refine run_bind r1 h1 fun v2 y μ2 A2 H2 ι2 s2 r2 d2 h2 => ?_
  clear h h1
  split at h2
  · rename_i i j e e2
    cases intX_eq e
    cases intX_eq e2
    cases d1
    cases d2
    split at h2
    · rename_i k
      obtain ⟨k1, k2⟩ := Bool.and_eq_true_iff.mp k
      have k1 := small_ok k1
      have k2 := small_ok k2
      have hz := alloc_size h2
      rw [upTo_length] at hz
      refine ⟨i, j, rfl, rfl, ⟨k1.1, k1.2, k2.1, k2.2, by omega⟩, (alloc_lst r2 ?_ h2).2⟩
      exact dens_rg i (j - i).toNat
    · exact h2.elim
  · exact h2.elim
end
/-! ### isinstance -/
theorem rd_tyK {K : PySem.W.Frag} {H : Hp} {a : Addr} {ks : List (Key × V)} (h : Rd H a (.dK ks)) : TyX K H (.ref a) (.type "dict") := by
  rcases h with h | ⟨o, h⟩
  · exact .base (.dK h)
  · exact .fDict h
theorem kit_plain {K : PySem.W.Frag} {s : String} {b : Bool} {ty : Ty} (h : kitB s (tyName ty) = some b) (p : ty.plain = true) : PySem.W.kitOne K (.type s) (tyV g ty) = some b := by
  cases ty <;> first | exact kit_ty h | cases p
/-- a value of a built-in type -/
theorem ty_plain {k : Nat} (O : Own g X P k) {μ : Mu} {x : DL.X} {s : String} (hs : s ∈ kinds) (h : ∀ ty : Ty, ty.plain = true → kitB s (tyName ty) = some (isTy μ x ty)) (hn : insOf μ x = none) : ∀ ty : Ty, tyIn g ty → PySem.W.kitOne g.K (.type s) (tyV g ty) = some (isTy μ x ty) := fun ty hin => by
  cases ty with
  | cls c =>
    have e : isTy μ x (.cls c) = false := by simp only [isTy, hn]
    rw [e]
    exact (O.cls c hin).bt s hs
  | int => exact kit_plain (h _ rfl) rfl
  | bool => exact kit_plain (h _ rfl) rfl
  | str => exact kit_plain (h _ rfl) rfl
  | lst => exact kit_plain (h _ rfl) rfl
  | tup => exact kit_plain (h _ rfl) rfl
  | dic => exact kit_plain (h _ rfl) rfl
theorem ty_read {k : Nat} (O : Own g X P k) {σ : L2.St} {ρ : Env} {H0 H : Hp} {ι : List Addr} {μ : Mu} {v : V} {x : DL.X} (r : Rel g H0 H σ ρ μ ι) (d : XDen g H0 ι v x) (kn : tyKnown μ x = true) : ∃ t, TyX g.K H v t ∧ ∀ ty : Ty, tyIn g ty → PySem.W.kitOne g.K t (tyV g ty) = some (isTy μ x ty) := by
  cases q : insOf μ x with
  | some c =>
    obtain ⟨hc, a, dx, vf, rfl, ha, _⟩ := insOf_read r d q
    have C := O.cls c hc
    refine ⟨.ref (g.cA c), .base (.ins ha C.cl C.ha C.hn C.htk C.hm), fun ty hin => ?_⟩
    rw [C.own ty hin]
    cases ty with
    | cls c' => simp only [isTy, q]
    | _ =>
      cases x with
      | d y => cases y <;> first | rfl | cases q
      | r n =>
        first
          | rfl
          | (unfold insOf at q
             dsimp only at q
             split at q
             · rename_i e
               simp only [isTy, viewS, view, e, Node.toD, Option.map_none]
             · cases q)
  | none =>
    cases x with
    | d y =>
      have d : Den g H0 v y := d
      cases d with
      | non => exact ⟨_, .base .non, ty_plain O (by simp [kinds]) (fun ty p => by cases ty <;> first | exact absurd p Bool.false_ne_true | exact Eq.trans (b := some true) (by decide +kernel) rfl | exact Eq.trans (b := some false) (by decide +kernel) rfl) q⟩
      | bl b => exact ⟨_, .base (.bl b), ty_plain O (by simp [kinds]) (fun ty p => by cases ty <;> first | exact absurd p Bool.false_ne_true | exact Eq.trans (b := some true) (by decide +kernel) rfl | exact Eq.trans (b := some false) (by decide +kernel) rfl) q⟩
      | int b => exact ⟨_, .base (.int b), ty_plain O (by simp [kinds]) (fun ty p => by cases ty <;> first | exact absurd p Bool.false_ne_true | exact Eq.trans (b := some true) (by decide +kernel) rfl | exact Eq.trans (b := some false) (by decide +kernel) rfl) q⟩
      | str b => exact ⟨_, .base (.str b), ty_plain O (by simp [kinds]) (fun ty p => by cases ty <;> first | exact absurd p Bool.false_ne_true | exact Eq.trans (b := some true) (by decide +kernel) rfl | exact Eq.trans (b := some false) (by decide +kernel) rfl) q⟩
      | lst h hs => exact ⟨_, rd_tyL (SqL.of (r.ex _ _ h)), ty_plain O (by simp [kinds]) (fun ty p => by cases ty <;> first | exact absurd p Bool.false_ne_true | exact Eq.trans (b := some true) (by decide +kernel) rfl | exact Eq.trans (b := some false) (by decide +kernel) rfl) q⟩
      | kls h hs => exact ⟨_, rd_tyL (ex_l r.ex h), ty_plain O (by simp [kinds]) (fun ty p => by cases ty <;> first | exact absurd p Bool.false_ne_true | exact Eq.trans (b := some true) (by decide +kernel) rfl | exact Eq.trans (b := some false) (by decide +kernel) rfl) q⟩
      | tup h hs => exact ⟨_, rd_tyT (ex_t r.ex h), ty_plain O (by simp [kinds]) (fun ty p => by cases ty <;> first | exact absurd p Bool.false_ne_true | exact Eq.trans (b := some true) (by decide +kernel) rfl | exact Eq.trans (b := some false) (by decide +kernel) rfl) q⟩
      | dic h hs => exact ⟨_, rd_tyK (ex_rd r.ex h), ty_plain O (by simp [kinds]) (fun ty p => by cases ty <;> first | exact absurd p Bool.false_ne_true | exact Eq.trans (b := some true) (by decide +kernel) rfl | exact Eq.trans (b := some false) (by decide +kernel) rfl) q⟩
      | kdic h =>
        obtain ⟨es, n, D, _⟩ := h
        exact ⟨_, .kDict D.at_ rfl, ty_plain O (by simp [kinds]) (fun ty p => by cases ty <;> first | exact absurd p Bool.false_ne_true | exact Eq.trans (b := some true) (by decide +kernel) rfl | exact Eq.trans (b := some false) (by decide +kernel) rfl) q⟩
      | ins hc h hs => cases q
      | fn j => cases kn
      | cls j => cases kn
    | r n =>
      obtain ⟨a, h1, rfl⟩ := d
      unfold tyKnown at kn
      dsimp only at kn
      split at kn
      · rename_i nd e
        cases nd with
        | lst xs =>
          obtain ⟨_, vs, c1, c2⟩ := r.cell n _ a e h1
          exact ⟨_, rd_tyL (SqL.of c1), ty_plain O (by simp [kinds]) (fun ty p => by cases ty <;> first | exact absurd p Bool.false_ne_true | (simp only [isTy, viewS, unk, Option.map_some, view, e, Node.toD]; first | exact Eq.trans (b := some true) (by decide +kernel) rfl | exact Eq.trans (b := some false) (by decide +kernel) rfl)) q⟩
        | dic xs =>
          obtain ⟨_, vs, c1, c2⟩ := r.cell n _ a e h1
          exact ⟨_, rd_tyK (.inl c1), ty_plain O (by simp [kinds]) (fun ty p => by cases ty <;> first | exact absurd p Bool.false_ne_true | (simp only [isTy, viewS, unk, Option.map_some, view, e, Node.toD]; first | exact Eq.trans (b := some true) (by decide +kernel) rfl | exact Eq.trans (b := some false) (by decide +kernel) rfl)) q⟩
        | ins c fs =>
          simp only [insOf, e] at q
          cases q
      · cases kn
theorem kit_all {K : PySem.W.Frag} {μ : Mu} {x : DL.X} {t : Value} (h : ∀ ty : Ty, tyIn g ty → PySem.W.kitOne K t (tyV g ty) = some (isTy μ x ty)) : ∀ {ts : List Ty}, (∀ t ∈ ts, tyIn g t) → PySem.W.kitAny K t (ts.map (tyV g)) = some (ts.any (isTy μ x))
  | [], _ => rfl
  | t :: ts, p => by
    refine kitAny_cons (h t (p t List.mem_cons_self)) (fun e => ?_) fun e => ?_
    · rw [List.any_cons, e, Bool.false_or]
      exact kit_all h fun t ht => p t (List.mem_cons_of_mem _ ht)
    · rw [List.any_cons, e, Bool.true_or]
theorem clsV_of (ty : Ty) : ClsV (tyW g ty) (tyV g ty) := by
  cases ty <;> first | exact .ty _ | exact .own _
end
end DL

/-! DL9: isinstance, comprehensions. -/
namespace DL
open PySem PySem.Spec PyProof.Rows L2
section
variable {g : G} {X : Cx} {W : WX} {P : Par} {pos : Pos}
section
variable {a c : Expr} {ia : E} {ts : List Ty}
theorem paired_ty : ∀ ts : List Ty, Paired ClsV (ts.map (tyW g)) (ts.map (tyV g))
  | [] => .nil
  | t :: ts => .cons (clsV_of t) (paired_ty ts)
theorem call_isi2 : CallR X (.builtin "isinstance") (fun xs H Q => rIsi X.K xs H Q ∨ rIsiT X.K xs H Q) := CallR.or call_isi call_isiT
/-- isinstance(a, c) -/
theorem pe_isi {p : Pos} {ta tc : TE} (hg : Gl X "isinstance") (hm : X.mg "isinstance" = none) (ha : PE X a ta) (hc : PE X c tc) (h1 : starEach (a :: [c]) X.env = (false, eval a X.env) :: starEach [c] X.env) (h2 : starEach (c :: []) X.env = (false, eval c X.env) :: starEach [] X.env)
    (hpl : (backTo pos (starEach [c] X.env)).any (·.1) = false) :
    PE X (.Call (.Name "isinstance" p) [a, c] [] pos) (tCB (fun xs H Q => rIsi X.K xs H Q ∨ rIsiT X.K xs H Q) (tCons ta (tCons tc tNil))) :=
  pe_callB call_isi2 hg hm (by decide +kernel) (pa_cons ha (pa_cons hc pa_nil h2) h1) (by decide) (by decide) h1 hpl
theorem isi_read1 {t : Ty} {p : Pos} {k : Nat} (O : Own g X P k) (hg : Gl X "isinstance") (hm : X.mg "isinstance" = none) (ha : SE g W X a (evE P ia)) (hc : PE X c (tC (tyW g t))) (h1 : starEach (a :: [c]) X.env = (false, eval a X.env) :: starEach [c] X.env) (h2 : starEach (c :: []) X.env = (false, eval c X.env) :: starEach [] X.env)
    (hpl : (backTo pos (starEach [c] X.env)).any (·.1) = false) (hp : tyIn g t) : SE g W X (.Call (.Name "isinstance" p) [a, c] [] pos) (evE P (.isi ia [t])) := PE_imp (pe_isi hg hm ha hc h1 h2 hpl) fun σ H Q ⟨H0, ρ, μ, ι, r, h⟩ => by
  simp only [evE] at h
  refine run_bind r h fun v x μ1 A1 H1 ι1 s1 r1 d1 h1 => ?_
  clear h
  split at h1
  · rename_i kk
    obtain ⟨s, t1, t2⟩ := ty_read O r1 d1 kk
    refine .inl ?_
    rw [O.K]
    refine ⟨v, _, _, _, _, rfl, clsV_of t, t1, t2 t hp, ?_⟩
    have e : [t].any (isTy μ1 x) = isTy μ1 x t := by simp
    rw [← e]
    exact h1.now r1 (Den.bl _)
  · exact h1.elim
theorem isi_readT {ct : TA} {p pc : Pos} {cs : List Expr} {n : Nat} {k : Nat} (O : Own g X P k) (hg : Gl X "isinstance") (hm : X.mg "isinstance" = none) (ha : SE g W X a (evE P ia)) (hc : PA X cs ct) (hct : ∀ σ H Q, Q (ts.map (tyW g)) H → ct σ H Q) (h1 : starEach (a :: [.Tuple cs n pc]) X.env = (false, eval a X.env) :: starEach [.Tuple cs n pc] X.env)
    (h2 : starEach (.Tuple cs n pc :: []) X.env = (false, eval (.Tuple cs n pc) X.env) :: starEach [] X.env)
    (hpl : (backTo pos (starEach [.Tuple cs n pc] X.env)).any (·.1) = false) (hp : ∀ t ∈ ts, tyIn g t) (hz : ts.length ≤ 1000) : SE g W X (.Call (.Name "isinstance" p) [a, .Tuple cs n pc] [] pos) (evE P (.isi ia ts)) := PE_imp (pe_isi hg hm ha (pe_tup hc) h1 h2 hpl) fun σ H Q ⟨H0, ρ, μ, ι, r, h⟩ => by
  simp only [evE] at h
  refine run_bind r h fun v x μ1 A1 H1 ι1 s1 r1 d1 h1 => ?_
  clear h
  split at h1
  · rename_i kk
    refine hct _ _ _ ⟨by rw [List.length_map, sizeLine_eq]; omega, fun q hq => .inr ?_⟩
    obtain ⟨r2, s2⟩ := r1.value (o := .tup (ts.map (tyW g))) hq
    obtain ⟨s, t1, t2⟩ := ty_read O r2 (d1.stp s2) kk
    rw [O.K]
    exact ⟨v, q, _, _, _, _, rfl, upd_same, paired_ty ts, t1, kit_all t2 hp, h1 _ _ _ _ s2 r2 (Den.bl _)⟩
  · exact h1.elim
end
/-! ### a test that is a value -/
section
variable {a : Expr} {ia : E} {ts : List Ty}
theorem st_isi (hK : X.K = g.K) (ha : SE g W X a (evE P (.isi ia ts))) (he : ∀ whole, isTrue a X.env whole = (do let v ← whole; standAt a.pos; holding [v] (truthy v))) : ST g W X a (evT P (.isi ia ts)) := PT_imp (pt_truth ha he) fun σ H Q ⟨H0, ρ, μ, ι, r, h⟩ => by
  refine ⟨H0, ρ, μ, ι, r, ?_⟩
  simp only [evT] at h
  simp only [evE]
  cases e : evE P ia ρ μ with
  | no => rw [e] at h; exact h
  | er x μ' => rw [e] at h; exact h
  | ok x μ1 =>
    rw [e] at h
    simp only [R.bind] at h ⊢
    split at h
    · rename_i k
      rw [if_pos k]
      intro v A B C s t d
      cases d
      exact ⟨_, rfl, h _ A B C s t rfl⟩
    · exact h.elim
end
/-! ### comprehensions -/
theorem wipe_get {σ : L2.St} {i : Nat} : ∀ {vs : List Nat}, (wipe σ vs)[i]? = if i ∈ vs then (σ[i]?).map (fun _ => none) else σ[i]?
  | [] => by simp [wipe]
  | v :: vs => by
    unfold wipe
    by_cases h : v = i
    · subst h
      rw [if_pos List.mem_cons_self]
      by_cases hl : v < σ.length
      · rw [List.getElem?_set_self (by rw [wipe_length]; exact hl), List.getElem?_eq_getElem hl]
        rfl
      · rw [List.getElem?_eq_none (by rw [List.length_set, wipe_length]; omega), List.getElem?_eq_none (by omega)]
        rfl
    · rw [List.getElem?_set_ne h, wipe_get]
      by_cases hm : i ∈ vs
      · rw [if_pos hm, if_pos (List.mem_cons_of_mem _ hm)]
      · rw [if_neg hm, if_neg fun z => (List.mem_cons.mp z).elim (fun e => h e.symm) hm]
theorem wipe_set {σ : L2.St} {i : Nat} {x : Option V} {vs : List Nat} (h : i ∈ vs) : wipe (σ.set i x) vs = wipe σ vs := by
  apply List.ext_getElem?
  intro j
  rw [wipe_get, wipe_get]
  by_cases hj : j ∈ vs
  · rw [if_pos hj, if_pos hj]
    by_cases e : i = j
    · subst e
      rw [List.getElem?_set]
      simp
      by_cases hl : i < σ.length
      · simp [hl]
      · simp [hl]
    · rw [List.getElem?_set_ne e]
  · rw [if_neg hj, if_neg hj, List.getElem?_set_ne fun e => hj (by rw [← e]; exact h)]
theorem wipe_idem {σ : L2.St} {vs : List Nat} : wipe (wipe σ vs) vs = wipe σ vs := by
  apply List.ext_getElem?
  intro j
  rw [wipe_get, wipe_get]
  by_cases hj : j ∈ vs
  · rw [if_pos hj, if_pos hj]
    cases σ[j]? <;> rfl
  · rw [if_neg hj, if_neg hj]
theorem wipe_all {vs : List Nat} : ∀ {is : List Nat} {xs : List V} {σ : L2.St}, (∀ i ∈ is, i ∈ vs) → wipe ((is.zip xs).foldl (fun σ p => σ.set p.1 (some p.2)) σ) vs = wipe σ vs
  | [], xs, σ, _ => by simp
  | i :: is, [], σ, _ => by simp
  | i :: is, x :: xs, σ, h => by
    rw [List.zip_cons_cons, List.foldl_cons, wipe_all fun j hj => h j (List.mem_cons_of_mem _ hj)]
    exact wipe_set (h i List.mem_cons_self)
def tgIn : Tg → List Nat → Bool
  | .nm i, vs => vs.contains i
  | .tp is, vs => is.all vs.contains
theorem wipeE_len (ρ : Env) : ∀ vs : List Nat, (wipeE ρ vs).length = ρ.length
  | [] => rfl
  | v :: vs => by unfold wipeE; rw [List.length_set, wipeE_len ρ vs]
theorem wipeE_some {ρ : Env} {i : Nat} {x : DL.X} : ∀ {vs : List Nat}, (wipeE ρ vs)[i]? = some (some x) → ρ[i]? = some (some x) ∧ i ∉ vs
  | [], h => ⟨h, by simp⟩
  | v :: vs, h => by
    unfold wipeE at h
    by_cases hi : v = i
    · subst hi
      by_cases hv : v < (wipeE ρ vs).length
      · rw [List.getElem?_set_self hv] at h; cases h
      · rw [List.getElem?_eq_none (by simpa using hv)] at h; cases h
    · rw [List.getElem?_set_ne hi] at h
      obtain ⟨h1, h2⟩ := wipeE_some h
      exact ⟨h1, by simp only [List.mem_cons, not_or]; exact ⟨fun e => hi e.symm, h2⟩⟩
theorem Rel.wiped {σ : L2.St} {ρ : Env} {H0 H : Hp} {ι : List Addr} {μ : Mu} (r : Rel g H0 H σ ρ μ ι) (vs : List Nat) : Rel g H0 H (wipe σ vs) (wipeE ρ vs) μ ι := r.slots (by rw [wipeE_len, wipe_length]; exact r.sl) fun i x e => by
  obtain ⟨h1, h2⟩ := wipeE_some e
  obtain ⟨v, h3, h4⟩ := r.slot i x h1
  exact ⟨v, by rw [wipe_out h2]; exact h3, h4⟩
/-- an object that is neither a value nor a cell yet -/
theorem Rel.side {σ : L2.St} {ρ : Env} {H0 H : Hp} {ι : List Addr} {μ : Mu} {p : Addr} {o : HO} (r : Rel g H0 H σ ρ μ ι) (h0 : H0 p = none) (hi : p ∉ ι) : Rel g H0 (upd H p o) σ ρ μ ι := by
  refine ⟨fun b u h => ?_, r.slot, r.sl, r.len, r.inj, fun a ha h => ?_, fun k nd a h1 h2 => ?_⟩
  · rw [upd_ne (ne_of_none h h0)]
    exact r.ex b u h
  · rw [upd_ne fun z => hi (by rw [← z]; exact ha)] at h
    exact r.tr a ha h
  · obtain ⟨h3, h4⟩ := r.cell k nd a h1 h2
    have ne : a ≠ p := fun z => hi (by rw [← z]; exact List.mem_of_getElem? h2)
    exact ⟨h3, h4.mono (Ex.refl _) ⟨[], by simp⟩ fun u q => by rw [upd_ne ne]; exact q⟩
theorem Stp.side {H0 H H0' H' : Hp} {ι ι' : List Addr} {p : Addr} {o : HO} (s : Stp H0 H ι H0' H' ι') (hp : H p = none) : Stp H0 H ι H0' (upd H' p o) ι' := ⟨s.e0, s.pre, fun b u h n => by rw [upd_ne (ne_of_none h hp)]; exact s.fr b u h n, s.nw, fun b h => by
  by_cases hb : b = p
  · rw [hb]; exact hp
  · rw [upd_ne hb] at h
    exact s.th b h⟩
/-- .. becomes a cell -/
theorem Rel.adopt {σ : L2.St} {ρ : Env} {H0 H : Hp} {ι : List Addr} {μ : Mu} {p : Addr} {nd : Node} (r : Rel g H0 H σ ρ μ ι) (h0 : H0 p = none) (hi : p ∉ ι) (hn : CellRel g H0 (ι ++ [p]) H p nd) : Rel g H0 H σ ρ (μ ++ [some nd]) (ι ++ [p]) := by
  refine ⟨r.ex, fun i x e => ?_, r.sl, by simp [r.len], ?_, fun a ha h => ?_, fun k nd2 a h1 h2 => ?_⟩
  · obtain ⟨v, h1, h2⟩ := r.slot i x e
    exact ⟨v, h1, h2.mono (Ex.refl _) ⟨[p], rfl⟩⟩
  · exact List.nodup_append.mpr ⟨r.inj, by simp, fun a ha b hb e => hi (by have : b = p := by simpa using hb
                                                                           rw [← this, ← e]; exact ha)⟩
  · rcases List.mem_append.mp ha with z | z
    · exact r.tr a z h
    · have : a = p := by simpa using z
      obtain ⟨o, ho⟩ := hn.some
      rw [this, ho] at h
      cases h
  · by_cases hk : k < μ.length
    · rw [List.getElem?_append_left hk] at h1
      rw [List.getElem?_append_left (by rw [r.len]; exact hk)] at h2
      obtain ⟨h3, h4⟩ := r.cell k nd2 a h1 h2
      exact ⟨h3, h4.mono (Ex.refl _) ⟨[p], rfl⟩ fun o q => q⟩
    · have hk2 : μ.length ≤ k := Nat.le_of_not_lt hk
      rw [List.getElem?_append_right hk2] at h1
      rw [List.getElem?_append_right (by rw [r.len]; exact hk2)] at h2
      have e : k - μ.length = 0 := by
        cases q : k - μ.length with
        | zero => rfl
        | succ n => rw [q] at h1; simp at h1
      rw [e] at h1
      rw [r.len, e] at h2
      simp at h1 h2
      subst h1 h2
      exact ⟨h0, hn⟩
theorem Stp.adopt {H0 H H0' H' : Hp} {ι ι' : List Addr} {p : Addr} (s : Stp H0 H ι H0' H' ι') (hp : H p = none) : Stp H0 H ι H0' H' (ι' ++ [p]) := by
  obtain ⟨m, e, f⟩ := s.pre
  refine ⟨s.e0, ⟨m ++ [p], by rw [e, List.append_assoc], fun a ha => ?_⟩, s.fr, s.nw, s.th⟩
  rcases List.mem_append.mp ha with z | z
  · exact f a z
  · have : a = p := by simpa using z
    rw [this]; exact hp
/-- .. becomes a value -/
theorem Rel.ghost {σ : L2.St} {ρ : Env} {H0 H : Hp} {ι : List Addr} {μ : Mu} {p : Addr} {o : HO} (r : Rel g H0 H σ ρ μ ι) (h0 : H0 p = none) (hi : p ∉ ι) (ho : H p = some o) : Rel g (upd H0 p o) H σ ρ μ ι := by
  have e0 : Ex H0 (upd H0 p o) := Ex.new h0
  have i0 : ∃ m, ι = ι ++ m := ⟨[], by simp⟩
  refine ⟨fun b u h => ?_, fun i x e => ?_, r.sl, r.len, r.inj, r.tr, fun k nd a h1 h2 => ?_⟩
  · by_cases hb : b = p
    · subst hb
      rw [upd_same] at h
      rw [← h]; exact ho
    · rw [upd_ne hb] at h
      exact r.ex b u h
  · obtain ⟨v, h1, h2⟩ := r.slot i x e
    exact ⟨v, h1, h2.mono e0 i0⟩
  · obtain ⟨h3, h4⟩ := r.cell k nd a h1 h2
    have ne : a ≠ p := fun z => hi (by rw [← z]; exact List.mem_of_getElem? h2)
    exact ⟨by rw [upd_ne ne]; exact h3, h4.mono e0 i0 fun u q => q⟩
theorem Stp.ghost {H0 H H0' H' : Hp} {ι ι' : List Addr} {p : Addr} {o : HO} (s : Stp H0 H ι H0' H' ι') (hp : H p = none) (h0 : H0' p = none) : Stp H0 H ι (upd H0' p o) H' ι' := ⟨s.e0.trans (Ex.new h0), s.pre, s.fr, fun b u h n m => by rw [upd_ne (ne_of_none h hp)]; exact s.nw b u h n m, s.th⟩
/-- {k: v, ..} -/
theorem se_dic {es : Es} {ks : List (Option Expr)} {vs : List Expr} {cell : Bool} (hp : PsOk g W X P es ks vs) (hall : ks.all (·.isSome) = true) (hl : ks.length = vs.length) (h0 : ks ≠ []) (h15 : ks.length ≤ 15) : SE g W X (.Dict ks vs pos) (evE P (.dic cell es)) := PE_imp (pe_disp hp.pps hall hl h0 h15) fun σ H Q ⟨H0, ρ, μ, ι, r, h⟩ => by
  simp only [evE] at h
  intro p hpn
  have h00 := r.free hpn
  have hni := r.notIn hpn
  have r1 : Rel g H0 (upd H p (.dK [])) σ ρ μ ι := r.side h00 hni
  refine tp_read hp r1 ?_
  cases q : evEs P es ρ μ with
  | no => rw [q] at h; exact h
  | er e μ' =>
    rw [q] at h
    exact fun c d A B C s t z => h c d A B C ((Stp.refl.side hpn).trans s) t z
  | ok xs μ' =>
    rw [q] at h
    simp only [R.bind] at h
    intro ps A B C s t d
    have hB : B p = some (.dK []) := s.fr p _ upd_same hni
    have hA : A p = none := s.nw p _ upd_same h00 hni
    have hC : p ∉ C := s.out upd_same hni
    have s' : Stp H0 H ι A B C := (Stp.refl.side hpn).trans s
    cases q2 : pairs xs with
    | none => simp only [q2] at h; exact h.elim
    | some kvs =>
      simp only [q2] at h
      obtain ⟨kl, e1, e2, e3⟩ := pairs_read d q2
      split at h
      · rename_i hz
        simp only [Bool.and_eq_true, decide_eq_true_eq] at hz
        have hlen : (flatP ps).length = xs.length := d.length
        rw [flatP_len, e1, List.length_map] at hlen
        refine ⟨hB, kl, e1, by omega, ?_⟩
        have em : mergeK [] kl = kl := by
          rw [merge_nodup e3 (fun _ _ q hq => by cases hq)]
          rfl
        rw [em]
        have t2 : Rel g A (upd B p (.dK kl)) σ ρ μ' C := t.side hA hC
        have s2 : Stp H0 H ι A (upd B p (.dK kl)) C := s'.side hpn
        cases cell with
        | true =>
          have r6 := t2.adopt (nd := .dic kvs) hA hC ⟨kl, upd_same, e2⟩
          exact h _ _ _ _ (s2.adopt hpn) r6 ⟨p, by rw [← t2.len]; simp, rfl⟩
        | false =>
          have r6 := t2.ghost (o := .dK kl) hA hC upd_same
          have s6 := s2.ghost (o := .dK kl) hpn hA
          exact h _ _ _ _ s6 r6 (Den.dic (.inl upd_same) (e2.mono (Ex.new hA)))
      · exact h.elim
end
end DL
/-! DL10: list comprehensions. -/
namespace DL
open PySem PySem.Spec PyProof.Rows L2
section
variable {g : G} {X : Cx} {W : WX} {P : Par} {pos : Pos}
def WF : WX := fun _ _ _ _ => False
section
variable {te : Expr} {tg : Tg} {it : It} {ifs : To} {elt : E} {own : List Nat} {cell : Bool}
/-- where the comprehension stands -/
def LcAt (g : G) (W : WX) (P : Par) (σ : L2.St) (ρ : Env) (tg : Tg) (ifs : To) (elt : E) (own : List Nat) (cell : Bool) (A1 H1 : Hp) (ι1 : List Addr) (Dp : Addr) (ds : List DL.D) (Q : VK) (i : Nat) (H : Hp) : Prop :=
  ∃ A μ ι acc accV, Stp A1 H1 ι1 A H ι ∧ Rel g A H (wipe σ own) (wipeE ρ own) μ ι ∧ A Dp = none ∧ Dp ∉ ι ∧ H Dp = some (.lst accV) ∧ Dens g A accV acc ∧
    Post g W σ ρ (rX g) A1 H1 ι1 ((lcD (bindTg tg) (evA P ifs) (evE P elt) (wipeE ρ own) (ds.drop i) acc μ).bind fun ys μ2 => alloc cell (.lst ys) μ2) Q
theorem tg_wipe {K : PySem.W.Frag} {tg : Tg} {v : V} {σ : L2.St} {H : Hp} {own : List Nat} {Q : L2.St → Hp → Prop} (hi : tgIn tg own = true) (h : gTg K tg v (wipe σ own) H Q) : gTg K tg v (wipe σ own) H fun σ2 H2 => wipe σ2 own = wipe σ own ∧ Q σ2 H2 := by
  cases tg with
  | nm i =>
    have hi : i ∈ own := by
      have : own.contains i = true := hi
      simpa using this
    exact ⟨by rw [wipe_set hi, wipe_idem], h⟩
  | tp is =>
    obtain ⟨a, xs, e1, e2, e3, h⟩ := h
    refine ⟨a, xs, e1, e2, e3, ?_⟩
    have hi : ∀ i ∈ is, i ∈ own := fun i hm => by
      have q : is.all own.contains = true := hi
      have q := List.all_eq_true.mp q i hm
      simpa using q
    have : ∀ {is : List Nat} {xs : List V} {σ0 : L2.St}, (∀ i ∈ is, i ∈ own) → wipe σ0 own = wipe σ own → gsNames is xs σ0 H Q → gsNames is xs σ0 H fun σ2 H2 => wipe σ2 own = wipe σ own ∧ Q σ2 H2 := fun {is} => by
      induction is with
      | nil => exact fun {xs σ0} _ hw h => ⟨h.1, hw, h.2⟩
      | cons i is ih =>
        intro xs σ0 hm hw h
        obtain ⟨v, r, e, h⟩ := h
        exact ⟨v, r, e, ih (fun j hj => hm j (List.mem_cons_of_mem _ hj)) (by rw [wipe_set (hm i List.mem_cons_self)]; exact hw) h⟩
    exact this hi wipe_idem h
theorem lc_run {K : PySem.W.Frag} {wi : TI} {tt : TT} {et : TE} {σ : L2.St} {H : Hp} {Q : VK} (hK : K = g.K) (hin : tgIn tg own = true) (hi : ∀ σ H R, run g W (rI g) (evIt P it) σ H R → wi σ H R) (ht : ∀ σ H R, run g WF rB (evA P ifs) σ H R → tt σ H R)
    (he : ∀ σ H R, tE g WF (evE P elt) σ H R → et σ H R) (h : tE g W (evE P (.lc cell tg it ifs elt own)) σ H Q) : tLc wi (gTg K tg) tt et own σ H Q := by
  obtain ⟨H0, ρ, μ, ι, r, h⟩ := h
  simp only [evE] at h
  refine hi _ _ _ (run_bind r h fun J ds μ1 A1 H1 ι1 s1 r1 d1 h1 => ?_)
  clear h r s1
  have d1 : Yl g A1 J ds := d1
  intro Dp hD
  have hD0 := r1.free hD
  refine ⟨fun i m H => m = ds.length - i ∧ i ≤ ds.length ∧ LcAt g W P σ ρ tg ifs elt own cell A1 H1 ι1 Dp ds Q i H, ⟨_, rfl, Nat.zero_le _, A1, μ1, ι1, [], [], Stp.refl.side hD, ((r1.wiped own).side hD0 (r1.notIn hD)), hD0, r1.notIn hD, upd_same, .nil, h1⟩, ?_⟩
  clear h1
  rintro i m H2 ⟨rfl, hil, A, μ, ι, acc, accV, s, r, f0, fi, fD, fa, h⟩
  obtain ⟨y1, y2⟩ := d1 H2 (s.e0.trans r.ex) i
  by_cases hl : i < ds.length
  · have hd : ds.drop i = ds[i] :: ds.drop (i + 1) := List.drop_eq_getElem_cons hl
    have hx : ds[i]? = some ds[i] := List.getElem?_eq_getElem hl
    obtain ⟨go, yl⟩ := y1 _ hx
    refine .inr ⟨go, fun H => LcAt g W P σ ρ tg ifs elt own cell A1 H1 ι1 Dp ds Q (i + 1) H, fun H' q => ⟨_, by omega, rfl, hl, q⟩, fun v H' hy => ?_⟩
    rw [hd] at h
    simp only [lcD] at h
    cases qb : bindTg tg ds[i] (wipeE ρ own) with
    | none => rw [qb] at h; exact h.elim
    | some ρ1 =>
      rw [qb] at h
      dsimp only at h
      have main : ∀ A' H' ι', Stp A H2 ι A' H' ι' → Rel g A' H' (wipe σ own) (wipeE ρ own) μ ι' → Den g A' v ds[i] → gTg K tg v (wipe σ own) H' fun σ2 H2 => wipe σ2 own = wipe σ own ∧ tt σ2 H2 fun b H3 =>
          if b = true then et σ2 H3 fun y H4 => ∃ acc, H4 Dp = some (.lst acc) ∧ acc.length < sizeLine ∧ LcAt g W P σ ρ tg ifs elt own cell A1 H1 ι1 Dp ds Q (i + 1) (upd H4 Dp (.lst (acc ++ [y]))) else LcAt g W P σ ρ tg ifs elt own cell A1 H1 ι1 Dp ds Q (i + 1) H3 := fun A' H' ι' s' r' d' => by
        refine tg_wipe hin ?_
        rw [hK]
        refine tg_read r' d' qb fun σ2 r2 => ht _ _ _ ⟨A', ρ1, μ, ι', r2, ?_⟩
        cases qt : evA P ifs ρ1 μ with
        | no => rw [qt] at h; exact h.elim
        | er x μ2 => rw [qt] at h; exact h.elim
        | ok k μ2 =>
          rw [qt] at h
          intro k' A3 H3 ι3 s3 r3 ek
          have ek : k' = k := ek
          subst ek
          -- the cells of the turn are dropped
          have back : ∀ {A4 H4 : Hp} {ι4 : List Addr} {μ4 : Mu} {σ4 : L2.St} {ρ4 : Env} {acc' : List DL.D} {accV' : List V}, Stp A H2 ι A4 H4 ι4 → Rel g A4 H4 σ4 ρ4 μ4 ι4 → H4 Dp = some (.lst accV') → Dens g A4 accV' acc' → A4 Dp = none → Dp ∉ ι4 →
              Post g W σ ρ (rX g) A1 H1 ι1 ((lcD (bindTg tg) (evA P ifs) (evE P elt) (wipeE ρ own) (ds.drop (i + 1)) acc' (tidy μ.length [] μ4).2).bind fun ys μ2 => alloc cell (.lst ys) μ2) Q → LcAt g W P σ ρ tg ifs elt own cell A1 H1 ι1 Dp ds Q (i + 1) H4 := fun {A4 H4 ι4 μ4 σ4 ρ4 acc' accV'} s4 r4 e4 a4 n4 m4 h4 => by
            obtain ⟨ι5, r5, s5, m, em⟩ := (r4.noSlots).tidy s4 (n := μ.length) r.len
            exact ⟨A4, _, ι5, acc', accV', s.trans s5, r.unbare s5 r5, n4, fun z => m4 (by rw [em]; exact List.mem_append_left _ z), e4, a4, h4⟩
          have s13 := s'.trans s3
          have g3 : H3 Dp = some (.lst accV) := s13.fr Dp _ fD fi
          have n3 : A3 Dp = none := s13.nw Dp _ fD f0 fi
          have m3 : Dp ∉ ι3 := s13.out fD fi
          cases k' with
          | false =>
            refine iteF ?_
            exact back s13 r3 g3 (fa.mono s13.e0) n3 m3 h
          | true =>
            refine iteT (he _ _ _ ⟨A3, ρ1, μ2, ι3, r3, ?_⟩)
            dsimp only at h
            cases qe : evE P elt ρ1 μ2 with
            | no => rw [qe] at h; exact h.elim
            | er x μ2 => rw [qe] at h; exact h.elim
            | ok y μ3 =>
              rw [qe] at h
              cases y with
              | r k => exact h.elim
              | d y =>
                dsimp only at h
                split at h
                · rename_i hz
                  have hz := of_decide_eq_true hz
                  intro yv A4 H4 ι4 s4 r4 dy
                  have s14 := s13.trans s4
                  have g4 : H4 Dp = some (.lst accV) := s14.fr Dp _ fD fi
                  have n4 : A4 Dp = none := s14.nw Dp _ fD f0 fi
                  have m4 : Dp ∉ ι4 := s14.out fD fi
                  refine ⟨accV, g4, by rw [fa.length, sizeLine_eq]; omega, ?_⟩
                  have dy : Den g A4 yv y := dy
                  have hH2 : H2 Dp ≠ none := by rw [fD]; simp
                  -- the store into the new list, seen from the base
                  obtain ⟨ι5, r5, s5, mm, em⟩ := (r4.noSlots).tidy s14 (n := μ.length) r.len
                  have m5 : Dp ∉ ι5 := fun z => m4 (by rw [em]; exact List.mem_append_left _ z)
                  refine ⟨A4, _, ι5, _, _, (s.trans s5).side hD, (r.unbare s5 r5).side n4 m5, n4, m5, upd_same, (fa.mono s14.e0).append (.cons dy .nil), h⟩
                · exact h.elim
      rcases yl v H' hy with ⟨rfl, d⟩ | ⟨p, us, es, hp, rfl, rfl, hd2, e2⟩
      · exact main A _ ι Stp.refl r (d.mono s.e0)
      · obtain ⟨r', s'⟩ := r.value (o := .tup us) hp
        refine main _ _ ι s' r' ?_
        rw [e2]
        exact Den.tup (SqT.of upd_same) (hd2.mono (s.e0.trans s'.e0))
  · have hn : ds.length ≤ i := Nat.le_of_not_lt hl
    rw [List.drop_eq_nil_of_le hn] at h
    refine .inl ⟨y2 hn, ?_⟩
    simp only [lcD, R.bind] at h
    unfold alloc at h
    split at h
    · have rr := r1.unbare s r
      cases cell with
      | true =>
        have r6 := rr.adopt (nd := .lst acc) f0 fi ⟨accV, fD, fa⟩
        exact h _ _ _ _ (s.adopt hD) r6 ⟨Dp, by rw [← rr.len]; simp, rfl⟩
      | false =>
        have r6 := rr.ghost (o := .lst accV) f0 fi fD
        have s6 := s.ghost (o := .lst accV) hD f0
        exact h _ _ _ _ s6 r6 (Den.lst upd_same (fa.mono (Ex.new f0)))
    · exact h.elim
end
end
end DL


/-! DL11: the look at an expression's text. -/
namespace DL
open PySem PySem.Spec PyProof.Rows L2
/-- a def as callers know it -/
structure FnI where
  name : Str
  ps : List Str
  dfs : List D
  /-- a def of the top -/
  top : Bool
structure Ck where
  fns : List FnI
  glo : List (Str × D)
  /-- the own classes: name, methods, properties, fields -/
  cls : List (Str × (List (Str × Nat) × (List (Str × Nat) × List Str)))
def Ck.methOf (c : Ck) (i : Nat) (m : Str) : Option Nat := (c.cls[i]?).bind fun p => p.2.1.lookup m
def Ck.propOf (c : Ck) (i : Nat) (m : Str) : Option Nat := (c.cls[i]?).bind fun p => p.2.2.1.lookup m
def Ck.fldOk (c : Ck) (i : Nat) (f : Str) : Bool := match c.cls[i]? with
  | some p => p.2.2.2.contains f
  | none => false
/-- the methods of that name take so many arguments and have these defaults -/
def Ck.mdf (c : Ck) (m : Str) (n : Nat) (ds : List D) (eq : List D → List D → Bool) : Bool := c.cls.all fun p => match p.2.1.lookup m with
  | some j => (match c.fns[j]? with
    | some f => decide (n + 1 + ds.length = f.ps.length) && (decide (ds.length ≤ f.dfs.length) && eq ds (f.dfs.drop (f.dfs.length - ds.length)))
    | none => false)
  | none => true
def notStar : Expr → Bool
  | .Starred .. => false
  | _ => true
def notCall : Expr → Bool
  | .Call .. => false
  | _ => true
def notSet : Expr → Bool
  | .Set .. => false
  | _ => true
def notSlice : Expr → Bool
  | .Slice .. => false
  | _ => true
def plainT : Expr → Bool
  | .UnaryOp .. => false
  | .BoolOp .. => false
  | .IfExp .. => false
  | .Compare .. => false
  | _ => true
def glB (sc : Scope) (x : Str) : Bool := decide (sc.names.lookup x = some .globalImplicit)
def visB (sc : Scope) (x : Str) : Bool := decide (sc.names.lookup x = some .local) || (decide (sc.names.lookup x = some .cell) || decide (sc.names.lookup x = some .free))
def locB (blk : Bool) (sc : Scope) (x : Str) : Bool := decide (sc.names.lookup x = some .local) || (!blk && decide (sc.names.lookup x = some .cell))
def nmB (N : List Str) (sc : Scope) (i : Nat) (x : Str) : Bool := decide (N[i]? = some x) && (visB sc x && (!(x == ("__debug__" : Str)) && !(x == ("__classdict__" : Str))))
def ckC : D → Expr → Bool
  | .non, .Constant .none _ _ => true
  | .bl b, .Constant (.bool b') _ _ => decide (b = b')
  | .int b, .Constant (.int b') _ _ => decide (b = b')
  | .str b, .Constant (.str b') _ _ => decide (b = b')
  | _, _ => false
def scEq : D → D → Bool
  | .non, .non => true
  | .bl a, .bl b => decide (a = b)
  | .int a, .int b => decide (a = b)
  | .str a, .str b => decide (a = b)
  | _, _ => false
def scEqs : List D → List D → Bool
  | [], [] => true
  | a :: as, b :: bs => scEq a b && scEqs as bs
  | _, _ => false
theorem scEq_eq : ∀ {a b : D}, scEq a b = true → a = b
  | .non, b, h => by cases b <;> first | rfl | cases h
  | .bl x, b, h => by cases b <;> first | (have := of_decide_eq_true h; subst this; rfl) | cases h
  | .int x, b, h => by cases b <;> first | (have := of_decide_eq_true h; subst this; rfl) | cases h
  | .str x, b, h => by cases b <;> first | (have := of_decide_eq_true h; subst this; rfl) | cases h
  | .lst _, b, h => by cases h
  | .tup _, b, h => by cases h
  | .dic _, b, h => by cases h
  | .kdic _, b, h => by cases h
  | .ins _ _, b, h => by cases h
  | .fn _, b, h => by cases h
  | .cls _, b, h => by cases h
theorem scEqs_eq : ∀ {a b : List D}, scEqs a b = true → a = b
  | [], [], _ => rfl
  | [], _ :: _, h => by cases h
  | _ :: _, [], h => by cases h
  | a :: as, b :: bs, h => by
    have h := Bool.and_eq_true_iff.mp h
    rw [scEq_eq h.1, scEqs_eq h.2]
def ckTg (blk : Bool) (N : List Str) (sc : Scope) : Tg → Expr → Bool
  | .nm i, .Name x _ => decide (N[i]? = some x) && locB blk sc x
  | .tp is, .Tuple es _ _ => decide (is.length = es.length) && (is.zip es).all fun p => match p.2 with
    | .Name x _ => decide (N[p.1]? = some x) && locB blk sc x
    | _ => false
  | _, _ => false
def tyB (c : Ck) (sc : Scope) (t : Ty) : Expr → Bool
  | .Name x _ => glB sc x && (match t with
    | .cls k => (match c.cls[k]? with | some p => decide (p.1 = x) && !(x == ("__debug__" : Str)) | none => false)
    | t => decide (x = (tyName t : Str)))
  | _ => false
def tysB (c : Ck) (sc : Scope) : List Ty → List Expr → Bool
  | [], [] => true
  | t :: ts, e :: es => tyB c sc t e && tysB c sc ts es
  | _, _ => false
def isiB (c : Ck) (sc : Scope) (f : Expr → Bool) (ts : List Ty) : Expr → Bool
  | .Call (.Name n _) [a, .Name x xp] [] _ => decide (n = ("isinstance" : Str)) && (glB sc n && (f a && (notStar a && tysB c sc ts [.Name x xp])))
  | .Call (.Name n _) [a, .Tuple cs _ _] [] _ => decide (n = ("isinstance" : Str)) && (glB sc n && (f a && (notStar a && (tysB c sc ts cs && decide (ts.length ≤ 1000)))))
  | _ => false
/-- a receiver whose method is called straight: no super -/
def notSuper : Expr → Bool
  | .Name .. => true
  | .Attribute .. => true
  | .Subscript .. => true
  | .Constant .. => true
  | _ => false
def isTup : Expr → Bool
  | .Tuple .. => true
  | _ => false
mutual
def ckE (c : Ck) (N : List Str) (sc : Scope) : E → Expr → Bool
  | .var i, e => (match e with | .Name x _ => nmB N sc i x | _ => false)
  | .con d, e => ckC d e
  | .glo k, e => (match e with | .Name x _ => (match c.glo[k]? with | some p => decide (p.1 = x) && (glB sc x && !(x == ("__debug__" : Str))) | none => false) | _ => false)
  | .bin op a b, e => (match e with | .BinOp l o r _ => decide (o = opOf op) && (ckE c N sc a l && ckE c N sc b r) | _ => false)
  | .binC a b, e => (match e with | .BinOp l o r _ => decide (o = .Add) && (ckE c N sc a l && ckE c N sc b r) | _ => false)
  | .fmt a, e => (match e with | .FormattedValue x n none _ => decide (n = -1) && ckE c N sc a x | _ => false)
  | .jn1 a, e => (match e with | .JoinedStr [x] _ => ckE c N sc a x | _ => false)
  | .jn es, e => (match e with | .JoinedStr (x1 :: x2 :: xs) _ => ckEs c N sc es (x1 :: x2 :: xs) | _ => false)
  | .rv _ a, e => (match e with | .Subscript x (.Slice none none (some (.UnaryOp .USub (.Constant (.int 1) _ _) _)) _) _ => ckE c N sc a x | _ => false)
  | .never, _ => true
  | .neg a, e => (match e with | .UnaryOp o x _ => decide (o = .USub) && ckE c N sc a x | _ => false)
  | .cmp op a b, e => (match e with | .Compare l [o] [r] _ => decide (o = copOf op) && (ckE c N sc a l && (ckE c N sc b r && !behindInMarks (copOf op) r)) | _ => false)
  | .chain o1 o2 x y z, e => (match e with | .Compare l [p1, p2] [m, r] _ => decide (p1 = copOf o1) && (decide (p2 = copOf o2) && (ckE c N sc x l && (ckE c N sc y m && (ckE c N sc z r && !lastMarks [copOf o1, copOf o2] [m, r])))) | _ => false)
  | .bop cj es, e => (match e with | .BoolOp o vs _ => decide (o = boOf cj) && (ckEs c N sc es vs && !vs.isEmpty) | _ => false)
  | .not a, e => (match e with | .UnaryOp o x _ => decide (o = .Not) && ckE c N sc a x | _ => false)
  | .ife t a b, e => (match e with | .IfExp te x y _ => ckT c N sc t te && (ckE c N sc a x && ckE c N sc b y) | _ => false)
  | .tup es, e => (match e with | .Tuple xs _ _ => ckEs c N sc es xs | _ => false)
  | .lst _ es, e => (match e with | .List xs _ => ckEs c N sc es xs | _ => false)
  | .dic _ es, e => (match e with | .Dict ks vs _ => ckPs c N sc es ks vs && (decide (ks.length = vs.length) && (!ks.isEmpty && decide (ks.length ≤ 15))) | _ => false)
  | .idx a i, e => (match e with | .Subscript x y _ => ckE c N sc a x && (ckE c N sc i y && notSlice y) | _ => false)
  | .sl _ a lo hi, e => (match e with | .Subscript x (.Slice l h none _) _ => ckE c N sc a x && (ckO c N sc lo l && ckO c N sc hi h) | _ => false)
  | .fld a f, e => (match e with | .Attribute x n _ => decide (n = f) && (ckE c N sc a x && notSuper x) | _ => false)
  | .call j es ds, e => (match e with | .Call (.Name x _) xs [] _ => (match c.fns[j]? with | some f => (decide (f.name = x) && f.top) && (glB sc x && (!(x == ("__debug__" : Str)) && (ckEs c N sc es xs && (decide (xs.length + ds.length = f.ps.length) && (decide (ds.length ≤ f.dfs.length) && scEqs ds (f.dfs.drop (f.dfs.length - ds.length))))))) | none => false) | _ => false)
  | .mk k es ds, e => (match e with | .Call (.Name x _) xs [] _ => (match c.cls[k]? with | some p => (match p.2.1.lookup ("__init__" : Str) with | some j => (match c.fns[j]? with | some f => decide (p.1 = x) && (glB sc x && (!(x == ("__debug__" : Str)) && (ckEs c N sc es xs && (decide (xs.length + 1 + ds.length = f.ps.length) && (decide (ds.length ≤ f.dfs.length) && scEqs ds (f.dfs.drop (f.dfs.length - ds.length))))))) | none => false) | none => false) | none => false) | _ => false)
  | .meth m o es ds, e => (match e with | .Call (.Attribute x n ap) xs [] pos => decide (n = m) && (ckE c N sc o x && (notSuper x && (ckEs c N sc es xs && (c.mdf m xs.length ds scEqs && (decide (xs.length < 30) && (ap.endLine == pos.line)))))) | _ => false)
  | .blt _ b es, e => (match e with | .Call (.Name x _) xs [] _ => decide (x = bltName b) && (glB sc x && (ckEs c N sc es xs && !xs.isEmpty)) | _ => false)
  | .isi a ts, e => isiB c sc (ckE c N sc a) ts e
  | .lm m o es, e => (match m with
    | .append => (match e with | .Call (.Attribute x n ap) xs [] pos => decide (n = ("append" : Str)) && (ckE c N sc o x && (notCall x && (ckEs c N sc es xs && (decide (xs.length = 1) && (ap.endLine == pos.line))))) | _ => false)
    | _ => false)
  | .lrng _ a b, e => (match b with
    | .none => (match e with | .Call (.Name x _) [.Call (.Name y _) [u] [] _] [] _ => decide (x = ("list" : Str)) && (decide (y = ("range" : Str)) && (glB sc x && (glB sc y && (ckE c N sc a u && notStar u)))) | _ => false)
    | .some b => (match e with | .Call (.Name x _) [.Call (.Name y _) [u, v] [] _] [] _ => decide (x = ("list" : Str)) && (decide (y = ("range" : Str)) && (glB sc x && (glB sc y && (ckE c N sc a u && (ckE c N sc b v && (notStar u && notStar v)))))) | _ => false))
  | .lc _ tg it ifs elt own, e => (match e with | .ListComp x [⟨t, i, fs, 0⟩] scope _ => ckIt c N sc t it i && (blkC N sc scope (own.filterMap fun k => (N[k]?).map fun n => (n, k)) && (decide ((own.filterMap fun k => (N[k]?).map fun n => (n, k)).map (·.2) = own) && (ckTg true N (relS scope sc) tg t && (tgIn tg own && (ckA c N (relS scope sc) ifs fs && (ckE c N (relS scope sc) elt x && notSet i)))))) | _ => false)
  | .frz a, e => ckE c N sc a e
def ckO (c : Ck) (N : List Str) (sc : Scope) : Eo → Option Expr → Bool
  | .none, e => e.isNone
  | .some a, e => (match e with | some e => ckE c N sc a e | none => false)
def ckPs (c : Ck) (N : List Str) (sc : Scope) : Es → List (Option Expr) → List Expr → Bool
  | .nil, ks, vs => ks.isEmpty && vs.isEmpty
  | .cons _ .nil, _, _ => false
  | .cons a (.cons b r), ks, vs => (match ks, vs with | some k :: ks, v :: vs => ckE c N sc a k && (ckE c N sc b v && ckPs c N sc r ks vs) | _, _ => false)
def ckEs (c : Ck) (N : List Str) (sc : Scope) : Es → List Expr → Bool
  | .nil, es => es.isEmpty
  | .cons a r, es => (match es with | e :: es => ckE c N sc a e && (notStar e && ckEs c N sc r es) | [] => false)
def ckT (c : Ck) (N : List Str) (sc : Scope) : T → Expr → Bool
  | .bop cj ts, e => (match e with | .BoolOp o vs _ => decide (o = boOf cj) && (ckTs c N sc ts vs && !vs.isEmpty) | _ => false)
  | .not t, e => (match e with | .UnaryOp o x _ => decide (o = .Not) && ckT c N sc t x | _ => false)
  | .cmp op a b, e => (match e with | .Compare l [o] [r] _ => decide (o = copOf op) && (ckE c N sc a l && (ckE c N sc b r && !behindInMarks (copOf op) r)) | _ => false)
  | .chain o1 o2 x y z, e => (match e with | .Compare l [p1, p2] [m, r] _ => decide (p1 = copOf o1) && (decide (p2 = copOf o2) && (ckE c N sc x l && (ckE c N sc y m && (ckE c N sc z r && !lastMarks [copOf o1, copOf o2] [m, r])))) | _ => false)
  | .isi a ts, e => isiB c sc (ckE c N sc a) ts e
  | .val a, e => ckE c N sc a e && plainT e
def ckTs (c : Ck) (N : List Str) (sc : Scope) : Ts → List Expr → Bool
  | .nil, es => es.isEmpty
  | .cons a r, es => (match es with | e :: es => ckT c N sc a e && ckTs c N sc r es | [] => false)
def ckA (c : Ck) (N : List Str) (sc : Scope) : To → List Expr → Bool
  | .none, es => es.isEmpty
  | .some t, es => (match es with | [e] => ckT c N sc t e | _ => false)
def ckIt (c : Ck) (N : List Str) (sc : Scope) (t : Expr) : It → Expr → Bool
  | .seq a, e => ckE c N sc a e
  | .rng1 a, e => (match e with | .Call (.Name x _) [u] [] _ => decide (x = ("range" : Str)) && (glB sc x && (ckE c N sc a u && notStar u)) | _ => false)
  | .rng2 a b, e => (match e with | .Call (.Name x _) [u, v] [] _ => decide (x = ("range" : Str)) && (glB sc x && (ckE c N sc a u && (ckE c N sc b v && (notStar u && notStar v)))) | _ => false)
  | .enum a, e => (match e with | .Call (.Name x _) [u] [] _ => decide (x = ("enumerate" : Str)) && (glB sc x && (ckE c N sc a u && (notStar u && isTup t))) | _ => false)
  | .zip a b, e => (match e with | .Call (.Name x _) [u, v] [] _ => decide (x = ("zip" : Str)) && (glB sc x && (ckE c N sc a u && (ckE c N sc b v && (notStar u && (notStar v && isTup t))))) | _ => false)
  | .rev _, _ => false
end
/-! ### small facts -/
theorem ckEs_star {c : Ck} {N : List Str} {sc : Scope} : ∀ {ir : Es} {es : List Expr}, ckEs c N sc ir es = true → es.all notStar = true
  | .nil, es, h => by
    simp only [ckEs, List.isEmpty_iff] at h
    rw [h]
    rfl
  | .cons a r, es, h => by
    simp only [ckEs] at h
    split at h
    · simp only [Bool.and_eq_true] at h
      rw [List.all_cons, h.2.1, ckEs_star h.2.2]
      rfl
    · cases h
theorem star1 {a : Expr} {es : List Expr} {env : PySem.Env} (h : notStar a = true) : starEach (a :: es) env = (false, eval a env) :: starEach es env := by
  cases a <;> first | rfl | cases h
theorem star_any {pos : Pos} {env : PySem.Env} : ∀ {es : List Expr}, es.all notStar = true → (backTo pos (starEach es env)).any (·.1) = false
  | [], _ => rfl
  | e :: es, h => by
    rw [List.all_cons, Bool.and_eq_true] at h
    rw [star1 h.1]
    show (false || (backTo pos (starEach es env)).any (·.1)) = false
    rw [star_any h.2]
    rfl
theorem star_all {pos : Pos} {env : PySem.Env} : ∀ {es : List Expr}, es.all notStar = true → (backTo pos (starEach es env)).all (fun x => !x.1) = true
  | [], _ => rfl
  | e :: es, h => by
    rw [List.all_cons, Bool.and_eq_true] at h
    rw [star1 h.1]
    show (true && (backTo pos (starEach es env)).all (fun x => !x.1)) = true
    rw [star_all h.2]
    rfl
theorem super_plain {o : Expr} {n : Str} {env : PySem.Env} {w : Sem Value} (h : notSuper o = true) : attributeBase o n env w = w := by
  cases o <;> first | rfl | cases h
theorem meth_tree {o : Expr} {m : Str} {apos pos : Pos} {es : List Expr} {env : PySem.Env} (h : notSuper o = true) (hs : es.all notStar = true) (hn : es.length < 30) (hl : (apos.endLine == pos.line) = true) : ∃ pl : Sem Bool, eval (.Call (.Attribute o m apos) es [] pos) env = (do
      let ov ← eval o env
      standAt apos.atName
      let (f, first) ← holding [ov] (getMethod ov m pl)
      callWith pos f first (backTo pos (starEach es env)) (backToKw pos (keywordEach [] env))) := by
  refine ⟨(do return (← importBound o env).getD true), ?_⟩
  have hf : methodCallForm (es.length + ([] : List Keyword).length) (backTo pos (starEach es env)) (backToKw pos (keywordEach [] env)) = true := by
    unfold methodCallForm
    rw [star_all hs]
    show (true && true && decide (es.length + 0 + 0 < 30)) = true
    simp [hn]
  rw [arm_eval_Call, super_plain h]
  unfold methodCall calleeOf methodCallPos
  rw [hf]
  simp only [Bool.not_true, Bool.false_or, hl, if_true, pure_bind]
theorem base_plain {o : Expr} {n : Str} {env : PySem.Env} {w : Sem Value} (h : notCall o = true) : attributeBase o n env w = w := by
  cases o <;> first | rfl | cases h
theorem true_plain {a : Expr} {env : PySem.Env} (h : plainT a = true) : ∀ whole, isTrue a env whole = (do let v ← whole; standAt a.pos; holding [v] (truthy v)) := by
  cases a <;> first | (intro _; rfl) | cases h
theorem ix_plain {b : Expr} (h : notSlice b = true) : PlainIx b := by
  cases b <;> first | (intro _ _; rfl) | cases h
theorem set_plain {e : Expr} {env : PySem.Env} (h : notSet e = true) : ∀ x, foldedSetIterable e env x = pure x := by
  cases e <;> first | (intro _; rfl) | cases h
theorem bool_true {b : Bool} (h : (!b) = true) : b = false := by cases b <;> first | rfl | cases h
theorem glB_gl {X : Cx} {sc : Scope} {x : Str} (e : X.env.scope = sc) (h : glB sc x = true) : Gl X x := by
  unfold Gl Env.kindOf
  rw [e]
  exact of_decide_eq_true h
theorem visB_vis {X : Cx} {sc : Scope} {x : Str} (e : X.env.scope = sc) (h : visB sc x = true) : Vis X.env.scope x := by
  rw [e]
  unfold visB at h
  simp only [Bool.or_eq_true, decide_eq_true_eq] at h
  exact h
end DL
/-! DL12: the look is sound. -/
namespace DL
open PySem PySem.Spec PyProof.Rows L2
/-- the names that the text leaves to the built-ins -/
def bltNames : List Str := ["len", "abs", "min", "max", "sum", "all", "any", "int", "str", "bool", "list", "tuple", "sorted", "dict", "range", "enumerate", "zip", "isinstance", "reversed"]
/-- what one knows of the text -/
structure Txt (g : G) (c : Ck) (P : Par) (k : Nat) (fd : Nat → FuncData) : Prop where
  calls : ∀ j f, c.fns[j]? = some f → FnOk g.P g.w g.K g.mg g.base (L2N.CX g.P g.w) (k + 1) (g.fA j) (fd j) f.ps (spF g P.C j)
  calls1 : ∀ j f, c.fns[j]? = some f → FnOk g.P g.w g.K g.mg g.base (L2N.CX g.P g.w) k (g.fA j) (fd j) f.ps (spF g P.C1 j)
  mgf : ∀ j f, c.fns[j]? = some f → f.top = true → g.mg f.name = some (.ref (g.fA j)) ∧ PySem.W.keepIn g.K (.ref (g.fA j)) = true
  bnd : ∀ j f, c.fns[j]? = some f → ∀ m, m ≤ f.dfs.length → ∃ ds dvs, Binds g.K (fd j) f.ps ds ∧ Vals dvs ds ∧ ∀ H, Dens g H dvs (f.dfs.drop m)
  bnd0 : ∀ j f, c.fns[j]? = some f → Binds g.K (fd j) f.ps []
  glo : ∀ (i : Nat) (p : Str × DL.D), c.glo[i]? = some p → ∃ u v, g.mg p.1 = some u ∧ RelV v u ∧ ∀ H, Den g H v p.2
  gloP : ∀ i, P.glo i = (c.glo[i]?).map (·.2)
  blt : ∀ x ∈ bltNames, g.mg x = none
  nC : g.nC = c.cls.length
  cls : ∀ i, i < g.nC → ClsOk g i
  mgc : ∀ i p, c.cls[i]? = some p → g.mg p.1 = some (.ref (g.cA i))
  methP : P.methOf = c.methOf
  propP : P.propOf = c.propOf
  fldP : P.fldOk = c.fldOk
  meth : ∀ i m j, i < g.nC → c.methOf i m = some j → Meth g.K (g.cA i) m (g.fA j) ∧ (c.fns[j]?).isSome = true
  init : ∀ i j, i < g.nC → c.methOf i "__init__" = some j → Mk g.K (g.cA i) (g.fA j)
  prop : ∀ i m j, i < g.nC → c.propOf i m = some j → (∃ p, PropOf g.K (g.cA i) m p (g.fA j)) ∧ (c.fns[j]?).isSome = true
  fld : ∀ i f, i < g.nC → c.fldOk i f = true → NoAttr g.K (g.cA i) f
section
variable {g : G} {X : Cx} {W : WX} {P : Par} {pos : Pos} {c : Ck} {k : Nat} {fd : Nat → FuncData} {N : List Str} {sc : Scope}
theorem Ok.gl (ok : Ok g X W N sc k) {x : Str} (h : glB sc x = true) : Gl X x := glB_gl ok.sc h
theorem Ok.un (ok : Ok g X W N sc k) : X.A.units + 64 < cLine := ok.room.units
theorem Ok.blt (ok : Ok g X W N sc k) (T : Txt g c P k fd) {x : Str} (h : x ∈ bltNames) : X.mg x = none := by
  rw [ok.mg]
  exact T.blt x h
theorem Ok.own (ok : Ok g X W N sc k) (T : Txt g c P k fd) : Own g X P k := ⟨ok.K, T.cls, ok.room, fun i m j hi hj => by
    rw [T.methP] at hj
    obtain ⟨M, hs⟩ := T.meth i m j hi hj
    obtain ⟨f, ef⟩ := Option.isSome_iff_exists.mp hs
    have F := T.calls _ _ ef
    have F1 := T.calls1 _ _ ef
    have B := T.bnd0 _ _ ef
    rw [← ok.P, ← ok.w, ← ok.K, ← ok.mg, ← ok.base] at F F1
    rw [← ok.K] at B
    exact ⟨_, _, M, F, F1, B⟩, fun i m j hi hj => by
    rw [T.propP] at hj
    obtain ⟨⟨p, M⟩, hs⟩ := T.prop i m j hi hj
    obtain ⟨f, ef⟩ := Option.isSome_iff_exists.mp hs
    have F1 := T.calls1 _ _ ef
    have B := T.bnd0 _ _ ef
    rw [← ok.P, ← ok.w, ← ok.K, ← ok.mg, ← ok.base] at F1
    rw [← ok.K] at B
    exact ⟨p, _, _, M, F1, B⟩, fun i f hi hf => by
    rw [T.fldP] at hf
    exact T.fld i f hi hf⟩
theorem ok_ty (ok : Ok g X W N sc k) (T : Txt g c P k fd) {t : Ty} {e : Expr} (h : tyB c sc t e = true) : PE X e (tC (tyW g t)) ∧ tyIn g t ∧ notStar e = true := by
  unfold tyB at h
  split at h
  · simp only [Bool.and_eq_true] at h
    obtain ⟨h1, h2⟩ := h
    have hg := ok.gl h1
    cases t with
    | cls i =>
      dsimp only at h2
      split at h2
      · rename_i p q
        simp only [Bool.and_eq_true, decide_eq_true_eq, Bool.not_eq_true'] at h2
        obtain ⟨rfl, h3⟩ := h2
        have hi : i < g.nC := by rw [T.nC]; exact (List.getElem?_eq_some_iff.mp q).1
        exact ⟨pe_glob hg (by rw [ok.mg]; exact T.mgc _ _ q) (show RelV (.ref (g.cA i)) (.ref (g.cA i)) from rfl) h3, hi, rfl⟩
      · cases h2
    | int => cases of_decide_eq_true h2; exact ⟨pe_bltn hg (ok.blt T (by decide +kernel)) (show bootBuiltins _ = some (.type "int") by decide +kernel) rfl, trivial, rfl⟩
    | bool => cases of_decide_eq_true h2; exact ⟨pe_bltn hg (ok.blt T (by decide +kernel)) (show bootBuiltins _ = some (.type "bool") by decide +kernel) rfl, trivial, rfl⟩
    | str => cases of_decide_eq_true h2; exact ⟨pe_bltn hg (ok.blt T (by decide +kernel)) (show bootBuiltins _ = some (.type "str") by decide +kernel) rfl, trivial, rfl⟩
    | lst => cases of_decide_eq_true h2; exact ⟨pe_bltn hg (ok.blt T (by decide +kernel)) (show bootBuiltins _ = some (.type "list") by decide +kernel) rfl, trivial, rfl⟩
    | tup => cases of_decide_eq_true h2; exact ⟨pe_bltn hg (ok.blt T (by decide +kernel)) (show bootBuiltins _ = some (.type "tuple") by decide +kernel) rfl, trivial, rfl⟩
    | dic => cases of_decide_eq_true h2; exact ⟨pe_bltn hg (ok.blt T (by decide +kernel)) (show bootBuiltins _ = some (.type "dict") by decide +kernel) rfl, trivial, rfl⟩
  · cases h
theorem ok_tys (ok : Ok g X W N sc k) (T : Txt g c P k fd) : ∀ {ts : List Ty} {es : List Expr}, tysB c sc ts es = true → (∀ t ∈ ts, tyIn g t) ∧ ∃ ta : TA, PA X es ta ∧ ∀ σ H Q, Q (ts.map (tyW g)) H → ta σ H Q
  | [], [], _ => ⟨fun _ h => (by cases h), tNil, pa_nil, fun σ H Q q => q⟩
  | [], _ :: _, h => by cases h
  | _ :: _, [], h => by cases h
  | t :: ts, e :: es, h => by
    have h := Bool.and_eq_true_iff.mp h
    obtain ⟨h1, h2, h3⟩ := ok_ty ok T h.1
    obtain ⟨h4, ta, h5, h6⟩ := ok_tys ok T h.2
    exact ⟨fun t' ht => (List.mem_cons.mp ht).elim (fun e => by rw [e]; exact h2) (h4 t'), _, pa_cons h1 h5 (star1 h3), fun σ H Q q => h6 σ H _ q⟩
theorem ok_isi (ok : Ok g X W N sc k) (T : Txt g c P k fd) {f : Expr → Bool} {ia : E} (ih : ∀ e, f e = true → SE g W X e (evE P ia)) {ts : List Ty} {e : Expr} (h : isiB c sc f ts e = true) : SE g W X e (evE P (.isi ia ts)) := by
  unfold isiB at h
  split at h
  · rename_i n p a x xp pos
    simp only [Bool.and_eq_true, decide_eq_true_eq] at h
    obtain ⟨rfl, h1, h2, h3, h4⟩ := h
    cases ts with
    | nil => cases h4
    | cons t ts =>
      cases ts with
      | cons _ _ => simp [tysB] at h4
      | nil =>
        simp only [tysB, Bool.and_true] at h4
        obtain ⟨q1, q2, q3⟩ := ok_ty ok T h4
        exact isi_read1 (ok.own T) (ok.gl h1) (ok.blt T (by decide +kernel)) (ih _ h2) q1 (star1 h3) (star1 q3) (star_any (by simp [notStar])) q2
  · rename_i n p a cs cn cp pos
    simp only [Bool.and_eq_true, decide_eq_true_eq] at h
    obtain ⟨rfl, h1, h2, h3, h4, h5⟩ := h
    obtain ⟨q1, ta, q2, q3⟩ := ok_tys ok T h4
    exact isi_readT (ok.own T) (ok.gl h1) (ok.blt T (by decide +kernel)) (ih _ h2) q2 q3 (star1 h3) (star1 rfl) (star_any (by simp [notStar])) q1 h5
  · cases h
/-- methods' defaults -/
theorem Ok.mdf (ok : Ok g X W N sc k) (T : Txt g c P k fd) {m : Str} {n : Nat} {ds : List DL.D} (h : c.mdf m n ds scEqs = true) : MDf g X P m ds := fun i j hi hj => by
  rw [T.methP] at hj
  obtain ⟨M, hs⟩ := T.meth i m j hi hj
  obtain ⟨f, ef⟩ := Option.isSome_iff_exists.mp hs
  unfold Ck.methOf at hj
  obtain ⟨p, ep, el⟩ := Option.bind_eq_some_iff.mp hj
  have h1 := List.all_eq_true.mp h p (List.mem_of_getElem? ep)
  rw [el] at h1
  dsimp only at h1
  rw [ef] at h1
  simp only [Bool.and_eq_true, decide_eq_true_eq] at h1
  have h6 := scEqs_eq h1.2.2
  obtain ⟨dsv, dvs, b1, b2, b3⟩ := T.bnd _ _ ef (f.dfs.length - ds.length) (Nat.sub_le _ _)
  rw [← h6] at b3
  have F := T.calls _ _ ef
  rw [← ok.P, ← ok.w, ← ok.K, ← ok.mg, ← ok.base] at F
  rw [← ok.K] at b1
  exact ⟨_, _, _, _, _, M, F, ok.room, b1, b2, b3⟩
theorem Ok.mdf1 (ok : Ok g X W N sc k) (T : Txt g c P k fd) {i j : Nat} {f : FnI} {ds : List DL.D} (hi : i < g.nC) (hj : c.methOf i "__init__" = some j) (ef : c.fns[j]? = some f) (h6 : ds = f.dfs.drop (f.dfs.length - ds.length)) : MDf1 g X P i ds := fun j' hj' => by
  rw [T.methP, hj] at hj'
  cases hj'
  have M := T.init i j hi hj
  obtain ⟨dsv, dvs, b1, b2, b3⟩ := T.bnd _ _ ef (f.dfs.length - ds.length) (Nat.sub_le _ _)
  rw [← h6] at b3
  have F := T.calls1 _ _ ef
  rw [← ok.P, ← ok.w, ← ok.K, ← ok.mg, ← ok.base] at F
  rw [← ok.K] at b1
  exact ⟨_, _, _, _, _, M, F, ok.room, b1, b2, b3⟩
/-- targets -/
theorem ok_pgs {blk : Bool} (hN : N.Nodup) (ok : Ok g X W N sc k) (hb : blk = false → ∀ x, X.fn x = true) : ∀ {is : List Nat} {es : List Expr}, is.length = es.length → ((is.zip es).all fun p => match p.2 with
    | .Name x _ => decide (N[p.1]? = some x) && locB blk sc x
    | _ => false) = true → PGs X es (gsNames is) ∧ (assignEach es X.env).length = is.length ∧ (assignEach es X.env).findIdx? (·.1) = none
  | [], [], _, _ => ⟨pgs_nil, rfl, rfl⟩
  | [], _ :: _, h, _ => by cases h
  | _ :: _, [], h, _ => by cases h
  | i :: is, e :: es, hl, h => by
    rw [List.zip_cons_cons, List.all_cons, Bool.and_eq_true] at h
    obtain ⟨h1, h2⟩ := h
    obtain ⟨q1, q2, q3⟩ := ok_pgs hN ok hb (by simpa using hl) h2
    dsimp only at h1
    split at h1
    · rename_i x p
      simp only [Bool.and_eq_true, decide_eq_true_eq] at h1
      unfold locB at h1
      simp only [Bool.or_eq_true, Bool.and_eq_true, decide_eq_true_eq] at h1
      obtain ⟨h3, h4⟩ := h1
      have hp : PG X (.Name x p) (gName i) := by
        refine pg_name (by rw [ok.N]; exact hN) (by rw [ok.N]; exact h3) ?_ ?_
        · rw [ok.sc]
          exact h4.imp id (·.2)
        · rw [ok.sc]
          exact h4.elim .inr fun z => .inl (hb (bool_true z.1) x)
      exact ⟨pgs_cons hp q1 rfl, congrArg Nat.succ q2, by show List.findIdx? _ ((false, _) :: _) = none; rw [List.findIdx?_cons]; simp [q3]⟩
    · cases h1
theorem ok_tg {blk : Bool} (ok : Ok g X W N sc k) (hb : blk = false → ∀ x, X.fn x = true) {tg : Tg} {e : Expr} (h : ckTg blk N sc tg e = true) : PG X e (gTg X.K tg) := by
  unfold ckTg at h
  split at h
  · rename_i i x p
    simp only [Bool.and_eq_true, decide_eq_true_eq] at h
    unfold locB at h
    simp only [Bool.or_eq_true, Bool.and_eq_true, decide_eq_true_eq] at h
    obtain ⟨h3, h4⟩ := h
    refine pg_name (by rw [ok.N]; exact ok.nd) (by rw [ok.N]; exact h3) ?_ ?_
    · rw [ok.sc]
      exact h4.imp id (·.2)
    · rw [ok.sc]
      exact h4.elim .inr fun z => .inl (hb (bool_true z.1) x)
  · rename_i is es n p
    simp only [Bool.and_eq_true, decide_eq_true_eq] at h
    obtain ⟨q1, q2, q3⟩ := ok_pgs ok.nd ok hb h.1 h.2
    exact pg_tup ok.calm q1 q2 q3
  · cases h
/-- within a block -/
theorem Ok.blk (ok : Ok g X W N sc k) (s : Shared) (H : Hp) (scope : Scope) (C : Addr) (cl : List (Str × Addr)) (fp : List Addr) : Ok g (X.blk s H scope (compEnvC scope cl C X.env) fp) WF N (relS scope sc) k :=
  ⟨ok.P, ok.w, ok.K, ok.mg, ok.base, ok.N, ok.nd, by rw [← ok.sc]; rfl, ok.calm, ok.room, fun u s' ⟨a, B, sI, pins, σ, H, cls, d, e, I, nb, up, sky, na, os, ag, w⟩ => w⟩
mutual
theorem okE (T : Txt g c P k fd) : ∀ (ir : E) {X : Cx} {W : WX} {N : List Str} {sc : Scope} (_ : Ok g X W N sc k) {e : Expr}, ckE c N sc ir e = true → SE g W X e (evE P ir)
  | .var i, X, W, N, sc, ok, e, h => by
    simp only [ckE] at h
    split at h
    · unfold nmB at h
      simp only [Bool.and_eq_true, decide_eq_true_eq, Bool.not_eq_true'] at h
      exact se_var (pe_var (by rw [ok.N]; exact h.1) (visB_vis ok.sc h.2.1) h.2.2.1 h.2.2.2)
    · cases h
  | .con d, X, W, N, sc, ok, e, h => by
    simp only [ckE] at h
    unfold ckC at h
    split at h
    · exact se_con pe_non fun _ => .non
    · cases of_decide_eq_true h
      exact se_con pe_bl fun _ => .bl _
    · cases of_decide_eq_true h
      exact se_con pe_int fun _ => .int _
    · cases of_decide_eq_true h
      exact se_con pe_str fun _ => .str _
    · cases h
  | .glo j, X, W, N, sc, ok, e, h => by
    simp only [ckE] at h
    split at h
    · split at h
      · rename_i p q
        simp only [Bool.and_eq_true, decide_eq_true_eq, Bool.not_eq_true'] at h
        obtain ⟨rfl, h2, h3⟩ := h
        obtain ⟨u, v, e1, e2, e3⟩ := T.glo _ _ q
        refine se_glo (pe_glob (ok.gl h2) (by rw [ok.mg]; exact e1) e2 h3) fun x hx => ?_
        rw [T.gloP, q] at hx
        cases hx
        exact e3
      · cases h
    · cases h
  | .bin op a b, X, W, N, sc, ok, e, h => by
    simp only [ckE] at h
    split at h
    · simp only [Bool.and_eq_true, decide_eq_true_eq] at h
      obtain ⟨rfl, h1, h2⟩ := h
      exact se_bin (ok.own T) (okE T a ok h1) (okE T b ok h2)
    · cases h
  | .binC a b, X, W, N, sc, ok, e, h => by
    simp only [ckE] at h
    split at h
    · simp only [Bool.and_eq_true, decide_eq_true_eq] at h
      obtain ⟨rfl, h1, h2⟩ := h
      exact se_binC (ok.own T) (okE T a ok h1) (okE T b ok h2)
    · cases h
  | .fmt a, X, W, N, sc, ok, e, h => by
    simp only [ckE] at h
    split at h
    · simp only [Bool.and_eq_true, decide_eq_true_eq] at h
      obtain ⟨rfl, h1⟩ := h
      exact se_fmt (okE T a ok h1)
    · cases h
  | .jn1 a, X, W, N, sc, ok, e, h => by
    simp only [ckE] at h
    split at h
    · exact se_jn1 (okE T a ok h)
    · cases h
  | .jn es, X, W, N, sc, ok, e, h => by
    simp only [ckE] at h
    split at h
    · exact se_jn (okJ T es ok h)
    · cases h
  | .rv cl a, X, W, N, sc, ok, e, h => by
    simp only [ckE] at h
    split at h
    · exact se_rv ok.K (okE T a ok h)
    · cases h
  | .never, X, W, N, sc, ok, e, h => se_never
  | .neg a, X, W, N, sc, ok, e, h => by
    simp only [ckE] at h
    split at h
    · simp only [Bool.and_eq_true, decide_eq_true_eq] at h
      obtain ⟨rfl, h1⟩ := h
      exact se_neg (ok.own T) (okE T a ok h1)
    · cases h
  | .cmp op a b, X, W, N, sc, ok, e, h => by
    simp only [ckE] at h
    split at h
    · simp only [Bool.and_eq_true, decide_eq_true_eq, Bool.not_eq_true'] at h
      obtain ⟨rfl, h1, h2, h3⟩ := h
      exact se_cmp (ok.own T) ok.w ok.un (okE T a ok h1) (okE T b ok h2) h3
    · cases h
  | .chain o1 o2 x y z, X, W, N, sc, ok, e, h => by
    simp only [ckE] at h
    split at h
    · simp only [Bool.and_eq_true, decide_eq_true_eq, Bool.not_eq_true'] at h
      obtain ⟨rfl, rfl, h1, h2, h3, h4⟩ := h
      exact se_chain (ok.own T) ok.w ok.un (okE T x ok h1) (okE T y ok h2) (okE T z ok h3) h4
    · cases h
  | .bop cj es, X, W, N, sc, ok, e, h => by
    simp only [ckE] at h
    split at h
    · rename_i o vs p
      simp only [Bool.and_eq_true, decide_eq_true_eq, Bool.not_eq_true'] at h
      obtain ⟨rfl, h1, h2⟩ := h
      exact okB T es ok h1 (by intro z; rw [z] at h2; cases h2)
    · cases h
  | .not a, X, W, N, sc, ok, e, h => by
    simp only [ckE] at h
    split at h
    · simp only [Bool.and_eq_true, decide_eq_true_eq] at h
      obtain ⟨rfl, h1⟩ := h
      exact se_not (okE T a ok h1)
    · cases h
  | .ife t a b, X, W, N, sc, ok, e, h => by
    simp only [ckE] at h
    split at h
    · simp only [Bool.and_eq_true] at h
      exact se_ife (okT T t ok h.1) (okE T a ok h.2.1) (okE T b ok h.2.2)
    · cases h
  | .tup es, X, W, N, sc, ok, e, h => by
    simp only [ckE] at h
    split at h
    · exact se_tup (okEs T es ok h)
    · cases h
  | .lst cl es, X, W, N, sc, ok, e, h => by
    simp only [ckE] at h
    split at h
    · exact se_lst (okEs T es ok h)
    · cases h
  | .dic cl es, X, W, N, sc, ok, e, h => by
    simp only [ckE] at h
    split at h
    · simp only [Bool.and_eq_true, decide_eq_true_eq, Bool.not_eq_true'] at h
      obtain ⟨h1, h2, h3, h4⟩ := h
      obtain ⟨q1, q2⟩ := okPs T es ok h1
      exact se_dic q1 q2 h2 (by intro z; rw [z] at h3; cases h3) h4
    · cases h
  | .idx a i, X, W, N, sc, ok, e, h => by
    simp only [ckE] at h
    split at h
    · simp only [Bool.and_eq_true] at h
      exact se_idx ok.K ok.w ok.un (okE T a ok h.1) (okE T i ok h.2.1) (ix_plain h.2.2)
    · cases h
  | .sl cl a lo hi, X, W, N, sc, ok, e, h => by
    simp only [ckE] at h
    split at h
    · simp only [Bool.and_eq_true] at h
      exact se_sl ok.K (okE T a ok h.1) (okO T lo ok h.2.1) (okO T hi ok h.2.2)
    · cases h
  | .fld a f, X, W, N, sc, ok, e, h => by
    simp only [ckE] at h
    split at h
    · simp only [Bool.and_eq_true, decide_eq_true_eq] at h
      obtain ⟨rfl, h1, h2⟩ := h
      exact se_fld (ok.own T) (okE T a ok h1) (super_plain h2)
    · cases h
  | .call j es ds, X, W, N, sc, ok, e, h => by
    simp only [ckE] at h
    split at h
    · rename_i x p xs pos
      split at h
      · rename_i f q
        simp only [Bool.and_eq_true, decide_eq_true_eq, Bool.not_eq_true'] at h
        obtain ⟨⟨rfl, h0⟩, h1, h2, h3, h4, h5, h6⟩ := h
        have h6 := scEqs_eq h6
        obtain ⟨dsv, dvs, b1, b2, b3⟩ := T.bnd _ _ q (f.dfs.length - ds.length) (Nat.sub_le _ _)
        rw [← h6] at b3
        have F := T.calls _ _ q
        obtain ⟨m1, m2⟩ := T.mgf _ _ q h0
        rw [← ok.P, ← ok.w, ← ok.K, ← ok.mg, ← ok.base] at F
        rw [← ok.mg] at m1
        rw [← ok.K] at m2 b1
        cases xs with
        | nil =>
          cases es with
          | nil => exact se_call0 F ok.room (ok.gl h1) m1 m2 b1 b2 b3 ok.takes h2
          | cons _ _ => simp [ckEs] at h3
        | cons x xs =>
          have hst := ckEs_star h3
          rw [List.all_cons, Bool.and_eq_true] at hst
          exact se_call F ok.room (ok.gl h1) m1 m2 b1 b2 b3 ok.takes (okEs T es ok h3) h2 (star1 hst.1) (star_any hst.2)
      · cases h
    · cases h
  | .mk i es ds, X, W, N, sc, ok, e, h => by
    simp only [ckE] at h
    split at h
    · rename_i x p xs pos
      split at h
      · rename_i cp q
        split at h
        · rename_i j ej
          split at h
          · rename_i f ef
            simp only [Bool.and_eq_true, decide_eq_true_eq, Bool.not_eq_true'] at h
            obtain ⟨rfl, h1, h2, h3, h4, h5, h6⟩ := h
            have hi : i < g.nC := by rw [T.nC]; exact (List.getElem?_eq_some_iff.mp q).1
            have hj : c.methOf i "__init__" = some j := by unfold Ck.methOf; rw [q]; exact ej
            have hD := ok.mdf1 T hi hj ef (scEqs_eq h6)
            have hjs : (P.methOf i "__init__").isSome = true := by rw [T.methP, hj]; rfl
            have hm : X.mg cp.1 = some (.ref (g.cA i)) := by rw [ok.mg]; exact T.mgc _ _ q
            cases xs with
            | nil =>
              cases es with
              | nil => exact se_mk0 ok.takes ok.K hi hD hjs (ok.gl h1) hm h2
              | cons _ _ => simp [ckEs] at h3
            | cons x xs =>
              have hst := ckEs_star h3
              rw [List.all_cons, Bool.and_eq_true] at hst
              exact se_mk ok.takes ok.K hi hD hjs (ok.gl h1) hm (okEs T es ok h3) h2 (star1 hst.1) (star_any hst.2)
          · cases h
        · cases h
      · cases h
    · cases h
  | .meth m o es ds, X, W, N, sc, ok, e, h => by
    simp only [ckE] at h
    split at h
    · rename_i x n ap xs pos
      simp only [Bool.and_eq_true, decide_eq_true_eq] at h
      obtain ⟨rfl, h1, h2, h3, h4, h5, h6⟩ := h
      have hst := ckEs_star h3
      obtain ⟨pl, ht⟩ := meth_tree (m := n) (apos := ap) (pos := pos) (es := xs) (env := X.env) h2 hst h5 h6
      refine se_meth (ok.own T) ok.takes (ok.mdf T h4) (okE T o ok h1) (okEs T es ok h3) (fun z => ?_) ?_ ht
      · subst z
        cases es with
        | nil => rfl
        | cons _ _ => simp [ckEs] at h3
      · cases xs with
        | nil => exact .inl rfl
        | cons y ys =>
          rw [List.all_cons, Bool.and_eq_true] at hst
          exact .inr ⟨y, ys, rfl, star1 hst.1, star_any hst.2⟩
    · cases h
  | .blt cl b es, X, W, N, sc, ok, e, h => by
    simp only [ckE] at h
    split at h
    · rename_i x p xs pos
      simp only [Bool.and_eq_true, decide_eq_true_eq, Bool.not_eq_true'] at h
      obtain ⟨rfl, h1, h2, h3⟩ := h
      cases xs with
      | nil => cases h3
      | cons x xs =>
        have hst := ckEs_star h2
        rw [List.all_cons, Bool.and_eq_true] at hst
        exact se_blt (ok.own T) ok.K ok.calm (ok.gl h1) (ok.blt T (by cases b <;> decide +kernel)) (okEs T es ok h2) (star1 hst.1) (star_any hst.2)
    · cases h
  | .isi a ts, X, W, N, sc, ok, e, h => by
    simp only [ckE] at h
    exact ok_isi ok T (fun e h => okE T a ok h) h
  | .lm m o es, X, W, N, sc, ok, e, h => by
    simp only [ckE] at h
    split at h
    · split at h
      · rename_i x n ap xs pos
        simp only [Bool.and_eq_true, decide_eq_true_eq] at h
        obtain ⟨rfl, h1, h2, h3, h4, h5⟩ := h
        cases xs with
        | nil => cases h4
        | cons y ys =>
          have hst := ckEs_star h3
          have hst2 := hst
          rw [List.all_cons, Bool.and_eq_true] at hst
          refine se_append ok.K (okE T o ok h1) (okEs T es ok h3) (base_plain h2) ?_ h5 (star1 hst.1) (star_any hst.2)
          rw [star_all hst2]
          have : (y :: ys).length = 1 := h4
          rw [this]
          rfl
      · cases h
    · cases h
  | .lrng cl a .none, X, W, N, sc, ok, e, h => by
    simp only [ckE] at h
    split at h
    · simp only [Bool.and_eq_true, decide_eq_true_eq] at h
      obtain ⟨rfl, rfl, h1, h2, h3, h4⟩ := h
      exact se_lrng1 ok.calm (ok.gl h1) (ok.blt T (by decide +kernel)) (ok.gl h2) (ok.blt T (by decide +kernel)) (okE T a ok h3) (star1 h4) (star1 rfl)
    · cases h
  | .lrng cl a (.some b), X, W, N, sc, ok, e, h => by
    simp only [ckE] at h
    split at h
    · simp only [Bool.and_eq_true, decide_eq_true_eq] at h
      obtain ⟨rfl, rfl, h1, h2, h3, h4, h5, h6⟩ := h
      exact se_lrng2 ok.calm (ok.gl h1) (ok.blt T (by decide +kernel)) (ok.gl h2) (ok.blt T (by decide +kernel)) (okE T a ok h3) (okE T b ok h4) (star1 h5) (star1 h6) (star_any (by simp [h6])) (star1 rfl)
    · cases h
  | .lc cl tg it ifs elt own, X, W, N, sc, ok, e, h => by
    simp only [ckE] at h
    split at h
    · rename_i x t i fs scope pos
      simp only [Bool.and_eq_true, decide_eq_true_eq] at h
      obtain ⟨h1, h2, h3, h4, h5, h6, h7, h8⟩ := h
      have hi := okIt T it ok h1
      refine PE_imp (pe_lc (X := X) (g := gTg X.K tg) ok.calm (by rw [ok.N]; exact ok.nd) hi (blkOk_by (by rw [ok.N, ok.sc]; exact h2)) (fun s H C cl fp => ok_tg (ok.blk s H scope C cl fp) (fun z => by cases z) h4)
        (fun s H C cl fp => okA T ifs (ok.blk s H scope C cl fp) h6) (fun s H C cl fp => okE T elt (ok.blk s H scope C cl fp) h7) (set_plain h8)) fun σ H Q q => ?_
      rw [h3]
      exact lc_run ok.K h5 (fun _ _ _ z => z) (fun _ _ _ z => z) (fun _ _ _ z => z) q
    · cases h
  | .frz a, X, W, N, sc, ok, e, h => by
    simp only [ckE] at h
    exact se_frz (okE T a ok h)
theorem okO (T : Txt g c P k fd) : ∀ (ir : Eo) {X : Cx} {W : WX} {N : List Str} {sc : Scope} (_ : Ok g X W N sc k) {e : Option Expr}, ckO c N sc ir e = true → SO g W X e (evO P ir)
  | .none, X, W, N, sc, ok, e, h => by
    simp only [ckO, Option.isNone_iff_eq_none] at h
    rw [h]
    exact so_none
  | .some a, X, W, N, sc, ok, e, h => by
    simp only [ckO] at h
    split at h
    · exact so_some (okE T a ok h)
    · cases h
theorem okPs (T : Txt g c P k fd) : ∀ (ir : Es) {X : Cx} {W : WX} {N : List Str} {sc : Scope} (_ : Ok g X W N sc k) {ks : List (Option Expr)} {vs : List Expr}, ckPs c N sc ir ks vs = true → PsOk g W X P ir ks vs ∧ ks.all (·.isSome) = true
  | .nil, X, W, N, sc, ok, ks, vs, h => by
    simp only [ckPs, Bool.and_eq_true, List.isEmpty_iff] at h
    rw [h.1, h.2]
    exact ⟨.nil, rfl⟩
  | .cons _ .nil, X, W, N, sc, ok, ks, vs, h => by simp [ckPs] at h
  | .cons a (.cons b r), X, W, N, sc, ok, ks, vs, h => by
    simp only [ckPs] at h
    split at h
    · simp only [Bool.and_eq_true] at h
      obtain ⟨q1, q2⟩ := okPs T r ok h.2.2
      exact ⟨.cons (okE T a ok h.1) (okE T b ok h.2.1) q1, by rw [List.all_cons, q2]; rfl⟩
    · cases h
theorem okEs (T : Txt g c P k fd) : ∀ (ir : Es) {X : Cx} {W : WX} {N : List Str} {sc : Scope} (_ : Ok g X W N sc k) {e : List Expr}, ckEs c N sc ir e = true → SA g W X e (evEs P ir)
  | .nil, X, W, N, sc, ok, es, h => by
    simp only [ckEs, List.isEmpty_iff] at h
    rw [h]
    exact sa_nil
  | .cons a r, X, W, N, sc, ok, es, h => by
    simp only [ckEs] at h
    split at h
    · simp only [Bool.and_eq_true] at h
      exact sa_cons (okE T a ok h.1) (okEs T r ok h.2.2) (star1 h.2.1)
    · cases h
theorem okJ (T : Txt g c P k fd) : ∀ (ir : Es) {X : Cx} {W : WX} {N : List Str} {sc : Scope} (_ : Ok g X W N sc k) {e : List Expr}, ckEs c N sc ir e = true → JP g W X P e ir
  | .nil, X, W, N, sc, ok, es, h => by
    simp only [ckEs, List.isEmpty_iff] at h
    rw [h]
    exact .nil
  | .cons a r, X, W, N, sc, ok, es, h => by
    simp only [ckEs] at h
    split at h
    · simp only [Bool.and_eq_true] at h
      exact .cons (okE T a ok h.1) (okJ T r ok h.2.2)
    · cases h
theorem okB (T : Txt g c P k fd) : ∀ (ir : Es) {X : Cx} {W : WX} {N : List Str} {sc : Scope} (_ : Ok g X W N sc k) {cj : Bool} {pos : Pos} {vs : List Expr}, ckEs c N sc ir vs = true → vs ≠ [] → SE g W X (.BoolOp (boOf cj) vs pos) (evE P (.bop cj ir))
  | .nil, X, W, N, sc, ok, cj, pos, vs, h, hn => by
    simp only [ckEs, List.isEmpty_iff] at h
    exact absurd h hn
  | .cons a r, X, W, N, sc, ok, cj, pos, vs, h, hn => by
    simp only [ckEs] at h
    split at h
    · rename_i e es
      simp only [Bool.and_eq_true] at h
      cases r with
      | nil =>
        simp only [ckEs, List.isEmpty_iff] at h
        rw [h.2.2]
        exact se_bop1 (okE T a ok h.1)
      | cons b r =>
        cases es with
        | nil => simp [ckEs] at h
        | cons e2 es => exact se_bop (okE T a ok h.1) (okB T (.cons b r) ok h.2.2 (by simp))
    · cases h
theorem okT (T : Txt g c P k fd) : ∀ (ir : DL.T) {X : Cx} {W : WX} {N : List Str} {sc : Scope} (_ : Ok g X W N sc k) {e : Expr}, ckT c N sc ir e = true → ST g W X e (evT P ir)
  | .bop cj ts, X, W, N, sc, ok, e, h => by
    simp only [ckT] at h
    split at h
    · rename_i o vs p
      simp only [Bool.and_eq_true, decide_eq_true_eq, Bool.not_eq_true'] at h
      obtain ⟨rfl, h1, h2⟩ := h
      exact (okTs T ts ok h1 (by intro z; rw [z] at h2; cases h2)).pt
    · cases h
  | .not t, X, W, N, sc, ok, e, h => by
    simp only [ckT] at h
    split at h
    · simp only [Bool.and_eq_true, decide_eq_true_eq] at h
      obtain ⟨rfl, h1⟩ := h
      exact st_not (okT T t ok h1)
    · cases h
  | .cmp op a b, X, W, N, sc, ok, e, h => by
    simp only [ckT] at h
    split at h
    · simp only [Bool.and_eq_true, decide_eq_true_eq, Bool.not_eq_true'] at h
      obtain ⟨rfl, h1, h2, h3⟩ := h
      exact st_cmp (ok.own T) ok.w ok.un (okE T a ok h1) (okE T b ok h2) h3
    · cases h
  | .chain o1 o2 x y z, X, W, N, sc, ok, e, h => by
    simp only [ckT] at h
    split at h
    · simp only [Bool.and_eq_true, decide_eq_true_eq, Bool.not_eq_true'] at h
      obtain ⟨rfl, rfl, h1, h2, h3, h4⟩ := h
      exact st_chain (ok.own T) ok.w ok.un (okE T x ok h1) (okE T y ok h2) (okE T z ok h3) h4
    · cases h
  | .isi a ts, X, W, N, sc, ok, e, h => by
    simp only [ckT] at h
    have hp : plainT e = true := by
      unfold isiB at h
      split at h <;> first | rfl | cases h
    exact st_isi ok.K (ok_isi ok T (fun e h => okE T a ok h) h) (true_plain hp)
  | .val a, X, W, N, sc, ok, e, h => by
    simp only [ckT, Bool.and_eq_true] at h
    exact st_val ok.K (okE T a ok h.1) (true_plain h.2)
theorem okTs (T : Txt g c P k fd) : ∀ (ir : Ts) {X : Cx} {W : WX} {N : List Str} {sc : Scope} (_ : Ok g X W N sc k) {cj : Bool} {pos : Pos} {vs : List Expr}, ckTs c N sc ir vs = true → vs ≠ [] → SW g W X (.BoolOp (boOf cj) vs pos) (evT P (.bop cj ir))
  | .nil, X, W, N, sc, ok, cj, pos, vs, h, hn => by
    simp only [ckTs, List.isEmpty_iff] at h
    exact absurd h hn
  | .cons a r, X, W, N, sc, ok, cj, pos, vs, h, hn => by
    simp only [ckTs] at h
    split at h
    · rename_i e es
      simp only [Bool.and_eq_true] at h
      cases r with
      | nil =>
        simp only [ckTs, List.isEmpty_iff] at h
        rw [h.2]
        exact sw_bop1 (okT T a ok h.1)
      | cons b r =>
        cases es with
        | nil => simp [ckTs] at h
        | cons e2 es => exact sw_bop (okT T a ok h.1) (okTs T (.cons b r) ok h.2 (by simp))
    · cases h
theorem okA (T : Txt g c P k fd) : ∀ (ir : To) {X : Cx} {W : WX} {N : List Str} {sc : Scope} (_ : Ok g X W N sc k) {fs : List Expr}, ckA c N sc ir fs = true → PTs X fs (run g W rB (evA P ir))
  | .none, X, W, N, sc, ok, fs, h => by
    simp only [ckA, List.isEmpty_iff] at h
    rw [h]
    refine ⟨fun pins s σ H Q I q => pts_nil.run pins s σ H Q I ?_⟩
    obtain ⟨H0, ρ, μ, ι, r, q⟩ := q
    simp only [evA] at q
    exact q.now r rfl
  | .some t, X, W, N, sc, ok, fs, h => by
    simp only [ckA] at h
    split at h
    · refine ⟨fun pins s σ H Q I q => (pts_one (okT T t ok h)).run pins s σ H Q I ?_⟩
      obtain ⟨H0, ρ, μ, ι, r, q⟩ := q
      simp only [evA] at q
      exact ⟨H0, ρ, μ, ι, r, q⟩
    · cases h
theorem okIt (T : Txt g c P k fd) : ∀ (ir : It) {X : Cx} {W : WX} {N : List Str} {sc : Scope} (_ : Ok g X W N sc k) {t e : Expr}, ckIt c N sc t ir e = true → SI g W X t e (evIt P ir)
  | .seq a, X, W, N, sc, ok, t, e, h => by
    simp only [ckIt] at h
    exact si_seq ok.K (okE T a ok h)
  | .rng1 a, X, W, N, sc, ok, t, e, h => by
    simp only [ckIt] at h
    split at h
    · simp only [Bool.and_eq_true, decide_eq_true_eq] at h
      obtain ⟨rfl, h1, h2, h3⟩ := h
      exact si_rng1 (ok.gl h1) (ok.blt T (by decide +kernel)) (okE T a ok h2) (star1 h3)
    · cases h
  | .rng2 a b, X, W, N, sc, ok, t, e, h => by
    simp only [ckIt] at h
    split at h
    · simp only [Bool.and_eq_true, decide_eq_true_eq] at h
      obtain ⟨rfl, h1, h2, h3, h4, h5⟩ := h
      exact si_rng2 (ok.gl h1) (ok.blt T (by decide +kernel)) (okE T a ok h2) (okE T b ok h3) (by rw [star1 h4, star1 h5]; rfl) (star1 h5)
    · cases h
  | .enum a, X, W, N, sc, ok, t, e, h => by
    simp only [ckIt] at h
    split at h
    · simp only [Bool.and_eq_true, decide_eq_true_eq] at h
      obtain ⟨rfl, h1, h2, h3, h4⟩ := h
      cases t <;> first | cases h4 | skip
      exact si_enum ok.K (ok.gl h1) (ok.blt T (by decide +kernel)) (okE T a ok h2) (star1 h3)
    · cases h
  | .zip a b, X, W, N, sc, ok, t, e, h => by
    simp only [ckIt] at h
    split at h
    · simp only [Bool.and_eq_true, decide_eq_true_eq] at h
      obtain ⟨rfl, h1, h2, h3, h4, h5, h6⟩ := h
      cases t <;> first | cases h6 | skip
      exact si_zip ok.K (ok.gl h1) (ok.blt T (by decide +kernel)) (okE T a ok h2) (okE T b ok h3) (star1 h4) (star1 h5)
    · cases h
  | .rev _, X, W, N, sc, ok, t, e, h => by simp [ckIt] at h
end
end
end DL
/-! DL13: the look at statements, at defs. -/
namespace DL
open PySem PySem.Spec PyProof.Rows L2
def notComp : Expr → Bool
  | .ListComp .. => false
  | .SetComp .. => false
  | .DictComp .. => false
  | _ => true
def swB (sc : Scope) (x : Str) (p : Pos) : Expr → Bool
  | .ListComp _ _ s pos => decide (sc.names.lookup x = some .local) && ((p.line == pos.line) && !(s.names.any fun (n, k) => n == x && (k == .local || k == .cell)))
  | _ => false
def noSwap : List Expr → Expr → Bool
  | ts, .Tuple vs _ _ => decide (3 < ts.length) || vs.all (foldedForSure 8)
  | _, _ => true
def isFrz : S → Bool
  | .frz _ => true
  | _ => false
mutual
def ckS (c : Ck) (N : List Str) (sc : Scope) : S → Stmt → Bool
  | .set i a, st => (match st with | .Assign [.Name x p] v _ => ckTg false N sc (.nm i) (.Name x p) && (ckE c N sc a v && (notComp v || (match a with
      | .lc _ _ _ _ _ _ => (match v with | .ListComp _ _ _ _ => true | _ => false)
      | _ => (match v with | .ListComp _ _ _ _ => !swB sc x p v | _ => false)))) | _ => false)
  | .unp is a, st => (match st with | .Assign [.Tuple es k tp] v _ => ckTg false N sc (.tp is) (.Tuple es k tp) && (ckE c N sc a v && noSwap es v) | _ => false)
  | .par i j a b, st => (match st with
    | .Assign [.Tuple [.Name x px, .Name y py] _ _] (.Tuple [u, v] _ _) _ => decide (N[i]? = some x) && (decide (N[j]? = some y) && (decide (i ≠ j) && (decide (sc.names.lookup x = some .local) && (decide (sc.names.lookup y = some .local) && (decide (x ≠ y) &&
        (decide (px.line = py.line) && (ckE c N sc a u && (ckE c N sc b v && (notStar u && (notStar v && (!([u, v].all (foldedForSure 8)) && !([u, v].all (constantsAlone 8)))))))))))))
    | _ => false)
  | .setI o i a, st => (match st with | .Assign [.Subscript ox ix _] v _ => ckE c N sc o ox && (ckE c N sc i ix && (ckE c N sc a v && notSlice ix)) | _ => false)
  | .setF o f a, st => (match st with | .Assign [.Attribute ox n _] v _ => decide (n = f) && (ckE c N sc o ox && (ckE c N sc a v && notComp v)) | _ => false)
  | .augN i sub a, st => (match st with | .AugAssign (.Name x p) op v _ => ckTg false N sc (.nm i) (.Name x p) && (decide (op = if sub then .Sub else .Add) && ckE c N sc a v) | _ => false)
  | .ex a, st => (match st with | .Expr v _ => ckE c N sc a v && notComp v | _ => false)
  | .ite t a b, st => (match st with | .If e x y _ => ckT c N sc t e && (ckSs c N sc a x && ckSs c N sc b y) | _ => false)
  | .for_ tg it b, st => (match st with | .For t i x [] _ => ckIt c N sc t it i && (ckTg false N sc tg t && (ckSs c N sc b x && notSet i)) | _ => false)
  | .whl t b, st => (match st with | .While e x [] _ => ckT c N sc t e && ckSs c N sc b x | _ => false)
  | .ret a, st => (match st with | .Return (some v) _ => ckE c N sc a v | _ => false)
  | .retN, st => (match st with | .Return none _ => true | _ => false)
  | .pass, st => (match st with | .Pass _ => true | .Expr (.Constant (.str _) _ _) _ => true | _ => false)
  | .brk, st => (match st with | .Break _ => true | _ => false)
  | .cnt, st => (match st with | .Continue _ => true | _ => false)
  | .frz _, _ => false
  | .never, _ => true
def ckSs (c : Ck) (N : List Str) (sc : Scope) : Ss → List Stmt → Bool
  | .nil, sts => sts.isEmpty
  | .cons s r, sts => if isFrz s then ckSs c N sc r sts else (match sts with | st :: sts => ckS c N sc s st && ckSs c N sc r sts | [] => false)
end
/-- a def's context -/
structure OkS (g : G) (X : Cx) (W : WX) (Nm : List Str) (sc : Scope) (k : Nat) : Prop where
  ok : Ok g X W Nm sc k
  pass : PassesOwn (model X.prog X.w) X.A X.env X.xe
  fn : ∀ x, X.fn x = true
  kind : sc.kind = .function
section
theorem sole_tup {es : List Expr} {n : Nat} {tp : Pos} {e : Expr} {l : Nat} {env : PySem.Env} : swapsWithSole [.Tuple es n tp] e l env = pure false := by
  cases e <;> rfl
theorem sole_sub {o i : Expr} {tp : Pos} {e : Expr} {l : Nat} {env : PySem.Env} : swapsWithSole [.Subscript o i tp] e l env = pure false := by
  cases e <;> rfl
theorem stores_sub {o i : Expr} {tp : Pos} {e : Expr} {env : PySem.Env} : swappedStores [.Subscript o i tp] e env = pure none := by
  cases e <;> rfl
theorem stores_tup {es : List Expr} {n : Nat} {tp : Pos} {e : Expr} {env : PySem.Env} (h : noSwap es e = true) : swappedStores [.Tuple es n tp] e env = pure none := by
  cases e with
  | Tuple vs k p =>
    unfold noSwap at h
    rw [Bool.or_eq_true, decide_eq_true_eq] at h
    unfold swappedStores
    dsimp only
    split
    · rfl
    · rename_i h1
      rcases h with h | h
      · exfalso
        apply h1
        have e2 : (es.length == 2) = false := by simp; omega
        have e3 : (es.length == 3) = false := by simp; omega
        rw [e2, e3]
        rfl
      · split
        · rfl
        · split
          · rfl
          · first
            | rfl
            | (rw [if_pos h]; rfl)
  | _ => rfl
theorem sw_false {elt : Expr} {gs : List Comprehension} {scope sc : Scope} {pos py : Pos} {y : Str} {l : Nat} {env : PySem.Env} (hs : env.scope = sc) (h : swB sc y py (.ListComp elt gs scope pos) = false) : swapsWith (.ListComp elt gs scope pos) (some (.Name y py)) l env = pure false := by
  unfold swB at h
  unfold swapsWith
  dsimp only
  have ky : env.kindOf y = sc.names.lookup y := by unfold Env.kindOf; rw [hs]
  rw [ky]
  congr 1
  rw [Bool.and_eq_false_iff] at h
  rcases h with h | h
  · have h := of_decide_eq_false h
    have : (List.lookup y sc.names == some NameKind.local) = false := by simpa using h
    simp only [Expr.pos, this, Bool.and_false, Bool.false_and]
  · simp only [Expr.pos]
    rw [Bool.and_eq_false_iff] at h
    rcases h with h | h
    · rw [h]; simp
    · rw [h]; simp
theorem stores_par {x y : Str} {u v : Expr} {px py pt pt2 : Pos} {kt k2 : Nat} {sc : Scope} {env : PySem.Env} (hs : env.scope = sc) (hk : sc.kind = .function) (hx : sc.names.lookup x = some .local) (hy : sc.names.lookup y = some .local) (hne : x ≠ y) (hl : px.line = py.line)
    (su : notStar u = true) (sv : notStar v = true) (hf : [u, v].all (foldedForSure 8) = false) (hc : [u, v].all (constantsAlone 8) = false) : swappedStores [.Tuple [.Name x px, .Name y py] kt pt] (.Tuple [u, v] k2 pt2) env = pure (some [x, y]) := by
  have kx : env.kindOf x = some .local := by unfold Env.kindOf; rw [hs]; exact hx
  have ky : env.kindOf y = some .local := by unfold Env.kindOf; rw [hs]; exact hy
  have kb : env.blockKind = .function := by unfold Env.blockKind; rw [hs, hk]; rfl
  unfold swappedStores
  dsimp only
  rw [kb, hf, hc]
  simp only [List.length_cons, List.length_nil]
  rw [if_neg (by decide)]
  split
  · rename_i hz
    exfalso
    simp only [List.any_cons, List.any_nil, Bool.or_false, Bool.or_eq_true] at hz
    rcases hz with hz | hz
    · cases u <;> first | (cases hz; done) | (cases su; done)
    · cases v <;> first | (cases hz; done) | (cases sv; done)
  simp only [List.head?_cons, Option.map_some, Option.getD_some, Expr.pos, List.filterMap_cons, kx, ky, ← hl, List.filterMap_nil]
  have e2 : ([x, y].eraseDups.length) = 2 := by
    have hyx : (y == x) = false := by simpa using fun e : y = x => hne e.symm
    simp [List.eraseDups_cons, hyx]
  simp [e2]
end
section
variable {g : G} {X : Cx} {W : WX} {P : Par} {pos : Pos} {c : Ck} {k : Nat} {fd : Nat → FuncData} {N : List Str} {sc : Scope}
theorem OkS.tg (ok : OkS g X W N sc k) {tg : Tg} {e : Expr} (h : ckTg false N sc tg e = true) : PG X e (gTg X.K tg) := ok_tg ok.ok (fun _ => ok.fn) h
theorem nm_read {blk : Bool} {i : Nat} {x : Str} {p : Pos} (h : ckTg blk N sc (.nm i) (.Name x p) = true) : N[i]? = some x ∧ (sc.names.lookup x = some .local ∨ sc.names.lookup x = some .cell) := by
  unfold ckTg at h
  simp only [Bool.and_eq_true, decide_eq_true_eq] at h
  unfold locB at h
  simp only [Bool.or_eq_true, Bool.and_eq_true, decide_eq_true_eq] at h
  exact ⟨h.1, h.2.imp id (·.2)⟩
theorem swap_comp {e : Expr} {t : Option Expr} {l : Nat} {env : PySem.Env} (h : notComp e = true) : swapsWith e t l env = pure false := by
  cases e <;> first | rfl | cases h
theorem ok_set (T : Txt g c P k fd) (ok : OkS g X W N sc k) {i : Nat} {a : E} {x : Str} {p : Pos} {v : Expr} (h1 : ckTg false N sc (.nm i) (.Name x p) = true) (h2 : ckE c N sc a v = true) (hs : swapsWith v (some (.Name x p)) pos.line X.env = pure false) : SS g W X (.Assign [.Name x p] v pos) (evS P (.set i a)) := by
  obtain ⟨q1, q2⟩ := nm_read h1
  exact ss_set (t := tNext) (fun te he => ps_set (by rw [ok.ok.N]; exact ok.ok.nd) (by rw [ok.ok.N]; exact q1) (by rw [ok.ok.sc]; exact q2) he hs (.inl (ok.fn x))) (okE T a ok.ok h2)
mutual
theorem okS (T : Txt g c P k fd) : ∀ (ir : S) {X : Cx} {W : WX} {N : List Str} {sc : Scope} (_ : OkS g X W N sc k) {st : Stmt}, ckS c N sc ir st = true → SS g W X st (evS P ir)
  | .set i a, X, W, N, sc, ok, st, h => by
    simp only [ckS] at h
    split at h
    · rename_i x p v pos
      simp only [Bool.and_eq_true] at h
      obtain ⟨h1, h2, h3⟩ := h
      rw [Bool.or_eq_true] at h3
      rcases h3 with h3 | h3
      · exact ok_set T ok h1 h2 (swap_comp h3)
      · split at h3
        · rename_i cl tg it ifs elt own
          split at h3
          · rename_i ex gs scope lpos
            cases hb : swB sc x p (.ListComp ex gs scope lpos) with
            | false => exact ok_set T ok h1 h2 (sw_false ok.ok.sc hb)
            | true =>
              obtain ⟨q1, _⟩ := nm_read h1
              unfold swB at hb
              simp only [Bool.and_eq_true, decide_eq_true_eq, Bool.not_eq_true'] at hb
              obtain ⟨b1, b2, b3⟩ := hb
              have ok' := ok.ok
              have h := h2
              simp only [ckE] at h
              split at h
              · rename_i x2 t2 i2 fs scope2 pos2 heq
                cases heq
                simp only [Bool.and_eq_true, decide_eq_true_eq] at h
                obtain ⟨h1, h2, h3, h4, h5, h6, h7, h8⟩ := h
                have hi := okIt (W := W) T it ok' h1
                refine PS_imp (ps_setLc (X := X) (g := gTg X.K tg) ok'.calm (by rw [ok'.N]; exact ok'.nd) (by rw [ok'.N]; exact q1) (by rw [ok'.sc]; exact b1) (sw_true (by rw [ok'.sc]; exact ok.kind) (by rw [ok'.sc]; exact b1) b2 b3) hi (blkOk_by (by rw [ok'.N, ok'.sc]; exact h2))
                  (fun s H C cl fp => ok_tg (ok'.blk s H scope C cl fp) (fun z => by cases z) h4) (fun s H C cl fp => okA T ifs (ok'.blk s H scope C cl fp) h6) (fun s H C cl fp => okE T elt (ok'.blk s H scope C cl fp) h7) (set_plain h8)) fun D σ H q => ?_
                rw [h3]
                obtain ⟨H0, ρ, μ, ι, r, q⟩ := q
                simp only [evS] at q
                refine lc_run (P := P) (W := W) (tg := tg) (it := it) (ifs := ifs) (elt := elt) (cell := cl) ok'.K h5 (fun _ _ _ z => z) (fun _ _ _ z => z) (fun _ _ _ z => z) (run_st r q fun v z μ1 A1 H1 ι1 s1 r1 d1 h => ?_)
                exact h.nx (r1.setSlot d1)
              · cases h
          · cases h3
        · split at h3
          · exact ok_set T ok h1 h2 (sw_false ok.ok.sc (bool_true h3))
          · cases h3
    · cases h
  | .unp is a, X, W, N, sc, ok, st, h => by
    simp only [ckS] at h
    split at h
    · simp only [Bool.and_eq_true] at h
      exact ss_unp ok.ok.K (okE T a ok.ok h.2.1) (ok.tg h.1) sole_tup (stores_tup h.2.2)
    · cases h
  | .par i j a b, X, W, N, sc, ok, st, h => by
    simp only [ckS] at h
    split at h
    · simp only [Bool.and_eq_true, decide_eq_true_eq, Bool.not_eq_true'] at h
      obtain ⟨h1, h2, h3, h4, h5, h6, h7, h8, h9, h10, h11, h12, h13⟩ := h
      have ok' := ok.ok
      refine ss_par (fun ta ha => ps_par ok'.calm (by rw [ok'.N]; exact ok'.nd) (by rw [ok'.N]; exact h1) (by rw [ok'.N]; exact h2) h3 (by rw [ok'.sc]; exact h4) (by rw [ok'.sc]; exact h5) ha (stores_par ok'.sc ok.kind h4 h5 h6 h7 h10 h11 h12 h13) sole_tup)
        (sa_cons (okE T a ok' h8) (sa_cons (okE T b ok' h9) sa_nil (star1 h11)) (star1 h10))
    · cases h
  | .setI o i a, X, W, N, sc, ok, st, h => by
    simp only [ckS] at h
    split at h
    · rename_i ox ix sp v pos
      simp only [Bool.and_eq_true] at h
      refine ss_setI (okE T a ok.ok h.2.2.1) (okE T o ok.ok h.1) (okE T i ok.ok h.2.1) ?_ sole_sub stores_sub
      have := h.2.2.2
      cases ix <;> first | (intro _; rfl) | cases this
    · cases h
  | .setF o f a, X, W, N, sc, ok, st, h => by
    simp only [ckS] at h
    split at h
    · simp only [Bool.and_eq_true, decide_eq_true_eq] at h
      obtain ⟨rfl, h1, h2, h3⟩ := h
      exact ss_setF (ok.ok.own T) (okE T a ok.ok h2) (okE T o ok.ok h1) (swap_comp h3)
    · cases h
  | .never, X, W, N, sc, ok, st, h => ss_never
  | .augN i sub a, X, W, N, sc, ok, st, h => by
    simp only [ckS] at h
    split at h
    · rename_i x p op v pos
      simp only [Bool.and_eq_true, decide_eq_true_eq] at h
      obtain ⟨h1, h2, h3⟩ := h
      obtain ⟨q1, q2⟩ := nm_read h1
      have ok' := ok.ok
      subst h2
      refine ss_aug (fun te he => ?_) (okE T a ok' h3)
      cases sub with
      | true => exact ps_aug (by rw [ok'.N]; exact ok'.nd) (by rw [ok'.N]; exact q1) (by rw [ok'.sc]; exact q2) he ip_sub (.inl (ok.fn x))
      | false => exact ps_aug (by rw [ok'.N]; exact ok'.nd) (by rw [ok'.N]; exact q1) (by rw [ok'.sc]; exact q2) he ip_add (.inl (ok.fn x))
    · cases h
  | .ex a, X, W, N, sc, ok, st, h => by
    simp only [ckS] at h
    split at h
    · simp only [Bool.and_eq_true] at h
      exact ss_ex (okE T a ok.ok h.1) (swap_comp h.2)
    · cases h
  | .ite t a b, X, W, N, sc, ok, st, h => by
    simp only [ckS] at h
    split at h
    · simp only [Bool.and_eq_true] at h
      exact ss_ite (okT T t ok.ok h.1) (okSs T a ok h.2.1) (okSs T b ok h.2.2)
    · cases h
  | .for_ tg it b, X, W, N, sc, ok, st, h => by
    simp only [ckS] at h
    split at h
    · simp only [Bool.and_eq_true] at h
      exact ss_for ok.ok.K ok.pass ok.ok.calm (okIt T it ok.ok h.1) (ok.tg h.2.1) (okSs T b ok h.2.2.1) (set_plain h.2.2.2)
    · cases h
  | .whl t b, X, W, N, sc, ok, st, h => by
    simp only [ckS] at h
    split at h
    · simp only [Bool.and_eq_true] at h
      exact ss_whl ok.pass (okT T t ok.ok h.1) (okSs T b ok h.2)
    · cases h
  | .ret a, X, W, N, sc, ok, st, h => by
    simp only [ckS] at h
    split at h
    · exact ss_ret (okE T a ok.ok h)
    · cases h
  | .retN, X, W, N, sc, ok, st, h => by
    simp only [ckS] at h
    split at h
    · exact ss_retN
    · cases h
  | .pass, X, W, N, sc, ok, st, h => by
    simp only [ckS] at h
    split at h
    · exact ss_pass
    · exact ss_doc
    · cases h
  | .brk, X, W, N, sc, ok, st, h => by
    simp only [ckS] at h
    split at h
    · exact ss_brk
    · cases h
  | .cnt, X, W, N, sc, ok, st, h => by
    simp only [ckS] at h
    split at h
    · exact ss_cnt
    · cases h
  | .frz _, X, W, N, sc, ok, st, h => by simp [ckS] at h
theorem okSs (T : Txt g c P k fd) : ∀ (ir : Ss) {X : Cx} {W : WX} {N : List Str} {sc : Scope} (_ : OkS g X W N sc k) {sts : List Stmt}, ckSs c N sc ir sts = true → SSs g W X sts (evSs P ir)
  | .nil, X, W, N, sc, ok, sts, h => by
    simp only [ckSs, List.isEmpty_iff] at h
    rw [h]
    exact ss_nil
  | .cons s r, X, W, N, sc, ok, sts, h => by
    simp only [ckSs] at h
    split at h
    · rename_i hz
      cases s <;> first | (cases hz; done) | skip
      exact ss_frz (okSs T r ok h)
    · split at h
      · simp only [Bool.and_eq_true] at h
        exact ss_cons (okS T s ok h.1) (okSs T r ok h.2)
      · cases h
end
end
/-! ### defs -/
/-- a def's text and its code here -/
structure DefOk (g : G) (c : Ck) (T : Tab) (fd : Nat → FuncData) (j : Nat) (f : FnI) : Prop where
  ex : ∃ (fn : Fn) (N : List Str) (x qual : Str) (params : Arguments) (body : List Stmt) (scope : Scope) (dvs : List V) (kws : List (Str × V)), T.fns[j]? = some fn ∧ FunD g.K x qual params body scope dvs kws (g.fA j) (fd j) ∧ FnScope N f.ps scope ∧ ckSs c N scope fn.body body = true ∧
    f.ps.length = fn.ar ∧ N.length = fn.sl ∧ fn.ar ≤ fn.sl
section
variable {g : G} {c : Ck} {T : Tab} {fd : Nat → FuncData} {W : Nat}
theorem start_rel {H0 H : Hp} {ι : List Addr} {μ : Mu} {N : List Str} {vs : List V} {xs : List DL.X} {m : Nat} (r : Rel g H0 H [] [] μ ι) (d : XDens g H0 ι vs xs) (hl : vs.length + m = N.length) : Rel g H0 H (L2.start N vs) (xs.map some ++ List.replicate m none) μ ι := by
  have hd := d.length
  refine r.slots (by unfold L2.start; simp [hd]; omega) fun i x e => ?_
  by_cases hi : i < xs.length
  · rw [List.getElem?_append_left (by simpa using hi)] at e
    rw [List.getElem?_map] at e
    have e : xs[i]? = some x := by
      cases q : xs[i]? with
      | none => rw [q] at e; cases e
      | some y => rw [q] at e; simpa using e
    have get : ∀ {vs : List V} {xs : List DL.X} {i : Nat}, XDens g H0 ι vs xs → xs[i]? = some x → ∃ v, vs[i]? = some v ∧ XDen g H0 ι v x := fun {vs xs i} d e => by
      induction d generalizing i with
      | nil => simp at e
      | cons h hs ih =>
        cases i with
        | zero =>
          simp at e
          subst e
          exact ⟨_, rfl, h⟩
        | succ i => exact ih (by simpa using e)
    obtain ⟨v, h1, h2⟩ := get d e
    refine ⟨v, ?_, h2⟩
    unfold L2.start
    rw [List.getElem?_append_left (by rw [List.length_map, hd]; exact hi), List.getElem?_map, h1]
    rfl
  · rw [List.getElem?_append_right (by simpa using Nat.le_of_not_lt hi), List.getElem?_replicate] at e
    split at e
    · simp at e
    · cases e
theorem tidy_nil {n : Nat} {μ : Mu} : (tidy n [] μ).1 = [] := by
  unfold tidy
  split <;> rfl
theorem fn_ok {n : Nat} {j : Nat} {f : FnI} (T' : Txt g c (parOf T W n) n fd) (D : DefOk g c T fd j f) : FnOk g.P g.w g.K g.mg g.base (L2N.CX g.P g.w) (n + 2) (g.fA j) (fd j) f.ps (spF g (callD T W (n + 1)) j) := by
  obtain ⟨fn, N, x, qual, params, body, scope, dvs, kws, e1, F, S, hck, har, hsl, hle⟩ := D.ex
  refine F.ok S (fun vs H Q E q => ?_) fun cdv A outer s H vs Q E hr q => ?_
  · obtain ⟨H0, μ, ι, xs, r, d, h⟩ := q
    simp only [callD_succ, bodyD, e1] at h
    split at h
    · rename_i hx
      rw [d.length, hx, har]
    · exact h.elim
  · obtain ⟨H0, μ, ι, xs, r, d, h⟩ := q
    simp only [callD_succ, bodyD, e1] at h
    split at h
    · rename_i hx
      have ok : OkS g (cxOf (L2N.CX g.P g.w) g.P g.w g.K g.mg g.base N qual scope (g.fA j) cdv A outer s H E) (WC E) N scope n :=
        ⟨⟨rfl, rfl, rfl, rfl, rfl, rfl, S.nd, rfl, rfl, hr, L2N.takes_of (E₁ := fun e' s'' => L2N.CX g.P g.w outer H s E e' s'') rfl rfl rfl rfl⟩, PassesOwn.leaving, fun _ => rfl, S.kind⟩
      refine ⟨_, okSs T' fn.body ok hck, H0, xs.map some ++ List.replicate (fn.sl - fn.ar) none, μ, ι, start_rel r d (by rw [d.length, hx, hsl]; omega), ?_⟩
      have hl : ι.length = μ.length := r.len
      cases q : evSs (parOf T W n) fn.body (xs.map some ++ List.replicate (fn.sl - fn.ar) none) μ with
      | no => rw [q] at h; exact h
      | er e μ' => rw [q] at h; exact h
      | ok fl μ' =>
        rw [q] at h
        cases fl with
        | nx ρ' =>
          intro σ' H0' H' ι' st r'
          obtain ⟨ι2, r2, s2, _⟩ := (r'.noSlots).tidy st hl
          exact h .non _ _ _ s2 r2.bare Den.non
        | rt x =>
          cases x with
          | d y =>
            intro v σ' H0' H' ι' st r' dv
            obtain ⟨ι2, r2, s2, _⟩ := (r'.noSlots).tidy st hl
            exact h v _ _ _ s2 r2.bare dv
          | r y =>
            intro v σ' H0' H' ι' st r' dv
            exact h v _ _ _ st r'.bare dv
        | bk ρ' => exact (show False from h).elim
        | ct ρ' => exact (show False from h).elim
        | ex e ρ' =>
          intro cls dd σ' H0' H' ι' st r' de
          obtain ⟨ι2, r2, s2, _⟩ := (r'.noSlots).tidy st hl
          exact h cls dd _ _ _ s2 r2.bare de
    · exact h.elim
/-- nothing is promised of a call that is never made -/
theorem fn_no {k : Nat} {f : FnI} {j : Nat} {fdx : FuncData} : FnOk g.P g.w g.K g.mg g.base (L2N.CX g.P g.w) k (g.fA j) fdx f.ps (spF g noC j) := ⟨fun vs H Q E h => by
    obtain ⟨H0, μ, ι, xs, r, d, h⟩ := h
    exact h.elim, fun A outer s H args us vs Q E hr e0 hb hv h => by
    obtain ⟨H0, μ, ι, xs, r, d, h⟩ := h
    exact h.elim⟩
/-- what does not depend on the depth -/
structure Txt0 (g : G) (c : Ck) (T : Tab) (fd : Nat → FuncData) : Prop where
  defs : ∀ j f, c.fns[j]? = some f → DefOk g c T fd j f
  mgf : ∀ j f, c.fns[j]? = some f → f.top = true → g.mg f.name = some (.ref (g.fA j)) ∧ PySem.W.keepIn g.K (.ref (g.fA j)) = true
  bnd : ∀ j f, c.fns[j]? = some f → ∀ m, m ≤ f.dfs.length → ∃ ds dvs, Binds g.K (fd j) f.ps ds ∧ Vals dvs ds ∧ ∀ H, Dens g H dvs (f.dfs.drop m)
  bnd0 : ∀ j f, c.fns[j]? = some f → Binds g.K (fd j) f.ps []
  glo : ∀ (i : Nat) (p : Str × DL.D), c.glo[i]? = some p → ∃ u v, g.mg p.1 = some u ∧ RelV v u ∧ ∀ H, Den g H v p.2
  gloP : ∀ i, T.glo i = (c.glo[i]?).map (·.2)
  blt : ∀ x ∈ bltNames, g.mg x = none
  nC : g.nC = c.cls.length
  cls : ∀ i, i < g.nC → ClsOk g i
  mgc : ∀ i p, c.cls[i]? = some p → g.mg p.1 = some (.ref (g.cA i))
  methP : T.methOf = c.methOf
  propP : T.propOf = c.propOf
  fldP : T.fldOk = c.fldOk
  meth : ∀ i m j, i < g.nC → c.methOf i m = some j → Meth g.K (g.cA i) m (g.fA j) ∧ (c.fns[j]?).isSome = true
  init : ∀ i j, i < g.nC → c.methOf i "__init__" = some j → Mk g.K (g.cA i) (g.fA j)
  prop : ∀ i m j, i < g.nC → c.propOf i m = some j → (∃ p, PropOf g.K (g.cA i) m p (g.fA j)) ∧ (c.fns[j]?).isSome = true
  fld : ∀ i f, i < g.nC → c.fldOk i f = true → NoAttr g.K (g.cA i) f
theorem txt_all (T0 : Txt0 g c T fd) : ∀ n, Txt g c (parOf T W n) n fd
  | 0 => ⟨fun j f q => fn_no, fun j f q => fn_no, T0.mgf, T0.bnd, T0.bnd0, T0.glo, T0.gloP, T0.blt, T0.nC, T0.cls, T0.mgc, T0.methP, T0.propP, T0.fldP, T0.meth, T0.init, T0.prop, T0.fld⟩
  | n + 1 => ⟨fun j f q => fn_ok (txt_all T0 n) (T0.defs j f q), (txt_all T0 n).calls, T0.mgf, T0.bnd, T0.bnd0, T0.glo, T0.gloP, T0.blt, T0.nC, T0.cls, T0.mgc, T0.methP, T0.propP, T0.fldP, T0.meth, T0.init, T0.prop, T0.fld⟩
end
end DL

/-! DL14: from the head's facts to the law. -/
namespace DL
open PySem PySem.Spec PyProof.Rows L2
/-! ### binding -/
theorem look_zip : ∀ {ns : List Str} {us : List Value} {l0 : List (Str × Value)}, ns.Nodup → us.length = ns.length → (∀ n ∈ ns, l0.lookup n = none) → ns.filterMap (fun n => ((l0 ++ ns.zip us).lookup n).map (n, ·)) = ns.zip us
  | [], us, l0, _, _, _ => by simp
  | n :: ns, [], l0, _, h, _ => by cases h
  | n :: ns, u :: us, l0, nd, h, h0 => by
    obtain ⟨h1, h2⟩ := List.nodup_cons.mp nd
    have e : ((l0 ++ (n :: ns).zip (u :: us)).lookup n) = some u := by
      rw [List.lookup_append, h0 n List.mem_cons_self]
      simp
    rw [List.filterMap_cons, e]
    have ih := look_zip (ns := ns) (us := us) (l0 := l0 ++ [(n, u)]) h2 (by simpa using h) fun m hm => by
      rw [List.lookup_append, h0 m (List.mem_cons_of_mem _ hm)]
      have : (m == n) = false := by simpa using fun e : m = n => h1 (by rw [← e]; exact hm)
      simp [List.lookup_cons, this]
    rw [List.append_assoc] at ih
    have e2 : [(n, u)] ++ ns.zip us = (n :: ns).zip (u :: us) := rfl
    rw [e2] at ih
    show (n, u) :: _ = _
    rw [ih]
    rfl
theorem look_some {ns : List Str} {us : List Value} (nd : ns.Nodup) (hl : us.length = ns.length) : (ns.filter fun n => ((ns.zip us).lookup n).isNone) = [] := by
  rw [List.filter_eq_nil_iff]
  intro n hn
  have : ∀ {ns : List Str} {us : List Value}, us.length = ns.length → n ∈ ns → ((ns.zip us).lookup n).isNone = false := fun {ns} => by
    induction ns with
    | nil => intro us _ h; cases h
    | cons m ns ih =>
      intro us hl h
      cases us with
      | nil => cases hl
      | cons u us =>
        rw [List.zip_cons_cons, List.lookup_cons]
        cases q : n == m with
        | true => rfl
        | false =>
          rcases List.mem_cons.mp h with h | h
          · rw [h] at q; simp at q
          · exact ih (by simpa using hl) h
  rw [this hl hn]
  simp
theorem bind_ok {x qual : Str} {as : List Arg} {body : List Stmt} {scope : Scope} {kV doc pm cdv ct : Value} {an : Option Addr} {us : List Value} {dfl : List Expr} (nd : (as.map (·.arg)).Nodup) (hl : us.length = (as.map (·.arg)).length) :
    bindArgs (PySem.W.fnOf x qual ⟨[], as, none, [], [], none, dfl⟩ body scope .none kV doc pm an cdv ct) ⟨us, []⟩ = pure ((as.map (·.arg)).zip us) := by
  have e0 : seqItems? Value.none = pure none := rfl
  unfold bindArgs
  unfold PySem.W.fnOf
  dsimp only
  rw [e0]
  simp only [List.map_nil, List.nil_append, List.append_nil, List.forIn_nil, pure_bind, Option.getD_none, Array.toList_empty, List.length_nil, Nat.zero_sub, List.drop_nil, Nat.sub_zero, List.zip_nil_right, Option.isNone_none, Bool.and_true]
  rw [if_neg (by simp [hl])]
  simp only [pure_bind, List.take_length, look_some nd hl]
  have e := look_zip (l0 := []) nd hl (fun _ _ => rfl)
  rw [List.nil_append] at e
  simp [e]
theorem lk_mem {n : Str} : ∀ {ns : List Str} {us : List Value}, ns.length ≤ us.length → n ∈ ns → ∃ u, (ns.zip us).lookup n = some u
  | m :: ns, [], h, _ => by simp at h
  | m :: ns, u :: us, h, hn => by
    rw [List.zip_cons_cons, List.lookup_cons]
    cases q : n == m with
    | true => exact ⟨u, rfl⟩
    | false =>
      rcases List.mem_cons.mp hn with e | hn
      · rw [e] at q; simp at q
      · exact lk_mem (by simpa using h) hn
theorem lk_out {n : Str} : ∀ {ns : List Str} {us : List Value}, n ∉ ns → (ns.zip us).lookup n = none
  | [], us, _ => by simp
  | m :: ns, [], _ => by simp
  | m :: ns, u :: us, h => by
    rw [List.zip_cons_cons, List.lookup_cons]
    have : (n == m) = false := by simpa using fun e : n = m => h (by rw [e]; exact List.mem_cons_self)
    rw [this]
    exact lk_out fun z => h (List.mem_cons_of_mem _ z)
/-- what the defaults fill up -/
abbrev fillS (s : List (Str × Value)) (q : Str × Value) : List (Str × Value) := if (s.lookup q.1).isNone then s ++ [(q.1, q.2)] else s
theorem fill_skip : ∀ {ns : List Str} {ds : List Value} {s : List (Str × Value)}, (∀ n ∈ ns, ∃ u, s.lookup n = some u) → (ns.zip ds).foldl fillS s = s
  | [], ds, s, _ => by simp
  | n :: ns, [], s, _ => by simp
  | n :: ns, d :: ds, s, h => by
    obtain ⟨u, e⟩ := h n List.mem_cons_self
    rw [List.zip_cons_cons, List.foldl_cons]
    have : fillS s (n, d) = s := by
      unfold fillS
      rw [e]
      rfl
    rw [this]
    exact fill_skip fun m hm => h m (List.mem_cons_of_mem _ hm)
theorem fill_add : ∀ {ns : List Str} {ds : List Value} {s : List (Str × Value)}, ns.Nodup → (∀ n ∈ ns, s.lookup n = none) → (ns.zip ds).foldl fillS s = s ++ ns.zip ds
  | [], ds, s, _, _ => by simp
  | n :: ns, [], s, _, _ => by simp
  | n :: ns, d :: ds, s, nd, h => by
    obtain ⟨h1, h2⟩ := List.nodup_cons.mp nd
    rw [List.zip_cons_cons, List.foldl_cons]
    have : fillS s (n, d) = s ++ [(n, d)] := by
      unfold fillS
      rw [h n List.mem_cons_self]
      rfl
    rw [this, fill_add h2 fun m hm => by
      rw [List.lookup_append, h m (List.mem_cons_of_mem _ hm)]
      have : (m == n) = false := by simpa using fun e : m = n => h1 (by rw [← e]; exact hm)
      simp [List.lookup_cons, this]]
    simp
/-- names, the written values and the last defaults -/
theorem fill_all {ns : List Str} {us its : List Value} (nd : ns.Nodup) (h1 : us.length ≤ ns.length) (h2 : ns.length ≤ us.length + its.length) (h3 : its.length ≤ ns.length) :
    ((ns.drop (ns.length - its.length)).zip its).foldl fillS (ns.zip us) = ns.zip (us ++ its.drop (us.length + its.length - ns.length)) := by
  obtain ⟨A, B, rfl, hA⟩ : ∃ A B, ns = A ++ B ∧ A.length = us.length := ⟨ns.take us.length, ns.drop us.length, (List.take_append_drop _ _).symm, by simp; omega⟩
  have hl : (A ++ B).length = A.length + B.length := List.length_append
  have k : us.length + its.length - (A ++ B).length = its.length - B.length := by omega
  rw [k]
  have hB : B.length ≤ its.length := by omega
  obtain ⟨I, J, rfl, hJ⟩ : ∃ I J, its = I ++ J ∧ J.length = B.length := ⟨its.take (its.length - B.length), its.drop (its.length - B.length), (List.take_append_drop _ _).symm, by simp; omega⟩
  have hl2 : (I ++ J).length = I.length + J.length := List.length_append
  have k2 : (I ++ J).length - B.length = I.length := by omega
  rw [k2, List.drop_left]
  have k3 : (A ++ B).length - (I ++ J).length = A.length - I.length := by omega
  rw [k3, List.drop_append_of_le_length (by omega)]
  have hd : (A.drop (A.length - I.length)).length = I.length := by simp; omega
  rw [List.zip_append hd, List.foldl_append]
  have hz : (A ++ B).zip us = A.zip us := by
    have : (A ++ B).zip (us ++ []) = A.zip us ++ B.zip [] := List.zip_append hA
    simpa using this
  rw [hz]
  rw [fill_skip fun n hn => lk_mem (by omega) (List.mem_of_mem_drop hn)]
  obtain ⟨n1, n2, n3⟩ := List.nodup_append.mp nd
  rw [fill_add n2 fun n hn => lk_out fun z => n3 n z n hn rfl]
  rw [List.zip_append hA]
theorem map_lk {ns : List Str} {us : List Value} (nd : ns.Nodup) (hl : us.length = ns.length) : ns.filterMap (fun n => ((ns.zip us).lookup n).map (n, ·)) = ns.zip us := by
  have : ∀ {ns : List Str} {us : List Value} {l0 : List (Str × Value)}, ns.Nodup → us.length = ns.length → (∀ n ∈ ns, l0.lookup n = none) → ns.filterMap (fun n => ((l0 ++ ns.zip us).lookup n).map (n, ·)) = ns.zip us := by
    intro ns
    induction ns with
    | nil => intros; simp
    | cons n ns ih =>
      intro us l0 nd h h0
      cases us with
      | nil => cases h
      | cons u us =>
        obtain ⟨h1, h2⟩ := List.nodup_cons.mp nd
        have e : ((l0 ++ (n :: ns).zip (u :: us)).lookup n) = some u := by
          rw [List.lookup_append, h0 n List.mem_cons_self]
          simp
        rw [List.filterMap_cons, e]
        have ih := ih (us := us) (l0 := l0 ++ [(n, u)]) h2 (by simpa using h) fun m hm => by
          rw [List.lookup_append, h0 m (List.mem_cons_of_mem _ hm)]
          have : (m == n) = false := by simpa using fun e : m = n => h1 (by rw [← e]; exact hm)
          simp [List.lookup_cons, this]
        rw [List.append_assoc] at ih
        have e2 : [(n, u)] ++ ns.zip us = (n :: ns).zip (u :: us) := rfl
        rw [e2] at ih
        show (n, u) :: _ = _
        rw [ih]
        rfl
  have := this (l0 := []) nd hl fun _ _ => rfl
  simpa using this
theorem forIn_fill : ∀ (l s : List (Str × Value)), (forIn (m := Sem) l s fun x s => if (List.lookup x.1 s).isNone = true then pure (ForInStep.yield (s ++ [(x.1, x.2)])) else pure (ForInStep.yield s)) = pure (l.foldl fillS s)
  | [], s => by simp
  | q :: l, s => by
    rw [List.forIn_cons, List.foldl_cons]
    unfold fillS
    by_cases h : (List.lookup q.1 s).isNone = true
    · rw [if_pos h, if_pos h]
      simp only [pure_bind]
      exact forIn_fill l _
    · rw [if_neg h, if_neg h]
      simp only [pure_bind]
      exact forIn_fill l _
theorem bind_dfl {x qual : Str} {as : List Arg} {body : List Stmt} {scope : Scope} {kV doc pm cdv ct : Value} {an : Option Addr} {us its : List Value} {dfl : List Expr} {T : Addr} (nd : (as.map (·.arg)).Nodup) (h1 : us.length ≤ (as.map (·.arg)).length) (h2 : (as.map (·.arg)).length ≤ us.length + its.length) (h3 : its.length ≤ (as.map (·.arg)).length) :
    ∃ k, bindArgs (PySem.W.fnOf x qual ⟨[], as, none, [], [], none, dfl⟩ body scope (.ref T) kV doc pm an cdv ct) ⟨us, []⟩ = seqItems? (.ref T) >>= k ∧ k (some its.toArray) = pure ((as.map (·.arg)).zip (us ++ its.drop (us.length + its.length - (as.map (·.arg)).length))) := by
  unfold bindArgs
  unfold PySem.W.fnOf
  dsimp only
  simp only [List.map_nil, List.nil_append, List.append_nil, List.forIn_nil, pure_bind]
  refine ⟨_, rfl, ?_⟩
  simp only [Option.getD_some, Option.isNone_none, Bool.and_true]
  rw [if_neg (by simpa using h1)]
  have d0 : its.drop (its.length - (as.map (·.arg)).length) = its := by
    rw [Nat.sub_eq_zero_of_le h3]
    rfl
  simp only [pure_bind, d0]
  have miss : ((as.map (·.arg)).take ((as.map (·.arg)).length - its.length)).filter (fun n => (((as.map (·.arg)).zip us).lookup n).isNone) = [] := by
    rw [List.filter_eq_nil_iff]
    intro n hn
    have hn2 : n ∈ (as.map (·.arg)).take us.length := by
      have : ((as.map (·.arg)).take ((as.map (·.arg)).length - its.length)) = ((as.map (·.arg)).take us.length).take ((as.map (·.arg)).length - its.length) := by
        rw [List.take_take]
        congr 1
        omega
      rw [this] at hn
      exact List.mem_of_mem_take hn
    have hz : (as.map (·.arg)).zip us = ((as.map (·.arg)).take us.length).zip us := by
      have e : ((as.map (·.arg)).take us.length ++ (as.map (·.arg)).drop us.length).zip (us ++ []) = ((as.map (·.arg)).take us.length).zip us ++ ((as.map (·.arg)).drop us.length).zip [] := List.zip_append (by rw [List.length_take]; omega)
      rw [List.take_append_drop] at e
      simpa using e
    rw [hz]
    obtain ⟨u, e⟩ := lk_mem (us := us) (by rw [List.length_take]; omega) hn2
    rw [e]
    simp
  have fin : (as.map (·.arg)).filterMap (fun n => ((((as.map (·.arg)).drop ((as.map (·.arg)).length - its.length)).zip its).foldl fillS ((as.map (·.arg)).zip us)).lookup n |>.map (n, ·)) = (as.map (·.arg)).zip (us ++ its.drop (us.length + its.length - (as.map (·.arg)).length)) := by
    rw [fill_all nd h1 h2 h3]
    exact map_lk nd (by simp; simp at h1 h2 h3; omega)
  rw [miss]
  simp only [List.isEmpty_nil, Bool.not_true, Bool.false_eq_true, if_false, pure_bind]
  rw [forIn_fill]
  simp only [pure_bind]
  rw [fin]
/-! ### one def's data -/
/-- kind: 0 a def of the top, 1 a method, 2 a property's getter -/
structure FnAll where
  d : He.DefD
  N : List Str
  ps : List Str
  code : Fn
  kind : Nat := 0
  dfs : List D := []
def FnAll.info (a : FnAll) : FnI := ⟨a.d.name, a.ps, a.dfs, a.kind == 0⟩
structure ClsI where
  name : Str
  meths : List (Str × Nat)
  props : List (Str × Nat)
  flds : List Str
structure LawT where
  fns : List FnAll
  glo : List (Str × D)
  cls : List ClsI
def ClsI.tup (c : ClsI) : Str × (List (Str × Nat) × (List (Str × Nat) × List Str)) := (c.name, c.meths, c.props, c.flds)
def LawT.ck (L : LawT) : Ck := ⟨L.fns.map FnAll.info, L.glo, L.cls.map ClsI.tup⟩
def LawT.tab (L : LawT) : Tab := ⟨L.fns.map (·.code), fun i => (L.glo[i]?).map (·.2), L.ck.methOf, L.ck.propOf, L.ck.fldOk⟩
def clsStmts : Stmt → List Stmt
  | .ClassDef _ _ _ body _ _ _ _ _ _ _ => body
  | _ => []
/-! ### where things stand -/
/-- a property's getter -/
def gAd (K : PySem.W.Frag) (p : Str × Option Str) : Addr := match PySem.W.recIn K (He.fAd K p) "property" with
  | some (.ref a :: _) => a
  | _ => 0
def FnAll.at (K : PySem.W.Frag) (a : FnAll) : Addr := if a.kind = 2 then gAd K a.d.at_ else He.fAd K a.d.at_
def fnWa (K : PySem.W.Frag) (f : Addr) : He.FnW := match K.lookup f with
  | some ⟨_, _, .func fd, _⟩ => some (fd.name, fd.qualname, fd.params, fd.body, fd.scope, fd.globals, fd.closure, fd.builtins)
  | _ => none
def okAt (K : PySem.W.Frag) (d : He.DefD) (f : Addr) : Bool := PySem.W.keepIn K (.ref f) && (match K.lookup f with
  | some ⟨_, _, .func fd, _⟩ => PySem.W.codeIn K fd.code d.qual && (He.dflB K fd.defaults (d.dvs K) && He.kwdB K fd.kwdefaults (d.kws K))
  | _ => false)
theorem funD_at {K : PySem.W.Frag} {d : He.DefD} {f : Addr} (e : fnWa K f = d.val) (c : okAt K d f = true) : ∃ fd, FunD K d.name d.qual d.params d.body d.scope (d.dvs K) (d.kws K) f fd := by
  obtain ⟨kp, c2⟩ := He.ba c
  unfold fnWa at e
  cases q : K.lookup f with
  | none =>
    rw [q] at c2
    cases c2
  | some o =>
    obtain ⟨oc, od, dt, osl⟩ := o
    rw [q] at c2 e
    cases dt with
    | func fd =>
      obtain ⟨n1, n2, n3, n4, n5, n6, n7, n8, n9, n10, n11, n12, n13, n14, n15⟩ := fd
      have e2 : (some (n1, n2, n3, n4, n5, n6, n7, n15) : He.FnW) = some (d.name, d.qual, d.params, .stmts d.body, d.scope, mainGlobals, [], builtinsNs) := e
      simp only [Option.some.injEq, Prod.mk.injEq] at e2
      obtain ⟨h1, h2, h3, h4, h5, h6, h7, h8⟩ := e2
      subst h1 h2 h3 h4 h5 h6 h7 h8
      have c3 : (PySem.W.codeIn K n13 d.qual && (He.dflB K n8 (d.dvs K) && He.kwdB K n9 (d.kws K))) = true := c2
      obtain ⟨k1, k2⟩ := He.ba c3
      obtain ⟨k3, k4⟩ := He.ba k2
      exact ⟨_, ⟨oc, od, n8, n9, n10, n11, n12, n13, n14, osl, rfl, q, k1, He.dflB_ok k3, He.kwdB_ok k4⟩, kp⟩
    | _ => cases c2
/-! ### constants -/
mutual
def cB (K : PySem.W.Frag) : Value → D → Bool
  | u, .non => (match u with | .none => true | _ => false)
  | u, .bl b => (match u with | .bool c => decide (b = c) | _ => false)
  | u, .int i => (match u with | .int j _ => decide (i = j) | _ => false)
  | u, .str x => (match u with | .str y _ => decide (x = y) | _ => false)
  | u, .kls ds => (match u with
    | .ref a => (match K.lookup a with
      | some ⟨.type c, none, .seq its _, _⟩ => decide (c = "list") && (decide (its.size ≤ sizeLine) && cBs K its.toList ds)
      | _ => false)
    | _ => false)
  | u, .tup ds => (match u with
    | .ref a => (match K.lookup a with
      | some ⟨.type c, _, .seq its _, _⟩ => decide (c = "tuple") && (decide (its.size ≤ sizeLine) && cBs K its.toList ds)
      | _ => false)
    | _ => false)
  | _, _ => false
def cBs (K : PySem.W.Frag) : List Value → List D → Bool
  | us, [] => us.isEmpty
  | us, d :: ds => (match us with
    | u :: us => cB K u d && cBs K us ds
    | [] => false)
end
mutual
theorem cB_ok {K : PySem.W.Frag} : ∀ {u : Value} {d : D}, cB K u d = true → ∃ v, RelV v u ∧ CDen K v d
  | u, .non, h => by
    unfold cB at h
    cases u <;> first | exact ⟨.non, rfl, .non⟩ | cases h
  | u, .bl b, h => by
    unfold cB at h
    cases u <;> first | (cases of_decide_eq_true h; exact ⟨.bl b, rfl, .bl b⟩) | cases h
  | u, .int i, h => by
    unfold cB at h
    cases u <;> first | (cases of_decide_eq_true h; exact ⟨.int i, ⟨_, rfl⟩, .int i⟩) | cases h
  | u, .str x, h => by
    unfold cB at h
    cases u <;> first | (cases of_decide_eq_true h; exact ⟨.str x, ⟨_, rfl⟩, .str x⟩) | cases h
  | u, .kls ds, h => by
    unfold cB at h
    cases u with
    | ref a =>
      dsimp only at h
      split at h
      · rename_i c its n sl q
        simp only [Bool.and_eq_true, decide_eq_true_eq] at h
        obtain ⟨rfl, h2, h3⟩ := h
        obtain ⟨vs, h4, h5⟩ := cBs_ok h3
        exact ⟨.ref a, rfl, .kls (fun H => .inr ⟨_, its, n, q, rfl, rfl, rfl, h2, h4⟩) h5⟩
      · cases h
    | _ => cases h
  | u, .tup ds, h => by
    unfold cB at h
    cases u with
    | ref a =>
      dsimp only at h
      split at h
      · rename_i c od its n sl q
        simp only [Bool.and_eq_true, decide_eq_true_eq] at h
        obtain ⟨rfl, h2, h3⟩ := h
        obtain ⟨vs, h4, h5⟩ := cBs_ok h3
        exact ⟨.ref a, rfl, .tup (fun H => .inr ⟨_, its, n, q, rfl, rfl, h2, h4⟩) h5⟩
      · cases h
    | _ => cases h
  | u, .lst _, h => by unfold cB at h; cases h
  | u, .dic _, h => by unfold cB at h; cases h
  | u, .kdic _, h => by unfold cB at h; cases h
  | u, .ins _ _, h => by unfold cB at h; cases h
  | u, .fn _, h => by unfold cB at h; cases h
  | u, .cls _, h => by unfold cB at h; cases h
theorem cBs_ok {K : PySem.W.Frag} : ∀ {us : List Value} {ds : List D}, cBs K us ds = true → ∃ vs, Vals vs us ∧ CDens K vs ds
  | us, [], h => by
    unfold cBs at h
    rw [List.isEmpty_iff.mp h]
    exact ⟨[], .nil, .nil⟩
  | us, d :: ds, h => by
    unfold cBs at h
    cases us with
    | nil => cases h
    | cons u us =>
      dsimp only at h
      obtain ⟨h1, h2⟩ := He.ba h
      obtain ⟨v, h3, h4⟩ := cB_ok h1
      obtain ⟨vs, h5, h6⟩ := cBs_ok h2
      exact ⟨v :: vs, .cons h3 h5, .cons h4 h6⟩
end
/-- a name of the top and what it stands for -/
def gloB (K : PySem.W.Frag) (p : Str × D) : Bool := match PySem.W.nsIn K mainGlobals p.1 with
  | some (some u) => (match p.2 with
    | .kdic kvs => (match u with
      | .ref a => (match K.lookup a with
        | some ⟨_, _, .dict es _, _⟩ => decide (es.toList.length = kvs.length) && ((es.toList.zip kvs).all fun q => (match q.1.key with | .str x _ => decide (x = q.2.1) | _ => false) && cB K q.1.val q.2.2)
        | _ => false)
      | _ => false)
    | d => cB K u d)
  | _ => false
def LawT.ts (L : LawT) : List He.Tab := L.glo.filterMap fun p => match p.2 with
  | .kdic kvs => some (fun K => He.ga K p.1, kvs.map (·.1))
  | _ => none
/-! ### classes -/
def tyB0 : List Ty := [.int, .bool, .str, .lst, .tup, .dic]
def clsB (K : PySem.W.Frag) (L : LawT) (i : Nat) (c : ClsI) : Bool :=
  let C := He.ga K c.name
  (He.Fa.cls c.name).ok K && (He.eqO (PySem.W.findIn K (.ref C) "__class__") (some (some (.builtin "object.__class__"))) && (decide (PySem.W.mroIn K C (.type "object") = some true) && ((PySem.W.selfFirst K C && He.eqO (PySem.W.findIn K (.ref C) "__ne__") (some (some (.builtin "object.__ne__")))) &&
  ((tyB0.all fun t => decide (PySem.W.kitOne K (.ref C) (.type (tyName t)) = some false)) && ((kinds.all fun s => decide (PySem.W.kitOne K (.type s) (.ref C) = some false) && PySem.W.notFirst K C (.type s)) &&
  (((List.range L.cls.length).all fun k => match L.cls[k]? with
    | some c' => decide (PySem.W.kitOne K (.ref C) (.ref (He.ga K c'.name)) = some (i == k)) && PySem.W.notFirst K C (.ref (He.ga K c'.name))
    | none => true) &&
  ((c.meths.all fun p => (He.Fa.meth c.name p.1).ok K && (match L.fns[p.2]? with | some a => decide (a.d.at_ = (c.name, some p.1)) && decide (a.kind = 1) | none => false)) &&
  ((c.props.all fun p => He.eqO (PySem.W.findIn K (.ref C) p.1) (some (some (.ref (He.fAd K (c.name, some p.1))))) && (He.eqO (PySem.W.specialIn K (.ref (He.fAd K (c.name, some p.1))) "__get__") (some (some (.builtin "property.__get__"))) &&
    (decide (PySem.W.takesIn K (.ref (He.fAd K (c.name, some p.1))) = some true) && ((match PySem.W.recIn K (He.fAd K (c.name, some p.1)) "property" with | some (.ref _ :: _) => true | _ => false) && (match L.fns[p.2]? with | some a => decide (a.d.at_ = (c.name, some p.1)) && decide (a.kind = 2) | none => false))))) &&
  ((c.flds.all fun f => He.eqO (PySem.W.findIn K (.ref C) f) (some none)) &&
  (match c.meths.lookup ("__init__" : Str) with | some _ => (He.Fa.mkr c.name).ok K | none => true))))))))))
def LawT.ex (L : LawT) (K : PySem.W.Frag) : Bool :=
  (L.fns.all fun a => okAt K a.d (a.at K)) && ((L.glo.all (gloB K)) && ((decide (PySem.W.specialIn K (.builtin "object.__class__") "__get__" = some (some (.builtin "getset_descriptor.__get__"))) && decide (PySem.W.takesIn K (.builtin "object.__class__") = some true)) &&
  (List.range L.cls.length).all fun i => match L.cls[i]? with
    | some c => He.eqO (PySem.W.nsIn K mainGlobals c.name) (some (some (.ref (He.ga K c.name)))) && clsB K L i c
    | none => true))
def LawT.fa (L : LawT) : List He.Fa := (L.fns.filterMap fun a => if a.kind = 0 then some (.glo a.d.name) else none) ++ bltNames.map .free
/-! ### the Hook -/
abbrev AlZ : Type := He.AlX × List He.FnW
def obsZ (n : Nat) (L : LawT) (g : Addr → Option Obj) : AlZ := (He.obsX n L.fa [] L.ts [] L.ex g, L.fns.map fun a => fnWa (He.frT g (He.asD g n)) (a.at (He.frT g (He.asD g n))))
def valZ (L : LawT) (w : World) : AlZ := (He.valX [] L.ts w, L.fns.map fun a => a.d.val)
structure SaysZ (L : LawT) (w : World) (h : Heap) (K : PySem.W.Frag) : Prop where
  x : He.SaysX L.fa [] L.ts [] L.ex w h K
  f : (L.fns.map fun a => fnWa K (a.at K)) = L.fns.map fun a => a.d.val
def hookZ (n : Nat) (L : LawT) : PySem.W.Hook where
  α := AlZ
  obs := fun s => obsZ n L s.heap.get?
  val := fun w => valZ L w
  says := fun w h => ∃ K : PySem.W.Frag, K.In h ∧ SaysZ L w h K
  of := fun _ _ e => ⟨_, He.frT_in, He.saysX_of (congrArg (fun z : AlZ => z.1) e), congrArg (fun z : AlZ => z.2) e⟩
  keeps := fun _ _ _ ⟨K, hK, c⟩ k => ⟨K, PySem.W.Frag.In.keeps hK k, ⟨c.x.t, c.x.more, c.x.hd, c.x.out, fun p hp => k _ _ (c.x.empty p hp)⟩, c.f⟩
theorem obsZ_eq {n : Nat} {L : LawT} {g : Addr → Option Obj} {s : Shared} (h : ∀ a, g a = s.heap.get? a) : obsZ n L g = (hookZ n L).obs s := by
  have e : g = s.heap.get? := funext h
  rw [e] <;> rfl
/-! ### the look at the defs' texts -/
def parB : Arguments → List Str → Bool
  | ⟨[], as, none, [], [], none, _⟩, ps => decide (as.map (·.arg) = ps)
  | _, _ => false
/-- a default as the head tells it -/
def dvB : D → He.Dv → Bool
  | .non, .non => true
  | .bl a, .bl b => decide (a = b)
  | .int a, .int b => decide (a = b)
  | .str a, .str b => decide (a = b)
  | _, _ => false
def dvsB : List D → List He.Dv → Bool
  | [], [] => true
  | x :: xs, d :: ds => dvB x d && dvsB xs ds
  | _, _ => false
theorem dvB_den {g : G} {K : PySem.W.Frag} {x : D} {d : He.Dv} (h : dvB x d = true) (H : Hp) : Den g H (d.v K) x := by
  cases x <;> first | (cases d <;> (first | (cases h; done) | skip)) | (cases h; done)
  · exact Den.non
  · cases of_decide_eq_true h; exact Den.bl _
  · cases of_decide_eq_true h; exact Den.int _
  · cases of_decide_eq_true h; exact Den.str _
theorem dvsB_dens {g : G} {K : PySem.W.Frag} (H : Hp) : ∀ {xs : List D} {ds : List He.Dv}, dvsB xs ds = true → Dens g H (ds.map (He.Dv.v K)) xs
  | [], [], _ => .nil
  | x :: xs, d :: ds, h => by
    obtain ⟨h1, h2⟩ := Bool.and_eq_true_iff.mp h
    exact .cons (dvB_den h1 H) (dvsB_dens H h2)
  | [], _ :: _, h => by cases h
  | _ :: _, [], h => by cases h
theorem dvsB_drop : ∀ {xs : List D} {ds : List He.Dv} (m : Nat), dvsB xs ds = true → dvsB (xs.drop m) (ds.drop m) = true
  | _, _, 0, h => h
  | [], [], m + 1, _ => rfl
  | x :: xs, d :: ds, m + 1, h => by
    obtain ⟨h1, h2⟩ := Bool.and_eq_true_iff.mp h
    exact dvsB_drop m h2
  | [], _ :: _, _ + 1, h => by cases h
  | _ :: _, [], _ + 1, h => by cases h
theorem dvsB_len : ∀ {xs : List D} {ds : List He.Dv}, dvsB xs ds = true → ds.length = xs.length
  | [], [], _ => rfl
  | x :: xs, d :: ds, h => by
    obtain ⟨h1, h2⟩ := Bool.and_eq_true_iff.mp h
    simp [dvsB_len h2]
  | [], _ :: _, h => by cases h
  | _ :: _, [], h => by cases h
def atB (a : FnAll) : Bool := (match a.d.at_ with | (x, none) => decide (a.kind = 0) && decide (x = a.d.name) | (_, some _) => decide (a.kind ≠ 0)) && ((dvsB a.dfs a.d.dfl && decide (a.dfs.length ≤ a.ps.length)) && a.d.kwd.isEmpty)
def FnAll.ok (c : Ck) (a : FnAll) : Bool := ckSs c a.N a.d.scope a.code.body a.d.body && (C8.scC a.N a.ps a.d.scope && (decide (a.ps.length = a.code.ar) && (decide (a.N.length = a.code.sl) && (decide (a.code.ar ≤ a.code.sl) && (parB a.d.params a.ps && atB a)))))
def LawT.ok (L : LawT) : Bool := (L.fns.all fun a => a.ok L.ck) && (L.cls.map (·.name)).all fun x => !(x == ("__debug__" : Str))
section
variable {L : LawT} {P : Program} {w : World} {K : PySem.W.Frag} {mg : Str → Option Value} {base h : Heap}
abbrev gOf (P : Program) (w : World) (K : PySem.W.Frag) (mg : Str → Option Value) (base : Heap) (L : LawT) : G := ⟨P, w, K, mg, base, fun i => match L.cls[i]? with | some c => He.ga K c.name | none => 0, fun j => match L.fns[j]? with | some a => a.at K | none => 0, L.cls.length⟩
theorem parB_eq {p : Arguments} {ps : List Str} (h : parB p ps = true) : ∃ as dfl, p = ⟨[], as, none, [], [], none, dfl⟩ ∧ as.map (·.arg) = ps := by
  unfold parB at h
  split at h
  · exact ⟨_, _, rfl, of_decide_eq_true h⟩
  · cases h
theorem fnAll_binds {a : FnAll} {f : Addr} {fd : FuncData} (F : FunD K a.d.name a.d.qual a.d.params a.d.body a.d.scope [] (a.d.kws K) f fd) (hp : parB a.d.params a.ps = true) (nd : a.ps.Nodup) :
    Binds K fd a.ps [] ∧ ∀ (s : Shared) (us : List Value), us.length = a.ps.length → BindsTo s fd ⟨us, []⟩ (a.ps.zip us) := by
  obtain ⟨as, dfl, e1, e2⟩ := parB_eq hp
  rw [e1] at F
  have key : ∀ (kV doc pm : Value) (an : Option Addr) (cdv ct : Value) (us : List Value), us.length = a.ps.length → bindArgs (PySem.W.fnOf a.d.name a.d.qual ⟨[], as, none, [], [], none, dfl⟩ a.d.body a.d.scope .none kV doc pm an cdv ct) ⟨us, []⟩ = pure (a.ps.zip us) := fun kV doc pm an cdv ct us hl => by
    rw [← e2] at hl nd ⊢
    exact bind_ok nd hl
  exact ⟨F.bindsN key, fun s us hl => F.bindsA key s us hl⟩
theorem isStr_eq {key : Value} {x z : Str} {t : Tok} (e : key = .str x t) : key.isStr z = decide (x = z) := by
  subst e
  show (x == z) = decide (x = z)
  by_cases h : x = z
  · subst h; simp
  · simp [h]
/-- .. with defaults -/
theorem fnAll_bindsD {a : FnAll} {f : Addr} {fd : FuncData} (F : FunD K a.d.name a.d.qual a.d.params a.d.body a.d.scope (a.d.dvs K) (a.d.kws K) f fd) (hp : parB a.d.params a.ps = true) (nd : a.ps.Nodup) (hd : dvsB a.dfs a.d.dfl = true) (hl : a.dfs.length ≤ a.ps.length) {m : Nat} (hm : m ≤ a.dfs.length) :
    ∃ ds, Vals ((a.d.dvs K).drop m) ds ∧ Binds K fd a.ps ds := by
  have el : (a.d.dvs K).length = a.dfs.length := by
    unfold He.DefD.dvs
    rw [List.length_map, dvsB_len hd]
  by_cases h0 : a.d.dvs K = []
  · rw [h0] at F
    refine ⟨[], by rw [h0, List.drop_nil]; exact .nil, (fnAll_binds F hp nd).1⟩
  · obtain ⟨as, dfl, e1, e2⟩ := parB_eq hp
    rw [e1] at F
    refine F.binds1 (a.ps.length - (a.dfs.length - m)) m h0 (by omega) fun T kV doc pm an cdv ct us its hu hi => ?_
    rw [el] at hi
    have z := bind_dfl (x := a.d.name) (qual := a.d.qual) (body := a.d.body) (scope := a.d.scope) (kV := kV) (doc := doc) (pm := pm) (cdv := cdv) (ct := ct) (an := an) (us := us) (its := its) (dfl := dfl) (T := T) (as := as) (by rw [e2]; exact nd) (by rw [e2]; omega) (by rw [e2]; omega) (by rw [e2]; omega)
    rw [e2] at z
    have k : us.length + its.length - a.ps.length = m := by omega
    rw [k] at z
    exact z
/-- a dict of the top -/
theorem kdic_ok {a : Addr} {kvs : List (Str × D)} {es : Array DictEntry} {n : Nat} {oc : Value} {od : Option Addr} {sl : Array (Option Value)} (D : ∃ es n, KDict K w a es n) (lk : K.lookup a = some ⟨oc, od, .dict es n, sl⟩) (hl : es.toList.length = kvs.length)
    (ha : ((es.toList.zip kvs).all fun q => (match q.1.key with | .str x _ => decide (x = q.2.1) | _ => false) && cB K q.1.val q.2.2) = true) : KDicR K w a kvs := by
  obtain ⟨es', n', D⟩ := D
  have e := D.at_
  rw [lk] at e
  cases e
  refine ⟨es, n, D, fun z => ?_⟩
  unfold PySem.W.nsIn
  rw [lk]
  dsimp only
  have key : ∀ {l : List DictEntry} {ks : List (Str × DL.D)}, l.length = ks.length → ((l.zip ks).all fun q => (match q.1.key with | .str x _ => decide (x = q.2.1) | _ => false) && cB K q.1.val q.2.2) = true →
      ((l.find? (·.key.isStr z) = none ∧ ks.lookup z = none) ∨ (∃ e d v, l.find? (·.key.isStr z) = some e ∧ ks.lookup z = some d ∧ RelV v e.val ∧ CDen K v d)) ∧ l.any (·.refKey) = false := by
    intro l
    induction l with
    | nil =>
      intro ks hl _
      cases ks with
      | nil => exact ⟨.inl ⟨rfl, rfl⟩, rfl⟩
      | cons _ _ => cases hl
    | cons e l ih =>
      intro ks hl h
      cases ks with
      | nil => cases hl
      | cons k ks =>
        rw [List.zip_cons_cons, List.all_cons, Bool.and_eq_true, Bool.and_eq_true] at h
        obtain ⟨⟨h1, h2⟩, h3⟩ := h
        obtain ⟨ih1, ih2⟩ := ih (by simpa using hl) h3
        dsimp only at h1 h2
        split at h1
        · rename_i x t ek
          have h1 := of_decide_eq_true h1
          have es1 := isStr_eq (z := z) ek
          rw [List.find?_cons, es1, List.lookup_cons, List.any_cons, ih2]
          refine ⟨?_, ?_⟩
          · by_cases c : x = z
            · have c2 : (z == k.1) = true := by rw [← h1, c]; simp
              rw [decide_eq_true c, c2]
              obtain ⟨v, r, cd⟩ := cB_ok h2
              exact .inr ⟨e, k.2, v, rfl, rfl, r, cd⟩
            · have c2 : (z == k.1) = false := by
                rw [← h1]
                simpa using fun q : z = x => c q.symm
              rw [decide_eq_false c, c2]
              exact ih1
          · have : e.refKey = false := by
              unfold DictEntry.refKey
              rw [ek]
            rw [this]
            rfl
        · cases h1
  obtain ⟨k1, k2⟩ := key hl ha
  rcases k1 with ⟨h1, h2⟩ | ⟨e, d, v, h1, h2, h3, h4⟩
  · rw [h1, h2]
    dsimp only
    rw [k2]
    exact ⟨none, rfl, trivial⟩
  · rw [h1, h2]
    exact ⟨some e.val, rfl, v, h3, h4⟩
theorem law_txt (hok : L.ok = true) (X : K.In h) (G : h.Ns mainGlobals mg) (c : SaysZ L w h K) :
    ∃ fd : Nat → FuncData, (∀ base, Txt0 (gOf P w K mg base L) L.ck L.tab fd) ∧ ∀ (j : Nat) (a : FnAll), L.fns[j]? = some a → a.dfs = [] → ∀ (s : Shared) (us : List Value), us.length = a.ps.length → BindsTo s (fd j) ⟨us, []⟩ (a.ps.zip us) := by
  have mo := c.x.more
  unfold LawT.ex at mo
  simp only [Bool.and_eq_true] at mo
  obtain ⟨ex1, ex2, ex3, ex4⟩ := mo
  obtain ⟨hokF, hokC⟩ := Bool.and_eq_true_iff.mp hok
  have facts : ∀ {f : He.Fa}, f ∈ L.fa → f.ok K = true := fun {f} hf => c.x.t.d.facts hf
  have one : ∀ j : Nat, ∃ fd : FuncData, ∀ (a : FnAll), L.fns[j]? = some a → FunD K a.d.name a.d.qual a.d.params a.d.body a.d.scope (a.d.dvs K) (a.d.kws K) (a.at K) fd := fun j => by
    cases q : L.fns[j]? with
    | none => exact ⟨PySem.W.fnOf (Str.ofString "") (Str.ofString "") ⟨[], [], none, [], [], none, []⟩ [] ⟨.function, [], false, false, []⟩ .none .none .none .none none .none .none, fun a e => by cases e⟩
    | some a =>
      have e := congrArg (fun l : List He.FnW => l[j]?) c.f
      simp only [List.getElem?_map, q, Option.map_some, Option.some.injEq] at e
      obtain ⟨fd, F⟩ := funD_at e (List.all_eq_true.mp ex1 a (List.mem_of_getElem? q))
      exact ⟨fd, fun b e => by cases e; exact F⟩
  obtain ⟨fd, hfd⟩ := Classical.axiomOfChoice one
  have data : ∀ (j : Nat) (a : FnAll), L.fns[j]? = some a → ckSs L.ck a.N a.d.scope a.code.body a.d.body = true ∧ FnScope a.N a.ps a.d.scope ∧ a.ps.length = a.code.ar ∧ a.N.length = a.code.sl ∧ a.code.ar ≤ a.code.sl ∧ parB a.d.params a.ps = true ∧ (a.kind = 0 → a.d.at_ = (a.d.name, none)) ∧ (dvsB a.dfs a.d.dfl = true ∧ a.dfs.length ≤ a.ps.length) ∧ a.d.kwd = [] ∧ a.ps.Nodup := fun j a q => by
    have h := List.all_eq_true.mp hokF a (List.mem_of_getElem? q)
    unfold FnAll.ok at h
    simp only [Bool.and_eq_true, decide_eq_true_eq] at h
    obtain ⟨h1, h2, h3, h4, h5, h6, h7⟩ := h
    have S := C8.fnScope_by h2
    unfold atB at h7
    simp only [Bool.and_eq_true, List.isEmpty_iff] at h7
    obtain ⟨h7, ⟨h8, h8'⟩, h9⟩ := h7
    refine ⟨h1, S, h3, h4, h5, h6, fun hk => ?_, ⟨h8, of_decide_eq_true h8'⟩, h9, ?_⟩
    · split at h7
      · rename_i x e
        simp only [Bool.and_eq_true, decide_eq_true_eq] at h7
        rw [e, h7.2]
      · exact absurd hk (of_decide_eq_true h7)
    · rw [← S.pre]
      exact S.nd.sublist (List.take_sublist _ _)
  have fnj : ∀ (base : Heap) (j : Nat) (a : FnAll), L.fns[j]? = some a → (gOf P w K mg base L).fA j = a.at K := fun base j a q => by
    show (match L.fns[j]? with | some a => a.at K | none => 0) = _
    rw [q]
  have ckj : ∀ (j : Nat) (f : FnI), L.ck.fns[j]? = some f → ∃ a, L.fns[j]? = some a ∧ f = a.info := fun j f q => by
    have q : (L.fns.map FnAll.info)[j]? = some f := q
    rw [List.getElem?_map] at q
    cases q2 : L.fns[j]? with
    | none => rw [q2] at q; cases q
    | some a => rw [q2] at q; cases q; exact ⟨a, rfl, rfl⟩
  have ckc : ∀ (i : Nat) (p : Str × (List (Str × Nat) × (List (Str × Nat) × List Str))), L.ck.cls[i]? = some p → ∃ k, L.cls[i]? = some k ∧ p = k.tup := fun i p q => by
    have q : (L.cls.map ClsI.tup)[i]? = some p := q
    rw [List.getElem?_map] at q
    cases q2 : L.cls[i]? with
    | none => rw [q2] at q; cases q
    | some a => rw [q2] at q; cases q; exact ⟨a, rfl, rfl⟩
  have Fj : ∀ (j : Nat) (a : FnAll), L.fns[j]? = some a → FunD K a.d.name a.d.qual a.d.params a.d.body a.d.scope (a.d.dvs K) (a.d.kws K) (a.at K) (fd j) := hfd
  have bnds : ∀ (j : Nat) (a : FnAll), L.fns[j]? = some a → ∀ m, m ≤ a.dfs.length → ∃ ds, Vals ((a.d.dvs K).drop m) ds ∧ Binds K (fd j) a.ps ds := fun j a q m hm => by
    obtain ⟨d1, d2, d3, d4, d5, d6, d7, d8, d9, d10⟩ := data j a q
    exact fnAll_bindsD (Fj j a q) d6 d10 d8.1 d8.2 hm
  have bnd0 : ∀ (j : Nat) (a : FnAll), L.fns[j]? = some a → Binds K (fd j) a.ps [] := fun j a q => by
    obtain ⟨ds, h1, h2⟩ := bnds j a q a.dfs.length (Nat.le_refl _)
    obtain ⟨d1, d2, d3, d4, d5, d6, d7, d8, d9, d10⟩ := data j a q
    have e : (a.d.dvs K).drop a.dfs.length = [] := by
      apply List.drop_eq_nil_of_le
      unfold He.DefD.dvs
      rw [List.length_map, dvsB_len d8.1]
      exact Nat.le_refl _
    rw [e] at h1
    cases h1
    exact h2
  have clsA : ∀ (base : Heap) (i : Nat) (k : ClsI), L.cls[i]? = some k → (gOf P w K mg base L).cA i = He.ga K k.name := fun base i k q => by
    show (match L.cls[i]? with | some c => He.ga K c.name | none => 0) = _
    rw [q]
  have clsF : ∀ (i : Nat) (k : ClsI), L.cls[i]? = some k → PySem.W.nsIn K mainGlobals k.name = some (some (.ref (He.ga K k.name))) ∧ clsB K L i k = true := fun i k q => by
    have h1 := List.all_eq_true.mp ex4 i (List.mem_range.mpr (List.getElem?_eq_some_iff.mp q).1)
    rw [q] at h1
    obtain ⟨h2, h3⟩ := Bool.and_eq_true_iff.mp h1
    exact ⟨He.eqO_ok h2, h3⟩
  have clsG : ∀ {i : Nat}, i < L.cls.length → ∃ k, L.cls[i]? = some k := fun {i} hi => ⟨_, List.getElem?_eq_getElem hi⟩
  have mem_look : ∀ {α : Type} {l : List (Str × α)} {m : Str} {j : α}, l.lookup m = some j → (m, j) ∈ l := fun {α l m j} => by
    induction l with
    | nil => intro h; cases h
    | cons p l ih =>
      intro h
      rw [List.lookup_cons] at h
      cases q : (m == p.1) with
      | true =>
        rw [q] at h
        cases h
        rw [eq_of_beq q]
        exact List.mem_cons_self
      | false =>
        rw [q] at h
        exact List.mem_cons_of_mem _ (ih h)
  refine ⟨fd, fun base => ⟨fun j f q => ?_, fun j f q ht => ?_, fun j f q m hm => ?_, fun j f q => ?_, fun i p q => ?_, fun i => ?_, fun x hx => ?_, ?_, fun i hi => ?_, fun i p q => ?_, rfl, rfl, rfl, fun i m j hi hj => ?_, fun i j hi hj => ?_, fun i m j hi hj => ?_, fun i f hi hf => ?_⟩, fun j a q h0 s us hl => ?_⟩
  · obtain ⟨a, qa, rfl⟩ := ckj j f q
    obtain ⟨d1, d2, d3, d4, d5, d6, d7, d8, d9, d10⟩ := data j a qa
    have F := Fj j a qa
    refine ⟨a.code, a.N, a.d.name, a.d.qual, a.d.params, a.d.body, a.d.scope, a.d.dvs K, a.d.kws K, ?_, ?_, d2, d1, d3, d4, d5⟩
    · show (L.fns.map (·.code))[j]? = _
      rw [List.getElem?_map, qa]
      rfl
    · rw [fnj base j a qa]
      exact F
  · obtain ⟨a, qa, rfl⟩ := ckj j f q
    obtain ⟨d1, d2, d3, d4, d5, d6, d7, d8, d9, d10⟩ := data j a qa
    have F := Fj j a qa
    rw [fnj base j a qa]
    have hk : a.kind = 0 := eq_of_beq ht
    refine ⟨?_, F.kp⟩
    have e := He.glo_ok X G (facts (f := .glo a.d.name) (List.mem_append_left _ (List.mem_filterMap.mpr ⟨a, List.mem_of_getElem? qa, by rw [if_pos hk]⟩)))
    show mg a.d.name = _
    unfold FnAll.at
    rw [e, d7 hk, hk]
    rfl
  · obtain ⟨a, qa, rfl⟩ := ckj j f q
    obtain ⟨d1, d2, d3, d4, d5, d6, d7, d8, d9, d10⟩ := data j a qa
    obtain ⟨ds, h1, h2⟩ := bnds j a qa m hm
    refine ⟨ds, _, h2, h1, fun H => ?_⟩
    unfold He.DefD.dvs
    rw [← List.map_drop]
    exact dvsB_dens H (dvsB_drop m d8.1)
  · obtain ⟨a, qa, rfl⟩ := ckj j f q
    obtain ⟨d1, d2, d3, d4, d5, d6, d7, d8, d9, d10⟩ := data j a qa
    exact bnd0 j a qa
  · have q : L.glo[i]? = some p := q
    have h1 := List.all_eq_true.mp ex2 p (List.mem_of_getElem? q)
    obtain ⟨x, d⟩ := p
    unfold gloB at h1
    dsimp only at h1
    split at h1
    · rename_i u eu
      have em := PySem.W.mg_of X G eu
      split at h1
      · rename_i kvs _
        split at h1
        · rename_i a
          split at h1
          · rename_i es n sl lk
            simp only [Bool.and_eq_true, decide_eq_true_eq] at h1
            have hga : He.ga K x = a := by unfold He.ga; rw [eu]
            have ht : ((fun K => He.ga K x, kvs.map (·.1)) : He.Tab) ∈ L.ts := List.mem_filterMap.mpr ⟨(x, .kdic kvs), List.mem_of_getElem? q, rfl⟩
            obtain ⟨n', hn', en'⟩ := List.mem_iff_getElem.mp ht
            obtain ⟨es', m', D⟩ := c.x.t.tab n' (t := (fun K => He.ga K x, kvs.map (·.1))) (by rw [List.getElem?_eq_getElem hn', en'])
            have D' : ∃ es n, KDict K w a es n := ⟨es', m', by rw [← hga]; exact D⟩
            exact ⟨_, .ref a, em, rfl, fun H => .kdic (kdic_ok D' lk h1.1 (by
              have h2 := h1.2
              rw [List.all_eq_true] at h2 ⊢
              intro z hz
              have h3 := h2 z hz
              exact h3))⟩
          · cases h1
        · cases h1
      · obtain ⟨v, r, cd⟩ := cB_ok h1
        exact ⟨u, v, em, r, fun H => cd.den rfl⟩
    · cases h1
  · rfl
  · exact He.free_ok X G (facts (f := .free x) (List.mem_append_right _ (List.mem_map_of_mem hx)))
  · show L.cls.length = (L.cls.map ClsI.tup).length
    rw [List.length_map]
  · obtain ⟨k, ek⟩ := clsG hi
    have hB := (clsF i k ek).2
    unfold clsB at hB
    simp only [Bool.and_eq_true] at hB
    obtain ⟨b1, b2, b3, b4, b5, b6, b7, _⟩ := hB
    have cE := clsA base i k ek
    have hn := of_decide_eq_true ex3.1
    have htk := of_decide_eq_true ex3.2
    have oth : ∀ c', c' < L.cls.length → PySem.W.kitOne K (.ref (He.ga K k.name)) (.ref ((gOf P w K mg base L).cA c')) = some (i == c') ∧ PySem.W.notFirst K (He.ga K k.name) (.ref ((gOf P w K mg base L).cA c')) = true := fun c' hc' => by
      obtain ⟨k', ek'⟩ := clsG hc'
      have h1 := List.all_eq_true.mp b7 c' (List.mem_range.mpr hc')
      rw [ek'] at h1
      obtain ⟨h2, h3⟩ := Bool.and_eq_true_iff.mp h1
      rw [clsA base c' k' ek']
      exact ⟨of_decide_eq_true h2, h3⟩
    refine ⟨?_, ?_, hn, htk, ?_, fun ty hin => ?_, fun s hs => ?_, fun s hs => ?_, fun c' hc' => ?_, ?_, ?_⟩
    · rw [cE]; exact He.cls_ok b1
    · rw [cE]; exact He.eqO_ok b2
    · rw [cE]; exact of_decide_eq_true b3
    · rw [cE]
      cases ty with
      | cls c' => exact (oth c' hin).1
      | int => exact of_decide_eq_true (List.all_eq_true.mp b5 .int (by simp [tyB0]))
      | bool => exact of_decide_eq_true (List.all_eq_true.mp b5 .bool (by simp [tyB0]))
      | str => exact of_decide_eq_true (List.all_eq_true.mp b5 .str (by simp [tyB0]))
      | lst => exact of_decide_eq_true (List.all_eq_true.mp b5 .lst (by simp [tyB0]))
      | tup => exact of_decide_eq_true (List.all_eq_true.mp b5 .tup (by simp [tyB0]))
      | dic => exact of_decide_eq_true (List.all_eq_true.mp b5 .dic (by simp [tyB0]))
    · rw [cE]; exact of_decide_eq_true (Bool.and_eq_true_iff.mp (List.all_eq_true.mp b6 s hs)).1
    · rw [cE]; exact (Bool.and_eq_true_iff.mp (List.all_eq_true.mp b6 s hs)).2
    · rw [cE]; exact (oth c' hc').2
    · rw [cE]; exact b4.1
    · rw [cE]; exact He.eqO_ok b4.2
  · obtain ⟨k, ek, rfl⟩ := ckc i p q
    rw [clsA base i k ek]
    exact PySem.W.mg_of X G (clsF i k ek).1
  · obtain ⟨k, ek⟩ := clsG hi
    have hB := (clsF i k ek).2
    unfold clsB at hB
    simp only [Bool.and_eq_true] at hB
    obtain ⟨b1, b2, b3, b4, b5, b6, b7, b8, b9, b10, b11⟩ := hB
    have hj' : k.meths.lookup m = some j := by
      have : (L.ck.cls[i]?).bind (fun p => p.2.1.lookup m) = some j := hj
      have e : L.ck.cls[i]? = some k.tup := by
        show (L.cls.map ClsI.tup)[i]? = _
        rw [List.getElem?_map, ek]
        rfl
      rw [e] at this
      exact this
    have h1 := List.all_eq_true.mp b8 (m, j) (mem_look hj')
    obtain ⟨h2, h3⟩ := Bool.and_eq_true_iff.mp h1
    dsimp only at h2 h3
    split at h3
    · rename_i a qa
      simp only [Bool.and_eq_true, decide_eq_true_eq] at h3
      rw [clsA base i k ek, fnj base j a qa]
      have ea : a.at K = He.ma K (He.ga K k.name) m := by
        unfold FnAll.at
        rw [h3.2, h3.1]
        rfl
      rw [ea]
      refine ⟨He.meth_ok h2, ?_⟩
      show ((L.fns.map FnAll.info)[j]?).isSome = true
      rw [List.getElem?_map, qa]
      rfl
    · cases h3
  · obtain ⟨k, ek⟩ := clsG hi
    have hB := (clsF i k ek).2
    unfold clsB at hB
    simp only [Bool.and_eq_true] at hB
    obtain ⟨b1, b2, b3, b4, b5, b6, b7, b8, b9, b10, b11⟩ := hB
    have hj' : k.meths.lookup ("__init__" : Str) = some j := by
      have : (L.ck.cls[i]?).bind (fun p => p.2.1.lookup ("__init__" : Str)) = some j := hj
      have e : L.ck.cls[i]? = some k.tup := by
        show (L.cls.map ClsI.tup)[i]? = _
        rw [List.getElem?_map, ek]
        rfl
      rw [e] at this
      exact this
    have h1 := List.all_eq_true.mp b8 (_, j) (mem_look hj')
    obtain ⟨h2, h3⟩ := Bool.and_eq_true_iff.mp h1
    rw [hj'] at b11
    split at h3
    · rename_i a qa
      simp only [Bool.and_eq_true, decide_eq_true_eq] at h3
      rw [clsA base i k ek, fnj base j a qa]
      have ea : a.at K = He.ma K (He.ga K k.name) "__init__" := by
        unfold FnAll.at
        rw [h3.2, h3.1]
        rfl
      rw [ea]
      exact He.mkr_ok b11
    · cases h3
  · obtain ⟨k, ek⟩ := clsG hi
    have hB := (clsF i k ek).2
    unfold clsB at hB
    simp only [Bool.and_eq_true] at hB
    obtain ⟨b1, b2, b3, b4, b5, b6, b7, b8, b9, b10, b11⟩ := hB
    have hj' : k.props.lookup m = some j := by
      have : (L.ck.cls[i]?).bind (fun p => p.2.2.1.lookup m) = some j := hj
      have e : L.ck.cls[i]? = some k.tup := by
        show (L.cls.map ClsI.tup)[i]? = _
        rw [List.getElem?_map, ek]
        rfl
      rw [e] at this
      exact this
    have h1 := List.all_eq_true.mp b9 (_, j) (mem_look hj')
    simp only [Bool.and_eq_true] at h1
    obtain ⟨h2, h3, h4, h5, h6⟩ := h1
    split at h6
    · rename_i a qa
      simp only [Bool.and_eq_true, decide_eq_true_eq] at h6
      rw [clsA base i k ek, fnj base j a qa]
      refine ⟨⟨He.fAd K (k.name, some m), He.eqO_ok h2, He.eqO_ok h3, of_decide_eq_true h4, ?_⟩, ?_⟩
      · have ea : a.at K = gAd K (k.name, some m) := by
          unfold FnAll.at
          rw [h6.2, h6.1]
          rfl
        rw [ea]
        unfold gAd
        split at h5
        · rename_i g0 rest er
          rw [er]
          exact ⟨rest, rfl⟩
        · cases h5
      · show ((L.fns.map FnAll.info)[j]?).isSome = true
        rw [List.getElem?_map, qa]
        rfl
    · cases h6
  · obtain ⟨k, ek⟩ := clsG hi
    have hB := (clsF i k ek).2
    unfold clsB at hB
    simp only [Bool.and_eq_true] at hB
    obtain ⟨b1, b2, b3, b4, b5, b6, b7, b8, b9, b10, b11⟩ := hB
    have hf' : k.flds.contains f = true := by
      have h0 : (match L.ck.cls[i]? with | some p => p.2.2.2.contains f | none => false) = true := hf
      have e : L.ck.cls[i]? = some k.tup := by
        show (L.cls.map ClsI.tup)[i]? = _
        rw [List.getElem?_map, ek]
        rfl
      rw [e] at h0
      exact h0
    rw [clsA base i k ek]
    exact He.eqO_ok (List.all_eq_true.mp b10 f (by simpa using hf'))
  · obtain ⟨d1, d2, d3, d4, d5, d6, d7, d8, d9, d10⟩ := data j a q
    have F := Fj j a q
    have e : a.d.dvs K = [] := by
      have := dvsB_len d8.1
      rw [h0] at this
      unfold He.DefD.dvs
      rw [List.length_eq_zero_iff.mp this]
      rfl
    rw [e] at F
    exact (fnAll_binds F d6 d10).2 s us hl
end
/-! ### the end -/
theorem law_walk {l : PySem.W.OpenLaw} {m n jl dp : Nat} {q : Program} {loose : List Str} {XP : (Str → Option Value) → Heap → Prop} {d : DefRec} {L : LawT} {al : FnAll} {x : Str} {W : Nat}
    (hn : l.most = some m) (hn2 : m ≤ sizeLine) (hdf : d.params.defaults = []) (hr : Room (n + 2) callerA) (hok : L.ok = true) (hal : L.fns[jl]? = some al) (hx : al.ps = [x]) (hnm : d.name = al.d.name) (hat : al.d.at_ = (al.d.name, none)) (hkd : al.kind = 0) (hdl : al.dfs = [])
    (law : ∀ ns : List Int, ns.length ≤ m → (∀ z ∈ ns, Builtin.Int.intBits z ≤ 1048576) → ∃ μ, callD L.tab W (n + 1) jl [.d (.kls (ns.map D.int))] [] = .ok (.d (.bl true)) μ) :
    PySem.W.WalkO q loose XP (hookZ dp L).says l.row.toRowW d [] (fun f vs => PySem.call f vs) := by
  refine Att.attach_callB hn hdf fun w s₀ s₁ mg mb fa o pm cd doc a vs ns G Y ho hd hcd hmg hobj hints hlen hbits hg => ?_
  obtain ⟨K, KX, c⟩ := Y
  obtain ⟨fd, T0, hb⟩ := law_txt (P := l.prog) (w := w) hok KX G.T.g c
  have eat : al.at K = He.fAd K al.d.at_ := by
    unfold FnAll.at
    rw [hkd]
    rfl
  have efa : fa = al.at K := by
    have e := He.glo_ok KX G.T.g (c.x.t.d.facts (f := .glo al.d.name) (List.mem_append_left _ (List.mem_filterMap.mpr ⟨al, List.mem_of_getElem? hal, by rw [if_pos hkd]⟩)))
    rw [hnm, e] at hmg
    cases hmg
    rw [eat, hat]
    rfl
  have e1 : ∀ base, (gOf l.prog w K mg base L).fA jl = fa := fun base => by
    show (match L.fns[jl]? with | some a => a.at K | none => 0) = _
    rw [hal, efa]
  have hbind : ∀ (s : Shared) (u : Value), BindsTo s (fd jl) ⟨[u], []⟩ [(x, u)] := fun s u => by
    have z := hb jl al hal hdl s [u] (by rw [hx]; rfl)
    rw [hx] at z
    exact z
  refine law_call (CX := L2N.CX l.prog w) (k := n + 2) (x := x) (sp := fun vs H Q E => ∃ (a : Addr) (ns : List Int), vs = [.ref a] ∧ SqL K H a (ns.map V.int) ∧ ns.length ≤ m ∧ (∀ z ∈ ns, Builtin.Int.intBits z ≤ 1048576) ∧ ∀ H', Q (.bl true) H') KX G.T.g G.T.b G.T.builtins G.T.nolimit hg hobj hints (Nat.le_trans hlen hn2) hr (fun base _ _ => ?_) hbind
    (fun H _ hS => ⟨a, ns, rfl, hS, hlen, hbits, fun _ => rfl⟩) (fun H e s' z => by
      obtain ⟨_, _, _, _, _, _, _, _, _, _, _, _, z⟩ := z
      exact z)
  have F := fn_ok (W := W) (txt_all (T0 base) n) ((T0 base).defs jl al.info (by
    show (L.fns.map FnAll.info)[jl]? = _
    rw [List.getElem?_map, hal]
    rfl))
  rw [e1] at F
  have F' : FnOk l.prog w K mg base (L2N.CX l.prog w) (n + 2) fa (fd jl) [x] (spF (gOf l.prog w K mg base L) (callD L.tab W (n + 1)) jl) := by
    have e2 : al.info.ps = [x] := hx
    rw [← e2]
    exact F
  refine F'.imp fun vs H Q E ⟨a, ns, e, hS, h1, h2, hQ⟩ => ?_
  subst e
  obtain ⟨μ, e⟩ := law ns h1 h2
  refine ⟨H, [], [], [.d (.kls (ns.map D.int))], ⟨Ex.refl _, fun i x e => by simp at e, Nat.le_refl _, rfl, List.nodup_nil, fun a h => (by cases h), fun k nd a e => by simp at e⟩, .cons (Den.kls hS (denInts _ _)) .nil, ?_⟩
  rw [e]
  intro v A B C s r dv
  have dv : Den _ A v (.bl true) := dv
  cases dv
  exact hQ B
end DL

/-! PL1: how a text is run by hand. -/
namespace DL
open PySem L2
theorem tidy_self (μ : Mu) : (tidy μ.length [] μ).2 = μ := by
  unfold tidy
  split <;> simp
theorem tidy_len {μ μ' : Mu} (h : μ'.length = μ.length) : (tidy μ.length [] μ').2 = μ' := by
  rw [← h]
  exact tidy_self μ'
theorem tidy_env {μ μ' : Mu} {ρ : Env} (h : μ'.length = μ.length) (hr : ∀ k, some (X.r k) ∈ ρ → k < μ.length) : tidy μ.length ρ μ' = (ρ, μ') := by
  unfold tidy
  split
  · rw [← h, List.take_length]
    congr 1
    have : ∀ o ∈ ρ, clr μ'.length o = o := fun o ho => by
      unfold clr
      split
      · rename_i k
        rw [if_pos (by rw [h]; exact hr k ho)]
      · rfl
    rw [List.map_congr_left this]
    simp
  · rfl
theorem call_eq {T : Tab} {W n j : Nat} {xs : List X} {μ : Mu} {f : Fn} (h : T.fns[j]? = some f) (hl : xs.length = f.ar) : callD T W (n + 1) j xs μ = fin μ.length (evSs (parOf T W n) f.body (xs.map some ++ List.replicate (f.sl - f.ar) none) μ) := by
  rw [callD_succ]
  simp only [bodyD, h, hl, if_true]
theorem fin_d {n : Nat} {x : D} {μ : Mu} (h : μ.length = n) : fin n (.ok (.rt (.d x)) μ) = .ok (.d x) μ := by
  unfold fin
  dsimp only
  rw [← h, tidy_self]
theorem fin_r {n k : Nat} {μ : Mu} : fin n (.ok (.rt (.r k)) μ) = .ok (.r k) μ := rfl
theorem fin_nx {n : Nat} {ρ : Env} {μ : Mu} (h : μ.length = n) : fin n (.ok (.nx ρ) μ) = .ok (.d .non) μ := by
  unfold fin
  dsimp only
  rw [← h, tidy_self]
theorem mulOk_of {i j : Int} {a b : Nat} (hi : i.natAbs < 2 ^ a) (hj : j.natAbs < 2 ^ b) (h : a + b ≤ 900000) : mulOk i j = true := by
  unfold mulOk
  apply decide_eq_true
  have h1 : i.natAbs.log2 ≤ a := by
    by_cases z : i.natAbs = 0
    · rw [z]; simp [Nat.log2_zero]
    · exact Nat.le_of_lt ((Nat.log2_lt z).mpr hi)
  have h2 : j.natAbs.log2 ≤ b := by
    by_cases z : j.natAbs = 0
    · rw [z]; simp [Nat.log2_zero]
    · exact Nat.le_of_lt ((Nat.log2_lt z).mpr hj)
  omega
theorem divOk_of {j : Int} {b : Nat} (h0 : 0 < j) (hj : j.natAbs < 2 ^ b) (h : b ≤ 9000) : divOk j = true := by
  unfold divOk
  rw [decide_eq_true h0, Bool.true_and]
  apply decide_eq_true
  have z : j.natAbs ≠ 0 := by omega
  have := (Nat.log2_lt z).mpr hj
  omega
end DL

/-! PL2: running a text by rules, one step behind another. -/
namespace DL
open PySem L2
section
variable {P : Par} {ρ : Env} {μ : Mu}
structure WE (P : Par) (e : E) (ρ : Env) (μ : Mu) (K : X → Mu → Prop) : Prop where
  ex : ∃ x μ', evE P e ρ μ = .ok x μ' ∧ K x μ'
structure WA (P : Par) (e : Es) (ρ : Env) (μ : Mu) (K : List X → Mu → Prop) : Prop where
  ex : ∃ x μ', evEs P e ρ μ = .ok x μ' ∧ K x μ'
structure WT (P : Par) (t : T) (ρ : Env) (μ : Mu) (K : Bool → Mu → Prop) : Prop where
  ex : ∃ x μ', evT P t ρ μ = .ok x μ' ∧ K x μ'
structure WI (P : Par) (t : It) (ρ : Env) (μ : Mu) (K : List D → Mu → Prop) : Prop where
  ex : ∃ x μ', evIt P t ρ μ = .ok x μ' ∧ K x μ'
structure WS (P : Par) (s : Ss) (ρ : Env) (μ : Mu) (Q : Fl → Mu → Prop) : Prop where
  ex : ∃ x μ', evSs P s ρ μ = .ok x μ' ∧ Q x μ'
structure WO (P : Par) (e : Eo) (ρ : Env) (μ : Mu) (K : Option Int → Mu → Prop) : Prop where
  ex : ∃ x μ', evO P e ρ μ = .ok x μ' ∧ K x μ'
structure WC1 (C : CallF) (j : Nat) (xs : List X) (μ : Mu) (K : X → Mu → Prop) : Prop where
  ex : ∃ x μ', C j xs μ = .ok x μ' ∧ K x μ'
/-- what stands as an int, a value, a cell .. -/
structure asI (x : X) (K : Int → Prop) : Prop where
  ex : ∃ i, x = .d (.int i) ∧ K i
structure asD (x : X) (K : D → Prop) : Prop where
  ex : ∃ i, x = .d i ∧ K i
structure asB (x : X) (K : Bool → Prop) : Prop where
  ex : ∃ i, x = .d (.bl i) ∧ K i
structure asL (μ : Mu) (x : X) (K : List D → Prop) : Prop where
  ex : ∃ i, viewS μ x = some (.lst i) ∧ K i
structure asS (x : X) (K : List D → Prop) : Prop where
  ex : ∃ d i, x = .d d ∧ seqOf d = some i ∧ K i
structure asZ {α : Type} (o : Option α) (K : α → Prop) : Prop where
  ex : ∃ z, o = some z ∧ K z
structure asO (r : R X) (K : X → Mu → Prop) : Prop where
  ex : ∃ x μ2, r = .ok x μ2 ∧ K x μ2
structure asG (p K : Prop) : Prop where
  h : p
  k : K
structure as1 (xs : List X) (K : D → Prop) : Prop where
  ex : ∃ d, xs = [.d d] ∧ K d
structure asT (x : X) (K : List D → Prop) : Prop where
  ex : ∃ xs, x = .d (.tup xs) ∧ K xs
theorem asZ_mk {α : Type} {z : α} {K : α → Prop} (h : K z) : asZ (some z) K := ⟨z, rfl, h⟩
theorem asZ_of {α : Type} {o : Option α} {z : α} {K : α → Prop} (e : o = some z) (h : K z) : asZ o K := ⟨z, e, h⟩
theorem asO_mk {x : X} {μ : Mu} {K : X → Mu → Prop} (h : K x μ) : asO (.ok x μ) K := ⟨x, μ, rfl, h⟩
theorem asO_of {r : R X} {x : X} {μ : Mu} {K : X → Mu → Prop} (e : r = .ok x μ) (h : K x μ) : asO r K := ⟨x, μ, e, h⟩
theorem asG_mk {p K : Prop} (h : p) (k : K) : asG p K := ⟨h, k⟩
theorem as1_mk {d : D} {K : D → Prop} (h : K d) : as1 [.d d] K := ⟨d, rfl, h⟩
theorem asT_mk {d : List D} {K : List D → Prop} (h : K d) : asT (.d (.tup d)) K := ⟨d, rfl, h⟩
structure asV (μ : Mu) (x : X) (K : D → Prop) : Prop where
  ex : ∃ d, viewS μ x = some d ∧ K d
structure asR (x : X) (K : Nat → Prop) : Prop where
  ex : ∃ i, x = .r i ∧ K i
/-- a list in a cell -/
structure asC (μ : Mu) (k : Nat) (K : List D → Prop) : Prop where
  ex : ∃ xs, μ[k]? = some (some (.lst xs)) ∧ K xs
theorem asV_d {d : D} {K : D → Prop} (h : K (unk d)) : asV μ (.d d) K := ⟨_, rfl, h⟩
/-- .. as it is to a test -/
structure asW (μ : Mu) (x : X) (K : D → Prop) : Prop where
  ex : ∃ d, view μ x = some d ∧ K d
theorem asW_d {d : D} {K : D → Prop} (h : K d) : asW μ (.d d) K := ⟨_, rfl, h⟩
theorem asW_r {k : Nat} {i : List D} {K : D → Prop} (e : μ[k]? = some (some (.lst i))) (h : K (.lst i)) : asW μ (.r k) K := ⟨_, by simp only [view, e, Node.toD], h⟩
theorem asV_r {k : Nat} {i : List D} {K : D → Prop} (e : μ[k]? = some (some (.lst i))) (h : K (.lst i)) : asV μ (.r k) K := ⟨_, by simp only [viewS, unk, Option.map_some, view, e, Node.toD], h⟩
theorem asR_mk {i : Nat} {K : Nat → Prop} (h : K i) : asR (.r i) K := ⟨i, rfl, h⟩
theorem asC_mk {k : Nat} {i : List D} {K : List D → Prop} (e : μ[k]? = some (some (.lst i))) (h : K i) : asC μ k K := ⟨i, e, h⟩
theorem asI_mk {i : Int} {K : Int → Prop} (h : K i) : asI (.d (.int i)) K := ⟨i, rfl, h⟩
theorem asD_mk {i : D} {K : D → Prop} (h : K i) : asD (.d i) K := ⟨i, rfl, h⟩
theorem asB_mk {i : Bool} {K : Bool → Prop} (h : K i) : asB (.d (.bl i)) K := ⟨i, rfl, h⟩
theorem asL_d {i : List D} {K : List D → Prop} (h : K i) : asL μ (.d (.lst i)) K := ⟨i, rfl, h⟩
theorem asL_r {k : Nat} {i : List D} {K : List D → Prop} (e : μ[k]? = some (some (.lst i))) (h : K i) : asL μ (.r k) K := ⟨i, by simp only [viewS, unk, Option.map_some, view, e, Node.toD], h⟩
theorem asS_l {i : List D} {K : List D → Prop} (h : K i) : asS (.d (.lst i)) K := ⟨_, i, rfl, rfl, h⟩
theorem asS_k {i : List D} {K : List D → Prop} (h : K i) : asS (.d (.kls i)) K := ⟨_, i, rfl, rfl, h⟩
theorem asS_t {i : List D} {K : List D → Prop} (h : K i) : asS (.d (.tup i)) K := ⟨_, i, rfl, rfl, h⟩
theorem asS_s {z : Str} {K : List D → Prop} (h : K (z.cps.toList.map fun c => .str (oneS c))) : asS (.d (.str z)) K := ⟨_, _, rfl, rfl, h⟩
theorem put_cell {μ : Mu} {k : Nat} {o o' : Option Node} (h : μ[k]? = some o) : (μ.set k o')[k]? = some o' := by
  have := (List.getElem?_eq_some_iff.mp h).1
  rw [List.getElem?_set_self this]
theorem allocF {ds : List D} (h : ds.length ≤ 1000000) : alloc false (.lst ds) μ = .ok (.d (.lst ds)) μ := if_pos (c := (Node.lst ds).size ≤ 1000000) h
theorem allocT {ds : List D} (h : ds.length ≤ 1000000) : alloc true (.lst ds) μ = .ok (.r μ.length) (μ ++ [some (.lst ds)]) := if_pos (c := (Node.lst ds).size ≤ 1000000) h
/-! ### expressions -/
section
variable {K : X → Mu → Prop} {a b c : E} {es : Es} {t : T}
theorem we_var {i : Nat} {x : X} (e : ρ[i]? = some (some x)) (h : K x μ) : WE P (.var i) ρ μ K := ⟨x, μ, by simp only [evE, e], h⟩
theorem we_con {d : D} (h : K (.d d) μ) : WE P (.con d) ρ μ K := ⟨_, μ, by simp only [evE], h⟩
theorem we_glo {i : Nat} {d : D} (e : P.glo i = some d) (h : K (.d d) μ) : WE P (.glo i) ρ μ K := ⟨_, μ, by simp only [evE, e, Option.map_some, R.lift], h⟩
/-- a binary operator -/
structure asOp (P : Par) (op : Bop) (x y : X) (μ : Mu) (K : X → Mu → Prop) : Prop where
  ex : ∃ z μ', binX P op x y μ = .ok z μ' ∧ K z μ'
structure asCmp (P : Par) (op : Cop) (x y : X) (μ : Mu) (K : Bool → Mu → Prop) : Prop where
  ex : ∃ b μ', cmpX P op x y μ = .ok b μ' ∧ K b μ'
theorem asOp_int {op : Bop} {i j : Int} (h : asZ (binI op i j) fun z => K (.d (.int z)) μ) : asOp P op (.d (.int i)) (.d (.int j)) μ K := by
  obtain ⟨z, e, h⟩ := h
  exact ⟨_, μ, by simp only [binX, binZ, e, Option.map_some, R.lift], h⟩
theorem asOp_str {s u : Str} (hl : s.length + u.length ≤ 1000000) (h : K (.d (.str (s ++ u))) μ) : asOp P .add (.d (.str s)) (.d (.str u)) μ K :=
  ⟨_, μ, by simp only [binX, binZ, insOf, addD, view, if_pos hl], h⟩
theorem asOp_tup {s u : List D} (hl : s.length + u.length ≤ 1000000) (h : K (.d (.tup (s ++ u))) μ) : asOp P .add (.d (.tup s)) (.d (.tup u)) μ K :=
  ⟨_, μ, by simp only [binX, binZ, insOf, addD, view, if_pos hl], h⟩
theorem asOp_lst {s u : List D} (hl : (s ++ u).length ≤ 1000000) (h : K (.d (.lst (s ++ u))) μ) : asOp P .add (.d (.lst s)) (.d (.lst u)) μ K :=
  ⟨_, μ, by simp only [binX, binZ, insOf, addD, view, allocF hl], h⟩
theorem asOp_lstR {s u : List D} {k : Nat} (e : μ[k]? = some (some (.lst s))) (hl : (s ++ u).length ≤ 1000000) (h : K (.d (.lst (s ++ u))) μ) : asOp P .add (.r k) (.d (.lst u)) μ K :=
  ⟨_, μ, by simp only [binX, binZ, insOf, e, addD, view, Node.toD, allocF hl], h⟩
theorem asOp_own {op : Bop} {c j : Nat} {fs gs : List (Str × D)} (e : P.methOf c (opMeth op) = some j) (h : WC1 P.C1 j [.d (.ins c fs), .d (.ins c gs)] μ K) : asOp P op (.d (.ins c fs)) (.d (.ins c gs)) μ K := by
  obtain ⟨x, μ1, e1, h⟩ := h
  exact ⟨x, μ1, by simp only [binX, binZ, insOf, ownM, e, e1, quiet, if_true], h⟩
theorem we_bin {op : Bop} (h : WE P a ρ μ fun x μ1 => WE P b ρ μ1 fun y μ2 => asOp P op x y μ2 K) : WE P (.bin op a b) ρ μ K := by
  obtain ⟨x, μ1, e1, y, μ2, e2, z, μ3, e3, h⟩ := h
  exact ⟨_, μ3, by simp only [evE, e1, e2, R.bind, e3], h⟩
theorem we_binC (h : WE P a ρ μ fun x μ1 => WE P b ρ μ1 fun y μ2 => asW μ2 x fun d => asW μ2 y fun d' => ∃ s u, d = .lst s ∧ d' = .lst u ∧ (s ++ u).length ≤ 1000000 ∧ K (.r μ2.length) (μ2 ++ [some (.lst (s ++ u))])) : WE P (.binC a b) ρ μ K := by
  obtain ⟨x, μ1, e1, y, μ2, e2, d, e3, d', e4, s, u, rfl, rfl, hl, h⟩ := h
  exact ⟨_, _, by simp only [evE, e1, e2, R.bind, addC, e3, e4, allocT hl], h⟩
def negP (P : Par) (x : X) (μ : Mu) : R X := match x with
  | .d (.int i) => .ok (.d (.int (-i))) μ
  | .d (.ins c fs) => ownM P c "__neg__" [.d (.ins c fs)] μ
  | _ => .no
structure asNeg (P : Par) (x : X) (μ : Mu) (K : X → Mu → Prop) : Prop where
  ex : ∃ z μ', negP P x μ = R.ok z μ' ∧ K z μ'
theorem asNeg_int {i : Int} (h : K (.d (.int (-i))) μ) : asNeg P (.d (.int i)) μ K := ⟨_, _, rfl, h⟩
theorem asNeg_own {c j : Nat} {fs : List (Str × D)} (e : P.methOf c "__neg__" = some j) (h : WC1 P.C1 j [.d (.ins c fs)] μ K) : asNeg P (.d (.ins c fs)) μ K := by
  obtain ⟨x, μ1, e1, h⟩ := h
  exact ⟨x, μ1, by simp only [negP, ownM, e, e1, quiet], h⟩
theorem we_neg (h : WE P a ρ μ fun x μ1 => asNeg P x μ1 K) : WE P (.neg a) ρ μ K := by
  obtain ⟨x, μ1, e1, z, μ2, e2, h⟩ := h
  refine ⟨z, μ2, ?_, h⟩
  simp only [evE, e1, R.bind]
  exact e2
theorem asCmp_mk {op : Cop} {x y : X} {K : Bool → Mu → Prop} (h0 : ownCmp P op x y μ = none) (h : asZ (cmpD μ op x y) fun z => K z μ) : asCmp P op x y μ K := by
  obtain ⟨z, e, h⟩ := h
  exact ⟨z, μ, by simp only [cmpX, h0, e, R.lift], h⟩
theorem asCmp_in {c j : Nat} {x : X} {fs : List (Str × D)} {K : Bool → Mu → Prop} (e : P.methOf c "__contains__" = some j) (h : WC1 P.C1 j [.d (.ins c fs), x] μ fun z μ1 => asB z fun b => K b μ1) : asCmp P .isin x (.d (.ins c fs)) μ K := by
  obtain ⟨x, μ1, e1, b, rfl, h⟩ := h
  exact ⟨b, μ1, by simp only [cmpX, ownCmp, insOf, Option.map_some, ownM, e, e1, quiet, boolR], h⟩
theorem asCmp_notin {c j : Nat} {x : X} {fs : List (Str × D)} {K : Bool → Mu → Prop} (e : P.methOf c "__contains__" = some j) (h : WC1 P.C1 j [.d (.ins c fs), x] μ fun z μ1 => asB z fun b => K (!b) μ1) : asCmp P .notin x (.d (.ins c fs)) μ K := by
  obtain ⟨x, μ1, e1, b, rfl, h⟩ := h
  exact ⟨!b, μ1, by simp only [cmpX, ownCmp, insOf, Option.map_some, ownM, e, e1, quiet, boolR, notR], h⟩
theorem asCmp_eq {c j : Nat} {y : X} {fs : List (Str × D)} {K : Bool → Mu → Prop} (e : P.methOf c "__eq__" = some j) (hy : eqTo μ y = true) (h : WC1 P.C1 j [.d (.ins c fs), y] μ fun z μ1 => asB z fun b => K b μ1) : asCmp P .eq (.d (.ins c fs)) y μ K := by
  obtain ⟨x, μ1, e1, b, rfl, h⟩ := h
  exact ⟨b, μ1, by simp only [cmpX, ownCmp, insOf, Option.map_some, hy, if_true, ownM, e, e1, quiet, boolR], h⟩
theorem asCmp_ne {c j : Nat} {y : X} {fs : List (Str × D)} {K : Bool → Mu → Prop} (e : P.methOf c "__eq__" = some j) (hy : eqTo μ y = true) (h : WC1 P.C1 j [.d (.ins c fs), y] μ fun z μ1 => asB z fun b => K (!b) μ1) : asCmp P .ne (.d (.ins c fs)) y μ K := by
  obtain ⟨x, μ1, e1, b, rfl, h⟩ := h
  exact ⟨!b, μ1, by simp only [cmpX, ownCmp, insOf, Option.map_some, hy, if_true, ownM, e, e1, quiet, boolR, notR], h⟩
theorem we_cmp {op : Cop} (h : WE P a ρ μ fun x μ1 => WE P b ρ μ1 fun y μ2 => asCmp P op x y μ2 fun z μ3 => K (.d (.bl z)) μ3) : WE P (.cmp op a b) ρ μ K := by
  obtain ⟨x, μ1, e1, y, μ2, e2, z, μ3, e3, h⟩ := h
  exact ⟨_, μ3, by simp only [evE, e1, e2, R.bind, e3], h⟩
theorem we_chain {o1 o2 : Cop} (h : WE P a ρ μ fun x μ1 => WE P b ρ μ1 fun y μ2 => asCmp P o1 x y μ2 fun z μ3 => (z = false → K (.d (.bl false)) μ3) ∧ (z = true → WE P c ρ μ3 fun u μ4 => asCmp P o2 y u μ4 fun w μ5 => K (.d (.bl w)) μ5)) : WE P (.chain o1 o2 a b c) ρ μ K := by
  obtain ⟨x, μ1, e1, y, μ2, e2, z, μ3, e3, h1, h2⟩ := h
  cases z with
  | false => exact ⟨_, μ3, by simp only [evE, e1, e2, R.bind, e3]; rfl, h1 rfl⟩
  | true =>
    obtain ⟨u, μ4, e4, w, μ5, e5, h⟩ := h2 rfl
    exact ⟨_, μ5, by simp only [evE, e1, e2, R.bind, e3, if_true, e4, e5], h⟩
/-! instances -/
theorem we_fldD {f : Str} (h : WE P a ρ μ fun x μ1 => ∃ c fs v, x = .d (.ins c fs) ∧ P.propOf c f = none ∧ P.fldOk c f = true ∧ fs.lookup f = some v ∧ K (.d v) μ1) : WE P (.fld a f) ρ μ K := by
  obtain ⟨x, μ1, e1, c, fs, v, rfl, e2, e3, e4, h⟩ := h
  exact ⟨_, μ1, by simp only [evE, e1, R.bind, fldP, insOf, e2, e3, if_true, fldX, e4, Option.map_some, R.lift], h⟩
theorem we_fldP {f : Str} (h : WE P a ρ μ fun x μ1 => ∃ c j, insOf μ1 x = some c ∧ P.propOf c f = some j ∧ WC1 P.C1 j [x] μ1 K) : WE P (.fld a f) ρ μ K := by
  obtain ⟨x, μ1, e1, c, j, e2, e3, y, μ2, e4, h⟩ := h
  exact ⟨_, μ2, by simp only [evE, e1, R.bind, fldP, e2, e3, e4, quiet], h⟩
/-- a field or a property of an instance, whatever -/
structure asF (P : Par) (x : X) (f : Str) (μ : Mu) (K : X → Mu → Prop) : Prop where
  ex : ∃ z μ', fldP P x f μ = .ok z μ' ∧ K z μ'
theorem we_fld {f : Str} (h : WE P a ρ μ fun x μ1 => asF P x f μ1 K) : WE P (.fld a f) ρ μ K := by
  obtain ⟨x, μ1, e1, z, μ2, e2, h⟩ := h
  exact ⟨_, μ2, by simp only [evE, e1, R.bind, e2], h⟩
theorem asF_of {x : X} {f : Str} {v : X} (e : fldP P x f μ = .ok v μ) (h : K v μ) : asF P x f μ K := ⟨_, _, e, h⟩
theorem asF_p {c j : Nat} {fs : List (Str × D)} {f : Str} (e : P.propOf c f = some j) (h : WC1 P.C1 j [.d (.ins c fs)] μ K) : asF P (.d (.ins c fs)) f μ K := by
  obtain ⟨y, μ2, e4, h⟩ := h
  exact ⟨_, μ2, by simp only [fldP, insOf, e, e4, quiet], h⟩
theorem fldP_d {c : Nat} {fs : List (Str × D)} {f : Str} {v : D} (e1 : P.propOf c f = none) (e2 : P.fldOk c f = true) (e3 : fs.lookup f = some v) : fldP P (.d (.ins c fs)) f μ = .ok (.d v) μ := by
  simp only [fldP, insOf, e1, e2, if_true, fldX, e3, Option.map_some, R.lift]
theorem fldP_r {c k : Nat} {fs : List (Str × X)} {f : Str} {v : X} (e : μ[k]? = some (some (.ins c fs))) (e1 : P.propOf c f = none) (e2 : P.fldOk c f = true) (e3 : fs.lookup f = some v) : fldP P (.r k) f μ = .ok v μ := by
  simp only [fldP, insOf, e, e1, e2, if_true, fldX, e3, R.lift]
theorem we_meth {m : Str} {ds : List D} (h : WE P a ρ μ fun x μ1 => ∃ c j, insOf μ1 x = some c ∧ P.methOf c m = some j ∧ fldX μ1 x m = none ∧ WA P es ρ μ1 fun xs μ2 => WC1 P.C j (x :: (xs ++ ds.map X.d)) μ2 K) : WE P (.meth m a es ds) ρ μ K := by
  obtain ⟨x, μ1, e1, c, j, e2, e3, e4, xs, μ2, e5, y, μ3, e6, h⟩ := h
  exact ⟨_, μ3, by simp only [evE, e1, R.bind, e2, e3, e4, Option.isNone_none, if_true, e5, e6], h⟩
theorem we_mk {c j : Nat} {ds : List D} (e : P.methOf c "__init__" = some j) (h : WA P es ρ μ fun xs μ1 => WC1 P.C1 j (.r μ1.length :: (xs ++ ds.map X.d)) (μ1 ++ [some (.ins c [])]) fun y μ2 => y = .d .non ∧ K (.r μ1.length) μ2) : WE P (.mk c es ds) ρ μ K := by
  obtain ⟨xs, μ1, e5, y, μ2, e6, rfl, h⟩ := h
  exact ⟨_, μ2, by simp only [evE, e5, R.bind, e, e6], h⟩
/-! slices, displays -/
theorem we_sl {cl : Bool} {lo hi : Eo} (h : WE P a ρ μ fun x μ1 => WO P lo ρ μ1 fun l μ2 => WO P hi ρ μ2 fun u μ3 => asO (slD μ3 cl x l u) K) : WE P (.sl cl a lo hi) ρ μ K := by
  obtain ⟨x, μ1, e1, l, μ2, e2, u, μ3, e3, z, μ4, e4, h⟩ := h
  exact ⟨_, μ4, by simp only [evE, e1, e2, e3, R.bind, e4], h⟩
theorem wo_none {K : Option Int → Mu → Prop} (h : K none μ) : WO P .none ρ μ K := ⟨_, μ, by simp only [evO], h⟩
theorem wo_some {K : Option Int → Mu → Prop} (h : WE P a ρ μ fun x μ1 => asI x fun i => K (some i) μ1) : WO P (.some a) ρ μ K := by
  obtain ⟨x, μ1, e1, i, rfl, h⟩ := h
  exact ⟨_, μ1, by simp only [evO, e1, R.bind, intX, Option.map_some, R.lift], h⟩
theorem we_rv {cl : Bool} (h : WE P a ρ μ fun x μ1 => asO (rvD μ1 cl x) K) : WE P (.rv cl a) ρ μ K := by
  obtain ⟨x, μ1, e1, z, μ4, e4, h⟩ := h
  exact ⟨_, μ4, by simp only [evE, e1, R.bind, e4], h⟩
theorem we_dicF (h : WA P es ρ μ fun xs μ1 => asZ (pairs xs) fun kvs => asG ((decide (xs.length ≤ 30) && !xs.isEmpty) = true) <| K (.d (.dic kvs)) μ1) : WE P (.dic false es) ρ μ K := by
  obtain ⟨xs, μ1, e1, kvs, e2, e3, h⟩ := h
  exact ⟨_, μ1, by simp only [evE, e1, R.bind, e2, e3, if_true], h⟩
theorem we_not (h : WE P a ρ μ fun x μ1 => asB x fun i => K (.d (.bl (!i))) μ1) : WE P (.not a) ρ μ K := by
  obtain ⟨x, μ1, e1, i, rfl, h⟩ := h
  exact ⟨_, μ1, by simp only [evE, e1, R.bind], h⟩
theorem we_bop1 {cj : Bool} (h : WE P a ρ μ K) : WE P (.bop cj (.cons a .nil)) ρ μ K := by
  obtain ⟨x, μ1, e1, h⟩ := h
  exact ⟨_, μ1, by simp only [evE, evB, e1, R.bind], h⟩
theorem we_bop {cj : Bool} {r : Es} (h : WE P a ρ μ fun x μ1 => asB x fun i => (i = cj → WE P (.bop cj (.cons b r)) ρ μ1 K) ∧ (i = !cj → K (.d (.bl i)) μ1)) : WE P (.bop cj (.cons a (.cons b r))) ρ μ K := by
  obtain ⟨x, μ1, e1, i, rfl, h1, h2⟩ := h
  by_cases hi : i = cj
  · obtain ⟨y, μ2, e2, h⟩ := h1 hi
    refine ⟨y, μ2, ?_, h⟩
    simp only [evE] at e2 ⊢
    rw [evB]
    simp only [e1, R.bind, if_pos hi, e2]
  · have : i = !cj := by cases i <;> cases cj <;> simp_all
    exact ⟨_, μ1, by simp only [evE]; rw [evB]; simp only [e1, R.bind, if_neg hi], h2 this⟩
theorem we_ife (h : WT P t ρ μ fun k μ1 => (k = true → WE P a ρ μ1 K) ∧ (k = false → WE P b ρ μ1 K)) : WE P (.ife t a b) ρ μ K := by
  obtain ⟨k, μ1, e1, h1, h2⟩ := h
  cases k with
  | true =>
    obtain ⟨x, μ2, e2, h⟩ := h1 rfl
    exact ⟨x, μ2, by simp only [evE, e1, R.bind, if_true, e2], h⟩
  | false =>
    obtain ⟨x, μ2, e2, h⟩ := h2 rfl
    exact ⟨x, μ2, by simp only [evE, e1, R.bind, e2]; rfl, h⟩
theorem wa_nil {K : List X → Mu → Prop} (h : K [] μ) : WA P .nil ρ μ K := ⟨_, μ, by simp only [evEs], h⟩
theorem wa_cons {K : List X → Mu → Prop} (h : WE P a ρ μ fun x μ1 => WA P es ρ μ1 fun xs μ2 => K (x :: xs) μ2) : WA P (.cons a es) ρ μ K := by
  obtain ⟨x, μ1, e1, xs, μ2, e2, h⟩ := h
  exact ⟨_, μ2, by simp only [evEs, e1, e2, R.bind], h⟩
def dsOf : List X → Option (List D)
  | [] => some []
  | .d x :: r => (dsOf r).map (x :: ·)
  | .r _ :: _ => none
theorem dsOf_eq : ∀ xs : List X, xs.mapM X.dOf = dsOf xs
  | [] => rfl
  | .d x :: r => by
    rw [List.mapM_cons, dsOf_eq r]
    show (Option.bind (some x) _) = _
    simp only [dsOf, Option.bind_some]
    cases dsOf r <;> rfl
  | .r _ :: r => by
    rw [List.mapM_cons]
    rfl
theorem we_tup (h : WA P es ρ μ fun xs μ1 => asZ (dsOf xs) fun ds => asG (ds.length ≤ 1000000) <| K (.d (.tup ds)) μ1) : WE P (.tup es) ρ μ K := by
  obtain ⟨xs, μ1, e1, ds, e2, e3, h⟩ := h
  rw [← dsOf_eq] at e2
  exact ⟨_, μ1, by simp only [evE, e1, R.bind, e2, Option.bind_some, if_pos e3, R.lift], h⟩
theorem we_lstF (h : WA P es ρ μ fun xs μ1 => asZ (dsOf xs) fun ds => asG (ds.length ≤ 1000000) <| K (.d (.lst ds)) μ1) : WE P (.lst false es) ρ μ K := by
  obtain ⟨xs, μ1, e1, ds, e2, e3, h⟩ := h
  rw [← dsOf_eq] at e2
  exact ⟨_, μ1, by simp only [evE, e1, R.bind, e2, allocF e3], h⟩
theorem we_lstT (h : WA P es ρ μ fun xs μ1 => asZ (dsOf xs) fun ds => asG (ds.length ≤ 1000000) <| K (.r μ1.length) (μ1 ++ [some (.lst ds)])) : WE P (.lst true es) ρ μ K := by
  obtain ⟨xs, μ1, e1, ds, e2, e3, h⟩ := h
  rw [← dsOf_eq] at e2
  exact ⟨_, _, by simp only [evE, e1, R.bind, e2, allocT e3], h⟩
theorem we_idx (h : WE P a ρ μ fun x μ1 => WE P b ρ μ1 fun y μ2 => asV μ2 x fun d => asD y fun i => asZ (idxD d i) fun z => K (.d z) μ2) : WE P (.idx a b) ρ μ K := by
  obtain ⟨x, μ1, e1, y, μ2, e2, d, e3, i, rfl, z, e4, h⟩ := h
  exact ⟨_, μ2, by simp only [evE, e1, e2, R.bind, e3, e4, Option.map_some, R.lift], h⟩
theorem we_call {j : Nat} {ds : List D} (h : WA P es ρ μ fun xs μ1 => WC1 P.C j (xs ++ ds.map X.d) μ1 K) : WE P (.call j es ds) ρ μ K := by
  obtain ⟨xs, μ1, e1, x, μ2, e2, h⟩ := h
  exact ⟨x, μ2, by simp only [evE, e1, R.bind, e2], h⟩
theorem asO_abs {c j : Nat} {cl : Bool} {fs : List (Str × D)} (e : P.methOf c "__abs__" = some j) (h : WC1 P.C1 j [.d (.ins c fs)] μ K) : asO (bltP P μ cl .abs [.d (.ins c fs)]) K := by
  obtain ⟨x, μ1, e1, h⟩ := h
  exact ⟨x, μ1, by simp only [bltP, ownB, ownM, e, e1, quiet], h⟩
theorem asO_bool {c j : Nat} {cl : Bool} {fs : List (Str × D)} (e : P.methOf c "__bool__" = some j) (h : WC1 P.C1 j [.d (.ins c fs)] μ fun z μ1 => asB z fun b => K (.d (.bl b)) μ1) : asO (bltP P μ cl .bool [.d (.ins c fs)]) K := by
  obtain ⟨x, μ1, e1, b, rfl, h⟩ := h
  exact ⟨_, μ1, by simp only [bltP, ownB, ownM, e, e1, quiet, boolR, R.bind], h⟩
theorem asO_fmtI {i : Int} (hl : i.natAbs.log2 < 1920) (h : K (.d (.str (toString i))) μ) : asO (fmtX (.d (.int i)) μ) K := ⟨_, _, by simp only [fmtX, if_pos hl], h⟩
theorem asO_fmtS {z : Str} (hl : z.length ≤ 1000000) (h : K (.d (.str z)) μ) : asO (fmtX (.d (.str z)) μ) K := ⟨_, _, by simp only [fmtX, if_pos hl], h⟩
theorem we_fmt (h : WE P a ρ μ fun x μ1 => asO (fmtX x μ1) K) : WE P (.fmt a) ρ μ K := by
  obtain ⟨x, μ1, e1, z, μ2, e2, h⟩ := h
  exact ⟨z, μ2, by simp only [evE, e1, R.bind, e2], h⟩
theorem we_jn1 (h : WE P a ρ μ K) : WE P (.jn1 a) ρ μ K := by
  obtain ⟨x, μ1, e1, h⟩ := h
  exact ⟨x, μ1, by simp only [evE, e1], h⟩
/-- an f-string's parts -/
structure WJ (P : Par) (es : Es) (acc : Str) (ρ : Env) (μ : Mu) (K : Str → Mu → Prop) : Prop where
  ex : ∃ z μ', evJ P es acc ρ μ = .ok z μ' ∧ K z μ'
structure asSt (x : X) (K : Str → Prop) : Prop where
  ex : ∃ y, x = .d (.str y) ∧ K y
theorem asSt_mk {y : Str} {K : Str → Prop} (h : K y) : asSt (.d (.str y)) K := ⟨y, rfl, h⟩
theorem wj_nil {acc : Str} {K : Str → Mu → Prop} (h : K acc μ) : WJ P .nil acc ρ μ K := ⟨acc, μ, by simp only [evJ], h⟩
theorem wj_cons {acc : Str} {K : Str → Mu → Prop} (h : WE P a ρ μ fun x μ1 => asSt x fun y => asG ((acc ++ y).length ≤ 1000000) (WJ P es (acc ++ y) ρ μ1 K)) : WJ P (.cons a es) acc ρ μ K := by
  obtain ⟨x, μ1, e1, y, rfl, hl, z, μ2, e2, h⟩ := h
  exact ⟨z, μ2, by simp only [evJ, e1, R.bind, if_pos hl, e2], h⟩
theorem we_jn (h : WJ P es Str.empty ρ μ fun z μ1 => K (.d (.str z)) μ1) : WE P (.jn es) ρ μ K := by
  obtain ⟨z, μ1, e1, h⟩ := h
  exact ⟨_, μ1, by simp only [evE, e1, R.bind], h⟩
theorem we_blt {cl : Bool} {o : Blt} (h : WA P es ρ μ fun xs μ1 => asO (bltP P μ1 cl o xs) K) : WE P (.blt cl o es) ρ μ K := by
  obtain ⟨xs, μ1, e1, x, μ2, e2, h⟩ := h
  exact ⟨x, μ2, by simp only [evE, e1, R.bind, e2], h⟩
def tyAny (μ : Mu) (x : X) : List Ty → Bool
  | [] => false
  | [t] => isTy μ x t
  | t :: ts => isTy μ x t || tyAny μ x ts
theorem tyAny_eq (μ : Mu) (x : X) : ∀ ts : List Ty, ts.any (isTy μ x) = tyAny μ x ts
  | [] => rfl
  | [t] => by simp [tyAny]
  | t :: u :: ts => by rw [List.any_cons, tyAny_eq μ x (u :: ts)]; rfl
theorem we_isi {ts : List Ty} (h : WE P a ρ μ fun x μ1 => asG (tyKnown μ1 x = true) <| K (.d (.bl (tyAny μ1 x ts))) μ1) : WE P (.isi a ts) ρ μ K := by
  obtain ⟨x, μ1, e1, e2, h⟩ := h
  exact ⟨_, μ1, by simp only [evE, e1, R.bind, e2, if_true, tyAny_eq], h⟩
theorem we_app (h : WE P a ρ μ fun x μ1 => asR x fun k => asC μ1 k fun _ => WA P es ρ μ1 fun xs μ2 => as1 xs fun d => asC μ2 k fun ys => asG (ys.length ≤ 1000000) <| K (.d .non) (μ2.set k (some (.lst (ys ++ [d]))))) : WE P (.lm .append a es) ρ μ K := by
  obtain ⟨x, μ1, e1, k, rfl, zs, e2, xs, μ2, e3, d, rfl, ys, e4, e5, h⟩ := h
  have e6 : isLst μ1 (.r k) = true := by simp only [isLst, viewS, unk, Option.map_some, view, e2, Node.toD]
  exact ⟨_, _, by simp only [evE, e1, R.bind, e6, if_true, e3, lmD, e4, sizeOk, decide_eq_true e5], h⟩
theorem we_lrng1T (h : WE P a ρ μ fun x μ1 => asI x fun j => asG (small j = true) <| asG ((upTo 0 j.toNat).length ≤ 1000000) <| K (.r μ1.length) (μ1 ++ [some (.lst (upTo 0 j.toNat))])) : WE P (.lrng true a .none) ρ μ K := by
  obtain ⟨x, μ1, e1, j, rfl, ⟨e2, e3, h⟩⟩ := h
  exact ⟨_, _, by simp only [evE, e1, R.bind, intX, e2, if_true, allocT e3], h⟩
theorem we_lrng2T (h : WE P a ρ μ fun x μ1 => WE P b ρ μ1 fun y μ2 => asI x fun i => asI y fun j => asG (small i = true) <| asG (small j = true) <| asG ((upTo i (j - i).toNat).length ≤ 1000000) <| K (.r μ2.length) (μ2 ++ [some (.lst (upTo i (j - i).toNat))])) : WE P (.lrng true a (.some b)) ρ μ K := by
  obtain ⟨x, μ1, e1, y, μ2, e2, i, rfl, j, rfl, ⟨e3, e4, e5, h⟩⟩ := h
  exact ⟨_, _, by simp only [evE, e1, e2, R.bind, intX, e3, e4, Bool.and_self, if_true, allocT e5], h⟩
theorem we_lrng1F (h : WE P a ρ μ fun x μ1 => asI x fun j => asG (small j = true) <| asG ((upTo 0 j.toNat).length ≤ 1000000) <| K (.d (.lst (upTo 0 j.toNat))) μ1) : WE P (.lrng false a .none) ρ μ K := by
  obtain ⟨x, μ1, e1, j, rfl, ⟨e2, e3, h⟩⟩ := h
  exact ⟨_, _, by simp only [evE, e1, R.bind, intX, e2, if_true, allocF e3], h⟩
theorem we_lrng2F (h : WE P a ρ μ fun x μ1 => WE P b ρ μ1 fun y μ2 => asI x fun i => asI y fun j => asG (small i = true) <| asG (small j = true) <| asG ((upTo i (j - i).toNat).length ≤ 1000000) <| K (.d (.lst (upTo i (j - i).toNat))) μ2) : WE P (.lrng false a (.some b)) ρ μ K := by
  obtain ⟨x, μ1, e1, y, μ2, e2, i, rfl, j, rfl, ⟨e3, e4, e5, h⟩⟩ := h
  exact ⟨_, _, by simp only [evE, e1, e2, R.bind, intX, e3, e4, Bool.and_self, if_true, allocF e5], h⟩
theorem we_frz (h : WE P a ρ μ fun x μ1 => ∃ k n d, x = .r k ∧ μ1[k]? = some (some n) ∧ n.fast = some d ∧ K (.d d) (μ1.set k none)) : WE P (.frz a) ρ μ K := by
  obtain ⟨x, μ1, e1, k, n, d, rfl, e2, e3, h⟩ := h
  exact ⟨_, _, by simp only [evE, e1, R.bind, frzX, e2, e3], h⟩
theorem we_frzd (h : WE P a ρ μ fun x μ1 => ∃ d, x = .d d ∧ K (.d d) μ1) : WE P (.frz a) ρ μ K := by
  obtain ⟨x, μ1, e1, d, rfl, h⟩ := h
  exact ⟨_, _, by simp only [evE, e1, R.bind, frzX], h⟩
end
/-! ### tests -/
section
variable {K : Bool → Mu → Prop} {a b : E} {t u : T} {r : Ts}
theorem wt_val (h : WE P a ρ μ fun x μ1 => asW μ1 x fun d => asZ (truth d) fun z => K z μ1) : WT P (.val a) ρ μ K := by
  obtain ⟨x, μ1, e1, d, e2, z, e3, h⟩ := h
  exact ⟨_, μ1, by simp only [evT, e1, R.bind, e2, e3, R.lift], h⟩
theorem wt_cmp {op : Cop} (h : WE P a ρ μ fun x μ1 => WE P b ρ μ1 fun y μ2 => asCmp P op x y μ2 K) : WT P (.cmp op a b) ρ μ K := by
  obtain ⟨x, μ1, e1, y, μ2, e2, z, μ3, e3, h⟩ := h
  exact ⟨_, μ3, by simp only [evT, e1, e2, R.bind, e3], h⟩
theorem wt_chain {c : E} {o1 o2 : Cop} (h : WE P a ρ μ fun x μ1 => WE P b ρ μ1 fun y μ2 => asCmp P o1 x y μ2 fun z μ3 => (z = false → K false μ3) ∧ (z = true → WE P c ρ μ3 fun u μ4 => asCmp P o2 y u μ4 K)) : WT P (.chain o1 o2 a b c) ρ μ K := by
  obtain ⟨x, μ1, e1, y, μ2, e2, z, μ3, e3, h1, h2⟩ := h
  cases z with
  | false => exact ⟨_, μ3, by simp only [evT, e1, e2, R.bind, e3]; rfl, h1 rfl⟩
  | true =>
    obtain ⟨u, μ4, e4, w, μ5, e5, h⟩ := h2 rfl
    exact ⟨_, μ5, by simp only [evT, e1, e2, R.bind, e3, if_true, e4, e5], h⟩
theorem wt_not (h : WT P t ρ μ fun k μ1 => K (!k) μ1) : WT P (.not t) ρ μ K := by
  obtain ⟨x, μ1, e1, h⟩ := h
  exact ⟨_, μ1, by simp only [evT, e1, R.bind], h⟩
theorem wt_isi {ts : List Ty} (h : WE P a ρ μ fun x μ1 => asG (tyKnown μ1 x = true) <| K (tyAny μ1 x ts) μ1) : WT P (.isi a ts) ρ μ K := by
  obtain ⟨x, μ1, e1, e2, h⟩ := h
  exact ⟨_, μ1, by simp only [evT, e1, R.bind, e2, if_true, tyAny_eq], h⟩
theorem wt_bop1 {cj : Bool} (h : WT P t ρ μ K) : WT P (.bop cj (.cons t .nil)) ρ μ K := by
  obtain ⟨x, μ1, e1, h⟩ := h
  refine ⟨x, μ1, ?_, h⟩
  simp only [evT, evTs, e1, R.bind]
  cases x <;> cases cj <;> rfl
theorem wt_bop {cj : Bool} (h : WT P t ρ μ fun k μ1 => (k = cj → WT P (.bop cj (.cons u r)) ρ μ1 K) ∧ (k = !cj → K k μ1)) : WT P (.bop cj (.cons t (.cons u r))) ρ μ K := by
  obtain ⟨x, μ1, e1, h1, h2⟩ := h
  by_cases hi : x = cj
  · obtain ⟨y, μ2, e2, h⟩ := h1 hi
    refine ⟨y, μ2, ?_, h⟩
    simp only [evT] at e2 ⊢
    rw [evTs]
    simp only [e1, R.bind, if_pos hi, e2]
  · have : x = !cj := by cases x <;> cases cj <;> simp_all
    exact ⟨_, μ1, by simp only [evT]; rw [evTs]; simp only [e1, R.bind, if_neg hi], h2 this⟩
/-- no operand changes the state -/
theorem wt_imp {K K' : Bool → Mu → Prop} (h : WT P t ρ μ K) (i : ∀ b μ, K b μ → K' b μ) : WT P t ρ μ K' := by
  obtain ⟨x, μ1, e1, h⟩ := h
  exact ⟨x, μ1, e1, i _ _ h⟩
end
/-! ### walks -/
section
variable {K : List D → Mu → Prop} {a b : E}
theorem wi_seq (h : WE P a ρ μ fun x μ1 => asS x fun ds => K ds μ1) : WI P (.seq a) ρ μ K := by
  obtain ⟨x, μ1, e1, d, i, rfl, e2, h⟩ := h
  exact ⟨_, μ1, by simp only [evIt, e1, R.bind, e2, R.lift], h⟩
theorem wi_rng1 (h : WE P a ρ μ fun x μ1 => asI x fun i => asG (small i = true) <| K (upTo 0 i.toNat) μ1) : WI P (.rng1 a) ρ μ K := by
  obtain ⟨x, μ1, e1, i, rfl, e2, h⟩ := h
  exact ⟨_, μ1, by simp only [evIt, e1, R.bind, intX, e2, if_true], h⟩
theorem wi_rng2 (h : WE P a ρ μ fun x μ1 => WE P b ρ μ1 fun y μ2 => asI x fun i => asI y fun j => asG (small i = true) <| asG (small j = true) <| K (upTo i (j - i).toNat) μ2) : WI P (.rng2 a b) ρ μ K := by
  obtain ⟨x, μ1, e1, y, μ2, e3, i, rfl, j, rfl, e2, e4, h⟩ := h
  exact ⟨_, μ2, by simp only [evIt, e1, e3, R.bind, intX, e2, e4, Bool.and_self, if_true], h⟩
theorem wi_enum (h : WE P a ρ μ fun x μ1 => ∃ ds, x = .d (.lst ds) ∧ K (enumD 0 ds) μ1) : WI P (.enum a) ρ μ K := by
  obtain ⟨x, μ1, e1, d, rfl, h⟩ := h
  exact ⟨_, μ1, by simp only [evIt, e1, R.bind], h⟩
theorem wi_zip (h : WE P a ρ μ fun x μ1 => WE P b ρ μ1 fun y μ2 => ∃ ds es, x = .d (.lst ds) ∧ y = .d (.lst es) ∧ K (zipD ds es) μ2) : WI P (.zip a b) ρ μ K := by
  obtain ⟨x, μ1, e1, y, μ2, e2, d, d', rfl, rfl, h⟩ := h
  exact ⟨_, μ2, by simp only [evIt, e1, e2, R.bind], h⟩
end
/-! ### statements -/
section
variable {Q : Fl → Mu → Prop} {e o i : E} {r t f b : Ss} {c : T}
/-- behind a statement -/
structure Kq (P : Par) (r : Ss) (Q : Fl → Mu → Prop) (fl : Fl) (μ : Mu) : Prop where
  h : (match fl with | .nx ρ => WS P r ρ μ Q | fl => Q fl μ)
theorem kq_nx (h : WS P r ρ μ Q) : Kq P r Q (.nx ρ) μ := ⟨h⟩
theorem kq_rt {x : X} (h : Q (.rt x) μ) : Kq P r Q (.rt x) μ := ⟨h⟩
theorem kq_bk (h : Q (.bk ρ) μ) : Kq P r Q (.bk ρ) μ := ⟨h⟩
theorem kq_ct (h : Q (.ct ρ) μ) : Kq P r Q (.ct ρ) μ := ⟨h⟩
theorem ws_nil (h : Q (.nx ρ) μ) : WS P .nil ρ μ Q := ⟨_, μ, by simp only [evSs], h⟩
theorem ws_of {s : S} {fl : Fl} {μ' : Mu} (e : evS P s ρ μ = .ok fl μ') (h : Kq P r Q fl μ') : WS P (.cons s r) ρ μ Q := by
  obtain ⟨h⟩ := h
  cases fl with
  | nx ρ' =>
    obtain ⟨x, μ2, e2, h⟩ := h
    exact ⟨x, μ2, by simp only [evSs, e, e2], h⟩
  | rt x => exact ⟨_, μ', by simp only [evSs, e], h⟩
  | bk ρ' => exact ⟨_, μ', by simp only [evSs, e], h⟩
  | ct ρ' => exact ⟨_, μ', by simp only [evSs, e], h⟩
  | ex x ρ' => exact ⟨_, μ', by simp only [evSs, e], h⟩
theorem ws_set {k : Nat} (h : WE P e ρ μ fun x μ1 => WS P r (ρ.set k (some x)) μ1 Q) : WS P (.cons (.set k e) r) ρ μ Q := by
  obtain ⟨x, μ1, e1, h⟩ := h
  exact ws_of (fl := .nx _) (by simp only [evS, e1, R.st]) ⟨h⟩
theorem ws_unp {is : List Nat} (h : WE P e ρ μ fun x μ1 => asT x fun xs => asG (is.length = xs.length) <| WS P r ((is.zip xs).foldl (fun ρ p => ρ.set p.1 (some (.d p.2))) ρ) μ1 Q) : WS P (.cons (.unp is e) r) ρ μ Q := by
  obtain ⟨x, μ1, e1, xs, rfl, hl, h⟩ := h
  exact ws_of (fl := .nx _) (by simp only [evS, e1, R.st, bindTg, if_pos hl]) ⟨h⟩
theorem ws_par {i j : Nat} {a b : E} (h : WE P a ρ μ fun x μ1 => WE P b ρ μ1 fun y μ2 => WS P r ((ρ.set i (some x)).set j (some y)) μ2 Q) : WS P (.cons (.par i j a b) r) ρ μ Q := by
  obtain ⟨x, μ1, e1, y, μ2, e2, h⟩ := h
  exact ws_of (fl := .nx _) (by simp only [evS, e1, e2, R.st]) ⟨h⟩
theorem ws_setI (h : WE P e ρ μ fun v μ1 => WE P o ρ μ1 fun x μ2 => WE P i ρ μ2 fun y μ3 => asR x fun k => asI y fun j => asD v fun z => asC μ3 k fun xs => asZ (ixN xs.length j) fun n => WS P r ρ (μ3.set k (some (.lst (xs.set n z)))) Q) : WS P (.cons (.setI o i e) r) ρ μ Q := by
  obtain ⟨v, μ1, e1, x, μ2, e2, y, μ3, e3, k, rfl, j, rfl, z, rfl, xs, e4, n, e5, h⟩ := h
  exact ws_of (fl := .nx _) (by simp only [evS, e1, e2, e3, R.st, setIX, e4, e5]) ⟨h⟩
theorem ws_aug {k : Nat} {sub : Bool} {m : Int} (e0 : ρ[k]? = some (some (.d (.int m)))) (h : WE P e ρ μ fun x μ1 => asI x fun n => WS P r (ρ.set k (some (.d (.int (if sub then m - n else m + n))))) μ1 Q) : WS P (.cons (.augN k sub e) r) ρ μ Q := by
  obtain ⟨x, μ1, e1, n, rfl, h⟩ := h
  exact ws_of (fl := .nx _) (by simp only [evS, e0, e1, R.st]) ⟨h⟩
theorem ws_ex (h : WE P e ρ μ fun _ μ1 => WS P r ρ μ1 Q) : WS P (.cons (.ex e) r) ρ μ Q := by
  obtain ⟨x, μ1, e1, h⟩ := h
  exact ws_of (fl := .nx _) (by simp only [evS, e1, R.st]) ⟨h⟩
theorem ws_pass (h : WS P r ρ μ Q) : WS P (.cons .pass r) ρ μ Q := ws_of (fl := .nx _) (by simp only [evS]) ⟨h⟩
theorem ws_brk (h : Q (.bk ρ) μ) : WS P (.cons .brk r) ρ μ Q := ws_of (fl := .bk _) (by simp only [evS]) ⟨h⟩
theorem ws_cnt (h : Q (.ct ρ) μ) : WS P (.cons .cnt r) ρ μ Q := ws_of (fl := .ct _) (by simp only [evS]) ⟨h⟩
theorem ws_ret (h : WE P e ρ μ fun x μ1 => Q (.rt x) μ1) : WS P (.cons (.ret e) r) ρ μ Q := by
  obtain ⟨x, μ1, e1, h⟩ := h
  exact ws_of (fl := .rt _) (by simp only [evS, e1, R.st]) ⟨h⟩
theorem ws_setF {f : Str} (h : WE P e ρ μ fun v μ1 => WE P o ρ μ1 fun x μ2 => asR x fun k => ∃ c fs, μ2[k]? = some (some (.ins c fs)) ∧ P.fldOk c f = true ∧ fs.length < 500 ∧ WS P r ρ (μ2.set k (some (.ins c (putX f v fs)))) Q) : WS P (.cons (.setF o f e) r) ρ μ Q := by
  obtain ⟨v, μ1, e1, x, μ2, e2, k, rfl, c, fs, e3, e4, e5, h⟩ := h
  exact ws_of (fl := .nx _) (by simp only [evS, e1, e2, R.st, insOf, e3, e4, if_true, setFX, if_pos e5]) ⟨h⟩
theorem ws_retN (h : Q (.rt (.d .non)) μ) : WS P (.cons .retN r) ρ μ Q := ws_of (fl := .rt _) (by simp only [evS]) ⟨h⟩
theorem ws_ite (h : WT P c ρ μ fun k μ1 => (k = true → WS P t ρ μ1 (Kq P r Q)) ∧ (k = false → WS P f ρ μ1 (Kq P r Q))) : WS P (.cons (.ite c t f) r) ρ μ Q := by
  obtain ⟨k, μ1, e1, h1, h2⟩ := h
  cases k with
  | true =>
    obtain ⟨fl, μ2, e2, h⟩ := h1 rfl
    exact ws_of (fl := fl) (by simp only [evS, e1, R.st, if_true, e2]) h
  | false =>
    obtain ⟨fl, μ2, e2, h⟩ := h2 rfl
    exact ws_of (fl := fl) (by simp only [evS, e1, R.st, e2]; rfl) h
theorem ws_frzd {k : Nat} {d : D} (e0 : ρ[k]? = some (some (.d d))) (h : WS P r (ρ.set k (some (.d d))) μ Q) : WS P (.cons (.frz k) r) ρ μ Q := ws_of (fl := .nx _) (by simp only [evS, e0, frzX]) ⟨h⟩
theorem ws_frz {k j : Nat} {n : Node} {d : D} (e0 : ρ[k]? = some (some (.r j))) (e1 : μ[j]? = some (some n)) (e2 : n.fast = some d) (h : WS P r (ρ.set k (some (.d d))) (μ.set j none) Q) : WS P (.cons (.frz k) r) ρ μ Q := ws_of (fl := .nx _) (by simp only [evS, e0, frzX, e1, e2]) ⟨h⟩
theorem ws_for {tg : Tg} {w : It} (h : WI P w ρ μ fun ds μ1 => ∃ fl μ2, forD (bindTg tg) (evSs P b) ds ρ μ1 = .ok fl μ2 ∧ Kq P r Q fl μ2) : WS P (.cons (.for_ tg w b) r) ρ μ Q := by
  obtain ⟨ds, μ1, e1, fl, μ2, e2, h⟩ := h
  exact ws_of (fl := fl) (by simp only [evS, e1, R.st, e2]) h
theorem ws_whl (h : ∃ fl μ2, whileD (evT P c) (evSs P b) P.W ρ μ = .ok fl μ2 ∧ Kq P r Q fl μ2) : WS P (.cons (.whl c b) r) ρ μ Q := by
  obtain ⟨fl, μ2, e2, h⟩ := h
  exact ws_of (fl := fl) (by simp only [evS, e2]) h
theorem ws_imp {Q' : Fl → Mu → Prop} (h : WS P t ρ μ Q) (i : ∀ fl μ, Q fl μ → Q' fl μ) : WS P t ρ μ Q' := by
  obtain ⟨fl, μ1, e, h⟩ := h
  exact ⟨fl, μ1, e, i _ _ h⟩
/-- a loop, by an invariant of what is left -/
theorem for_inv {tg : Tg} (I : List D → Env → Mu → Prop) (Q : Fl → Mu → Prop) (hn : ∀ ρ μ, I [] ρ μ → Q (.nx ρ) μ)
    (hs : ∀ x xs ρ μ, I (x :: xs) ρ μ → ∃ ρ1, bindTg tg x ρ = some ρ1 ∧ WS P b ρ1 μ fun fl μ2 => match fl with
      | .nx ρ' => I xs (tidy μ.length ρ' μ2).1 (tidy μ.length ρ' μ2).2
      | .ct ρ' => I xs (tidy μ.length ρ' μ2).1 (tidy μ.length ρ' μ2).2
      | .bk ρ' => Q (.nx ρ') μ2
      | fl => Q fl μ2) : ∀ (ds : List D) (ρ : Env) (μ : Mu), I ds ρ μ → ∃ fl μ2, forD (bindTg tg) (evSs P b) ds ρ μ = .ok fl μ2 ∧ Q fl μ2
  | [], ρ, μ, h => ⟨.nx ρ, μ, rfl, hn ρ μ h⟩
  | x :: xs, ρ, μ, h => by
    obtain ⟨ρ1, e1, fl, μ2, e2, h⟩ := hs x xs ρ μ h
    simp only [forD, e1, e2]
    cases fl with
    | nx ρ' => exact for_inv I Q hn hs xs _ _ h
    | ct ρ' => exact for_inv I Q hn hs xs _ _ h
    | bk ρ' => exact ⟨_, _, rfl, h⟩
    | rt x => exact ⟨_, _, rfl, h⟩
    | ex e ρ' => exact ⟨_, _, rfl, h⟩
theorem while_inv (I : Nat → Env → Mu → Prop) (Q : Fl → Mu → Prop)
    (hs : ∀ m ρ μ, I m ρ μ → WT P c ρ μ fun k μ1 => (k = false → Q (.nx ρ) μ1) ∧ (k = true → WS P b ρ μ1 fun fl μ2 => match fl with
      | .nx ρ' => ∃ m', m' < m ∧ I m' (tidy μ.length ρ' μ2).1 (tidy μ.length ρ' μ2).2
      | .ct ρ' => ∃ m', m' < m ∧ I m' (tidy μ.length ρ' μ2).1 (tidy μ.length ρ' μ2).2
      | .bk ρ' => Q (.nx ρ') μ2
      | fl => Q fl μ2)) : ∀ (n m : Nat) (ρ : Env) (μ : Mu), m < n → I m ρ μ → ∃ fl μ2, whileD (evT P c) (evSs P b) n ρ μ = .ok fl μ2 ∧ Q fl μ2
  | 0, m, ρ, μ, h, _ => absurd h (Nat.not_lt_zero m)
  | n + 1, m, ρ, μ, hm, h => by
    obtain ⟨k, μ1, e1, h1, h2⟩ := hs m ρ μ h
    simp only [whileD, e1, R.st]
    cases k with
    | false => exact ⟨_, _, rfl, h1 rfl⟩
    | true =>
      obtain ⟨fl, μ2, e2, h⟩ := h2 rfl
      simp only [e2, if_true]
      cases fl with
      | nx ρ' =>
        obtain ⟨m', hm', h⟩ := h
        exact while_inv I Q hs n m' _ _ (by omega) h
      | ct ρ' =>
        obtain ⟨m', hm', h⟩ := h
        exact while_inv I Q hs n m' _ _ (by omega) h
      | bk ρ' => exact ⟨_, _, rfl, h⟩
      | rt x => exact ⟨_, _, rfl, h⟩
      | ex e ρ' => exact ⟨_, _, rfl, h⟩
end
end
/-- what a body's end is to the caller -/
structure Fq (μ : Mu) (K : X → Mu → Prop) (fl : Fl) (μ' : Mu) : Prop where
  h : (match fl with
  | .rt (.d x) => K (.d x) (tidy μ.length [] μ').2
  | .rt (.r k) => K (.r k) μ'
  | .nx _ => K (.d .non) (tidy μ.length [] μ').2
  | _ => False)
theorem fq_d {μ μ' : Mu} {K : X → Mu → Prop} {x : D} (hl : μ'.length = μ.length) (h : K (.d x) μ') : Fq μ K (.rt (.d x)) μ' := by
  refine ⟨?_⟩
  show K (.d x) (tidy μ.length [] μ').2
  rw [tidy_len hl]
  exact h
theorem fq_r {μ μ' : Mu} {K : X → Mu → Prop} {k : Nat} (h : K (.r k) μ') : Fq μ K (.rt (.r k)) μ' := ⟨h⟩
theorem fq_nx {μ μ' : Mu} {K : X → Mu → Prop} {ρ : Env} (hl : μ'.length = μ.length) (h : K (.d .non) μ') : Fq μ K (.nx ρ) μ' := by
  refine ⟨?_⟩
  show K (.d .non) (tidy μ.length [] μ').2
  rw [tidy_len hl]
  exact h
/-- a call, by its body -/
theorem wc_of {T : Tab} {W n j : Nat} {xs : List X} {μ : Mu} {f : Fn} {K : X → Mu → Prop} (h : T.fns[j]? = some f) (hl : xs.length = f.ar)
    (hb : WS (parOf T W n) f.body (xs.map some ++ List.replicate (f.sl - f.ar) none) μ (Fq μ K)) : WC1 (callD T W (n + 1)) j xs μ K := by
  obtain ⟨fl, μ', e, hq⟩ := hb
  obtain ⟨hq⟩ := hq
  refine ⟨?_⟩
  rw [call_eq h hl, e]
  cases fl with
  | rt x =>
    cases x with
    | d x => exact ⟨_, _, rfl, hq⟩
    | r k => exact ⟨_, _, rfl, hq⟩
  | nx ρ => exact ⟨_, _, rfl, hq⟩
  | bk ρ => exact hq.elim
  | ct ρ => exact hq.elim
  | ex e ρ => exact hq.elim
theorem bin_mul {i j : Int} (h : mulOk i j = true) : binI .mul i j = some (i * j) := by simp only [binI, h, if_true]
theorem bin_div {i j : Int} (h : divOk j = true) : binI .fdiv i j = some (i / j) := by simp only [binI, h, if_true]
theorem divOk_neg {j : Int} (h : j < 0) : divOk j = false := by
  unfold divOk
  rw [decide_eq_false (by omega), Bool.false_and]
theorem divNeg_of {j : Int} {b : Nat} (h0 : j < 0) (hj : j.natAbs < 2 ^ b) (h : b ≤ 9000) : divNeg j = true := by
  unfold divNeg
  rw [decide_eq_true h0, Bool.true_and]
  apply decide_eq_true
  have z : j.natAbs ≠ 0 := by omega
  have := (Nat.log2_lt z).mpr hj
  omega
theorem bin_divN {i j : Int} (h0 : j < 0) (h : divNeg j = true) : binI .fdiv i j = some (i.fdiv j) := by simp only [binI, divOk_neg h0, h, if_true, Bool.false_eq_true, if_false]
theorem bin_mod {i j : Int} (h : 0 < j) : binI .mod i j = some (i % j) := by simp only [binI, decide_eq_true h, if_true]
theorem mod_lit {i j : Int} (h : decide (0 < j) = true) : binI .mod i j = some (i % j) := bin_mod (of_decide_eq_true h)
theorem mul64 {i j : Int} (h0 : 0 ≤ i) (h1 : i < 2 ^ 64) (h2 : j.natAbs < 2 ^ 64) : binI .mul i j = some (i * j) := bin_mul (mulOk_of (a := 64) (b := 64) (by omega) h2 (by decide))
theorem asZ_mod {i j : Int} {K : Int → Prop} (h : decide (0 < j) = true) (k : K (i % j)) : asZ (binI .mod i j) K := ⟨_, mod_lit h, k⟩
theorem asZ_mul {i j : Int} {K : Int → Prop} (h0 : 0 ≤ i) (h1 : i < 2 ^ 64) (h2 : j.natAbs < 2 ^ 64) (k : K (i * j)) : asZ (binI .mul i j) K := ⟨_, mul64 h0 h1 h2, k⟩
theorem asZ_div {i j : Int} {K : Int → Prop} (h : divOk j = true) (k : K (i / j)) : asZ (binI .fdiv i j) K := ⟨_, bin_div h, k⟩
theorem asZ_pow {i j : Int} {K : Int → Prop} (h : powOk i j = true) (k : K (i ^ j.toNat)) : asZ (binI .pow i j) K := ⟨_, by simp only [binI, h, if_true], k⟩
theorem asZ_mulS {i j : Int} {K : Int → Prop} (h0 : -(2 ^ 64) < i) (h1 : i < 2 ^ 64) (h2 : -(2 ^ 64) < j) (h3 : j < 2 ^ 64) (k : K (i * j)) : asZ (binI .mul i j) K := ⟨_, bin_mul (mulOk_of (a := 64) (b := 64) (by omega) (by omega) (by decide)), k⟩
end DL

/-! PL3: the draws. -/
namespace DL
open PySem L2
/- one step; what has one way only; a step with the choices -/
local macro_rules | `(tactic| walk_at "1s") => `(tactic| first | refine we_var rfl ?_ | refine we_con ?_ | refine wa_cons ?_ | refine wa_nil ?_ | refine asI_mk ?_ | refine asZ_mk ?_ | refine asD_mk ?_ | refine we_idx ?_ | refine asV_d ?_ | refine we_call ?_ | refine we_bin ?_ | refine asOp_int ?_ | refine we_cmp ?_ | refine asCmp_mk rfl ?_ | refine wt_cmp ?_ | refine we_blt ?_ | refine asO_mk ?_ | refine asB_mk ?_ | refine asG_mk (Nat.le_of_ble_eq_true rfl) ?_ | refine asG_mk (by decide) ?_ | refine asG_mk rfl ?_ | refine wt_val ?_ | refine wt_not ?_ | refine asW_d ?_ | refine we_glo rfl ?_ | refine we_tup ?_ | refine we_lstF ?_ | refine we_lstT ?_ | refine we_isi ?_ | refine wt_isi ?_ | refine we_not ?_ | refine we_neg ?_ | refine asNeg_int ?_ | refine we_fmt ?_ | refine we_jn1 ?_ | refine we_jn ?_ | refine wj_cons ?_ | refine wj_nil ?_ | refine asSt_mk ?_ | refine asZ_mod (by decide) ?_ | refine asZ_mul (by omega) (by omega) (by decide) ?_ | refine asZ_mulS (by omega) (by omega) (by omega) (by omega) ?_ | refine asZ_div (by decide +kernel) ?_ | refine asZ_pow (by decide +kernel) ?_ | refine asR_mk ?_ | refine as1_mk ?_ | refine asT_mk ?_ | refine asS_l ?_ | refine asS_t ?_ | refine asS_k ?_ | refine asS_s ?_ | refine wi_seq ?_ | refine wi_rng1 ?_ | refine wi_rng2 ?_ | refine wi_enum ?_ | refine we_app ?_ | refine we_sl ?_ | refine wo_none ?_ | refine wo_some ?_ | refine we_rv ?_ | refine we_dicF ?_ | refine we_fld ?_ | refine asOp_tup (Nat.le_of_ble_eq_true rfl) ?_ | refine asOp_str (by decide +kernel) ?_ | (apply asV_r; assumption) | (apply asW_r; assumption) | (apply asC_mk; assumption) | refine ws_set ?_ | refine kq_nx ?_ | refine kq_rt ?_ | refine ws_ret ?_ | refine ws_nil ?_ | refine ws_ex ?_ | refine ws_unp ?_ | refine ws_pass ?_ | refine kq_bk ?_ | refine kq_ct ?_ | fail)
local macro_rules | `(tactic| walk_at "1c") => `(tactic| first | refine ws_ite ?_ | refine wt_bop ?_ | refine wt_bop1 ?_ | refine wt_chain ?_ | refine we_bop ?_ | refine we_bop1 ?_ | refine we_ife ?_ | refine we_chain ?_ | refine ws_par ?_ | refine ⟨fun _ => ?_, fun h => absurd (show (false : Bool) = true from h) Bool.false_ne_true⟩ | refine ⟨fun _ => ?_, fun h => absurd (show (true : Bool) = false from h).symm Bool.false_ne_true⟩ | refine ⟨fun h => absurd (show (true : Bool) = false from h).symm Bool.false_ne_true, fun _ => ?_⟩ | refine ⟨fun h => absurd (show (false : Bool) = true from h) Bool.false_ne_true, fun _ => ?_⟩ | fail)
local macro_rules | `(tactic| walk_at "x") => `(tactic| repeat (first | refine we_var rfl ?_ | refine we_con ?_ | refine wa_cons ?_ | refine wa_nil ?_ | refine asI_mk ?_ | refine asZ_mk ?_ | refine asD_mk ?_ | refine we_idx ?_ | refine asV_d ?_ | refine we_call ?_ | refine we_bin ?_ | refine asOp_int ?_ | refine we_cmp ?_ | refine asCmp_mk rfl ?_ | refine wt_cmp ?_ | refine we_blt ?_ | refine asO_mk ?_ | refine asB_mk ?_ | refine asG_mk (Nat.le_of_ble_eq_true rfl) ?_ | refine asG_mk (by decide) ?_ | refine asG_mk rfl ?_ | refine wt_val ?_ | refine wt_not ?_ | refine asW_d ?_ | refine we_glo rfl ?_ | refine we_tup ?_ | refine we_lstF ?_ | refine we_lstT ?_ | refine we_isi ?_ | refine wt_isi ?_ | refine we_not ?_ | refine we_neg ?_ | refine asNeg_int ?_ | refine we_fmt ?_ | refine we_jn1 ?_ | refine we_jn ?_ | refine wj_cons ?_ | refine wj_nil ?_ | refine asSt_mk ?_ | refine asZ_mod (by decide) ?_ | refine asZ_mul (by omega) (by omega) (by decide) ?_ | refine asZ_mulS (by omega) (by omega) (by omega) (by omega) ?_ | refine asZ_div (by decide +kernel) ?_ | refine asZ_pow (by decide +kernel) ?_ | refine asR_mk ?_ | refine as1_mk ?_ | refine asT_mk ?_ | refine asS_l ?_ | refine asS_t ?_ | refine asS_k ?_ | refine asS_s ?_ | refine wi_seq ?_ | refine wi_rng1 ?_ | refine wi_rng2 ?_ | refine wi_enum ?_ | refine we_app ?_ | refine we_sl ?_ | refine wo_none ?_ | refine wo_some ?_ | refine we_rv ?_ | refine we_dicF ?_ | refine we_fld ?_ | refine asOp_tup (Nat.le_of_ble_eq_true rfl) ?_ | refine asOp_str (by decide +kernel) ?_ | (apply asV_r; assumption) | (apply asW_r; assumption) | (apply asC_mk; assumption) | fail))
local macro_rules | `(tactic| walk_at "s") => `(tactic| repeat (first | refine we_var rfl ?_ | refine we_con ?_ | refine wa_cons ?_ | refine wa_nil ?_ | refine asI_mk ?_ | refine asZ_mk ?_ | refine asD_mk ?_ | refine we_idx ?_ | refine asV_d ?_ | refine we_call ?_ | refine we_bin ?_ | refine asOp_int ?_ | refine we_cmp ?_ | refine asCmp_mk rfl ?_ | refine wt_cmp ?_ | refine we_blt ?_ | refine asO_mk ?_ | refine asB_mk ?_ | refine asG_mk (Nat.le_of_ble_eq_true rfl) ?_ | refine asG_mk (by decide) ?_ | refine asG_mk rfl ?_ | refine wt_val ?_ | refine wt_not ?_ | refine asW_d ?_ | refine we_glo rfl ?_ | refine we_tup ?_ | refine we_lstF ?_ | refine we_lstT ?_ | refine we_isi ?_ | refine wt_isi ?_ | refine we_not ?_ | refine we_neg ?_ | refine asNeg_int ?_ | refine we_fmt ?_ | refine we_jn1 ?_ | refine we_jn ?_ | refine wj_cons ?_ | refine wj_nil ?_ | refine asSt_mk ?_ | refine asZ_mod (by decide) ?_ | refine asZ_mul (by omega) (by omega) (by decide) ?_ | refine asZ_mulS (by omega) (by omega) (by omega) (by omega) ?_ | refine asZ_div (by decide +kernel) ?_ | refine asZ_pow (by decide +kernel) ?_ | refine asR_mk ?_ | refine as1_mk ?_ | refine asT_mk ?_ | refine asS_l ?_ | refine asS_t ?_ | refine asS_k ?_ | refine asS_s ?_ | refine wi_seq ?_ | refine wi_rng1 ?_ | refine wi_rng2 ?_ | refine wi_enum ?_ | refine we_app ?_ | refine we_sl ?_ | refine wo_none ?_ | refine wo_some ?_ | refine we_rv ?_ | refine we_dicF ?_ | refine we_fld ?_ | refine asOp_tup (Nat.le_of_ble_eq_true rfl) ?_ | refine asOp_str (by decide +kernel) ?_ | (apply asV_r; assumption) | (apply asW_r; assumption) | (apply asC_mk; assumption) | refine ws_set ?_ | refine kq_nx ?_ | refine kq_rt ?_ | refine ws_ret ?_ | refine ws_nil ?_ | refine ws_ex ?_ | refine ws_unp ?_ | refine ws_pass ?_ | refine kq_bk ?_ | refine kq_ct ?_ | fail))
local macro_rules | `(tactic| walk_at "g") => `(tactic| repeat (first | refine we_var rfl ?_ | refine we_con ?_ | refine wa_cons ?_ | refine wa_nil ?_ | refine asI_mk ?_ | refine asZ_mk ?_ | refine asD_mk ?_ | refine we_idx ?_ | refine asV_d ?_ | refine we_call ?_ | refine we_bin ?_ | refine asOp_int ?_ | refine we_cmp ?_ | refine asCmp_mk rfl ?_ | refine wt_cmp ?_ | refine we_blt ?_ | refine asO_mk ?_ | refine asB_mk ?_ | refine asG_mk (Nat.le_of_ble_eq_true rfl) ?_ | refine asG_mk (by decide) ?_ | refine asG_mk rfl ?_ | refine wt_val ?_ | refine wt_not ?_ | refine asW_d ?_ | refine we_glo rfl ?_ | refine we_tup ?_ | refine we_lstF ?_ | refine we_lstT ?_ | refine we_isi ?_ | refine wt_isi ?_ | refine we_not ?_ | refine we_neg ?_ | refine asNeg_int ?_ | refine we_fmt ?_ | refine we_jn1 ?_ | refine we_jn ?_ | refine wj_cons ?_ | refine wj_nil ?_ | refine asSt_mk ?_ | refine asZ_mod (by decide) ?_ | refine asZ_mul (by omega) (by omega) (by decide) ?_ | refine asZ_mulS (by omega) (by omega) (by omega) (by omega) ?_ | refine asZ_div (by decide +kernel) ?_ | refine asZ_pow (by decide +kernel) ?_ | refine asR_mk ?_ | refine as1_mk ?_ | refine asT_mk ?_ | refine asS_l ?_ | refine asS_t ?_ | refine asS_k ?_ | refine asS_s ?_ | refine wi_seq ?_ | refine wi_rng1 ?_ | refine wi_rng2 ?_ | refine wi_enum ?_ | refine we_app ?_ | refine we_sl ?_ | refine wo_none ?_ | refine wo_some ?_ | refine we_rv ?_ | refine we_dicF ?_ | refine we_fld ?_ | refine asOp_tup (Nat.le_of_ble_eq_true rfl) ?_ | refine asOp_str (by decide +kernel) ?_ | (apply asV_r; assumption) | (apply asW_r; assumption) | (apply asC_mk; assumption) | refine ws_set ?_ | refine kq_nx ?_ | refine kq_rt ?_ | refine ws_ret ?_ | refine ws_nil ?_ | refine ws_ex ?_ | refine ws_unp ?_ | refine ws_pass ?_ | refine kq_bk ?_ | refine kq_ct ?_ | refine ws_ite ?_ | refine wt_bop ?_ | refine wt_bop1 ?_ | refine wt_chain ?_ | refine we_bop ?_ | refine we_bop1 ?_ | refine we_ife ?_ | refine we_chain ?_ | refine ws_par ?_ | refine ⟨fun _ => ?_, fun h => absurd (show (false : Bool) = true from h) Bool.false_ne_true⟩ | refine ⟨fun _ => ?_, fun h => absurd (show (true : Bool) = false from h).symm Bool.false_ne_true⟩ | refine ⟨fun h => absurd (show (true : Bool) = false from h).symm Bool.false_ne_true, fun _ => ?_⟩ | refine ⟨fun h => absurd (show (false : Bool) = true from h) Bool.false_ne_true, fun _ => ?_⟩ | refine ⟨fun _ => ?_, fun h => absurd (of_decide_eq_true h) (by omega)⟩ | refine ⟨fun h => absurd (of_decide_eq_true h) (by omega), fun _ => ?_⟩ | refine ⟨fun _ => ?_, fun h => absurd (by omega) (of_decide_eq_false h)⟩ | refine ⟨fun h => absurd (by omega) (of_decide_eq_false h), fun _ => ?_⟩ | refine ⟨fun _ => ?_, fun h => absurd h (by decide +kernel)⟩ | refine ⟨fun h => absurd h (by decide +kernel), fun _ => ?_⟩ | fail))
theorem view_cell {μ : Mu} {k : Nat} {xs : List D} (h : μ[k]? = some (some (.lst xs))) : viewS μ (.r k) = some (.lst xs) := by
  simp only [viewS, unk, Option.map_some, view, h, Node.toD]
theorem set_same {μ : Mu} {k : Nat} {o : Option Node} (h : μ[k]? = some o) : μ.set k o = μ := by
  apply List.ext_getElem?
  intro j
  by_cases hj : k = j
  · subst hj
    rw [put_cell h, h]
  · rw [List.getElem?_set_ne hj]
def bTake : Ss := (.cons (.ite (.cmp .lt (.var 1) (.con (.int 2))) (.cons (.ret (.con (.int 0))) .nil) .nil) (.cons (.setI (.var 0) (.con (.int 3)) (.bin .add (.idx (.var 0) (.con (.int 3))) (.con (.int 1)))) (.cons (.ite (.bop true (.cons (.cmp .eq (.idx (.var 0) (.con (.int 2))) (.con (.int 0))) (.cons (.cmp .lt (.idx (.var 0) (.con (.int 1))) (.blt false .len (.cons (.idx (.var 0) (.con (.int 0))) .nil))) .nil))) (.cons (.set 4 (.idx (.idx (.var 0) (.con (.int 0))) (.idx (.var 0) (.con (.int 1))))) (.cons (.setI (.var 0) (.con (.int 1)) (.bin .add (.idx (.var 0) (.con (.int 1))) (.con (.int 1)))) (.cons (.setI (.var 0) (.con (.int 4)) (.bin .mod (.blt false .int (.cons (.bin .add (.bin .mul (.idx (.var 0) (.con (.int 4))) (.con (.int 31))) (.var 4)) .nil)) (.con (.int 1000000007)))) (.cons (.ite (.cmp .ge (.var 4) (.bin .pow (.con (.int 10)) (.con (.int 18)))) (.cons (.setI (.var 0) (.con (.int 2)) (.var 4)) .nil) .nil) .nil)))) .nil) (.cons (.ite (.cmp .gt (.idx (.var 0) (.con (.int 2))) (.con (.int 0))) (.cons (.set 2 (.bin .mod (.blt false .int (.cons (.idx (.var 0) (.con (.int 2))) .nil)) (.var 1))) (.cons (.setI (.var 0) (.con (.int 2)) (.bin .fdiv (.idx (.var 0) (.con (.int 2))) (.var 1))) (.cons (.ret (.var 2)) .nil))) .nil) (.cons (.set 2 (.con (.int 0))) (.cons (.set 3 (.var 1)) (.cons (.whl (.cmp .gt (.var 3) (.con (.int 0))) (.cons (.setI (.var 0) (.con (.int 4)) (.bin .mod (.blt false .int (.cons (.bin .add (.bin .add (.bin .mul (.idx (.var 0) (.con (.int 4))) (.con (.int 48271))) (.bin .mul (.idx (.var 0) (.con (.int 3))) (.con (.int 40692)))) (.con (.int 11))) .nil)) (.con (.int 2147483647)))) (.cons (.set 2 (.bin .add (.bin .mul (.var 2) (.con (.int 1000003))) (.bin .mod (.bin .mod (.blt false .int (.cons (.bin .add (.bin .mul (.idx (.var 0) (.con (.int 4))) (.con (.int 69621))) (.idx (.var 0) (.con (.int 3)))) .nil)) (.con (.int 2147483399))) (.con (.int 1000003))))) (.cons (.set 3 (.bin .fdiv (.var 3) (.con (.int 1000003)))) .nil)))) (.cons (.ret (.bin .mod (.blt false .int (.cons (.var 2) .nil)) (.var 1))) .nil))))))))
abbrev stN (cs : List Int) (p q c r : Int) : Node := .lst [.lst (cs.map D.int), .int p, .int q, .int c, .int r]
/-- the store of the draws: N bounds the count of the draws -/
def StAt (μ : Mu) (k : Nat) (cs : List Int) (N : Int) (p q c r : Int) : Prop := μ[k]? = some (some (stN cs p q c r)) ∧ 0 ≤ p ∧ 0 ≤ q ∧ 0 ≤ c ∧ c ≤ N ∧ 0 ≤ r ∧ r < 2147483647
def St (μ : Mu) (k : Nat) (cs : List Int) (N : Int) : Prop := ∃ p q c r, StAt μ k cs N p q c r
theorem St.lt {μ : Mu} {k : Nat} {cs : List Int} {N : Int} (h : St μ k cs N) : k < μ.length := by
  obtain ⟨p, q, c, r, h, _⟩ := h
  exact (List.getElem?_eq_some_iff.mp h).1
theorem St.more {μ : Mu} {k : Nat} {cs : List Int} {N M : Int} (h : St μ k cs N) (e : N ≤ M) : St μ k cs M := by
  obtain ⟨p, q, c, r, h, h1, h2, h3, h4, h5⟩ := h
  exact ⟨p, q, c, r, h, h1, h2, h3, by omega, h5⟩
section
variable {T : Tab} {W n jt : Nat} {μ : Mu} {k : Nat} {cs : List Int} {N m : Int} {K : X → Mu → Prop}
abbrev bWhl : Ss := (.cons (.setI (.var 0) (.con (.int 4)) (.bin .mod (.blt false .int (.cons (.bin .add (.bin .add (.bin .mul (.idx (.var 0) (.con (.int 4))) (.con (.int 48271))) (.bin .mul (.idx (.var 0) (.con (.int 3))) (.con (.int 40692)))) (.con (.int 11))) .nil)) (.con (.int 2147483647)))) (.cons (.set 2 (.bin .add (.bin .mul (.var 2) (.con (.int 1000003))) (.bin .mod (.bin .mod (.blt false .int (.cons (.bin .add (.bin .mul (.idx (.var 0) (.con (.int 4))) (.con (.int 69621))) (.idx (.var 0) (.con (.int 3)))) .nil)) (.con (.int 2147483399))) (.con (.int 1000003))))) (.cons (.set 3 (.bin .fdiv (.var 3) (.con (.int 1000003)))) .nil)))
theorem ixN_lit {xs : List D} {j : Int} {n : Nat} (h : ixN xs.length j = some n) : ixN xs.length j = some n := h
/-- the loop that makes a draw when the script is used up -/
theorem take_loop {P : Par} {q c : Int} {p : Int} (hc : 0 ≤ c) (hc2 : c < 2 ^ 64) (hW : 1000 ≤ P.W) {r : Int} {y : Option X} (hy : ∀ j, y ≠ some (.r j)) (hμ : μ[k]? = some (some (stN cs p q c r))) (hr : 0 ≤ r ∧ r < 2147483647) (hl : m < 2 ^ 4000) :
    ∃ fl μ2, whileD (evT P (.cmp .gt (.var 3) (.con (.int 0)))) (evSs P bWhl) P.W [some (.r k), some (.d (.int m)), some (.d (.int 0)), some (.d (.int m)), y] μ = .ok fl μ2 ∧
      ∃ d l r' : Int, 0 ≤ d ∧ 0 ≤ r' ∧ r' < 2147483647 ∧ fl = .nx [some (.r k), some (.d (.int m)), some (.d (.int d)), some (.d (.int l)), y] ∧ μ2 = μ.set k (some (stN cs p q c r')) := by
  refine while_inv (P := P) (fun t ρ μ' => ∃ d l r' : Int, ρ = [some (.r k), some (.d (.int m)), some (.d (.int d)), some (.d (.int l)), y] ∧ μ' = μ.set k (some (stN cs p q c r')) ∧ 0 ≤ d ∧ d < 2 ^ (20 * (400 - t)) ∧ t ≤ 400 ∧ l < 2 ^ (10 * t) ∧ 0 ≤ r' ∧ r' < 2147483647)
    (fun fl μ2 => ∃ d l r' : Int, 0 ≤ d ∧ 0 ≤ r' ∧ r' < 2147483647 ∧ fl = .nx [some (.r k), some (.d (.int m)), some (.d (.int d)), some (.d (.int l)), y] ∧ μ2 = μ.set k (some (stN cs p q c r'))) ?_ P.W 400 _ _ (by omega) ⟨0, m, r, rfl, (set_same hμ).symm, by omega, by decide, by omega, hl, hr.1, hr.2⟩
  rintro t ρ μ1 ⟨d, l, r1, rfl, rfl, h1, h2, h3, h4, h5, h6⟩
  refine wt_cmp (we_var rfl (we_con (asCmp_mk rfl (asZ_mk ⟨fun hc => ⟨d, l, r1, h1, h5, h6, rfl, rfl⟩, fun hb => ?_⟩))))
  have hb : 0 < l := of_decide_eq_true hb
  have ht : t ≠ 0 := fun e => by
    rw [e] at h4
    simp at h4
    omega
  obtain ⟨u, rfl⟩ := Nat.exists_eq_succ_of_ne_zero ht
  have hμ1 := put_cell (o' := some (stN cs p q c r1)) hμ
  refine ws_setI ?_
  walk_at "x"
  rw [List.set_set]
  generalize hr2 : (r1 * 48271 + c * 40692 + 11) % 2147483647 = r2
  have r2a : 0 ≤ r2 := by rw [← hr2]; exact Int.emod_nonneg _ (by decide)
  have r2b : r2 < 2147483647 := by rw [← hr2]; exact Int.emod_lt_of_pos _ (by decide)
  have hμ2 : (μ.set k (some (stN cs p q c r2)))[k]? = _ := put_cell (o' := some (stN cs p q c r2)) hμ
  clear hμ1
  show WS P _ _ (μ.set k (some (stN cs p q c r2))) _
  refine ws_set ?_
  walk_at "s"
  refine asZ_of (bin_mul (mulOk_of (a := 8000) (b := 64) ?_ (by decide) (by decide))) ?_
  · have h6 : (2 : Nat) ^ (20 * (400 - u.succ)) ≤ 2 ^ 8000 := Nat.pow_le_pow_right (by decide) (by omega)
    have h7 : (d.natAbs : Int) < ((2 ^ (20 * (400 - u.succ)) : Nat) : Int) := by
      rw [Int.natAbs_of_nonneg h1]
      exact_mod_cast h2
    exact Nat.lt_of_lt_of_le (Int.ofNat_lt.mp h7) h6
  walk_at "s"
  refine ⟨u, Nat.lt_succ_self u, ?_⟩
  rw [tidy_env (by simp) (fun j hj => ?_)]
  · generalize hx : (r2 * 69621 + c) % 2147483399 % 1000003 = x
    have x1 : 0 ≤ x := by rw [← hx]; exact Int.emod_nonneg _ (by decide)
    have x2 : x < 1000003 := by rw [← hx]; exact Int.emod_lt_of_pos _ (by decide)
    refine ⟨d * 1000003 + x, l / 1000003, r2, by simp [hx], rfl, by omega, ?_, by omega, ?_, r2a, r2b⟩
    · have e : 20 * (400 - u) = 20 * (400 - (u + 1)) + 20 := by omega
      rw [e, Int.pow_add]
      generalize (2 : Int) ^ (20 * (400 - (u + 1))) = D at h2 ⊢
      have : (2 : Int) ^ 20 = 1048576 := by decide
      rw [this]
      omega
    · have e : 10 * (u + 1) = 10 * u + 10 := by omega
      rw [e, Int.pow_add] at h4
      generalize (2 : Int) ^ (10 * u) = D at h4 ⊢
      have : (2 : Int) ^ 10 = 1024 := by decide
      rw [this] at h4
      omega
  · have hk : k < μ.length := (List.getElem?_eq_some_iff.mp hμ).1
    simp only [List.set_cons_zero, List.set_cons_succ, List.mem_cons, List.not_mem_nil, or_false, Option.some.injEq, X.r.injEq, reduceCtorEq, false_or] at hj
    rcases hj with hj | hj
    · rw [List.length_set, hj]
      exact hk
    · exact absurd hj.symm (hy j)
theorem StAt.st {p q c r : Int} (h : StAt μ k cs N p q c r) : St μ k cs N := ⟨p, q, c, r, h⟩
theorem st_put {p q c r p' q' c' r' : Int} (h : StAt μ k cs N p q c r) (h1 : 0 ≤ p') (h2 : 0 ≤ q') (h3 : 0 ≤ c') (h4 : c' ≤ N + 1) (h5 : 0 ≤ r') (h6 : r' < 2147483647) : St (μ.set k (some (stN cs p' q' c' r'))) k cs (N + 1) :=
  ⟨p', q', c', r', put_cell h.1, h1, h2, h3, h4, h5, h6⟩
theorem dt {p : Prop} [Decidable p] (h : decide p = true) : p := of_decide_eq_true h
theorem df {p : Prop} [Decidable p] (h : decide p = false) : ¬ p := of_decide_eq_false h
theorem idx_ints {cs : List Int} {p : Int} (h0 : 0 ≤ p) (h1 : p < cs.length) : ∃ z, idxD (.lst (cs.map D.int)) (.int p) = some (.int z) := by
  have h2 : p.toNat < cs.length := by omega
  refine ⟨cs[p.toNat], ?_⟩
  simp only [idxD, atI, ixN]
  rw [if_pos h0, if_pos (by simpa using h1)]
  simp [h2]
/-- a draw below m -/
theorem take_wc (hT : T.fns[jt]? = some ⟨2, 5, bTake⟩) (hW : 1000 ≤ W) (h : St μ k cs N) (hN : N < 2 ^ 63) (hm : m < 2 ^ 4000)
    (hK : ∀ z nd, 0 ≤ z → (z < m ∨ z = 0) → St (μ.set k (some nd)) k cs (N + 1) → K (.d (.int z)) (μ.set k (some nd))) : WC1 (callD T W (n + 1)) jt [.r k, .d (.int m)] μ K := by
  obtain ⟨p, q, c, r, hs⟩ := h
  have hs' := hs
  obtain ⟨hμ, h1, h2, h3, h4, h5, h6⟩ := hs
  refine wc_of hT rfl ?_
  show WS _ bTake [some (.r k), some (.d (.int m)), none, none, none] μ _
  refine ws_ite ?_
  walk_at "x"
  refine ⟨fun b => ?_, fun b => ?_⟩
  · walk_at "s"
    refine fq_d rfl ?_
    have e : μ.set k (some (stN cs p q c r)) = μ := set_same hμ
    have z := hK 0 (stN cs p q c r) (by omega) (.inr rfl) (st_put hs' h1 h2 h3 (by omega) h5 h6)
    rw [e] at z
    exact z
  have b := df b
  refine ws_nil (kq_nx ?_)
  refine ws_setI ?_
  walk_at "x"
  have hμ1 := put_cell (o' := some (stN cs p q (c + 1) r)) hμ
  show WS _ _ _ (μ.set k (some (stN cs p q (c + 1) r))) _
  -- the script's part: whatever it does, the store stands with a count of c + 1
  have tail : ∀ p q r (y : Option X), (∀ j, y ≠ some (.r j)) → 0 ≤ p → 0 ≤ q → 0 ≤ r → r < 2147483647 → WS (parOf T W n)
      (.cons (.ite (.cmp .gt (.idx (.var 0) (.con (.int 2))) (.con (.int 0))) (.cons (.set 2 (.bin .mod (.blt false .int (.cons (.idx (.var 0) (.con (.int 2))) .nil)) (.var 1))) (.cons (.setI (.var 0) (.con (.int 2)) (.bin .fdiv (.idx (.var 0) (.con (.int 2))) (.var 1))) (.cons (.ret (.var 2)) .nil))) .nil) (.cons (.set 2 (.con (.int 0))) (.cons (.set 3 (.var 1)) (.cons (.whl (.cmp .gt (.var 3) (.con (.int 0))) bWhl) (.cons (.ret (.bin .mod (.blt false .int (.cons (.var 2) .nil)) (.var 1))) .nil)))))
      [some (.r k), some (.d (.int m)), none, none, y] (μ.set k (some (stN cs p q (c + 1) r))) (Fq μ K) := by
    intro p q r y hy g1 g2 g3 g4
    have hμ2 : (μ.set k (some (stN cs p q (c + 1) r)))[k]? = _ := put_cell (o' := some (stN cs p q (c + 1) r)) hμ
    refine ws_ite ?_
    walk_at "x"
    refine ⟨fun b2 => ?_, fun b2 => ?_⟩
    · have b2 := dt b2
      refine ws_set ?_
      walk_at "x"
      refine asZ_of (bin_mod (by omega)) ?_
      refine ws_setI ?_
      walk_at "x"
      refine asZ_of (bin_div (divOk_of (b := 4000) (by omega) ?_ (by decide))) ?_
      · have : (m.natAbs : Int) < ((2 ^ 4000 : Nat) : Int) := by
          rw [Int.natAbs_of_nonneg (by omega)]
          exact_mod_cast hm
        exact Int.ofNat_lt.mp this
      walk_at "s"
      rw [List.set_set]
      refine fq_d (by simp) ?_
      exact hK _ _ (Int.emod_nonneg _ (by omega)) (.inl (Int.emod_lt_of_pos _ (by omega))) (st_put hs' g1 (Int.ediv_nonneg g2 (by omega)) (by omega) (by omega) g3 g4)
    · refine ws_nil (kq_nx ?_)
      walk_at "s"
      refine ws_whl ?_
      obtain ⟨fl, μ2, e, d, l, r', d1, d2, d3, rfl, rfl⟩ := take_loop (P := parOf T W n) (m := m) (by omega) (by omega) hW hy hμ2 ⟨g3, g4⟩ hm
      refine ⟨_, _, e, kq_nx ?_⟩
      walk_at "s"
      refine asZ_of (bin_mod (by omega)) ?_
      rw [List.set_set]
      refine fq_d (by simp) ?_
      exact hK _ _ (Int.emod_nonneg _ (by omega)) (.inl (Int.emod_lt_of_pos _ (by omega))) (st_put hs' g1 g2 (by omega) (by omega) d2 d3)
  refine ws_ite ?_
  refine wt_bop ?_
  walk_at "x"
  refine ⟨fun b2 => ?_, fun b2 => ?_⟩
  · have b2 := dt b2
    refine wt_bop1 ?_
    walk_at "x"
    refine ⟨fun b3 => ?_, fun b3 => ?_⟩
    · have b3 : p < ((cs.map D.int).length : Int) := dt b3
      rw [List.length_map] at b3
      obtain ⟨z, hz⟩ := idx_ints h1 b3
      refine ws_set ?_
      walk_at "x"
      refine asZ_of hz ?_
      refine ws_setI ?_
      walk_at "x"
      rw [List.set_set]
      have hμ2 := put_cell (o' := some (stN cs (p + 1) q (c + 1) r)) hμ
      show WS _ _ _ (μ.set k (some (stN cs (p + 1) q (c + 1) r))) _
      refine ws_setI ?_
      walk_at "x"
      rw [List.set_set]
      have r1 : 0 ≤ (r * 31 + z) % 1000000007 := Int.emod_nonneg _ (by decide)
      have r2 : (r * 31 + z) % 1000000007 < 1000000007 := Int.emod_lt_of_pos _ (by decide)
      generalize (r * 31 + z) % 1000000007 = r' at r1 r2
      have hμ3 := put_cell (o' := some (stN cs (p + 1) q (c + 1) r')) hμ
      show WS _ _ _ (μ.set k (some (stN cs (p + 1) q (c + 1) r'))) _
      refine ws_ite ?_
      walk_at "x"
      refine ⟨fun b4 => ?_, fun b4 => ?_⟩
      · have b4 : (10 : Int) ^ 18 ≤ z := dt b4
        have z0 : 0 ≤ z := Int.le_trans (by decide) b4
        refine ws_setI ?_
        walk_at "x"
        rw [List.set_set]
        refine ws_nil (kq_nx (ws_nil (kq_nx ?_)))
        exact tail (p + 1) z r' (some (.d (.int z))) (by simp) (by omega) z0 r1 (by omega)
      · refine ws_nil (kq_nx (ws_nil (kq_nx ?_)))
        exact tail (p + 1) q r' (some (.d (.int z))) (by simp) (by omega) h2 r1 (by omega)
    · refine ws_nil (kq_nx ?_)
      exact tail p q r none (by simp) h1 h2 h5 h6
  · refine ⟨fun b3 => ?_, fun b3 => ?_⟩
    · rw [b2] at b3
      cases b3
    · refine ws_nil (kq_nx ?_)
      exact tail p q r none (by simp) h1 h2 h5 h6
end
end DL

/-! PL4: loops, comprehensions, the laws' helpers. -/
namespace DL
open PySem L2
/- one step; what has one way only; a step with the choices -/
local macro_rules | `(tactic| walk_at "1s") => `(tactic| first | refine we_var rfl ?_ | refine we_con ?_ | refine wa_cons ?_ | refine wa_nil ?_ | refine asI_mk ?_ | refine asZ_mk ?_ | refine asD_mk ?_ | refine we_idx ?_ | refine asV_d ?_ | refine we_call ?_ | refine we_bin ?_ | refine asOp_int ?_ | refine we_cmp ?_ | refine asCmp_mk rfl ?_ | refine wt_cmp ?_ | refine we_blt ?_ | refine asO_mk ?_ | refine asB_mk ?_ | refine asG_mk (Nat.le_of_ble_eq_true rfl) ?_ | refine asG_mk (by decide) ?_ | refine asG_mk rfl ?_ | refine wt_val ?_ | refine wt_not ?_ | refine asW_d ?_ | refine we_glo rfl ?_ | refine we_tup ?_ | refine we_lstF ?_ | refine we_lstT ?_ | refine we_isi ?_ | refine wt_isi ?_ | refine we_not ?_ | refine we_neg ?_ | refine asNeg_int ?_ | refine we_fmt ?_ | refine we_jn1 ?_ | refine we_jn ?_ | refine wj_cons ?_ | refine wj_nil ?_ | refine asSt_mk ?_ | refine asZ_mod (by decide) ?_ | refine asZ_mul (by omega) (by omega) (by decide) ?_ | refine asZ_mulS (by omega) (by omega) (by omega) (by omega) ?_ | refine asZ_div (by decide +kernel) ?_ | refine asZ_pow (by decide +kernel) ?_ | refine asR_mk ?_ | refine as1_mk ?_ | refine asT_mk ?_ | refine asS_l ?_ | refine asS_t ?_ | refine asS_k ?_ | refine asS_s ?_ | refine wi_seq ?_ | refine wi_rng1 ?_ | refine wi_rng2 ?_ | refine wi_enum ?_ | refine we_app ?_ | refine we_sl ?_ | refine wo_none ?_ | refine wo_some ?_ | refine we_rv ?_ | refine we_dicF ?_ | refine we_fld ?_ | refine asOp_tup (Nat.le_of_ble_eq_true rfl) ?_ | refine asOp_str (by decide +kernel) ?_ | (apply asV_r; assumption) | (apply asW_r; assumption) | (apply asC_mk; assumption) | refine ws_set ?_ | refine kq_nx ?_ | refine kq_rt ?_ | refine ws_ret ?_ | refine ws_nil ?_ | refine ws_ex ?_ | refine ws_unp ?_ | refine ws_pass ?_ | refine kq_bk ?_ | refine kq_ct ?_ | fail)
local macro_rules | `(tactic| walk_at "1c") => `(tactic| first | refine ws_ite ?_ | refine wt_bop ?_ | refine wt_bop1 ?_ | refine wt_chain ?_ | refine we_bop ?_ | refine we_bop1 ?_ | refine we_ife ?_ | refine we_chain ?_ | refine ws_par ?_ | refine ⟨fun _ => ?_, fun h => absurd (show (false : Bool) = true from h) Bool.false_ne_true⟩ | refine ⟨fun _ => ?_, fun h => absurd (show (true : Bool) = false from h).symm Bool.false_ne_true⟩ | refine ⟨fun h => absurd (show (true : Bool) = false from h).symm Bool.false_ne_true, fun _ => ?_⟩ | refine ⟨fun h => absurd (show (false : Bool) = true from h) Bool.false_ne_true, fun _ => ?_⟩ | fail)
local macro_rules | `(tactic| walk_at "x") => `(tactic| repeat (first | refine we_var rfl ?_ | refine we_con ?_ | refine wa_cons ?_ | refine wa_nil ?_ | refine asI_mk ?_ | refine asZ_mk ?_ | refine asD_mk ?_ | refine we_idx ?_ | refine asV_d ?_ | refine we_call ?_ | refine we_bin ?_ | refine asOp_int ?_ | refine we_cmp ?_ | refine asCmp_mk rfl ?_ | refine wt_cmp ?_ | refine we_blt ?_ | refine asO_mk ?_ | refine asB_mk ?_ | refine asG_mk (Nat.le_of_ble_eq_true rfl) ?_ | refine asG_mk (by decide) ?_ | refine asG_mk rfl ?_ | refine wt_val ?_ | refine wt_not ?_ | refine asW_d ?_ | refine we_glo rfl ?_ | refine we_tup ?_ | refine we_lstF ?_ | refine we_lstT ?_ | refine we_isi ?_ | refine wt_isi ?_ | refine we_not ?_ | refine we_neg ?_ | refine asNeg_int ?_ | refine we_fmt ?_ | refine we_jn1 ?_ | refine we_jn ?_ | refine wj_cons ?_ | refine wj_nil ?_ | refine asSt_mk ?_ | refine asZ_mod (by decide) ?_ | refine asZ_mul (by omega) (by omega) (by decide) ?_ | refine asZ_mulS (by omega) (by omega) (by omega) (by omega) ?_ | refine asZ_div (by decide +kernel) ?_ | refine asZ_pow (by decide +kernel) ?_ | refine asR_mk ?_ | refine as1_mk ?_ | refine asT_mk ?_ | refine asS_l ?_ | refine asS_t ?_ | refine asS_k ?_ | refine asS_s ?_ | refine wi_seq ?_ | refine wi_rng1 ?_ | refine wi_rng2 ?_ | refine wi_enum ?_ | refine we_app ?_ | refine we_sl ?_ | refine wo_none ?_ | refine wo_some ?_ | refine we_rv ?_ | refine we_dicF ?_ | refine we_fld ?_ | refine asOp_tup (Nat.le_of_ble_eq_true rfl) ?_ | refine asOp_str (by decide +kernel) ?_ | (apply asV_r; assumption) | (apply asW_r; assumption) | (apply asC_mk; assumption) | fail))
local macro_rules | `(tactic| walk_at "s") => `(tactic| repeat (first | refine we_var rfl ?_ | refine we_con ?_ | refine wa_cons ?_ | refine wa_nil ?_ | refine asI_mk ?_ | refine asZ_mk ?_ | refine asD_mk ?_ | refine we_idx ?_ | refine asV_d ?_ | refine we_call ?_ | refine we_bin ?_ | refine asOp_int ?_ | refine we_cmp ?_ | refine asCmp_mk rfl ?_ | refine wt_cmp ?_ | refine we_blt ?_ | refine asO_mk ?_ | refine asB_mk ?_ | refine asG_mk (Nat.le_of_ble_eq_true rfl) ?_ | refine asG_mk (by decide) ?_ | refine asG_mk rfl ?_ | refine wt_val ?_ | refine wt_not ?_ | refine asW_d ?_ | refine we_glo rfl ?_ | refine we_tup ?_ | refine we_lstF ?_ | refine we_lstT ?_ | refine we_isi ?_ | refine wt_isi ?_ | refine we_not ?_ | refine we_neg ?_ | refine asNeg_int ?_ | refine we_fmt ?_ | refine we_jn1 ?_ | refine we_jn ?_ | refine wj_cons ?_ | refine wj_nil ?_ | refine asSt_mk ?_ | refine asZ_mod (by decide) ?_ | refine asZ_mul (by omega) (by omega) (by decide) ?_ | refine asZ_mulS (by omega) (by omega) (by omega) (by omega) ?_ | refine asZ_div (by decide +kernel) ?_ | refine asZ_pow (by decide +kernel) ?_ | refine asR_mk ?_ | refine as1_mk ?_ | refine asT_mk ?_ | refine asS_l ?_ | refine asS_t ?_ | refine asS_k ?_ | refine asS_s ?_ | refine wi_seq ?_ | refine wi_rng1 ?_ | refine wi_rng2 ?_ | refine wi_enum ?_ | refine we_app ?_ | refine we_sl ?_ | refine wo_none ?_ | refine wo_some ?_ | refine we_rv ?_ | refine we_dicF ?_ | refine we_fld ?_ | refine asOp_tup (Nat.le_of_ble_eq_true rfl) ?_ | refine asOp_str (by decide +kernel) ?_ | (apply asV_r; assumption) | (apply asW_r; assumption) | (apply asC_mk; assumption) | refine ws_set ?_ | refine kq_nx ?_ | refine kq_rt ?_ | refine ws_ret ?_ | refine ws_nil ?_ | refine ws_ex ?_ | refine ws_unp ?_ | refine ws_pass ?_ | refine kq_bk ?_ | refine kq_ct ?_ | fail))
local macro_rules | `(tactic| walk_at "g") => `(tactic| repeat (first | refine we_var rfl ?_ | refine we_con ?_ | refine wa_cons ?_ | refine wa_nil ?_ | refine asI_mk ?_ | refine asZ_mk ?_ | refine asD_mk ?_ | refine we_idx ?_ | refine asV_d ?_ | refine we_call ?_ | refine we_bin ?_ | refine asOp_int ?_ | refine we_cmp ?_ | refine asCmp_mk rfl ?_ | refine wt_cmp ?_ | refine we_blt ?_ | refine asO_mk ?_ | refine asB_mk ?_ | refine asG_mk (Nat.le_of_ble_eq_true rfl) ?_ | refine asG_mk (by decide) ?_ | refine asG_mk rfl ?_ | refine wt_val ?_ | refine wt_not ?_ | refine asW_d ?_ | refine we_glo rfl ?_ | refine we_tup ?_ | refine we_lstF ?_ | refine we_lstT ?_ | refine we_isi ?_ | refine wt_isi ?_ | refine we_not ?_ | refine we_neg ?_ | refine asNeg_int ?_ | refine we_fmt ?_ | refine we_jn1 ?_ | refine we_jn ?_ | refine wj_cons ?_ | refine wj_nil ?_ | refine asSt_mk ?_ | refine asZ_mod (by decide) ?_ | refine asZ_mul (by omega) (by omega) (by decide) ?_ | refine asZ_mulS (by omega) (by omega) (by omega) (by omega) ?_ | refine asZ_div (by decide +kernel) ?_ | refine asZ_pow (by decide +kernel) ?_ | refine asR_mk ?_ | refine as1_mk ?_ | refine asT_mk ?_ | refine asS_l ?_ | refine asS_t ?_ | refine asS_k ?_ | refine asS_s ?_ | refine wi_seq ?_ | refine wi_rng1 ?_ | refine wi_rng2 ?_ | refine wi_enum ?_ | refine we_app ?_ | refine we_sl ?_ | refine wo_none ?_ | refine wo_some ?_ | refine we_rv ?_ | refine we_dicF ?_ | refine we_fld ?_ | refine asOp_tup (Nat.le_of_ble_eq_true rfl) ?_ | refine asOp_str (by decide +kernel) ?_ | (apply asV_r; assumption) | (apply asW_r; assumption) | (apply asC_mk; assumption) | refine ws_set ?_ | refine kq_nx ?_ | refine kq_rt ?_ | refine ws_ret ?_ | refine ws_nil ?_ | refine ws_ex ?_ | refine ws_unp ?_ | refine ws_pass ?_ | refine kq_bk ?_ | refine kq_ct ?_ | refine ws_ite ?_ | refine wt_bop ?_ | refine wt_bop1 ?_ | refine wt_chain ?_ | refine we_bop ?_ | refine we_bop1 ?_ | refine we_ife ?_ | refine we_chain ?_ | refine ws_par ?_ | refine ⟨fun _ => ?_, fun h => absurd (show (false : Bool) = true from h) Bool.false_ne_true⟩ | refine ⟨fun _ => ?_, fun h => absurd (show (true : Bool) = false from h).symm Bool.false_ne_true⟩ | refine ⟨fun h => absurd (show (true : Bool) = false from h).symm Bool.false_ne_true, fun _ => ?_⟩ | refine ⟨fun h => absurd (show (false : Bool) = true from h) Bool.false_ne_true, fun _ => ?_⟩ | refine ⟨fun _ => ?_, fun h => absurd (of_decide_eq_true h) (by omega)⟩ | refine ⟨fun h => absurd (of_decide_eq_true h) (by omega), fun _ => ?_⟩ | refine ⟨fun _ => ?_, fun h => absurd (by omega) (of_decide_eq_false h)⟩ | refine ⟨fun h => absurd (by omega) (of_decide_eq_false h), fun _ => ?_⟩ | refine ⟨fun _ => ?_, fun h => absurd h (by decide +kernel)⟩ | refine ⟨fun h => absurd h (by decide +kernel), fun _ => ?_⟩ | fail))
/-! ### loops -/
/-- the names' cells lie below n -/
def okEnv (n : Nat) : Env → Prop
  | [] => True
  | some (.r k) :: r => k < n ∧ okEnv n r
  | _ :: r => okEnv n r
theorem okEnv_mem {n : Nat} : ∀ {ρ : Env}, okEnv n ρ → ∀ k, some (X.r k) ∈ ρ → k < n
  | [], _, k, h => by cases h
  | none :: r, h, k, hk => okEnv_mem (ρ := r) h k (by simpa using hk)
  | some (.d x) :: r, h, k, hk => okEnv_mem (ρ := r) h k (by simpa using hk)
  | some (.r j) :: r, h, k, hk => by
    rcases List.mem_cons.mp hk with e | hk
    · cases e
      exact h.1
    · exact okEnv_mem (ρ := r) h.2 k hk
/-- a turn's end -/
structure Lq (I : Env → Mu → Prop) (Q : Fl → Mu → Prop) (μ : Mu) (fl : Fl) (μ2 : Mu) : Prop where
  h : (match fl with
  | .nx ρ' => I (tidy μ.length ρ' μ2).1 (tidy μ.length ρ' μ2).2
  | .ct ρ' => I (tidy μ.length ρ' μ2).1 (tidy μ.length ρ' μ2).2
  | .bk ρ' => Q (.nx ρ') μ2
  | fl => Q fl μ2)
section
variable {I : Env → Mu → Prop} {Q : Fl → Mu → Prop} {μ μ2 : Mu} {ρ : Env}
theorem lq_nx (hl : μ2.length = μ.length) (ho : okEnv μ.length ρ) (h : I ρ μ2) : Lq I Q μ (.nx ρ) μ2 := by
  refine ⟨?_⟩
  show I (tidy μ.length ρ μ2).1 (tidy μ.length ρ μ2).2
  rw [tidy_env hl (okEnv_mem ho)]
  exact h
theorem lq_ct (hl : μ2.length = μ.length) (ho : okEnv μ.length ρ) (h : I ρ μ2) : Lq I Q μ (.ct ρ) μ2 := by
  refine ⟨?_⟩
  show I (tidy μ.length ρ μ2).1 (tidy μ.length ρ μ2).2
  rw [tidy_env hl (okEnv_mem ho)]
  exact h
theorem lq_bk (h : Q (.nx ρ) μ2) : Lq I Q μ (.bk ρ) μ2 := ⟨h⟩
theorem lq_rt {x : X} (h : Q (.rt x) μ2) : Lq I Q μ (.rt x) μ2 := ⟨h⟩
end
section
variable {P : Par} {b : Ss} {Q : Fl → Mu → Prop} {ρ : Env} {μ : Mu}
theorem for_list {tg : Tg} (I : List D → Env → Mu → Prop) (hn : ∀ ρ μ, I [] ρ μ → Q (.nx ρ) μ)
    (hs : ∀ x xs ρ μ, I (x :: xs) ρ μ → ∃ ρ1, bindTg tg x ρ = some ρ1 ∧ WS P b ρ1 μ (Lq (I xs) Q μ)) {ds : List D} (h : I ds ρ μ) : ∃ fl μ2, forD (bindTg tg) (evSs P b) ds ρ μ = .ok fl μ2 ∧ Q fl μ2 := by
  refine for_inv I Q hn (fun x xs ρ μ h => ?_) ds ρ μ h
  obtain ⟨ρ1, e, h⟩ := hs x xs ρ μ h
  refine ⟨ρ1, e, ws_imp h fun fl μ ⟨h⟩ => ?_⟩
  exact h
theorem upTo_cons {lo : Int} {n : Nat} : upTo lo (n + 1) = .int lo :: upTo (lo + 1) n := by
  unfold upTo
  rw [List.range_succ_eq_map]
  simp only [List.map_cons, List.map_map]
  congr 1
  · simp
  · apply List.map_congr_left
    intro i _
    show D.int (lo + ((i + 1 : Nat) : Int)) = D.int (lo + 1 + (i : Int))
    congr 1
    omega
theorem for_rng {i : Nat} {lo : Int} (n : Nat) (I : Nat → Env → Mu → Prop) (hn : ∀ ρ μ, I n ρ μ → Q (.nx ρ) μ)
    (hs : ∀ k ρ μ, k < n → I k ρ μ → WS P b (ρ.set i (some (.d (.int (lo + (k : Int)))))) μ (Lq (I (k + 1)) Q μ)) (h : I 0 ρ μ) : ∃ fl μ2, forD (bindTg (.nm i)) (evSs P b) (upTo lo n) ρ μ = .ok fl μ2 ∧ Q fl μ2 := by
  have hn' : ∀ ρ μ, (∃ k, k ≤ n ∧ ([] : List D) = upTo (lo + (k : Int)) (n - k) ∧ I k ρ μ) → Q (.nx ρ) μ := by
    rintro ρ μ ⟨k, hk, e, h⟩
    have : n - k = 0 := by
      have := congrArg List.length e
      unfold upTo at this
      simp at this
      omega
    have : k = n := by omega
    subst this
    exact hn _ _ h
  have hs' : ∀ x xs ρ μ, (∃ k, k ≤ n ∧ (x :: xs) = upTo (lo + (k : Int)) (n - k) ∧ I k ρ μ) → ∃ ρ1, bindTg (.nm i) x ρ = some ρ1 ∧ WS P b ρ1 μ (Lq (fun ρ μ => ∃ k, k ≤ n ∧ xs = upTo (lo + (k : Int)) (n - k) ∧ I k ρ μ) Q μ) := by
    rintro x xs ρ μ ⟨k, hk, e, h⟩
    have hlt : k < n := by
      apply Nat.lt_of_le_of_ne hk
      intro z
      rw [z, Nat.sub_self] at e
      cases e
    have e2 : n - k = (n - (k + 1)) + 1 := by omega
    rw [e2, upTo_cons] at e
    injection e with e3 e4
    subst e3
    refine ⟨_, rfl, ws_imp (hs k ρ μ hlt h) fun fl μ2 ⟨h⟩ => ⟨?_⟩⟩
    have lift : ∀ ρ' μ', I (k + 1) ρ' μ' → ∃ k, k ≤ n ∧ xs = upTo (lo + (k : Int)) (n - k) ∧ I k ρ' μ' := fun ρ' μ' h => ⟨k + 1, hlt, by rw [e4]; congr 1; push_cast; omega, h⟩
    cases fl with
    | nx ρ' => exact lift _ _ h
    | ct ρ' => exact lift _ _ h
    | bk ρ' => exact h
    | rt x => exact h
    | ex e ρ' => exact h
  exact for_list (fun ds ρ μ => ∃ k, k ≤ n ∧ ds = upTo (lo + (k : Int)) (n - k) ∧ I k ρ μ) hn' hs' ⟨0, Nat.zero_le _, by simp, h⟩
/-- a comprehension whose turns leave the cells as they are: q tells what is kept, f what is made -/
theorem lcD_pure {tg : Tg} {ifs : To} {elt : E} {ρw : Env} (q : D → Bool) (f : D → D) : ∀ (ds acc : List D), (∀ d ∈ ds, ∃ ρ1, bindTg tg d ρw = some ρ1 ∧ evA P ifs ρ1 μ = .ok (q d) μ ∧ (q d = true → evE P elt ρ1 μ = .ok (.d (f d)) μ)) → acc.length + ds.length ≤ 1000000 →
    lcD (bindTg tg) (evA P ifs) (evE P elt) ρw ds acc μ = .ok (acc ++ (ds.filter q).map f) μ
  | [], acc, _, _ => by simp [lcD]
  | d :: ds, acc, h, hl => by
    obtain ⟨ρ1, e1, e2, e3⟩ := h d List.mem_cons_self
    have ih := fun acc' hl' => lcD_pure (tg := tg) (ifs := ifs) (elt := elt) (ρw := ρw) q f ds acc' (fun x hx => h x (List.mem_cons_of_mem _ hx)) hl'
    simp only [lcD, e1, e2]
    simp only [List.length_cons] at hl
    cases hq : q d with
    | false =>
      dsimp only
      rw [tidy_self, ih acc (by omega), List.filter_cons, hq]
      rfl
    | true =>
      have hs : sizeOk acc = true := by
        unfold sizeOk
        exact decide_eq_true (by omega)
      simp only [e3 hq, hs, if_true]
      rw [tidy_self, ih (acc ++ [f d]) (by simp; omega), List.filter_cons, hq]
      simp
theorem we_lcF {K : X → Mu → Prop} {tg : Tg} {it : It} {ifs : To} {elt : E} {own : List Nat} (h : WI P it ρ μ fun ds μ1 => ∃ q f, ds.length ≤ 1000000 ∧ (∀ d ∈ ds, ∃ ρ1, bindTg tg d (wipeE ρ own) = some ρ1 ∧ evA P ifs ρ1 μ1 = .ok (q d) μ1 ∧ (q d = true → evE P elt ρ1 μ1 = .ok (.d (f d)) μ1)) ∧ K (.d (.lst ((ds.filter q).map f))) μ1) : WE P (.lc false tg it ifs elt own) ρ μ K := by
  obtain ⟨ds, μ1, e1, q, f, hl, h1, h2⟩ := h
  refine ⟨_, μ1, ?_, h2⟩
  have hz : ((ds.filter q).map f).length ≤ 1000000 := by
    rw [List.length_map]
    exact Nat.le_trans (List.length_filter_le _ _) hl
  simp only [evE, e1, R.bind, lcD_pure q f ds [] h1 (by simpa using hl), List.nil_append, allocF hz]
theorem we_lcT {K : X → Mu → Prop} {tg : Tg} {it : It} {ifs : To} {elt : E} {own : List Nat} (h : WI P it ρ μ fun ds μ1 => ∃ q f, ds.length ≤ 1000000 ∧ (∀ d ∈ ds, ∃ ρ1, bindTg tg d (wipeE ρ own) = some ρ1 ∧ evA P ifs ρ1 μ1 = .ok (q d) μ1 ∧ (q d = true → evE P elt ρ1 μ1 = .ok (.d (f d)) μ1)) ∧ K (.r μ1.length) (μ1 ++ [some (.lst ((ds.filter q).map f))])) : WE P (.lc true tg it ifs elt own) ρ μ K := by
  obtain ⟨ds, μ1, e1, q, f, hl, h1, h2⟩ := h
  refine ⟨_, _, ?_, h2⟩
  have hz : ((ds.filter q).map f).length ≤ 1000000 := by
    rw [List.length_map]
    exact Nat.le_trans (List.length_filter_le _ _) hl
  simp only [evE, e1, R.bind, lcD_pure q f ds [] h1 (by simpa using hl), List.nil_append, allocT hz]
end
/-! ### loops, by the slots that they use -/
def dset (ρ : Env) : List Nat → List (Option X) → Env
  | i :: is, z :: zs => dset (ρ.set i z) is zs
  | _, _ => ρ
def wipeD (ρ : Env) : List Nat → Env
  | [] => ρ
  | i :: is => wipeD (ρ.set i none) is
def Off (dirt : List Nat) (ρ ρ0 : Env) : Prop := ρ.length = ρ0.length ∧ ∀ i, i ∉ dirt → ρ[i]? = ρ0[i]?
theorem wipeD_len : ∀ (is : List Nat) (ρ : Env), (wipeD ρ is).length = ρ.length
  | [], ρ => rfl
  | i :: is, ρ => by
    unfold wipeD
    rw [wipeD_len is, List.length_set]
theorem wipeD_out {j : Nat} : ∀ {is : List Nat} {ρ : Env}, j ∉ is → (wipeD ρ is)[j]? = ρ[j]?
  | [], ρ, _ => rfl
  | i :: is, ρ, h => by
    unfold wipeD
    rw [List.mem_cons, not_or] at h
    rw [wipeD_out h.2, List.getElem?_set_ne (Ne.symm h.1)]
theorem off_of {dirt : List Nat} {ρ ρ0 : Env} (h : wipeD ρ dirt = wipeD ρ0 dirt) : Off dirt ρ ρ0 :=
  ⟨by rw [← wipeD_len dirt ρ, h, wipeD_len], fun i hi => by rw [← wipeD_out hi, h, wipeD_out hi]⟩
theorem off_dset : ∀ {dirt : List Nat} {ρ ρ0 : Env}, Off dirt ρ ρ0 → ∃ zs, zs.length = dirt.length ∧ ρ = dset ρ0 dirt zs
  | [], ρ, ρ0, h => ⟨[], rfl, List.ext_getElem? fun i => h.2 i (by simp)⟩
  | i :: is, ρ, ρ0, h => by
    have h2 : Off is ρ (ρ0.set i (ρ[i]?).join) := ⟨by rw [List.length_set]; exact h.1, fun j hj => by
      by_cases e : j = i
      · subst e
        by_cases l : j < ρ0.length
        · rw [List.getElem?_set_self l]
          have l2 : j < ρ.length := by rw [h.1]; exact l
          rw [List.getElem?_eq_getElem l2]
          rfl
        · rw [List.getElem?_eq_none (by rw [h.1]; omega), List.getElem?_eq_none (by rw [List.length_set]; omega)]
      · rw [List.getElem?_set_ne (Ne.symm e)]
        exact h.2 j (by simp [e, hj])⟩
    obtain ⟨zs, h3, h4⟩ := off_dset h2
    exact ⟨(ρ[i]?).join :: zs, by simp [h3], h4⟩
theorem off_clr {dirt : List Nat} {ρ ρ0 : Env} {n : Nat} (ok : okEnv n (wipeD ρ0 dirt)) (h : Off dirt ρ ρ0) : Off dirt (ρ.map (clr n)) ρ0 := by
  refine ⟨by rw [List.length_map]; exact h.1, fun i hi => ?_⟩
  rw [List.getElem?_map, h.2 i hi]
  cases q : ρ0[i]? with
  | none => rfl
  | some o =>
    cases o with
    | none => rfl
    | some x =>
      cases x with
      | d y => rfl
      | r k =>
        have hm : some (X.r k) ∈ wipeD ρ0 dirt := by
          have e : (wipeD ρ0 dirt)[i]? = some (some (X.r k)) := by rw [wipeD_out hi, q]
          exact List.mem_of_getElem? e
        have := okEnv_mem ok k hm
        simp only [Option.map_some, clr, if_pos this]
/-- a turn's end -/
structure Ld (dirt : List Nat) (ρ0 : Env) (n : Nat) (J : Mu → Prop) (Q : Fl → Mu → Prop) (fl : Fl) (μ2 : Mu) : Prop where
  h : (match fl with
  | .nx ρ' => wipeD ρ' dirt = wipeD ρ0 dirt ∧ (J μ2 ∨ (belowAll n (μ2.take n) = true ∧ J (μ2.take n)))
  | .ct ρ' => wipeD ρ' dirt = wipeD ρ0 dirt ∧ (J μ2 ∨ (belowAll n (μ2.take n) = true ∧ J (μ2.take n)))
  | .bk ρ' => Q (.nx ρ') μ2
  | fl => Q fl μ2)
section
variable {P : Par} {b : Ss} {Q : Fl → Mu → Prop} {ρ0 : Env} {dirt : List Nat} {n : Nat} {J : Mu → Prop} {μ μ2 : Mu} {ρ : Env}
theorem ld_nx (hw : wipeD ρ dirt = wipeD ρ0 dirt) (h : J μ2) : Ld dirt ρ0 n J Q (.nx ρ) μ2 := ⟨hw, .inl h⟩
theorem ld_ct (hw : wipeD ρ dirt = wipeD ρ0 dirt) (h : J μ2) : Ld dirt ρ0 n J Q (.ct ρ) μ2 := ⟨hw, .inl h⟩
theorem ld_nxA {m : Mu} (hw : wipeD ρ dirt = wipeD ρ0 dirt) (hl : μ2.length = n) (hb : belowAll n μ2 = true) (h : J μ2) : Ld dirt ρ0 n J Q (.nx ρ) (μ2 ++ m) := ⟨hw, .inr (by
  have e : (μ2 ++ m).take n = μ2 := by rw [← hl, List.take_left]
  rw [e]
  exact ⟨hb, h⟩)⟩
theorem ld_bk (h : Q (.nx ρ) μ2) : Ld dirt ρ0 n J Q (.bk ρ) μ2 := ⟨h⟩
theorem ld_rt {x : X} (h : Q (.rt x) μ2) : Ld dirt ρ0 n J Q (.rt x) μ2 := ⟨h⟩
theorem for_d {tg : Tg} (dirt : List Nat) (n : Nat) (ok : okEnv n (wipeD ρ0 dirt)) (J : List D → Mu → Prop) (hl : ∀ ds μ, J ds μ → μ.length = n)
    (hn : ∀ zs μ, zs.length = dirt.length → J [] μ → Q (.nx (dset ρ0 dirt zs)) μ)
    (hs : ∀ x xs zs μ, zs.length = dirt.length → J (x :: xs) μ → ∃ ρ1, bindTg tg x (dset ρ0 dirt zs) = some ρ1 ∧ WS P b ρ1 μ (Ld dirt ρ0 n (J xs) Q))
    {ds : List D} (h : J ds μ) : ∃ fl μ2, forD (bindTg tg) (evSs P b) ds ρ0 μ = .ok fl μ2 ∧ Q fl μ2 := by
  refine for_inv (fun ds ρ μ => Off dirt ρ ρ0 ∧ J ds μ) Q (fun ρ μ h => ?_) (fun x xs ρ μ h => ?_) ds ρ0 μ ⟨⟨rfl, fun _ _ => rfl⟩, h⟩
  · obtain ⟨zs, h1, rfl⟩ := off_dset h.1
    exact hn zs μ h1 h.2
  · obtain ⟨zs, h1, rfl⟩ := off_dset h.1
    obtain ⟨ρ1, e, h2⟩ := hs x xs zs μ h1 h.2
    have hμ := hl _ _ h.2
    have fin : ∀ ρ' μ2, wipeD ρ' dirt = wipeD ρ0 dirt ∧ (J xs μ2 ∨ (belowAll n (μ2.take n) = true ∧ J xs (μ2.take n))) → Off dirt (tidy μ.length ρ' μ2).1 ρ0 ∧ J xs (tidy μ.length ρ' μ2).2 := fun ρ' μ2 ⟨hw, h3⟩ => by
      have o := off_of hw
      rw [hμ]
      unfold tidy
      rcases h3 with h3 | ⟨h3, h4⟩
      · split
        · refine ⟨off_clr ok o, ?_⟩
          show J xs (μ2.take n)
          rw [← hl _ _ h3, List.take_length]
          exact h3
        · exact ⟨o, h3⟩
      · rw [if_pos h3]
        exact ⟨off_clr ok o, h4⟩
    refine ⟨ρ1, e, ws_imp h2 fun fl μ2 ⟨h3⟩ => ?_⟩
    cases fl with
    | nx ρ' => exact fin ρ' μ2 h3
    | ct ρ' => exact fin ρ' μ2 h3
    | bk ρ' => exact h3
    | rt x => exact h3
    | ex e ρ' => exact h3
/-- over a range -/
theorem for_rd {i : Nat} {lo : Int} (dirt : List Nat) (n N : Nat) (ok : okEnv n (wipeD ρ0 dirt)) (J : Nat → Mu → Prop) (hl : ∀ k μ, J k μ → μ.length = n)
    (hn : ∀ zs μ, zs.length = dirt.length → J N μ → Q (.nx (dset ρ0 dirt zs)) μ)
    (hs : ∀ k zs μ, k < N → zs.length = dirt.length → J k μ → WS P b ((dset ρ0 dirt zs).set i (some (.d (.int (lo + (k : Int)))))) μ (Ld dirt ρ0 n (J (k + 1)) Q))
    (h : J 0 μ) : ∃ fl μ2, forD (bindTg (.nm i)) (evSs P b) (upTo lo N) ρ0 μ = .ok fl μ2 ∧ Q fl μ2 := by
  refine for_d dirt n ok (fun ds μ => ∃ k, k ≤ N ∧ ds = upTo (lo + (k : Int)) (N - k) ∧ J k μ) ?_ ?_ ?_ ⟨0, Nat.zero_le _, by simp, h⟩
  · rintro ds μ ⟨k, _, _, h⟩
    exact hl k μ h
  · rintro zs μ hz ⟨k, hk, e, h⟩
    have e2 : N - k = 0 := by
      have := congrArg List.length e
      unfold upTo at this
      simp at this
      omega
    have : k = N := by omega
    subst this
    exact hn zs μ hz h
  · rintro x xs zs μ hz ⟨k, hk, e, h⟩
    have hlt : k < N := by
      apply Nat.lt_of_le_of_ne hk
      intro z
      rw [z, Nat.sub_self] at e
      cases e
    have e2 : N - k = (N - (k + 1)) + 1 := by omega
    rw [e2, upTo_cons] at e
    injection e with e3 e4
    subst e3
    refine ⟨_, rfl, ws_imp (hs k zs μ hlt hz h) fun fl μ2 ⟨h⟩ => ⟨?_⟩⟩
    have lift : ∀ μ', J (k + 1) μ' → ∃ k, k ≤ N ∧ xs = upTo (lo + (k : Int)) (N - k) ∧ J k μ' := fun μ' h => ⟨k + 1, hlt, by rw [e4]; congr 1; push_cast; omega, h⟩
    cases fl with
    | nx ρ' => exact ⟨h.1, h.2.imp (lift _) fun z => ⟨z.1, lift _ z.2⟩⟩
    | ct ρ' => exact ⟨h.1, h.2.imp (lift _) fun z => ⟨z.1, lift _ z.2⟩⟩
    | bk ρ' => exact h
    | rt x => exact h
    | ex e ρ' => exact h
/-- a loop that looks at each item and changes nothing -/
theorem for_all {tg : Tg} (dirt : List Nat) (ok : okEnv μ.length (wipeD ρ0 dirt)) {ds : List D} (good : D → Prop) (hg : ∀ x ∈ ds, good x)
    (hn : ∀ zs, zs.length = dirt.length → Q (.nx (dset ρ0 dirt zs)) μ)
    (hs : ∀ x zs, zs.length = dirt.length → good x → ∃ ρ1, bindTg tg x (dset ρ0 dirt zs) = some ρ1 ∧ WS P b ρ1 μ (Ld dirt ρ0 μ.length (fun m => m = μ) Q)) : ∃ fl μ2, forD (bindTg tg) (evSs P b) ds ρ0 μ = .ok fl μ2 ∧ Q fl μ2 := by
  refine for_d dirt μ.length ok (fun ds m => m = μ ∧ ∀ x ∈ ds, good x) (fun ds m h => by rw [h.1]) (fun zs m hz h => by rw [h.1]; exact hn zs hz) (fun x xs zs m hz h => ?_) ⟨rfl, hg⟩
  obtain ⟨rfl, hx⟩ := h
  obtain ⟨ρ1, e, h⟩ := hs x zs hz (hx x List.mem_cons_self)
  refine ⟨ρ1, e, ws_imp h fun fl μ2 ⟨h⟩ => ⟨?_⟩⟩
  have hr : ∀ y ∈ xs, good y := fun y hy => hx y (List.mem_cons_of_mem _ hy)
  cases fl with
  | nx ρ' => exact ⟨h.1, h.2.imp (fun z => ⟨z, hr⟩) fun z => ⟨z.1, z.2, hr⟩⟩
  | ct ρ' => exact ⟨h.1, h.2.imp (fun z => ⟨z, hr⟩) fun z => ⟨z.1, z.2, hr⟩⟩
  | bk ρ' => exact h
  | rt x => exact h
  | ex e ρ' => exact h
theorem for_rall {i : Nat} {lo : Int} (dirt : List Nat) (N : Nat) (ok : okEnv μ.length (wipeD ρ0 dirt))
    (hn : ∀ zs, zs.length = dirt.length → Q (.nx (dset ρ0 dirt zs)) μ)
    (hs : ∀ (k : Nat) zs, k < N → zs.length = dirt.length → WS P b ((dset ρ0 dirt zs).set i (some (.d (.int (lo + (k : Int)))))) μ (Ld dirt ρ0 μ.length (fun m => m = μ) Q)) : ∃ fl μ2, forD (bindTg (.nm i)) (evSs P b) (upTo lo N) ρ0 μ = .ok fl μ2 ∧ Q fl μ2 :=
  for_rd dirt μ.length N ok (fun _ m => m = μ) (fun _ m h => by rw [h]) (fun zs m hz h => by rw [h]; exact hn zs hz) (fun k zs m hk hz h => by subst h; exact hs k zs hk hz) rfl
end
theorem zs1 {α : Type} {zs : List α} (h : zs.length = 1) : ∃ a, zs = [a] := by
  match zs, h with
  | [a], _ => exact ⟨a, rfl⟩
theorem zs2 {α : Type} {zs : List α} (h : zs.length = 2) : ∃ a b, zs = [a, b] := by
  match zs, h with
  | [a, b], _ => exact ⟨a, b, rfl⟩
theorem zs3 {α : Type} {zs : List α} (h : zs.length = 3) : ∃ a b c, zs = [a, b, c] := by
  match zs, h with
  | [a, b, c], _ => exact ⟨a, b, c, rfl⟩
theorem zs4 {α : Type} {zs : List α} (h : zs.length = 4) : ∃ a b c d, zs = [a, b, c, d] := by
  match zs, h with
  | [a, b, c, d], _ => exact ⟨a, b, c, d, rfl⟩
theorem zs5 {α : Type} {zs : List α} (h : zs.length = 5) : ∃ a b c d e, zs = [a, b, c, d, e] := by
  match zs, h with
  | [a, b, c, d, e], _ => exact ⟨a, b, c, d, e, rfl⟩
/-! ### comprehensions, by rules -/
section
variable {P : Par} {ρ : Env} {μ : Mu} {K : X → Mu → Prop} {tg : Tg} {it : It} {elt : E} {own : List Nat} {t : T}
theorem we_lcP (h : WI P it ρ μ fun ds μ1 => ∃ f : D → D, ds.length ≤ 1000000 ∧ (∀ d ∈ ds, ∃ ρ1, bindTg tg d (wipeE ρ own) = some ρ1 ∧ WE P elt ρ1 μ1 fun x m => x = .d (f d) ∧ m = μ1) ∧ K (.d (.lst (ds.map f))) μ1) : WE P (.lc false tg it .none elt own) ρ μ K := by
  refine we_lcF ?_
  obtain ⟨ds, μ1, e, f, hl, h1, h2⟩ := h
  refine ⟨ds, μ1, e, fun _ => true, f, hl, fun d hd => ?_, by rw [List.filter_eq_self.mpr (fun _ _ => rfl)]; exact h2⟩
  obtain ⟨ρ1, e1, x, m, e2, rfl, rfl⟩ := h1 d hd
  exact ⟨ρ1, e1, by simp only [evA], fun _ => e2⟩
theorem we_lcQ (h : WI P it ρ μ fun ds μ1 => ∃ (q : D → Bool) (f : D → D), ds.length ≤ 1000000 ∧ (∀ d ∈ ds, ∃ ρ1, bindTg tg d (wipeE ρ own) = some ρ1 ∧ (WT P t ρ1 μ1 fun b m => b = q d ∧ m = μ1) ∧ (q d = true → WE P elt ρ1 μ1 fun x m => x = .d (f d) ∧ m = μ1)) ∧ K (.d (.lst ((ds.filter q).map f))) μ1) : WE P (.lc false tg it (.some t) elt own) ρ μ K := by
  refine we_lcF ?_
  obtain ⟨ds, μ1, e, q, f, hl, h1, h2⟩ := h
  refine ⟨ds, μ1, e, q, f, hl, fun d hd => ?_, h2⟩
  obtain ⟨ρ1, e1, ⟨b, m, e2, rfl, rfl⟩, h3⟩ := h1 d hd
  refine ⟨ρ1, e1, by simp only [evA]; exact e2, fun hq => ?_⟩
  obtain ⟨x, m, e3, rfl, rfl⟩ := h3 hq
  exact e3
/-- .. whose turns draw: J of the items left and the items made -/
theorem lcD_J {ρw : Env} {n : Nat} (J : List D → List D → Mu → Prop) (hJ : ∀ ds acc μ, J ds acc μ → μ.length = n ∧ acc.length + ds.length ≤ 1000000) (hs : ∀ x xs acc μ, J (x :: xs) acc μ → ∃ ρ1, bindTg tg x ρw = some ρ1 ∧ WE P elt ρ1 μ fun y m => ∃ d, y = .d d ∧ J xs (acc ++ [d]) m) :
    ∀ (ds acc : List D) (μ : Mu), J ds acc μ → ∃ out μ2, lcD (bindTg tg) (evA P .none) (evE P elt) ρw ds acc μ = .ok out μ2 ∧ J [] out μ2
  | [], acc, μ, h => ⟨acc, μ, rfl, h⟩
  | x :: xs, acc, μ, h => by
    obtain ⟨ρ1, e1, y, m, e2, d, rfl, h2⟩ := hs x xs acc μ h
    obtain ⟨l1, l2⟩ := hJ _ _ _ h
    obtain ⟨l3, _⟩ := hJ _ _ _ h2
    simp only [List.length_cons] at l2
    have hz : sizeOk acc = true := by unfold sizeOk; exact decide_eq_true (by omega)
    obtain ⟨out, μ2, e3, h3⟩ := lcD_J J hJ hs xs (acc ++ [d]) m h2
    refine ⟨out, μ2, ?_, h3⟩
    simp only [lcD, e1, evA, e2, hz, if_true]
    rw [tidy_len (by rw [l3, l1])]
    exact e3
theorem we_lcJ {n : Nat} (h : WI P it ρ μ fun ds μ1 => ∃ J : List D → List D → Mu → Prop, (∀ ds acc μ, J ds acc μ → μ.length = n ∧ acc.length + ds.length ≤ 1000000) ∧ (∀ x xs acc μ, J (x :: xs) acc μ → ∃ ρ1, bindTg tg x (wipeE ρ own) = some ρ1 ∧ WE P elt ρ1 μ fun y m => ∃ d, y = .d d ∧ J xs (acc ++ [d]) m) ∧ J ds [] μ1 ∧ ∀ out m, J [] out m → K (.d (.lst out)) m) : WE P (.lc false tg it .none elt own) ρ μ K := by
  obtain ⟨ds, μ1, e, J, h1, h2, h3, h4⟩ := h
  obtain ⟨out, μ2, e2, h5⟩ := lcD_J J h1 h2 ds [] μ1 h3
  refine ⟨_, μ2, ?_, h4 out μ2 h5⟩
  have hz : out.length ≤ 1000000 := by
    have := (h1 _ _ _ h5).2
    simpa using this
  simp only [evE, e, R.bind, e2, allocF hz]
end
theorem wc_imp {C : CallF} {j : Nat} {xs : List X} {μ : Mu} {K K' : X → Mu → Prop} (h : WC1 C j xs μ K) (i : ∀ x μ, K x μ → K' x μ) : WC1 C j xs μ K' := by
  obtain ⟨x, μ1, e, h⟩ := h
  exact ⟨x, μ1, e, i _ _ h⟩
/-! ### the draws' helpers -/
def bBetween (jt : Nat) : Ss := (.cons (.ret (.bin .add (.var 1) (.call jt (.cons (.var 0) (.cons (.bin .add (.bin .sub (.var 2) (.var 1)) (.con (.int 1))) .nil)) []))) .nil)
def bEdge (jt jb : Nat) : Ss := (.cons (.set 3 (.call jt (.cons (.var 0) (.cons (.con (.int 12)) .nil)) [])) (.cons (.ite (.cmp .lt (.var 3) (.con (.int 4))) (.cons (.ret (.idx (.lst false (.cons (.var 1) (.cons (.var 2) (.cons (.blt false .min2 (.cons (.bin .add (.var 1) (.con (.int 1))) (.cons (.var 2) .nil))) (.cons (.blt false .max2 (.cons (.bin .sub (.var 2) (.con (.int 1))) (.cons (.var 1) .nil))) .nil))))) (.var 3))) .nil) .nil) (.cons (.ite (.cmp .lt (.var 3) (.con (.int 8))) (.cons (.ret (.call jb (.cons (.var 0) (.cons (.var 1) (.cons (.blt false .min2 (.cons (.bin .add (.var 1) (.con (.int 9))) (.cons (.var 2) .nil))) .nil))) [])) .nil) .nil) (.cons (.ret (.call jb (.cons (.var 0) (.cons (.var 1) (.cons (.var 2) .nil))) [])) .nil))))
def bStore : Ss := (.cons (.ret (.lst true (.cons (.lc false (.nm 1) (.seq (.var 0)) .none (.blt false .int (.cons (.var 1) .nil)) [1]) (.cons (.con (.int 0)) (.cons (.con (.int 0)) (.cons (.con (.int 0)) (.cons (.blt false .len (.cons (.var 0) .nil)) .nil))))))) .nil)
section
variable {T : Tab} {W n jt jb je js : Nat} {μ : Mu} {k : Nat} {cs : List Int} {N m lo hi : Int} {K : X → Mu → Prop}
theorem between_wc (hT : T.fns[jt]? = some ⟨2, 5, bTake⟩) (hB : T.fns[jb]? = some ⟨3, 3, bBetween jt⟩) (hW : 1000 ≤ W) (h : St μ k cs N) (hN : N < 2 ^ 63) (hle : lo ≤ hi) (hm : hi - lo < 2 ^ 3999)
    (hK : ∀ z nd, lo ≤ z → z ≤ hi → St (μ.set k (some nd)) k cs (N + 1) → K (.d (.int z)) (μ.set k (some nd))) : WC1 (callD T W (n + 2)) jb [.r k, .d (.int lo), .d (.int hi)] μ K := by
  refine wc_of hB rfl ?_
  show WS _ (bBetween jt) [some (.r k), some (.d (.int lo)), some (.d (.int hi))] μ _
  unfold bBetween
  walk_at "s"
  have e1 : (2 : Int) ^ 4000 = 2 * 2 ^ 3999 := by
    have : (2 : Int) ^ (3999 + 1) = 2 ^ 3999 * 2 := Int.pow_succ 2 3999
    omega
  have e2 : (1 : Int) ≤ 2 ^ 3999 := by
    have : (0 : Int) < 2 ^ 3999 := Int.pow_pos (by decide)
    omega
  refine take_wc (n := n) hT hW h hN (by omega) fun z nd h1 h2 h3 => ?_
  walk_at "s"
  exact fq_d (by simp) (hK _ _ (by omega) (by omega) h3)
theorem int_small {i : Int} (h0 : -(2 ^ 62) ≤ i) (h1 : i < 2 ^ 62) : small i = true := by
  unfold small
  rw [decide_eq_true h0, decide_eq_true h1]
  rfl
theorem edge_wc (hT : T.fns[jt]? = some ⟨2, 5, bTake⟩) (hB : T.fns[jb]? = some ⟨3, 3, bBetween jt⟩) (hE : T.fns[je]? = some ⟨3, 4, bEdge jt jb⟩) (hW : 1000 ≤ W) (h : St μ k cs N) (hN : N < 2 ^ 62) (hle : lo ≤ hi) (hm : hi - lo < 2 ^ 3999)
    (hK : ∀ z nd, lo ≤ z → z ≤ hi → St (μ.set k (some nd)) k cs (N + 2) → K (.d (.int z)) (μ.set k (some nd))) : WC1 (callD T W (n + 3)) je [.r k, .d (.int lo), .d (.int hi)] μ K := by
  refine wc_of hE rfl ?_
  show WS _ (bEdge jt jb) [some (.r k), some (.d (.int lo)), some (.d (.int hi)), none] μ _
  unfold bEdge
  walk_at "s"
  refine take_wc (n := n + 1) hT hW h (by omega) (by decide) fun z nd h1 h2 h3 => ?_
  have done : ∀ z, lo ≤ z → z ≤ hi → Fq μ K (.rt (.d (.int z))) (μ.set k (some nd)) := fun z g1 g2 => fq_d (by simp) (hK z nd g1 g2 (h3.more (by omega)))
  have out : ∀ lo' hi', lo ≤ lo' → lo' ≤ hi' → hi' ≤ hi → WC1 (callD T W (n + 2)) jb [.r k, .d (.int lo'), .d (.int hi')] (μ.set k (some nd)) fun x μ1 => Fq μ K (.rt x) μ1 := by
    intro lo' hi' g1 g2 g3
    refine between_wc (n := n) hT hB hW h3 (by omega) g2 (by omega) fun z' nd' q1 q2 q3 => ?_
    rw [List.set_set] at q3 ⊢
    have e : N + 1 + 1 = N + 2 := by omega
    rw [e] at q3
    exact fq_d (by simp) (hK z' nd' (by omega) (by omega) q3)
  walk_at "s"
  refine ws_ite ?_
  walk_at "x"
  refine ⟨fun b => ?_, fun b => ?_⟩
  · have b : z < 4 := dt b
    walk_at "x"
    have hz : z = 0 ∨ z = 1 ∨ z = 2 ∨ z = 3 := by omega
    rcases hz with rfl | rfl | rfl | rfl
    · walk_at "s"
      exact done _ (by omega) (by omega)
    · walk_at "s"
      exact done _ (by omega) (by omega)
    · walk_at "s"
      refine done _ ?_ ?_ <;> split <;> omega
    · walk_at "s"
      refine done _ ?_ ?_ <;> split <;> omega
  · have b : ¬ z < 4 := df b
    refine ws_nil (kq_nx (ws_ite ?_))
    walk_at "x"
    refine ⟨fun b => ?_, fun b => ?_⟩
    · walk_at "s"
      refine wc_imp (out _ _ (Int.le_refl _) ?_ ?_) fun x μ h => kq_rt h
      all_goals (split <;> omega)
    · refine ws_nil (kq_nx ?_)
      walk_at "s"
      exact out _ _ (Int.le_refl _) hle (Int.le_refl _)
end
end DL

/-! PL5: the same, ints, the store. -/
namespace DL
open PySem L2
/- one step; what has one way only; a step with the choices -/
local macro_rules | `(tactic| walk_at "1s") => `(tactic| first | refine we_var rfl ?_ | refine we_con ?_ | refine wa_cons ?_ | refine wa_nil ?_ | refine asI_mk ?_ | refine asZ_mk ?_ | refine asD_mk ?_ | refine we_idx ?_ | refine asV_d ?_ | refine we_call ?_ | refine we_bin ?_ | refine asOp_int ?_ | refine we_cmp ?_ | refine asCmp_mk rfl ?_ | refine wt_cmp ?_ | refine we_blt ?_ | refine asO_mk ?_ | refine asB_mk ?_ | refine asG_mk (Nat.le_of_ble_eq_true rfl) ?_ | refine asG_mk (by decide) ?_ | refine asG_mk rfl ?_ | refine wt_val ?_ | refine wt_not ?_ | refine asW_d ?_ | refine we_glo rfl ?_ | refine we_tup ?_ | refine we_lstF ?_ | refine we_lstT ?_ | refine we_isi ?_ | refine wt_isi ?_ | refine we_not ?_ | refine we_neg ?_ | refine asNeg_int ?_ | refine we_fmt ?_ | refine we_jn1 ?_ | refine we_jn ?_ | refine wj_cons ?_ | refine wj_nil ?_ | refine asSt_mk ?_ | refine asZ_mod (by decide) ?_ | refine asZ_mul (by omega) (by omega) (by decide) ?_ | refine asZ_mulS (by omega) (by omega) (by omega) (by omega) ?_ | refine asZ_div (by decide +kernel) ?_ | refine asZ_pow (by decide +kernel) ?_ | refine asR_mk ?_ | refine as1_mk ?_ | refine asT_mk ?_ | refine asS_l ?_ | refine asS_t ?_ | refine asS_k ?_ | refine asS_s ?_ | refine wi_seq ?_ | refine wi_rng1 ?_ | refine wi_rng2 ?_ | refine wi_enum ?_ | refine we_app ?_ | refine we_sl ?_ | refine wo_none ?_ | refine wo_some ?_ | refine we_rv ?_ | refine we_dicF ?_ | refine we_fld ?_ | refine asOp_tup (Nat.le_of_ble_eq_true rfl) ?_ | refine asOp_str (by decide +kernel) ?_ | (apply asV_r; assumption) | (apply asW_r; assumption) | (apply asC_mk; assumption) | refine ws_set ?_ | refine kq_nx ?_ | refine kq_rt ?_ | refine ws_ret ?_ | refine ws_nil ?_ | refine ws_ex ?_ | refine ws_unp ?_ | refine ws_pass ?_ | refine kq_bk ?_ | refine kq_ct ?_ | fail)
local macro_rules | `(tactic| walk_at "1c") => `(tactic| first | refine ws_ite ?_ | refine wt_bop ?_ | refine wt_bop1 ?_ | refine wt_chain ?_ | refine we_bop ?_ | refine we_bop1 ?_ | refine we_ife ?_ | refine we_chain ?_ | refine ws_par ?_ | refine ⟨fun _ => ?_, fun h => absurd (show (false : Bool) = true from h) Bool.false_ne_true⟩ | refine ⟨fun _ => ?_, fun h => absurd (show (true : Bool) = false from h).symm Bool.false_ne_true⟩ | refine ⟨fun h => absurd (show (true : Bool) = false from h).symm Bool.false_ne_true, fun _ => ?_⟩ | refine ⟨fun h => absurd (show (false : Bool) = true from h) Bool.false_ne_true, fun _ => ?_⟩ | fail)
local macro_rules | `(tactic| walk_at "x") => `(tactic| repeat (first | refine we_var rfl ?_ | refine we_con ?_ | refine wa_cons ?_ | refine wa_nil ?_ | refine asI_mk ?_ | refine asZ_mk ?_ | refine asD_mk ?_ | refine we_idx ?_ | refine asV_d ?_ | refine we_call ?_ | refine we_bin ?_ | refine asOp_int ?_ | refine we_cmp ?_ | refine asCmp_mk rfl ?_ | refine wt_cmp ?_ | refine we_blt ?_ | refine asO_mk ?_ | refine asB_mk ?_ | refine asG_mk (Nat.le_of_ble_eq_true rfl) ?_ | refine asG_mk (by decide) ?_ | refine asG_mk rfl ?_ | refine wt_val ?_ | refine wt_not ?_ | refine asW_d ?_ | refine we_glo rfl ?_ | refine we_tup ?_ | refine we_lstF ?_ | refine we_lstT ?_ | refine we_isi ?_ | refine wt_isi ?_ | refine we_not ?_ | refine we_neg ?_ | refine asNeg_int ?_ | refine we_fmt ?_ | refine we_jn1 ?_ | refine we_jn ?_ | refine wj_cons ?_ | refine wj_nil ?_ | refine asSt_mk ?_ | refine asZ_mod (by decide) ?_ | refine asZ_mul (by omega) (by omega) (by decide) ?_ | refine asZ_mulS (by omega) (by omega) (by omega) (by omega) ?_ | refine asZ_div (by decide +kernel) ?_ | refine asZ_pow (by decide +kernel) ?_ | refine asR_mk ?_ | refine as1_mk ?_ | refine asT_mk ?_ | refine asS_l ?_ | refine asS_t ?_ | refine asS_k ?_ | refine asS_s ?_ | refine wi_seq ?_ | refine wi_rng1 ?_ | refine wi_rng2 ?_ | refine wi_enum ?_ | refine we_app ?_ | refine we_sl ?_ | refine wo_none ?_ | refine wo_some ?_ | refine we_rv ?_ | refine we_dicF ?_ | refine we_fld ?_ | refine asOp_tup (Nat.le_of_ble_eq_true rfl) ?_ | refine asOp_str (by decide +kernel) ?_ | (apply asV_r; assumption) | (apply asW_r; assumption) | (apply asC_mk; assumption) | fail))
local macro_rules | `(tactic| walk_at "s") => `(tactic| repeat (first | refine we_var rfl ?_ | refine we_con ?_ | refine wa_cons ?_ | refine wa_nil ?_ | refine asI_mk ?_ | refine asZ_mk ?_ | refine asD_mk ?_ | refine we_idx ?_ | refine asV_d ?_ | refine we_call ?_ | refine we_bin ?_ | refine asOp_int ?_ | refine we_cmp ?_ | refine asCmp_mk rfl ?_ | refine wt_cmp ?_ | refine we_blt ?_ | refine asO_mk ?_ | refine asB_mk ?_ | refine asG_mk (Nat.le_of_ble_eq_true rfl) ?_ | refine asG_mk (by decide) ?_ | refine asG_mk rfl ?_ | refine wt_val ?_ | refine wt_not ?_ | refine asW_d ?_ | refine we_glo rfl ?_ | refine we_tup ?_ | refine we_lstF ?_ | refine we_lstT ?_ | refine we_isi ?_ | refine wt_isi ?_ | refine we_not ?_ | refine we_neg ?_ | refine asNeg_int ?_ | refine we_fmt ?_ | refine we_jn1 ?_ | refine we_jn ?_ | refine wj_cons ?_ | refine wj_nil ?_ | refine asSt_mk ?_ | refine asZ_mod (by decide) ?_ | refine asZ_mul (by omega) (by omega) (by decide) ?_ | refine asZ_mulS (by omega) (by omega) (by omega) (by omega) ?_ | refine asZ_div (by decide +kernel) ?_ | refine asZ_pow (by decide +kernel) ?_ | refine asR_mk ?_ | refine as1_mk ?_ | refine asT_mk ?_ | refine asS_l ?_ | refine asS_t ?_ | refine asS_k ?_ | refine asS_s ?_ | refine wi_seq ?_ | refine wi_rng1 ?_ | refine wi_rng2 ?_ | refine wi_enum ?_ | refine we_app ?_ | refine we_sl ?_ | refine wo_none ?_ | refine wo_some ?_ | refine we_rv ?_ | refine we_dicF ?_ | refine we_fld ?_ | refine asOp_tup (Nat.le_of_ble_eq_true rfl) ?_ | refine asOp_str (by decide +kernel) ?_ | (apply asV_r; assumption) | (apply asW_r; assumption) | (apply asC_mk; assumption) | refine ws_set ?_ | refine kq_nx ?_ | refine kq_rt ?_ | refine ws_ret ?_ | refine ws_nil ?_ | refine ws_ex ?_ | refine ws_unp ?_ | refine ws_pass ?_ | refine kq_bk ?_ | refine kq_ct ?_ | fail))
local macro_rules | `(tactic| walk_at "g") => `(tactic| repeat (first | refine we_var rfl ?_ | refine we_con ?_ | refine wa_cons ?_ | refine wa_nil ?_ | refine asI_mk ?_ | refine asZ_mk ?_ | refine asD_mk ?_ | refine we_idx ?_ | refine asV_d ?_ | refine we_call ?_ | refine we_bin ?_ | refine asOp_int ?_ | refine we_cmp ?_ | refine asCmp_mk rfl ?_ | refine wt_cmp ?_ | refine we_blt ?_ | refine asO_mk ?_ | refine asB_mk ?_ | refine asG_mk (Nat.le_of_ble_eq_true rfl) ?_ | refine asG_mk (by decide) ?_ | refine asG_mk rfl ?_ | refine wt_val ?_ | refine wt_not ?_ | refine asW_d ?_ | refine we_glo rfl ?_ | refine we_tup ?_ | refine we_lstF ?_ | refine we_lstT ?_ | refine we_isi ?_ | refine wt_isi ?_ | refine we_not ?_ | refine we_neg ?_ | refine asNeg_int ?_ | refine we_fmt ?_ | refine we_jn1 ?_ | refine we_jn ?_ | refine wj_cons ?_ | refine wj_nil ?_ | refine asSt_mk ?_ | refine asZ_mod (by decide) ?_ | refine asZ_mul (by omega) (by omega) (by decide) ?_ | refine asZ_mulS (by omega) (by omega) (by omega) (by omega) ?_ | refine asZ_div (by decide +kernel) ?_ | refine asZ_pow (by decide +kernel) ?_ | refine asR_mk ?_ | refine as1_mk ?_ | refine asT_mk ?_ | refine asS_l ?_ | refine asS_t ?_ | refine asS_k ?_ | refine asS_s ?_ | refine wi_seq ?_ | refine wi_rng1 ?_ | refine wi_rng2 ?_ | refine wi_enum ?_ | refine we_app ?_ | refine we_sl ?_ | refine wo_none ?_ | refine wo_some ?_ | refine we_rv ?_ | refine we_dicF ?_ | refine we_fld ?_ | refine asOp_tup (Nat.le_of_ble_eq_true rfl) ?_ | refine asOp_str (by decide +kernel) ?_ | (apply asV_r; assumption) | (apply asW_r; assumption) | (apply asC_mk; assumption) | refine ws_set ?_ | refine kq_nx ?_ | refine kq_rt ?_ | refine ws_ret ?_ | refine ws_nil ?_ | refine ws_ex ?_ | refine ws_unp ?_ | refine ws_pass ?_ | refine kq_bk ?_ | refine kq_ct ?_ | refine ws_ite ?_ | refine wt_bop ?_ | refine wt_bop1 ?_ | refine wt_chain ?_ | refine we_bop ?_ | refine we_bop1 ?_ | refine we_ife ?_ | refine we_chain ?_ | refine ws_par ?_ | refine ⟨fun _ => ?_, fun h => absurd (show (false : Bool) = true from h) Bool.false_ne_true⟩ | refine ⟨fun _ => ?_, fun h => absurd (show (true : Bool) = false from h).symm Bool.false_ne_true⟩ | refine ⟨fun h => absurd (show (true : Bool) = false from h).symm Bool.false_ne_true, fun _ => ?_⟩ | refine ⟨fun h => absurd (show (false : Bool) = true from h) Bool.false_ne_true, fun _ => ?_⟩ | refine ⟨fun _ => ?_, fun h => absurd (of_decide_eq_true h) (by omega)⟩ | refine ⟨fun h => absurd (of_decide_eq_true h) (by omega), fun _ => ?_⟩ | refine ⟨fun _ => ?_, fun h => absurd (by omega) (of_decide_eq_false h)⟩ | refine ⟨fun h => absurd (by omega) (of_decide_eq_false h), fun _ => ?_⟩ | refine ⟨fun _ => ?_, fun h => absurd h (by decide +kernel)⟩ | refine ⟨fun h => absurd h (by decide +kernel), fun _ => ?_⟩ | fail))
def bIsInt : Ss := (.cons (.ret (.bop true (.cons (.isi (.var 0) [.int]) (.cons (.not (.isi (.var 0) [.bool])) .nil)))) .nil)
def bSame (js : Nat) : Ss := (.cons (.ite (.bop false (.cons (.cmp .is_ (.var 0) (.con .non)) (.cons (.cmp .is_ (.var 1) (.con .non)) .nil))) (.cons (.ret (.bop true (.cons (.cmp .is_ (.var 0) (.con .non)) (.cons (.cmp .is_ (.var 1) (.con .non)) .nil)))) .nil) .nil) (.cons (.ite (.bop false (.cons (.isi (.var 0) [.bool]) (.cons (.isi (.var 1) [.bool]) .nil))) (.cons (.ret (.bop true (.cons (.isi (.var 0) [.bool]) (.cons (.isi (.var 1) [.bool]) (.cons (.cmp .eq (.var 0) (.var 1)) .nil))))) .nil) .nil) (.cons (.ite (.isi (.var 0) [.int]) (.cons (.ret (.bop true (.cons (.isi (.var 1) [.int]) (.cons (.cmp .eq (.var 0) (.var 1)) .nil)))) .nil) .nil) (.cons (.ite (.isi (.var 0) [.str]) (.cons (.ret (.bop true (.cons (.isi (.var 1) [.str]) (.cons (.cmp .eq (.var 0) (.var 1)) .nil)))) .nil) .nil) (.cons (.ite (.bop false (.cons (.cmp .ne (.isi (.var 0) [.lst]) (.isi (.var 1) [.lst])) (.cons (.cmp .ne (.isi (.var 0) [.tup]) (.isi (.var 1) [.tup])) .nil))) (.cons (.ret (.con (.bl false))) .nil) .nil) (.cons (.ite (.bop true (.cons (.not (.isi (.var 0) [.lst])) (.cons (.not (.isi (.var 0) [.tup])) .nil))) (.cons (.ret (.con (.bl false))) .nil) .nil) (.cons (.ite (.cmp .ne (.blt false .len (.cons (.var 0) .nil)) (.blt false .len (.cons (.var 1) .nil))) (.cons (.ret (.con (.bl false))) .nil) .nil) (.cons (.for_ (.nm 2) (.rng1 (.blt false .len (.cons (.var 0) .nil))) (.cons (.ite (.not (.val (.call js (.cons (.idx (.var 0) (.var 2)) (.cons (.idx (.var 1) (.var 2)) .nil)) []))) (.cons (.ret (.con (.bl false))) .nil) .nil) .nil)) (.cons (.ret (.con (.bl true))) .nil)))))))))
def bAreInts (ji : Nat) : Ss := (.cons (.ite (.bop false (.cons (.bop true (.cons (.not (.isi (.var 0) [.lst])) (.cons (.val (.var 1)) .nil))) (.cons (.bop true (.cons (.not (.isi (.var 0) [.tup])) (.cons (.not (.val (.var 1))) .nil))) .nil))) (.cons (.ret (.con (.bl false))) .nil) .nil) (.cons (.for_ (.nm 2) (.seq (.var 0)) (.cons (.ite (.not (.val (.call ji (.cons (.var 2) .nil) []))) (.cons (.ret (.con (.bl false))) .nil) .nil) .nil)) (.cons (.ret (.con (.bl true))) .nil)))
mutual
def plainD : D → Bool
  | .non => true
  | .bl _ => true
  | .int _ => true
  | .str _ => true
  | .lst xs => decide (xs.length ≤ 1000000) && plainDs xs
  | .tup xs => decide (xs.length ≤ 1000000) && plainDs xs
  | _ => false
def plainDs : List D → Bool
  | [] => true
  | x :: xs => plainD x && plainDs xs
end
mutual
def dpt : D → Nat
  | .lst xs => dpts xs + 1
  | .tup xs => dpts xs + 1
  | _ => 0
def dpts : List D → Nat
  | [] => 0
  | x :: xs => max (dpt x) (dpts xs)
end
theorem plain_get : ∀ {xs : List D} {i : Nat} {d : D}, plainDs xs = true → xs[i]? = some d → plainD d = true ∧ dpt d ≤ dpts xs
  | [], i, d, _, e => by simp at e
  | x :: xs, 0, d, h, e => by
    simp at e
    subst e
    simp only [plainDs, Bool.and_eq_true] at h
    exact ⟨h.1, by simp only [dpts]; omega⟩
  | x :: xs, i + 1, d, h, e => by
    simp only [plainDs, Bool.and_eq_true] at h
    have := plain_get (i := i) h.2 (by simpa using e)
    exact ⟨this.1, by simp only [dpts]; omega⟩
mutual
/-- the laws' own likeness of plain values -/
def sameD : D → D → Bool
  | .non, b => (match b with | .non => true | _ => false)
  | .bl a, b => (match b with | .bl c => decide (a = c) | _ => false)
  | .int a, b => (match b with | .int c => decide (a = c) | _ => false)
  | .str a, b => (match b with | .str c => decide (a = c) | _ => false)
  | .lst xs, b => (match b with | .lst ys => sames xs ys | _ => false)
  | .tup xs, b => (match b with | .tup ys => sames xs ys | _ => false)
  | _, _ => false
def sames : List D → List D → Bool
  | [], ys => ys.isEmpty
  | x :: xs, ys => (match ys with | y :: ys => sameD x y && sames xs ys | [] => false)
end
theorem sames_cons {x y : D} {xs ys : List D} : sames (x :: xs) (y :: ys) = (sameD x y && sames xs ys) := by rw [sames]
theorem sames_len : ∀ {xs ys : List D}, xs.length ≠ ys.length → sames xs ys = false
  | [], [], h => absurd rfl h
  | [], _ :: _, _ => rfl
  | _ :: _, [], _ => rfl
  | x :: xs, y :: ys, h => by
    rw [sames_cons, sames_len (xs := xs) (ys := ys) (by simpa using h), Bool.and_false]
theorem sames_all : ∀ {xs ys : List D}, xs.length = ys.length → (∀ (i : Nat) (x y : D), xs[i]? = some x → ys[i]? = some y → sameD x y = true) → sames xs ys = true
  | [], [], _, _ => rfl
  | [], _ :: _, h, _ => by cases h
  | _ :: _, [], h, _ => by cases h
  | x :: xs, y :: ys, h, ha => by
    rw [sames_cons, ha 0 x y rfl rfl, sames_all (by simpa using h) fun i a b h1 h2 => ha (i + 1) a b (by simpa using h1) (by simpa using h2)]
    rfl
theorem sames_at : ∀ {xs ys : List D} {i : Nat} {x y : D}, xs[i]? = some x → ys[i]? = some y → sameD x y = false → sames xs ys = false
  | [], ys, i, x, y, h, _, _ => by simp at h
  | _ :: _, [], i, x, y, _, h, _ => by simp at h
  | a :: xs, b :: ys, 0, x, y, h1, h2, h => by
    simp at h1 h2
    subst h1 h2
    rw [sames_cons, h, Bool.false_and]
  | a :: xs, b :: ys, i + 1, x, y, h1, h2, h => by
    rw [sames_cons, sames_at (i := i) (by simpa using h1) (by simpa using h2) h, Bool.and_false]
mutual
theorem sameD_self : ∀ {a : D}, plainD a = true → sameD a a = true
  | .non, _ => rfl
  | .bl b, _ => by simp [sameD]
  | .int b, _ => by simp [sameD]
  | .str b, _ => by simp [sameD]
  | .lst xs, h => by
    simp only [plainD, Bool.and_eq_true] at h
    exact sames_self h.2
  | .tup xs, h => by
    simp only [plainD, Bool.and_eq_true] at h
    exact sames_self h.2
  | .kls _, h => by cases h
  | .dic _, h => by cases h
  | .kdic _, h => by cases h
  | .ins _ _, h => by cases h
  | .fn _, h => by cases h
  | .cls _, h => by cases h
theorem sames_self : ∀ {xs : List D}, plainDs xs = true → sames xs xs = true
  | [], _ => rfl
  | x :: xs, h => by
    simp only [plainDs, Bool.and_eq_true] at h
    rw [sames_cons, sameD_self h.1, sames_self h.2]
    rfl
end
section
variable {T : Tab} {W n jt jb je js ji : Nat} {μ : Mu} {K : X → Mu → Prop}
/-- what a list is to the tests -/
theorem lst_facts {x : X} {ds : List D} (h : viewS μ x = some (.lst ds)) : isN x = false ∧ tyKnown μ x = true ∧ isTy μ x .bool = false ∧ isTy μ x .int = false ∧ isTy μ x .str = false ∧ isTy μ x .lst = true ∧ isTy μ x .tup = false := by
  cases x with
  | d d => cases d <;> first | exact ⟨rfl, rfl, rfl, rfl, rfl, rfl, rfl⟩ | (simp [viewS, view, unk] at h; done)
  | r k =>
    refine ⟨rfl, ?_, rfl, rfl, rfl, ?_, rfl⟩
    · unfold viewS view at h
      dsimp only at h
      unfold tyKnown
      dsimp only
      split at h
      · rfl
      · cases h
    · simp only [isTy, h]
theorem tup_facts {x : X} {ds : List D} (h : viewS μ x = some (.tup ds)) : x = .d (.tup ds) := by
  cases x with
  | d d =>
    cases d with
    | tup xs =>
      simp [viewS, view, unk] at h
      rw [h]
    | _ => simp [viewS, view, unk] at h
  | r k =>
    unfold viewS view at h
    dsimp only at h
    split at h
    · rename_i n q
      cases n <;> cases h
    · cases h
theorem asV_of {x : X} {d : D} {K : D → Prop} (e : viewS μ x = some d) (h : K d) : asV μ x K := ⟨d, e, h⟩
theorem len_list {x : X} {ds : List D} (h : viewS μ x = some (.lst ds)) : bltD μ false .len [x] = .ok (.d (.int ds.length)) μ := by
  simp only [bltD, h]
theorem at_nat {ds : List D} {i : Nat} {d : D} (h : ds[i]? = some d) : atI ds (i : Int) = some d := by
  have hl := (List.getElem?_eq_some_iff.mp h).1
  simp only [atI, ixN]
  rw [if_pos (Int.natCast_nonneg i), if_pos (by exact_mod_cast hl)]
  simpa using h
/-- two lists -/
theorem same_ll (hT : T.fns[js]? = some ⟨2, 3, bSame js⟩) {x y : X} {xs ys : List D} (hx : viewS μ x = some (.lst xs)) (hy : viewS μ y = some (.lst ys)) (hl : xs.length < 2 ^ 62) (okx : okEnv μ.length [some x]) (oky : okEnv μ.length [some y])
    (ih : ∀ (i : Nat) (a b : D), xs[i]? = some a → ys[i]? = some b → ∀ K : X → Mu → Prop, K (.d (.bl (sameD a b))) μ → WC1 (callD T W n) js [.d a, .d b] μ K) (h : K (.d (.bl (sames xs ys))) μ) : WC1 (callD T W (n + 1)) js [x, y] μ K := by
  refine wc_of hT rfl ?_
  show WS _ (bSame js) [some x, some y, none] μ _
  unfold bSame
  obtain ⟨x1, x2, x3, x4, x5, x6, x7⟩ := lst_facts hx
  obtain ⟨y1, y2, y3, y4, y5, y6, y7⟩ := lst_facts hy
  have e1 : (!isTy μ x .lst) = false := by rw [x6]; rfl
  have e2 : (!decide (isTy μ x .lst = isTy μ y .lst)) = false := by rw [x6, y6]; rfl
  have e3 : (!decide (isTy μ x .tup = isTy μ y .tup)) = false := by rw [x7, y7]; rfl
  repeat (first
    | walk_at "1s" | walk_at "1c"
    | refine asG_mk x2 ?_ | refine asG_mk y2 ?_ | refine asO_of (len_list hx) ?_ | refine asO_of (len_list hy) ?_
    | refine ⟨fun _ => ?_, fun h => absurd (x1.symm.trans h) Bool.false_ne_true⟩ | refine ⟨fun _ => ?_, fun h => absurd (y1.symm.trans h) Bool.false_ne_true⟩
    | refine ⟨fun h => absurd (y1.symm.trans h) Bool.false_ne_true, fun _ => ?_⟩
    | refine ⟨fun _ => ?_, fun h => absurd (x3.symm.trans h) Bool.false_ne_true⟩ | refine ⟨fun h => absurd (y3.symm.trans h) Bool.false_ne_true, fun _ => ?_⟩
    | refine ⟨fun h => absurd (x4.symm.trans h) Bool.false_ne_true, fun _ => ?_⟩ | refine ⟨fun h => absurd (x5.symm.trans h) Bool.false_ne_true, fun _ => ?_⟩
    | refine ⟨fun _ => ?_, fun h => absurd (e2.symm.trans h) Bool.false_ne_true⟩ | refine ⟨fun h => absurd (e3.symm.trans h) Bool.false_ne_true, fun _ => ?_⟩
    | refine ⟨fun h => absurd (e1.symm.trans h) Bool.false_ne_true, fun _ => ?_⟩
    | fail)
  refine ⟨fun b => ?_, fun b => ?_⟩
  · have hne : xs.length ≠ ys.length := fun e => by
      have b : (!decide ((xs.length : Int) = (ys.length : Int))) = true := b
      rw [e, decide_eq_true rfl] at b
      cases b
    rw [sames_len hne] at h
    walk_at "s"
    exact fq_d rfl h
  have hle : xs.length = ys.length := by
    have b : (!decide ((xs.length : Int) = (ys.length : Int))) = false := b
    by_cases e : (xs.length : Int) = (ys.length : Int)
    · exact_mod_cast e
    · rw [decide_eq_false e] at b
      cases b
  refine ws_nil (kq_nx ?_)
  refine ws_for (wi_rng1 (we_blt (wa_cons (we_var rfl (wa_nil (asO_of (len_list hx) (asI_mk (asG_mk (int_small (by omega) (by omega)) ?_))))))))
  rw [Int.toNat_natCast]
  refine for_rd (Q := Kq _ _ _) [2] μ.length xs.length ?_ (fun k m => m = μ ∧ ∀ (i : Nat) (a b : D), i < k → xs[i]? = some a → ys[i]? = some b → sameD a b = true) (fun k m hm => by rw [hm.1]) ?_ ?_ ⟨rfl, fun i a b hi => absurd hi (Nat.not_lt_zero i)⟩
  · cases x <;> cases y <;> first | exact ⟨okx.1, oky.1, trivial⟩ | exact ⟨okx.1, trivial⟩ | exact ⟨oky.1, trivial⟩ | exact trivial
  · rintro zs m hz ⟨rfl, ha⟩
    obtain ⟨z, rfl⟩ := zs1 hz
    have e : sames xs ys = true := sames_all hle fun i a b h1 h2 => ha i a b (List.getElem?_eq_some_iff.mp h1).1 h1 h2
    rw [e] at h
    walk_at "s"
    exact fq_d rfl h
  · rintro i zs m hi hz ⟨rfl, ha⟩
    obtain ⟨z, rfl⟩ := zs1 hz
    rw [Int.zero_add]
    obtain ⟨a, hda⟩ : ∃ d, xs[i]? = some d := ⟨_, List.getElem?_eq_getElem hi⟩
    obtain ⟨b, hdb⟩ : ∃ d, ys[i]? = some d := ⟨_, List.getElem?_eq_getElem (by omega)⟩
    show WS _ _ [some x, some y, some (.d (.int i))] _ _
    refine ws_ite (wt_not (wt_val (we_call (wa_cons (we_idx (we_var rfl (we_var rfl (asV_of hx (asD_mk (asZ_of (at_nat hda) ?_))))))))))
    refine wa_cons (we_idx (we_var rfl (we_var rfl (asV_of hy (asD_mk (asZ_of (at_nat hdb) (wa_nil ?_)))))))
    refine ih i a b hda hdb _ ?_
    cases hs : sameD a b with
    | true =>
      walk_at "g"
      exact ld_nx rfl ⟨rfl, fun j a' b' hj h1 h2 => by
        by_cases e : j = i
        · subst e
          rw [hda] at h1
          rw [hdb] at h2
          cases h1
          cases h2
          exact hs
        · exact ha j a' b' (by omega) h1 h2⟩
    | false =>
      rw [sames_at hda hdb hs] at h
      walk_at "g"
      exact ld_rt (kq_rt (fq_d rfl h))
theorem same_tt (hT : T.fns[js]? = some ⟨2, 3, bSame js⟩) {xs ys : List D} (hl : xs.length < 2 ^ 62)
    (ih : ∀ (i : Nat) (a b : D), xs[i]? = some a → ys[i]? = some b → ∀ K : X → Mu → Prop, K (.d (.bl (sameD a b))) μ → WC1 (callD T W n) js [.d a, .d b] μ K) (h : K (.d (.bl (sames xs ys))) μ) : WC1 (callD T W (n + 1)) js [.d (.tup xs), .d (.tup ys)] μ K := by
  refine wc_of hT rfl ?_
  show WS _ (bSame js) [some (.d (.tup xs)), some (.d (.tup ys)), none] μ _
  unfold bSame
  repeat (first | walk_at "1s" | walk_at "1c" | fail)
  refine ⟨fun b => ?_, fun b => ?_⟩
  · have hne : xs.length ≠ ys.length := fun e => by
      have b : (!decide ((xs.length : Int) = (ys.length : Int))) = true := b
      rw [e, decide_eq_true rfl] at b
      cases b
    rw [sames_len hne] at h
    walk_at "s"
    exact fq_d rfl h
  have hle : xs.length = ys.length := by
    have b : (!decide ((xs.length : Int) = (ys.length : Int))) = false := b
    by_cases e : (xs.length : Int) = (ys.length : Int)
    · exact_mod_cast e
    · rw [decide_eq_false e] at b
      cases b
  refine ws_nil (kq_nx ?_)
  refine ws_for (wi_rng1 (we_blt (wa_cons (we_var rfl (wa_nil (asO_mk (asI_mk (asG_mk (int_small (by omega) (by omega)) ?_))))))))
  rw [Int.toNat_natCast]
  refine for_rd (Q := Kq _ _ _) [2] μ.length xs.length trivial (fun k m => m = μ ∧ ∀ (i : Nat) (a b : D), i < k → xs[i]? = some a → ys[i]? = some b → sameD a b = true) (fun k m hm => by rw [hm.1]) ?_ ?_ ⟨rfl, fun i a b hi => absurd hi (Nat.not_lt_zero i)⟩
  · rintro zs m hz ⟨rfl, ha⟩
    obtain ⟨z, rfl⟩ := zs1 hz
    have e : sames xs ys = true := sames_all hle fun i a b h1 h2 => ha i a b (List.getElem?_eq_some_iff.mp h1).1 h1 h2
    rw [e] at h
    walk_at "s"
    exact fq_d rfl h
  · rintro i zs m hi hz ⟨rfl, ha⟩
    obtain ⟨z, rfl⟩ := zs1 hz
    rw [Int.zero_add]
    obtain ⟨a, hda⟩ : ∃ d, xs[i]? = some d := ⟨_, List.getElem?_eq_getElem hi⟩
    obtain ⟨b, hdb⟩ : ∃ d, ys[i]? = some d := ⟨_, List.getElem?_eq_getElem (by omega)⟩
    show WS _ _ [some (.d (.tup xs)), some (.d (.tup ys)), some (.d (.int i))] _ _
    refine ws_ite (wt_not (wt_val (we_call (wa_cons (we_idx (we_var rfl (we_var rfl (asV_d (asD_mk (asZ_of (at_nat hda) ?_))))))))))
    refine wa_cons (we_idx (we_var rfl (we_var rfl (asV_d (asD_mk (asZ_of (at_nat hdb) (wa_nil ?_)))))))
    refine ih i a b hda hdb _ ?_
    cases hs : sameD a b with
    | true =>
      walk_at "g"
      exact ld_nx rfl ⟨rfl, fun j a' b' hj h1 h2 => by
        by_cases e : j = i
        · subst e
          rw [hda] at h1
          rw [hdb] at h2
          cases h1
          cases h2
          exact hs
        · exact ha j a' b' (by omega) h1 h2⟩
    | false =>
      rw [sames_at hda hdb hs] at h
      walk_at "g"
      exact ld_rt (kq_rt (fq_d rfl h))
/-- two plain values, not both lists, not both tuples -/
theorem same_flat (hT : T.fns[js]? = some ⟨2, 3, bSame js⟩) {a b : D} (ha : plainD a = true) (hb : plainD b = true) (nl : ∀ xs ys, a = .lst xs → b = .lst ys → False) (nt : ∀ xs ys, a = .tup xs → b = .tup ys → False) (h : K (.d (.bl (sameD a b))) μ) : WC1 (callD T W (n + 1)) js [.d a, .d b] μ K := by
  refine wc_of hT rfl ?_
  show WS _ (bSame js) [some (.d a), some (.d b), none] μ _
  unfold bSame
  cases a <;> first | (cases ha; done) | skip
  all_goals (cases b <;> first | (cases hb; done) | (exact (nl _ _ rfl rfl).elim; done) | (exact (nt _ _ rfl rfl).elim; done) | skip)
  all_goals (walk_at "g"; exact fq_d rfl h)
/-- the likeness of two plain values -/
theorem same_wc (hT : T.fns[js]? = some ⟨2, 3, bSame js⟩) : ∀ (m : Nat) (a b : D), plainD a = true → plainD b = true → dpt a ≤ m → ∀ (n : Nat), m ≤ n → ∀ (μ : Mu) (K : X → Mu → Prop), K (.d (.bl (sameD a b))) μ → WC1 (callD T W (n + 1)) js [.d a, .d b] μ K := by
  intro m
  induction m with
  | zero =>
    intro a b ha hb hd n _ μ K h
    exact same_flat hT ha hb (fun xs ys e _ => by subst e; simp [dpt] at hd) (fun xs ys e _ => by subst e; simp [dpt] at hd) h
  | succ m ih =>
    intro a b ha hb hd n hn μ K h
    obtain ⟨n, rfl⟩ : ∃ n', n = n' + 1 := ⟨n - 1, by omega⟩
    by_cases hl : ∃ xs ys, a = .lst xs ∧ b = .lst ys
    · obtain ⟨xs, ys, rfl, rfl⟩ := hl
      simp only [plainD, Bool.and_eq_true, decide_eq_true_eq] at ha hb
      simp only [dpt] at hd
      refine same_ll hT rfl rfl (by omega) trivial trivial (fun i a b h1 h2 K h => ?_) h
      obtain ⟨q1, q2⟩ := plain_get ha.2 h1
      exact ih a b q1 (plain_get hb.2 h2).1 (by omega) n (by omega) μ K h
    · by_cases ht : ∃ xs ys, a = .tup xs ∧ b = .tup ys
      · obtain ⟨xs, ys, rfl, rfl⟩ := ht
        simp only [plainD, Bool.and_eq_true, decide_eq_true_eq] at ha hb
        simp only [dpt] at hd
        refine same_tt hT (by omega) (fun i a b h1 h2 K h => ?_) h
        obtain ⟨q1, q2⟩ := plain_get ha.2 h1
        exact ih a b q1 (plain_get hb.2 h2).1 (by omega) n (by omega) μ K h
      · exact same_flat hT ha hb (fun xs ys e1 e2 => hl ⟨xs, ys, e1, e2⟩) (fun xs ys e1 e2 => ht ⟨xs, ys, e1, e2⟩) h
/-- one value twice -/
theorem same_self (hT : T.fns[js]? = some ⟨2, 3, bSame js⟩) {a : D} (m : Nat) (ha : plainD a = true) (hd : dpt a ≤ m) (hn : m ≤ n) (h : K (.d (.bl true)) μ) : WC1 (callD T W (n + 1)) js [.d a, .d a] μ K :=
  same_wc hT m a a ha ha hd n hn μ K (by rw [sameD_self ha]; exact h)
/-- a list that may change, and a list -/
theorem same_cell (hT : T.fns[js]? = some ⟨2, 3, bSame js⟩) {k m : Nat} {xs ys : List D} (hk : μ[k]? = some (some (.lst xs))) (hp : plainD (.lst xs) = true) (hq : plainD (.lst ys) = true) (hd : dpts xs ≤ m) (hn : m + 1 ≤ n) (h : K (.d (.bl (sames xs ys))) μ) : WC1 (callD T W (n + 1)) js [.r k, .d (.lst ys)] μ K := by
  obtain ⟨n, rfl⟩ : ∃ n', n = n' + 1 := ⟨n - 1, by omega⟩
  simp only [plainD, Bool.and_eq_true, decide_eq_true_eq] at hp hq
  refine same_ll hT (view_cell hk) rfl (by omega) ⟨(List.getElem?_eq_some_iff.mp hk).1, trivial⟩ trivial (fun i a b h1 h2 K h => ?_) h
  obtain ⟨q1, q2⟩ := plain_get hp.2 h1
  exact same_wc hT m a b q1 (plain_get hq.2 h2).1 (by omega) n (by omega) μ K h
/-- is an int -/
theorem isInt_wc (hT : T.fns[ji]? = some ⟨1, 1, bIsInt⟩) {i : Int} (h : K (.d (.bl true)) μ) : WC1 (callD T W (n + 1)) ji [.d (.int i)] μ K := by
  refine wc_of hT rfl ?_
  show WS _ bIsInt [some (.d (.int i))] μ _
  unfold bIsInt
  walk_at "g"
  exact fq_d rfl h
/-- a list of ints -/
theorem areInts_wc {ja : Nat} (hI : T.fns[ji]? = some ⟨1, 1, bIsInt⟩) (hT : T.fns[ja]? = some ⟨2, 3, bAreInts ji⟩) {ns : List Int} (h : K (.d (.bl true)) μ) : WC1 (callD T W (n + 2)) ja [.d (.lst (ns.map D.int)), .d (.bl true)] μ K := by
  refine wc_of hT rfl ?_
  show WS _ (bAreInts ji) [some (.d (.lst (ns.map D.int))), some (.d (.bl true)), none] μ _
  unfold bAreInts
  walk_at "g"
  refine ws_for ?_
  walk_at "g"
  refine for_list (Q := Kq _ _ _) (fun ds ρ μ' => μ' = μ ∧ (∃ ms : List Int, ds = ms.map D.int) ∧ ∃ z, ρ = [some (.d (.lst (ns.map D.int))), some (.d (.bl true)), z] ∧ ∀ k, z ≠ some (.r k)) ?_ ?_ ⟨rfl, ⟨ns, rfl⟩, none, rfl, by simp⟩
  · rintro ρ μ' ⟨rfl, _, z, rfl, hz⟩
    walk_at "s"
    exact fq_d rfl h
  · rintro x xs ρ μ' ⟨rfl, ⟨ms, hms⟩, z, rfl, hz⟩
    cases ms with
    | nil => cases hms
    | cons y ms =>
      injection hms with e1 e2
      subst e1 e2
      refine ⟨_, rfl, ?_⟩
      show WS _ _ [some (.d (.lst (ns.map D.int))), some (.d (.bl true)), some (.d (.int y))] _ _
      walk_at "g"
      refine isInt_wc (n := n) hI ?_
      walk_at "g"
      exact lq_nx rfl trivial ⟨rfl, ⟨ms, rfl⟩, _, rfl, by simp⟩
/-- the store, made of the script -/
theorem store_wc {cs : List Int} (hT : T.fns[js]? = some ⟨1, 2, bStore⟩) (hl : cs.length ≤ 1000) (hK : ∀ nd, St (μ ++ [some nd]) μ.length cs 0 → K (.r μ.length) (μ ++ [some nd])) : WC1 (callD T W (n + 1)) js [.d (.kls (cs.map D.int))] μ K := by
  refine wc_of hT rfl ?_
  show WS _ bStore [some (.d (.kls (cs.map D.int))), none] μ _
  unfold bStore
  walk_at "g"
  refine we_lcF ?_
  walk_at "g"
  refine ⟨fun _ => true, id, by rw [List.length_map]; omega, fun d hd => ?_, ?_⟩
  · obtain ⟨c, _, rfl⟩ := List.mem_map.mp hd
    exact ⟨_, rfl, by simp only [evA], fun _ => by simp [evE, evEs, R.bind, bltP, ownB, bltD, wipeE]⟩
  · have e : ((cs.map D.int).filter fun _ => true).map id = cs.map D.int := by
      simp
    rw [e]
    walk_at "g"
    refine fq_r (hK _ ⟨0, 0, 0, (cs.map D.int).length, ⟨?_, by omega, by omega, by omega, by omega, by omega, by rw [List.length_map]; omega⟩⟩)
    simp [stN]
end
end DL

/-! PL6: picks, moments. -/
namespace DL
open PySem L2
/- one step; what has one way only; a step with the choices -/
local macro_rules | `(tactic| walk_at "1s") => `(tactic| first | refine we_var rfl ?_ | refine we_con ?_ | refine wa_cons ?_ | refine wa_nil ?_ | refine asI_mk ?_ | refine asZ_mk ?_ | refine asD_mk ?_ | refine we_idx ?_ | refine asV_d ?_ | refine we_call ?_ | refine we_bin ?_ | refine asOp_int ?_ | refine we_cmp ?_ | refine asCmp_mk rfl ?_ | refine wt_cmp ?_ | refine we_blt ?_ | refine asO_mk ?_ | refine asB_mk ?_ | refine asG_mk (Nat.le_of_ble_eq_true rfl) ?_ | refine asG_mk (by decide) ?_ | refine asG_mk rfl ?_ | refine wt_val ?_ | refine wt_not ?_ | refine asW_d ?_ | refine we_glo rfl ?_ | refine we_tup ?_ | refine we_lstF ?_ | refine we_lstT ?_ | refine we_isi ?_ | refine wt_isi ?_ | refine we_not ?_ | refine we_neg ?_ | refine asNeg_int ?_ | refine we_fmt ?_ | refine we_jn1 ?_ | refine we_jn ?_ | refine wj_cons ?_ | refine wj_nil ?_ | refine asSt_mk ?_ | refine asZ_mod (by decide) ?_ | refine asZ_mul (by omega) (by omega) (by decide) ?_ | refine asZ_mulS (by omega) (by omega) (by omega) (by omega) ?_ | refine asZ_div (by decide +kernel) ?_ | refine asZ_pow (by decide +kernel) ?_ | refine asR_mk ?_ | refine as1_mk ?_ | refine asT_mk ?_ | refine asS_l ?_ | refine asS_t ?_ | refine asS_k ?_ | refine asS_s ?_ | refine wi_seq ?_ | refine wi_rng1 ?_ | refine wi_rng2 ?_ | refine wi_enum ?_ | refine we_app ?_ | refine we_sl ?_ | refine wo_none ?_ | refine wo_some ?_ | refine we_rv ?_ | refine we_dicF ?_ | refine we_fld ?_ | refine asOp_tup (Nat.le_of_ble_eq_true rfl) ?_ | refine asOp_str (by decide +kernel) ?_ | (apply asV_r; assumption) | (apply asW_r; assumption) | (apply asC_mk; assumption) | refine ws_set ?_ | refine kq_nx ?_ | refine kq_rt ?_ | refine ws_ret ?_ | refine ws_nil ?_ | refine ws_ex ?_ | refine ws_unp ?_ | refine ws_pass ?_ | refine kq_bk ?_ | refine kq_ct ?_ | fail)
local macro_rules | `(tactic| walk_at "1c") => `(tactic| first | refine ws_ite ?_ | refine wt_bop ?_ | refine wt_bop1 ?_ | refine wt_chain ?_ | refine we_bop ?_ | refine we_bop1 ?_ | refine we_ife ?_ | refine we_chain ?_ | refine ws_par ?_ | refine ⟨fun _ => ?_, fun h => absurd (show (false : Bool) = true from h) Bool.false_ne_true⟩ | refine ⟨fun _ => ?_, fun h => absurd (show (true : Bool) = false from h).symm Bool.false_ne_true⟩ | refine ⟨fun h => absurd (show (true : Bool) = false from h).symm Bool.false_ne_true, fun _ => ?_⟩ | refine ⟨fun h => absurd (show (false : Bool) = true from h) Bool.false_ne_true, fun _ => ?_⟩ | fail)
local macro_rules | `(tactic| walk_at "x") => `(tactic| repeat (first | refine we_var rfl ?_ | refine we_con ?_ | refine wa_cons ?_ | refine wa_nil ?_ | refine asI_mk ?_ | refine asZ_mk ?_ | refine asD_mk ?_ | refine we_idx ?_ | refine asV_d ?_ | refine we_call ?_ | refine we_bin ?_ | refine asOp_int ?_ | refine we_cmp ?_ | refine asCmp_mk rfl ?_ | refine wt_cmp ?_ | refine we_blt ?_ | refine asO_mk ?_ | refine asB_mk ?_ | refine asG_mk (Nat.le_of_ble_eq_true rfl) ?_ | refine asG_mk (by decide) ?_ | refine asG_mk rfl ?_ | refine wt_val ?_ | refine wt_not ?_ | refine asW_d ?_ | refine we_glo rfl ?_ | refine we_tup ?_ | refine we_lstF ?_ | refine we_lstT ?_ | refine we_isi ?_ | refine wt_isi ?_ | refine we_not ?_ | refine we_neg ?_ | refine asNeg_int ?_ | refine we_fmt ?_ | refine we_jn1 ?_ | refine we_jn ?_ | refine wj_cons ?_ | refine wj_nil ?_ | refine asSt_mk ?_ | refine asZ_mod (by decide) ?_ | refine asZ_mul (by omega) (by omega) (by decide) ?_ | refine asZ_mulS (by omega) (by omega) (by omega) (by omega) ?_ | refine asZ_div (by decide +kernel) ?_ | refine asZ_pow (by decide +kernel) ?_ | refine asR_mk ?_ | refine as1_mk ?_ | refine asT_mk ?_ | refine asS_l ?_ | refine asS_t ?_ | refine asS_k ?_ | refine asS_s ?_ | refine wi_seq ?_ | refine wi_rng1 ?_ | refine wi_rng2 ?_ | refine wi_enum ?_ | refine we_app ?_ | refine we_sl ?_ | refine wo_none ?_ | refine wo_some ?_ | refine we_rv ?_ | refine we_dicF ?_ | refine we_fld ?_ | refine asOp_tup (Nat.le_of_ble_eq_true rfl) ?_ | refine asOp_str (by decide +kernel) ?_ | (apply asV_r; assumption) | (apply asW_r; assumption) | (apply asC_mk; assumption) | fail))
local macro_rules | `(tactic| walk_at "s") => `(tactic| repeat (first | refine we_var rfl ?_ | refine we_con ?_ | refine wa_cons ?_ | refine wa_nil ?_ | refine asI_mk ?_ | refine asZ_mk ?_ | refine asD_mk ?_ | refine we_idx ?_ | refine asV_d ?_ | refine we_call ?_ | refine we_bin ?_ | refine asOp_int ?_ | refine we_cmp ?_ | refine asCmp_mk rfl ?_ | refine wt_cmp ?_ | refine we_blt ?_ | refine asO_mk ?_ | refine asB_mk ?_ | refine asG_mk (Nat.le_of_ble_eq_true rfl) ?_ | refine asG_mk (by decide) ?_ | refine asG_mk rfl ?_ | refine wt_val ?_ | refine wt_not ?_ | refine asW_d ?_ | refine we_glo rfl ?_ | refine we_tup ?_ | refine we_lstF ?_ | refine we_lstT ?_ | refine we_isi ?_ | refine wt_isi ?_ | refine we_not ?_ | refine we_neg ?_ | refine asNeg_int ?_ | refine we_fmt ?_ | refine we_jn1 ?_ | refine we_jn ?_ | refine wj_cons ?_ | refine wj_nil ?_ | refine asSt_mk ?_ | refine asZ_mod (by decide) ?_ | refine asZ_mul (by omega) (by omega) (by decide) ?_ | refine asZ_mulS (by omega) (by omega) (by omega) (by omega) ?_ | refine asZ_div (by decide +kernel) ?_ | refine asZ_pow (by decide +kernel) ?_ | refine asR_mk ?_ | refine as1_mk ?_ | refine asT_mk ?_ | refine asS_l ?_ | refine asS_t ?_ | refine asS_k ?_ | refine asS_s ?_ | refine wi_seq ?_ | refine wi_rng1 ?_ | refine wi_rng2 ?_ | refine wi_enum ?_ | refine we_app ?_ | refine we_sl ?_ | refine wo_none ?_ | refine wo_some ?_ | refine we_rv ?_ | refine we_dicF ?_ | refine we_fld ?_ | refine asOp_tup (Nat.le_of_ble_eq_true rfl) ?_ | refine asOp_str (by decide +kernel) ?_ | (apply asV_r; assumption) | (apply asW_r; assumption) | (apply asC_mk; assumption) | refine ws_set ?_ | refine kq_nx ?_ | refine kq_rt ?_ | refine ws_ret ?_ | refine ws_nil ?_ | refine ws_ex ?_ | refine ws_unp ?_ | refine ws_pass ?_ | refine kq_bk ?_ | refine kq_ct ?_ | fail))
local macro_rules | `(tactic| walk_at "g") => `(tactic| repeat (first | refine we_var rfl ?_ | refine we_con ?_ | refine wa_cons ?_ | refine wa_nil ?_ | refine asI_mk ?_ | refine asZ_mk ?_ | refine asD_mk ?_ | refine we_idx ?_ | refine asV_d ?_ | refine we_call ?_ | refine we_bin ?_ | refine asOp_int ?_ | refine we_cmp ?_ | refine asCmp_mk rfl ?_ | refine wt_cmp ?_ | refine we_blt ?_ | refine asO_mk ?_ | refine asB_mk ?_ | refine asG_mk (Nat.le_of_ble_eq_true rfl) ?_ | refine asG_mk (by decide) ?_ | refine asG_mk rfl ?_ | refine wt_val ?_ | refine wt_not ?_ | refine asW_d ?_ | refine we_glo rfl ?_ | refine we_tup ?_ | refine we_lstF ?_ | refine we_lstT ?_ | refine we_isi ?_ | refine wt_isi ?_ | refine we_not ?_ | refine we_neg ?_ | refine asNeg_int ?_ | refine we_fmt ?_ | refine we_jn1 ?_ | refine we_jn ?_ | refine wj_cons ?_ | refine wj_nil ?_ | refine asSt_mk ?_ | refine asZ_mod (by decide) ?_ | refine asZ_mul (by omega) (by omega) (by decide) ?_ | refine asZ_mulS (by omega) (by omega) (by omega) (by omega) ?_ | refine asZ_div (by decide +kernel) ?_ | refine asZ_pow (by decide +kernel) ?_ | refine asR_mk ?_ | refine as1_mk ?_ | refine asT_mk ?_ | refine asS_l ?_ | refine asS_t ?_ | refine asS_k ?_ | refine asS_s ?_ | refine wi_seq ?_ | refine wi_rng1 ?_ | refine wi_rng2 ?_ | refine wi_enum ?_ | refine we_app ?_ | refine we_sl ?_ | refine wo_none ?_ | refine wo_some ?_ | refine we_rv ?_ | refine we_dicF ?_ | refine we_fld ?_ | refine asOp_tup (Nat.le_of_ble_eq_true rfl) ?_ | refine asOp_str (by decide +kernel) ?_ | (apply asV_r; assumption) | (apply asW_r; assumption) | (apply asC_mk; assumption) | refine ws_set ?_ | refine kq_nx ?_ | refine kq_rt ?_ | refine ws_ret ?_ | refine ws_nil ?_ | refine ws_ex ?_ | refine ws_unp ?_ | refine ws_pass ?_ | refine kq_bk ?_ | refine kq_ct ?_ | refine ws_ite ?_ | refine wt_bop ?_ | refine wt_bop1 ?_ | refine wt_chain ?_ | refine we_bop ?_ | refine we_bop1 ?_ | refine we_ife ?_ | refine we_chain ?_ | refine ws_par ?_ | refine ⟨fun _ => ?_, fun h => absurd (show (false : Bool) = true from h) Bool.false_ne_true⟩ | refine ⟨fun _ => ?_, fun h => absurd (show (true : Bool) = false from h).symm Bool.false_ne_true⟩ | refine ⟨fun h => absurd (show (true : Bool) = false from h).symm Bool.false_ne_true, fun _ => ?_⟩ | refine ⟨fun h => absurd (show (false : Bool) = true from h) Bool.false_ne_true, fun _ => ?_⟩ | refine ⟨fun _ => ?_, fun h => absurd (of_decide_eq_true h) (by omega)⟩ | refine ⟨fun h => absurd (of_decide_eq_true h) (by omega), fun _ => ?_⟩ | refine ⟨fun _ => ?_, fun h => absurd (by omega) (of_decide_eq_false h)⟩ | refine ⟨fun h => absurd (by omega) (of_decide_eq_false h), fun _ => ?_⟩ | refine ⟨fun _ => ?_, fun h => absurd h (by decide +kernel)⟩ | refine ⟨fun h => absurd h (by decide +kernel), fun _ => ?_⟩ | fail))
def bPick (jt : Nat) : Ss := (.cons (.ret (.idx (.var 1) (.call jt (.cons (.var 0) (.cons (.blt false .len (.cons (.var 1) .nil)) .nil)) []))) .nil)
def bMoment (jt je : Nat) : Ss := (.cons (.set 1 (.call jt (.cons (.var 0) (.cons (.con (.int 4)) .nil)) [])) (.cons (.ite (.cmp .eq (.var 1) (.con (.int 0))) (.cons (.ret (.call je (.cons (.var 0) (.cons (.con (.int 0)) (.cons (.bin .pow (.con (.int 10)) (.con (.int 7))) .nil))) [])) .nil) .nil) (.cons (.ite (.cmp .eq (.var 1) (.con (.int 1))) (.cons (.ret (.blt false .max2 (.cons (.con (.int 0)) (.cons (.bin .sub (.bin .add (.bin .mul (.con (.int 96)) (.call jt (.cons (.var 0) (.cons (.con (.int 800)) .nil)) [])) (.call jt (.cons (.var 0) (.cons (.con (.int 5)) .nil)) [])) (.con (.int 2))) .nil)))) .nil) .nil) (.cons (.ite (.cmp .eq (.var 1) (.con (.int 2))) (.cons (.ret (.blt false .max2 (.cons (.con (.int 0)) (.cons (.bin .sub (.bin .add (.bin .mul (.con (.int 35040)) (.call jt (.cons (.var 0) (.cons (.con (.int 4)) .nil)) [])) (.call jt (.cons (.var 0) (.cons (.con (.int 5)) .nil)) [])) (.con (.int 2))) .nil)))) .nil) .nil) (.cons (.ret (.call jt (.cons (.var 0) (.cons (.con (.int 200)) .nil)) [])) .nil)))))
section
variable {T : Tab} {W n jt jb je jp jm : Nat} {μ : Mu} {k : Nat} {cs : List Int} {N m lo hi : Int} {K : X → Mu → Prop}
theorem for_nil {P : Par} {tg : Tg} {b : Ss} {ρ : Env} {Q : Fl → Mu → Prop} (h : Q (.nx ρ) μ) : ∃ fl μ2, forD (bindTg tg) (evSs P b) [] ρ μ = .ok fl μ2 ∧ Q fl μ2 := ⟨_, _, rfl, h⟩
/-- a loop's first turn -/
theorem for_cons {P : Par} {tg : Tg} {b : Ss} {ρ ρ1 : Env} {x : D} {xs : List D} {Q : Fl → Mu → Prop} (e : bindTg tg x ρ = some ρ1) (h : WS P b ρ1 μ (Lq (fun ρ μ => ∃ fl μ2, forD (bindTg tg) (evSs P b) xs ρ μ = .ok fl μ2 ∧ Q fl μ2) Q μ)) : ∃ fl μ2, forD (bindTg tg) (evSs P b) (x :: xs) ρ μ = .ok fl μ2 ∧ Q fl μ2 := by
  obtain ⟨fl, μ2, e2, h⟩ := h
  obtain ⟨h⟩ := h
  simp only [forD, e, e2]
  cases fl with
  | nx ρ' => exact h
  | ct ρ' => exact h
  | bk ρ' => exact ⟨_, _, rfl, h⟩
  | rt x => exact ⟨_, _, rfl, h⟩
  | ex e ρ' => exact ⟨_, _, rfl, h⟩
theorem fq_dA {μ μ' m : Mu} {K : X → Mu → Prop} {x : D} (hb : belowAll μ.length μ' = true) (hl : μ'.length = μ.length) (h : K (.d x) μ') : Fq μ K (.rt (.d x)) (μ' ++ m) := by
  refine ⟨?_⟩
  show K (.d x) (tidy μ.length [] (μ' ++ m)).2
  have e : (μ' ++ m).take μ.length = μ' := by rw [← hl, List.take_left]
  unfold tidy
  rw [e, if_pos hb]
  exact h
def isIntD (x : D) : Bool := match x with | .int _ => true | _ => false
/-- is an int, of a plain value -/
theorem isIntP_wc {ji : Nat} (hT : T.fns[ji]? = some ⟨1, 1, bIsInt⟩) {x : D} (hx : plainD x = true) (h : K (.d (.bl (isIntD x))) μ) : WC1 (callD T W (n + 1)) ji [.d x] μ K := by
  refine wc_of hT rfl ?_
  show WS _ bIsInt [some (.d x)] μ _
  unfold bIsInt
  cases x <;> first | (cases hx; done) | (walk_at "g"; exact fq_d rfl h)
theorem asOp_lst2 {P : Par} {s u : List D} {k j : Nat} (e : μ[k]? = some (some (.lst s))) (e2 : μ[j]? = some (some (.lst u))) (hl : (s ++ u).length ≤ 1000000) (h : K (.d (.lst (s ++ u))) μ) : asOp P .add (.r k) (.r j) μ K :=
  ⟨_, μ, by simp only [binX, binZ, insOf, e, e2, addD, view, Node.toD, allocF hl], h⟩
theorem pick_wc (hT : T.fns[jt]? = some ⟨2, 5, bTake⟩) (hP : T.fns[jp]? = some ⟨2, 2, bPick jt⟩) (hW : 1000 ≤ W) (h : St μ k cs N) (hN : N < 2 ^ 62) {xs : List D} (h0 : 0 < xs.length) (h1 : xs.length ≤ 1000000)
    (hK : ∀ d nd, d ∈ xs → St (μ.set k (some nd)) k cs (N + 1) → K (.d d) (μ.set k (some nd))) : WC1 (callD T W (n + 2)) jp [.r k, .d (.lst xs)] μ K := by
  refine wc_of hP rfl ?_
  show WS _ (bPick jt) [some (.r k), some (.d (.lst xs))] μ _
  unfold bPick
  walk_at "s"
  refine take_wc (n := n) hT hW h (by omega) ?_ fun z nd g1 g2 g3 => ?_
  · have : (1000000 : Int) < 2 ^ 4000 := by decide +kernel
    have : (xs.length : Int) ≤ 1000000 := by omega
    omega
  · have hz : z.toNat < xs.length := by omega
    have hd : xs[z.toNat]? = some (xs[z.toNat]) := List.getElem?_eq_getElem hz
    walk_at "s"
    refine asZ_of (z := xs[z.toNat]) ?_ ?_
    · have := at_nat hd
      rw [Int.toNat_of_nonneg g1] at this
      exact this
    · walk_at "s"
      exact fq_d (by simp) (hK _ _ (List.getElem_mem hz) g3)
theorem moment_wc (hT : T.fns[jt]? = some ⟨2, 5, bTake⟩) (hB : T.fns[jb]? = some ⟨3, 3, bBetween jt⟩) (hE : T.fns[je]? = some ⟨3, 4, bEdge jt jb⟩) (hM : T.fns[jm]? = some ⟨1, 2, bMoment jt je⟩) (hW : 1000 ≤ W) (h : St μ k cs N) (hN : N < 2 ^ 60)
    (hK : ∀ z nd, 0 ≤ z → z ≤ 10000000 → St (μ.set k (some nd)) k cs (N + 4) → K (.d (.int z)) (μ.set k (some nd))) : WC1 (callD T W (n + 4)) jm [.r k] μ K := by
  refine wc_of hM rfl ?_
  show WS _ (bMoment jt je) [some (.r k), none] μ _
  unfold bMoment
  walk_at "g"
  refine take_wc (n := n + 2) hT hW h (by omega) (by decide) fun z nd h1 h2 h3 => ?_
  walk_at "g"
  refine ⟨fun _ => ?_, fun b => ?_⟩
  · walk_at "g"
    refine edge_wc (n := n) hT hB hE hW h3 (by omega) (by decide) (by decide) fun z nd' g1 g2 g3 => ?_
    walk_at "g"
    rw [List.set_set] at g3 ⊢
    exact fq_d (by simp) (hK _ _ g1 (Int.le_trans g2 (by decide)) (g3.more (by omega)))
  · walk_at "g"
    refine ⟨fun _ => ?_, fun b => ?_⟩
    · walk_at "g"
      refine take_wc (n := n + 2) hT hW h3 (by omega) (by decide) fun z1 nd1 p1 p2 p3 => ?_
      have q1 : z1 < 800 := by omega
      walk_at "g"
      refine take_wc (n := n + 2) hT hW p3 (by omega) (by decide) fun z2 nd2 r1 r2 r3 => ?_
      walk_at "g"
      rw [List.set_set, List.set_set] at r3
      rw [List.set_set, List.set_set]
      refine fq_d (by simp) (hK _ _ ?_ ?_ (r3.more (by omega))) <;> (split <;> omega)
    · walk_at "g"
      refine ⟨fun _ => ?_, fun b => ?_⟩
      · walk_at "g"
        refine take_wc (n := n + 2) hT hW h3 (by omega) (by decide) fun z1 nd1 p1 p2 p3 => ?_
        have q1 : z1 < 4 := by omega
        walk_at "g"
        refine take_wc (n := n + 2) hT hW p3 (by omega) (by decide) fun z2 nd2 r1 r2 r3 => ?_
        walk_at "g"
        rw [List.set_set, List.set_set] at r3
        rw [List.set_set, List.set_set]
        refine fq_d (by simp) (hK _ _ ?_ ?_ (r3.more (by omega))) <;> (split <;> omega)
      · walk_at "g"
        refine take_wc (n := n + 2) hT hW h3 (by omega) (by decide) fun z1 nd1 p1 p2 p3 => ?_
        walk_at "g"
        rw [List.set_set] at p3 ⊢
        exact fq_d (by simp) (hK _ _ p1 (by omega) (p3.more (by omega)))
end
end DL

namespace K01
open PySem PySem.Spec PyProof.Rows L2 DL
/-- the i-th statement of the text -/
abbrev top (i : Nat) : Stmt := PySem.Challenge.pw_tollbooks_k01_fractions_add_and_compare.main.body.getD i (.Pass ⟨0, 0, 0, 0⟩)
abbrev cst (i k : Nat) : Stmt := (clsStmts (top i)).getD k (.Pass ⟨0, 0, 0, 0⟩)

def b0 : Ss := (.cons (.whl (.val (.con (.bl true))) (.cons .pass .nil)) .nil)
/-- _wall -/
def f0 : FnAll := ⟨⟨("_wall", none), "_wall", "_wall", defArgs (top 0), defBody (top 0), defScope (top 0), [], []⟩, ["k"], ["k"], ⟨1, 1, b0⟩, 0, []⟩
def b1 : Ss := (.cons (.ret (.bop true (.cons (.isi (.var 0) [.int]) (.cons (.not (.isi (.var 0) [.bool])) .nil)))) .nil)
/-- whole -/
def f1 : FnAll := ⟨⟨("whole", none), "whole", "whole", defArgs (top 5), defBody (top 5), defScope (top 5), [], []⟩, ["value"], ["value"], ⟨1, 1, b1⟩, 0, []⟩
def b2 : Ss := (.cons (.set 2 (.blt false .abs (.cons (.var 0) .nil))) (.cons (.set 3 (.blt false .abs (.cons (.var 1) .nil))) (.cons (.whl (.cmp .ne (.var 3) (.con (.int 0))) (.cons (.par 2 3 (.var 3) (.bin .mod (.var 2) (.var 3))) .nil)) (.cons (.ret (.var 2)) .nil))))
/-- common_measure -/
def f2 : FnAll := ⟨⟨("common_measure", none), "common_measure", "common_measure", defArgs (top 6), defBody (top 6), defScope (top 6), [], []⟩, ["left", "right", "large", "small"], ["left", "right"], ⟨2, 4, b2⟩, 0, []⟩
def b3 : Ss := (.cons (.ret (.lst true (.cons (.lc false (.nm 1) (.seq (.var 0)) .none (.blt false .int (.cons (.var 1) .nil)) [1]) (.cons (.con (.int 0)) (.cons (.con (.int 0)) (.cons (.con (.int 0)) (.cons (.blt false .len (.cons (.var 0) .nil)) .nil))))))) .nil)
/-- _law_store -/
def f3 : FnAll := ⟨⟨("_law_store", none), "_law_store", "_law_store", defArgs (top 9), defBody (top 9), defScope (top 9), [], []⟩, ["_law_script", "_law_cell"], ["_law_script"], ⟨1, 2, b3⟩, 0, []⟩
def b4 : Ss := (.cons (.ite (.cmp .lt (.var 1) (.con (.int 2))) (.cons (.ret (.con (.int 0))) .nil) .nil) (.cons (.setI (.var 0) (.con (.int 3)) (.bin .add (.idx (.var 0) (.con (.int 3))) (.con (.int 1)))) (.cons (.ite (.bop true (.cons (.cmp .eq (.idx (.var 0) (.con (.int 2))) (.con (.int 0))) (.cons (.cmp .lt (.idx (.var 0) (.con (.int 1))) (.blt false .len (.cons (.idx (.var 0) (.con (.int 0))) .nil))) .nil))) (.cons (.set 4 (.idx (.idx (.var 0) (.con (.int 0))) (.idx (.var 0) (.con (.int 1))))) (.cons (.setI (.var 0) (.con (.int 1)) (.bin .add (.idx (.var 0) (.con (.int 1))) (.con (.int 1)))) (.cons (.setI (.var 0) (.con (.int 4)) (.bin .mod (.blt false .int (.cons (.bin .add (.bin .mul (.idx (.var 0) (.con (.int 4))) (.con (.int 31))) (.var 4)) .nil)) (.con (.int 1000000007)))) (.cons (.ite (.cmp .ge (.var 4) (.bin .pow (.con (.int 10)) (.con (.int 18)))) (.cons (.setI (.var 0) (.con (.int 2)) (.var 4)) .nil) .nil) .nil)))) .nil) (.cons (.ite (.cmp .gt (.idx (.var 0) (.con (.int 2))) (.con (.int 0))) (.cons (.set 2 (.bin .mod (.blt false .int (.cons (.idx (.var 0) (.con (.int 2))) .nil)) (.var 1))) (.cons (.setI (.var 0) (.con (.int 2)) (.bin .fdiv (.idx (.var 0) (.con (.int 2))) (.var 1))) (.cons (.ret (.var 2)) .nil))) .nil) (.cons (.set 2 (.con (.int 0))) (.cons (.set 3 (.var 1)) (.cons (.whl (.cmp .gt (.var 3) (.con (.int 0))) (.cons (.setI (.var 0) (.con (.int 4)) (.bin .mod (.blt false .int (.cons (.bin .add (.bin .add (.bin .mul (.idx (.var 0) (.con (.int 4))) (.con (.int 48271))) (.bin .mul (.idx (.var 0) (.con (.int 3))) (.con (.int 40692)))) (.con (.int 11))) .nil)) (.con (.int 2147483647)))) (.cons (.set 2 (.bin .add (.bin .mul (.var 2) (.con (.int 1000003))) (.bin .mod (.bin .mod (.blt false .int (.cons (.bin .add (.bin .mul (.idx (.var 0) (.con (.int 4))) (.con (.int 69621))) (.idx (.var 0) (.con (.int 3)))) .nil)) (.con (.int 2147483399))) (.con (.int 1000003))))) (.cons (.set 3 (.bin .fdiv (.var 3) (.con (.int 1000003)))) .nil)))) (.cons (.ret (.bin .mod (.blt false .int (.cons (.var 2) .nil)) (.var 1))) .nil))))))))
/-- _law_take -/
def f4 : FnAll := ⟨⟨("_law_take", none), "_law_take", "_law_take", defArgs (top 10), defBody (top 10), defScope (top 10), [], []⟩, ["_law_store_here", "_law_many", "_law_drawn", "_law_left", "_law_cell"], ["_law_store_here", "_law_many"], ⟨2, 5, b4⟩, 0, []⟩
def b5 : Ss := (.cons (.ret (.bin .add (.var 1) (.call 4 (.cons (.var 0) (.cons (.bin .add (.bin .sub (.var 2) (.var 1)) (.con (.int 1))) .nil)) []))) .nil)
/-- _law_between -/
def f5 : FnAll := ⟨⟨("_law_between", none), "_law_between", "_law_between", defArgs (top 11), defBody (top 11), defScope (top 11), [], []⟩, ["_law_store_here", "_law_low", "_law_high"], ["_law_store_here", "_law_low", "_law_high"], ⟨3, 3, b5⟩, 0, []⟩
def b6 : Ss := (.cons (.ret (.idx (.var 1) (.call 4 (.cons (.var 0) (.cons (.blt false .len (.cons (.var 1) .nil)) .nil)) []))) .nil)
/-- _law_pick -/
def f6 : FnAll := ⟨⟨("_law_pick", none), "_law_pick", "_law_pick", defArgs (top 12), defBody (top 12), defScope (top 12), [], []⟩, ["_law_store_here", "_law_row"], ["_law_store_here", "_law_row"], ⟨2, 2, b6⟩, 0, []⟩
def b7 : Ss := (.cons (.set 3 (.call 4 (.cons (.var 0) (.cons (.con (.int 12)) .nil)) [])) (.cons (.ite (.cmp .lt (.var 3) (.con (.int 4))) (.cons (.ret (.idx (.lst false (.cons (.var 1) (.cons (.var 2) (.cons (.blt false .min2 (.cons (.bin .add (.var 1) (.con (.int 1))) (.cons (.var 2) .nil))) (.cons (.blt false .max2 (.cons (.bin .sub (.var 2) (.con (.int 1))) (.cons (.var 1) .nil))) .nil))))) (.var 3))) .nil) .nil) (.cons (.ite (.cmp .lt (.var 3) (.con (.int 8))) (.cons (.ret (.call 5 (.cons (.var 0) (.cons (.var 1) (.cons (.blt false .min2 (.cons (.bin .add (.var 1) (.con (.int 9))) (.cons (.var 2) .nil))) .nil))) [])) .nil) .nil) (.cons (.ret (.call 5 (.cons (.var 0) (.cons (.var 1) (.cons (.var 2) .nil))) [])) .nil))))
/-- _law_edge -/
def f7 : FnAll := ⟨⟨("_law_edge", none), "_law_edge", "_law_edge", defArgs (top 13), defBody (top 13), defScope (top 13), [], []⟩, ["_law_store_here", "_law_low", "_law_high", "_law_way"], ["_law_store_here", "_law_low", "_law_high"], ⟨3, 4, b7⟩, 0, []⟩
def b8 : Ss := (.cons (.set 2 (.call 7 (.cons (.var 0) (.cons (.con (.int 0)) (.cons (.var 1) .nil))) [])) (.cons (.ite (.cmp .eq (.call 4 (.cons (.var 0) (.cons (.con (.int 2)) .nil)) []) (.con (.int 1))) (.cons (.ret (.bin .sub (.con (.int 0)) (.var 2))) .nil) .nil) (.cons (.ret (.var 2)) .nil)))
/-- _law_signed -/
def f8 : FnAll := ⟨⟨("_law_signed", none), "_law_signed", "_law_signed", defArgs (top 14), defBody (top 14), defScope (top 14), [], []⟩, ["_law_store_here", "_law_high", "_law_drawn"], ["_law_store_here", "_law_high"], ⟨2, 3, b8⟩, 0, []⟩
def b9 : Ss := (.cons (.ite (.bop false (.cons (.cmp .is_ (.var 0) (.con .non)) (.cons (.cmp .is_ (.var 1) (.con .non)) .nil))) (.cons (.ret (.bop true (.cons (.cmp .is_ (.var 0) (.con .non)) (.cons (.cmp .is_ (.var 1) (.con .non)) .nil)))) .nil) .nil) (.cons (.ite (.bop false (.cons (.isi (.var 0) [.bool]) (.cons (.isi (.var 1) [.bool]) .nil))) (.cons (.ret (.bop true (.cons (.isi (.var 0) [.bool]) (.cons (.isi (.var 1) [.bool]) (.cons (.cmp .eq (.var 0) (.var 1)) .nil))))) .nil) .nil) (.cons (.ite (.isi (.var 0) [.int]) (.cons (.ret (.bop true (.cons (.isi (.var 1) [.int]) (.cons (.cmp .eq (.var 0) (.var 1)) .nil)))) .nil) .nil) (.cons (.ite (.isi (.var 0) [.str]) (.cons (.ret (.bop true (.cons (.isi (.var 1) [.str]) (.cons (.cmp .eq (.var 0) (.var 1)) .nil)))) .nil) .nil) (.cons (.ite (.bop false (.cons (.cmp .ne (.isi (.var 0) [.lst]) (.isi (.var 1) [.lst])) (.cons (.cmp .ne (.isi (.var 0) [.tup]) (.isi (.var 1) [.tup])) .nil))) (.cons (.ret (.con (.bl false))) .nil) .nil) (.cons (.ite (.bop true (.cons (.not (.isi (.var 0) [.lst])) (.cons (.not (.isi (.var 0) [.tup])) .nil))) (.cons (.ret (.con (.bl false))) .nil) .nil) (.cons (.ite (.cmp .ne (.blt false .len (.cons (.var 0) .nil)) (.blt false .len (.cons (.var 1) .nil))) (.cons (.ret (.con (.bl false))) .nil) .nil) (.cons (.for_ (.nm 2) (.rng1 (.blt false .len (.cons (.var 0) .nil))) (.cons (.ite (.not (.val (.call 9 (.cons (.idx (.var 0) (.var 2)) (.cons (.idx (.var 1) (.var 2)) .nil)) []))) (.cons (.ret (.con (.bl false))) .nil) .nil) .nil)) (.cons (.ret (.con (.bl true))) .nil)))))))))
/-- _law_same -/
def f9 : FnAll := ⟨⟨("_law_same", none), "_law_same", "_law_same", defArgs (top 15), defBody (top 15), defScope (top 15), [], []⟩, ["_law_left", "_law_right", "_law_k"], ["_law_left", "_law_right"], ⟨2, 3, b9⟩, 0, []⟩
def b10 : Ss := (.cons (.whl (.cmp .gt (.var 1) (.con (.int 0))) (.cons (.set 2 (.bin .mod (.blt false .int (.cons (.var 0) .nil)) (.var 1))) (.cons (.set 0 (.var 1)) (.cons (.set 1 (.var 2)) .nil)))) (.cons (.ret (.var 0)) .nil))
/-- _law_gcd -/
def f10 : FnAll := ⟨⟨("_law_gcd", none), "_law_gcd", "_law_gcd", defArgs (top 16), defBody (top 16), defScope (top 16), [], []⟩, ["_law_left", "_law_right", "_law_kept"], ["_law_left", "_law_right"], ⟨2, 3, b10⟩, 0, []⟩
def b11 : Ss := (.cons (.ite (.cmp .eq (.var 1) (.con (.int 0))) (.cons (.ret (.tup (.cons (.con (.int 0)) (.cons (.con (.int 1)) .nil)))) .nil) .nil) (.cons (.set 2 (.call 10 (.cons (.blt false .abs (.cons (.var 0) .nil)) (.cons (.blt false .abs (.cons (.var 1) .nil)) .nil)) [])) (.cons (.ite (.cmp .lt (.var 1) (.con (.int 0))) (.cons (.set 2 (.bin .sub (.con (.int 0)) (.var 2))) .nil) .nil) (.cons (.ret (.tup (.cons (.bin .fdiv (.var 0) (.var 2)) (.cons (.bin .fdiv (.var 1) (.var 2)) .nil)))) .nil))))
/-- _law_lowest -/
def f11 : FnAll := ⟨⟨("_law_lowest", none), "_law_lowest", "_law_lowest", defArgs (top 17), defBody (top 17), defScope (top 17), [], []⟩, ["_law_top", "_law_bottom", "_law_whole"], ["_law_top", "_law_bottom"], ⟨2, 3, b11⟩, 0, []⟩
def b12 : Ss := (.cons (.set 1 (.call 6 (.cons (.var 0) (.cons (.lst false (.cons (.con (.int 12)) (.cons (.con (.int 12)) (.cons (.con (.int 1000)) (.cons (.bin .pow (.con (.int 10)) (.con (.int 30))) .nil))))) .nil)) [])) (.cons (.set 2 (.call 8 (.cons (.var 0) (.cons (.var 1) .nil)) [])) (.cons (.set 3 (.bin .add (.con (.int 1)) (.call 7 (.cons (.var 0) (.cons (.con (.int 0)) (.cons (.bin .sub (.var 1) (.con (.int 1))) .nil))) []))) (.cons (.ite (.cmp .eq (.call 4 (.cons (.var 0) (.cons (.con (.int 2)) .nil)) []) (.con (.int 1))) (.cons (.set 3 (.bin .sub (.con (.int 0)) (.var 3))) .nil) .nil) (.cons (.ite (.cmp .le (.var 1) (.con (.int 1000))) (.cons (.set 4 (.bin .add (.con (.int 1)) (.call 4 (.cons (.var 0) (.cons (.con (.int 6)) .nil)) []))) (.cons (.ret (.tup (.cons (.bin .mul (.var 2) (.var 4)) (.cons (.bin .mul (.var 3) (.var 4)) .nil)))) .nil)) .nil) (.cons (.ret (.tup (.cons (.var 2) (.cons (.var 3) .nil)))) .nil))))))
/-- _law_fraction -/
def f12 : FnAll := ⟨⟨("_law_fraction", none), "_law_fraction", "_law_fraction", defArgs (top 18), defBody (top 18), defScope (top 18), [], []⟩, ["_law_store_here", "_law_high", "_law_top", "_law_bottom", "_law_factor"], ["_law_store_here"], ⟨1, 5, b12⟩, 0, []⟩
def b13 : Ss := (.cons (.set 1 (.call 12 (.cons (.var 0) .nil) [])) (.cons (.set 2 (.bin .fdiv (.bin .pow (.con (.int 10)) (.con (.int 30))) (.blt false .max2 (.cons (.blt false .abs (.cons (.idx (.var 1) (.con (.int 0))) .nil)) (.cons (.blt false .abs (.cons (.idx (.var 1) (.con (.int 1))) .nil)) .nil))))) (.cons (.set 3 (.bin .add (.con (.int 1)) (.call 7 (.cons (.var 0) (.cons (.con (.int 0)) (.cons (.bin .sub (.var 2) (.con (.int 1))) .nil))) []))) (.cons (.ret (.tup (.cons (.bin .mul (.idx (.var 1) (.con (.int 0))) (.var 3)) (.cons (.bin .mul (.idx (.var 1) (.con (.int 1))) (.var 3)) .nil)))) .nil))))
/-- _law_ratio -/
def f13 : FnAll := ⟨⟨("_law_ratio", none), "_law_ratio", "_law_ratio", defArgs (top 19), defBody (top 19), defScope (top 19), [], []⟩, ["_law_store_here", "_law_pair", "_law_room", "_law_factor"], ["_law_store_here"], ⟨1, 4, b13⟩, 0, []⟩
def b14 : Ss := (.cons (.set 2 (.call 4 (.cons (.var 0) (.cons (.con (.int 8)) .nil)) [])) (.cons (.ite (.cmp .lt (.var 2) (.con (.int 3))) (.cons (.ret (.call 13 (.cons (.var 0) .nil) [])) .nil) .nil) (.cons (.unp [6, 7] (.var 1)) (.cons (.set 3 (.bin .sub (.bin .add (.var 6) (.con (.int 1))) (.bin .mul (.con (.int 2)) (.blt false .int (.cons (.cmp .gt (.var 6) (.con (.int 0))) .nil))))) (.cons (.ite (.cmp .lt (.var 2) (.con (.int 6))) (.cons (.ret (.idx (.lst false (.cons (.tup (.cons (.var 3) (.cons (.var 7) .nil))) (.cons (.tup (.cons (.bin .sub (.con (.int 0)) (.var 6)) (.cons (.var 7) .nil))) (.cons (.tup (.cons (.con (.int 0)) (.cons (.var 7) .nil))) .nil)))) (.bin .sub (.var 2) (.con (.int 3))))) .nil) .nil) (.cons (.set 4 (.call 11 (.cons (.var 6) (.cons (.var 7) .nil)) [])) (.cons (.set 5 (.bin .add (.con (.int 1)) (.call 7 (.cons (.var 0) (.cons (.con (.int 0)) (.cons (.bin .sub (.bin .fdiv (.bin .pow (.con (.int 10)) (.con (.int 30))) (.blt false .max2 (.cons (.blt false .abs (.cons (.idx (.var 4) (.con (.int 0))) .nil)) (.cons (.idx (.var 4) (.con (.int 1))) .nil)))) (.con (.int 1))) .nil))) []))) (.cons (.ite (.cmp .eq (.var 2) (.con (.int 6))) (.cons (.ret (.tup (.cons (.bin .mul (.idx (.var 4) (.con (.int 0))) (.var 5)) (.cons (.bin .mul (.idx (.var 4) (.con (.int 1))) (.var 5)) .nil)))) .nil) .nil) (.cons (.ret (.tup (.cons (.bin .sub (.bin .add (.bin .mul (.idx (.var 4) (.con (.int 0))) (.var 5)) (.con (.int 1))) (.bin .mul (.con (.int 2)) (.blt false .int (.cons (.cmp .gt (.idx (.var 4) (.con (.int 0))) (.con (.int 0))) .nil)))) (.cons (.bin .mul (.idx (.var 4) (.con (.int 1))) (.var 5)) .nil)))) .nil)))))))))
/-- _law_second -/
def f14 : FnAll := ⟨⟨("_law_second", none), "_law_second", "_law_second", defArgs (top 20), defBody (top 20), defScope (top 20), [], []⟩, ["_law_store_here", "_law_first", "_law_way", "_law_nearer", "_law_low", "_law_factor", "_law_top", "_law_bottom"], ["_law_store_here", "_law_first"], ⟨2, 8, b14⟩, 0, []⟩
def b15 : Ss := (.cons (.ite (.not (.isi (.var 0) [.cls 0])) (.cons (.ret (.con (.bl false))) .nil) .nil) (.cons (.ret (.call 9 (.cons (.tup (.cons (.fld (.var 0) "top") (.cons (.fld (.var 0) "bottom") .nil))) (.cons (.call 11 (.cons (.var 1) (.cons (.var 2) .nil)) []) .nil)) [])) .nil))
/-- _law_is -/
def f15 : FnAll := ⟨⟨("_law_is", none), "_law_is", "_law_is", defArgs (top 21), defBody (top 21), defScope (top 21), [], []⟩, ["_law_exact", "_law_top", "_law_bottom"], ["_law_exact", "_law_top", "_law_bottom"], ⟨3, 3, b15⟩, 0, []⟩
def b16 : Ss := (.cons (.set 4 (.bin .mul (.idx (.var 2) (.con (.int 1))) (.idx (.var 3) (.con (.int 1))))) (.cons (.set 5 (.bin .mul (.idx (.var 2) (.con (.int 0))) (.idx (.var 3) (.con (.int 1))))) (.cons (.set 6 (.bin .mul (.idx (.var 3) (.con (.int 0))) (.idx (.var 2) (.con (.int 1))))) (.cons (.ite (.bop false (.cons (.not (.val (.call 15 (.cons (.bin .add (.var 0) (.var 1)) (.cons (.bin .add (.var 5) (.var 6)) (.cons (.var 4) .nil))) []))) (.cons (.not (.val (.call 15 (.cons (.bin .sub (.var 0) (.var 1)) (.cons (.bin .sub (.var 5) (.var 6)) (.cons (.var 4) .nil))) []))) .nil))) (.cons (.ret (.con (.bl false))) .nil) .nil) (.cons (.ite (.not (.val (.call 15 (.cons (.bin .mul (.var 0) (.var 1)) (.cons (.bin .mul (.idx (.var 2) (.con (.int 0))) (.idx (.var 3) (.con (.int 0)))) (.cons (.var 4) .nil))) []))) (.cons (.ret (.con (.bl false))) .nil) .nil) (.cons (.ite (.bop false (.cons (.not (.val (.call 15 (.cons (.neg (.var 0)) (.cons (.bin .sub (.con (.int 0)) (.idx (.var 2) (.con (.int 0)))) (.cons (.idx (.var 2) (.con (.int 1))) .nil))) []))) (.cons (.not (.val (.call 15 (.cons (.blt false .abs (.cons (.var 0) .nil)) (.cons (.blt false .abs (.cons (.idx (.var 2) (.con (.int 0))) .nil)) (.cons (.blt false .abs (.cons (.idx (.var 2) (.con (.int 1))) .nil)) .nil))) []))) .nil))) (.cons (.ret (.con (.bl false))) .nil) .nil) (.cons (.ite (.bop false (.cons (.not (.val (.call 15 (.cons (.bin .sub (.bin .add (.var 0) (.var 1)) (.var 1)) (.cons (.idx (.var 2) (.con (.int 0))) (.cons (.idx (.var 2) (.con (.int 1))) .nil))) []))) (.cons (.not (.val (.call 15 (.cons (.bin .mul (.bin .sub (.var 0) (.var 1)) (.var 1)) (.cons (.bin .mul (.bin .sub (.var 5) (.var 6)) (.idx (.var 3) (.con (.int 0)))) (.cons (.bin .mul (.var 4) (.idx (.var 3) (.con (.int 1)))) .nil))) []))) .nil))) (.cons (.ret (.con (.bl false))) .nil) .nil) (.cons (.ret (.bop true (.cons (.cmp .eq (.bin .sub (.bin .add (.var 0) (.var 1)) (.var 1)) (.var 0)) (.cons (.cmp .eq (.bin .mul (.var 0) (.var 1)) (.bin .mul (.var 1) (.var 0))) .nil)))) .nil))))))))
/-- _law_reckons -/
def f16 : FnAll := ⟨⟨("_law_reckons", none), "_law_reckons", "_law_reckons", defArgs (top 22), defBody (top 22), defScope (top 22), [], []⟩, ["_law_one", "_law_two", "_law_a", "_law_b", "_law_far", "_law_left", "_law_right"], ["_law_one", "_law_two", "_law_a", "_law_b"], ⟨4, 7, b16⟩, 0, []⟩
def b17 : Ss := (.cons (.set 4 (.bin .mul (.bin .mul (.bin .sub (.bin .mul (.idx (.var 2) (.con (.int 0))) (.idx (.var 3) (.con (.int 1)))) (.bin .mul (.idx (.var 3) (.con (.int 0))) (.idx (.var 2) (.con (.int 1))))) (.idx (.var 2) (.con (.int 1)))) (.idx (.var 3) (.con (.int 1))))) (.cons (.ite (.not (.val (.call 9 (.cons (.lst false (.cons (.cmp .eq (.var 0) (.var 1)) (.cons (.cmp .ne (.var 0) (.var 1)) .nil))) (.cons (.lst false (.cons (.cmp .eq (.var 4) (.con (.int 0))) (.cons (.cmp .ne (.var 4) (.con (.int 0))) .nil))) .nil)) []))) (.cons (.ret (.con (.bl false))) .nil) .nil) (.cons (.ite (.not (.val (.call 9 (.cons (.meth "compare" (.var 0) (.cons (.var 1) .nil) []) (.cons (.bin .sub (.blt false .int (.cons (.cmp .gt (.var 4) (.con (.int 0))) .nil)) (.blt false .int (.cons (.cmp .lt (.var 4) (.con (.int 0))) .nil))) .nil)) []))) (.cons (.ret (.con (.bl false))) .nil) .nil) (.cons (.ret (.cmp .eq (.blt false .bool (.cons (.var 0) .nil)) (.cmp .ne (.idx (.var 2) (.con (.int 0))) (.con (.int 0))))) .nil))))
/-- _law_compares -/
def f17 : FnAll := ⟨⟨("_law_compares", none), "_law_compares", "_law_compares", defArgs (top 23), defBody (top 23), defScope (top 23), [], []⟩, ["_law_one", "_law_two", "_law_a", "_law_b", "_law_gap"], ["_law_one", "_law_two", "_law_a", "_law_b"], ⟨4, 5, b17⟩, 0, []⟩
def b18 : Ss := (.cons (.set 2 (.call 11 (.cons (.idx (.var 1) (.con (.int 0))) (.cons (.idx (.var 1) (.con (.int 1))) .nil)) [])) (.cons (.set 3 (.bin .add (.bin .add (.blt false .str (.cons (.idx (.var 2) (.con (.int 0))) .nil)) (.con (.str "/"))) (.blt false .str (.cons (.idx (.var 2) (.con (.int 1))) .nil)))) (.cons (.set 4 (.lst false (.cons (.idx (.var 1) (.con (.int 0))) (.cons (.idx (.var 1) (.con (.int 1))) (.cons (.con .non) (.cons (.con (.bl true)) (.cons (.con (.bl false)) (.cons (.blt false .str (.cons (.idx (.var 1) (.con (.int 0))) .nil)) (.cons (.tup (.cons (.idx (.var 1) (.con (.int 0))) (.cons (.idx (.var 1) (.con (.int 1))) .nil))) (.cons (.lst false (.cons (.idx (.var 1) (.con (.int 0))) (.cons (.idx (.var 1) (.con (.int 1))) .nil))) .nil)))))))))) (.cons (.set 4 (.bin .add (.var 4) (.lst false (.cons (.var 3) (.cons (.meth "written" (.var 0) .nil []) (.cons (.idx (.var 2) (.con (.int 0))) (.cons (.var 2) (.cons (.lst false (.cons (.idx (.var 2) (.con (.int 0))) (.cons (.idx (.var 2) (.con (.int 1))) .nil))) (.cons (.tup (.cons (.idx (.var 2) (.con (.int 0))) .nil)) (.cons (.con (.str "")) .nil)))))))))) (.cons (.for_ (.nm 5) (.seq (.var 4)) (.cons (.ite (.not (.val (.call 9 (.cons (.lst false (.cons (.cmp .eq (.var 0) (.var 5)) (.cons (.cmp .ne (.var 0) (.var 5)) .nil))) (.cons (.lst false (.cons (.con (.bl false)) (.cons (.con (.bl true)) .nil))) .nil)) []))) (.cons (.ret (.con (.bl false))) .nil) .nil) .nil)) (.cons (.ret (.con (.bl true))) .nil))))))
/-- _law_foreign -/
def f18 : FnAll := ⟨⟨("_law_foreign", none), "_law_foreign", "_law_foreign", defArgs (top 24), defBody (top 24), defScope (top 24), [], []⟩, ["_law_one", "_law_a", "_law_low", "_law_under", "_law_things", "_law_thing"], ["_law_one", "_law_a"], ⟨2, 6, b18⟩, 0, []⟩
def b19 : Ss := (.cons (.set 1 (.call 3 (.cons (.var 0) .nil) [])) (.cons (.set 2 (.call 13 (.cons (.var 1) .nil) [])) (.cons (.set 3 (.call 14 (.cons (.var 1) (.cons (.var 2) .nil)) [])) (.cons (.set 4 (.frz (.mk 0 (.cons (.idx (.var 2) (.con (.int 0))) (.cons (.idx (.var 2) (.con (.int 1))) .nil)) []))) (.cons (.set 5 (.frz (.mk 0 (.cons (.idx (.var 3) (.con (.int 0))) (.cons (.idx (.var 3) (.con (.int 1))) .nil)) []))) (.cons (.for_ (.nm 6) (.rng1 (.con (.int 2))) (.cons (.ite (.bop false (.cons (.not (.val (.call 16 (.cons (.var 4) (.cons (.var 5) (.cons (.var 2) (.cons (.var 3) .nil)))) []))) (.cons (.not (.val (.call 16 (.cons (.var 5) (.cons (.var 4) (.cons (.var 3) (.cons (.var 2) .nil)))) []))) .nil))) (.cons (.ret (.con (.bl false))) .nil) .nil) (.cons (.ite (.bop false (.cons (.not (.val (.call 17 (.cons (.var 4) (.cons (.var 5) (.cons (.var 2) (.cons (.var 3) .nil)))) []))) (.cons (.not (.val (.call 17 (.cons (.var 5) (.cons (.var 4) (.cons (.var 3) (.cons (.var 2) .nil)))) []))) .nil))) (.cons (.ret (.con (.bl false))) .nil) .nil) (.cons (.ite (.bop false (.cons (.not (.val (.call 18 (.cons (.var 4) (.cons (.var 2) .nil)) []))) (.cons (.not (.val (.call 18 (.cons (.var 5) (.cons (.var 3) .nil)) []))) (.cons (.not (.val (.call 18 (.cons (.frz (.mk 0 (.cons (.con (.int 1)) (.cons (.con (.int 2)) .nil)) [])) (.cons (.tup (.cons (.con (.int 1)) (.cons (.con (.int 2)) .nil))) .nil)) []))) .nil)))) (.cons (.ret (.con (.bl false))) .nil) .nil) (.cons (.ite (.bop false (.cons (.not (.val (.call 16 (.cons (.var 4) (.cons (.var 4) (.cons (.var 2) (.cons (.var 2) .nil)))) []))) (.cons (.not (.val (.call 17 (.cons (.var 4) (.cons (.var 4) (.cons (.var 2) (.cons (.var 2) .nil)))) []))) .nil))) (.cons (.ret (.con (.bl false))) .nil) .nil) (.cons (.ite (.bop false (.cons (.not (.val (.call 15 (.cons (.var 4) (.cons (.idx (.var 2) (.con (.int 0))) (.cons (.idx (.var 2) (.con (.int 1))) .nil))) []))) (.cons (.not (.val (.call 15 (.cons (.var 5) (.cons (.idx (.var 3) (.con (.int 0))) (.cons (.idx (.var 3) (.con (.int 1))) .nil))) []))) .nil))) (.cons (.ret (.con (.bl false))) .nil) .nil) .nil)))))) (.cons (.ret (.con (.bl true))) .nil)))))))
/-- law -/
def f19 : FnAll := ⟨⟨("law", none), "law", "law", defArgs (top 25), defBody (top 25), defScope (top 25), [], []⟩, ["_law_script", "_law_store_here", "_law_a", "_law_b", "_law_one", "_law_two", "_law_k"], ["_law_script"], ⟨1, 7, b19⟩, 0, []⟩
def b20 : Ss := (.cons (.ite (.not (.val (.call 1 (.cons (.var 1) .nil) []))) (.cons .never .nil) .nil) (.cons (.ite (.bop false (.cons (.not (.val (.call 1 (.cons (.var 2) .nil) []))) (.cons (.cmp .eq (.var 2) (.con (.int 0))) .nil))) (.cons .never .nil) .nil) (.cons (.set 3 (.call 2 (.cons (.var 1) (.cons (.var 2) .nil)) [])) (.cons (.ite (.cmp .lt (.var 2) (.con (.int 0))) (.cons (.set 3 (.neg (.var 3))) .nil) .nil) (.cons (.setF (.var 0) "top" (.bin .fdiv (.var 1) (.var 3))) (.cons (.setF (.var 0) "bottom" (.bin .fdiv (.var 2) (.var 3))) .nil))))))
/-- Exact.__init__ -/
def f20 : FnAll := ⟨⟨("Exact", some "__init__"), "__init__", "Exact.__init__", defArgs (cst 7 0), defBody (cst 7 0), defScope (cst 7 0), [(.int 1)], []⟩, ["self", "top", "bottom", "shared"], ["self", "top", "bottom"], ⟨3, 4, b20⟩, 1, [(.int 1)]⟩
def b21 : Ss := (.cons (.ite (.not (.isi (.var 1) [.cls 0])) (.cons .never .nil) .nil) (.cons (.ret (.frz (.mk 0 (.cons (.bin .add (.bin .mul (.fld (.var 0) "top") (.fld (.var 1) "bottom")) (.bin .mul (.fld (.var 1) "top") (.fld (.var 0) "bottom"))) (.cons (.bin .mul (.fld (.var 0) "bottom") (.fld (.var 1) "bottom")) .nil)) []))) .nil))
/-- Exact.__add__ -/
def f21 : FnAll := ⟨⟨("Exact", some "__add__"), "__add__", "Exact.__add__", defArgs (cst 7 1), defBody (cst 7 1), defScope (cst 7 1), [], []⟩, ["self", "other"], ["self", "other"], ⟨2, 2, b21⟩, 1, []⟩
def b22 : Ss := (.cons (.ite (.not (.isi (.var 1) [.cls 0])) (.cons .never .nil) .nil) (.cons (.ret (.frz (.mk 0 (.cons (.bin .sub (.bin .mul (.fld (.var 0) "top") (.fld (.var 1) "bottom")) (.bin .mul (.fld (.var 1) "top") (.fld (.var 0) "bottom"))) (.cons (.bin .mul (.fld (.var 0) "bottom") (.fld (.var 1) "bottom")) .nil)) []))) .nil))
/-- Exact.__sub__ -/
def f22 : FnAll := ⟨⟨("Exact", some "__sub__"), "__sub__", "Exact.__sub__", defArgs (cst 7 2), defBody (cst 7 2), defScope (cst 7 2), [], []⟩, ["self", "other"], ["self", "other"], ⟨2, 2, b22⟩, 1, []⟩
def b23 : Ss := (.cons (.ite (.not (.isi (.var 1) [.cls 0])) (.cons .never .nil) .nil) (.cons (.ret (.frz (.mk 0 (.cons (.bin .mul (.fld (.var 0) "top") (.fld (.var 1) "top")) (.cons (.bin .mul (.fld (.var 0) "bottom") (.fld (.var 1) "bottom")) .nil)) []))) .nil))
/-- Exact.__mul__ -/
def f23 : FnAll := ⟨⟨("Exact", some "__mul__"), "__mul__", "Exact.__mul__", defArgs (cst 7 3), defBody (cst 7 3), defScope (cst 7 3), [], []⟩, ["self", "other"], ["self", "other"], ⟨2, 2, b23⟩, 1, []⟩
def b24 : Ss := (.cons (.ret (.frz (.mk 0 (.cons (.neg (.fld (.var 0) "top")) (.cons (.fld (.var 0) "bottom") .nil)) []))) .nil)
/-- Exact.__neg__ -/
def f24 : FnAll := ⟨⟨("Exact", some "__neg__"), "__neg__", "Exact.__neg__", defArgs (cst 7 4), defBody (cst 7 4), defScope (cst 7 4), [], []⟩, ["self"], ["self"], ⟨1, 1, b24⟩, 1, []⟩
def b25 : Ss := (.cons (.ret (.frz (.mk 0 (.cons (.blt false .abs (.cons (.fld (.var 0) "top") .nil)) (.cons (.fld (.var 0) "bottom") .nil)) []))) .nil)
/-- Exact.__abs__ -/
def f25 : FnAll := ⟨⟨("Exact", some "__abs__"), "__abs__", "Exact.__abs__", defArgs (cst 7 5), defBody (cst 7 5), defScope (cst 7 5), [], []⟩, ["self"], ["self"], ⟨1, 1, b25⟩, 1, []⟩
def b26 : Ss := (.cons (.ret (.bop true (.cons (.isi (.var 1) [.cls 0]) (.cons (.cmp .eq (.fld (.var 0) "top") (.fld (.var 1) "top")) (.cons (.cmp .eq (.fld (.var 0) "bottom") (.fld (.var 1) "bottom")) .nil))))) .nil)
/-- Exact.__eq__ -/
def f26 : FnAll := ⟨⟨("Exact", some "__eq__"), "__eq__", "Exact.__eq__", defArgs (cst 7 6), defBody (cst 7 6), defScope (cst 7 6), [], []⟩, ["self", "other"], ["self", "other"], ⟨2, 2, b26⟩, 1, []⟩
def b27 : Ss := (.cons (.ret (.blt false .bool (.cons (.cmp .ne (.fld (.var 0) "top") (.con (.int 0))) .nil))) .nil)
/-- Exact.__bool__ -/
def f27 : FnAll := ⟨⟨("Exact", some "__bool__"), "__bool__", "Exact.__bool__", defArgs (cst 7 7), defBody (cst 7 7), defScope (cst 7 7), [], []⟩, ["self"], ["self"], ⟨1, 1, b27⟩, 1, []⟩
def b28 : Ss := (.cons (.set 2 (.bin .mul (.fld (.var 0) "top") (.fld (.var 1) "bottom"))) (.cons (.set 3 (.bin .mul (.fld (.var 1) "top") (.fld (.var 0) "bottom"))) (.cons (.ite (.cmp .lt (.var 2) (.var 3)) (.cons (.ret (.neg (.con (.int 1)))) .nil) .nil) (.cons (.ite (.cmp .gt (.var 2) (.var 3)) (.cons (.ret (.con (.int 1))) .nil) .nil) (.cons (.ret (.con (.int 0))) .nil)))))
/-- Exact.compare -/
def f28 : FnAll := ⟨⟨("Exact", some "compare"), "compare", "Exact.compare", defArgs (cst 7 8), defBody (cst 7 8), defScope (cst 7 8), [], []⟩, ["self", "other", "here", "there"], ["self", "other"], ⟨2, 4, b28⟩, 1, []⟩
def b29 : Ss := (.cons (.ite (.cmp .eq (.fld (.var 0) "bottom") (.con (.int 1))) (.cons (.ret (.jn1 (.fmt (.fld (.var 0) "top")))) .nil) .nil) (.cons (.ret (.jn (.cons (.fmt (.fld (.var 0) "top")) (.cons (.con (.str "/")) (.cons (.fmt (.fld (.var 0) "bottom")) .nil))))) .nil))
/-- Exact.written -/
def f29 : FnAll := ⟨⟨("Exact", some "written"), "written", "Exact.written", defArgs (cst 7 10), defBody (cst 7 10), defScope (cst 7 10), [], []⟩, ["self"], ["self"], ⟨1, 1, b29⟩, 1, []⟩
def L : LawT := ⟨([f0, f1, f2, f3, f4, f5, f6, f7, f8, f9, f10, f11, f12, f13, f14, f15, f16, f17, f18, f19, f20, f21, f22, f23, f24, f25, f26, f27, f28, f29] : List FnAll), ([] : List (Str × D)), [⟨"Exact", [("__init__", 20), ("__add__", 21), ("__sub__", 22), ("__mul__", 23), ("__neg__", 24), ("__abs__", 25), ("__eq__", 26), ("__bool__", 27), ("compare", 28), ("written", 29)], [], ["top", "bottom"]⟩]⟩
theorem L_ok : L.ok = true := by kernel_rfl
abbrev R : PySem.W.OpenRow := PySem.W.OpenLaw.row PySem.Challenge.rw_tollbooks_k01_fractions_add_and_compare
abbrev hk : PySem.W.Hook := hookZ 7 L
def ob (s : PySem.W.SharedT) : AlZ := obsZ 7 L (HandSHeadRun.getT s)
theorem ob_eq (s : PySem.W.SharedT) : ob s = hk.obs s.abs := obsZ_eq (HandSHeadRun.getT_eq s)
def loose : List Str := (["_wall", "TollError", "BadForm", "whole", "common_measure", "Exact", "_law_store", "_law_take", "_law_between", "_law_pick", "_law_edge", "_law_signed", "_law_same", "_law_gcd", "_law_lowest", "_law_fraction", "_law_ratio", "_law_second", "_law_is", "_law_reckons", "_law_compares", "_law_foreign"] : List Str)
end K01


namespace K01
open PySem PySem.Spec PyProof.Rows L2 DL
theorem runF (w : World) : HandSHeadRun.RunEq R (PySem.W.view R.prog [25]) hk ob 5000 loose (w.withFollow "special-get-raises" false) := by
  intro os
  kernel_rfl
theorem runT (w : World) : HandSHeadRun.RunEq R (PySem.W.view R.prog [25]) hk ob 5000 loose (w.withFollow "special-get-raises" true) := by
  intro os
  kernel_rfl
theorem run (w : World) : HandSHeadRun.RunEq R (PySem.W.view R.prog [25]) hk ob 5000 loose w := PySem.W.byRow2 "special-get-raises" runF runT w
end K01

/-! lowest terms, in plain Lean -/
namespace K01
/-- p / q is t / b in lowest terms -/
structure Low (p q t b : Int) : Prop where
  pos : 0 < q
  cross : p * b = t * q
  cop : Nat.gcd p.natAbs q.natAbs = 1
theorem Low.uniq {p q t b p' q' t' b' : Int} (h : Low p q t b) (h' : Low p' q' t' b') (hb : b ≠ 0) (hb' : b' ≠ 0) (e : t * b' = t' * b) : p = p' ∧ q = q' := by
  obtain ⟨h1, h2, h3⟩ := h
  obtain ⟨g1, g2, g3⟩ := h'
  have e1 : p * q' = p' * q := by
    have z : (p * q') * (b * b') = (p' * q) * (b * b') := by
      calc (p * q') * (b * b') = (p * b) * (q' * b') := by simp only [Int.mul_assoc, Int.mul_comm, Int.mul_left_comm]
        _ = (t * q) * (q' * b') := by rw [h2]
        _ = (t * b') * (q * q') := by simp only [Int.mul_assoc, Int.mul_comm, Int.mul_left_comm]
        _ = (t' * b) * (q * q') := by rw [e]
        _ = (t' * q') * (q * b) := by simp only [Int.mul_assoc, Int.mul_comm, Int.mul_left_comm]
        _ = (p' * b') * (q * b) := by rw [g2]
        _ = (p' * q) * (b * b') := by simp only [Int.mul_assoc, Int.mul_comm, Int.mul_left_comm]
    exact Int.eq_of_mul_eq_mul_right (Int.mul_ne_zero hb hb') z
  have e2 : p.natAbs * q'.natAbs = p'.natAbs * q.natAbs := by rw [← Int.natAbs_mul, ← Int.natAbs_mul, e1]
  have c1 : Nat.Coprime q.natAbs p.natAbs := by rw [Nat.coprime_iff_gcd_eq_one, Nat.gcd_comm]; exact h3
  have c2 : Nat.Coprime q'.natAbs p'.natAbs := by rw [Nat.coprime_iff_gcd_eq_one, Nat.gcd_comm]; exact g3
  have d1 : q.natAbs ∣ q'.natAbs := c1.dvd_of_dvd_mul_left (by rw [e2]; exact Nat.dvd_mul_left _ _)
  have d2 : q'.natAbs ∣ q.natAbs := c2.dvd_of_dvd_mul_left (by rw [← e2]; exact Nat.dvd_mul_left _ _)
  have eq : q = q' := by
    have := Nat.dvd_antisymm d1 d2
    omega
  refine ⟨?_, eq⟩
  rw [← eq] at e1
  exact Int.eq_of_mul_eq_mul_right (by omega) e1
/-- by the greatest common measure, with the sign of the bottom -/
theorem low_of {t b w : Int} (hb : b ≠ 0) (hw : w.natAbs = Nat.gcd t.natAbs b.natAbs) (hs : (b < 0 → w < 0) ∧ (0 < b → 0 < w)) : ∃ k j, t = w * k ∧ b = w * j ∧ Low k j t b := by
  have hg : 0 < Nat.gcd t.natAbs b.natAbs := Nat.gcd_pos_of_pos_right _ (by omega)
  have d1 : w ∣ t := Int.natAbs_dvd_natAbs.mp (by rw [hw]; exact Nat.gcd_dvd_left _ _)
  have d2 : w ∣ b := Int.natAbs_dvd_natAbs.mp (by rw [hw]; exact Nat.gcd_dvd_right _ _)
  obtain ⟨k, hk⟩ := d1
  obtain ⟨j, hj⟩ := d2
  refine ⟨k, j, hk, hj, ?_, ?_, ?_⟩
  · by_cases hn : b < 0
    · have hw := hs.1 hn
      by_cases z : 0 < j
      · exact z
      · have : 0 ≤ w * j := Int.mul_nonneg_of_nonpos_of_nonpos (by omega) (by omega)
        omega
    · have hw := hs.2 (by omega)
      by_cases z : 0 < j
      · exact z
      · have : w * j ≤ 0 := Int.mul_nonpos_of_nonneg_of_nonpos (by omega) (by omega)
        omega
  · rw [hk, hj]
    simp only [Int.mul_assoc, Int.mul_comm, Int.mul_left_comm]
  · have e : Nat.gcd t.natAbs b.natAbs = w.natAbs * Nat.gcd k.natAbs j.natAbs := by rw [hk, hj, Int.natAbs_mul, Int.natAbs_mul, Nat.gcd_mul_left]
    rw [← hw] at e
    have hp : 0 < w.natAbs := by omega
    have : w.natAbs * 1 = w.natAbs * Nat.gcd k.natAbs j.natAbs := by omega
    exact (Nat.eq_of_mul_eq_mul_left hp this).symm
/-- a step of Euclid's walk halves the product -/
theorem euclid_half {l s t : Nat} (h0 : 0 < s) (h1 : s ≤ l) (h : l * s < 2 ^ t) : 0 < t ∧ s * (l % s) < 2 ^ (t - 1) := by
  have ht : 0 < t := by
    apply Nat.pos_of_ne_zero
    intro z
    rw [z] at h
    have : 1 ≤ l * s := Nat.mul_pos (by omega) h0
    omega
  refine ⟨ht, ?_⟩
  have hr : l % s < s := Nat.mod_lt _ h0
  have h2 : 2 * (l % s) ≤ l := by
    have := Nat.div_add_mod l s
    have hq : 1 ≤ l / s := (Nat.one_le_div_iff h0).mpr h1
    have : s * 1 ≤ s * (l / s) := Nat.mul_le_mul_left _ hq
    omega
  have h3 : 2 * (s * (l % s)) ≤ l * s := by
    calc 2 * (s * (l % s)) = s * (2 * (l % s)) := by simp only [Nat.mul_assoc, Nat.mul_comm, Nat.mul_left_comm]
      _ ≤ s * l := Nat.mul_le_mul_left _ h2
      _ = l * s := Nat.mul_comm _ _
  have h4 : (2 : Nat) ^ t = 2 * 2 ^ (t - 1) := by
    obtain ⟨u, rfl⟩ := Nat.exists_eq_succ_of_ne_zero (Nat.pos_iff_ne_zero.mp ht)
    rw [Nat.pow_succ, Nat.succ_sub_one, Nat.mul_comm]
  omega
end K01
namespace K01
theorem Low.le {p q t b : Int} (h : Low p q t b) (hb : b ≠ 0) : p.natAbs ≤ t.natAbs ∧ q.natAbs ≤ b.natAbs := by
  obtain ⟨h1, h2, h3⟩ := h
  have e : p.natAbs * b.natAbs = t.natAbs * q.natAbs := by rw [← Int.natAbs_mul, ← Int.natAbs_mul, h2]
  have c1 : Nat.Coprime q.natAbs p.natAbs := by rw [Nat.coprime_iff_gcd_eq_one, Nat.gcd_comm]; exact h3
  have d1 : q.natAbs ∣ b.natAbs := c1.dvd_of_dvd_mul_left (by rw [e]; exact Nat.dvd_mul_left _ _)
  have l1 : q.natAbs ≤ b.natAbs := Nat.le_of_dvd (by omega) d1
  refine ⟨?_, l1⟩
  have l2 : p.natAbs * b.natAbs ≤ t.natAbs * b.natAbs := by rw [e]; exact Nat.mul_le_mul_left _ l1
  exact Nat.le_of_mul_le_mul_right l2 (by omega)
end K01

namespace K01
open PySem L2 DL
/- one step; what has one way only; a step with the choices -/
local macro_rules | `(tactic| walk_at "1s") => `(tactic| first | refine we_var rfl ?_ | refine we_con ?_ | refine wa_cons ?_ | refine wa_nil ?_ | refine asI_mk ?_ | refine asZ_mk ?_ | refine asD_mk ?_ | refine we_idx ?_ | refine asV_d ?_ | refine we_call ?_ | refine we_bin ?_ | refine asOp_int ?_ | refine we_cmp ?_ | refine asCmp_mk rfl ?_ | refine wt_cmp ?_ | refine we_blt ?_ | refine asO_mk ?_ | refine asB_mk ?_ | refine asG_mk (Nat.le_of_ble_eq_true rfl) ?_ | refine asG_mk (by decide) ?_ | refine asG_mk rfl ?_ | refine wt_val ?_ | refine wt_not ?_ | refine asW_d ?_ | refine we_glo rfl ?_ | refine we_tup ?_ | refine we_lstF ?_ | refine we_lstT ?_ | refine we_isi ?_ | refine wt_isi ?_ | refine we_not ?_ | refine we_neg ?_ | refine asNeg_int ?_ | refine we_fmt ?_ | refine we_jn1 ?_ | refine we_jn ?_ | refine wj_cons ?_ | refine wj_nil ?_ | refine asSt_mk ?_ | refine asZ_mod (by decide) ?_ | refine asZ_mul (by omega) (by omega) (by decide) ?_ | refine asZ_mulS (by omega) (by omega) (by omega) (by omega) ?_ | refine asZ_div (by decide +kernel) ?_ | refine asZ_pow (by decide +kernel) ?_ | refine asR_mk ?_ | refine as1_mk ?_ | refine asT_mk ?_ | refine asS_l ?_ | refine asS_t ?_ | refine asS_k ?_ | refine asS_s ?_ | refine wi_seq ?_ | refine wi_rng1 ?_ | refine wi_rng2 ?_ | refine wi_enum ?_ | refine we_app ?_ | refine we_sl ?_ | refine wo_none ?_ | refine wo_some ?_ | refine we_rv ?_ | refine we_dicF ?_ | refine we_fld ?_ | refine asOp_tup (Nat.le_of_ble_eq_true rfl) ?_ | refine asOp_str (by decide +kernel) ?_ | (apply asV_r; assumption) | (apply asW_r; assumption) | (apply asC_mk; assumption) | refine ws_set ?_ | refine kq_nx ?_ | refine kq_rt ?_ | refine ws_ret ?_ | refine ws_nil ?_ | refine ws_ex ?_ | refine ws_unp ?_ | refine ws_pass ?_ | refine kq_bk ?_ | refine kq_ct ?_ | fail)
local macro_rules | `(tactic| walk_at "1c") => `(tactic| first | refine ws_ite ?_ | refine wt_bop ?_ | refine wt_bop1 ?_ | refine wt_chain ?_ | refine we_bop ?_ | refine we_bop1 ?_ | refine we_ife ?_ | refine we_chain ?_ | refine ws_par ?_ | refine ⟨fun _ => ?_, fun h => absurd (show (false : Bool) = true from h) Bool.false_ne_true⟩ | refine ⟨fun _ => ?_, fun h => absurd (show (true : Bool) = false from h).symm Bool.false_ne_true⟩ | refine ⟨fun h => absurd (show (true : Bool) = false from h).symm Bool.false_ne_true, fun _ => ?_⟩ | refine ⟨fun h => absurd (show (false : Bool) = true from h) Bool.false_ne_true, fun _ => ?_⟩ | fail)
local macro_rules | `(tactic| walk_at "x") => `(tactic| repeat (first | refine we_var rfl ?_ | refine we_con ?_ | refine wa_cons ?_ | refine wa_nil ?_ | refine asI_mk ?_ | refine asZ_mk ?_ | refine asD_mk ?_ | refine we_idx ?_ | refine asV_d ?_ | refine we_call ?_ | refine we_bin ?_ | refine asOp_int ?_ | refine we_cmp ?_ | refine asCmp_mk rfl ?_ | refine wt_cmp ?_ | refine we_blt ?_ | refine asO_mk ?_ | refine asB_mk ?_ | refine asG_mk (Nat.le_of_ble_eq_true rfl) ?_ | refine asG_mk (by decide) ?_ | refine asG_mk rfl ?_ | refine wt_val ?_ | refine wt_not ?_ | refine asW_d ?_ | refine we_glo rfl ?_ | refine we_tup ?_ | refine we_lstF ?_ | refine we_lstT ?_ | refine we_isi ?_ | refine wt_isi ?_ | refine we_not ?_ | refine we_neg ?_ | refine asNeg_int ?_ | refine we_fmt ?_ | refine we_jn1 ?_ | refine we_jn ?_ | refine wj_cons ?_ | refine wj_nil ?_ | refine asSt_mk ?_ | refine asZ_mod (by decide) ?_ | refine asZ_mul (by omega) (by omega) (by decide) ?_ | refine asZ_mulS (by omega) (by omega) (by omega) (by omega) ?_ | refine asZ_div (by decide +kernel) ?_ | refine asZ_pow (by decide +kernel) ?_ | refine asR_mk ?_ | refine as1_mk ?_ | refine asT_mk ?_ | refine asS_l ?_ | refine asS_t ?_ | refine asS_k ?_ | refine asS_s ?_ | refine wi_seq ?_ | refine wi_rng1 ?_ | refine wi_rng2 ?_ | refine wi_enum ?_ | refine we_app ?_ | refine we_sl ?_ | refine wo_none ?_ | refine wo_some ?_ | refine we_rv ?_ | refine we_dicF ?_ | refine we_fld ?_ | refine asOp_tup (Nat.le_of_ble_eq_true rfl) ?_ | refine asOp_str (by decide +kernel) ?_ | (apply asV_r; assumption) | (apply asW_r; assumption) | (apply asC_mk; assumption) | fail))
local macro_rules | `(tactic| walk_at "s") => `(tactic| repeat (first | refine we_var rfl ?_ | refine we_con ?_ | refine wa_cons ?_ | refine wa_nil ?_ | refine asI_mk ?_ | refine asZ_mk ?_ | refine asD_mk ?_ | refine we_idx ?_ | refine asV_d ?_ | refine we_call ?_ | refine we_bin ?_ | refine asOp_int ?_ | refine we_cmp ?_ | refine asCmp_mk rfl ?_ | refine wt_cmp ?_ | refine we_blt ?_ | refine asO_mk ?_ | refine asB_mk ?_ | refine asG_mk (Nat.le_of_ble_eq_true rfl) ?_ | refine asG_mk (by decide) ?_ | refine asG_mk rfl ?_ | refine wt_val ?_ | refine wt_not ?_ | refine asW_d ?_ | refine we_glo rfl ?_ | refine we_tup ?_ | refine we_lstF ?_ | refine we_lstT ?_ | refine we_isi ?_ | refine wt_isi ?_ | refine we_not ?_ | refine we_neg ?_ | refine asNeg_int ?_ | refine we_fmt ?_ | refine we_jn1 ?_ | refine we_jn ?_ | refine wj_cons ?_ | refine wj_nil ?_ | refine asSt_mk ?_ | refine asZ_mod (by decide) ?_ | refine asZ_mul (by omega) (by omega) (by decide) ?_ | refine asZ_mulS (by omega) (by omega) (by omega) (by omega) ?_ | refine asZ_div (by decide +kernel) ?_ | refine asZ_pow (by decide +kernel) ?_ | refine asR_mk ?_ | refine as1_mk ?_ | refine asT_mk ?_ | refine asS_l ?_ | refine asS_t ?_ | refine asS_k ?_ | refine asS_s ?_ | refine wi_seq ?_ | refine wi_rng1 ?_ | refine wi_rng2 ?_ | refine wi_enum ?_ | refine we_app ?_ | refine we_sl ?_ | refine wo_none ?_ | refine wo_some ?_ | refine we_rv ?_ | refine we_dicF ?_ | refine we_fld ?_ | refine asOp_tup (Nat.le_of_ble_eq_true rfl) ?_ | refine asOp_str (by decide +kernel) ?_ | (apply asV_r; assumption) | (apply asW_r; assumption) | (apply asC_mk; assumption) | refine ws_set ?_ | refine kq_nx ?_ | refine kq_rt ?_ | refine ws_ret ?_ | refine ws_nil ?_ | refine ws_ex ?_ | refine ws_unp ?_ | refine ws_pass ?_ | refine kq_bk ?_ | refine kq_ct ?_ | fail))
local macro_rules | `(tactic| walk_at "g") => `(tactic| repeat (first | refine we_var rfl ?_ | refine we_con ?_ | refine wa_cons ?_ | refine wa_nil ?_ | refine asI_mk ?_ | refine asZ_mk ?_ | refine asD_mk ?_ | refine we_idx ?_ | refine asV_d ?_ | refine we_call ?_ | refine we_bin ?_ | refine asOp_int ?_ | refine we_cmp ?_ | refine asCmp_mk rfl ?_ | refine wt_cmp ?_ | refine we_blt ?_ | refine asO_mk ?_ | refine asB_mk ?_ | refine asG_mk (Nat.le_of_ble_eq_true rfl) ?_ | refine asG_mk (by decide) ?_ | refine asG_mk rfl ?_ | refine wt_val ?_ | refine wt_not ?_ | refine asW_d ?_ | refine we_glo rfl ?_ | refine we_tup ?_ | refine we_lstF ?_ | refine we_lstT ?_ | refine we_isi ?_ | refine wt_isi ?_ | refine we_not ?_ | refine we_neg ?_ | refine asNeg_int ?_ | refine we_fmt ?_ | refine we_jn1 ?_ | refine we_jn ?_ | refine wj_cons ?_ | refine wj_nil ?_ | refine asSt_mk ?_ | refine asZ_mod (by decide) ?_ | refine asZ_mul (by omega) (by omega) (by decide) ?_ | refine asZ_mulS (by omega) (by omega) (by omega) (by omega) ?_ | refine asZ_div (by decide +kernel) ?_ | refine asZ_pow (by decide +kernel) ?_ | refine asR_mk ?_ | refine as1_mk ?_ | refine asT_mk ?_ | refine asS_l ?_ | refine asS_t ?_ | refine asS_k ?_ | refine asS_s ?_ | refine wi_seq ?_ | refine wi_rng1 ?_ | refine wi_rng2 ?_ | refine wi_enum ?_ | refine we_app ?_ | refine we_sl ?_ | refine wo_none ?_ | refine wo_some ?_ | refine we_rv ?_ | refine we_dicF ?_ | refine we_fld ?_ | refine asOp_tup (Nat.le_of_ble_eq_true rfl) ?_ | refine asOp_str (by decide +kernel) ?_ | (apply asV_r; assumption) | (apply asW_r; assumption) | (apply asC_mk; assumption) | refine ws_set ?_ | refine kq_nx ?_ | refine kq_rt ?_ | refine ws_ret ?_ | refine ws_nil ?_ | refine ws_ex ?_ | refine ws_unp ?_ | refine ws_pass ?_ | refine kq_bk ?_ | refine kq_ct ?_ | refine ws_ite ?_ | refine wt_bop ?_ | refine wt_bop1 ?_ | refine wt_chain ?_ | refine we_bop ?_ | refine we_bop1 ?_ | refine we_ife ?_ | refine we_chain ?_ | refine ws_par ?_ | refine ⟨fun _ => ?_, fun h => absurd (show (false : Bool) = true from h) Bool.false_ne_true⟩ | refine ⟨fun _ => ?_, fun h => absurd (show (true : Bool) = false from h).symm Bool.false_ne_true⟩ | refine ⟨fun h => absurd (show (true : Bool) = false from h).symm Bool.false_ne_true, fun _ => ?_⟩ | refine ⟨fun h => absurd (show (false : Bool) = true from h) Bool.false_ne_true, fun _ => ?_⟩ | refine ⟨fun _ => ?_, fun h => absurd (of_decide_eq_true h) (by omega)⟩ | refine ⟨fun h => absurd (of_decide_eq_true h) (by omega), fun _ => ?_⟩ | refine ⟨fun _ => ?_, fun h => absurd (by omega) (of_decide_eq_false h)⟩ | refine ⟨fun h => absurd (by omega) (of_decide_eq_false h), fun _ => ?_⟩ | refine ⟨fun _ => ?_, fun h => absurd h (by decide +kernel)⟩ | refine ⟨fun h => absurd h (by decide +kernel), fun _ => ?_⟩ | fail))
abbrev WW : Nat := 1000
abbrev C (n : Nat) : CallF := callD L.tab WW n
theorem t1 : L.tab.fns[1]? = some f1.code := rfl
theorem t2 : L.tab.fns[2]? = some f2.code := rfl
theorem t3 : L.tab.fns[3]? = some ⟨1, 2, bStore⟩ := rfl
theorem t4 : L.tab.fns[4]? = some ⟨2, 5, bTake⟩ := rfl
theorem t5 : L.tab.fns[5]? = some ⟨3, 3, bBetween 4⟩ := rfl
theorem t6 : L.tab.fns[6]? = some ⟨2, 2, bPick 4⟩ := rfl
theorem t7 : L.tab.fns[7]? = some ⟨3, 4, bEdge 4 5⟩ := rfl
theorem t8 : L.tab.fns[8]? = some f8.code := rfl
theorem t9 : L.tab.fns[9]? = some ⟨2, 3, bSame 9⟩ := rfl
theorem t10 : L.tab.fns[10]? = some f10.code := rfl
theorem t11 : L.tab.fns[11]? = some f11.code := rfl
theorem t12 : L.tab.fns[12]? = some f12.code := rfl
theorem t13 : L.tab.fns[13]? = some f13.code := rfl
theorem t14 : L.tab.fns[14]? = some f14.code := rfl
theorem t15 : L.tab.fns[15]? = some f15.code := rfl
theorem t16 : L.tab.fns[16]? = some f16.code := rfl
theorem t17 : L.tab.fns[17]? = some f17.code := rfl
theorem t18 : L.tab.fns[18]? = some f18.code := rfl
theorem t20 : L.tab.fns[20]? = some f20.code := rfl
theorem t21 : L.tab.fns[21]? = some f21.code := rfl
theorem t22 : L.tab.fns[22]? = some f22.code := rfl
theorem t23 : L.tab.fns[23]? = some f23.code := rfl
theorem t24 : L.tab.fns[24]? = some f24.code := rfl
theorem t25 : L.tab.fns[25]? = some f25.code := rfl
theorem t26 : L.tab.fns[26]? = some f26.code := rfl
theorem t27 : L.tab.fns[27]? = some f27.code := rfl
theorem t28 : L.tab.fns[28]? = some f28.code := rfl
theorem t29 : L.tab.fns[29]? = some f29.code := rfl
section
variable {n : Nat} {μ : Mu} {k : Nat} {cs : List Int} {N : Int} {K : X → Mu → Prop}
theorem mod_nat (a b : Nat) : ((a : Int) % (b : Int)) = ((a % b : Nat) : Int) := by first | rfl | simp
/-- the state of Euclid's walk -/
def Eu (G t a b : Nat) : Prop := Nat.gcd a b = G ∧ ((b ≤ a ∧ a * b < 2 ^ t) ∨ (a < b ∧ 0 < t ∧ a * b < 2 ^ (t - 1)))
theorem Eu.step {G t a b : Nat} (h : Eu G t a b) (h0 : 0 < b) : t - 1 < t ∧ Eu G (t - 1) b (a % b) := by
  obtain ⟨h1, h2⟩ := h
  have e : Nat.gcd b (a % b) = G := by rw [← h1, Nat.gcd_comm b, Nat.gcd_comm a b, Nat.gcd_rec b a]
  have hr : a % b < b := Nat.mod_lt _ h0
  rcases h2 with ⟨h2, h3⟩ | ⟨h2, h3, h4⟩
  · obtain ⟨g1, g2⟩ := euclid_half h0 h2 h3
    exact ⟨by omega, e, .inl ⟨by omega, g2⟩⟩
  · refine ⟨by omega, e, .inl ⟨by omega, ?_⟩⟩
    rw [Nat.mod_eq_of_lt h2, Nat.mul_comm]
    exact h4
theorem Eu.start {a b : Nat} (ha : a < 2 ^ 440) (hb : b < 2 ^ 440) : Eu (Nat.gcd a b) 900 a b := by
  have h : a * b < 2 ^ 880 := by
    have : a * b ≤ 2 ^ 440 * 2 ^ 440 := Nat.mul_le_mul (Nat.le_of_lt ha) (Nat.le_of_lt hb)
    by_cases z : a * b = 2 ^ 440 * 2 ^ 440
    · have : a * b < 2 ^ 440 * 2 ^ 440 := Nat.mul_lt_mul'' ha hb
      omega
    · have e : (2 : Nat) ^ 880 = 2 ^ 440 * 2 ^ 440 := by rw [← Nat.pow_add]
      omega
  have h1 : (2 : Nat) ^ 880 ≤ 2 ^ 899 := Nat.pow_le_pow_right (by decide) (by decide)
  have h2 : (2 : Nat) ^ 899 ≤ 2 ^ 900 := Nat.pow_le_pow_right (by decide) (by decide)
  refine ⟨rfl, ?_⟩
  by_cases z : b ≤ a
  · exact .inl ⟨z, by omega⟩
  · exact .inr ⟨by omega, by decide, by show a * b < 2 ^ 899; omega⟩
theorem gcd_wc {l s : Nat} (hl : l < 2 ^ 440) (hs : s < 2 ^ 440) (h : K (.d (.int (Nat.gcd l s : Nat))) μ) : WC1 (C (n + 1)) 10 [.d (.int (l : Int)), .d (.int (s : Int))] μ K := by
  refine wc_of t10 rfl ?_
  show WS _ b10 [some (.d (.int (l : Int))), some (.d (.int (s : Int))), none] μ _
  unfold b10
  refine ws_whl ?_
  refine while_inv (Q := Kq _ _ _) (fun t ρ μ' => ∃ (a b : Nat) (z : Option X), (∀ j, z ≠ some (.r j)) ∧ ρ = [some (.d (.int (a : Int))), some (.d (.int (b : Int))), z] ∧ μ' = μ ∧ Eu (Nat.gcd l s) t a b) ?_ 1000 900 _ _ (by decide) ⟨l, s, none, by simp, rfl, rfl, Eu.start hl hs⟩
  rintro t ρ μ1 ⟨a, b, z, hz, rfl, rfl, eu⟩
  refine wt_cmp (we_var rfl (we_con (asCmp_mk rfl (asZ_mk ⟨fun hc => ?_, fun hc => ?_⟩))))
  · have hc : ¬ (0 : Int) < (b : Int) := of_decide_eq_false hc
    have hb : b = 0 := by omega
    subst hb
    have e := eu.1
    rw [Nat.gcd_zero_right] at e
    rw [← e] at h
    refine kq_nx ?_
    walk_at "g"
    exact fq_d rfl h
  · have hc : (0 : Int) < (b : Int) := of_decide_eq_true hc
    walk_at "g"
    refine asZ_of (bin_mod hc) ?_
    walk_at "g"
    obtain ⟨g1, g2⟩ := eu.step (by omega)
    refine ⟨t - 1, g1, ?_⟩
    rw [tidy_env rfl (fun j hj => by simp at hj)]
    refine ⟨b, a % b, some (.d (.int ((a : Int) % (b : Int)))), by simp, ?_, rfl, g2⟩
    rw [mod_nat]
    rfl
theorem abs_nat (i : Int) : (if i < 0 then -i else i) = (i.natAbs : Int) := by split <;> omega
theorem measure_wc {l s : Int} (hl : l.natAbs < 2 ^ 440) (hs : s.natAbs < 2 ^ 440) (h : K (.d (.int (Nat.gcd l.natAbs s.natAbs : Nat))) μ) : WC1 (C (n + 1)) 2 [.d (.int l), .d (.int s)] μ K := by
  refine wc_of t2 rfl ?_
  show WS _ b2 [some (.d (.int l)), some (.d (.int s)), none, none] μ _
  unfold b2
  walk_at "g"
  rw [abs_nat, abs_nat]
  refine ws_whl ?_
  refine while_inv (Q := Kq _ _ _) (fun t ρ μ' => ∃ (a b : Nat), ρ = [some (.d (.int l)), some (.d (.int s)), some (.d (.int (a : Int))), some (.d (.int (b : Int)))] ∧ μ' = μ ∧ Eu (Nat.gcd l.natAbs s.natAbs) t a b) ?_ 1000 900 _ _ (by decide) ⟨_, _, rfl, rfl, Eu.start hl hs⟩
  rintro t ρ μ1 ⟨a, b, rfl, rfl, eu⟩
  refine wt_cmp (we_var rfl (we_con (asCmp_mk rfl (asZ_mk ⟨fun hc => ?_, fun hc => ?_⟩))))
  · have hc : (!decide ((b : Int) = 0)) = false := hc
    have hb : b = 0 := by
      by_cases z : (b : Int) = 0
      · omega
      · rw [decide_eq_false z] at hc
        cases hc
    subst hb
    have e := eu.1
    rw [Nat.gcd_zero_right] at e
    rw [← e] at h
    refine kq_nx ?_
    walk_at "g"
    exact fq_d rfl h
  · have hc : (!decide ((b : Int) = 0)) = true := hc
    have hb : 0 < b := by
      by_cases z : (b : Int) = 0
      · rw [decide_eq_true z] at hc
        cases hc
      · omega
    walk_at "g"
    refine asZ_of (bin_mod (by omega)) ?_
    walk_at "g"
    obtain ⟨g1, g2⟩ := eu.step hb
    refine ⟨t - 1, g1, ?_⟩
    rw [tidy_env rfl (fun j hj => by simp at hj)]
    refine ⟨b, a % b, ?_, rfl, g2⟩
    rw [← mod_nat]
    rfl
end
end K01

namespace K01
open PySem L2 DL
/- one step; what has one way only; a step with the choices -/
local macro_rules | `(tactic| walk_at "1s") => `(tactic| first | refine we_var rfl ?_ | refine we_con ?_ | refine wa_cons ?_ | refine wa_nil ?_ | refine asI_mk ?_ | refine asZ_mk ?_ | refine asD_mk ?_ | refine we_idx ?_ | refine asV_d ?_ | refine we_call ?_ | refine we_bin ?_ | refine asOp_int ?_ | refine we_cmp ?_ | refine asCmp_mk rfl ?_ | refine wt_cmp ?_ | refine we_blt ?_ | refine asO_mk ?_ | refine asB_mk ?_ | refine asG_mk (Nat.le_of_ble_eq_true rfl) ?_ | refine asG_mk (by decide) ?_ | refine asG_mk rfl ?_ | refine wt_val ?_ | refine wt_not ?_ | refine asW_d ?_ | refine we_glo rfl ?_ | refine we_tup ?_ | refine we_lstF ?_ | refine we_lstT ?_ | refine we_isi ?_ | refine wt_isi ?_ | refine we_not ?_ | refine we_neg ?_ | refine asNeg_int ?_ | refine we_fmt ?_ | refine we_jn1 ?_ | refine we_jn ?_ | refine wj_cons ?_ | refine wj_nil ?_ | refine asSt_mk ?_ | refine asZ_mod (by decide) ?_ | refine asZ_mul (by omega) (by omega) (by decide) ?_ | refine asZ_mulS (by omega) (by omega) (by omega) (by omega) ?_ | refine asZ_div (by decide +kernel) ?_ | refine asZ_pow (by decide +kernel) ?_ | refine asR_mk ?_ | refine as1_mk ?_ | refine asT_mk ?_ | refine asS_l ?_ | refine asS_t ?_ | refine asS_k ?_ | refine asS_s ?_ | refine wi_seq ?_ | refine wi_rng1 ?_ | refine wi_rng2 ?_ | refine wi_enum ?_ | refine we_app ?_ | refine we_sl ?_ | refine wo_none ?_ | refine wo_some ?_ | refine we_rv ?_ | refine we_dicF ?_ | refine we_fld ?_ | refine asOp_tup (Nat.le_of_ble_eq_true rfl) ?_ | refine asOp_str (by decide +kernel) ?_ | (apply asV_r; assumption) | (apply asW_r; assumption) | (apply asC_mk; assumption) | refine ws_set ?_ | refine kq_nx ?_ | refine kq_rt ?_ | refine ws_ret ?_ | refine ws_nil ?_ | refine ws_ex ?_ | refine ws_unp ?_ | refine ws_pass ?_ | refine kq_bk ?_ | refine kq_ct ?_ | fail)
local macro_rules | `(tactic| walk_at "1c") => `(tactic| first | refine ws_ite ?_ | refine wt_bop ?_ | refine wt_bop1 ?_ | refine wt_chain ?_ | refine we_bop ?_ | refine we_bop1 ?_ | refine we_ife ?_ | refine we_chain ?_ | refine ws_par ?_ | refine ⟨fun _ => ?_, fun h => absurd (show (false : Bool) = true from h) Bool.false_ne_true⟩ | refine ⟨fun _ => ?_, fun h => absurd (show (true : Bool) = false from h).symm Bool.false_ne_true⟩ | refine ⟨fun h => absurd (show (true : Bool) = false from h).symm Bool.false_ne_true, fun _ => ?_⟩ | refine ⟨fun h => absurd (show (false : Bool) = true from h) Bool.false_ne_true, fun _ => ?_⟩ | fail)
local macro_rules | `(tactic| walk_at "x") => `(tactic| repeat (first | refine we_var rfl ?_ | refine we_con ?_ | refine wa_cons ?_ | refine wa_nil ?_ | refine asI_mk ?_ | refine asZ_mk ?_ | refine asD_mk ?_ | refine we_idx ?_ | refine asV_d ?_ | refine we_call ?_ | refine we_bin ?_ | refine asOp_int ?_ | refine we_cmp ?_ | refine asCmp_mk rfl ?_ | refine wt_cmp ?_ | refine we_blt ?_ | refine asO_mk ?_ | refine asB_mk ?_ | refine asG_mk (Nat.le_of_ble_eq_true rfl) ?_ | refine asG_mk (by decide) ?_ | refine asG_mk rfl ?_ | refine wt_val ?_ | refine wt_not ?_ | refine asW_d ?_ | refine we_glo rfl ?_ | refine we_tup ?_ | refine we_lstF ?_ | refine we_lstT ?_ | refine we_isi ?_ | refine wt_isi ?_ | refine we_not ?_ | refine we_neg ?_ | refine asNeg_int ?_ | refine we_fmt ?_ | refine we_jn1 ?_ | refine we_jn ?_ | refine wj_cons ?_ | refine wj_nil ?_ | refine asSt_mk ?_ | refine asZ_mod (by decide) ?_ | refine asZ_mul (by omega) (by omega) (by decide) ?_ | refine asZ_mulS (by omega) (by omega) (by omega) (by omega) ?_ | refine asZ_div (by decide +kernel) ?_ | refine asZ_pow (by decide +kernel) ?_ | refine asR_mk ?_ | refine as1_mk ?_ | refine asT_mk ?_ | refine asS_l ?_ | refine asS_t ?_ | refine asS_k ?_ | refine asS_s ?_ | refine wi_seq ?_ | refine wi_rng1 ?_ | refine wi_rng2 ?_ | refine wi_enum ?_ | refine we_app ?_ | refine we_sl ?_ | refine wo_none ?_ | refine wo_some ?_ | refine we_rv ?_ | refine we_dicF ?_ | refine we_fld ?_ | refine asOp_tup (Nat.le_of_ble_eq_true rfl) ?_ | refine asOp_str (by decide +kernel) ?_ | (apply asV_r; assumption) | (apply asW_r; assumption) | (apply asC_mk; assumption) | fail))
local macro_rules | `(tactic| walk_at "s") => `(tactic| repeat (first | refine we_var rfl ?_ | refine we_con ?_ | refine wa_cons ?_ | refine wa_nil ?_ | refine asI_mk ?_ | refine asZ_mk ?_ | refine asD_mk ?_ | refine we_idx ?_ | refine asV_d ?_ | refine we_call ?_ | refine we_bin ?_ | refine asOp_int ?_ | refine we_cmp ?_ | refine asCmp_mk rfl ?_ | refine wt_cmp ?_ | refine we_blt ?_ | refine asO_mk ?_ | refine asB_mk ?_ | refine asG_mk (Nat.le_of_ble_eq_true rfl) ?_ | refine asG_mk (by decide) ?_ | refine asG_mk rfl ?_ | refine wt_val ?_ | refine wt_not ?_ | refine asW_d ?_ | refine we_glo rfl ?_ | refine we_tup ?_ | refine we_lstF ?_ | refine we_lstT ?_ | refine we_isi ?_ | refine wt_isi ?_ | refine we_not ?_ | refine we_neg ?_ | refine asNeg_int ?_ | refine we_fmt ?_ | refine we_jn1 ?_ | refine we_jn ?_ | refine wj_cons ?_ | refine wj_nil ?_ | refine asSt_mk ?_ | refine asZ_mod (by decide) ?_ | refine asZ_mul (by omega) (by omega) (by decide) ?_ | refine asZ_mulS (by omega) (by omega) (by omega) (by omega) ?_ | refine asZ_div (by decide +kernel) ?_ | refine asZ_pow (by decide +kernel) ?_ | refine asR_mk ?_ | refine as1_mk ?_ | refine asT_mk ?_ | refine asS_l ?_ | refine asS_t ?_ | refine asS_k ?_ | refine asS_s ?_ | refine wi_seq ?_ | refine wi_rng1 ?_ | refine wi_rng2 ?_ | refine wi_enum ?_ | refine we_app ?_ | refine we_sl ?_ | refine wo_none ?_ | refine wo_some ?_ | refine we_rv ?_ | refine we_dicF ?_ | refine we_fld ?_ | refine asOp_tup (Nat.le_of_ble_eq_true rfl) ?_ | refine asOp_str (by decide +kernel) ?_ | (apply asV_r; assumption) | (apply asW_r; assumption) | (apply asC_mk; assumption) | refine ws_set ?_ | refine kq_nx ?_ | refine kq_rt ?_ | refine ws_ret ?_ | refine ws_nil ?_ | refine ws_ex ?_ | refine ws_unp ?_ | refine ws_pass ?_ | refine kq_bk ?_ | refine kq_ct ?_ | fail))
local macro_rules | `(tactic| walk_at "g") => `(tactic| repeat (first | refine we_var rfl ?_ | refine we_con ?_ | refine wa_cons ?_ | refine wa_nil ?_ | refine asI_mk ?_ | refine asZ_mk ?_ | refine asD_mk ?_ | refine we_idx ?_ | refine asV_d ?_ | refine we_call ?_ | refine we_bin ?_ | refine asOp_int ?_ | refine we_cmp ?_ | refine asCmp_mk rfl ?_ | refine wt_cmp ?_ | refine we_blt ?_ | refine asO_mk ?_ | refine asB_mk ?_ | refine asG_mk (Nat.le_of_ble_eq_true rfl) ?_ | refine asG_mk (by decide) ?_ | refine asG_mk rfl ?_ | refine wt_val ?_ | refine wt_not ?_ | refine asW_d ?_ | refine we_glo rfl ?_ | refine we_tup ?_ | refine we_lstF ?_ | refine we_lstT ?_ | refine we_isi ?_ | refine wt_isi ?_ | refine we_not ?_ | refine we_neg ?_ | refine asNeg_int ?_ | refine we_fmt ?_ | refine we_jn1 ?_ | refine we_jn ?_ | refine wj_cons ?_ | refine wj_nil ?_ | refine asSt_mk ?_ | refine asZ_mod (by decide) ?_ | refine asZ_mul (by omega) (by omega) (by decide) ?_ | refine asZ_mulS (by omega) (by omega) (by omega) (by omega) ?_ | refine asZ_div (by decide +kernel) ?_ | refine asZ_pow (by decide +kernel) ?_ | refine asR_mk ?_ | refine as1_mk ?_ | refine asT_mk ?_ | refine asS_l ?_ | refine asS_t ?_ | refine asS_k ?_ | refine asS_s ?_ | refine wi_seq ?_ | refine wi_rng1 ?_ | refine wi_rng2 ?_ | refine wi_enum ?_ | refine we_app ?_ | refine we_sl ?_ | refine wo_none ?_ | refine wo_some ?_ | refine we_rv ?_ | refine we_dicF ?_ | refine we_fld ?_ | refine asOp_tup (Nat.le_of_ble_eq_true rfl) ?_ | refine asOp_str (by decide +kernel) ?_ | (apply asV_r; assumption) | (apply asW_r; assumption) | (apply asC_mk; assumption) | refine ws_set ?_ | refine kq_nx ?_ | refine kq_rt ?_ | refine ws_ret ?_ | refine ws_nil ?_ | refine ws_ex ?_ | refine ws_unp ?_ | refine ws_pass ?_ | refine kq_bk ?_ | refine kq_ct ?_ | refine ws_ite ?_ | refine wt_bop ?_ | refine wt_bop1 ?_ | refine wt_chain ?_ | refine we_bop ?_ | refine we_bop1 ?_ | refine we_ife ?_ | refine we_chain ?_ | refine ws_par ?_ | refine ⟨fun _ => ?_, fun h => absurd (show (false : Bool) = true from h) Bool.false_ne_true⟩ | refine ⟨fun _ => ?_, fun h => absurd (show (true : Bool) = false from h).symm Bool.false_ne_true⟩ | refine ⟨fun h => absurd (show (true : Bool) = false from h).symm Bool.false_ne_true, fun _ => ?_⟩ | refine ⟨fun h => absurd (show (false : Bool) = true from h) Bool.false_ne_true, fun _ => ?_⟩ | refine ⟨fun _ => ?_, fun h => absurd (of_decide_eq_true h) (by omega)⟩ | refine ⟨fun h => absurd (of_decide_eq_true h) (by omega), fun _ => ?_⟩ | refine ⟨fun _ => ?_, fun h => absurd (by omega) (of_decide_eq_false h)⟩ | refine ⟨fun h => absurd (by omega) (of_decide_eq_false h), fun _ => ?_⟩ | refine ⟨fun _ => ?_, fun h => absurd h (by decide +kernel)⟩ | refine ⟨fun h => absurd h (by decide +kernel), fun _ => ?_⟩ | fail))
section
variable {n : Nat} {μ : Mu} {k : Nat} {cs : List Int} {N : Int} {K : X → Mu → Prop}
/-- the quotient by the measure with the bottom's sign -/
theorem quot_pos {t w k : Int} (hw : 0 < w) (hl : w.natAbs < 2 ^ 440) (e : t = w * k) : binI .fdiv t w = some k := by
  rw [bin_div (divOk_of (b := 440) hw hl (by decide)), e, Int.mul_ediv_cancel_left k (by omega)]
theorem quot_neg {t w k : Int} (hw : w < 0) (hl : w.natAbs < 2 ^ 440) (e : t = w * k) : binI .fdiv t w = some k := by
  rw [bin_divN hw (divNeg_of (b := 440) hw hl (by decide)), e, Int.mul_fdiv_cancel_left k (by omega)]
theorem gcd_lt {t b : Nat} (h : 0 < b) (hb : b < 2 ^ 440) : 0 < Nat.gcd t b ∧ Nat.gcd t b < 2 ^ 440 :=
  ⟨Nat.gcd_pos_of_pos_right _ h, Nat.lt_of_le_of_lt (Nat.le_of_dvd h (Nat.gcd_dvd_right _ _)) hb⟩
theorem lowest_wc {t b : Int} (ht : t.natAbs < 2 ^ 440) (hb : b.natAbs < 2 ^ 440) (h0 : b ≠ 0) (h : ∀ p q, Low p q t b → K (.d (.tup [.int p, .int q])) μ) : WC1 (C (n + 2)) 11 [.d (.int t), .d (.int b)] μ K := by
  refine wc_of t11 rfl ?_
  show WS _ b11 [some (.d (.int t)), some (.d (.int b)), none] μ _
  unfold b11
  walk_at "g"
  rw [abs_nat, abs_nat]
  refine gcd_wc (n := n) ht hb ?_
  obtain ⟨g1, g2⟩ := gcd_lt (t := t.natAbs) (b := b.natAbs) (by omega) hb
  by_cases hn : b < 0
  · walk_at "g"
    obtain ⟨k, j, hk, hj, hlow⟩ := low_of (t := t) (w := 0 - (Nat.gcd t.natAbs b.natAbs : Nat)) h0 (by omega) ⟨by omega, by omega⟩
    refine asZ_of (quot_neg (by omega) (by omega) hk) ?_
    walk_at "g"
    refine asZ_of (quot_neg (by omega) (by omega) hj) ?_
    walk_at "g"
    exact fq_d rfl (h _ _ hlow)
  · walk_at "g"
    obtain ⟨k, j, hk, hj, hlow⟩ := low_of (t := t) (w := (Nat.gcd t.natAbs b.natAbs : Nat)) h0 (by omega) ⟨by omega, by omega⟩
    refine asZ_of (quot_pos (by omega) (by omega) hk) ?_
    walk_at "g"
    refine asZ_of (quot_pos (by omega) (by omega) hj) ?_
    walk_at "g"
    exact fq_d rfl (h _ _ hlow)
theorem whole_wc {i : Int} (h : K (.d (.bl true)) μ) : WC1 (C (n + 1)) 1 [.d (.int i)] μ K := by
  refine wc_of t1 rfl ?_
  show WS _ b1 [some (.d (.int i))] μ _
  unfold b1
  walk_at "g"
  exact fq_d rfl h
abbrev exD (p q : Int) : D := .ins 0 [("top", .int p), ("bottom", .int q)]
theorem init_wc {c : Nat} {t b : Int} (hc : μ[c]? = some (some (.ins 0 []))) (ht : t.natAbs < 2 ^ 440) (hb : b.natAbs < 2 ^ 440) (h0 : b ≠ 0) (h : ∀ p q, Low p q t b → K (.d .non) (μ.set c (some (.ins 0 [("top", .d (.int p)), ("bottom", .d (.int q))])))) : WC1 (C (n + 2)) 20 [.r c, .d (.int t), .d (.int b)] μ K := by
  refine wc_of t20 rfl ?_
  show WS _ b20 [some (.r c), some (.d (.int t)), some (.d (.int b)), none] μ _
  unfold b20
  walk_at "g"
  refine whole_wc (n := n) ?_
  walk_at "g"
  refine whole_wc (n := n) ?_
  walk_at "g"
  refine measure_wc (n := n) ht hb ?_
  obtain ⟨g1, g2⟩ := gcd_lt (t := t.natAbs) (b := b.natAbs) (by omega) hb
  by_cases hn : b < 0
  · walk_at "g"
    obtain ⟨k, j, hk, hj, hlow⟩ := low_of (t := t) (w := -(Nat.gcd t.natAbs b.natAbs : Nat)) h0 (by omega) ⟨by omega, by omega⟩
    refine ws_setF ?_
    walk_at "g"
    refine asZ_of (quot_neg (by omega) (by omega) hk) ?_
    walk_at "g"
    refine ⟨_, _, hc, rfl, Nat.le_of_ble_eq_true rfl, ?_⟩
    refine ws_setF ?_
    walk_at "g"
    refine asZ_of (quot_neg (by omega) (by omega) hj) ?_
    walk_at "g"
    refine ⟨_, _, put_cell hc, rfl, Nat.le_of_ble_eq_true rfl, ?_⟩
    walk_at "g"
    refine fq_nx (by simp) ?_
    have := h _ _ hlow
    rw [List.set_set]
    exact this
  · walk_at "g"
    obtain ⟨k, j, hk, hj, hlow⟩ := low_of (t := t) (w := (Nat.gcd t.natAbs b.natAbs : Nat)) h0 (by omega) ⟨by omega, by omega⟩
    refine ws_setF ?_
    walk_at "g"
    refine asZ_of (quot_pos (by omega) (by omega) hk) ?_
    walk_at "g"
    refine ⟨_, _, hc, rfl, Nat.le_of_ble_eq_true rfl, ?_⟩
    refine ws_setF ?_
    walk_at "g"
    refine asZ_of (quot_pos (by omega) (by omega) hj) ?_
    walk_at "g"
    refine ⟨_, _, put_cell hc, rfl, Nat.le_of_ble_eq_true rfl, ?_⟩
    walk_at "g"
    refine fq_nx (by simp) ?_
    have := h _ _ hlow
    rw [List.set_set]
    exact this
end
end K01

namespace K01
open PySem L2 DL
/- one step; what has one way only; a step with the choices -/
local macro_rules | `(tactic| walk_at "1s") => `(tactic| first | refine we_var rfl ?_ | refine we_con ?_ | refine wa_cons ?_ | refine wa_nil ?_ | refine asI_mk ?_ | refine asZ_mk ?_ | refine asD_mk ?_ | refine we_idx ?_ | refine asV_d ?_ | refine we_call ?_ | refine we_bin ?_ | refine asOp_int ?_ | refine we_cmp ?_ | refine asCmp_mk rfl ?_ | refine wt_cmp ?_ | refine we_blt ?_ | refine asO_mk ?_ | refine asB_mk ?_ | refine asG_mk (Nat.le_of_ble_eq_true rfl) ?_ | refine asG_mk (by decide) ?_ | refine asG_mk rfl ?_ | refine wt_val ?_ | refine wt_not ?_ | refine asW_d ?_ | refine we_glo rfl ?_ | refine we_tup ?_ | refine we_lstF ?_ | refine we_lstT ?_ | refine we_isi ?_ | refine wt_isi ?_ | refine we_not ?_ | refine we_neg ?_ | refine asNeg_int ?_ | refine we_fmt ?_ | refine we_jn1 ?_ | refine we_jn ?_ | refine wj_cons ?_ | refine wj_nil ?_ | refine asSt_mk ?_ | refine asZ_mod (by decide) ?_ | refine asZ_mul (by omega) (by omega) (by decide) ?_ | refine asZ_mulS (by omega) (by omega) (by omega) (by omega) ?_ | refine asZ_div (by decide +kernel) ?_ | refine asZ_pow (by decide +kernel) ?_ | refine asR_mk ?_ | refine as1_mk ?_ | refine asT_mk ?_ | refine asS_l ?_ | refine asS_t ?_ | refine asS_k ?_ | refine asS_s ?_ | refine wi_seq ?_ | refine wi_rng1 ?_ | refine wi_rng2 ?_ | refine wi_enum ?_ | refine we_app ?_ | refine we_sl ?_ | refine wo_none ?_ | refine wo_some ?_ | refine we_rv ?_ | refine we_dicF ?_ | refine we_fld ?_ | refine asOp_tup (Nat.le_of_ble_eq_true rfl) ?_ | refine asOp_str (by decide +kernel) ?_ | (apply asV_r; assumption) | (apply asW_r; assumption) | (apply asC_mk; assumption) | refine ws_set ?_ | refine kq_nx ?_ | refine kq_rt ?_ | refine ws_ret ?_ | refine ws_nil ?_ | refine ws_ex ?_ | refine ws_unp ?_ | refine ws_pass ?_ | refine kq_bk ?_ | refine kq_ct ?_ | fail)
local macro_rules | `(tactic| walk_at "1c") => `(tactic| first | refine ws_ite ?_ | refine wt_bop ?_ | refine wt_bop1 ?_ | refine wt_chain ?_ | refine we_bop ?_ | refine we_bop1 ?_ | refine we_ife ?_ | refine we_chain ?_ | refine ws_par ?_ | refine ⟨fun _ => ?_, fun h => absurd (show (false : Bool) = true from h) Bool.false_ne_true⟩ | refine ⟨fun _ => ?_, fun h => absurd (show (true : Bool) = false from h).symm Bool.false_ne_true⟩ | refine ⟨fun h => absurd (show (true : Bool) = false from h).symm Bool.false_ne_true, fun _ => ?_⟩ | refine ⟨fun h => absurd (show (false : Bool) = true from h) Bool.false_ne_true, fun _ => ?_⟩ | fail)
local macro_rules | `(tactic| walk_at "x") => `(tactic| repeat (first | refine we_var rfl ?_ | refine we_con ?_ | refine wa_cons ?_ | refine wa_nil ?_ | refine asI_mk ?_ | refine asZ_mk ?_ | refine asD_mk ?_ | refine we_idx ?_ | refine asV_d ?_ | refine we_call ?_ | refine we_bin ?_ | refine asOp_int ?_ | refine we_cmp ?_ | refine asCmp_mk rfl ?_ | refine wt_cmp ?_ | refine we_blt ?_ | refine asO_mk ?_ | refine asB_mk ?_ | refine asG_mk (Nat.le_of_ble_eq_true rfl) ?_ | refine asG_mk (by decide) ?_ | refine asG_mk rfl ?_ | refine wt_val ?_ | refine wt_not ?_ | refine asW_d ?_ | refine we_glo rfl ?_ | refine we_tup ?_ | refine we_lstF ?_ | refine we_lstT ?_ | refine we_isi ?_ | refine wt_isi ?_ | refine we_not ?_ | refine we_neg ?_ | refine asNeg_int ?_ | refine we_fmt ?_ | refine we_jn1 ?_ | refine we_jn ?_ | refine wj_cons ?_ | refine wj_nil ?_ | refine asSt_mk ?_ | refine asZ_mod (by decide) ?_ | refine asZ_mul (by omega) (by omega) (by decide) ?_ | refine asZ_mulS (by omega) (by omega) (by omega) (by omega) ?_ | refine asZ_div (by decide +kernel) ?_ | refine asZ_pow (by decide +kernel) ?_ | refine asR_mk ?_ | refine as1_mk ?_ | refine asT_mk ?_ | refine asS_l ?_ | refine asS_t ?_ | refine asS_k ?_ | refine asS_s ?_ | refine wi_seq ?_ | refine wi_rng1 ?_ | refine wi_rng2 ?_ | refine wi_enum ?_ | refine we_app ?_ | refine we_sl ?_ | refine wo_none ?_ | refine wo_some ?_ | refine we_rv ?_ | refine we_dicF ?_ | refine we_fld ?_ | refine asOp_tup (Nat.le_of_ble_eq_true rfl) ?_ | refine asOp_str (by decide +kernel) ?_ | (apply asV_r; assumption) | (apply asW_r; assumption) | (apply asC_mk; assumption) | fail))
local macro_rules | `(tactic| walk_at "s") => `(tactic| repeat (first | refine we_var rfl ?_ | refine we_con ?_ | refine wa_cons ?_ | refine wa_nil ?_ | refine asI_mk ?_ | refine asZ_mk ?_ | refine asD_mk ?_ | refine we_idx ?_ | refine asV_d ?_ | refine we_call ?_ | refine we_bin ?_ | refine asOp_int ?_ | refine we_cmp ?_ | refine asCmp_mk rfl ?_ | refine wt_cmp ?_ | refine we_blt ?_ | refine asO_mk ?_ | refine asB_mk ?_ | refine asG_mk (Nat.le_of_ble_eq_true rfl) ?_ | refine asG_mk (by decide) ?_ | refine asG_mk rfl ?_ | refine wt_val ?_ | refine wt_not ?_ | refine asW_d ?_ | refine we_glo rfl ?_ | refine we_tup ?_ | refine we_lstF ?_ | refine we_lstT ?_ | refine we_isi ?_ | refine wt_isi ?_ | refine we_not ?_ | refine we_neg ?_ | refine asNeg_int ?_ | refine we_fmt ?_ | refine we_jn1 ?_ | refine we_jn ?_ | refine wj_cons ?_ | refine wj_nil ?_ | refine asSt_mk ?_ | refine asZ_mod (by decide) ?_ | refine asZ_mul (by omega) (by omega) (by decide) ?_ | refine asZ_mulS (by omega) (by omega) (by omega) (by omega) ?_ | refine asZ_div (by decide +kernel) ?_ | refine asZ_pow (by decide +kernel) ?_ | refine asR_mk ?_ | refine as1_mk ?_ | refine asT_mk ?_ | refine asS_l ?_ | refine asS_t ?_ | refine asS_k ?_ | refine asS_s ?_ | refine wi_seq ?_ | refine wi_rng1 ?_ | refine wi_rng2 ?_ | refine wi_enum ?_ | refine we_app ?_ | refine we_sl ?_ | refine wo_none ?_ | refine wo_some ?_ | refine we_rv ?_ | refine we_dicF ?_ | refine we_fld ?_ | refine asOp_tup (Nat.le_of_ble_eq_true rfl) ?_ | refine asOp_str (by decide +kernel) ?_ | (apply asV_r; assumption) | (apply asW_r; assumption) | (apply asC_mk; assumption) | refine ws_set ?_ | refine kq_nx ?_ | refine kq_rt ?_ | refine ws_ret ?_ | refine ws_nil ?_ | refine ws_ex ?_ | refine ws_unp ?_ | refine ws_pass ?_ | refine kq_bk ?_ | refine kq_ct ?_ | fail))
local macro_rules | `(tactic| walk_at "g") => `(tactic| repeat (first | refine we_var rfl ?_ | refine we_con ?_ | refine wa_cons ?_ | refine wa_nil ?_ | refine asI_mk ?_ | refine asZ_mk ?_ | refine asD_mk ?_ | refine we_idx ?_ | refine asV_d ?_ | refine we_call ?_ | refine we_bin ?_ | refine asOp_int ?_ | refine we_cmp ?_ | refine asCmp_mk rfl ?_ | refine wt_cmp ?_ | refine we_blt ?_ | refine asO_mk ?_ | refine asB_mk ?_ | refine asG_mk (Nat.le_of_ble_eq_true rfl) ?_ | refine asG_mk (by decide) ?_ | refine asG_mk rfl ?_ | refine wt_val ?_ | refine wt_not ?_ | refine asW_d ?_ | refine we_glo rfl ?_ | refine we_tup ?_ | refine we_lstF ?_ | refine we_lstT ?_ | refine we_isi ?_ | refine wt_isi ?_ | refine we_not ?_ | refine we_neg ?_ | refine asNeg_int ?_ | refine we_fmt ?_ | refine we_jn1 ?_ | refine we_jn ?_ | refine wj_cons ?_ | refine wj_nil ?_ | refine asSt_mk ?_ | refine asZ_mod (by decide) ?_ | refine asZ_mul (by omega) (by omega) (by decide) ?_ | refine asZ_mulS (by omega) (by omega) (by omega) (by omega) ?_ | refine asZ_div (by decide +kernel) ?_ | refine asZ_pow (by decide +kernel) ?_ | refine asR_mk ?_ | refine as1_mk ?_ | refine asT_mk ?_ | refine asS_l ?_ | refine asS_t ?_ | refine asS_k ?_ | refine asS_s ?_ | refine wi_seq ?_ | refine wi_rng1 ?_ | refine wi_rng2 ?_ | refine wi_enum ?_ | refine we_app ?_ | refine we_sl ?_ | refine wo_none ?_ | refine wo_some ?_ | refine we_rv ?_ | refine we_dicF ?_ | refine we_fld ?_ | refine asOp_tup (Nat.le_of_ble_eq_true rfl) ?_ | refine asOp_str (by decide +kernel) ?_ | (apply asV_r; assumption) | (apply asW_r; assumption) | (apply asC_mk; assumption) | refine ws_set ?_ | refine kq_nx ?_ | refine kq_rt ?_ | refine ws_ret ?_ | refine ws_nil ?_ | refine ws_ex ?_ | refine ws_unp ?_ | refine ws_pass ?_ | refine kq_bk ?_ | refine kq_ct ?_ | refine ws_ite ?_ | refine wt_bop ?_ | refine wt_bop1 ?_ | refine wt_chain ?_ | refine we_bop ?_ | refine we_bop1 ?_ | refine we_ife ?_ | refine we_chain ?_ | refine ws_par ?_ | refine ⟨fun _ => ?_, fun h => absurd (show (false : Bool) = true from h) Bool.false_ne_true⟩ | refine ⟨fun _ => ?_, fun h => absurd (show (true : Bool) = false from h).symm Bool.false_ne_true⟩ | refine ⟨fun h => absurd (show (true : Bool) = false from h).symm Bool.false_ne_true, fun _ => ?_⟩ | refine ⟨fun h => absurd (show (false : Bool) = true from h) Bool.false_ne_true, fun _ => ?_⟩ | refine ⟨fun _ => ?_, fun h => absurd (of_decide_eq_true h) (by omega)⟩ | refine ⟨fun h => absurd (of_decide_eq_true h) (by omega), fun _ => ?_⟩ | refine ⟨fun _ => ?_, fun h => absurd (by omega) (of_decide_eq_false h)⟩ | refine ⟨fun h => absurd (by omega) (of_decide_eq_false h), fun _ => ?_⟩ | refine ⟨fun _ => ?_, fun h => absurd h (by decide +kernel)⟩ | refine ⟨fun h => absurd h (by decide +kernel), fun _ => ?_⟩ | fail))
section
variable {n : Nat} {μ : Mu} {k : Nat} {cs : List Int} {N : Int} {K : X → Mu → Prop}
/-- fewer than a bits -/
def Sz (a : Nat) (p : Int) : Prop := p.natAbs < 2 ^ a
theorem Sz.mul {a b : Nat} {p q : Int} (h : Sz a p) (g : Sz b q) : Sz (a + b) (p * q) := by
  unfold Sz at *
  rw [Int.natAbs_mul, Nat.pow_add]
  exact Nat.mul_lt_mul'' h g
theorem Sz.add {a : Nat} {p q : Int} (h : Sz a p) (g : Sz a q) : Sz (a + 1) (p + q) := by
  unfold Sz at *
  rw [Nat.pow_succ]
  have := Int.natAbs_add_le p q
  omega
theorem Sz.sub {a : Nat} {p q : Int} (h : Sz a p) (g : Sz a q) : Sz (a + 1) (p - q) := by
  unfold Sz at *
  rw [Nat.pow_succ]
  have := Int.natAbs_sub_le p q
  omega
theorem Sz.mono {a b : Nat} {p : Int} (h : Sz a p) (e : a ≤ b) : Sz b p := Nat.lt_of_lt_of_le h (Nat.pow_le_pow_right (by decide) e)
theorem Sz.ok {a b : Nat} {p q : Int} (h : Sz a p) (g : Sz b q) (e : a + b ≤ 900000) : binI .mul p q = some (p * q) := bin_mul (mulOk_of h g e)
/-- a new Exact -/
theorem mkEx {ρ : DL.Env} {es : Es} (h : WA (parOf L.tab WW (n + 3)) es ρ μ fun xs μ1 => ∃ t b, xs = [.d (.int t), .d (.int b)] ∧ Sz 440 t ∧ Sz 440 b ∧ b ≠ 0 ∧ ∀ p q, Low p q t b → K (.d (exD p q)) (μ1 ++ [none])) : WE (parOf L.tab WW (n + 3)) (.frz (.mk 0 es [])) ρ μ K := by
  refine we_frz (we_mk rfl ?_)
  obtain ⟨xs, μ1, e, t, b, rfl, h1, h2, h3, h4⟩ := h
  refine ⟨_, μ1, e, ?_⟩
  refine init_wc (n := n) (c := μ1.length) (by simp) h1 h2 h3 fun p q hl => ⟨rfl, ?_⟩
  refine ⟨_, _, _, rfl, put_cell (o := some (.ins 0 [])) (by simp), rfl, ?_⟩
  rw [List.set_set]
  have e : ∀ nd : Option Node, (μ1 ++ [nd]).set μ1.length none = μ1 ++ [none] := fun nd => by simp
  rw [e]
  exact h4 p q hl
theorem add_wc {p q p' q' : Int} (hb : belowAll μ.length μ = true) (h1 : Sz 210 p) (h2 : Sz 210 q) (h3 : Sz 210 p') (h4 : Sz 210 q') (hq : 0 < q) (hq' : 0 < q') (h : ∀ x y, Low x y (p * q' + p' * q) (q * q') → K (.d (exD x y)) μ) : WC1 (C (n + 4)) 21 [.d (exD p q), .d (exD p' q')] μ K := by
  refine wc_of t21 rfl ?_
  show WS _ b21 [some (.d (exD p q)), some (.d (exD p' q'))] μ _
  unfold b21
  walk_at "g"
  refine mkEx (n := n) ?_
  walk_at "g"
  refine asF_of (fldP_d rfl rfl rfl) ?_
  walk_at "g"
  refine asF_of (fldP_d rfl rfl rfl) ?_
  walk_at "g"
  refine asZ_of (h1.ok h4 (by decide)) ?_
  walk_at "g"
  refine asF_of (fldP_d rfl rfl rfl) ?_
  walk_at "g"
  refine asF_of (fldP_d rfl rfl rfl) ?_
  walk_at "g"
  refine asZ_of (h3.ok h2 (by decide)) ?_
  walk_at "g"
  refine asF_of (fldP_d rfl rfl rfl) ?_
  walk_at "g"
  refine asF_of (fldP_d rfl rfl rfl) ?_
  walk_at "g"
  refine asZ_of (h2.ok h4 (by decide)) ?_
  walk_at "g"
  have hne : q * q' ≠ 0 := Int.mul_ne_zero (by omega) (by omega)
  exact ⟨_, _, rfl, ((h1.mul h4).add (h3.mul h2)).mono (by decide), (h2.mul h4).mono (by decide), hne, fun x y hl => fq_dA hb rfl (h x y hl)⟩
theorem sub_wc {p q p' q' : Int} (hb : belowAll μ.length μ = true) (h1 : Sz 210 p) (h2 : Sz 210 q) (h3 : Sz 210 p') (h4 : Sz 210 q') (hq : 0 < q) (hq' : 0 < q') (h : ∀ x y, Low x y (p * q' - p' * q) (q * q') → K (.d (exD x y)) μ) : WC1 (C (n + 4)) 22 [.d (exD p q), .d (exD p' q')] μ K := by
  refine wc_of t22 rfl ?_
  show WS _ b22 [some (.d (exD p q)), some (.d (exD p' q'))] μ _
  unfold b22
  walk_at "g"
  refine mkEx (n := n) ?_
  walk_at "g"
  refine asF_of (fldP_d rfl rfl rfl) ?_
  walk_at "g"
  refine asF_of (fldP_d rfl rfl rfl) ?_
  walk_at "g"
  refine asZ_of (h1.ok h4 (by decide)) ?_
  walk_at "g"
  refine asF_of (fldP_d rfl rfl rfl) ?_
  walk_at "g"
  refine asF_of (fldP_d rfl rfl rfl) ?_
  walk_at "g"
  refine asZ_of (h3.ok h2 (by decide)) ?_
  walk_at "g"
  refine asF_of (fldP_d rfl rfl rfl) ?_
  walk_at "g"
  refine asF_of (fldP_d rfl rfl rfl) ?_
  walk_at "g"
  refine asZ_of (h2.ok h4 (by decide)) ?_
  walk_at "g"
  have hne : q * q' ≠ 0 := Int.mul_ne_zero (by omega) (by omega)
  exact ⟨_, _, rfl, ((h1.mul h4).sub (h3.mul h2)).mono (by decide), (h2.mul h4).mono (by decide), hne, fun x y hl => fq_dA hb rfl (h x y hl)⟩
theorem mul_wc {p q p' q' : Int} (hb : belowAll μ.length μ = true) (h1 : Sz 210 p) (h2 : Sz 210 q) (h3 : Sz 210 p') (h4 : Sz 210 q') (hq : 0 < q) (hq' : 0 < q') (h : ∀ x y, Low x y (p * p') (q * q') → K (.d (exD x y)) μ) : WC1 (C (n + 4)) 23 [.d (exD p q), .d (exD p' q')] μ K := by
  refine wc_of t23 rfl ?_
  show WS _ b23 [some (.d (exD p q)), some (.d (exD p' q'))] μ _
  unfold b23
  walk_at "g"
  refine mkEx (n := n) ?_
  walk_at "g"
  refine asF_of (fldP_d rfl rfl rfl) ?_
  walk_at "g"
  refine asF_of (fldP_d rfl rfl rfl) ?_
  walk_at "g"
  refine asZ_of (h1.ok h3 (by decide)) ?_
  walk_at "g"
  refine asF_of (fldP_d rfl rfl rfl) ?_
  walk_at "g"
  refine asF_of (fldP_d rfl rfl rfl) ?_
  walk_at "g"
  refine asZ_of (h2.ok h4 (by decide)) ?_
  walk_at "g"
  have hne : q * q' ≠ 0 := Int.mul_ne_zero (by omega) (by omega)
  exact ⟨_, _, rfl, (h1.mul h3).mono (by decide), (h2.mul h4).mono (by decide), hne, fun x y hl => fq_dA hb rfl (h x y hl)⟩
theorem neg_wc {p q : Int} (hb : belowAll μ.length μ = true) (h1 : Sz 440 p) (h2 : Sz 440 q) (hq : 0 < q) (h : ∀ x y, Low x y (-p) q → K (.d (exD x y)) μ) : WC1 (C (n + 4)) 24 [.d (exD p q)] μ K := by
  refine wc_of t24 rfl ?_
  show WS _ b24 [some (.d (exD p q))] μ _
  unfold b24
  walk_at "g"
  refine mkEx (n := n) ?_
  walk_at "g"
  refine asF_of (fldP_d rfl rfl rfl) ?_
  walk_at "g"
  refine asF_of (fldP_d rfl rfl rfl) ?_
  walk_at "g"
  exact ⟨_, _, rfl, by unfold Sz; rw [Int.natAbs_neg]; exact h1, h2, by omega, fun x y hl => fq_dA hb rfl (h x y hl)⟩
theorem abs_wc {p q : Int} (hb : belowAll μ.length μ = true) (h1 : Sz 440 p) (h2 : Sz 440 q) (hq : 0 < q) (h : ∀ x y, Low x y (p.natAbs : Int) q → K (.d (exD x y)) μ) : WC1 (C (n + 4)) 25 [.d (exD p q)] μ K := by
  refine wc_of t25 rfl ?_
  show WS _ b25 [some (.d (exD p q))] μ _
  unfold b25
  walk_at "g"
  refine mkEx (n := n) ?_
  walk_at "g"
  refine asF_of (fldP_d rfl rfl rfl) ?_
  walk_at "g"
  rw [abs_nat]
  refine asF_of (fldP_d rfl rfl rfl) ?_
  walk_at "g"
  exact ⟨_, _, rfl, by unfold Sz; rw [Int.natAbs_natCast]; exact h1, h2, by omega, fun x y hl => fq_dA hb rfl (h x y hl)⟩
end
end K01

namespace K01
open PySem L2 DL
/- one step; what has one way only; a step with the choices -/
local macro_rules | `(tactic| walk_at "1s") => `(tactic| first | refine we_var rfl ?_ | refine we_con ?_ | refine wa_cons ?_ | refine wa_nil ?_ | refine asI_mk ?_ | refine asZ_mk ?_ | refine asD_mk ?_ | refine we_idx ?_ | refine asV_d ?_ | refine we_call ?_ | refine we_bin ?_ | refine asOp_int ?_ | refine we_cmp ?_ | refine asCmp_mk rfl ?_ | refine wt_cmp ?_ | refine we_blt ?_ | refine asO_mk ?_ | refine asB_mk ?_ | refine asG_mk (Nat.le_of_ble_eq_true rfl) ?_ | refine asG_mk (by decide) ?_ | refine asG_mk rfl ?_ | refine wt_val ?_ | refine wt_not ?_ | refine asW_d ?_ | refine we_glo rfl ?_ | refine we_tup ?_ | refine we_lstF ?_ | refine we_lstT ?_ | refine we_isi ?_ | refine wt_isi ?_ | refine we_not ?_ | refine we_neg ?_ | refine asNeg_int ?_ | refine we_fmt ?_ | refine we_jn1 ?_ | refine we_jn ?_ | refine wj_cons ?_ | refine wj_nil ?_ | refine asSt_mk ?_ | refine asZ_mod (by decide) ?_ | refine asZ_mul (by omega) (by omega) (by decide) ?_ | refine asZ_mulS (by omega) (by omega) (by omega) (by omega) ?_ | refine asZ_div (by decide +kernel) ?_ | refine asZ_pow (by decide +kernel) ?_ | refine asR_mk ?_ | refine as1_mk ?_ | refine asT_mk ?_ | refine asS_l ?_ | refine asS_t ?_ | refine asS_k ?_ | refine asS_s ?_ | refine wi_seq ?_ | refine wi_rng1 ?_ | refine wi_rng2 ?_ | refine wi_enum ?_ | refine we_app ?_ | refine we_sl ?_ | refine wo_none ?_ | refine wo_some ?_ | refine we_rv ?_ | refine we_dicF ?_ | refine we_fld ?_ | refine asOp_tup (Nat.le_of_ble_eq_true rfl) ?_ | refine asOp_str (by decide +kernel) ?_ | (apply asV_r; assumption) | (apply asW_r; assumption) | (apply asC_mk; assumption) | refine ws_set ?_ | refine kq_nx ?_ | refine kq_rt ?_ | refine ws_ret ?_ | refine ws_nil ?_ | refine ws_ex ?_ | refine ws_unp ?_ | refine ws_pass ?_ | refine kq_bk ?_ | refine kq_ct ?_ | fail)
local macro_rules | `(tactic| walk_at "1c") => `(tactic| first | refine ws_ite ?_ | refine wt_bop ?_ | refine wt_bop1 ?_ | refine wt_chain ?_ | refine we_bop ?_ | refine we_bop1 ?_ | refine we_ife ?_ | refine we_chain ?_ | refine ws_par ?_ | refine ⟨fun _ => ?_, fun h => absurd (show (false : Bool) = true from h) Bool.false_ne_true⟩ | refine ⟨fun _ => ?_, fun h => absurd (show (true : Bool) = false from h).symm Bool.false_ne_true⟩ | refine ⟨fun h => absurd (show (true : Bool) = false from h).symm Bool.false_ne_true, fun _ => ?_⟩ | refine ⟨fun h => absurd (show (false : Bool) = true from h) Bool.false_ne_true, fun _ => ?_⟩ | fail)
local macro_rules | `(tactic| walk_at "x") => `(tactic| repeat (first | refine we_var rfl ?_ | refine we_con ?_ | refine wa_cons ?_ | refine wa_nil ?_ | refine asI_mk ?_ | refine asZ_mk ?_ | refine asD_mk ?_ | refine we_idx ?_ | refine asV_d ?_ | refine we_call ?_ | refine we_bin ?_ | refine asOp_int ?_ | refine we_cmp ?_ | refine asCmp_mk rfl ?_ | refine wt_cmp ?_ | refine we_blt ?_ | refine asO_mk ?_ | refine asB_mk ?_ | refine asG_mk (Nat.le_of_ble_eq_true rfl) ?_ | refine asG_mk (by decide) ?_ | refine asG_mk rfl ?_ | refine wt_val ?_ | refine wt_not ?_ | refine asW_d ?_ | refine we_glo rfl ?_ | refine we_tup ?_ | refine we_lstF ?_ | refine we_lstT ?_ | refine we_isi ?_ | refine wt_isi ?_ | refine we_not ?_ | refine we_neg ?_ | refine asNeg_int ?_ | refine we_fmt ?_ | refine we_jn1 ?_ | refine we_jn ?_ | refine wj_cons ?_ | refine wj_nil ?_ | refine asSt_mk ?_ | refine asZ_mod (by decide) ?_ | refine asZ_mul (by omega) (by omega) (by decide) ?_ | refine asZ_mulS (by omega) (by omega) (by omega) (by omega) ?_ | refine asZ_div (by decide +kernel) ?_ | refine asZ_pow (by decide +kernel) ?_ | refine asR_mk ?_ | refine as1_mk ?_ | refine asT_mk ?_ | refine asS_l ?_ | refine asS_t ?_ | refine asS_k ?_ | refine asS_s ?_ | refine wi_seq ?_ | refine wi_rng1 ?_ | refine wi_rng2 ?_ | refine wi_enum ?_ | refine we_app ?_ | refine we_sl ?_ | refine wo_none ?_ | refine wo_some ?_ | refine we_rv ?_ | refine we_dicF ?_ | refine we_fld ?_ | refine asOp_tup (Nat.le_of_ble_eq_true rfl) ?_ | refine asOp_str (by decide +kernel) ?_ | (apply asV_r; assumption) | (apply asW_r; assumption) | (apply asC_mk; assumption) | fail))
local macro_rules | `(tactic| walk_at "s") => `(tactic| repeat (first | refine we_var rfl ?_ | refine we_con ?_ | refine wa_cons ?_ | refine wa_nil ?_ | refine asI_mk ?_ | refine asZ_mk ?_ | refine asD_mk ?_ | refine we_idx ?_ | refine asV_d ?_ | refine we_call ?_ | refine we_bin ?_ | refine asOp_int ?_ | refine we_cmp ?_ | refine asCmp_mk rfl ?_ | refine wt_cmp ?_ | refine we_blt ?_ | refine asO_mk ?_ | refine asB_mk ?_ | refine asG_mk (Nat.le_of_ble_eq_true rfl) ?_ | refine asG_mk (by decide) ?_ | refine asG_mk rfl ?_ | refine wt_val ?_ | refine wt_not ?_ | refine asW_d ?_ | refine we_glo rfl ?_ | refine we_tup ?_ | refine we_lstF ?_ | refine we_lstT ?_ | refine we_isi ?_ | refine wt_isi ?_ | refine we_not ?_ | refine we_neg ?_ | refine asNeg_int ?_ | refine we_fmt ?_ | refine we_jn1 ?_ | refine we_jn ?_ | refine wj_cons ?_ | refine wj_nil ?_ | refine asSt_mk ?_ | refine asZ_mod (by decide) ?_ | refine asZ_mul (by omega) (by omega) (by decide) ?_ | refine asZ_mulS (by omega) (by omega) (by omega) (by omega) ?_ | refine asZ_div (by decide +kernel) ?_ | refine asZ_pow (by decide +kernel) ?_ | refine asR_mk ?_ | refine as1_mk ?_ | refine asT_mk ?_ | refine asS_l ?_ | refine asS_t ?_ | refine asS_k ?_ | refine asS_s ?_ | refine wi_seq ?_ | refine wi_rng1 ?_ | refine wi_rng2 ?_ | refine wi_enum ?_ | refine we_app ?_ | refine we_sl ?_ | refine wo_none ?_ | refine wo_some ?_ | refine we_rv ?_ | refine we_dicF ?_ | refine we_fld ?_ | refine asOp_tup (Nat.le_of_ble_eq_true rfl) ?_ | refine asOp_str (by decide +kernel) ?_ | (apply asV_r; assumption) | (apply asW_r; assumption) | (apply asC_mk; assumption) | refine ws_set ?_ | refine kq_nx ?_ | refine kq_rt ?_ | refine ws_ret ?_ | refine ws_nil ?_ | refine ws_ex ?_ | refine ws_unp ?_ | refine ws_pass ?_ | refine kq_bk ?_ | refine kq_ct ?_ | fail))
local macro_rules | `(tactic| walk_at "g") => `(tactic| repeat (first | refine we_var rfl ?_ | refine we_con ?_ | refine wa_cons ?_ | refine wa_nil ?_ | refine asI_mk ?_ | refine asZ_mk ?_ | refine asD_mk ?_ | refine we_idx ?_ | refine asV_d ?_ | refine we_call ?_ | refine we_bin ?_ | refine asOp_int ?_ | refine we_cmp ?_ | refine asCmp_mk rfl ?_ | refine wt_cmp ?_ | refine we_blt ?_ | refine asO_mk ?_ | refine asB_mk ?_ | refine asG_mk (Nat.le_of_ble_eq_true rfl) ?_ | refine asG_mk (by decide) ?_ | refine asG_mk rfl ?_ | refine wt_val ?_ | refine wt_not ?_ | refine asW_d ?_ | refine we_glo rfl ?_ | refine we_tup ?_ | refine we_lstF ?_ | refine we_lstT ?_ | refine we_isi ?_ | refine wt_isi ?_ | refine we_not ?_ | refine we_neg ?_ | refine asNeg_int ?_ | refine we_fmt ?_ | refine we_jn1 ?_ | refine we_jn ?_ | refine wj_cons ?_ | refine wj_nil ?_ | refine asSt_mk ?_ | refine asZ_mod (by decide) ?_ | refine asZ_mul (by omega) (by omega) (by decide) ?_ | refine asZ_mulS (by omega) (by omega) (by omega) (by omega) ?_ | refine asZ_div (by decide +kernel) ?_ | refine asZ_pow (by decide +kernel) ?_ | refine asR_mk ?_ | refine as1_mk ?_ | refine asT_mk ?_ | refine asS_l ?_ | refine asS_t ?_ | refine asS_k ?_ | refine asS_s ?_ | refine wi_seq ?_ | refine wi_rng1 ?_ | refine wi_rng2 ?_ | refine wi_enum ?_ | refine we_app ?_ | refine we_sl ?_ | refine wo_none ?_ | refine wo_some ?_ | refine we_rv ?_ | refine we_dicF ?_ | refine we_fld ?_ | refine asOp_tup (Nat.le_of_ble_eq_true rfl) ?_ | refine asOp_str (by decide +kernel) ?_ | (apply asV_r; assumption) | (apply asW_r; assumption) | (apply asC_mk; assumption) | refine ws_set ?_ | refine kq_nx ?_ | refine kq_rt ?_ | refine ws_ret ?_ | refine ws_nil ?_ | refine ws_ex ?_ | refine ws_unp ?_ | refine ws_pass ?_ | refine kq_bk ?_ | refine kq_ct ?_ | refine ws_ite ?_ | refine wt_bop ?_ | refine wt_bop1 ?_ | refine wt_chain ?_ | refine we_bop ?_ | refine we_bop1 ?_ | refine we_ife ?_ | refine we_chain ?_ | refine ws_par ?_ | refine ⟨fun _ => ?_, fun h => absurd (show (false : Bool) = true from h) Bool.false_ne_true⟩ | refine ⟨fun _ => ?_, fun h => absurd (show (true : Bool) = false from h).symm Bool.false_ne_true⟩ | refine ⟨fun h => absurd (show (true : Bool) = false from h).symm Bool.false_ne_true, fun _ => ?_⟩ | refine ⟨fun h => absurd (show (false : Bool) = true from h) Bool.false_ne_true, fun _ => ?_⟩ | refine ⟨fun _ => ?_, fun h => absurd (of_decide_eq_true h) (by omega)⟩ | refine ⟨fun h => absurd (of_decide_eq_true h) (by omega), fun _ => ?_⟩ | refine ⟨fun _ => ?_, fun h => absurd (by omega) (of_decide_eq_false h)⟩ | refine ⟨fun h => absurd (by omega) (of_decide_eq_false h), fun _ => ?_⟩ | refine ⟨fun _ => ?_, fun h => absurd h (by decide +kernel)⟩ | refine ⟨fun h => absurd h (by decide +kernel), fun _ => ?_⟩ | fail))
section
variable {n : Nat} {μ : Mu} {k : Nat} {cs : List Int} {N : Int} {K : X → Mu → Prop}
theorem eq_wc {p q p' q' : Int} (h : K (.d (.bl (decide (p = p') && decide (q = q')))) μ) : WC1 (C (n + 1)) 26 [.d (exD p q), .d (exD p' q')] μ K := by
  refine wc_of t26 rfl ?_
  show WS _ b26 [some (.d (exD p q)), some (.d (exD p' q'))] μ _
  unfold b26
  walk_at "g"
  refine asF_of (fldP_d rfl rfl rfl) ?_
  walk_at "g"
  refine asF_of (fldP_d rfl rfl rfl) ?_
  walk_at "g"
  refine ⟨fun b => ?_, fun b => ?_⟩
  · have b : decide (p = p') = true := b
    rw [b, Bool.true_and] at h
    walk_at "g"
    refine asF_of (fldP_d rfl rfl rfl) ?_
    walk_at "g"
    refine asF_of (fldP_d rfl rfl rfl) ?_
    walk_at "g"
    exact fq_d rfl h
  · have b : decide (p = p') = false := b
    rw [b, Bool.false_and] at h
    refine fq_d rfl ?_
    show K (.d (.bl (decide (p = p')))) μ
    rw [b]
    exact h
theorem bool_wc {p q : Int} (h : K (.d (.bl (p != 0))) μ) : WC1 (C (n + 1)) 27 [.d (exD p q)] μ K := by
  refine wc_of t27 rfl ?_
  show WS _ b27 [some (.d (exD p q))] μ _
  unfold b27
  walk_at "g"
  refine asF_of (fldP_d rfl rfl rfl) ?_
  walk_at "g"
  refine fq_d rfl ?_
  have e : (!decide (p = 0)) = (p != 0) := by
    by_cases z : p = 0
    · subst z; rfl
    · rw [decide_eq_false z]; simp [z]
  rw [← e] at h
  exact h
/-- == with what is no Exact -/
theorem eqF_wc {p q : Int} {d : D} (hd : plainD d = true) (h : K (.d (.bl false)) μ) : WC1 (C (n + 1)) 26 [.d (exD p q), .d d] μ K := by
  refine wc_of t26 rfl ?_
  show WS _ b26 [some (.d (exD p q)), some (.d d)] μ _
  unfold b26
  cases d <;> first | (cases hd; done) | (walk_at "g"; exact fq_d rfl h)
theorem cmp_wc {p q p' q' : Int} (h1 : Sz 210 p) (h2 : Sz 210 q) (h3 : Sz 210 p') (h4 : Sz 210 q') (h : K (.d (.int (if p * q' < p' * q then -1 else if p' * q < p * q' then 1 else 0))) μ) : WC1 (C (n + 1)) 28 [.d (exD p q), .d (exD p' q')] μ K := by
  refine wc_of t28 rfl ?_
  show WS _ b28 [some (.d (exD p q)), some (.d (exD p' q')), none, none] μ _
  unfold b28
  walk_at "g"
  refine asF_of (fldP_d rfl rfl rfl) ?_
  walk_at "g"
  refine asF_of (fldP_d rfl rfl rfl) ?_
  walk_at "g"
  refine asZ_of (h1.ok h4 (by decide)) ?_
  walk_at "g"
  refine asF_of (fldP_d rfl rfl rfl) ?_
  walk_at "g"
  refine asF_of (fldP_d rfl rfl rfl) ?_
  walk_at "g"
  refine asZ_of (h3.ok h2 (by decide)) ?_
  generalize p * q' = u at h ⊢
  generalize p' * q = v at h ⊢
  by_cases c1 : u < v
  · rw [if_pos c1] at h
    walk_at "g"
    exact fq_d rfl h
  · rw [if_neg c1] at h
    by_cases c2 : v < u
    · rw [if_pos c2] at h
      walk_at "g"
      exact fq_d rfl h
    · rw [if_neg c2] at h
      walk_at "g"
      exact fq_d rfl h
/-- the written form -/
def wrD (p q : Int) : Str := if q = 1 then (toString p : String) else (toString p : String) ++ ("/" : Str) ++ (toString q : String)
theorem log_of {p : Int} (h : Sz 440 p) : p.natAbs.log2 < 1920 := by
  by_cases z : p.natAbs = 0
  · rw [z]; decide
  · have : p.natAbs.log2 < 440 := (Nat.log2_lt z).mpr h
    omega
theorem signed_wc {m : Int} (h : St μ k cs N) (hN : N < 2 ^ 50) (h0 : 0 ≤ m) (h1 : m ≤ 10 ^ 30) (hK : ∀ z nd, -m ≤ z → z ≤ m → St (μ.set k (some nd)) k cs (N + 3) → K (.d (.int z)) (μ.set k (some nd))) : WC1 (C (n + 4)) 8 [.r k, .d (.int m)] μ K := by
  refine wc_of t8 rfl ?_
  show WS _ b8 [some (.r k), some (.d (.int m)), none] μ _
  unfold b8
  have big : (10 : Int) ^ 30 < 2 ^ 3999 := by decide +kernel
  walk_at "g"
  refine edge_wc (n := n) t4 t5 t7 (Nat.le_refl _) h (by omega) h0 (by omega) fun z nd1 g1 g2 s1 => ?_
  walk_at "g"
  refine take_wc (n := n + 2) t4 (Nat.le_refl _) s1 (by omega) (by decide) fun w nd2 w1 w2 s2 => ?_
  rw [List.set_set] at s2 ⊢
  walk_at "g"
  refine ⟨fun _ => ?_, fun _ => ?_⟩
  · walk_at "g"
    exact fq_d (by simp) (hK _ _ (by omega) (by omega) (s2.more (by omega)))
  · walk_at "g"
    exact fq_d (by simp) (hK _ _ (by omega) (by omega) (s2.more (by omega)))
end
end K01

namespace K01
open PySem L2 DL
/- one step; what has one way only; a step with the choices -/
local macro_rules | `(tactic| walk_at "1s") => `(tactic| first | refine we_var rfl ?_ | refine we_con ?_ | refine wa_cons ?_ | refine wa_nil ?_ | refine asI_mk ?_ | refine asZ_mk ?_ | refine asD_mk ?_ | refine we_idx ?_ | refine asV_d ?_ | refine we_call ?_ | refine we_bin ?_ | refine asOp_int ?_ | refine we_cmp ?_ | refine asCmp_mk rfl ?_ | refine wt_cmp ?_ | refine we_blt ?_ | refine asO_mk ?_ | refine asB_mk ?_ | refine asG_mk (Nat.le_of_ble_eq_true rfl) ?_ | refine asG_mk (by decide) ?_ | refine asG_mk rfl ?_ | refine wt_val ?_ | refine wt_not ?_ | refine asW_d ?_ | refine we_glo rfl ?_ | refine we_tup ?_ | refine we_lstF ?_ | refine we_lstT ?_ | refine we_isi ?_ | refine wt_isi ?_ | refine we_not ?_ | refine we_neg ?_ | refine asNeg_int ?_ | refine we_fmt ?_ | refine we_jn1 ?_ | refine we_jn ?_ | refine wj_cons ?_ | refine wj_nil ?_ | refine asSt_mk ?_ | refine asZ_mod (by decide) ?_ | refine asZ_mul (by omega) (by omega) (by decide) ?_ | refine asZ_mulS (by omega) (by omega) (by omega) (by omega) ?_ | refine asZ_div (by decide +kernel) ?_ | refine asZ_pow (by decide +kernel) ?_ | refine asR_mk ?_ | refine as1_mk ?_ | refine asT_mk ?_ | refine asS_l ?_ | refine asS_t ?_ | refine asS_k ?_ | refine asS_s ?_ | refine wi_seq ?_ | refine wi_rng1 ?_ | refine wi_rng2 ?_ | refine wi_enum ?_ | refine we_app ?_ | refine we_sl ?_ | refine wo_none ?_ | refine wo_some ?_ | refine we_rv ?_ | refine we_dicF ?_ | refine we_fld ?_ | refine asOp_tup (Nat.le_of_ble_eq_true rfl) ?_ | refine asOp_str (by decide +kernel) ?_ | (apply asV_r; assumption) | (apply asW_r; assumption) | (apply asC_mk; assumption) | refine ws_set ?_ | refine kq_nx ?_ | refine kq_rt ?_ | refine ws_ret ?_ | refine ws_nil ?_ | refine ws_ex ?_ | refine ws_unp ?_ | refine ws_pass ?_ | refine kq_bk ?_ | refine kq_ct ?_ | fail)
local macro_rules | `(tactic| walk_at "1c") => `(tactic| first | refine ws_ite ?_ | refine wt_bop ?_ | refine wt_bop1 ?_ | refine wt_chain ?_ | refine we_bop ?_ | refine we_bop1 ?_ | refine we_ife ?_ | refine we_chain ?_ | refine ws_par ?_ | refine ⟨fun _ => ?_, fun h => absurd (show (false : Bool) = true from h) Bool.false_ne_true⟩ | refine ⟨fun _ => ?_, fun h => absurd (show (true : Bool) = false from h).symm Bool.false_ne_true⟩ | refine ⟨fun h => absurd (show (true : Bool) = false from h).symm Bool.false_ne_true, fun _ => ?_⟩ | refine ⟨fun h => absurd (show (false : Bool) = true from h) Bool.false_ne_true, fun _ => ?_⟩ | fail)
local macro_rules | `(tactic| walk_at "x") => `(tactic| repeat (first | refine we_var rfl ?_ | refine we_con ?_ | refine wa_cons ?_ | refine wa_nil ?_ | refine asI_mk ?_ | refine asZ_mk ?_ | refine asD_mk ?_ | refine we_idx ?_ | refine asV_d ?_ | refine we_call ?_ | refine we_bin ?_ | refine asOp_int ?_ | refine we_cmp ?_ | refine asCmp_mk rfl ?_ | refine wt_cmp ?_ | refine we_blt ?_ | refine asO_mk ?_ | refine asB_mk ?_ | refine asG_mk (Nat.le_of_ble_eq_true rfl) ?_ | refine asG_mk (by decide) ?_ | refine asG_mk rfl ?_ | refine wt_val ?_ | refine wt_not ?_ | refine asW_d ?_ | refine we_glo rfl ?_ | refine we_tup ?_ | refine we_lstF ?_ | refine we_lstT ?_ | refine we_isi ?_ | refine wt_isi ?_ | refine we_not ?_ | refine we_neg ?_ | refine asNeg_int ?_ | refine we_fmt ?_ | refine we_jn1 ?_ | refine we_jn ?_ | refine wj_cons ?_ | refine wj_nil ?_ | refine asSt_mk ?_ | refine asZ_mod (by decide) ?_ | refine asZ_mul (by omega) (by omega) (by decide) ?_ | refine asZ_mulS (by omega) (by omega) (by omega) (by omega) ?_ | refine asZ_div (by decide +kernel) ?_ | refine asZ_pow (by decide +kernel) ?_ | refine asR_mk ?_ | refine as1_mk ?_ | refine asT_mk ?_ | refine asS_l ?_ | refine asS_t ?_ | refine asS_k ?_ | refine asS_s ?_ | refine wi_seq ?_ | refine wi_rng1 ?_ | refine wi_rng2 ?_ | refine wi_enum ?_ | refine we_app ?_ | refine we_sl ?_ | refine wo_none ?_ | refine wo_some ?_ | refine we_rv ?_ | refine we_dicF ?_ | refine we_fld ?_ | refine asOp_tup (Nat.le_of_ble_eq_true rfl) ?_ | refine asOp_str (by decide +kernel) ?_ | (apply asV_r; assumption) | (apply asW_r; assumption) | (apply asC_mk; assumption) | fail))
local macro_rules | `(tactic| walk_at "s") => `(tactic| repeat (first | refine we_var rfl ?_ | refine we_con ?_ | refine wa_cons ?_ | refine wa_nil ?_ | refine asI_mk ?_ | refine asZ_mk ?_ | refine asD_mk ?_ | refine we_idx ?_ | refine asV_d ?_ | refine we_call ?_ | refine we_bin ?_ | refine asOp_int ?_ | refine we_cmp ?_ | refine asCmp_mk rfl ?_ | refine wt_cmp ?_ | refine we_blt ?_ | refine asO_mk ?_ | refine asB_mk ?_ | refine asG_mk (Nat.le_of_ble_eq_true rfl) ?_ | refine asG_mk (by decide) ?_ | refine asG_mk rfl ?_ | refine wt_val ?_ | refine wt_not ?_ | refine asW_d ?_ | refine we_glo rfl ?_ | refine we_tup ?_ | refine we_lstF ?_ | refine we_lstT ?_ | refine we_isi ?_ | refine wt_isi ?_ | refine we_not ?_ | refine we_neg ?_ | refine asNeg_int ?_ | refine we_fmt ?_ | refine we_jn1 ?_ | refine we_jn ?_ | refine wj_cons ?_ | refine wj_nil ?_ | refine asSt_mk ?_ | refine asZ_mod (by decide) ?_ | refine asZ_mul (by omega) (by omega) (by decide) ?_ | refine asZ_mulS (by omega) (by omega) (by omega) (by omega) ?_ | refine asZ_div (by decide +kernel) ?_ | refine asZ_pow (by decide +kernel) ?_ | refine asR_mk ?_ | refine as1_mk ?_ | refine asT_mk ?_ | refine asS_l ?_ | refine asS_t ?_ | refine asS_k ?_ | refine asS_s ?_ | refine wi_seq ?_ | refine wi_rng1 ?_ | refine wi_rng2 ?_ | refine wi_enum ?_ | refine we_app ?_ | refine we_sl ?_ | refine wo_none ?_ | refine wo_some ?_ | refine we_rv ?_ | refine we_dicF ?_ | refine we_fld ?_ | refine asOp_tup (Nat.le_of_ble_eq_true rfl) ?_ | refine asOp_str (by decide +kernel) ?_ | (apply asV_r; assumption) | (apply asW_r; assumption) | (apply asC_mk; assumption) | refine ws_set ?_ | refine kq_nx ?_ | refine kq_rt ?_ | refine ws_ret ?_ | refine ws_nil ?_ | refine ws_ex ?_ | refine ws_unp ?_ | refine ws_pass ?_ | refine kq_bk ?_ | refine kq_ct ?_ | fail))
local macro_rules | `(tactic| walk_at "g") => `(tactic| repeat (first | refine we_var rfl ?_ | refine we_con ?_ | refine wa_cons ?_ | refine wa_nil ?_ | refine asI_mk ?_ | refine asZ_mk ?_ | refine asD_mk ?_ | refine we_idx ?_ | refine asV_d ?_ | refine we_call ?_ | refine we_bin ?_ | refine asOp_int ?_ | refine we_cmp ?_ | refine asCmp_mk rfl ?_ | refine wt_cmp ?_ | refine we_blt ?_ | refine asO_mk ?_ | refine asB_mk ?_ | refine asG_mk (Nat.le_of_ble_eq_true rfl) ?_ | refine asG_mk (by decide) ?_ | refine asG_mk rfl ?_ | refine wt_val ?_ | refine wt_not ?_ | refine asW_d ?_ | refine we_glo rfl ?_ | refine we_tup ?_ | refine we_lstF ?_ | refine we_lstT ?_ | refine we_isi ?_ | refine wt_isi ?_ | refine we_not ?_ | refine we_neg ?_ | refine asNeg_int ?_ | refine we_fmt ?_ | refine we_jn1 ?_ | refine we_jn ?_ | refine wj_cons ?_ | refine wj_nil ?_ | refine asSt_mk ?_ | refine asZ_mod (by decide) ?_ | refine asZ_mul (by omega) (by omega) (by decide) ?_ | refine asZ_mulS (by omega) (by omega) (by omega) (by omega) ?_ | refine asZ_div (by decide +kernel) ?_ | refine asZ_pow (by decide +kernel) ?_ | refine asR_mk ?_ | refine as1_mk ?_ | refine asT_mk ?_ | refine asS_l ?_ | refine asS_t ?_ | refine asS_k ?_ | refine asS_s ?_ | refine wi_seq ?_ | refine wi_rng1 ?_ | refine wi_rng2 ?_ | refine wi_enum ?_ | refine we_app ?_ | refine we_sl ?_ | refine wo_none ?_ | refine wo_some ?_ | refine we_rv ?_ | refine we_dicF ?_ | refine we_fld ?_ | refine asOp_tup (Nat.le_of_ble_eq_true rfl) ?_ | refine asOp_str (by decide +kernel) ?_ | (apply asV_r; assumption) | (apply asW_r; assumption) | (apply asC_mk; assumption) | refine ws_set ?_ | refine kq_nx ?_ | refine kq_rt ?_ | refine ws_ret ?_ | refine ws_nil ?_ | refine ws_ex ?_ | refine ws_unp ?_ | refine ws_pass ?_ | refine kq_bk ?_ | refine kq_ct ?_ | refine ws_ite ?_ | refine wt_bop ?_ | refine wt_bop1 ?_ | refine wt_chain ?_ | refine we_bop ?_ | refine we_bop1 ?_ | refine we_ife ?_ | refine we_chain ?_ | refine ws_par ?_ | refine ⟨fun _ => ?_, fun h => absurd (show (false : Bool) = true from h) Bool.false_ne_true⟩ | refine ⟨fun _ => ?_, fun h => absurd (show (true : Bool) = false from h).symm Bool.false_ne_true⟩ | refine ⟨fun h => absurd (show (true : Bool) = false from h).symm Bool.false_ne_true, fun _ => ?_⟩ | refine ⟨fun h => absurd (show (false : Bool) = true from h) Bool.false_ne_true, fun _ => ?_⟩ | refine ⟨fun _ => ?_, fun h => absurd (of_decide_eq_true h) (by omega)⟩ | refine ⟨fun h => absurd (of_decide_eq_true h) (by omega), fun _ => ?_⟩ | refine ⟨fun _ => ?_, fun h => absurd (by omega) (of_decide_eq_false h)⟩ | refine ⟨fun h => absurd (by omega) (of_decide_eq_false h), fun _ => ?_⟩ | refine ⟨fun _ => ?_, fun h => absurd h (by decide +kernel)⟩ | refine ⟨fun h => absurd h (by decide +kernel), fun _ => ?_⟩ | fail))
section
variable {n : Nat} {μ : Mu} {k : Nat} {cs : List Int} {N : Int} {K : X → Mu → Prop}
/-- is: an Exact against a top and a bottom, lowest terms of the same -/
theorem is_wc {p q a b t u : Int} (hl : Low p q a b) (ha : b ≠ 0) (h0 : u ≠ 0) (ht : Sz 440 t) (hu : Sz 440 u) (e : a * u = t * b) (h : K (.d (.bl true)) μ) : WC1 (C (n + 3)) 15 [.d (exD p q), .d (.int t), .d (.int u)] μ K := by
  refine wc_of t15 rfl ?_
  show WS _ b15 [some (.d (exD p q)), some (.d (.int t)), some (.d (.int u))] μ _
  unfold b15
  walk_at "g"
  refine asF_of (fldP_d rfl rfl rfl) ?_
  walk_at "g"
  refine asF_of (fldP_d rfl rfl rfl) ?_
  walk_at "g"
  refine lowest_wc (n := n) ht hu h0 fun x y hxy => ?_
  obtain ⟨rfl, rfl⟩ := hl.uniq hxy ha h0 e
  walk_at "g"
  exact same_self (n := n + 1) t9 1 (by simp [plainD, plainDs]) (by simp [dpt, dpts]) (by omega) (fq_d rfl h)
end
end K01

namespace K01
open PySem L2 DL
/- one step; what has one way only; a step with the choices -/
local macro_rules | `(tactic| walk_at "1s") => `(tactic| first | refine we_var rfl ?_ | refine we_con ?_ | refine wa_cons ?_ | refine wa_nil ?_ | refine asI_mk ?_ | refine asZ_mk ?_ | refine asD_mk ?_ | refine we_idx ?_ | refine asV_d ?_ | refine we_call ?_ | refine we_bin ?_ | refine asOp_int ?_ | refine we_cmp ?_ | refine asCmp_mk rfl ?_ | refine wt_cmp ?_ | refine we_blt ?_ | refine asO_mk ?_ | refine asB_mk ?_ | refine asG_mk (Nat.le_of_ble_eq_true rfl) ?_ | refine asG_mk (by decide) ?_ | refine asG_mk rfl ?_ | refine wt_val ?_ | refine wt_not ?_ | refine asW_d ?_ | refine we_glo rfl ?_ | refine we_tup ?_ | refine we_lstF ?_ | refine we_lstT ?_ | refine we_isi ?_ | refine wt_isi ?_ | refine we_not ?_ | refine we_neg ?_ | refine asNeg_int ?_ | refine we_fmt ?_ | refine we_jn1 ?_ | refine we_jn ?_ | refine wj_cons ?_ | refine wj_nil ?_ | refine asSt_mk ?_ | refine asZ_mod (by decide) ?_ | refine asZ_mul (by omega) (by omega) (by decide) ?_ | refine asZ_mulS (by omega) (by omega) (by omega) (by omega) ?_ | refine asZ_div (by decide +kernel) ?_ | refine asZ_pow (by decide +kernel) ?_ | refine asR_mk ?_ | refine as1_mk ?_ | refine asT_mk ?_ | refine asS_l ?_ | refine asS_t ?_ | refine asS_k ?_ | refine asS_s ?_ | refine wi_seq ?_ | refine wi_rng1 ?_ | refine wi_rng2 ?_ | refine wi_enum ?_ | refine we_app ?_ | refine we_sl ?_ | refine wo_none ?_ | refine wo_some ?_ | refine we_rv ?_ | refine we_dicF ?_ | refine we_fld ?_ | refine asOp_tup (Nat.le_of_ble_eq_true rfl) ?_ | refine asOp_str (by decide +kernel) ?_ | (apply asV_r; assumption) | (apply asW_r; assumption) | (apply asC_mk; assumption) | refine asF_of (fldP_d rfl rfl rfl) ?_ | refine asC_mk rfl ?_ | refine ws_set ?_ | refine kq_nx ?_ | refine kq_rt ?_ | refine ws_ret ?_ | refine ws_nil ?_ | refine ws_ex ?_ | refine ws_unp ?_ | refine ws_pass ?_ | refine kq_bk ?_ | refine kq_ct ?_ | fail)
local macro_rules | `(tactic| walk_at "1c") => `(tactic| first | refine ws_ite ?_ | refine wt_bop ?_ | refine wt_bop1 ?_ | refine wt_chain ?_ | refine we_bop ?_ | refine we_bop1 ?_ | refine we_ife ?_ | refine we_chain ?_ | refine ws_par ?_ | refine ⟨fun _ => ?_, fun h => absurd (show (false : Bool) = true from h) Bool.false_ne_true⟩ | refine ⟨fun _ => ?_, fun h => absurd (show (true : Bool) = false from h).symm Bool.false_ne_true⟩ | refine ⟨fun h => absurd (show (true : Bool) = false from h).symm Bool.false_ne_true, fun _ => ?_⟩ | refine ⟨fun h => absurd (show (false : Bool) = true from h) Bool.false_ne_true, fun _ => ?_⟩ | fail)
local macro_rules | `(tactic| walk_at "x") => `(tactic| repeat (first | refine we_var rfl ?_ | refine we_con ?_ | refine wa_cons ?_ | refine wa_nil ?_ | refine asI_mk ?_ | refine asZ_mk ?_ | refine asD_mk ?_ | refine we_idx ?_ | refine asV_d ?_ | refine we_call ?_ | refine we_bin ?_ | refine asOp_int ?_ | refine we_cmp ?_ | refine asCmp_mk rfl ?_ | refine wt_cmp ?_ | refine we_blt ?_ | refine asO_mk ?_ | refine asB_mk ?_ | refine asG_mk (Nat.le_of_ble_eq_true rfl) ?_ | refine asG_mk (by decide) ?_ | refine asG_mk rfl ?_ | refine wt_val ?_ | refine wt_not ?_ | refine asW_d ?_ | refine we_glo rfl ?_ | refine we_tup ?_ | refine we_lstF ?_ | refine we_lstT ?_ | refine we_isi ?_ | refine wt_isi ?_ | refine we_not ?_ | refine we_neg ?_ | refine asNeg_int ?_ | refine we_fmt ?_ | refine we_jn1 ?_ | refine we_jn ?_ | refine wj_cons ?_ | refine wj_nil ?_ | refine asSt_mk ?_ | refine asZ_mod (by decide) ?_ | refine asZ_mul (by omega) (by omega) (by decide) ?_ | refine asZ_mulS (by omega) (by omega) (by omega) (by omega) ?_ | refine asZ_div (by decide +kernel) ?_ | refine asZ_pow (by decide +kernel) ?_ | refine asR_mk ?_ | refine as1_mk ?_ | refine asT_mk ?_ | refine asS_l ?_ | refine asS_t ?_ | refine asS_k ?_ | refine asS_s ?_ | refine wi_seq ?_ | refine wi_rng1 ?_ | refine wi_rng2 ?_ | refine wi_enum ?_ | refine we_app ?_ | refine we_sl ?_ | refine wo_none ?_ | refine wo_some ?_ | refine we_rv ?_ | refine we_dicF ?_ | refine we_fld ?_ | refine asOp_tup (Nat.le_of_ble_eq_true rfl) ?_ | refine asOp_str (by decide +kernel) ?_ | (apply asV_r; assumption) | (apply asW_r; assumption) | (apply asC_mk; assumption) | refine asF_of (fldP_d rfl rfl rfl) ?_ | refine asC_mk rfl ?_ | fail))
local macro_rules | `(tactic| walk_at "s") => `(tactic| repeat (first | refine we_var rfl ?_ | refine we_con ?_ | refine wa_cons ?_ | refine wa_nil ?_ | refine asI_mk ?_ | refine asZ_mk ?_ | refine asD_mk ?_ | refine we_idx ?_ | refine asV_d ?_ | refine we_call ?_ | refine we_bin ?_ | refine asOp_int ?_ | refine we_cmp ?_ | refine asCmp_mk rfl ?_ | refine wt_cmp ?_ | refine we_blt ?_ | refine asO_mk ?_ | refine asB_mk ?_ | refine asG_mk (Nat.le_of_ble_eq_true rfl) ?_ | refine asG_mk (by decide) ?_ | refine asG_mk rfl ?_ | refine wt_val ?_ | refine wt_not ?_ | refine asW_d ?_ | refine we_glo rfl ?_ | refine we_tup ?_ | refine we_lstF ?_ | refine we_lstT ?_ | refine we_isi ?_ | refine wt_isi ?_ | refine we_not ?_ | refine we_neg ?_ | refine asNeg_int ?_ | refine we_fmt ?_ | refine we_jn1 ?_ | refine we_jn ?_ | refine wj_cons ?_ | refine wj_nil ?_ | refine asSt_mk ?_ | refine asZ_mod (by decide) ?_ | refine asZ_mul (by omega) (by omega) (by decide) ?_ | refine asZ_mulS (by omega) (by omega) (by omega) (by omega) ?_ | refine asZ_div (by decide +kernel) ?_ | refine asZ_pow (by decide +kernel) ?_ | refine asR_mk ?_ | refine as1_mk ?_ | refine asT_mk ?_ | refine asS_l ?_ | refine asS_t ?_ | refine asS_k ?_ | refine asS_s ?_ | refine wi_seq ?_ | refine wi_rng1 ?_ | refine wi_rng2 ?_ | refine wi_enum ?_ | refine we_app ?_ | refine we_sl ?_ | refine wo_none ?_ | refine wo_some ?_ | refine we_rv ?_ | refine we_dicF ?_ | refine we_fld ?_ | refine asOp_tup (Nat.le_of_ble_eq_true rfl) ?_ | refine asOp_str (by decide +kernel) ?_ | (apply asV_r; assumption) | (apply asW_r; assumption) | (apply asC_mk; assumption) | refine asF_of (fldP_d rfl rfl rfl) ?_ | refine asC_mk rfl ?_ | refine ws_set ?_ | refine kq_nx ?_ | refine kq_rt ?_ | refine ws_ret ?_ | refine ws_nil ?_ | refine ws_ex ?_ | refine ws_unp ?_ | refine ws_pass ?_ | refine kq_bk ?_ | refine kq_ct ?_ | fail))
local macro_rules | `(tactic| walk_at "g") => `(tactic| repeat (first | refine we_var rfl ?_ | refine we_con ?_ | refine wa_cons ?_ | refine wa_nil ?_ | refine asI_mk ?_ | refine asZ_mk ?_ | refine asD_mk ?_ | refine we_idx ?_ | refine asV_d ?_ | refine we_call ?_ | refine we_bin ?_ | refine asOp_int ?_ | refine we_cmp ?_ | refine asCmp_mk rfl ?_ | refine wt_cmp ?_ | refine we_blt ?_ | refine asO_mk ?_ | refine asB_mk ?_ | refine asG_mk (Nat.le_of_ble_eq_true rfl) ?_ | refine asG_mk (by decide) ?_ | refine asG_mk rfl ?_ | refine wt_val ?_ | refine wt_not ?_ | refine asW_d ?_ | refine we_glo rfl ?_ | refine we_tup ?_ | refine we_lstF ?_ | refine we_lstT ?_ | refine we_isi ?_ | refine wt_isi ?_ | refine we_not ?_ | refine we_neg ?_ | refine asNeg_int ?_ | refine we_fmt ?_ | refine we_jn1 ?_ | refine we_jn ?_ | refine wj_cons ?_ | refine wj_nil ?_ | refine asSt_mk ?_ | refine asZ_mod (by decide) ?_ | refine asZ_mul (by omega) (by omega) (by decide) ?_ | refine asZ_mulS (by omega) (by omega) (by omega) (by omega) ?_ | refine asZ_div (by decide +kernel) ?_ | refine asZ_pow (by decide +kernel) ?_ | refine asR_mk ?_ | refine as1_mk ?_ | refine asT_mk ?_ | refine asS_l ?_ | refine asS_t ?_ | refine asS_k ?_ | refine asS_s ?_ | refine wi_seq ?_ | refine wi_rng1 ?_ | refine wi_rng2 ?_ | refine wi_enum ?_ | refine we_app ?_ | refine we_sl ?_ | refine wo_none ?_ | refine wo_some ?_ | refine we_rv ?_ | refine we_dicF ?_ | refine we_fld ?_ | refine asOp_tup (Nat.le_of_ble_eq_true rfl) ?_ | refine asOp_str (by decide +kernel) ?_ | (apply asV_r; assumption) | (apply asW_r; assumption) | (apply asC_mk; assumption) | refine asF_of (fldP_d rfl rfl rfl) ?_ | refine asC_mk rfl ?_ | refine ws_set ?_ | refine kq_nx ?_ | refine kq_rt ?_ | refine ws_ret ?_ | refine ws_nil ?_ | refine ws_ex ?_ | refine ws_unp ?_ | refine ws_pass ?_ | refine kq_bk ?_ | refine kq_ct ?_ | refine ws_ite ?_ | refine wt_bop ?_ | refine wt_bop1 ?_ | refine wt_chain ?_ | refine we_bop ?_ | refine we_bop1 ?_ | refine we_ife ?_ | refine we_chain ?_ | refine ws_par ?_ | refine ⟨fun _ => ?_, fun h => absurd (show (false : Bool) = true from h) Bool.false_ne_true⟩ | refine ⟨fun _ => ?_, fun h => absurd (show (true : Bool) = false from h).symm Bool.false_ne_true⟩ | refine ⟨fun h => absurd (show (true : Bool) = false from h).symm Bool.false_ne_true, fun _ => ?_⟩ | refine ⟨fun h => absurd (show (false : Bool) = true from h) Bool.false_ne_true, fun _ => ?_⟩ | refine ⟨fun _ => ?_, fun h => absurd (of_decide_eq_true h) (by omega)⟩ | refine ⟨fun h => absurd (of_decide_eq_true h) (by omega), fun _ => ?_⟩ | refine ⟨fun _ => ?_, fun h => absurd (by omega) (of_decide_eq_false h)⟩ | refine ⟨fun h => absurd (by omega) (of_decide_eq_false h), fun _ => ?_⟩ | refine ⟨fun _ => ?_, fun h => absurd h (by decide +kernel)⟩ | refine ⟨fun h => absurd h (by decide +kernel), fun _ => ?_⟩ | fail))
section
variable {n : Nat} {μ : Mu} {k : Nat} {cs : List Int} {N : Int} {K : X → Mu → Prop}
/-- a fraction within 10 ** 30 -/
structure Frac (a b : Int) : Prop where
  a0 : -(10 ^ 30) ≤ a
  a1 : a ≤ 10 ^ 30
  b0 : -(10 ^ 30) ≤ b
  b1 : b ≤ 10 ^ 30
  ne : b ≠ 0
theorem pow30 : (10 : Int) ^ 30 = 1000000000000000000000000000000 := by decide +kernel
theorem frac_wc (h : St μ k cs N) (hN : N < 2 ^ 49) (hK : ∀ a b nd, Frac a b → St (μ.set k (some nd)) k cs (N + 10) → K (.d (.tup [.int a, .int b])) (μ.set k (some nd))) : WC1 (C (n + 5)) 12 [.r k] μ K := by
  refine wc_of t12 rfl ?_
  show WS _ b12 [some (.r k), none, none, none, none] μ _
  unfold b12
  have big : (10 : Int) ^ 30 < 2 ^ 3999 := by decide +kernel
  walk_at "g"
  refine pick_wc (n := n + 2) t4 t6 (Nat.le_refl _) h (by omega) (by decide) (by decide) fun d nd1 hd s1 => ?_
  have hm : ∃ m : Int, d = .int m ∧ (m = 12 ∨ m = 1000 ∨ m = 10 ^ 30) := by
    simp only [List.mem_cons, List.not_mem_nil, or_false] at hd
    rcases hd with rfl | rfl | rfl | rfl
    · exact ⟨_, rfl, .inl rfl⟩
    · exact ⟨_, rfl, .inl rfl⟩
    · exact ⟨_, rfl, .inr (.inl rfl)⟩
    · exact ⟨_, rfl, .inr (.inr rfl)⟩
  obtain ⟨m, rfl, hm⟩ := hm
  clear hd
  have p30 := pow30
  have m1 : 12 ≤ m ∧ m ≤ 10 ^ 30 := by omega
  walk_at "g"
  refine signed_wc (n := n) s1 (by omega) (by omega) m1.2 fun a nd2 a1 a2 s2 => ?_
  rw [List.set_set] at s2 ⊢
  walk_at "g"
  refine edge_wc (n := n + 1) t4 t5 t7 (Nat.le_refl _) s2 (by omega) (by omega) (by omega) fun b nd3 b1 b2 s3 => ?_
  rw [List.set_set] at s3 ⊢
  walk_at "g"
  refine take_wc (n := n + 3) t4 (Nat.le_refl _) s3 (by omega) (by decide) fun w nd4 w1 w2 s4 => ?_
  rw [List.set_set] at s4 ⊢
  have tail : ∀ c : Int, -m ≤ c → c ≤ m → c ≠ 0 → WS (parOf L.tab WW (n + 4)) (.cons (.ite (.cmp .le (.var 1) (.con (.int 1000))) (.cons (.set 4 (.bin .add (.con (.int 1)) (.call 4 (.cons (.var 0) (.cons (.con (.int 6)) .nil)) []))) (.cons (.ret (.tup (.cons (.bin .mul (.var 2) (.var 4)) (.cons (.bin .mul (.var 3) (.var 4)) .nil)))) .nil)) .nil) (.cons (.ret (.tup (.cons (.var 2) (.cons (.var 3) .nil)))) .nil)) [some (.r k), some (.d (.int m)), some (.d (.int a)), some (.d (.int c)), none] (μ.set k (some nd4)) (Fq μ K) := by
    intro c c1 c2 c3
    walk_at "g"
    refine ⟨fun hc => ?_, fun hc => ?_⟩
    · have hc := of_decide_eq_true hc
      walk_at "g"
      refine take_wc (n := n + 3) t4 (Nat.le_refl _) s4 (by omega) (by decide) fun f nd5 f1 f2 s5 => ?_
      rw [List.set_set] at s5 ⊢
      have f3 : f < 6 := by omega
      walk_at "g"
      have e1 : -6000 ≤ a * (1 + f) ∧ a * (1 + f) ≤ 6000 := by
        have : f = 0 ∨ f = 1 ∨ f = 2 ∨ f = 3 ∨ f = 4 ∨ f = 5 := by omega
        rcases this with rfl | rfl | rfl | rfl | rfl | rfl <;> omega
      have e2 : -6000 ≤ c * (1 + f) ∧ c * (1 + f) ≤ 6000 ∧ c * (1 + f) ≠ 0 := by
        have : f = 0 ∨ f = 1 ∨ f = 2 ∨ f = 3 ∨ f = 4 ∨ f = 5 := by omega
        rcases this with rfl | rfl | rfl | rfl | rfl | rfl <;> omega
      exact fq_d (by simp) (hK _ _ _ ⟨by omega, by omega, by omega, by omega, e2.2.2⟩ (s5.more (by omega)))
    · walk_at "g"
      exact fq_d (by simp) (hK _ _ _ ⟨by omega, by omega, by omega, by omega, c3⟩ (s4.more (by omega)))
  walk_at "g"
  refine ⟨fun hc => ?_, fun hc => ?_⟩
  · walk_at "s"
    exact tail (0 - (1 + b)) (by omega) (by omega) (by omega)
  · walk_at "s"
    exact tail (1 + b) (by omega) (by omega) (by omega)
theorem absI (a : Int) : (if a < 0 then -a else a) = (a.natAbs : Int) := by
  split <;> omega
theorem maxI (a b : Int) : (if b > a then b else a) = max a b := by
  split <;> omega
/-- times a factor within the room -/
theorem room_mul {a m f r : Int} (ha : (a.natAbs : Int) ≤ m) (hm : 0 < m) (hr : r = 10 ^ 30 / m) (f1 : 1 ≤ f) (f2 : f ≤ r) : -(10 ^ 30) ≤ a * f ∧ a * f ≤ 10 ^ 30 := by
  have e : m * r ≤ 10 ^ 30 := by rw [hr]; exact Int.mul_ediv_self_le (by omega)
  have e2 : ((a * f).natAbs : Int) ≤ m * r := by
    rw [Int.natAbs_mul, Int.natCast_mul]
    have : (f.natAbs : Int) = f := by omega
    rw [this]
    exact Int.mul_le_mul ha f2 (by omega) (by omega)
  omega
theorem room_ok {m : Int} (hm : 0 < m) (h : m ≤ 10 ^ 30) : 1 ≤ 10 ^ 30 / m ∧ 10 ^ 30 / m ≤ (10 ^ 30 : Int) := by
  constructor
  · exact Int.le_ediv_of_mul_le hm (by omega)
  · exact Int.ediv_le_self _ (by decide +kernel)
theorem ratio_wc (h : St μ k cs N) (hN : N < 2 ^ 48) (hK : ∀ a b nd, Frac a b → St (μ.set k (some nd)) k cs (N + 20) → K (.d (.tup [.int a, .int b])) (μ.set k (some nd))) : WC1 (C (n + 6)) 13 [.r k] μ K := by
  refine wc_of t13 rfl ?_
  show WS _ b13 [some (.r k), none, none, none] μ _
  unfold b13
  have big : (10 : Int) ^ 30 < 2 ^ 3999 := by decide +kernel
  have p30 := pow30
  walk_at "g"
  refine frac_wc (n := n) h (by omega) fun a b nd1 hf s1 => ?_
  obtain ⟨f1, f2, f3, f4, f5⟩ := hf
  walk_at "g"
  rw [absI, absI, maxI]
  generalize hM : max (a.natAbs : Int) (b.natAbs : Int) = M
  have M1 : 0 < M ∧ M ≤ 10 ^ 30 ∧ (a.natAbs : Int) ≤ M ∧ (b.natAbs : Int) ≤ M := by omega
  clear hM
  refine asZ_of (bin_div (divOk_of (b := 110) M1.1 (by omega) (by decide))) ?_
  walk_at "g"
  have r1 := room_ok M1.1 M1.2.1
  refine edge_wc (n := n + 2) t4 t5 t7 (Nat.le_refl _) s1 (by omega) (by show 0 ≤ (10 : Int) ^ 30 / M - 1; omega) (by show (10 : Int) ^ 30 / M - 1 - 0 < _; omega) fun z nd2 z1 z2 s2 => ?_
  have z2 : z ≤ (10 : Int) ^ 30 / M - 1 := z2
  generalize hR : (10 : Int) ^ 30 / M = R at r1 z2
  rw [List.set_set] at s2 ⊢
  walk_at "g"
  refine asZ_of (bin_mul (mulOk_of (a := 110) (b := 110) (by omega) (by omega) (by decide))) ?_
  walk_at "g"
  refine asZ_of (bin_mul (mulOk_of (a := 110) (b := 110) (by omega) (by omega) (by decide))) ?_
  walk_at "g"
  have g1 := room_mul M1.2.2.1 M1.1 hR.symm (f := 1 + z) (by omega) (by omega)
  have g2 := room_mul M1.2.2.2 M1.1 hR.symm (f := 1 + z) (by omega) (by omega)
  exact fq_d (by simp) (hK _ _ _ ⟨g1.1, g1.2, g2.1, g2.2, Int.mul_ne_zero f5 (by omega)⟩ (s2.more (by omega)))
theorem second_wc {a b : Int} (hf : Frac a b) (h : St μ k cs N) (hN : N < 2 ^ 47) (hK : ∀ a b nd, Frac a b → St (μ.set k (some nd)) k cs (N + 30) → K (.d (.tup [.int a, .int b])) (μ.set k (some nd))) : WC1 (C (n + 7)) 14 [.r k, .d (.tup [.int a, .int b])] μ K := by
  refine wc_of t14 rfl ?_
  show WS _ b14 [some (.r k), some (.d (.tup [.int a, .int b])), none, none, none, none, none, none] μ _
  unfold b14
  have big : (10 : Int) ^ 30 < 2 ^ 3999 := by decide +kernel
  have p30 := pow30
  walk_at "g"
  refine take_wc (n := n + 5) t4 (Nat.le_refl _) h (by omega) (by decide) fun w nd1 w1 w2 s1 => ?_
  walk_at "g"
  refine ⟨fun hc => ?_, fun hc => ?_⟩
  · walk_at "g"
    refine ratio_wc (n := n) s1 (by omega) fun x y nd2 hxy s2 => ?_
    rw [List.set_set] at s2 ⊢
    walk_at "g"
    exact fq_d (by simp) (hK _ _ _ hxy (s2.more (by omega)))
  have hc := of_decide_eq_false hc
  obtain ⟨f1, f2, f3, f4, f5⟩ := hf
  walk_at "g"
  generalize hz : (if decide (0 < a) = true then (1 : Int) else 0) = z
  have hz : (0 < a ∧ z = 1) ∨ (a ≤ 0 ∧ z = 0) := by
    by_cases p : 0 < a
    · rw [if_pos (decide_eq_true p)] at hz; exact .inl ⟨p, hz.symm⟩
    · rw [if_neg (by rw [decide_eq_false p]; decide)] at hz; exact .inr ⟨by omega, hz.symm⟩
  walk_at "g"
  refine ⟨fun hd => ?_, fun hd => ?_⟩
  · have hd := of_decide_eq_true hd
    have : w = 3 ∨ w = 4 ∨ w = 5 := by omega
    rcases this with rfl | rfl | rfl
    · walk_at "g"
      exact fq_d (by simp) (hK _ _ _ ⟨by omega, by omega, f3, f4, f5⟩ (s1.more (by omega)))
    · walk_at "g"
      exact fq_d (by simp) (hK _ _ _ ⟨by omega, by omega, f3, f4, f5⟩ (s1.more (by omega)))
    · walk_at "g"
      exact fq_d (by simp) (hK _ _ _ ⟨by omega, by omega, f3, f4, f5⟩ (s1.more (by omega)))
  walk_at "g"
  refine lowest_wc (n := n + 4) (by omega) (by omega) f5 fun p q hl => ?_
  have hle := hl.le f5
  have hq := hl.pos
  walk_at "g"
  rw [absI, maxI]
  generalize hM : max (p.natAbs : Int) q = M
  have M1 : 0 < M ∧ M ≤ 10 ^ 30 ∧ (p.natAbs : Int) ≤ M ∧ (q.natAbs : Int) ≤ M := by omega
  clear hM
  refine asZ_of (bin_div (divOk_of (b := 110) M1.1 (by omega) (by decide))) ?_
  walk_at "g"
  have r1 := room_ok M1.1 M1.2.1
  refine edge_wc (n := n + 3) t4 t5 t7 (Nat.le_refl _) s1 (by omega) (by show 0 ≤ (10 : Int) ^ 30 / M - 1; omega) (by show (10 : Int) ^ 30 / M - 1 - 0 < _; omega) fun u nd2 u1 u2 s2 => ?_
  have u2 : u ≤ (10 : Int) ^ 30 / M - 1 := u2
  generalize hR : (10 : Int) ^ 30 / M = R at r1 u2
  rw [List.set_set] at s2 ⊢
  have g1 := room_mul M1.2.2.1 M1.1 hR.symm (f := 1 + u) (by omega) (by omega)
  have g2 := room_mul M1.2.2.2 M1.1 hR.symm (f := 1 + u) (by omega) (by omega)
  have g3 : q * (1 + u) ≠ 0 := Int.mul_ne_zero (by omega) (by omega)
  have o1 : binI .mul p (1 + u) = some (p * (1 + u)) := bin_mul (mulOk_of (a := 110) (b := 110) (by omega) (by omega) (by decide))
  have o2 : binI .mul q (1 + u) = some (q * (1 + u)) := bin_mul (mulOk_of (a := 110) (b := 110) (by omega) (by omega) (by decide))
  walk_at "g"
  refine ⟨fun hd => ?_, fun hd => ?_⟩
  · walk_at "g"
    refine asZ_of o1 ?_
    walk_at "g"
    refine asZ_of o2 ?_
    walk_at "g"
    exact fq_d (by simp) (hK _ _ _ ⟨g1.1, g1.2, g2.1, g2.2, g3⟩ (s2.more (by omega)))
  · walk_at "g"
    refine asZ_of o1 ?_
    walk_at "g"
    generalize hy : (if decide (0 < p) = true then (1 : Int) else 0) = y
    have hy : (0 < p ∧ y = 1) ∨ (p ≤ 0 ∧ y = 0) := by
      by_cases c : 0 < p
      · rw [if_pos (decide_eq_true c)] at hy; exact .inl ⟨c, hy.symm⟩
      · rw [if_neg (by rw [decide_eq_false c]; decide)] at hy; exact .inr ⟨by omega, hy.symm⟩
    have g4 : (0 < p → 0 < p * (1 + u)) ∧ (p ≤ 0 → p * (1 + u) ≤ 0) := ⟨fun c => Int.mul_pos c (by omega), fun c => Int.mul_nonpos_of_nonpos_of_nonneg c (by omega)⟩
    walk_at "g"
    refine asZ_of o2 ?_
    walk_at "g"
    exact fq_d (by simp) (hK _ _ _ ⟨by omega, by omega, g2.1, g2.2, g3⟩ (s2.more (by omega)))
end
end K01

namespace K01
open PySem L2 DL
/- one step; what has one way only; a step with the choices -/
local macro_rules | `(tactic| walk_at "1s") => `(tactic| first | refine we_var rfl ?_ | refine we_con ?_ | refine wa_cons ?_ | refine wa_nil ?_ | refine asI_mk ?_ | refine asZ_mk ?_ | refine asD_mk ?_ | refine we_idx ?_ | refine asV_d ?_ | refine we_call ?_ | refine we_bin ?_ | refine asOp_int ?_ | refine we_cmp ?_ | refine asCmp_mk rfl ?_ | refine wt_cmp ?_ | refine we_blt ?_ | refine asO_mk ?_ | refine asB_mk ?_ | refine asG_mk (Nat.le_of_ble_eq_true rfl) ?_ | refine asG_mk (by decide) ?_ | refine asG_mk rfl ?_ | refine wt_val ?_ | refine wt_not ?_ | refine asW_d ?_ | refine we_glo rfl ?_ | refine we_tup ?_ | refine we_lstF ?_ | refine we_lstT ?_ | refine we_isi ?_ | refine wt_isi ?_ | refine we_not ?_ | refine we_neg ?_ | refine asNeg_int ?_ | refine we_fmt ?_ | refine we_jn1 ?_ | refine we_jn ?_ | refine wj_cons ?_ | refine wj_nil ?_ | refine asSt_mk ?_ | refine asZ_mod (by decide) ?_ | refine asZ_mul (by omega) (by omega) (by decide) ?_ | refine asZ_mulS (by omega) (by omega) (by omega) (by omega) ?_ | refine asZ_div (by decide +kernel) ?_ | refine asZ_pow (by decide +kernel) ?_ | refine asR_mk ?_ | refine as1_mk ?_ | refine asT_mk ?_ | refine asS_l ?_ | refine asS_t ?_ | refine asS_k ?_ | refine asS_s ?_ | refine wi_seq ?_ | refine wi_rng1 ?_ | refine wi_rng2 ?_ | refine wi_enum ?_ | refine we_app ?_ | refine we_sl ?_ | refine wo_none ?_ | refine wo_some ?_ | refine we_rv ?_ | refine we_dicF ?_ | refine we_fld ?_ | refine asOp_tup (Nat.le_of_ble_eq_true rfl) ?_ | refine asOp_str (by decide +kernel) ?_ | (apply asV_r; assumption) | (apply asW_r; assumption) | (apply asC_mk; assumption) | refine asF_of (fldP_d rfl rfl rfl) ?_ | refine asC_mk rfl ?_ | refine ws_set ?_ | refine kq_nx ?_ | refine kq_rt ?_ | refine ws_ret ?_ | refine ws_nil ?_ | refine ws_ex ?_ | refine ws_unp ?_ | refine ws_pass ?_ | refine kq_bk ?_ | refine kq_ct ?_ | fail)
local macro_rules | `(tactic| walk_at "1c") => `(tactic| first | refine ws_ite ?_ | refine wt_bop ?_ | refine wt_bop1 ?_ | refine wt_chain ?_ | refine we_bop ?_ | refine we_bop1 ?_ | refine we_ife ?_ | refine we_chain ?_ | refine ws_par ?_ | refine ⟨fun _ => ?_, fun h => absurd (show (false : Bool) = true from h) Bool.false_ne_true⟩ | refine ⟨fun _ => ?_, fun h => absurd (show (true : Bool) = false from h).symm Bool.false_ne_true⟩ | refine ⟨fun h => absurd (show (true : Bool) = false from h).symm Bool.false_ne_true, fun _ => ?_⟩ | refine ⟨fun h => absurd (show (false : Bool) = true from h) Bool.false_ne_true, fun _ => ?_⟩ | fail)
local macro_rules | `(tactic| walk_at "x") => `(tactic| repeat (first | refine we_var rfl ?_ | refine we_con ?_ | refine wa_cons ?_ | refine wa_nil ?_ | refine asI_mk ?_ | refine asZ_mk ?_ | refine asD_mk ?_ | refine we_idx ?_ | refine asV_d ?_ | refine we_call ?_ | refine we_bin ?_ | refine asOp_int ?_ | refine we_cmp ?_ | refine asCmp_mk rfl ?_ | refine wt_cmp ?_ | refine we_blt ?_ | refine asO_mk ?_ | refine asB_mk ?_ | refine asG_mk (Nat.le_of_ble_eq_true rfl) ?_ | refine asG_mk (by decide) ?_ | refine asG_mk rfl ?_ | refine wt_val ?_ | refine wt_not ?_ | refine asW_d ?_ | refine we_glo rfl ?_ | refine we_tup ?_ | refine we_lstF ?_ | refine we_lstT ?_ | refine we_isi ?_ | refine wt_isi ?_ | refine we_not ?_ | refine we_neg ?_ | refine asNeg_int ?_ | refine we_fmt ?_ | refine we_jn1 ?_ | refine we_jn ?_ | refine wj_cons ?_ | refine wj_nil ?_ | refine asSt_mk ?_ | refine asZ_mod (by decide) ?_ | refine asZ_mul (by omega) (by omega) (by decide) ?_ | refine asZ_mulS (by omega) (by omega) (by omega) (by omega) ?_ | refine asZ_div (by decide +kernel) ?_ | refine asZ_pow (by decide +kernel) ?_ | refine asR_mk ?_ | refine as1_mk ?_ | refine asT_mk ?_ | refine asS_l ?_ | refine asS_t ?_ | refine asS_k ?_ | refine asS_s ?_ | refine wi_seq ?_ | refine wi_rng1 ?_ | refine wi_rng2 ?_ | refine wi_enum ?_ | refine we_app ?_ | refine we_sl ?_ | refine wo_none ?_ | refine wo_some ?_ | refine we_rv ?_ | refine we_dicF ?_ | refine we_fld ?_ | refine asOp_tup (Nat.le_of_ble_eq_true rfl) ?_ | refine asOp_str (by decide +kernel) ?_ | (apply asV_r; assumption) | (apply asW_r; assumption) | (apply asC_mk; assumption) | refine asF_of (fldP_d rfl rfl rfl) ?_ | refine asC_mk rfl ?_ | fail))
local macro_rules | `(tactic| walk_at "s") => `(tactic| repeat (first | refine we_var rfl ?_ | refine we_con ?_ | refine wa_cons ?_ | refine wa_nil ?_ | refine asI_mk ?_ | refine asZ_mk ?_ | refine asD_mk ?_ | refine we_idx ?_ | refine asV_d ?_ | refine we_call ?_ | refine we_bin ?_ | refine asOp_int ?_ | refine we_cmp ?_ | refine asCmp_mk rfl ?_ | refine wt_cmp ?_ | refine we_blt ?_ | refine asO_mk ?_ | refine asB_mk ?_ | refine asG_mk (Nat.le_of_ble_eq_true rfl) ?_ | refine asG_mk (by decide) ?_ | refine asG_mk rfl ?_ | refine wt_val ?_ | refine wt_not ?_ | refine asW_d ?_ | refine we_glo rfl ?_ | refine we_tup ?_ | refine we_lstF ?_ | refine we_lstT ?_ | refine we_isi ?_ | refine wt_isi ?_ | refine we_not ?_ | refine we_neg ?_ | refine asNeg_int ?_ | refine we_fmt ?_ | refine we_jn1 ?_ | refine we_jn ?_ | refine wj_cons ?_ | refine wj_nil ?_ | refine asSt_mk ?_ | refine asZ_mod (by decide) ?_ | refine asZ_mul (by omega) (by omega) (by decide) ?_ | refine asZ_mulS (by omega) (by omega) (by omega) (by omega) ?_ | refine asZ_div (by decide +kernel) ?_ | refine asZ_pow (by decide +kernel) ?_ | refine asR_mk ?_ | refine as1_mk ?_ | refine asT_mk ?_ | refine asS_l ?_ | refine asS_t ?_ | refine asS_k ?_ | refine asS_s ?_ | refine wi_seq ?_ | refine wi_rng1 ?_ | refine wi_rng2 ?_ | refine wi_enum ?_ | refine we_app ?_ | refine we_sl ?_ | refine wo_none ?_ | refine wo_some ?_ | refine we_rv ?_ | refine we_dicF ?_ | refine we_fld ?_ | refine asOp_tup (Nat.le_of_ble_eq_true rfl) ?_ | refine asOp_str (by decide +kernel) ?_ | (apply asV_r; assumption) | (apply asW_r; assumption) | (apply asC_mk; assumption) | refine asF_of (fldP_d rfl rfl rfl) ?_ | refine asC_mk rfl ?_ | refine ws_set ?_ | refine kq_nx ?_ | refine kq_rt ?_ | refine ws_ret ?_ | refine ws_nil ?_ | refine ws_ex ?_ | refine ws_unp ?_ | refine ws_pass ?_ | refine kq_bk ?_ | refine kq_ct ?_ | fail))
local macro_rules | `(tactic| walk_at "g") => `(tactic| repeat (first | refine we_var rfl ?_ | refine we_con ?_ | refine wa_cons ?_ | refine wa_nil ?_ | refine asI_mk ?_ | refine asZ_mk ?_ | refine asD_mk ?_ | refine we_idx ?_ | refine asV_d ?_ | refine we_call ?_ | refine we_bin ?_ | refine asOp_int ?_ | refine we_cmp ?_ | refine asCmp_mk rfl ?_ | refine wt_cmp ?_ | refine we_blt ?_ | refine asO_mk ?_ | refine asB_mk ?_ | refine asG_mk (Nat.le_of_ble_eq_true rfl) ?_ | refine asG_mk (by decide) ?_ | refine asG_mk rfl ?_ | refine wt_val ?_ | refine wt_not ?_ | refine asW_d ?_ | refine we_glo rfl ?_ | refine we_tup ?_ | refine we_lstF ?_ | refine we_lstT ?_ | refine we_isi ?_ | refine wt_isi ?_ | refine we_not ?_ | refine we_neg ?_ | refine asNeg_int ?_ | refine we_fmt ?_ | refine we_jn1 ?_ | refine we_jn ?_ | refine wj_cons ?_ | refine wj_nil ?_ | refine asSt_mk ?_ | refine asZ_mod (by decide) ?_ | refine asZ_mul (by omega) (by omega) (by decide) ?_ | refine asZ_mulS (by omega) (by omega) (by omega) (by omega) ?_ | refine asZ_div (by decide +kernel) ?_ | refine asZ_pow (by decide +kernel) ?_ | refine asR_mk ?_ | refine as1_mk ?_ | refine asT_mk ?_ | refine asS_l ?_ | refine asS_t ?_ | refine asS_k ?_ | refine asS_s ?_ | refine wi_seq ?_ | refine wi_rng1 ?_ | refine wi_rng2 ?_ | refine wi_enum ?_ | refine we_app ?_ | refine we_sl ?_ | refine wo_none ?_ | refine wo_some ?_ | refine we_rv ?_ | refine we_dicF ?_ | refine we_fld ?_ | refine asOp_tup (Nat.le_of_ble_eq_true rfl) ?_ | refine asOp_str (by decide +kernel) ?_ | (apply asV_r; assumption) | (apply asW_r; assumption) | (apply asC_mk; assumption) | refine asF_of (fldP_d rfl rfl rfl) ?_ | refine asC_mk rfl ?_ | refine ws_set ?_ | refine kq_nx ?_ | refine kq_rt ?_ | refine ws_ret ?_ | refine ws_nil ?_ | refine ws_ex ?_ | refine ws_unp ?_ | refine ws_pass ?_ | refine kq_bk ?_ | refine kq_ct ?_ | refine ws_ite ?_ | refine wt_bop ?_ | refine wt_bop1 ?_ | refine wt_chain ?_ | refine we_bop ?_ | refine we_bop1 ?_ | refine we_ife ?_ | refine we_chain ?_ | refine ws_par ?_ | refine ⟨fun _ => ?_, fun h => absurd (show (false : Bool) = true from h) Bool.false_ne_true⟩ | refine ⟨fun _ => ?_, fun h => absurd (show (true : Bool) = false from h).symm Bool.false_ne_true⟩ | refine ⟨fun h => absurd (show (true : Bool) = false from h).symm Bool.false_ne_true, fun _ => ?_⟩ | refine ⟨fun h => absurd (show (false : Bool) = true from h) Bool.false_ne_true, fun _ => ?_⟩ | refine ⟨fun _ => ?_, fun h => absurd (of_decide_eq_true h) (by omega)⟩ | refine ⟨fun h => absurd (of_decide_eq_true h) (by omega), fun _ => ?_⟩ | refine ⟨fun _ => ?_, fun h => absurd (by omega) (of_decide_eq_false h)⟩ | refine ⟨fun h => absurd (by omega) (of_decide_eq_false h), fun _ => ?_⟩ | refine ⟨fun _ => ?_, fun h => absurd h (by decide +kernel)⟩ | refine ⟨fun h => absurd h (by decide +kernel), fun _ => ?_⟩ | fail))
section
variable {n : Nat} {μ : Mu} {k : Nat} {cs : List Int} {N : Int} {K : X → Mu → Prop}
theorem txt_len {p : Int} (h : Sz 440 p) : (Str.ofString (toString p)).length ≤ 1921 := PyProof.Rows.int_text_len_1921 (log_of h)
theorem app_len (a b : Str) : (a ++ b).length = a.length + b.length := by
  show (a.cps ++ b.cps).size = _
  exact Array.size_append ..
theorem written_wc {p q : Int} (h1 : Sz 440 p) (h2 : Sz 440 q) (h : ∀ z : Str, z.length ≤ 10000 → K (.d (.str z)) μ) : WC1 (C (n + 1)) 29 [.d (exD p q)] μ K := by
  refine wc_of t29 rfl ?_
  show WS _ b29 [some (.d (exD p q))] μ _
  unfold b29
  have l1 := txt_len h1
  have l2 := txt_len h2
  walk_at "g"
  refine ⟨fun _ => ?_, fun _ => ?_⟩
  · walk_at "g"
    refine asO_fmtI (log_of h1) ?_
    walk_at "g"
    exact fq_d rfl (h _ (Nat.le_trans l1 (by decide)))
  · walk_at "g"
    refine asO_fmtI (log_of h1) ?_
    have e0 : (Str.empty ++ Str.ofString (toString p)).length ≤ 1921 := by rw [app_len]; exact (Nat.zero_add _).symm ▸ l1
    walk_at "g"
    refine asG_mk (Nat.le_trans e0 (by decide)) ?_
    walk_at "g"
    have e1 : (Str.empty ++ Str.ofString (toString p) ++ ("/" : Str)).length ≤ 1922 := by rw [app_len]; exact Nat.add_le_add e0 (Nat.le_refl 1)
    refine asG_mk (Nat.le_trans e1 (by decide)) ?_
    walk_at "g"
    refine asO_fmtI (log_of h2) ?_
    have e2 : (Str.empty ++ Str.ofString (toString p) ++ ("/" : Str) ++ Str.ofString (toString q)).length ≤ 3843 := by rw [app_len]; exact Nat.add_le_add e1 l2
    walk_at "g"
    refine asG_mk (Nat.le_trans e2 (by decide)) ?_
    walk_at "g"
    exact fq_d rfl (h _ (Nat.le_trans e2 (by decide)))
/-- an Exact of a fraction within 10 ** 30 -/
structure ExF (p q a b : Int) : Prop where
  l : Low p q a b
  f : Frac a b
theorem Frac.sz {a b : Int} (h : Frac a b) : Sz 100 a ∧ Sz 100 b := by
  obtain ⟨h1, h2, h3, h4, _⟩ := h
  have p30 := pow30
  unfold Sz
  omega
theorem Low.sz {p q t b : Int} {s r : Nat} (h : Low p q t b) (hb : b ≠ 0) (h1 : Sz s t) (h2 : Sz r b) : Sz s p ∧ Sz r q :=
  ⟨Nat.lt_of_le_of_lt (h.le hb).1 h1, Nat.lt_of_le_of_lt (h.le hb).2 h2⟩
theorem ne2 {a b : Int} (h : a ≠ 0) (g : b ≠ 0) : a * b ≠ 0 := Int.mul_ne_zero h g
theorem reckons_wc {p q p' q' a b a' b' : Int} (hb : belowAll μ.length μ = true) (x1 : ExF p q a b) (x2 : ExF p' q' a' b') (h : K (.d (.bl true)) μ) : WC1 (C (n + 6)) 16 [.d (exD p q), .d (exD p' q'), .d (.tup [.int a, .int b]), .d (.tup [.int a', .int b'])] μ K := by
  refine wc_of t16 rfl ?_
  show WS _ b16 [some (.d (exD p q)), some (.d (exD p' q')), some (.d (.tup [.int a, .int b])), some (.d (.tup [.int a', .int b'])), none, none, none] μ _
  unfold b16
  obtain ⟨l1, f1⟩ := x1
  obtain ⟨l2, f2⟩ := x2
  obtain ⟨sa, sb⟩ := f1.sz
  obtain ⟨sa', sb'⟩ := f2.sz
  have nb := f1.ne
  have nb' := f2.ne
  obtain ⟨sp, sq⟩ := l1.sz nb sa sb
  obtain ⟨sp', sq'⟩ := l2.sz nb' sa' sb'
  have q0 := l1.pos
  have q0' := l2.pos
  have c1 := l1.cross
  have c2 := l2.cross
  have sfar := sb.mul sb'
  have slef := sa.mul sb'
  have srig := sa'.mul sb
  have nfar := ne2 nb nb'
  have nq : q ≠ 0 := by omega
  have nq' : q' ≠ 0 := by omega
  walk_at "g"
  refine asZ_of (sb.ok sb' (by decide)) ?_
  walk_at "g"
  refine asZ_of (sa.ok sb' (by decide)) ?_
  walk_at "g"
  refine asZ_of (sa'.ok sb (by decide)) ?_
  walk_at "g"
  generalize hfar : b * b' = far at sfar nfar ⊢
  generalize hlef : a * b' = lef at slef ⊢
  generalize hrig : a' * b = rig at srig ⊢
  refine asOp_own rfl (add_wc (n := n) hb (sp.mono (by decide)) (sq.mono (by decide)) (sp'.mono (by decide)) (sq'.mono (by decide)) q0 q0' fun x y hx => ?_)
  have ssum := ((sp.mul sq').add (sp'.mul sq))
  have sqq := sq.mul sq'
  obtain ⟨sx, sy⟩ := hx.sz (ne2 nq nq') ssum sqq
  walk_at "g"
  refine is_wc (n := n + 2) hx (ne2 nq nq') nfar ((slef.add srig).mono (by decide)) (sfar.mono (by decide)) (by subst hfar hlef hrig; grind) ?_
  walk_at "g"
  refine asOp_own rfl (sub_wc (n := n) hb (sp.mono (by decide)) (sq.mono (by decide)) (sp'.mono (by decide)) (sq'.mono (by decide)) q0 q0' fun u v hu => ?_)
  have sdif := ((sp.mul sq').sub (sp'.mul sq))
  obtain ⟨su, sv⟩ := hu.sz (ne2 nq nq') sdif sqq
  walk_at "g"
  refine is_wc (n := n + 2) hu (ne2 nq nq') nfar ((slef.sub srig).mono (by decide)) (sfar.mono (by decide)) (by subst hfar hlef hrig; grind) ?_
  walk_at "g"
  refine asOp_own rfl (mul_wc (n := n) hb (sp.mono (by decide)) (sq.mono (by decide)) (sp'.mono (by decide)) (sq'.mono (by decide)) q0 q0' fun u2 v2 hu2 => ?_)
  walk_at "g"
  refine asZ_of (sa.ok sa' (by decide)) ?_
  walk_at "g"
  refine is_wc (n := n + 2) hu2 (ne2 nq nq') nfar ((sa.mul sa').mono (by decide)) (sfar.mono (by decide)) (by subst hfar; grind) ?_
  walk_at "g"
  refine asNeg_own rfl (neg_wc (n := n) hb (sp.mono (by decide)) (sq.mono (by decide)) q0 fun u3 v3 hu3 => ?_)
  walk_at "g"
  refine is_wc (n := n + 2) hu3 nq nb (by unfold Sz at sa ⊢; omega) (sb.mono (by decide)) (by grind) ?_
  walk_at "g"
  refine asO_abs rfl (abs_wc (n := n) hb (sp.mono (by decide)) (sq.mono (by decide)) q0 fun u4 v4 hu4 => ?_)
  walk_at "g"
  rw [absI, absI]
  have cab : (p.natAbs : Int) * (b.natAbs : Int) = (a.natAbs : Int) * q := by
    rw [← Int.natCast_mul, ← Int.natAbs_mul, c1, Int.natAbs_mul, Int.natCast_mul]
    have : (q.natAbs : Int) = q := by omega
    rw [this]
  refine is_wc (n := n + 2) hu4 nq (by omega) (by unfold Sz at sa ⊢; omega) (by unfold Sz at sb ⊢; omega) cab ?_
  walk_at "g"
  -- behind the first sum
  have sbel : ∀ {i j : Int}, Sz 201 i → Sz 200 j → Sz 210 i ∧ Sz 210 j := fun h g => ⟨h.mono (by decide), g.mono (by decide)⟩
  refine asOp_own rfl (add_wc (n := n) hb (sp.mono (by decide)) (sq.mono (by decide)) (sp'.mono (by decide)) (sq'.mono (by decide)) q0 q0' fun x5 y5 h5 => ?_)
  obtain ⟨s5, t5⟩ := h5.sz (ne2 nq nq') ssum sqq
  walk_at "g"
  refine asOp_own rfl (sub_wc (n := n) hb (s5.mono (by decide)) (t5.mono (by decide)) (sp'.mono (by decide)) (sq'.mono (by decide)) h5.pos q0' fun x6 y6 h6 => ?_)
  have cc5 := h5.cross
  have e6 : (x5 * q' - p' * y5) * b = a * (y5 * q') := Int.eq_of_mul_eq_mul_left nq (by grind)
  have n5 : y5 ≠ 0 := by have := h5.pos; omega
  walk_at "g"
  refine is_wc (n := n + 2) h6 (ne2 n5 nq') nb (sa.mono (by decide)) (sb.mono (by decide)) e6 ?_
  walk_at "g"
  refine asOp_own rfl (sub_wc (n := n) hb (sp.mono (by decide)) (sq.mono (by decide)) (sp'.mono (by decide)) (sq'.mono (by decide)) q0 q0' fun x7 y7 h7 => ?_)
  obtain ⟨s7, t7⟩ := h7.sz (ne2 nq nq') sdif sqq
  have cc7 := h7.cross
  have n7 : y7 ≠ 0 := by have := h7.pos; omega
  walk_at "g"
  refine asOp_own rfl (mul_wc (n := n) hb (s7.mono (by decide)) (t7.mono (by decide)) (sp'.mono (by decide)) (sq'.mono (by decide)) h7.pos q0' fun x8 y8 h8 => ?_)
  walk_at "g"
  refine asZ_of ((slef.sub srig).ok sa' (by decide)) ?_
  walk_at "g"
  refine asZ_of (sfar.ok sb' (by decide)) ?_
  walk_at "g"
  have e8 : (x7 * p') * (far * b') = ((lef - rig) * a') * (y7 * q') := Int.eq_of_mul_eq_mul_left (ne2 nq nq') (by subst hfar hlef hrig; grind)
  refine is_wc (n := n + 2) h8 (ne2 n7 nq') (ne2 nfar nb') (((slef.sub srig).mul sa').mono (by decide)) ((sfar.mul sb').mono (by decide)) e8 ?_
  walk_at "g"
  refine asOp_own rfl (add_wc (n := n) hb (sp.mono (by decide)) (sq.mono (by decide)) (sp'.mono (by decide)) (sq'.mono (by decide)) q0 q0' fun x9 y9 h9 => ?_)
  obtain ⟨s9, t9⟩ := h9.sz (ne2 nq nq') ssum sqq
  walk_at "g"
  refine asOp_own rfl (sub_wc (n := n) hb (s9.mono (by decide)) (t9.mono (by decide)) (sp'.mono (by decide)) (sq'.mono (by decide)) h9.pos q0' fun x10 y10 h10 => ?_)
  walk_at "g"
  have cc9 := h9.cross
  have n9 : y9 ≠ 0 := by have := h9.pos; omega
  have e10 : (x9 * q' - p' * y9) * b = a * (y9 * q') := Int.eq_of_mul_eq_mul_left nq (by grind)
  obtain ⟨rfl, rfl⟩ := h10.uniq l1 (ne2 n9 nq') nb e10
  refine asCmp_eq rfl rfl (eq_wc (n := n + 3) ?_)
  walk_at "g"
  rw [decide_eq_true rfl, decide_eq_true rfl]
  refine ⟨fun _ => ?_, fun z => absurd z (by decide)⟩
  refine we_bop1 (we_cmp ?_)
  walk_at "g"
  refine asOp_own rfl (mul_wc (n := n) hb (sp.mono (by decide)) (sq.mono (by decide)) (sp'.mono (by decide)) (sq'.mono (by decide)) q0 q0' fun x11 y11 h11 => ?_)
  walk_at "g"
  refine asOp_own rfl (mul_wc (n := n) hb (sp'.mono (by decide)) (sq'.mono (by decide)) (sp.mono (by decide)) (sq.mono (by decide)) q0' q0 fun x12 y12 h12 => ?_)
  obtain ⟨rfl, rfl⟩ := h11.uniq h12 (ne2 nq nq') (ne2 nq' nq) (by grind)
  refine asCmp_eq rfl rfl (eq_wc (n := n + 3) ?_)
  rw [decide_eq_true rfl, decide_eq_true rfl]
  walk_at "g"
  exact fq_d rfl h
/-- the sign of a product with squares -/
theorem gap_pos {p q p' q' a b a' b' : Int} (q0 : 0 < q) (q0' : 0 < q') (nb : b ≠ 0) (nb' : b' ≠ 0) (c1 : p * b = a * q) (c2 : p' * b' = a' * q') :
    ((a * b' - a' * b) * b * b') * (q * q') = (p * q' - p' * q) * ((b * b') * (b * b')) := by grind
theorem sign_of {x y u v : Int} (hu : 0 < u) (hv : 0 < v) (e : x * u = y * v) : (0 < x ↔ 0 < y) ∧ (x = 0 ↔ y = 0) := by
  constructor
  · constructor
    · intro h
      have : 0 < x * u := Int.mul_pos h hu
      rw [e, Int.mul_comm] at this
      exact Int.pos_of_mul_pos_right this hv
    · intro h
      have : 0 < y * v := Int.mul_pos h hv
      rw [← e, Int.mul_comm] at this
      exact Int.pos_of_mul_pos_right this hu
  · constructor
    · intro h
      rw [h, Int.zero_mul] at e
      rcases Int.mul_eq_zero.mp e.symm with e | e
      · exact e
      · omega
    · intro h
      rw [h, Int.zero_mul] at e
      rcases Int.mul_eq_zero.mp e with e | e
      · exact e
      · omega
theorem compares_wc {p q p' q' a b a' b' : Int} (x1 : ExF p q a b) (x2 : ExF p' q' a' b') (h : K (.d (.bl true)) μ) : WC1 (C (n + 3)) 17 [.d (exD p q), .d (exD p' q'), .d (.tup [.int a, .int b]), .d (.tup [.int a', .int b'])] μ K := by
  refine wc_of t17 rfl ?_
  show WS _ b17 [some (.d (exD p q)), some (.d (exD p' q')), some (.d (.tup [.int a, .int b])), some (.d (.tup [.int a', .int b'])), none] μ _
  unfold b17
  obtain ⟨l1, f1⟩ := x1
  obtain ⟨l2, f2⟩ := x2
  obtain ⟨sa, sb⟩ := f1.sz
  obtain ⟨sa', sb'⟩ := f2.sz
  have nb := f1.ne
  have nb' := f2.ne
  obtain ⟨sp, sq⟩ := l1.sz nb sa sb
  obtain ⟨sp', sq'⟩ := l2.sz nb' sa' sb'
  have q0 := l1.pos
  have q0' := l2.pos
  walk_at "g"
  refine asZ_of (sa.ok sb' (by decide)) ?_
  walk_at "g"
  refine asZ_of (sa'.ok sb (by decide)) ?_
  walk_at "g"
  refine asZ_of (((sa.mul sb').sub (sa'.mul sb)).ok sb (by decide)) ?_
  walk_at "g"
  refine asZ_of ((((sa.mul sb').sub (sa'.mul sb)).mul sb).ok sb' (by decide)) ?_
  walk_at "g"
  generalize hg : (a * b' - a' * b) * b * b' = g
  have gp := gap_pos q0 q0' nb nb' l1.cross l2.cross
  rw [hg] at gp
  have sq2 : 0 < (b * b') * (b * b') := by
    have : b * b' ≠ 0 := ne2 nb nb'
    generalize b * b' = z at this ⊢
    rcases Int.lt_or_gt_of_ne this with z | z
    · exact Int.mul_pos_of_neg_of_neg z z
    · exact Int.mul_pos z z
  have sg := sign_of (Int.mul_pos q0 q0') sq2 gp
  have eqs : (decide (p = p') && decide (q = q')) = decide (g = 0) := by
    by_cases z : g = 0
    · have z1 := sg.2.mp z
      obtain ⟨rfl, rfl⟩ := l1.uniq l2 nb nb' (by
        have hz := hg
        rw [z] at hz
        rcases Int.mul_eq_zero.mp hz with z2 | z2
        · rcases Int.mul_eq_zero.mp z2 with z3 | z3
          · omega
          · exact absurd z3 nb
        · exact absurd z2 nb')
      simp [z]
    · rw [decide_eq_false z]
      apply Bool.eq_false_iff.mpr
      intro w
      rw [Bool.and_eq_true, decide_eq_true_eq, decide_eq_true_eq] at w
      obtain ⟨rfl, rfl⟩ := w
      exact z (sg.2.mpr (by omega))
  refine asCmp_eq rfl rfl (eq_wc (n := n) ?_)
  rw [eqs]
  walk_at "g"
  refine asCmp_ne rfl rfl (eq_wc (n := n) ?_)
  rw [eqs]
  walk_at "g"
  refine same_self (n := n + 1) t9 1 (by simp [plainD, plainDs]) (by simp [dpt, dpts]) (by omega) ?_
  walk_at "g"
  refine we_meth ?_
  walk_at "g"
  refine ⟨0, 28, rfl, rfl, rfl, ?_⟩
  walk_at "g"
  refine cmp_wc (n := n + 1) (sp.mono (by decide)) (sq.mono (by decide)) (sp'.mono (by decide)) (sq'.mono (by decide)) ?_
  have cmpE : (if p * q' < p' * q then (-1 : Int) else if p' * q < p * q' then 1 else 0) = (if decide (0 < g) = true then 1 else 0) - (if decide (g < 0) = true then 1 else 0) := by
    simp only [decide_eq_true_eq]
    have h1 := sg.1
    have h2 := sg.2
    generalize p * q' = u at h1 h2 ⊢
    generalize p' * q = v at h1 h2 ⊢
    by_cases z1 : 0 < g
    · rw [if_pos z1, if_neg (show ¬ g < 0 by omega), if_neg (show ¬ u < v by omega), if_pos (show v < u by omega)]; rfl
    · by_cases z2 : g < 0
      · rw [if_neg z1, if_pos z2, if_pos (show u < v by omega)]; rfl
      · rw [if_neg z1, if_neg z2, if_neg (show ¬ u < v by omega), if_neg (show ¬ v < u by omega)]; rfl
  rw [cmpE]
  walk_at "g"
  refine same_self (n := n + 1) t9 0 rfl (by simp [dpt]) (by omega) ?_
  walk_at "g"
  rw [tidy_len rfl]
  have pa : (p = 0) = (a = 0) := by
    apply propext
    have c1 := l1.cross
    constructor
    · intro z
      rw [z, Int.zero_mul] at c1
      rcases Int.mul_eq_zero.mp c1.symm with z | z
      · exact z
      · omega
    · intro z
      rw [z, Int.zero_mul] at c1
      rcases Int.mul_eq_zero.mp c1 with z | z
      · exact z
      · exact absurd z nb
  refine fq_d rfl ?_
  have e : eqF (D.bl !eqF (D.int p) (D.int 0)) (D.bl !eqF (D.int a) (D.int 0)) = true := by simp [eqF, pa]
  rw [e]
  exact h
end
end K01

namespace K01
open PySem L2 DL
/- one step; what has one way only; a step with the choices -/
local macro_rules | `(tactic| walk_at "1s") => `(tactic| first | refine we_var rfl ?_ | refine we_con ?_ | refine wa_cons ?_ | refine wa_nil ?_ | refine asI_mk ?_ | refine asZ_mk ?_ | refine asD_mk ?_ | refine we_idx ?_ | refine asV_d ?_ | refine we_call ?_ | refine we_bin ?_ | refine asOp_int ?_ | refine we_cmp ?_ | refine asCmp_mk rfl ?_ | refine wt_cmp ?_ | refine we_blt ?_ | refine asO_mk ?_ | refine asB_mk ?_ | refine asG_mk (Nat.le_of_ble_eq_true rfl) ?_ | refine asG_mk (by decide) ?_ | refine asG_mk rfl ?_ | refine wt_val ?_ | refine wt_not ?_ | refine asW_d ?_ | refine we_glo rfl ?_ | refine we_tup ?_ | refine we_lstF ?_ | refine we_lstT ?_ | refine we_isi ?_ | refine wt_isi ?_ | refine we_not ?_ | refine we_neg ?_ | refine asNeg_int ?_ | refine we_fmt ?_ | refine we_jn1 ?_ | refine we_jn ?_ | refine wj_cons ?_ | refine wj_nil ?_ | refine asSt_mk ?_ | refine asZ_mod (by decide) ?_ | refine asZ_mul (by omega) (by omega) (by decide) ?_ | refine asZ_mulS (by omega) (by omega) (by omega) (by omega) ?_ | refine asZ_div (by decide +kernel) ?_ | refine asZ_pow (by decide +kernel) ?_ | refine asR_mk ?_ | refine as1_mk ?_ | refine asT_mk ?_ | refine asS_l ?_ | refine asS_t ?_ | refine asS_k ?_ | refine asS_s ?_ | refine wi_seq ?_ | refine wi_rng1 ?_ | refine wi_rng2 ?_ | refine wi_enum ?_ | refine we_app ?_ | refine we_sl ?_ | refine wo_none ?_ | refine wo_some ?_ | refine we_rv ?_ | refine we_dicF ?_ | refine we_fld ?_ | refine asOp_tup (Nat.le_of_ble_eq_true rfl) ?_ | refine asOp_str (by decide +kernel) ?_ | (apply asV_r; assumption) | (apply asW_r; assumption) | (apply asC_mk; assumption) | refine asF_of (fldP_d rfl rfl rfl) ?_ | refine asC_mk rfl ?_ | refine ws_set ?_ | refine kq_nx ?_ | refine kq_rt ?_ | refine ws_ret ?_ | refine ws_nil ?_ | refine ws_ex ?_ | refine ws_unp ?_ | refine ws_pass ?_ | refine kq_bk ?_ | refine kq_ct ?_ | fail)
local macro_rules | `(tactic| walk_at "1c") => `(tactic| first | refine ws_ite ?_ | refine wt_bop ?_ | refine wt_bop1 ?_ | refine wt_chain ?_ | refine we_bop ?_ | refine we_bop1 ?_ | refine we_ife ?_ | refine we_chain ?_ | refine ws_par ?_ | refine ⟨fun _ => ?_, fun h => absurd (show (false : Bool) = true from h) Bool.false_ne_true⟩ | refine ⟨fun _ => ?_, fun h => absurd (show (true : Bool) = false from h).symm Bool.false_ne_true⟩ | refine ⟨fun h => absurd (show (true : Bool) = false from h).symm Bool.false_ne_true, fun _ => ?_⟩ | refine ⟨fun h => absurd (show (false : Bool) = true from h) Bool.false_ne_true, fun _ => ?_⟩ | fail)
local macro_rules | `(tactic| walk_at "x") => `(tactic| repeat (first | refine we_var rfl ?_ | refine we_con ?_ | refine wa_cons ?_ | refine wa_nil ?_ | refine asI_mk ?_ | refine asZ_mk ?_ | refine asD_mk ?_ | refine we_idx ?_ | refine asV_d ?_ | refine we_call ?_ | refine we_bin ?_ | refine asOp_int ?_ | refine we_cmp ?_ | refine asCmp_mk rfl ?_ | refine wt_cmp ?_ | refine we_blt ?_ | refine asO_mk ?_ | refine asB_mk ?_ | refine asG_mk (Nat.le_of_ble_eq_true rfl) ?_ | refine asG_mk (by decide) ?_ | refine asG_mk rfl ?_ | refine wt_val ?_ | refine wt_not ?_ | refine asW_d ?_ | refine we_glo rfl ?_ | refine we_tup ?_ | refine we_lstF ?_ | refine we_lstT ?_ | refine we_isi ?_ | refine wt_isi ?_ | refine we_not ?_ | refine we_neg ?_ | refine asNeg_int ?_ | refine we_fmt ?_ | refine we_jn1 ?_ | refine we_jn ?_ | refine wj_cons ?_ | refine wj_nil ?_ | refine asSt_mk ?_ | refine asZ_mod (by decide) ?_ | refine asZ_mul (by omega) (by omega) (by decide) ?_ | refine asZ_mulS (by omega) (by omega) (by omega) (by omega) ?_ | refine asZ_div (by decide +kernel) ?_ | refine asZ_pow (by decide +kernel) ?_ | refine asR_mk ?_ | refine as1_mk ?_ | refine asT_mk ?_ | refine asS_l ?_ | refine asS_t ?_ | refine asS_k ?_ | refine asS_s ?_ | refine wi_seq ?_ | refine wi_rng1 ?_ | refine wi_rng2 ?_ | refine wi_enum ?_ | refine we_app ?_ | refine we_sl ?_ | refine wo_none ?_ | refine wo_some ?_ | refine we_rv ?_ | refine we_dicF ?_ | refine we_fld ?_ | refine asOp_tup (Nat.le_of_ble_eq_true rfl) ?_ | refine asOp_str (by decide +kernel) ?_ | (apply asV_r; assumption) | (apply asW_r; assumption) | (apply asC_mk; assumption) | refine asF_of (fldP_d rfl rfl rfl) ?_ | refine asC_mk rfl ?_ | fail))
local macro_rules | `(tactic| walk_at "s") => `(tactic| repeat (first | refine we_var rfl ?_ | refine we_con ?_ | refine wa_cons ?_ | refine wa_nil ?_ | refine asI_mk ?_ | refine asZ_mk ?_ | refine asD_mk ?_ | refine we_idx ?_ | refine asV_d ?_ | refine we_call ?_ | refine we_bin ?_ | refine asOp_int ?_ | refine we_cmp ?_ | refine asCmp_mk rfl ?_ | refine wt_cmp ?_ | refine we_blt ?_ | refine asO_mk ?_ | refine asB_mk ?_ | refine asG_mk (Nat.le_of_ble_eq_true rfl) ?_ | refine asG_mk (by decide) ?_ | refine asG_mk rfl ?_ | refine wt_val ?_ | refine wt_not ?_ | refine asW_d ?_ | refine we_glo rfl ?_ | refine we_tup ?_ | refine we_lstF ?_ | refine we_lstT ?_ | refine we_isi ?_ | refine wt_isi ?_ | refine we_not ?_ | refine we_neg ?_ | refine asNeg_int ?_ | refine we_fmt ?_ | refine we_jn1 ?_ | refine we_jn ?_ | refine wj_cons ?_ | refine wj_nil ?_ | refine asSt_mk ?_ | refine asZ_mod (by decide) ?_ | refine asZ_mul (by omega) (by omega) (by decide) ?_ | refine asZ_mulS (by omega) (by omega) (by omega) (by omega) ?_ | refine asZ_div (by decide +kernel) ?_ | refine asZ_pow (by decide +kernel) ?_ | refine asR_mk ?_ | refine as1_mk ?_ | refine asT_mk ?_ | refine asS_l ?_ | refine asS_t ?_ | refine asS_k ?_ | refine asS_s ?_ | refine wi_seq ?_ | refine wi_rng1 ?_ | refine wi_rng2 ?_ | refine wi_enum ?_ | refine we_app ?_ | refine we_sl ?_ | refine wo_none ?_ | refine wo_some ?_ | refine we_rv ?_ | refine we_dicF ?_ | refine we_fld ?_ | refine asOp_tup (Nat.le_of_ble_eq_true rfl) ?_ | refine asOp_str (by decide +kernel) ?_ | (apply asV_r; assumption) | (apply asW_r; assumption) | (apply asC_mk; assumption) | refine asF_of (fldP_d rfl rfl rfl) ?_ | refine asC_mk rfl ?_ | refine ws_set ?_ | refine kq_nx ?_ | refine kq_rt ?_ | refine ws_ret ?_ | refine ws_nil ?_ | refine ws_ex ?_ | refine ws_unp ?_ | refine ws_pass ?_ | refine kq_bk ?_ | refine kq_ct ?_ | fail))
local macro_rules | `(tactic| walk_at "g") => `(tactic| repeat (first | refine we_var rfl ?_ | refine we_con ?_ | refine wa_cons ?_ | refine wa_nil ?_ | refine asI_mk ?_ | refine asZ_mk ?_ | refine asD_mk ?_ | refine we_idx ?_ | refine asV_d ?_ | refine we_call ?_ | refine we_bin ?_ | refine asOp_int ?_ | refine we_cmp ?_ | refine asCmp_mk rfl ?_ | refine wt_cmp ?_ | refine we_blt ?_ | refine asO_mk ?_ | refine asB_mk ?_ | refine asG_mk (Nat.le_of_ble_eq_true rfl) ?_ | refine asG_mk (by decide) ?_ | refine asG_mk rfl ?_ | refine wt_val ?_ | refine wt_not ?_ | refine asW_d ?_ | refine we_glo rfl ?_ | refine we_tup ?_ | refine we_lstF ?_ | refine we_lstT ?_ | refine we_isi ?_ | refine wt_isi ?_ | refine we_not ?_ | refine we_neg ?_ | refine asNeg_int ?_ | refine we_fmt ?_ | refine we_jn1 ?_ | refine we_jn ?_ | refine wj_cons ?_ | refine wj_nil ?_ | refine asSt_mk ?_ | refine asZ_mod (by decide) ?_ | refine asZ_mul (by omega) (by omega) (by decide) ?_ | refine asZ_mulS (by omega) (by omega) (by omega) (by omega) ?_ | refine asZ_div (by decide +kernel) ?_ | refine asZ_pow (by decide +kernel) ?_ | refine asR_mk ?_ | refine as1_mk ?_ | refine asT_mk ?_ | refine asS_l ?_ | refine asS_t ?_ | refine asS_k ?_ | refine asS_s ?_ | refine wi_seq ?_ | refine wi_rng1 ?_ | refine wi_rng2 ?_ | refine wi_enum ?_ | refine we_app ?_ | refine we_sl ?_ | refine wo_none ?_ | refine wo_some ?_ | refine we_rv ?_ | refine we_dicF ?_ | refine we_fld ?_ | refine asOp_tup (Nat.le_of_ble_eq_true rfl) ?_ | refine asOp_str (by decide +kernel) ?_ | (apply asV_r; assumption) | (apply asW_r; assumption) | (apply asC_mk; assumption) | refine asF_of (fldP_d rfl rfl rfl) ?_ | refine asC_mk rfl ?_ | refine ws_set ?_ | refine kq_nx ?_ | refine kq_rt ?_ | refine ws_ret ?_ | refine ws_nil ?_ | refine ws_ex ?_ | refine ws_unp ?_ | refine ws_pass ?_ | refine kq_bk ?_ | refine kq_ct ?_ | refine ws_ite ?_ | refine wt_bop ?_ | refine wt_bop1 ?_ | refine wt_chain ?_ | refine we_bop ?_ | refine we_bop1 ?_ | refine we_ife ?_ | refine we_chain ?_ | refine ws_par ?_ | refine ⟨fun _ => ?_, fun h => absurd (show (false : Bool) = true from h) Bool.false_ne_true⟩ | refine ⟨fun _ => ?_, fun h => absurd (show (true : Bool) = false from h).symm Bool.false_ne_true⟩ | refine ⟨fun h => absurd (show (true : Bool) = false from h).symm Bool.false_ne_true, fun _ => ?_⟩ | refine ⟨fun h => absurd (show (false : Bool) = true from h) Bool.false_ne_true, fun _ => ?_⟩ | refine ⟨fun _ => ?_, fun h => absurd (of_decide_eq_true h) (by omega)⟩ | refine ⟨fun h => absurd (of_decide_eq_true h) (by omega), fun _ => ?_⟩ | refine ⟨fun _ => ?_, fun h => absurd (by omega) (of_decide_eq_false h)⟩ | refine ⟨fun h => absurd (by omega) (of_decide_eq_false h), fun _ => ?_⟩ | refine ⟨fun _ => ?_, fun h => absurd h (by decide +kernel)⟩ | refine ⟨fun h => absurd h (by decide +kernel), fun _ => ?_⟩ | fail))
section
variable {n : Nat} {μ : Mu} {k : Nat} {cs : List Int} {N : Int} {K : X → Mu → Prop}
theorem eqTo_plain {d : D} (h : plainD d = true) (h2 : ∀ x, d ≠ .kls x) (h3 : ∀ x, d ≠ .dic x) (h4 : ∀ x, d ≠ .kdic x) : eqTo μ (.d d) = true := by
  cases d <;> first | rfl | (cases h; done)
theorem plain_txt {z : Str} (h : z.length ≤ 1000000) : plainD (.str z) = true := by simp only [plainD, decide_eq_true h]
theorem foreign_wc {p q a b : Int} (x1 : ExF p q a b) (h : K (.d (.bl true)) μ) : WC1 (C (n + 4)) 18 [.d (exD p q), .d (.tup [.int a, .int b])] μ K := by
  refine wc_of t18 rfl ?_
  show WS _ b18 [some (.d (exD p q)), some (.d (.tup [.int a, .int b])), none, none, none, none] μ _
  unfold b18
  obtain ⟨l1, f1⟩ := x1
  obtain ⟨sa, sb⟩ := f1.sz
  have nb := f1.ne
  walk_at "g"
  refine lowest_wc (n := n + 1) (sa.mono (by decide)) (sb.mono (by decide)) nb fun u v hl => ?_
  walk_at "g"
  obtain ⟨su, sv⟩ := hl.sz nb sa sb
  have strI : ∀ {i : Int} {ν : Mu}, Sz 100 i → bltD ν false .str [.d (.int i)] = .ok (.d (.str (toString i))) ν := fun {i ν} hi => if_pos (log_of (hi.mono (by decide)))
  have ln : ∀ {i : Int}, Sz 100 i → (Str.ofString (toString i)).length ≤ 1921 := fun hi => txt_len (hi.mono (by decide))
  have lu : (Str.ofString (toString u) ++ ("/" : Str)).length ≤ 1922 := by rw [app_len]; exact Nat.add_le_add (ln su) (Nat.le_refl 1)
  have luv : (Str.ofString (toString u) ++ ("/" : Str) ++ Str.ofString (toString v)).length ≤ 3843 := by rw [app_len]; exact Nat.add_le_add lu (ln sv)
  refine asO_of (strI su) ?_
  walk_at "g"
  refine asOp_str (Nat.le_trans (Nat.add_le_add (ln su) (Nat.le_refl 1)) (by decide)) ?_
  walk_at "g"
  refine asO_of (strI sv) ?_
  walk_at "g"
  refine asOp_str (Nat.le_trans (Nat.add_le_add lu (ln sv)) (by decide)) ?_
  walk_at "g"
  refine asO_of (strI sa) ?_
  walk_at "g"
  refine we_meth ?_
  walk_at "g"
  refine ⟨0, 29, rfl, rfl, rfl, ?_⟩
  walk_at "g"
  refine written_wc (n := n + 2) ((l1.sz nb sa sb).1.mono (by decide)) ((l1.sz nb sa sb).2.mono (by decide)) fun z hz => ?_
  walk_at "g"
  refine asOp_lst (Nat.le_of_ble_eq_true rfl) ?_
  walk_at "g"
  refine ws_for ?_
  walk_at "g"
  have g1 : plainD (.str (toString a)) = true := plain_txt (Nat.le_trans (ln sa) (by decide))
  have g2 : plainD (.str z) = true := plain_txt (Nat.le_trans hz (by decide))
  have g3 : plainD (.str (Str.ofString (toString u) ++ ("/" : Str) ++ Str.ofString (toString v))) = true := plain_txt (Nat.le_trans luv (by decide))
  refine for_all [5] ?_ (fun x => plainD x = true) ?_ ?_ ?_
  · exact trivial
  · intro x hx
    simp only [List.cons_append, List.nil_append, List.mem_cons, List.not_mem_nil, or_false] at hx
    rcases hx with rfl | rfl | rfl | rfl | rfl | rfl | rfl | rfl | rfl | rfl | rfl | rfl | rfl | rfl | rfl <;> first | rfl | assumption
  · intro zs hz
    obtain ⟨y, rfl⟩ := zs1 hz
    refine kq_nx ?_
    walk_at "g"
    exact fq_d rfl h
  · intro x zs hz hx
    obtain ⟨y, rfl⟩ := zs1 hz
    refine ⟨_, rfl, ?_⟩
    refine ws_ite ?_
    refine wt_not (wt_val ?_)
    refine we_call ?_
    refine wa_cons ?_
    refine we_lstF ?_
    refine wa_cons ?_
    refine we_cmp ?_
    refine we_var rfl ?_
    refine we_var rfl ?_
    have et : eqTo μ (.d x) = true := by cases x <;> first | rfl | (cases hx; done)
    refine asCmp_eq rfl et (eqF_wc (n := n + 1) hx ?_)
    refine asB_mk ?_
    refine wa_cons ?_
    refine we_cmp ?_
    refine we_var rfl ?_
    refine we_var rfl ?_
    refine asCmp_ne rfl et (eqF_wc (n := n + 1) hx ?_)
    walk_at "g"
    refine same_self (n := n + 2) t9 1 (by simp [plainD, plainDs]) (by simp [dpt, dpts]) (by omega) ?_
    walk_at "g"
    exact ld_nx rfl rfl
end
end K01

namespace K01
open PySem L2 DL
/- one step; what has one way only; a step with the choices -/
local macro_rules | `(tactic| walk_at "1s") => `(tactic| first | refine we_var rfl ?_ | refine we_con ?_ | refine wa_cons ?_ | refine wa_nil ?_ | refine asI_mk ?_ | refine asZ_mk ?_ | refine asD_mk ?_ | refine we_idx ?_ | refine asV_d ?_ | refine we_call ?_ | refine we_bin ?_ | refine asOp_int ?_ | refine we_cmp ?_ | refine asCmp_mk rfl ?_ | refine wt_cmp ?_ | refine we_blt ?_ | refine asO_mk ?_ | refine asB_mk ?_ | refine asG_mk (Nat.le_of_ble_eq_true rfl) ?_ | refine asG_mk (by decide) ?_ | refine asG_mk rfl ?_ | refine wt_val ?_ | refine wt_not ?_ | refine asW_d ?_ | refine we_glo rfl ?_ | refine we_tup ?_ | refine we_lstF ?_ | refine we_lstT ?_ | refine we_isi ?_ | refine wt_isi ?_ | refine we_not ?_ | refine we_neg ?_ | refine asNeg_int ?_ | refine we_fmt ?_ | refine we_jn1 ?_ | refine we_jn ?_ | refine wj_cons ?_ | refine wj_nil ?_ | refine asSt_mk ?_ | refine asZ_mod (by decide) ?_ | refine asZ_mul (by omega) (by omega) (by decide) ?_ | refine asZ_mulS (by omega) (by omega) (by omega) (by omega) ?_ | refine asZ_div (by decide +kernel) ?_ | refine asZ_pow (by decide +kernel) ?_ | refine asR_mk ?_ | refine as1_mk ?_ | refine asT_mk ?_ | refine asS_l ?_ | refine asS_t ?_ | refine asS_k ?_ | refine asS_s ?_ | refine wi_seq ?_ | refine wi_rng1 ?_ | refine wi_rng2 ?_ | refine wi_enum ?_ | refine we_app ?_ | refine we_sl ?_ | refine wo_none ?_ | refine wo_some ?_ | refine we_rv ?_ | refine we_dicF ?_ | refine we_fld ?_ | refine asOp_tup (Nat.le_of_ble_eq_true rfl) ?_ | refine asOp_str (by decide +kernel) ?_ | refine asOp_lst (Nat.le_of_ble_eq_true rfl) ?_ | (apply asV_r; assumption) | (apply asW_r; assumption) | (apply asC_mk; assumption) | refine asF_of (fldP_d rfl rfl rfl) ?_ | refine asC_mk rfl ?_ | refine ws_set ?_ | refine kq_nx ?_ | refine kq_rt ?_ | refine ws_ret ?_ | refine ws_nil ?_ | refine ws_ex ?_ | refine ws_unp ?_ | refine ws_pass ?_ | refine kq_bk ?_ | refine kq_ct ?_ | fail)
local macro_rules | `(tactic| walk_at "1c") => `(tactic| first | refine ws_ite ?_ | refine wt_bop ?_ | refine wt_bop1 ?_ | refine wt_chain ?_ | refine we_bop ?_ | refine we_bop1 ?_ | refine we_ife ?_ | refine we_chain ?_ | refine ws_par ?_ | refine ⟨fun _ => ?_, fun h => absurd (show (false : Bool) = true from h) Bool.false_ne_true⟩ | refine ⟨fun _ => ?_, fun h => absurd (show (true : Bool) = false from h).symm Bool.false_ne_true⟩ | refine ⟨fun h => absurd (show (true : Bool) = false from h).symm Bool.false_ne_true, fun _ => ?_⟩ | refine ⟨fun h => absurd (show (false : Bool) = true from h) Bool.false_ne_true, fun _ => ?_⟩ | fail)
local macro_rules | `(tactic| walk_at "x") => `(tactic| repeat (first | refine we_var rfl ?_ | refine we_con ?_ | refine wa_cons ?_ | refine wa_nil ?_ | refine asI_mk ?_ | refine asZ_mk ?_ | refine asD_mk ?_ | refine we_idx ?_ | refine asV_d ?_ | refine we_call ?_ | refine we_bin ?_ | refine asOp_int ?_ | refine we_cmp ?_ | refine asCmp_mk rfl ?_ | refine wt_cmp ?_ | refine we_blt ?_ | refine asO_mk ?_ | refine asB_mk ?_ | refine asG_mk (Nat.le_of_ble_eq_true rfl) ?_ | refine asG_mk (by decide) ?_ | refine asG_mk rfl ?_ | refine wt_val ?_ | refine wt_not ?_ | refine asW_d ?_ | refine we_glo rfl ?_ | refine we_tup ?_ | refine we_lstF ?_ | refine we_lstT ?_ | refine we_isi ?_ | refine wt_isi ?_ | refine we_not ?_ | refine we_neg ?_ | refine asNeg_int ?_ | refine we_fmt ?_ | refine we_jn1 ?_ | refine we_jn ?_ | refine wj_cons ?_ | refine wj_nil ?_ | refine asSt_mk ?_ | refine asZ_mod (by decide) ?_ | refine asZ_mul (by omega) (by omega) (by decide) ?_ | refine asZ_mulS (by omega) (by omega) (by omega) (by omega) ?_ | refine asZ_div (by decide +kernel) ?_ | refine asZ_pow (by decide +kernel) ?_ | refine asR_mk ?_ | refine as1_mk ?_ | refine asT_mk ?_ | refine asS_l ?_ | refine asS_t ?_ | refine asS_k ?_ | refine asS_s ?_ | refine wi_seq ?_ | refine wi_rng1 ?_ | refine wi_rng2 ?_ | refine wi_enum ?_ | refine we_app ?_ | refine we_sl ?_ | refine wo_none ?_ | refine wo_some ?_ | refine we_rv ?_ | refine we_dicF ?_ | refine we_fld ?_ | refine asOp_tup (Nat.le_of_ble_eq_true rfl) ?_ | refine asOp_str (by decide +kernel) ?_ | refine asOp_lst (Nat.le_of_ble_eq_true rfl) ?_ | (apply asV_r; assumption) | (apply asW_r; assumption) | (apply asC_mk; assumption) | refine asF_of (fldP_d rfl rfl rfl) ?_ | refine asC_mk rfl ?_ | fail))
local macro_rules | `(tactic| walk_at "s") => `(tactic| repeat (first | refine we_var rfl ?_ | refine we_con ?_ | refine wa_cons ?_ | refine wa_nil ?_ | refine asI_mk ?_ | refine asZ_mk ?_ | refine asD_mk ?_ | refine we_idx ?_ | refine asV_d ?_ | refine we_call ?_ | refine we_bin ?_ | refine asOp_int ?_ | refine we_cmp ?_ | refine asCmp_mk rfl ?_ | refine wt_cmp ?_ | refine we_blt ?_ | refine asO_mk ?_ | refine asB_mk ?_ | refine asG_mk (Nat.le_of_ble_eq_true rfl) ?_ | refine asG_mk (by decide) ?_ | refine asG_mk rfl ?_ | refine wt_val ?_ | refine wt_not ?_ | refine asW_d ?_ | refine we_glo rfl ?_ | refine we_tup ?_ | refine we_lstF ?_ | refine we_lstT ?_ | refine we_isi ?_ | refine wt_isi ?_ | refine we_not ?_ | refine we_neg ?_ | refine asNeg_int ?_ | refine we_fmt ?_ | refine we_jn1 ?_ | refine we_jn ?_ | refine wj_cons ?_ | refine wj_nil ?_ | refine asSt_mk ?_ | refine asZ_mod (by decide) ?_ | refine asZ_mul (by omega) (by omega) (by decide) ?_ | refine asZ_mulS (by omega) (by omega) (by omega) (by omega) ?_ | refine asZ_div (by decide +kernel) ?_ | refine asZ_pow (by decide +kernel) ?_ | refine asR_mk ?_ | refine as1_mk ?_ | refine asT_mk ?_ | refine asS_l ?_ | refine asS_t ?_ | refine asS_k ?_ | refine asS_s ?_ | refine wi_seq ?_ | refine wi_rng1 ?_ | refine wi_rng2 ?_ | refine wi_enum ?_ | refine we_app ?_ | refine we_sl ?_ | refine wo_none ?_ | refine wo_some ?_ | refine we_rv ?_ | refine we_dicF ?_ | refine we_fld ?_ | refine asOp_tup (Nat.le_of_ble_eq_true rfl) ?_ | refine asOp_str (by decide +kernel) ?_ | refine asOp_lst (Nat.le_of_ble_eq_true rfl) ?_ | (apply asV_r; assumption) | (apply asW_r; assumption) | (apply asC_mk; assumption) | refine asF_of (fldP_d rfl rfl rfl) ?_ | refine asC_mk rfl ?_ | refine ws_set ?_ | refine kq_nx ?_ | refine kq_rt ?_ | refine ws_ret ?_ | refine ws_nil ?_ | refine ws_ex ?_ | refine ws_unp ?_ | refine ws_pass ?_ | refine kq_bk ?_ | refine kq_ct ?_ | fail))
local macro_rules | `(tactic| walk_at "g") => `(tactic| repeat (first | refine we_var rfl ?_ | refine we_con ?_ | refine wa_cons ?_ | refine wa_nil ?_ | refine asI_mk ?_ | refine asZ_mk ?_ | refine asD_mk ?_ | refine we_idx ?_ | refine asV_d ?_ | refine we_call ?_ | refine we_bin ?_ | refine asOp_int ?_ | refine we_cmp ?_ | refine asCmp_mk rfl ?_ | refine wt_cmp ?_ | refine we_blt ?_ | refine asO_mk ?_ | refine asB_mk ?_ | refine asG_mk (Nat.le_of_ble_eq_true rfl) ?_ | refine asG_mk (by decide) ?_ | refine asG_mk rfl ?_ | refine wt_val ?_ | refine wt_not ?_ | refine asW_d ?_ | refine we_glo rfl ?_ | refine we_tup ?_ | refine we_lstF ?_ | refine we_lstT ?_ | refine we_isi ?_ | refine wt_isi ?_ | refine we_not ?_ | refine we_neg ?_ | refine asNeg_int ?_ | refine we_fmt ?_ | refine we_jn1 ?_ | refine we_jn ?_ | refine wj_cons ?_ | refine wj_nil ?_ | refine asSt_mk ?_ | refine asZ_mod (by decide) ?_ | refine asZ_mul (by omega) (by omega) (by decide) ?_ | refine asZ_mulS (by omega) (by omega) (by omega) (by omega) ?_ | refine asZ_div (by decide +kernel) ?_ | refine asZ_pow (by decide +kernel) ?_ | refine asR_mk ?_ | refine as1_mk ?_ | refine asT_mk ?_ | refine asS_l ?_ | refine asS_t ?_ | refine asS_k ?_ | refine asS_s ?_ | refine wi_seq ?_ | refine wi_rng1 ?_ | refine wi_rng2 ?_ | refine wi_enum ?_ | refine we_app ?_ | refine we_sl ?_ | refine wo_none ?_ | refine wo_some ?_ | refine we_rv ?_ | refine we_dicF ?_ | refine we_fld ?_ | refine asOp_tup (Nat.le_of_ble_eq_true rfl) ?_ | refine asOp_str (by decide +kernel) ?_ | refine asOp_lst (Nat.le_of_ble_eq_true rfl) ?_ | (apply asV_r; assumption) | (apply asW_r; assumption) | (apply asC_mk; assumption) | refine asF_of (fldP_d rfl rfl rfl) ?_ | refine asC_mk rfl ?_ | refine ws_set ?_ | refine kq_nx ?_ | refine kq_rt ?_ | refine ws_ret ?_ | refine ws_nil ?_ | refine ws_ex ?_ | refine ws_unp ?_ | refine ws_pass ?_ | refine kq_bk ?_ | refine kq_ct ?_ | refine ws_ite ?_ | refine wt_bop ?_ | refine wt_bop1 ?_ | refine wt_chain ?_ | refine we_bop ?_ | refine we_bop1 ?_ | refine we_ife ?_ | refine we_chain ?_ | refine ws_par ?_ | refine ⟨fun _ => ?_, fun h => absurd (show (false : Bool) = true from h) Bool.false_ne_true⟩ | refine ⟨fun _ => ?_, fun h => absurd (show (true : Bool) = false from h).symm Bool.false_ne_true⟩ | refine ⟨fun h => absurd (show (true : Bool) = false from h).symm Bool.false_ne_true, fun _ => ?_⟩ | refine ⟨fun h => absurd (show (false : Bool) = true from h) Bool.false_ne_true, fun _ => ?_⟩ | refine ⟨fun _ => ?_, fun h => absurd (of_decide_eq_true h) (by omega)⟩ | refine ⟨fun h => absurd (of_decide_eq_true h) (by omega), fun _ => ?_⟩ | refine ⟨fun _ => ?_, fun h => absurd (by omega) (of_decide_eq_false h)⟩ | refine ⟨fun h => absurd (by omega) (of_decide_eq_false h), fun _ => ?_⟩ | refine ⟨fun _ => ?_, fun h => absurd h (by decide +kernel)⟩ | refine ⟨fun h => absurd h (by decide +kernel), fun _ => ?_⟩ | fail))
section
variable {n : Nat} {μ : Mu} {k : Nat} {cs : List Int} {N : Int} {K : X → Mu → Prop}
theorem half : Frac 1 2 := ⟨by decide +kernel, by decide +kernel, by decide +kernel, by decide +kernel, by decide⟩
theorem law_wc (hl : cs.length ≤ 1000) (h : ∀ μ, K (.d (.bl true)) μ) : WC1 (C (n + 8)) 19 [.d (.kls (cs.map D.int))] [] K := by
  refine wc_of (f := f19.code) rfl rfl ?_
  show WS _ b19 [some (.d (.kls (cs.map D.int))), none, none, none, none, none, none] [] _
  unfold b19
  walk_at "g"
  refine store_wc (n := n + 6) t3 hl fun nd s0 => ?_
  walk_at "g"
  refine ratio_wc (n := n + 1) (k := 0) (cs := cs) (N := 0) (μ := [some nd]) s0 (by decide) fun a b nd1 f1 s1 => ?_
  walk_at "g"
  refine second_wc (n := n) f1 s1 (by decide) fun a' b' nd2 f2 s2 => ?_
  walk_at "g"
  have hb2 : nd2.below 1 = true := by
    obtain ⟨p, q, c, r, g, _⟩ := s2
    have g : some nd2 = some (stN cs p q c r) := by simpa using g
    cases g
    rfl
  obtain ⟨sa, sb⟩ := f1.sz
  obtain ⟨sa', sb'⟩ := f2.sz
  refine mkEx (n := n + 4) ?_
  walk_at "g"
  refine ⟨_, _, rfl, sa.mono (by decide), sb.mono (by decide), f1.ne, fun p q l1 => ?_⟩
  walk_at "g"
  refine mkEx (n := n + 4) ?_
  walk_at "g"
  refine ⟨_, _, rfl, sa'.mono (by decide), sb'.mono (by decide), f2.ne, fun p' q' l2 => ?_⟩
  walk_at "g"
  have x1 : ExF p q a b := ⟨l1, f1⟩
  have x2 : ExF p' q' a' b' := ⟨l2, f2⟩
  show WS _ _ _ [some nd2, none, none] _
  have hb : belowAll 3 [some nd2, none, none] = true := by
    have : nd2.below 3 = true := by
      obtain ⟨p, q, c, r, g, _⟩ := s2
      have g : some nd2 = some (stN cs p q c r) := by simpa using g
      cases g
      rfl
    show (nd2.below 3 && (true && (true && true))) = true
    rw [this]
    rfl
  refine ws_for ?_
  walk_at "g"
  refine for_rall [6] 2 ?_ ?_ ?_
  · exact ⟨Nat.succ_pos 2, trivial⟩
  · intro zs hz
    obtain ⟨y, rfl⟩ := zs1 hz
    refine kq_nx ?_
    walk_at "g"
    exact ⟨h _⟩
  · intro j zs hj hz
    obtain ⟨y, rfl⟩ := zs1 hz
    show WS _ _ [some (.d (.kls (cs.map D.int))), some (.r 0), some (.d (.tup [.int a, .int b])), some (.d (.tup [.int a', .int b'])), some (.d (exD p q)), some (.d (exD p' q')), some (.d (.int (0 + (j : Int))))] _ _
    walk_at "g"
    refine reckons_wc (n := n + 1) hb x1 x2 ?_
    walk_at "g"
    refine reckons_wc (n := n + 1) hb x2 x1 ?_
    walk_at "g"
    refine compares_wc (n := n + 4) x1 x2 ?_
    walk_at "g"
    refine compares_wc (n := n + 4) x2 x1 ?_
    walk_at "g"
    refine foreign_wc (n := n + 3) x1 ?_
    walk_at "g"
    refine foreign_wc (n := n + 3) x2 ?_
    walk_at "g"
    refine mkEx (n := n + 4) ?_
    walk_at "g"
    refine ⟨_, _, rfl, half.sz.1.mono (by decide), half.sz.2.mono (by decide), half.ne, fun p0 q0 l0 => ?_⟩
    walk_at "g"
    have hb4 : belowAll 4 [some nd2, none, none, none] = true := by
      have : nd2.below 4 = true := by
        obtain ⟨p, q, c, r, g, _⟩ := s2
        have g : some nd2 = some (stN cs p q c r) := by simpa using g
        cases g
        rfl
      show (nd2.below 4 && (true && (true && (true && true)))) = true
      rw [this]
      rfl
    refine foreign_wc (n := n + 3) ⟨l0, half⟩ ?_
    walk_at "g"
    refine reckons_wc (n := n + 1) hb4 x1 x1 ?_
    walk_at "g"
    refine compares_wc (n := n + 4) x1 x1 ?_
    walk_at "g"
    refine is_wc (n := n + 4) l1 f1.ne f1.ne (sa.mono (by decide)) (sb.mono (by decide)) rfl ?_
    walk_at "g"
    refine is_wc (n := n + 4) l2 f2.ne f2.ne (sa'.mono (by decide)) (sb'.mono (by decide)) rfl ?_
    walk_at "g"
    exact ld_nxA (m := [none]) rfl rfl hb rfl
theorem law_true (ns : List Int) (h : ns.length ≤ 1000) : ∃ μ, callD L.tab WW (8 + 1) 19 [.d (.kls (ns.map D.int))] [] = .ok (.d (.bl true)) μ := by
  obtain ⟨x, μ, e, rfl⟩ := law_wc (n := 1) (K := fun x _ => x = .d (.bl true)) h fun _ => rfl
  exact ⟨μ, e⟩
end
end K01

open PySem PySem.W PySem.Calls PyProof.Rows
theorem PySem.Challenge.cw_tollbooks_k01_fractions_add_and_compare_holds : PySem.Challenge.rw_tollbooks_k01_fractions_add_and_compare.Holds := by
  w_on; o_law
  refine HandSHeadRun.head_any (r := OpenLaw.row PySem.Challenge.rw_tollbooks_k01_fractions_add_and_compare) (q := view (OpenLaw.row PySem.Challenge.rw_tollbooks_k01_fractions_add_and_compare).prog [25]) (H := K01.hk) (ob := K01.ob) (M := 5000) (loose := K01.loose) (d := HandSHeadRun.topDef (OpenLaw.row PySem.Challenge.rw_tollbooks_k01_fractions_add_and_compare).prog 25) (kwd := []) K01.ob_eq
    (by kernel_rfl) (fun s => by kernel_rfl) K01.run (by kernel_rfl) (by kernel_rfl) (by kernel_rfl) (by rfl) (by first | assumption | decide +kernel) (by decide +kernel) ⟨rfl, rfl, rfl, rfl, rfl, by decide +kernel⟩ ?hw ?hc
  case hw => w_witness2
  case hc => exact DL.law_walk (m := 63) (n := 8) (jl := 19) (dp := 7) (L := K01.L) (al := K01.f19) (x := "_law_script") (W := K01.WW) rfl (by decide) (by kernel_rfl) ⟨rfl, by decide, by decide⟩ K01.L_ok rfl rfl (by kernel_rfl) rfl rfl rfl (fun ns h _ => K01.law_true ns (Nat.le_trans h (by decide)))
